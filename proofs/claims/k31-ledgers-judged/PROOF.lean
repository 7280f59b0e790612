import PyProof.Rows.All
import Wide.All
import OpenK.AllK
import Wide.FinOn
import HandS.Words
import KE.KLam
import HandS.ForMost
import HandS.ForExc
import HandS.IsInst
import HandS.Deep
import HandS.TupAny
import HandS.TupMul
import HandS.Conv
import HandS.Wide
import KE.KDictKeyed
import HandS.Zip
import HandS.Style
import KE.SortData
import HandS.ExcValue
import PyProof.TupleOfSeq
import KE.DataCmp
import KE.KDictPairs
import HandS.DictEq
import HandS.DictSubView
import KE.KDictSum
import KE.GoesMore
import PyProof.EnumMake
import HandS.Iter
import HandS.Text
import HandS.Exc
import HandS.ExcInit
import HandS.ExcOwn
import HandS.ExcIs
import KE.KExcIs
import HandS.TupSets
import KE.KeyNested
import PyProof.ReprBulk
import PySem.Challenge.RW_wheelfill_k31_ledgers_judged
set_option Elab.async false
set_option linter.all false
set_option maxRecDepth 100000
set_option maxHeartbeats 4000000
namespace DL
open PySem PySem.Spec PyProof.Rows L2
structure LamD where
  q : Str
  ps : Arguments
  body : Expr
  sc : Scope
abbrev tabs : List (Addr × Str) := []
def lamD : Nat → Option LamD := fun _ => none
end DL
namespace DL
open PySem PySem.Spec PyProof.Rows L2
abbrev D := PyData
/-- a text's key, a tuple's -/
def keyD : D → Option NestedKey
  | .none => some .none
  | .bool b => some (.num (if b then 1 else 0))
  | .int i => some (.num i)
  | .str x => some (.text x)
  | .tuple ds => (keyDs ds).map .tup
  | .list _ => none
  | .dict _ => none
where keyDs : List D → Option (List NestedKey)
  | [] => some []
  | d :: ds => match keyD d, keyDs ds with
    | some k, some ks => some (k :: ks)
    | _, _ => none
/-- the fixed things: the written part, the world, the classes by name -/
structure Bs where
  P : Program
  K : PySem.W.Frag
  w : World
  cls : Str → Option Addr
/-- a dict with tuple keys, by its own object alone -/
abbrev NL := Obj × List (NestedKey × Addr × V)
def RawN (B : Bs) (a : Addr) (ks : NL) (h : Heap) : Prop :=
  (a == sysModules) = false ∧ ks.2.length ≤ sizeLine ∧ ∃ xs : List (NestedKey × Addr × Value), Paired (fun p q => p.1 = q.1 ∧ p.2.1 = q.2.1 ∧ RelV p.2.2 q.2.2) ks.2 xs ∧
    ∃ o es ep, o = ks.1 ∧ h.get? a = some o ∧ o.ExactDict ∧ o.data = .dict es ep ∧ es.toList = xs.map (entryOfKey (nestedKind B.P B.w)) ∧ (xs.map (·.1)).Nodup
def dN (B : Bs) (a : Addr) (ks : NL) : HO := .ext (RawN B a ks)
/-- what is a tuple -/
def isTu : HO → Bool
  | .tup _ => true
  | .frz _ (.tup _) => true
  | .frz _ (.own _) => true
  | _ => false
/-- what stands at a: a tuple, a tuple whose object is known, a written one -/
def Tp (K : PySem.W.Frag) (H : Hp) (a : Addr) (xs : List V) : Prop :=
  (H a = some (.tup xs) ∨ ∃ o, H a = some (.frz o (.tup xs))) ∨
    ∃ (o : Obj) (its : Array Value) (n : Nat), K.lookup a = some o ∧ o.cls = .type "tuple" ∧ o.data = .seq its n ∧ its.size ≤ sizeLine ∧ Vals xs its.toList
theorem Tp.of {K : PySem.W.Frag} {H : Hp} {a : Addr} {xs : List V} (h : H a = some (.tup xs)) : Tp K H a xs := .inl (.inl h)
theorem Tp.sq {K : PySem.W.Frag} {H : Hp} {a : Addr} {xs : List V} (h : Tp K H a xs) : SqT K H a xs := by
  rcases h with h | h
  · exact .inl h
  · exact .inr h
/-- a tuple whose own object is plain -/
def Pl (H : Hp) (a : Addr) (xs : List V) : Prop := ∃ o, H a = some (.frz o (.tup xs)) ∧ o.dict = none
/-- a dict with plain keys, not empty -/
def KD (H : Hp) (a : Addr) (ks : List (Key × V)) : Prop := H a = some (.dK ks) ∧ ks ≠ []
mutual
/-- the value v stands for the data d; no list or dict of it stands where Av says -/
inductive Rp (B : Bs) (Av : Addr → Prop) (H : Hp) : V → D → Prop
  | non : Rp B Av H .non .none
  | bl (b : Bool) : Rp B Av H (.bl b) (.bool b)
  | int (i : Int) : Rp B Av H (.int i) (.int i)
  | str (x : Str) : Rp B Av H (.str x) (.str x)
  | lst {a : Addr} {xs : List V} {ds : List D} (h : H a = some (.lst xs)) (n : ¬ Av a) (r : RpL B Av H xs ds) : Rp B Av H (.ref a) (.list ds)
  | tup {a : Addr} {xs : List V} {ds : List D} (h : Tp B.K H a xs) (r : RpL B Av H xs ds) : Rp B Av H (.ref a) (.tuple ds)
  | dic {a : Addr} {ks : List (Key × V)} {kvs : List (D × D)} (h : KD H a ks) (n : ¬ Av a) (r : RpM B Av H (ks.map fun p => (kV p.1, p.2)) kvs) : Rp B Av H (.ref a) (.dict kvs)
  | dct {a : Addr} {ks : NL} {kvs : List (D × D)} (h : H a = some (dN B a ks)) (n : ¬ Av a) (e : kvs.map (fun p => keyD p.1) = ks.2.map (fun p => some p.1))
      (r : RpM B Av H (ks.2.map fun p => (.ref p.2.1, p.2.2)) kvs) : Rp B Av H (.ref a) (.dict kvs)
inductive RpL (B : Bs) (Av : Addr → Prop) (H : Hp) : List V → List D → Prop
  | nil : RpL B Av H [] []
  | cons {v : V} {d : D} {vs : List V} {ds : List D} (h : Rp B Av H v d) (t : RpL B Av H vs ds) : RpL B Av H (v :: vs) (d :: ds)
inductive RpM (B : Bs) (Av : Addr → Prop) (H : Hp) : List (V × V) → List (D × D) → Prop
  | nil : RpM B Av H [] []
  | cons {k v : V} {kd d : D} {vs : List (V × V)} {ds : List (D × D)} (h1 : Rp B Av H k kd) (h2 : Rp B Av H v d) (t : RpM B Av H vs ds) : RpM B Av H ((k, v) :: vs) ((kd, d) :: ds)
end
/-- tuples stay, and what is not in Av -/
structure Kp (Av : Addr → Prop) (H H' : Hp) : Prop where
  tup : ∀ a u, isTu u = true → H a = some u → H' a = some u
  all : ∀ a o, H a = some o → ¬ Av a → H' a = some o
section
variable {B : Bs} {Av Av' : Addr → Prop} {H H' : Hp}
theorem Tp.kp {K : PySem.W.Frag} (k : Kp Av H H') {a : Addr} {xs : List V} (h : Tp K H a xs) : Tp K H' a xs := by
  rcases h with (h | ⟨o, h⟩) | h
  · exact .inl (.inl (k.tup _ _ rfl h))
  · exact .inl (.inr ⟨o, k.tup _ _ rfl h⟩)
  · exact .inr h
mutual
theorem Rp.kp (k : Kp Av H H') : ∀ {v : V} {d : D}, Rp B Av H v d → Rp B Av H' v d
  | _, _, .non => .non
  | _, _, .bl b => .bl b
  | _, _, .int i => .int i
  | _, _, .str x => .str x
  | _, _, .lst h n r => .lst (k.all _ _ h n) n (RpL.kp k r)
  | _, _, .tup h r => .tup (h.kp k) (RpL.kp k r)
  | _, _, .dic h n r => .dic ⟨k.all _ _ h.1 n, h.2⟩ n (RpM.kp k r)
  | _, _, .dct h n e r => .dct (k.all _ _ h n) n e (RpM.kp k r)
theorem RpL.kp (k : Kp Av H H') : ∀ {v : List V} {d : List D}, RpL B Av H v d → RpL B Av H' v d
  | _, _, .nil => .nil
  | _, _, .cons h t => .cons (Rp.kp k h) (RpL.kp k t)
theorem RpM.kp (k : Kp Av H H') : ∀ {v : List (V × V)} {d : List (D × D)}, RpM B Av H v d → RpM B Av H' v d
  | _, _, .nil => .nil
  | _, _, .cons h g t => .cons (Rp.kp k h) (Rp.kp k g) (RpM.kp k t)
end
mutual
theorem Rp.mono (k : ∀ a, Av' a → Av a) : ∀ {v : V} {d : D}, Rp B Av H v d → Rp B Av' H v d
  | _, _, .non => .non
  | _, _, .bl b => .bl b
  | _, _, .int i => .int i
  | _, _, .str x => .str x
  | _, _, .lst h n r => .lst h (fun z => n (k _ z)) (RpL.mono k r)
  | _, _, .tup h r => .tup h (RpL.mono k r)
  | _, _, .dic h n r => .dic h (fun z => n (k _ z)) (RpM.mono k r)
  | _, _, .dct h n e r => .dct h (fun z => n (k _ z)) e (RpM.mono k r)
theorem RpL.mono (k : ∀ a, Av' a → Av a) : ∀ {v : List V} {d : List D}, RpL B Av H v d → RpL B Av' H v d
  | _, _, .nil => .nil
  | _, _, .cons h t => .cons (Rp.mono k h) (RpL.mono k t)
theorem RpM.mono (k : ∀ a, Av' a → Av a) : ∀ {v : List (V × V)} {d : List (D × D)}, RpM B Av H v d → RpM B Av' H v d
  | _, _, .nil => .nil
  | _, _, .cons h g t => .cons (Rp.mono k h) (Rp.mono k g) (RpM.mono k t)
end
end
/-- nothing in it that could change -/
def hard : D → Bool
  | .none | .bool _ | .int _ | .str _ => true
  | .list _ => false
  | .tuple ds => hardL ds
  | .dict _ => false
where hardL : List D → Bool
  | [] => true
  | d :: ds => hard d && hardL ds
section
variable {B : Bs} {Av Av' : Addr → Prop} {H H' : Hp}
mutual
theorem Rp.hard : ∀ {v : V} {d : D}, Rp B Av H v d → hard d = true → Rp B Av' H v d
  | _, _, .non, _ => .non
  | _, _, .bl b, _ => .bl b
  | _, _, .int i, _ => .int i
  | _, _, .str x, _ => .str x
  | _, _, .lst _ _ _, h => by simp [DL.hard] at h
  | _, _, .tup h r, q => .tup h (RpL.hard r (by simpa [DL.hard] using q))
  | _, _, .dic _ _ _, h => by simp [DL.hard] at h
  | _, _, .dct _ _ _ _, h => by simp [DL.hard] at h
theorem RpL.hard : ∀ {v : List V} {d : List D}, RpL B Av H v d → hard.hardL d = true → RpL B Av' H v d
  | _, _, .nil, _ => .nil
  | _, _, .cons h t, q => by
    simp only [DL.hard.hardL, Bool.and_eq_true] at q
    exact .cons (Rp.hard h q.1) (RpL.hard t q.2)
end
theorem RpL.len : ∀ {v : List V} {d : List D}, RpL B Av H v d → v.length = d.length
  | _, _, .nil => rfl
  | _, _, .cons _ t => by simp [RpL.len t]
theorem RpL.app : ∀ {v v' : List V} {d d' : List D}, RpL B Av H v d → RpL B Av H v' d' → RpL B Av H (v ++ v') (d ++ d')
  | _, _, _, _, .nil, h => h
  | _, _, _, _, .cons a t, h => .cons a (RpL.app t h)
theorem RpL.get : ∀ {v : List V} {d : List D} {i : Nat} {x : V}, RpL B Av H v d → v[i]? = some x → ∃ y, d[i]? = some y ∧ Rp B Av H x y
  | _, _, _, _, .nil, h => by simp at h
  | _, _, 0, _, .cons a t, h => by simp at h; subst h; exact ⟨_, rfl, a⟩
  | _, _, i + 1, x, .cons a t, h => by
    obtain ⟨y, e, r⟩ := RpL.get (i := i) (x := x) t (by simpa using h)
    exact ⟨y, by simpa using e, r⟩
theorem RpL.get' : ∀ {v : List V} {d : List D} {i : Nat} {y : D}, RpL B Av H v d → d[i]? = some y → ∃ x, v[i]? = some x ∧ Rp B Av H x y
  | _, _, _, _, .nil, h => by simp at h
  | _, _, 0, _, .cons a t, h => by simp at h; subst h; exact ⟨_, rfl, a⟩
  | _, _, i + 1, x, .cons a t, h => by
    obtain ⟨y, e, r⟩ := RpL.get' (i := i) (y := x) t (by simpa using h)
    exact ⟨y, by simpa using e, r⟩
theorem RpL.take : ∀ {v : List V} {d : List D} (n : Nat), RpL B Av H v d → RpL B Av H (v.take n) (d.take n)
  | _, _, 0, _ => by simpa using RpL.nil
  | _, _, _ + 1, .nil => by simpa using RpL.nil
  | _, _, n + 1, .cons a t => by simpa using RpL.cons a (RpL.take n t)
theorem RpL.drop : ∀ {v : List V} {d : List D} (n : Nat), RpL B Av H v d → RpL B Av H (v.drop n) (d.drop n)
  | _, _, 0, h => by simpa using h
  | _, _, _ + 1, .nil => by simpa using RpL.nil
  | _, _, n + 1, .cons a t => by simpa using RpL.drop n t
theorem RpL.ints : ∀ {v : List V} {ns : List Int}, RpL B Av H v (ns.map .int) → v = ns.map V.int
  | _, [], .nil => rfl
  | _, n :: ns, .cons a t => by
    cases a
    rw [RpL.ints (ns := ns) t]
    rfl
theorem RpL.bools : ∀ {v : List V} {ns : List Bool}, RpL B Av H v (ns.map .bool) → v = ns.map V.bl
  | _, [], .nil => rfl
  | _, n :: ns, .cons a t => by
    cases a
    rw [RpL.bools (ns := ns) t]
    rfl
mutual
theorem Rp.dp : ∀ {v : V} {d : D}, Rp B Av H v d → d.canLay0 = true → Dp B.K H v d
  | _, _, .non, _ => .non
  | _, _, .bl b, _ => .bl b
  | _, _, .int i, _ => .int i
  | _, _, .str x, _ => .str x
  | _, _, .lst h n r, q => .lst (SqL.of h) (RpL.dp r (by simpa [PyData.canLay0] using q))
  | _, _, .tup h r, q => .tup h.sq (RpL.dp r (by simpa [PyData.canLay0] using q))
  | _, _, .dic _ _ _, h => by simp [PyData.canLay0] at h
  | _, _, .dct _ _ _ _, h => by simp [PyData.canLay0] at h
theorem RpL.dp : ∀ {v : List V} {d : List D}, RpL B Av H v d → PyData.canLayAll0 d = true → DpAll B.K H v d
  | _, _, .nil, _ => .nil
  | _, _, .cons h t, q => by
    simp only [PyData.canLayAll0, Bool.and_eq_true] at q
    exact .cons (Rp.dp h q.1) (RpL.dp t q.2)
end
end
/-- values -/
inductive Val where
  | d (x : D)
  | r (v : V)
  | o (c : Str) (fs : List (Str × D))
  | p (x : D)
  | f (n : Nat)
/-- attributes of an object of one's own: data, a dict of its own, a dict of its own lists -/
inductive GF where
  | d (x : D)
  | m (kvs : List (D × D))
  | ll (kvs : List (D × List D))
/-- slots: unset, a value, a list, a dict or an object of one's own that may change -/
inductive Sl where
  | no
  | v (x : Val)
  | l (ds : List D)
  | m (kvs : List (D × D))
  | g (c : Str) (a : Addr) (fs : List (Str × GF))
  | q (c : Str) (fs : List (Str × D))
abbrev Env := List Sl
/-- an exception: its class, its fields -/
structure Exn where
  c : Str
  fs : List (Str × D)
inductive Out (S : Type) (α : Type) where
  | bad
  | ok (a : α) (s : S)
  | ex (e : Exn) (s : S)
@[reducible] def Out.bind {S α β : Type} (o : Out S α) (k : α → S → Out S β) : Out S β := match o with
  | .ok a s => k a s
  | .ex e s => .ex e s
  | .bad => .bad
/-- a state that calls change (the deck): where it stands, what stands there -/
class SI (S : Type) where
  dks : S → List Addr
  rep : S → Hp → Prop
  there : ∀ (s : S) (H : Hp) (a : Addr), rep s H → a ∈ dks s → ∃ o, H a = some o ∧ isTu o = false
  keep : ∀ (s : S) (H H' : Hp), rep s H → (∀ a ∈ dks s, H' a = H a) → (∀ a u, isTu u = true → H a = some u → H' a = some u) → rep s H'
/-- a tuple whose object is plain, a dict whose object is known -/
def PlR (B : Bs) (Av : Addr → Prop) (H : Hp) (v : V) : D → Prop
  | .tuple ds => ∃ a xs, v = .ref a ∧ Pl H a xs ∧ RpL B Av H xs ds
  | .dict kvs => ∃ a ks, v = .ref a ∧ H a = some (dN B a ks) ∧ ¬ Av a ∧ kvs.map (fun p => keyD p.1) = ks.2.map (fun p => some p.1) ∧ RpM B Av H (ks.2.map fun p => (.ref p.2.1, p.2.2)) kvs
  | _ => False
theorem PlR.kp {B : Bs} {Av : Addr → Prop} {H H' : Hp} (k : Kp Av H H') {v : V} {d : D} (h : PlR B Av H v d) : PlR B Av H' v d := by
  cases d with
  | tuple ds => obtain ⟨a, xs, e, ⟨o, h, d⟩, r⟩ := h; exact ⟨a, xs, e, ⟨o, k.tup _ _ rfl h, d⟩, RpL.kp k r⟩
  | dict kvs => obtain ⟨a, ks, e, h, n, d, r⟩ := h; exact ⟨a, ks, e, k.all _ _ h n, n, d, RpM.kp k r⟩
  | _ => exact h.elim
theorem PlR.mono {B : Bs} {Av Av' : Addr → Prop} {H : Hp} (k : ∀ a, Av' a → Av a) {v : V} {d : D} (h : PlR B Av H v d) : PlR B Av' H v d := by
  cases d with
  | tuple ds => obtain ⟨a, xs, e, h, r⟩ := h; exact ⟨a, xs, e, h, RpL.mono k r⟩
  | dict kvs => obtain ⟨a, ks, e, h, n, d, r⟩ := h; exact ⟨a, ks, e, h, fun z => n (k _ z), d, RpM.mono k r⟩
  | _ => exact h.elim
/-- a thing that never changes, by its own object -/
def fxO (ob : Obj) : HO := .frz ob (.own 0)
/-- a code object of the name q -/
def CdAt (H : Hp) (c : Addr) (q : Str) : Prop := ∃ (oc : Obj) (vs : Array Value) (t : Tok), H c = some (fxO oc) ∧ oc.data = .fields vs ∧ vs[1]? = some (.str q t)
theorem CdAt.kp {H H' : Hp} (k : ∀ a u, isTu u = true → H a = some u → H' a = some u) {c : Addr} {q : Str} : CdAt H c q → CdAt H' c q := fun ⟨oc, vs, t, e, r⟩ => ⟨oc, vs, t, k _ _ rfl e, r⟩
/-- a lambda of the program -/
def LamAt (H : Hp) (v : V) (n : Nat) : Prop := ∃ (a c : Addr) (pm ctv : Value) (L : LamD), v = .ref a ∧ lamD n = some L ∧ H a = some (fxO (PySem.W.kla_obj "<lambda>" L.q L.ps L.body L.sc [] pm c ctv)) ∧ CdAt H c L.q
theorem LamAt.kp {H H' : Hp} (k : ∀ a u, isTu u = true → H a = some u → H' a = some u) {v : V} {n : Nat} : LamAt H v n → LamAt H' v n := fun ⟨a, c, pm, ctv, L, e, l, h, d⟩ => ⟨a, c, pm, ctv, L, e, l, k _ _ rfl h, d.kp k⟩
/-- a table of code objects: each of them bears the name q -/
def TabO (H : Hp) (P : Addr) (q : Str) : Prop := ∃ ps : Array Value, H P = some (.tbl ps) ∧ TriplesOk ps.toList ∧ ∀ (pos : Pos) (cv : Value), codeAmong pos ps.toList = some cv → ∃ c, cv = .ref c ∧ CdAt H c q
theorem TabO.kp {H H' : Hp} {P : Addr} {q : Str} (e : H' P = H P) (k : ∀ a u, isTu u = true → H a = some u → H' a = some u) : TabO H P q → TabO H' P q := fun ⟨ps, h, t, r⟩ => ⟨ps, e.trans h, t, fun pos cv hc => let ⟨c, e1, e2⟩ := r pos cv hc; ⟨c, e1, e2.kp k⟩⟩
/-- values in the heap -/
def RvV (B : Bs) (Av : Addr → Prop) (H : Hp) (v : V) : Val → Prop
  | .d x => Rp B Av H v x
  | .r u => v = u
  | .o c fs => ∃ a C dx fs', v = .ref a ∧ B.cls c = some C ∧ H a = some (.ins C dx fs') ∧ ¬ Av a ∧ ∀ p ∈ fs, ∃ u, fs'.lookup p.1 = some u ∧ Rp B Av H u p.2
  | .p x => PlR B Av H v x
  | .f n => LamAt H v n
/-- .. a list or a dict of one's own, too -/
inductive RtV (B : Bs) (Av : Addr → Prop) (N : Addr → Prop) (H : Hp) : V → Val → Prop
  | of {v : V} {y : Val} (h : RvV B Av H v y) : RtV B Av N H v y
  | lst {a : Addr} {xs : List V} {ds : List D} (h : H a = some (.lst xs)) (n : ¬ N a) (r : RpL B Av H xs ds) : RtV B Av N H (.ref a) (.d (.list ds))
  | dic {a : Addr} {ks : List (Key × V)} {kvs : List (D × D)} (h : KD H a ks) (n : ¬ N a) (r : RpM B Av H (ks.map fun p => (kV p.1, p.2)) kvs) : RtV B Av N H (.ref a) (.d (.dict kvs))
  | dct {a : Addr} {ks : NL} {kvs : List (D × D)} (h : H a = some (dN B a ks)) (n : ¬ N a) (e : kvs.map (fun p => keyD p.1) = ks.2.map (fun p => some p.1))
      (r : RpM B Av H (ks.2.map fun p => (.ref p.2.1, p.2.2)) kvs) : RtV B Av N H (.ref a) (.d (.dict kvs))
theorem RvV.kp {B : Bs} {Av : Addr → Prop} {H H' : Hp} (k : Kp Av H H') {v : V} : ∀ {y : Val}, RvV B Av H v y → RvV B Av H' v y
  | .d _, h => Rp.kp k h
  | .r _, h => h
  | .o _ _, ⟨a, C, dx, fs', e, c, h, n, l⟩ => ⟨a, C, dx, fs', e, c, k.all _ _ h n, n, fun p hp => let ⟨u, e, r⟩ := l p hp; ⟨u, e, r.kp k⟩⟩
  | .p _, h => PlR.kp k h
  | .f _, h => LamAt.kp k.tup h
theorem RvV.mono {B : Bs} {Av Av' : Addr → Prop} {H : Hp} (k : ∀ a, Av' a → Av a) {v : V} : ∀ {y : Val}, RvV B Av H v y → RvV B Av' H v y
  | .d _, h => Rp.mono k h
  | .r _, h => h
  | .o _ _, ⟨a, C, dx, fs', e, c, h, n, l⟩ => ⟨a, C, dx, fs', e, c, h, fun z => n (k _ z), fun p hp => let ⟨u, e, r⟩ := l p hp; ⟨u, e, r.mono k⟩⟩
  | .p _, h => PlR.mono k h
  | .f _, h => h
end DL
namespace DL
open PySem PySem.Spec PyProof.Rows L2
/-- what stands around: the heap at the entry, what the caller keeps for itself, where the changing state stands -/
structure Gh where
  H0 : Hp
  A0 : Addr → Prop
  dks : List Addr
abbrev Sg := L2.St
abbrev Own := Nat → Option Addr
def Av (G : Gh) (own : Own) (a : Addr) : Prop := G.A0 a ∨ ∃ i, own i = some a
/-- a slot of one's own -/
def OwnAt (B : Bs) (A : Addr → Prop) (H : Hp) (a : Addr) : Sl → Prop
  | .l ds => ∃ xs, H a = some (.lst xs) ∧ RpL B A H xs ds
  | .m kvs => (∃ ks : List (Key × V), KD H a ks ∧ RpM B A H (ks.map fun p => (kV p.1, p.2)) kvs) ∨
      ∃ ks : NL, H a = some (dN B a ks) ∧ kvs.map (fun p => keyD p.1) = ks.2.map (fun p => some p.1) ∧ RpM B A H (ks.2.map fun p => (V.ref p.2.1, p.2.2)) kvs
  | .q c fs => ∃ (C dx : Addr) (vs : List (Str × V)), B.cls c = some C ∧ H a = some (.ins C dx vs) ∧ vs.map (·.1) = fs.map (·.1) ∧ RpL B A H (vs.map (·.2)) (fs.map (·.2))
  | _ => False
/-- a dict's own lists -/
inductive LLr (B : Bs) (A : Addr → Prop) (H : Hp) : List (NestedKey × Addr × V) → List (D × List D) → List Addr → Prop
  | nil : LLr B A H [] [] []
  | cons {k : NestedKey} {ka l : Addr} {xs : List V} {kd : D} {ds : List D} {ks : List (NestedKey × Addr × V)} {kvs : List (D × List D)} {ls : List Addr} (ek : keyD kd = some k) (rk : Rp B A H (.ref ka) kd) (hl : H l = some (.lst xs)) (r : RpL B A H xs ds) (t : LLr B A H ks kvs ls) :
      LLr B A H ((k, ka, .ref l) :: ks) ((kd, ds) :: kvs) (l :: ls)
/-- an attribute, and what stands behind it of its own -/
inductive GfAt (B : Bs) (A : Addr → Prop) (H : Hp) : V → GF → List Addr → Prop
  | d {v : V} {x : D} (h : Rp B A H v x) : GfAt B A H v (.d x) []
  | m {b : Addr} {kvs : List (D × D)} (h : OwnAt B A H b (.m kvs)) : GfAt B A H (.ref b) (.m kvs) [b]
  | l0 {b : Addr} (h : ∃ o, H b = some (dN B b (o, []))) : GfAt B A H (.ref b) (.ll []) [b]
  | ll {b : Addr} {ks : NL} {kvs : List (D × List D)} {ls : List Addr} (h : H b = some (dN B b ks)) (nd : (ks.2.map (·.1)).Nodup) (r : LLr B A H ks.2 kvs ls) : GfAt B A H (.ref b) (.ll kvs) (b :: ls)
inductive GsAt (B : Bs) (A : Addr → Prop) (H : Hp) : List (Str × V) → List (Str × GF) → List Addr → Prop
  | nil : GsAt B A H [] [] []
  | cons {x : Str} {v : V} {f : GF} {vs : List (Str × V)} {fs : List (Str × GF)} {g1 g2 : List Addr} (h : GfAt B A H v f g1) (t : GsAt B A H vs fs g2) : GsAt B A H ((x, v) :: vs) ((x, f) :: fs) (g1 ++ g2)
/-- an object of one's own -/
def GmAt (B : Bs) (A : Addr → Prop) (H : Hp) (a : Addr) (c : Str) (fs : List (Str × GF)) (gs : List Addr) : Prop :=
  ∃ C dx vs, B.cls c = some C ∧ H a = some (.ins C dx vs) ∧ GsAt B A H vs fs gs
section
variable {B : Bs} {A A' : Addr → Prop} {H H' : Hp}
theorem LLr.imp (f : ∀ {v : V} {d : D}, Rp B A H v d → Rp B A' H' v d) (g : ∀ {v : List V} {d : List D}, RpL B A H v d → RpL B A' H' v d) : ∀ {ks : List (NestedKey × Addr × V)} {kvs : List (D × List D)} {ls : List Addr}, (∀ l ∈ ls, ∀ o, H l = some o → H' l = some o) → LLr B A H ks kvs ls → LLr B A' H' ks kvs ls
  | _, _, _, _, .nil => .nil
  | _, _, _, k, .cons ek rk hl r t => .cons ek (f rk) (k _ (.head _) _ hl) (g r) (LLr.imp f g (fun l h => k l (.tail _ h)) t)
theorem GfAt.imp (f : ∀ {v : V} {d : D}, Rp B A H v d → Rp B A' H' v d) (g : ∀ {v : List V} {d : List D}, RpL B A H v d → RpL B A' H' v d) (m : ∀ {b : Addr} {kvs : List (D × D)}, (∀ o, H b = some o → H' b = some o) → OwnAt B A H b (.m kvs) → OwnAt B A' H' b (.m kvs)) {v : V} {x : GF} {ls : List Addr} (k : ∀ l ∈ ls, ∀ o, H l = some o → H' l = some o) (h : GfAt B A H v x ls) : GfAt B A' H' v x ls := by
  cases h with
  | d h => exact .d (f h)
  | m h => exact .m (m (k _ (.head _)) h)
  | l0 h => obtain ⟨o, h⟩ := h; exact .l0 ⟨o, k _ (.head _) _ h⟩
  | ll h nd r => exact .ll (k _ (.head _) _ h) nd (r.imp f g fun l h => k l (.tail _ h))
theorem GsAt.imp (f : ∀ {v : V} {d : D}, Rp B A H v d → Rp B A' H' v d) (g : ∀ {v : List V} {d : List D}, RpL B A H v d → RpL B A' H' v d) (m : ∀ {b : Addr} {kvs : List (D × D)}, (∀ o, H b = some o → H' b = some o) → OwnAt B A H b (.m kvs) → OwnAt B A' H' b (.m kvs)) : ∀ {vs : List (Str × V)} {fs : List (Str × GF)} {ls : List Addr}, (∀ l ∈ ls, ∀ o, H l = some o → H' l = some o) → GsAt B A H vs fs ls → GsAt B A' H' vs fs ls
  | _, _, _, _, .nil => .nil
  | _, _, _, k, .cons h t => .cons (h.imp f g m fun l z => k l (List.mem_append_left _ z)) (GsAt.imp f g m (fun l z => k l (List.mem_append_right _ z)) t)
theorem GmAt.imp (f : ∀ {v : V} {d : D}, Rp B A H v d → Rp B A' H' v d) (g : ∀ {v : List V} {d : List D}, RpL B A H v d → RpL B A' H' v d) (m : ∀ {b : Addr} {kvs : List (D × D)}, (∀ o, H b = some o → H' b = some o) → OwnAt B A H b (.m kvs) → OwnAt B A' H' b (.m kvs)) {a : Addr} {c : Str} {fs : List (Str × GF)} {ls : List Addr} (k : ∀ l, l = a ∨ l ∈ ls → ∀ o, H l = some o → H' l = some o) (h : GmAt B A H a c fs ls) : GmAt B A' H' a c fs ls := by
  obtain ⟨C, dx, vs, e, h, t⟩ := h
  exact ⟨C, dx, vs, e, k a (.inl rfl) _ h, t.imp f g m fun l z => k l (.inr z)⟩
end
/-- where slot i's object keeps its own things: the n slots' own come first -/
def gix (n i j : Nat) : Nat := n * (j + 1) + i
theorem gix_ge {n i j : Nat} : n ≤ gix n i j := by unfold gix; rw [Nat.mul_succ]; omega
def SlR (B : Bs) (A : Addr → Prop) (own : Own) (H : Hp) (σ : Sg) (i : Nat) : Sl → Prop
  | .no => True
  | .v y => ∃ u, σ[i]? = some (some u) ∧ RvV B A H u y
  | .g c a fs => ∃ gs, own i = some a ∧ σ[i]? = some (some (.ref a)) ∧ (∀ j g, gs[j]? = some g → own (gix σ.length i j) = some g) ∧ GmAt B A H a c fs gs
  | x => ∃ a, own i = some a ∧ σ[i]? = some (some (.ref a)) ∧ OwnAt B A H a x
variable {S : Type} [SI S]
structure Rel (B : Bs) (G : Gh) (own : Own) (ρ : Env) (s : S) (σ : Sg) (H : Hp) : Prop where
  wf1 : ∀ a ∈ G.dks, G.A0 a
  wf2 : ∀ a, G.A0 a → H a ≠ none
  fr : ∀ a o, G.H0 a = some o → a ∉ G.dks → H a = some o
  dk : SI.dks s = G.dks
  rs : SI.rep s H
  inj : ∀ i j a, own i = some a → own j = some a → i = j
  fre : ∀ i a, own i = some a → G.H0 a = none ∧ ¬ G.A0 a
  ont : ∀ i a, own i = some a → ∃ o, H a = some o ∧ isTu o = false
  len : ρ.length = σ.length
  sl : ∀ i x, ρ[i]? = some x → SlR B (Av G own) own H σ i x
/-- from H to H' an expression has changed nothing but the state -/
structure Stp (G : Gh) (s' : S) (H H' : Hp) : Prop where
  fr : ∀ a o, H a = some o → a ∉ G.dks → H' a = some o
  dk : SI.dks s' = G.dks
  rs : SI.rep s' H'
section
variable {B : Bs} {G : Gh} {own : Own} {ρ : Env} {s s' s'' : S} {σ : Sg} {H H' H'' : Hp}
theorem OwnAt.kp {A : Addr → Prop} (k : Kp A H H') {a : Addr} (ha : ∀ o, H a = some o → H' a = some o) : ∀ {x : Sl}, OwnAt B A H a x → OwnAt B A H' a x
  | .l _, ⟨xs, h, r⟩ => ⟨xs, ha _ h, RpL.kp k r⟩
  | .m _, .inl ⟨ks, h, r⟩ => .inl ⟨ks, ⟨ha _ h.1, h.2⟩, RpM.kp k r⟩
  | .m _, .inr ⟨ks, h, e, r⟩ => .inr ⟨ks, ha _ h, e, RpM.kp k r⟩
  | .no, h => h
  | .v _, h => h
  | .g _ _ _, h => h
  | .q _ _, ⟨C, dx, vs, hc, h, hn, r⟩ => ⟨C, dx, vs, hc, ha _ h, hn, RpL.kp k r⟩
theorem OwnAt.mono {A A' : Addr → Prop} (k : ∀ a, A' a → A a) {a : Addr} : ∀ {x : Sl}, OwnAt B A H a x → OwnAt B A' H a x
  | .l _, ⟨xs, h, r⟩ => ⟨xs, h, RpL.mono k r⟩
  | .m _, .inl ⟨ks, h, r⟩ => .inl ⟨ks, h, RpM.mono k r⟩
  | .m _, .inr ⟨ks, h, e, r⟩ => .inr ⟨ks, h, e, RpM.mono k r⟩
  | .no, h => h
  | .v _, h => h
  | .g _ _ _, h => h
  | .q _ _, ⟨C, dx, vs, hc, h, hn, r⟩ => ⟨C, dx, vs, hc, h, hn, RpL.mono k r⟩
theorem GmAt.kp {A : Addr → Prop} (k : Kp A H H') {a : Addr} {c : Str} {fs : List (Str × GF)} {gs : List Addr} (ha : ∀ l, l = a ∨ l ∈ gs → ∀ o, H l = some o → H' l = some o) (h : GmAt B A H a c fs gs) : GmAt B A H' a c fs gs :=
  h.imp (fun r => Rp.kp k r) (fun r => RpL.kp k r) (fun z r => OwnAt.kp k z r) ha
theorem GmAt.mono {A A' : Addr → Prop} (k : ∀ a, A' a → A a) {a : Addr} {c : Str} {fs : List (Str × GF)} {gs : List Addr} (h : GmAt B A H a c fs gs) : GmAt B A' H a c fs gs :=
  h.imp (fun r => Rp.mono k r) (fun r => RpL.mono k r) (fun _ r => OwnAt.mono k r) fun _ _ _ z => z
theorem gm_own {n i : Nat} {a : Addr} {gs : List Addr} (ho : own i = some a) (hg : ∀ j g, gs[j]? = some g → own (gix n i j) = some g) (l : Addr) (h : l = a ∨ l ∈ gs) : ∃ j, own j = some l := by
  rcases h with rfl | h
  · exact ⟨i, ho⟩
  · obtain ⟨j, hj, e⟩ := List.mem_iff_getElem.mp h
    exact ⟨_, hg j l (by rw [List.getElem?_eq_getElem hj, e])⟩
theorem Rel.dkA (R : Rel B G own ρ s σ H) : ∀ a ∈ G.dks, Av G own a := fun a h => .inl (R.wf1 a h)
theorem Rel.avT (R : Rel B G own ρ s σ H) {a : Addr} (h : Av G own a) : ∃ o, H a = some o := by
  rcases h with h | ⟨i, h⟩
  · have := R.wf2 a h
    cases q : H a with
    | none => exact absurd q this
    | some o => exact ⟨o, rfl⟩
  · obtain ⟨o, e, _⟩ := R.ont i a h
    exact ⟨o, e⟩
theorem Rel.fresh (R : Rel B G own ρ s σ H) {p : Addr} (h : H p = none) : ¬ Av G own p := fun z => by
  obtain ⟨o, e⟩ := R.avT z
  rw [h] at e; cases e
theorem Rel.dkT (R : Rel B G own ρ s σ H) {a : Addr} (h : a ∈ G.dks) : ∃ o, H a = some o ∧ isTu o = false := SI.there s H a R.rs (by rw [R.dk]; exact h)
theorem Rel.kp (R : Rel B G own ρ s σ H) (k : Stp G s' H H') : Kp (Av G own) H H' where
  tup := fun a u t h => k.fr a _ h fun z => by
    obtain ⟨o, e, n⟩ := R.dkT z
    rw [h] at e; cases e; rw [t] at n; cases n
  all := fun a o h n => k.fr a o h fun z => n (R.dkA a z)
theorem Rel.stp (R : Rel B G own ρ s σ H) (k : Stp G s' H H') : Rel B G own ρ s' σ H' := by
  have kp := R.kp k
  have hn : ∀ a o, H a = some o → H' a ≠ none := fun a o h => by
    by_cases z : a ∈ G.dks
    · obtain ⟨o', e, _⟩ := SI.there s' H' a k.rs (by rw [k.dk]; exact z)
      rw [e]; simp
    · rw [k.fr a o h z]; simp
  refine ⟨R.wf1, fun a h => ?_, fun a o h n => k.fr a o (R.fr a o h n) n, k.dk, k.rs, R.inj, R.fre, fun i a h => ?_, R.len, fun i x h => ?_⟩
  · obtain ⟨o, e⟩ := R.avT (.inl h : Av G own a)
    exact hn a o e
  · obtain ⟨o, e, n⟩ := R.ont i a h
    exact ⟨o, k.fr a o e fun z => (R.fre i a h).2 (R.wf1 a z), n⟩
  · have q := R.sl i x h
    have own' : ∀ {x : Sl}, (∃ a, own i = some a ∧ σ[i]? = some (some (V.ref a)) ∧ OwnAt B (Av G own) H a x) → ∃ a, own i = some a ∧ σ[i]? = some (some (V.ref a)) ∧ OwnAt B (Av G own) H' a x := fun {x} ⟨a, ho, hs, hx⟩ =>
      ⟨a, ho, hs, hx.kp kp fun o e => k.fr a o e fun z => (R.fre i a ho).2 (R.wf1 a z)⟩
    cases x with
    | no => trivial
    | v y => obtain ⟨u, e, r⟩ := q; exact ⟨u, e, r.kp kp⟩
    | l ds => exact own' q
    | m kvs => exact own' q
    | g c a fs =>
      obtain ⟨gs, ho, hs, hg, r⟩ := q
      refine ⟨gs, ho, hs, hg, r.kp kp fun l hl o e => k.fr l o e fun z => ?_⟩
      obtain ⟨j, e'⟩ := gm_own ho hg l hl
      exact (R.fre j l e').2 (R.wf1 l z)
    | q _ _ => exact own' q
theorem Stp.trans (a : Stp G s' H H') (b : Stp G s'' H' H'') : Stp G s'' H H'' := ⟨fun c o h n => b.fr c o (a.fr c o h n) n, b.dk, b.rs⟩
theorem Rel.refl (R : Rel B G own ρ s σ H) : Stp G s H H := ⟨fun _ _ h _ => h, R.dk, R.rs⟩
/-- the heap has only grown -/
theorem Rel.same (R : Rel B G own ρ s σ H) (k : Same H H') : Stp G s H H' := by
  refine ⟨fun a o h _ => k a o h, R.dk, SI.keep s H H' R.rs (fun a h => ?_) fun a u _ h => k a u h⟩
  obtain ⟨o, e, _⟩ := SI.there s H a R.rs h
  rw [e]; exact k a o e
theorem same_upd {p : Addr} {o : HO} (h : H p = none) : Same H (upd H p o) := fun b u e => by
  rw [upd_ne (ne_of_none e h)]; exact e
theorem Rel.put (R : Rel B G own ρ s σ H) {p : Addr} {o : HO} (h : H p = none) : Stp G s H (L2.upd H p o) := R.same (same_upd h)
theorem RtV.kp (R : Rel B G own ρ s σ H) (k : Stp G s' H H') {v : V} {y : Val} (h : RtV B (Av G own) G.A0 H v y) : RtV B (Av G own) G.A0 H' v y := by
  have kp := R.kp k
  cases h with
  | of h => exact .of (h.kp kp)
  | lst h n r => exact .lst (k.fr _ _ h fun z => n (R.wf1 _ z)) n (RpL.kp kp r)
  | dic h n r => exact .dic ⟨k.fr _ _ h.1 fun z => n (R.wf1 _ z), h.2⟩ n (RpM.kp kp r)
  | dct h n e r => exact .dct (k.fr _ _ h fun z => n (R.wf1 _ z)) n e (RpM.kp kp r)
end
/-- an exception as it lies: its own dict's address, its fields -/
def ExR (B : Bs) (A : Addr → Prop) (e : Exn) (C : Addr) (od : Option Addr) (H : Hp) : Prop :=
  B.cls e.c = some C ∧ ((e.fs = [] ∧ od = none) ∨ ∃ dx fs', od = some dx ∧ H dx = some (.xd fs') ∧ ∀ p ∈ e.fs, ∃ u, fs'.lookup p.1 = some u ∧ Rp B A H u p.2)
def ExW (B : Bs) (G : Gh) (E : XK) (e : Exn) (s' : S) : Prop :=
  ∀ C od H', (∀ a o, G.H0 a = some o → a ∉ G.dks → H' a = some o) → SI.dks s' = G.dks → SI.rep s' H' → ExR B G.A0 e C od H' → E (.ref C) od H'
/-- how a function ended -/
def Out.sat {α : Type} (o : Out S α) (P : α → S → Prop) (T : Exn → S → Prop) : Prop := match o with
  | .ok y s => P y s
  | .ex e s => T e s
  | .bad => False
theorem Out.sat.bnd {α β : Type} {o : Out S α} {k : α → S → Out S β} {P : β → S → Prop} {T : Exn → S → Prop} (h : (o.bind k).sat P T) : o.sat (fun y s => (k y s).sat P T) T := by
  cases o with
  | bad => exact h
  | ex e s' => exact h
  | ok y s' => exact h
theorem Out.sat.mono {α : Type} {o : Out S α} {P P' : α → S → Prop} {T : Exn → S → Prop} (h : o.sat P T) (i : ∀ y s, P y s → P' y s) : o.sat P' T := by
  cases o with
  | bad => exact h
  | ex e s' => exact h
  | ok y s' => exact i _ _ h
abbrev Ex (S : Type) := Env → S → Out S Val
abbrev Tx (S : Type) := Env → S → Out S Bool
abbrev Exs (S : Type) := Env → S → Out S (List Val)
def tD (B : Bs) (E : XK) (f : Ex S) : TE := fun σ H Q => ∃ G own ρ s, Rel B G own ρ s σ H ∧ (f ρ s).sat (fun y s' => ∀ v H', Stp G s' H H' → RvV B (Av G own) H' v y → Q v H') fun e s' => ExW B G E e s'
def tB (B : Bs) (E : XK) (f : Ex S) : TE := fun σ H Q => ∃ G own ρ s, Rel B G own ρ s σ H ∧ (f ρ s).sat (fun y s' => ∀ v H', Stp G s' H H' → RtV B (Av G own) G.A0 H' v y → Q v H') fun e s' => ExW B G E e s'
def tT (B : Bs) (E : XK) (f : Tx S) : TT := fun σ H Q => ∃ G own ρ s, Rel B G own ρ s σ H ∧ (f ρ s).sat (fun y s' => ∀ H', Stp G s' H H' → Q y H') fun e s' => ExW B G E e s'
/-- argument lists: bb, whether lists of one's own are lent -/
inductive RtL (B : Bs) (A : Addr → Prop) (N : Addr → Prop) (H : Hp) : List V → List Val → Prop
  | nil : RtL B A N H [] []
  | cons {v : V} {y : Val} {vs : List V} {ys : List Val} (h : RtV B A N H v y) (t : RtL B A N H vs ys) : RtL B A N H (v :: vs) (y :: ys)
def tAs (B : Bs) (E : XK) (f : Exs S) : TA := fun σ H Q => ∃ G own ρ s, Rel B G own ρ s σ H ∧ (f ρ s).sat (fun y s' => ∀ v H', Stp G s' H H' → RtL B (Av G own) G.A0 H' v y → Q v H') fun e s' => ExW B G E e s'
abbrev DE (X : Cx) (B : Bs) (E : XK) (e : Expr) (f : Ex S) : Prop := PE X e (tD B E f)
abbrev DB (X : Cx) (B : Bs) (E : XK) (e : Expr) (f : Ex S) : Prop := PE X e (tB B E f)
abbrev DT (X : Cx) (B : Bs) (E : XK) (e : Expr) (f : Tx S) : Prop := PT X e (tT B E f)
abbrev DA (X : Cx) (B : Bs) (E : XK) (es : List Expr) (f : Exs S) : Prop := PA X es (tAs B E f)
theorem pe_imp {X : Cx} {e : Expr} {t t' : TE} (h : PE X e t) (i : ∀ σ H Q, t' σ H Q → t σ H Q) : PE X e t' := ⟨fun pins s σ H Q I q => h.run pins s σ H Q I (i σ H Q q)⟩
theorem pt_imp {X : Cx} {e : Expr} {t t' : TT} (h : PT X e t) (i : ∀ σ H Q, t' σ H Q → t σ H Q) : PT X e t' := ⟨fun pins s σ H Q I q => h.run pins s σ H Q I (i σ H Q q)⟩
theorem pw_imp {X : Cx} {e : Expr} {t t' : TT} (h : PW X e t) (i : ∀ σ H Q, t' σ H Q → t σ H Q) : PW X e t' := ⟨fun wh pins s σ H Q I q => h.run wh pins s σ H Q I (i σ H Q q)⟩
theorem pa_imp {X : Cx} {e : List Expr} {t t' : TA} (h : PA X e t) (i : ∀ σ H Q, t' σ H Q → t σ H Q) : PA X e t' := ⟨fun pos pins s σ H Q I q => h.run pos pins s σ H Q I (i σ H Q q)⟩
theorem ps_imp {X : Cx} {e : Stmt} {t t' : TS} (h : PS X e t) (i : ∀ D σ H, t' D σ H → t D σ H) : PS X e t' := ⟨fun pins s σ H D I q => h.run pins s σ H D I (i D σ H q)⟩
theorem pss_imp {X : Cx} {e : List Stmt} {t t' : TS} (h : PSs X e t) (i : ∀ D σ H, t' D σ H → t D σ H) : PSs X e t' := ⟨fun pins s σ H D I q => h.run pins s σ H D I (i D σ H q)⟩
theorem pi_imp {X : Cx} {tg e : Expr} {t t' : TI} (h : PI X tg e t) (i : ∀ σ H R, t' σ H R → t σ H R) : PI X tg e t' := ⟨fun pins s σ H R I q => h.run pins s σ H R I (i σ H R q)⟩
theorem pi_or {X : Cx} {tg e : Expr} {t t' : TI} (h : PI X tg e t) (h' : PI X tg e t') : PI X tg e (fun σ H R => t σ H R ∨ t' σ H R) := ⟨fun pins s σ H R I q => q.elim (h.run pins s σ H R I) (h'.run pins s σ H R I)⟩
section
variable {X : Cx} {B : Bs} {E : XK} {e a b c : Expr} {f fa fb fc : Ex S} {pos : Pos}
/-- a value as a lent one -/
theorem DE.lent (h : DE X B E e f) : DB X B E e f := pe_imp h fun σ H Q ⟨G, own, ρ, s, R, q⟩ => ⟨G, own, ρ, s, R, q.mono fun y s' q v H' k r => q v H' k (.of r)⟩
/-- one step of a reading -/
theorem tD.run {G : Gh} {own : Own} {ρ : Env} {s : S} {σ : Sg} {H : Hp} {Q : VK} (R : Rel B G own ρ s σ H) (k : Val → S → Prop)
    (h : (f ρ s).sat k fun e s' => ExW B G E e s')
    (hk : ∀ y s' v H', k y s' → Stp G s' H H' → RvV B (Av G own) H' v y → Rel B G own ρ s' σ H' → Q v H') : tD B E f σ H Q := ⟨G, own, ρ, s, R, h.mono fun y s' h => fun v H' st r => hk y s' v H' h st r (R.stp st)⟩
theorem tB.run {G : Gh} {own : Own} {ρ : Env} {s : S} {σ : Sg} {H : Hp} {Q : VK} (R : Rel B G own ρ s σ H) (k : Val → S → Prop)
    (h : (f ρ s).sat k fun e s' => ExW B G E e s')
    (hk : ∀ y s' v H', k y s' → Stp G s' H H' → RtV B (Av G own) G.A0 H' v y → Rel B G own ρ s' σ H' → Q v H') : tB B E f σ H Q := ⟨G, own, ρ, s, R, h.mono fun y s' h => fun v H' st r => hk y s' v H' h st r (R.stp st)⟩
theorem tT.run {f : Tx S} {G : Gh} {own : Own} {ρ : Env} {s : S} {σ : Sg} {H : Hp} {Q : Bool → Hp → Prop} (R : Rel B G own ρ s σ H) (k : Bool → S → Prop)
    (h : (f ρ s).sat k fun e s' => ExW B G E e s')
    (hk : ∀ y s' H', k y s' → Stp G s' H H' → Rel B G own ρ s' σ H' → Q y H') : tT B E f σ H Q := ⟨G, own, ρ, s, R, h.mono fun y s' h => fun H' st => hk y s' H' h st (R.stp st)⟩
theorem tAs.run {f : Exs S} {G : Gh} {own : Own} {ρ : Env} {s : S} {σ : Sg} {H : Hp} {Q : List V → Hp → Prop} (R : Rel B G own ρ s σ H) (k : List Val → S → Prop)
    (h : (f ρ s).sat k fun e s' => ExW B G E e s')
    (hk : ∀ y s' v H', k y s' → Stp G s' H H' → RtL B (Av G own) G.A0 H' v y → Rel B G own ρ s' σ H' → Q v H') : tAs B E f σ H Q := ⟨G, own, ρ, s, R, h.mono fun y s' h => fun v H' st r => hk y s' v H' h st r (R.stp st)⟩
def eVar (i : Nat) : Ex S := fun ρ s => match ρ[i]? with
  | some (.v y) => .ok y s
  | _ => .bad
def bVar (i : Nat) : Ex S := fun ρ s => match ρ[i]? with
  | some (.v y) => .ok y s
  | some (.l ds) => .ok (.d (.list ds)) s
  | some (.m ds) => .ok (.d (.dict ds)) s
  | _ => .bad
def eC (d : D) : Ex S := fun _ s => .ok (.d d) s
def eR (v : V) : Ex S := fun _ s => .ok (.r v) s
theorem de_var (i : Nat) (h : PE X e (tVar i)) : DE X B E e (eVar i : Ex S) := by
  refine pe_imp h fun σ H Q ⟨G, own, ρ, s, R, q⟩ => ?_
  unfold eVar at q
  cases z : ρ[i]? with
  | none => rw [z] at q; exact q.elim
  | some x =>
    rw [z] at q
    have p := R.sl i x z
    cases x with
    | v y =>
      obtain ⟨u, e, r⟩ := p
      exact ⟨u, e, q u H R.refl r⟩
    | no => exact q.elim
    | l _ => exact q.elim
    | m _ => exact q.elim
    | g _ _ _ => exact q.elim
    | q _ _ => exact q.elim
theorem db_var (i : Nat) (h : PE X e (tVar i)) : DB X B E e (bVar i : Ex S) := by
  refine pe_imp h fun σ H Q ⟨G, own, ρ, s, R, q⟩ => ?_
  unfold bVar at q
  cases z : ρ[i]? with
  | none => rw [z] at q; exact q.elim
  | some x =>
    rw [z] at q
    have p := R.sl i x z
    have nd : ∀ a, own i = some a → ¬ G.A0 a := fun a ho => (R.fre i a ho).2
    cases x with
    | v y =>
      obtain ⟨u, e, r⟩ := p
      exact ⟨u, e, q u H R.refl (.of r)⟩
    | no => exact q.elim
    | l ds =>
      obtain ⟨a, ho, hs, xs, hx, r⟩ := p
      exact ⟨_, hs, q _ H R.refl (.lst hx (nd a ho) r)⟩
    | m kvs =>
      obtain ⟨a, ho, hs, p⟩ := p
      rcases p with ⟨ks, hx, r⟩ | ⟨ks, hx, e, r⟩
      · exact ⟨_, hs, q _ H R.refl (.dic hx (nd a ho) r)⟩
      · exact ⟨_, hs, q _ H R.refl (.dct hx (nd a ho) e r)⟩
    | g _ _ _ => exact q.elim
    | q _ _ => exact q.elim
theorem de_c {v : V} {d : D} (h : PE X e (tC v)) (r : ∀ A H, Rp B A H v d) : DE X B E e (eC d : Ex S) := by
  refine pe_imp h fun σ H Q ⟨G, own, ρ, s, R, q⟩ => ?_
  exact q v H R.refl (r _ H)
theorem de_int {i : Int} {j : Nat} : DE X B E (.Constant (.int i) j pos) (eC (.int i) : Ex S) := de_c pe_int fun _ _ => .int i
theorem de_bl {i : Bool} {j : Nat} : DE X B E (.Constant (.bool i) j pos) (eC (.bool i) : Ex S) := de_c pe_bl fun _ _ => .bl i
theorem de_non {j : Nat} : DE X B E (.Constant .none j pos) (eC .none : Ex S) := de_c pe_non fun _ _ => .non
theorem de_str {x : Str} {j : Nat} : DE X B E (.Constant (.str x) j pos) (eC (.str x) : Ex S) := de_c pe_str fun _ _ => .str x
def eBin (op : D → D → Option D) (fa fb : Ex S) : Ex S := fun ρ s => (fa ρ s).bind fun x s1 => (fb ρ s1).bind fun y s2 => match x, y with
  | .d p, .d q => (match op p q with
    | some r => .ok (.d r) s2
    | none => .bad)
  | _, _ => .bad
/-- what an operation by values must do: the heap grows, the result stands for its data -/
def OpD (B : Bs) (r : R2) (op : D → D → Option D) : Prop := ∀ (A : Addr → Prop) (N : Addr → Prop) (H : Hp) (x y : V) (p q z : D) (Q : VK),
  (∀ p, H p = none → ¬ A p) → op p q = some z → RtV B A N H x (.d p) → RtV B A N H y (.d q) → (∀ v H', Same H H' → Rp B A H' v z → Q v H') → r x y H Q
theorem de_bin {op : D → D → Option D} {r : R2} (hr : OpD B r op) (h : PE X e (tOp r (tB B E fa) (tB B E fb))) : DE X B E e (eBin op fa fb) := by
  refine pe_imp h fun σ H Q ⟨G, own, ρ, s, R, q⟩ => ?_
  refine tB.run R _ q.bnd fun y s1 v H1 q1 k1 r1 R1 => ?_
  refine tB.run R1 _ q1.bnd fun z s2 w H2 q2 k2 r2 R2 => ?_
  cases y with
  | r _ => exact q2.elim
  | o _ _ => exact q2.elim
  | p _ => exact q2.elim
  | f _ => exact q2.elim
  | d p =>
    cases z with
    | r _ => exact q2.elim
    | o _ _ => exact q2.elim
    | p _ => exact q2.elim
    | f _ => exact q2.elim
    | d q =>
      cases hz : op p q with
      | none => simp only [hz] at q2; exact q2.elim
      | some d =>
        simp only [hz] at q2
        exact hr _ G.A0 H2 v w p q d Q (fun _ hp => R2.fresh hp) hz (r1.kp R1 k2) r2 fun u H3 sm rp => q2 u H3 ((k1.trans k2).trans (R2.same sm)) rp
/-- one part, and an operation by values -/
def eUn (op : D → Option D) (fa : Ex S) : Ex S := fun ρ s => (fa ρ s).bind fun x s1 => match x with
  | .d p => (match op p with
    | some r => .ok (.d r) s1
    | none => .bad)
  | _ => .bad
def UnD (B : Bs) (r : V → Hp → VK → Prop) (op : D → Option D) : Prop := ∀ (A : Addr → Prop) (N : Addr → Prop) (H : Hp) (x : V) (p z : D) (Q : VK),
  (∀ p, H p = none → ¬ A p) → op p = some z → RtV B A N H x (.d p) → (∀ v H', Same H H' → Rp B A H' v z → Q v H') → r x H Q
theorem de_un {op : D → Option D} {r : V → Hp → VK → Prop} (hr : UnD B r op) (h : PE X e (tUn r (tB B E fa))) : DE X B E e (eUn op fa) := by
  refine pe_imp h fun σ H Q ⟨G, own, ρ, s, R, q⟩ => ?_
  refine tB.run R _ q.bnd fun y s1 v H1 q1 k1 r1 R1 => ?_
  cases y with
  | r _ => exact q1.elim
  | o _ _ => exact q1.elim
  | p _ => exact q1.elim
  | f _ => exact q1.elim
  | d p =>
    cases hz : op p with
    | none => simp only [hz] at q1; exact q1.elim
    | some d =>
      simp only [hz] at q1
      exact hr _ G.A0 H1 v p d Q (fun _ hp => R1.fresh hp) hz r1 fun u H3 sm rp => q1 u H3 (k1.trans (R1.same sm)) rp
def aNil : Exs S := fun _ s => .ok [] s
def aCons (f : Ex S) (g : Exs S) : Exs S := fun ρ s => (f ρ s).bind fun x s1 => (g ρ s1).bind fun xs s2 => .ok (x :: xs) s2
theorem da_nil : DA X B E [] (aNil : Exs S) := by
  refine pa_imp pa_nil fun σ H Q ⟨G, own, ρ, s, R, q⟩ => ?_
  exact q [] H R.refl .nil
theorem da_cons {es : List Expr} {g : Exs S} (h : DB X B E e f) (hs : DA X B E es g) (hst : starEach (e :: es) X.env = (false, eval e X.env) :: starEach es X.env := by rfl) : DA X B E (e :: es) (aCons f g) := by
  refine pa_imp (pa_cons h hs hst) fun σ H Q ⟨G, own, ρ, s, R, q⟩ => ?_
  refine tB.run R _ q.bnd fun y s1 v H1 q1 k1 r1 R1 => ?_
  refine tAs.run R1 _ q1.bnd fun z s2 w H2 q2 k2 r2 R2 => ?_
  exact q2 _ _ (k1.trans k2) (.cons (r1.kp R1 k2) r2)
end
end DL
namespace DL
open PySem PySem.Spec PyProof.Rows L2
variable {S : Type} [SI S]
section
variable {B : Bs} {A : Addr → Prop} {N : Addr → Prop} {H : Hp} {x : V}
theorem rt_int {i : Int} (h : RtV B A N H x (.d (.int i))) : x = .int i := by
  cases h with
  | of h => cases h; rfl
theorem rt_bl {i : Bool} (h : RtV B A N H x (.d (.bool i))) : x = .bl i := by
  cases h with
  | of h => cases h; rfl
theorem rt_non (h : RtV B A N H x (.d .none)) : x = .non := by
  cases h with
  | of h => cases h; rfl
theorem rt_str {i : Str} (h : RtV B A N H x (.d (.str i))) : x = .str i := by
  cases h with
  | of h => cases h; rfl
theorem rt_tup {ds : List D} (h : RtV B A N H x (.d (.tuple ds))) : ∃ a xs, x = .ref a ∧ Tp B.K H a xs ∧ RpL B A H xs ds := by
  cases h with
  | of h => cases h with
    | tup h r => exact ⟨_, _, rfl, h, r⟩
theorem rt_lst {ds : List D} (h : RtV B A N H x (.d (.list ds))) : ∃ a xs, x = .ref a ∧ H a = some (.lst xs) ∧ RpL B A H xs ds := by
  cases h with
  | of h => cases h with
    | lst h n r => exact ⟨_, _, rfl, h, r⟩
  | lst h n r => exact ⟨_, _, rfl, h, r⟩
theorem rt_dp {d : D} (h : RtV B A N H x (.d d)) (c : d.canLay0 = true) : Dp B.K H x d := by
  cases h with
  | of h => exact Rp.dp h c
  | lst h n r => exact .lst (SqL.of h) (RpL.dp r (by simpa [PyData.canLay0] using c))
  | dic _ _ _ => simp [PyData.canLay0] at c
  | dct _ _ _ _ => simp [PyData.canLay0] at c
/-- a heap that has grown -/
theorem kp_same {H' : Hp} (k : Same H H') : Kp A H H' := ⟨fun a u _ h => k a u h, fun a o h _ => k a o h⟩
theorem new_tup {p : Addr} {xs : List V} {ds : List D} (hp : H p = none) (r : RpL B A H xs ds) : Rp B A (upd H p (.tup xs)) (.ref p) (.tuple ds) :=
  .tup (Tp.of upd_same) (RpL.kp (kp_same (same_upd hp)) r)
theorem new_lst {p : Addr} {xs : List V} {ds : List D} (hp : H p = none) (n : ¬ A p) (r : RpL B A H xs ds) : Rp B A (upd H p (.lst xs)) (.ref p) (.list ds) :=
  .lst upd_same n (RpL.kp (kp_same (same_upd hp)) r)
end
def opAdd : D → D → Option D
  | .int a, .int b => some (.int (a + b))
  | .tuple a, .tuple b => if a.length + b.length ≤ sizeLine then some (.tuple (a ++ b)) else none
  | .list a, .list b => if a.length + b.length ≤ sizeLine then some (.list (a ++ b)) else none
  | .str a, .str b => if a.length + b.length ≤ sizeLine then some (.str (a ++ b)) else none
  | _, _ => none
abbrev rAddA (K : PySem.W.Frag) : R2 := fun x y H Q => (rI0 fun i j => .int (i + j)) x y H Q ∨ (fun x y H Q => rCatA K x y H Q ∨ (fun x y H Q => rCat x y H Q ∨
  (fun x y H Q => ∃ i j, x = .str i ∧ y = .str j ∧ i.length + j.length ≤ sizeLine ∧ Q (.str (i ++ j)) H : R2) x y H Q) x y H Q) x y H Q
theorem op_addA {X : Cx} : OpR X (binaryOp .Add) (rAddA X.K) := op_add.or (op_catA.or (op_cat.or op_add_str))
theorem od_add {B : Bs} : OpD B (rAddA B.K) opAdd := by
  intro A N H x y p q z Q fr hz hx hy k
  unfold opAdd at hz
  split at hz
  · cases hz
    exact .inl ⟨_, _, rt_int hx, rt_int hy, k _ H (Same.refl H) (.int _)⟩
  · split at hz
    · rename_i a b hl
      cases hz
      obtain ⟨u, xs, rfl, tx, rx⟩ := rt_tup hx
      obtain ⟨w, ys, rfl, ty, ry⟩ := rt_tup hy
      refine .inr (.inl ⟨u, w, xs, ys, rfl, rfl, tx.sq, ty.sq, by rw [rx.len, ry.len]; exact hl, fun e => ?_, fun _ e => ?_, fun _ _ p hp => ?_⟩)
      · subst e
        cases rx
        exact k _ H (Same.refl H) (.tup ty ry)
      · subst e
        cases ry
        exact k _ H (Same.refl H) (.tup tx (by rw [List.append_nil]; exact rx))
      · exact k _ _ (same_upd hp) (new_tup hp (rx.app ry))
    · cases hz
  · split at hz
    · rename_i a b hl
      cases hz
      obtain ⟨u, xs, rfl, tx, rx⟩ := rt_lst hx
      obtain ⟨w, ys, rfl, ty, ry⟩ := rt_lst hy
      exact .inr (.inr (.inl ⟨u, w, xs, ys, rfl, rfl, tx, ty, by rw [rx.len, ry.len]; exact hl, fun p hp => k _ _ (same_upd hp) (new_lst hp (fr p hp) (rx.app ry))⟩))
    · cases hz
  · split at hz
    · rename_i a b hl
      cases hz
      exact .inr (.inr (.inr ⟨_, _, rt_str hx, rt_str hy, hl, k _ H (Same.refl H) (.str _)⟩))
    · cases hz
  · cases hz
def opSub : D → D → Option D
  | .int a, .int b => some (.int (a - b))
  | _, _ => none
theorem od_sub {B : Bs} : OpD B (rI0 fun i j => .int (i - j)) opSub := by
  intro A N H x y p q z Q fr hz hx hy k
  unfold opSub at hz
  split at hz
  · cases hz
    exact ⟨_, _, rt_int hx, rt_int hy, k _ H (Same.refl H) (.int _)⟩
  · cases hz
/-- both factors bounded together -/
def mulOk (a b : Int) : Bool := decide ((-(2 ^ 64) < a ∧ a < 2 ^ 64) ∨ (-(2 ^ 64) < b ∧ b < 2 ^ 64))
theorem tmul_none (l : Addr) (items : Array Value) (n : Nat) (dd : Option Addr) (sl : Array (Option Value)) (x : Int) (u : Tok) (c0 : (decide (x < -(2 ^ 63)) || decide (x ≥ 2 ^ 63)) = false) (c1 : (items.isEmpty || x == 1) = false) (c2 : (decide (x ≤ 0) || items.isEmpty) = true) :
    Meets (Builtin.«tuple.__mul__» ⟨[.ref l, .int x u], []⟩) (fun _ R s => s.heap.get? l = some { cls := .type "tuple", dict := dd, data := .seq items n, slots := sl } ∧
      R (.ok (.ret (Value.ref s.heap.objs.size))) { s with heap := s.heap.push { cls := Value.type "tuple", data := Data.seq #[] }, toks := s.toks }) :=
  .of_wp fun prog w A R s h => by
    obtain ⟨hp, g, d, tk, os⟩ := s
    obtain ⟨hl, h⟩ := h
    have f1 := AutoSeq1.idx_int
    wp_walk using wpAny_loadPart' hl
    repeat (first
      | (refine wpAny_ite_false (decide_eq_false (by rw [c0]; exact Bool.false_ne_true)) ?_; wp_walk using wpAny_loadPart' hl)
      | (refine wpAny_ite_false (decide_eq_false (by rw [c1]; exact Bool.false_ne_true)) ?_; wp_walk using wpAny_loadPart' hl)
      | (refine wpAny_ite_true (decide_eq_true c2) ?_; wp_walk using wpAny_loadPart' hl))
    exact ⟨_, rfl, h⟩
theorem tmul_same (l : Addr) (items : Array Value) (n : Nat) (dd : Option Addr) (sl : Array (Option Value)) (x : Int) (u : Tok) (c0 : (decide (x < -(2 ^ 63)) || decide (x ≥ 2 ^ 63)) = false) (c1 : (items.isEmpty || x == 1) = true) :
    Meets (Builtin.«tuple.__mul__» ⟨[.ref l, .int x u], []⟩) (fun _ R s => s.heap.get? l = some { cls := .type "tuple", dict := dd, data := .seq items n, slots := sl } ∧
      R (.ok (.ret (Value.ref l))) s) :=
  .of_wp fun prog w A R s h => by
    obtain ⟨hp, g, d, tk, os⟩ := s
    obtain ⟨hl, h⟩ := h
    have f1 := AutoSeq1.idx_int
    wp_walk using wpAny_loadPart' hl
    repeat (first
      | (refine wpAny_ite_false (decide_eq_false (by rw [c0]; exact Bool.false_ne_true)) ?_; wp_walk using wpAny_loadPart' hl)
      | (refine wpAny_ite_true (decide_eq_true c1) ?_; wp_walk using wpAny_loadPart' hl))
    exact ⟨_, rfl, h⟩
/-- a tuple not at all, or once -/
def rRepZ (K : PySem.W.Frag) : R2 := fun x y H Q => ∃ l k xs, x = .ref l ∧ y = .int k ∧ SqT K H l xs ∧ xs ≠ [] ∧ -1000 ≤ k ∧ k ≤ 0 ∧ ∀ p, H p = none → Q (.ref p) (upd H p (.tup []))
def rRepS (K : PySem.W.Frag) : R2 := fun x y H Q => ∃ l k xs, x = .ref l ∧ y = .int k ∧ SqT K H l xs ∧ -1000 ≤ k ∧ k ≤ 4000 ∧ (xs = [] ∨ k = 1) ∧ Q (.ref l) H
theorem op_repZ {X : Cx} : OpR X (binaryOp .Mult) (rRepZ X.K) := by
  intro pins s σ H x y v u Q I rx ry h
  obtain ⟨l, k, xs, rfl, rfl, hT, hne, h1, h2, q⟩ := h
  cases rx
  obtain ⟨t, rfl⟩ := ry
  obtain ⟨its, r, ⟨⟨cls, dd, data, sl⟩, ho, hc, n, hd⟩, hs⟩ := I.tuple hT
  simp only at hc hd
  subst hc hd
  have hle : its.length = xs.length := r.length.symm
  have hn : its ≠ [] := fun e => hne (by
    rw [e] at hle
    exact List.eq_nil_of_length_eq_zero hle.symm)
  have hi : its.toArray.isEmpty = false := by
    cases its with
    | nil => exact absurd rfl hn
    | cons a b => rfl
  have c0 : (decide (k < -(2 ^ 63)) || decide (k ≥ 2 ^ 63)) = false := by
    rw [decide_eq_false (by omega), decide_eq_false (by omega)] <;> rfl
  have c1 : (its.toArray.isEmpty || k == 1) = false := by
    rw [hi, Bool.false_or]
    exact beq_eq_false_iff_ne.mpr (by omega)
  have c2 : (decide (k ≤ 0) || its.toArray.isEmpty) = true := by
    rw [decide_eq_true h2]; rfl
  refine wpAny_binaryOp_repeat_ref (T := "tuple") (U := "int") (by decide) ⟨_, ho, rfl⟩ (fun s' => typeIs_int s' k t) noFill_tuple_mul F.fills_int_mul F.slot_int_rmul repeat_tuple F.slot_int_index.lookup
    (call_meets F.slot_int_rmul (typeIs_int s k t) F.entry_int_rmul (F.args_int_rmul_2 _ _) (int_rmul_tuple k t l its.toArray n dd sl)
      ⟨ho, rfl, ⟨_, ho, rfl⟩, call_meets F.slot_tuple_mul ⟨_, ho, rfl⟩ F.entry_tuple_mul (F.args_tuple_mul_2 _ _) (tmul_none l its.toArray n dd sl k t c0 c1 c2) ⟨ho, ?_⟩⟩)
  refine ⟨.ref s.heap.objs.size, _, I.laid (t' := s.toks) (o := .tup []) (fun b ob q => Heap.get?_push_of_some _ q) (Nat.le_refl _) ?_, rfl, q _ (I.hok.fresh (Nat.le_refl _))⟩
  exact ⟨Nat.zero_le _, [], .nil, IsTup.new _ _⟩
theorem op_repS {X : Cx} : OpR X (binaryOp .Mult) (rRepS X.K) := by
  intro pins s σ H x y v u Q I rx ry h
  obtain ⟨l, k, xs, rfl, rfl, hT, h1, h2, hx, q⟩ := h
  cases rx
  obtain ⟨t, rfl⟩ := ry
  obtain ⟨its, r, ⟨⟨cls, dd, data, sl⟩, ho, hc, n, hd⟩, hs⟩ := I.tuple hT
  simp only at hc hd
  subst hc hd
  have hle : its.length = xs.length := r.length.symm
  have c0 : (decide (k < -(2 ^ 63)) || decide (k ≥ 2 ^ 63)) = false := by
    rw [decide_eq_false (by omega), decide_eq_false (by omega)] <;> rfl
  have c1 : (its.toArray.isEmpty || k == 1) = true := by
    rcases hx with rfl | rfl
    · rw [List.eq_nil_of_length_eq_zero hle]; rfl
    · exact Bool.or_true _
  refine wpAny_binaryOp_repeat_ref (T := "tuple") (U := "int") (by decide) ⟨_, ho, rfl⟩ (fun s' => typeIs_int s' k t) noFill_tuple_mul F.fills_int_mul F.slot_int_rmul repeat_tuple F.slot_int_index.lookup
    (call_meets F.slot_int_rmul (typeIs_int s k t) F.entry_int_rmul (F.args_int_rmul_2 _ _) (int_rmul_tuple k t l its.toArray n dd sl)
      ⟨ho, rfl, ⟨_, ho, rfl⟩, call_meets F.slot_tuple_mul ⟨_, ho, rfl⟩ F.entry_tuple_mul (F.args_tuple_mul_2 _ _) (tmul_same l its.toArray n dd sl k t c0 c1) ⟨ho, ?_⟩⟩)
  exact ⟨.ref l, _, I, rfl, q⟩
/-- what a product of a length and a number of times must be -/
theorem rep_side {n : Nat} {k : Int} (h0 : 0 < n) (h1 : 2 ≤ k ∧ k ≤ 4000) (hn : n ≤ 1000) :
    (n : Int) * k ≤ 4000000 ∧ k.toNat * n ≤ 4000000 ∧ (decide (k < -(2 ^ 63)) || decide (k ≥ 2 ^ 63)) = false ∧ (k == 1) = false ∧ decide (k ≤ 0) = false := by
  have a := Int.mul_le_mul (show (n : Int) ≤ 1000 by omega) h1.2 (by omega) (by decide)
  have b := Nat.mul_le_mul (show k.toNat ≤ 4000 by omega) hn
  refine ⟨by omega, by omega, ?_, beq_eq_false_iff_ne.mpr (by omega), decide_eq_false (by omega)⟩
  rw [decide_eq_false (show ¬ k < -(2 ^ 63) by omega), decide_eq_false (show ¬ k ≥ 2 ^ 63 by omega)]
  rfl
/-- a tuple some times, up to 4000 -/
def rRepT4 (K : PySem.W.Frag) : R2 := fun x y H Q => ∃ l k xs, x = .ref l ∧ y = .int k ∧ SqT K H l xs ∧ 0 < xs.length ∧ (2 ≤ k ∧ k ≤ 4000) ∧ xs.length ≤ 1000 ∧ ∀ p, H p = none → Q (.ref p) (upd H p (.tup (List.replicate k.toNat xs).flatten))
theorem op_repT4 {X : Cx} : OpR X (binaryOp .Mult) (rRepT4 X.K) := by
  intro pins s σ H _ _ _ _ Q I rx ry ⟨l, k, xs, ex, ey, hT, hp, hk, hz, q⟩
  subst ex ey
  obtain rfl := show _ = Value.ref l from rx
  obtain ⟨tk, rfl⟩ := ry
  obtain ⟨its, r, ht, _⟩ := I.tuple hT
  obtain ⟨⟨c, dd, da, sl⟩, ho, e1, n, e2⟩ := id ht
  dsimp only at e1 e2
  subst e1 e2
  have hlen := r.length
  have hsz : its.toArray.size = xs.length := by simp [hlen]
  obtain ⟨b1, b2, b3, b4, b5⟩ := rep_side hp hk hz
  have hem : its.toArray.isEmpty = false := by
    rw [Array.isEmpty_eq_false_iff]
    intro e
    rw [e] at hsz
    simp at hsz
    omega
  have hfl : (List.replicate k.toNat its).flatten.length ≤ 4000000 := by
    rw [PyProof.Rows.lm_len_rep_flat, ← hlen]
    exact b2
  have big : 4000000 < sizeLine := by rw [sizeLine_eq]; decide
  have mu := tuple_mulW l its.toArray n dd sl k tk b3 (by rw [hem, b4]; rfl) (by rw [b5, hem]; rfl) (by rw [hsz]; omega)
    (by unfold Builtin.Tuple.tupleTooMany; rw [hsz]; exact decide_eq_false (by rw [sizeLine_eq]; omega)) (by rw [size_rep, List.size_toArray]; omega)
  have goal := I.laid (t' := s.toks) (h' := s.heap.push { cls := .type "tuple", data := .seq (List.replicate k.toNat its).flatten.toArray }) (o := .tup (List.replicate k.toNat xs).flatten)
    (fun _ _ z => Heap.get?_push_of_some _ z) (Nat.le_refl _) ⟨by rw [PyProof.Rows.lm_len_rep_flat]; omega, _, r.rep k.toNat, IsTup.new _ _⟩
  refine wpAny_binaryOp_repeat_ref (T := "tuple") (U := "int") (by decide) ⟨_, ho, rfl⟩ (fun s' => typeIs_int s' k tk) noFill_tuple_mul F.fills_int_mul F.slot_int_rmul
    repeat_tuple F.slot_int_index.lookup ?_
  refine call_meets F.slot_int_rmul (typeIs_int s k tk) F.entry_int_rmul (F.args_int_rmul_2 _ _) (int_rmul_tuple k tk l its.toArray n dd sl) ⟨ho, rfl, ⟨_, ho, rfl⟩, ?_⟩
  refine call_meets F.slot_tuple_mul ⟨_, ho, rfl⟩ F.entry_tuple_mul (F.args_tuple_mul_2 _ _) mu ⟨ho, ?_⟩
  rw [size_rep]
  exact ⟨.ref s.heap.objs.size, _, goal, rfl, q _ (I.hok.fresh (Nat.le_refl _))⟩
/-- a tuple, a list times a number -/
def opMul : D → D → Option D
  | .int a, .int b => if mulOk a b then some (.int (a * b)) else none
  | .tuple a, .int k => if -1000 ≤ k ∧ k ≤ 4000 ∧ a.length ≤ 1000 then some (.tuple (List.replicate k.toNat a).flatten) else none
  | .list a, .int k => if -(2 ^ 63) ≤ k ∧ k < 2 ^ 63 ∧ a.length * k.toNat ≤ sizeLine then some (.list (List.replicate k.toNat a).flatten) else none
  | _, _ => none
theorem RpL.rep {B : Bs} {A : Addr → Prop} {H : Hp} {xs : List V} {ds : List D} (r : RpL B A H xs ds) : ∀ k : Nat, RpL B A H (List.replicate k xs).flatten (List.replicate k ds).flatten
  | 0 => by simpa using RpL.nil
  | k + 1 => by
    rw [List.replicate_succ, List.replicate_succ, List.flatten_cons, List.flatten_cons]
    exact r.app (RpL.rep r k)
abbrev rMulA (K : PySem.W.Frag) : R2 := fun x y H Q => (rI CMul fun i j => .int (i * j)) x y H Q ∨ (fun x y H Q => rRepT4 K x y H Q ∨ (fun x y H Q => rRep x y H Q ∨ (fun x y H Q => rRepZ K x y H Q ∨ rRepS K x y H Q : R2) x y H Q : R2) x y H Q : R2) x y H Q
theorem op_mulA {X : Cx} : OpR X (binaryOp .Mult) (rMulA X.K) := op_mul.or (op_repT4.or (op_rep.or (op_repZ.or op_repS)))
theorem od_mul {B : Bs} : OpD B (rMulA B.K) opMul := by
  intro A N H x y p q z Q fr hz hx hy k
  unfold opMul at hz
  split at hz
  · split at hz
    · rename_i a b hm
      cases hz
      exact .inl ⟨_, _, rt_int hx, rt_int hy, (by unfold mulOk at hm; rw [decide_eq_true_eq] at hm; exact hm), k _ H (Same.refl H) (.int _)⟩
    · cases hz
  · split at hz
    · rename_i a n hm
      cases hz
      obtain ⟨u, xs, rfl, tx, rx⟩ := rt_tup hx
      by_cases h1 : xs = [] ∨ n = 1
      · refine .inr (.inr (.inr (.inr ⟨u, n, xs, rfl, rt_int hy, tx.sq, hm.1, hm.2.1, h1, k _ H (Same.refl H) ?_⟩)))
        rcases h1 with rfl | rfl
        · cases rx
          have e : (List.replicate n.toNat ([] : List D)).flatten = [] := by simp
          rw [e]
          exact .tup tx .nil
        · have e : (List.replicate (1 : Int).toNat a).flatten = a := by
            show (List.replicate 1 a).flatten = a
            simp
          rw [e]
          exact .tup tx rx
      · by_cases h2 : n ≤ 0
        · refine .inr (.inr (.inr (.inl ⟨u, n, xs, rfl, rt_int hy, tx.sq, fun e => h1 (.inl e), hm.1, h2, fun p hp => k _ _ (same_upd hp) ?_⟩)))
          have e : n.toNat = 0 := by omega
          rw [e]
          exact new_tup hp .nil
        · exact .inr (.inl ⟨u, n, xs, rfl, rt_int hy, tx.sq, List.length_pos_iff.mpr fun e => h1 (.inl e), ⟨(by have := fun e => h1 (.inr e); omega), hm.2.1⟩, by rw [rx.len]; exact hm.2.2, fun p hp => k _ _ (same_upd hp) (new_tup hp (rx.rep _))⟩)
    · cases hz
  · split at hz
    · rename_i a n hm
      cases hz
      obtain ⟨u, xs, rfl, tx, rx⟩ := rt_lst hx
      exact .inr (.inr (.inl ⟨u, n, xs, rfl, rt_int hy, tx, hm.1, hm.2.1, by rw [rx.len]; exact hm.2.2, fun p hp => k _ _ (same_upd hp) (new_lst hp (fr p hp) (rx.rep _))⟩))
    · cases hz
  · cases hz
/-- of small positive divisors -/
def opDiv : D → D → Option D
  | .int a, .int b => if 0 < b ∧ b < 1073741824 then some (.int (a / b)) else none
  | _, _ => none
theorem od_div {B : Bs} : OpD B (rI CDiv fun i j => .int (i / j)) opDiv := by
  intro A N H x y p q z Q fr hz hx hy k
  unfold opDiv at hz
  split at hz
  · split at hz
    · rename_i a b hm
      cases hz
      exact ⟨_, _, rt_int hx, rt_int hy, hm, k _ H (Same.refl H) (.int _)⟩
    · cases hz
  · cases hz
def opMod : D → D → Option D
  | .int a, .int b => if 0 < b then some (.int (a % b)) else none
  | _, _ => none
theorem od_mod {B : Bs} : OpD B (rI (fun _ j => 0 < j) fun i j => .int (i % j)) opMod := by
  intro A N H x y p q z Q fr hz hx hy k
  unfold opMod at hz
  split at hz
  · split at hz
    · rename_i a b hm
      cases hz
      exact ⟨_, _, rt_int hx, rt_int hy, hm, k _ H (Same.refl H) (.int _)⟩
    · cases hz
  · cases hz
def opPow : D → D → Option D
  | .int a, .int b => if 0 ≤ b ∧ b ≤ 1000000 ∧ a.natAbs < 2 ^ 64 then some (.int (a ^ b.toNat)) else none
  | _, _ => none
theorem od_pow {B : Bs} : OpD B (rI CPow fun i j => .int (i ^ j.toNat)) opPow := by
  intro A N H x y p q z Q fr hz hx hy k
  unfold opPow at hz
  split at hz
  · split at hz
    · rename_i a b hm
      cases hz
      exact ⟨_, _, rt_int hx, rt_int hy, hm, k _ H (Same.refl H) (.int _)⟩
    · cases hz
  · cases hz
def opNeg : D → Option D
  | .int a => some (.int (-a))
  | _ => none
theorem ud_neg {B : Bs} : UnD B (rU fun i => .int (-i)) opNeg := by
  intro A N H x p z Q fr hz hx k
  unfold opNeg at hz
  split at hz
  · cases hz
    exact ⟨_, rt_int hx, k _ H (Same.refl H) (.int _)⟩
  · cases hz
def opRel (f : Int → Int → Bool) : D → D → Option D
  | .int a, .int b => some (.bool (f a b))
  | _, _ => none
theorem od_rel {B : Bs} {f : Int → Int → Bool} : OpD B (rI0 fun i j => .bl (f i j)) (opRel f) := by
  intro A N H x y p q z Q fr hz hx hy k
  unfold opRel at hz
  split at hz
  · cases hz
    exact ⟨_, _, rt_int hx, rt_int hy, k _ H (Same.refl H) (.bl _)⟩
  · cases hz
def opEq : D → D → Option D := fun d e => if SeqAt.shaped d && SeqAt.shaped e then some (.bool (PyData.eqv d e)) else none
theorem od_eq {B : Bs} : OpD B (rEqD B.K) opEq := by
  intro A N H x y p q z Q fr hz hx hy k
  unfold opEq at hz
  split at hz
  · rename_i h
    cases hz
    rw [Bool.and_eq_true] at h
    exact ⟨p, q, rt_dp hx (SeqAt.canLay_of_shaped h.1), rt_dp hy (SeqAt.canLay_of_shaped h.2), h.1, h.2, k _ H (Same.refl H) (.bl _)⟩
  · cases hz
def opNe : D → D → Option D := fun d e => if SeqAt.shaped d && SeqAt.shaped e then some (.bool (!PyData.eqv d e)) else none
theorem od_ne {B : Bs} : OpD B (rNeD B.K) opNe := by
  intro A N H x y p q z Q fr hz hx hy k
  unfold opNe at hz
  split at hz
  · rename_i h
    cases hz
    rw [Bool.and_eq_true] at h
    exact ⟨p, q, rt_dp hx (SeqAt.canLay_of_shaped h.1), rt_dp hy (SeqAt.canLay_of_shaped h.2), h.1, h.2, k _ H (Same.refl H) (.bl _)⟩
  · cases hz
def isNone : D → Bool
  | .none => true
  | _ => false
theorem rt_isNone {B : Bs} {A : Addr → Prop} {N : Addr → Prop} {H : Hp} {x : V} {d : D} (h : RtV B A N H x (.d d)) : decide (x = .non) = isNone d := by
  cases h with
  | of h => cases h <;> simp [isNone]
  | lst _ _ _ => simp [isNone]
  | dic _ _ _ => simp [isNone]
  | dct _ _ _ _ => simp [isNone]
def opIs : D → D → Option D
  | d, .none => some (.bool (isNone d))
  | .bool a, .bool b => some (.bool (a == b))
  | _, _ => none
def opIsNot : D → D → Option D
  | d, .none => some (.bool (!isNone d))
  | .bool a, .bool b => some (.bool (!(a == b)))
  | _, _ => none
theorem bl_beq (a b : Bool) : (Value.bool a == Value.bool b) = (a == b) := by cases a <;> cases b <;> decide
abbrev rIsA : R2 := fun x y H Q => (y = .non ∧ Q (.bl (decide (x = .non))) H) ∨ ∃ a b, x = .bl a ∧ y = .bl b ∧ Q (.bl (a == b)) H
abbrev rIsNotA : R2 := fun x y H Q => (y = .non ∧ Q (.bl (!decide (x = .non))) H) ∨ ∃ a b, x = .bl a ∧ y = .bl b ∧ Q (.bl (!(a == b))) H
theorem op_isA {X : Cx} : OpR X (compareOp .Is) rIsA := by
  intro pins s σ H x y v u Q I rx ry h
  rcases h with h | h
  · exact op_isN pins s σ H x y v u Q I rx ry h
  · obtain ⟨a, b, rfl, rfl, q⟩ := h
    cases (show v = Value.bool a from rx)
    cases (show u = Value.bool b from ry)
    exact wpAny_is_plain rfl (fin_bl I q (bl_beq a b).symm)
theorem op_isnotA {X : Cx} : OpR X (compareOp .IsNot) rIsNotA := by
  intro pins s σ H x y v u Q I rx ry h
  rcases h with h | h
  · exact op_notN pins s σ H x y v u Q I rx ry h
  · obtain ⟨a, b, rfl, rfl, q⟩ := h
    cases (show v = Value.bool a from rx)
    cases (show u = Value.bool b from ry)
    exact wpAny_isNot_plain rfl (fin_bl I q (congrArg not (bl_beq a b).symm))
theorem od_is {B : Bs} : OpD B rIsA opIs := by
  intro A N H x y p q z Q fr hz hx hy k
  unfold opIs at hz
  split at hz
  · cases hz
    exact .inl ⟨rt_non hy, by rw [rt_isNone hx]; exact k _ H (Same.refl H) (.bl _)⟩
  · cases hz
    exact .inr ⟨_, _, rt_bl hx, rt_bl hy, k _ H (Same.refl H) (.bl _)⟩
  · cases hz
theorem od_isnot {B : Bs} : OpD B rIsNotA opIsNot := by
  intro A N H x y p q z Q fr hz hx hy k
  unfold opIsNot at hz
  split at hz
  · cases hz
    exact .inl ⟨rt_non hy, by rw [rt_isNone hx]; exact k _ H (Same.refl H) (.bl _)⟩
  · cases hz
    exact .inr ⟨_, _, rt_bl hx, rt_bl hy, k _ H (Same.refl H) (.bl _)⟩
  · cases hz
section
variable {X : Cx} {E : XK} {e a b c : Expr} {f fa fb fc : Ex S} {pos : Pos} {B : Bs}
theorem de_add (hB : B.K = X.K) (ha : DB X B E a fa) (hb : DB X B E b fb) : DE X B E (.BinOp a .Add b pos) (eBin opAdd fa fb) := de_bin od_add (by rw [hB]; exact pe_op op_addA ha hb)
theorem de_sub (ha : DB X B E a fa) (hb : DB X B E b fb) : DE X B E (.BinOp a .Sub b pos) (eBin opSub fa fb) := de_bin od_sub (pe_op op_sub ha hb)
theorem de_mul (hB : B.K = X.K) (ha : DB X B E a fa) (hb : DB X B E b fb) : DE X B E (.BinOp a .Mult b pos) (eBin opMul fa fb) := de_bin od_mul (by rw [hB]; exact pe_op op_mulA ha hb)
theorem de_div (ha : DB X B E a fa) (hb : DB X B E b fb) : DE X B E (.BinOp a .FloorDiv b pos) (eBin opDiv fa fb) := de_bin od_div (pe_op op_fdiv ha hb)
theorem de_mod (ha : DB X B E a fa) (hb : DB X B E b fb) : DE X B E (.BinOp a .Mod b pos) (eBin opMod fa fb) := de_bin od_mod (pe_op op_mod ha hb)
theorem de_pow (ha : DB X B E a fa) (hb : DB X B E b fb) : DE X B E (.BinOp a .Pow b pos) (eBin opPow fa fb) := de_bin od_pow (pe_op op_pow ha hb)
theorem de_neg (ha : DB X B E a fa) : DE X B E (.UnaryOp .USub a pos) (eUn opNeg fa) := de_un ud_neg (pe_un un_neg ha)
structure CmpD (X : Cx) (B : Bs) (op : CmpOp) (f : D → D → Option D) : Prop where
  ex : ∃ r : R2, OpR X (compareOp op) r ∧ OpD B r f
theorem cd_lt : CmpD X B .Lt (opRel fun i j => decide (i < j)) := ⟨_, op_lt, od_rel⟩
theorem cd_le : CmpD X B .LtE (opRel fun i j => decide (i ≤ j)) := ⟨_, op_le, od_rel⟩
theorem cd_gt : CmpD X B .Gt (opRel fun i j => decide (j < i)) := ⟨_, op_gt, od_rel⟩
theorem cd_ge : CmpD X B .GtE (opRel fun i j => decide (j ≤ i)) := ⟨_, op_ge, od_rel⟩
theorem cd_eq (hB : B.K = X.K) (hu : X.A.units + 64 < cLine) : CmpD X B .Eq opEq := ⟨_, op_eqD hu, by rw [← hB]; exact od_eq⟩
theorem cd_ne (hB : B.K = X.K) (hu : X.A.units + 64 < cLine) : CmpD X B .NotEq opNe := ⟨_, op_neD hu, by rw [← hB]; exact od_ne⟩
theorem cd_is : CmpD X B .Is opIs := ⟨_, op_isA, od_is⟩
theorem cd_isnot : CmpD X B .IsNot opIsNot := ⟨_, op_isnotA, od_isnot⟩
theorem de_cmp {op : CmpOp} {g : D → D → Option D} (hc : CmpD X B op g) (ha : DB X B E a fa) (hb : DB X B E b fb) (hm : behindInMarks op b = false := by first | exact nomark _ | rfl) : DE X B E (.Compare a [op] [b] pos) (eBin g fa fb) := by
  obtain ⟨r, h1, h2⟩ := hc
  exact de_bin h2 (pe_cmpR h1 ha hb hm)
/-- an expression whose value is a truth -/
def tOf (f : Ex S) : Tx S := fun ρ s => (f ρ s).bind fun y s1 => match y with
  | .d (.bool b) => .ok b s1
  | _ => .bad
/-- from a value's reading to a test's -/
theorem tT_of (f : Ex S) {σ : Sg} {H : Hp} {Q : Bool → Hp → Prop} (h : tT B E (tOf f) σ H Q) : tB B E f σ H fun x H' => ∃ k, x = .bl k ∧ Q k H' := by
  obtain ⟨G, own, ρ, s, R, q⟩ := h
  refine tB.run R _ q.bnd fun y s1 v H1 q1 k1 r1 R1 => ?_
  cases y with
  | r _ => exact q1.elim
  | o _ _ => exact q1.elim
  | p _ => exact q1.elim
  | f _ => exact q1.elim
  | d p =>
    cases p with
    | bool b => exact ⟨b, rt_bl r1, q1 H1 k1⟩
    | _ => exact q1.elim
theorem dt_cmp {op : CmpOp} {g : D → D → Option D} (hc : CmpD X B op g) (ha : DB X B E a fa) (hb : DB X B E b fb) (hm : behindInMarks op b = false := by first | exact nomark _ | rfl) : DT X B E (.Compare a [op] [b] pos) (tOf (eBin g fa fb)) := by
  obtain ⟨r, h1, h2⟩ := hc
  refine pt_imp (pt_cmpR h1 ha hb hm) fun σ H Q h => ?_
  obtain ⟨G, own, ρ, s, R, q⟩ := h
  refine tB.run R _ q.bnd.bnd fun y s1 v H1 q1 k1 r1 R1 => ?_
  refine tB.run R1 _ q1.bnd fun z s2 w H2 q2 k2 r2 R2 => ?_
  cases y with
  | r _ => exact q2.elim
  | o _ _ => exact q2.elim
  | p _ => exact q2.elim
  | f _ => exact q2.elim
  | d p =>
    cases z with
    | r _ => exact q2.elim
    | o _ _ => exact q2.elim
    | p _ => exact q2.elim
    | f _ => exact q2.elim
    | d q =>
      cases hz : g p q with
      | none => simp only [hz] at q2; exact q2.elim
      | some d =>
        simp only [hz] at q2
        refine h2 _ G.A0 H2 v w p q d _ (fun _ hp => R2.fresh hp) hz (r1.kp R1 k2) r2 fun u H3 sm rp => ?_
        cases d with
        | bool b =>
          cases rp
          exact ⟨b, rfl, q2 H3 ((k1.trans k2).trans (R2.same sm))⟩
        | _ => exact q2.elim
theorem dt_val (h : DB X B E e f) (he : ∀ whole, isTrue e X.env whole = (do let v ← whole; standAt e.pos; holding [v] (truthy v)) := by intro _; rfl) : DT X B E e (tOf f) :=
  pt_imp (pt_val h he) fun σ H Q q => tT_of f q
def xNot (f : Tx S) : Tx S := fun ρ s => (f ρ s).bind fun b s1 => .ok (!b) s1
def xAnd (f g : Tx S) : Tx S := fun ρ s => (f ρ s).bind fun b s1 => if b then g ρ s1 else .ok false s1
def xOr (f g : Tx S) : Tx S := fun ρ s => (f ρ s).bind fun b s1 => if b then .ok true s1 else g ρ s1
theorem dt_not {f : Tx S} (h : DT X B E a f) : DT X B E (.UnaryOp .Not a pos) (xNot f) := by
  refine pt_imp (pt_not h) fun σ H Q ⟨G, own, ρ, s, R, q⟩ => ?_
  refine tT.run R _ q.bnd fun y s1 H1 q1 k1 R1 => ?_
  exact q1 H1 k1
abbrev DW (X : Cx) (B : Bs) (E : XK) (e : Expr) (f : Tx S) : Prop := PW X e (tT B E f)
theorem dw_and1 {f : Tx S} (h : DT X B E a f) : DW X B E (.BoolOp .And [a] pos) f := pw_and1 h
theorem dw_or1 {f : Tx S} (h : DT X B E a f) : DW X B E (.BoolOp .Or [a] pos) f := pw_or1 h
theorem dw_and {f g : Tx S} {rest : List Expr} (h : DT X B E a f) (hb : DW X B E (.BoolOp .And (b :: rest) pos) g) : DW X B E (.BoolOp .And (a :: b :: rest) pos) (xAnd f g) := by
  refine pw_imp (pw_and h hb) fun σ H Q ⟨G, own, ρ, s, R, q⟩ => ?_
  refine tT.run R _ q.bnd fun y s1 H1 q1 k1 R1 => ?_
  cases y with
  | true =>
    rw [if_pos rfl] at q1 ⊢
    exact tT.run R1 _ q1 fun z s2 H2 q2 k2 R2 => q2 H2 (k1.trans k2)
  | false => exact q1 H1 k1
theorem dw_or {f g : Tx S} {rest : List Expr} (h : DT X B E a f) (hb : DW X B E (.BoolOp .Or (b :: rest) pos) g) : DW X B E (.BoolOp .Or (a :: b :: rest) pos) (xOr f g) := by
  refine pw_imp (pw_or h hb) fun σ H Q ⟨G, own, ρ, s, R, q⟩ => ?_
  refine tT.run R _ q.bnd fun y s1 H1 q1 k1 R1 => ?_
  cases y with
  | false =>
    rw [if_neg Bool.false_ne_true] at q1 ⊢
    exact tT.run R1 _ q1 fun z s2 H2 q2 k2 R2 => q2 H2 (k1.trans k2)
  | true => exact q1 H1 k1
theorem dt_bool {op : BoolOp} {es : List Expr} {f : Tx S} (h : DW X B E (.BoolOp op es pos) f) : DT X B E (.BoolOp op es pos) f := h.pt
def eNot (f : Ex S) : Ex S := fun ρ s => (f ρ s).bind fun y s1 => match y with
  | .d (.bool b) => .ok (.d (.bool (!b))) s1
  | _ => .bad
def eAnd (f g : Ex S) : Ex S := fun ρ s => (f ρ s).bind fun y s1 => match y with
  | .d (.bool b) => if b then g ρ s1 else .ok (.d (.bool false)) s1
  | _ => .bad
def eOr (f g : Ex S) : Ex S := fun ρ s => (f ρ s).bind fun y s1 => match y with
  | .d (.bool b) => if b then .ok (.d (.bool true)) s1 else g ρ s1
  | _ => .bad
theorem de_not (h : DB X B E a fa) : DE X B E (.UnaryOp .Not a pos) (eNot fa) := by
  refine pe_imp (pe_not h) fun σ H Q ⟨G, own, ρ, s, R, q⟩ => ?_
  refine tB.run R _ q.bnd fun y s1 v H1 q1 k1 r1 R1 => ?_
  cases y with
  | r _ => exact q1.elim
  | o _ _ => exact q1.elim
  | p _ => exact q1.elim
  | f _ => exact q1.elim
  | d p =>
    cases p with
    | bool b => exact ⟨b, rt_bl r1, q1 _ H1 k1 (.bl _)⟩
    | _ => exact q1.elim
theorem de_one {op : BoolOp} (h : DE X B E a fa) : DE X B E (.BoolOp op [a] pos) fa := pe_one h
theorem de_and {rest : List Expr} (h : DB X B E a fa) (hb : DE X B E (.BoolOp .And (b :: rest) pos) fb) : DE X B E (.BoolOp .And (a :: b :: rest) pos) (eAnd fa fb) := by
  refine pe_imp (pe_and h hb) fun σ H Q ⟨G, own, ρ, s, R, q⟩ => ?_
  refine tB.run R _ q.bnd fun y s1 v H1 q1 k1 r1 R1 => ?_
  cases y with
  | r _ => exact q1.elim
  | o _ _ => exact q1.elim
  | p _ => exact q1.elim
  | f _ => exact q1.elim
  | d p =>
    cases p with
    | bool b =>
      refine ⟨b, rt_bl r1, ?_⟩
      cases b with
      | true =>
        simp only [if_true] at q1 ⊢
        exact tD.run R1 _ q1 fun z s2 w H2 q2 k2 r2 R2 => q2 w H2 (k1.trans k2) r2
      | false => exact q1 _ H1 k1 (.bl _)
    | _ => exact q1.elim
theorem de_or {rest : List Expr} (h : DB X B E a fa) (hb : DE X B E (.BoolOp .Or (b :: rest) pos) fb) : DE X B E (.BoolOp .Or (a :: b :: rest) pos) (eOr fa fb) := by
  refine pe_imp (pe_or h hb) fun σ H Q ⟨G, own, ρ, s, R, q⟩ => ?_
  refine tB.run R _ q.bnd fun y s1 v H1 q1 k1 r1 R1 => ?_
  cases y with
  | r _ => exact q1.elim
  | o _ _ => exact q1.elim
  | p _ => exact q1.elim
  | f _ => exact q1.elim
  | d p =>
    cases p with
    | bool b =>
      refine ⟨b, rt_bl r1, ?_⟩
      cases b with
      | false =>
        simp only [Bool.false_eq_true, if_false] at q1 ⊢
        exact tD.run R1 _ q1 fun z s2 w H2 q2 k2 r2 R2 => q2 w H2 (k1.trans k2) r2
      | true => exact q1 _ H1 k1 (.bl _)
    | _ => exact q1.elim
/-- a if c else b -/
def eIf (c : Tx S) (fa fb : Ex S) : Ex S := fun ρ s => (c ρ s).bind fun k s1 => if k then fa ρ s1 else fb ρ s1
theorem de_if {fc : Tx S} (hc : DT X B E c fc) (ha : DE X B E a fa) (hb : DE X B E b fb) : DE X B E (.IfExp c a b pos) (eIf fc fa fb) := by
  refine pe_imp (pe_ifExp hc ha hb) fun σ H Q ⟨G, own, ρ, s, R, q⟩ => ?_
  refine tT.run R _ q.bnd fun y s1 H1 q1 k1 R1 => ?_
  cases y with
  | true => exact tD.run R1 _ q1 fun z s2 w H2 q2 k2 r2 R2 => q2 w H2 (k1.trans k2) r2
  | false => exact tD.run R1 _ q1 fun z s2 w H2 q2 k2 r2 R2 => q2 w H2 (k1.trans k2) r2
/-- a <= b <= c -/
def eChain (g g' : D → D → Option D) (fa fb fc : Ex S) : Ex S := fun ρ s => (fa ρ s).bind fun x s1 => (fb ρ s1).bind fun y s2 => match x, y with
  | .d p, .d q => (match g p q with
    | some (.bool true) => (fc ρ s2).bind fun z s3 => (match z with
      | .d r => (match g' q r with
        | some d => .ok (.d d) s3
        | none => .bad)
      | _ => .bad)
    | some (.bool false) => .ok (.d (.bool false)) s2
    | _ => .bad)
  | _, _ => .bad
theorem chain_of {r r' : R2} {g g' : D → D → Option D} (h2 : OpD B r g) (h2' : OpD B r' g') {σ : Sg} {H : Hp} {Q : VK} (h : tD B E (eChain g g' fa fb fc) σ H Q) : tChain r r' (tB B E fa) (tB B E fb) (tB B E fc) σ H Q := by
  obtain ⟨G, own, ρ, s, R, q⟩ := h
  refine tB.run R _ q.bnd fun y s1 v H1 q1 k1 r1 R1 => ?_
  refine tB.run R1 _ q1.bnd fun z s2 w H2 q2 k2 r2 R2 => ?_
  cases y with
  | r _ => exact q2.elim
  | o _ _ => exact q2.elim
  | p _ => exact q2.elim
  | f _ => exact q2.elim
  | d p =>
    cases z with
    | r _ => exact q2.elim
    | o _ _ => exact q2.elim
    | p _ => exact q2.elim
    | f _ => exact q2.elim
    | d q =>
      cases hz : g p q with
      | none => simp only [hz] at q2; exact q2.elim
      | some d =>
        simp only [hz] at q2
        refine h2 _ G.A0 H2 v w p q d _ (fun _ hp => R2.fresh hp) hz (r1.kp R1 k2) r2 fun u H3 sm rp => ?_
        have st3 := R2.same sm
        cases d with
        | bool b =>
          cases rp
          refine ⟨b, rfl, ?_⟩
          cases b with
          | false => exact q2 _ H3 ((k1.trans k2).trans st3) (.bl _)
          | true =>
            rw [if_pos rfl]
            refine tB.run (R2.stp st3) _ q2.bnd fun z s4 w4 H4 q4 k4 r4 R4 => ?_
            cases z with
            | r _ => exact q4.elim
            | o _ _ => exact q4.elim
            | p _ => exact q4.elim
            | f _ => exact q4.elim
            | d t =>
              cases hz' : g' q t with
              | none => simp only [hz'] at q4; exact q4.elim
              | some d =>
                simp only [hz'] at q4
                exact h2' _ G.A0 H4 w w4 q t d _ (fun _ hp => R4.fresh hp) hz' ((r2.kp R2 st3).kp (R2.stp st3) k4) r4 fun u H5 sm rp => q4 u H5 ((((k1.trans k2).trans st3).trans k4).trans (R4.same sm)) rp
        | _ => exact q2.elim
theorem de_chain {op op' : CmpOp} {g g' : D → D → Option D} (hc : CmpD X B op g) (hc' : CmpD X B op' g') (ha : DB X B E a fa) (hb : DB X B E b fb) (hcc : DB X B E c fc) (hm : lastMarks [op, op'] [b, c] = false := by with_unfolding_all rfl) : DE X B E (.Compare a [op, op'] [b, c] pos) (eChain g g' fa fb fc) := by
  obtain ⟨r, h1, h2⟩ := hc
  obtain ⟨r', h1', h2'⟩ := hc'
  exact pe_imp (pe_chain h1 h1' ha hb hcc (hm := hm)) fun σ H Q h => chain_of h2 h2' h
theorem dt_chain {op op' : CmpOp} {g g' : D → D → Option D} (hc : CmpD X B op g) (hc' : CmpD X B op' g') (ha : DB X B E a fa) (hb : DB X B E b fb) (hcc : DB X B E c fc) (hm : lastMarks [op, op'] [b, c] = false := by with_unfolding_all rfl) : DT X B E (.Compare a [op, op'] [b, c] pos) (tOf (eChain g g' fa fb fc)) := by
  obtain ⟨r, h1, h2⟩ := hc
  obtain ⟨r', h1', h2'⟩ := hc'
  refine pt_imp (pt_chain h1 h1' ha hb hcc (hm := hm)) fun σ H Q h => ?_
  obtain ⟨G, own, ρ, s, R, q⟩ := h
  refine chain_of h2 h2' ⟨G, own, ρ, s, R, q.bnd.mono fun y s' q v H' k r => ?_⟩
  cases y with
  | r _ => exact q.elim
  | o _ _ => exact q.elim
  | p _ => exact q.elim
  | f _ => exact q.elim
  | d p =>
    cases p with
    | bool b => cases r; exact ⟨b, rfl, q H' k⟩
    | _ => exact q.elim
/-- data of values -/
def datas : List Val → Option (List D)
  | [] => some []
  | .d x :: r => (datas r).map (x :: ·)
  | _ :: _ => none
inductive RvL (B : Bs) (A : Addr → Prop) (H : Hp) : List V → List Val → Prop
  | nil : RvL B A H [] []
  | cons {v : V} {y : Val} {vs : List V} {ys : List Val} (h : RvV B A H v y) (t : RvL B A H vs ys) : RvL B A H (v :: vs) (y :: ys)
theorem RvL.datas {A : Addr → Prop} {H : Hp} : ∀ {vs : List V} {ys : List Val} {ds : List D}, RvL B A H vs ys → datas ys = some ds → RpL B A H vs ds
  | _, _, _, .nil, e => by cases e; exact .nil
  | _, _, _, .cons (y := y) h t, e => by
    cases y with
    | r _ => cases e
    | o _ _ => cases e
    | p _ => cases e
    | f _ => cases e
    | d x =>
      simp only [DL.datas, Option.map_eq_some_iff] at e
      obtain ⟨r, e1, rfl⟩ := e
      exact .cons h (RvL.datas t e1)
theorem RtL.datas {A : Addr → Prop} {N : Addr → Prop} {H : Hp} : ∀ {vs : List V} {ys : List Val} {ds : List D}, RtL B A N H vs ys → datas ys = some ds → RtL B A N H vs (ds.map .d)
  | _, _, _, .nil, e => by cases e; exact .nil
  | _, _, _, .cons (y := y) h t, e => by
    cases y with
    | r _ => cases e
    | o _ _ => cases e
    | p _ => cases e
    | f _ => cases e
    | d x =>
      simp only [DL.datas, Option.map_eq_some_iff] at e
      obtain ⟨r, e1, rfl⟩ := e
      exact .cons h (RtL.datas t e1)
def tVs (B : Bs) (E : XK) (f : Exs S) : TA := fun σ H Q => ∃ G own ρ s, Rel B G own ρ s σ H ∧ (f ρ s).sat (fun y s' => ∀ v H', Stp G s' H H' → RvL B (Av G own) H' v y → Q v H') fun e s' => ExW B G E e s'
abbrev DV (X : Cx) (B : Bs) (E : XK) (es : List Expr) (f : Exs S) : Prop := PA X es (tVs B E f)
theorem dv_nil : DV X B E [] (aNil : Exs S) := by
  refine pa_imp pa_nil fun σ H Q ⟨G, own, ρ, s, R, q⟩ => ?_
  exact q [] H R.refl .nil
theorem dv_cons {es : List Expr} {g : Exs S} (h : DE X B E e f) (hs : DV X B E es g) (hst : starEach (e :: es) X.env = (false, eval e X.env) :: starEach es X.env := by rfl) : DV X B E (e :: es) (aCons f g) := by
  refine pa_imp (pa_cons h hs hst) fun σ H Q ⟨G, own, ρ, s, R, q⟩ => ?_
  refine tD.run R _ q.bnd fun y s1 v H1 q1 k1 r1 R1 => ?_
  refine ⟨G, own, ρ, s1, R1, q1.bnd.mono fun z s2 q2 w H2 k2 r2 => ?_⟩
  exact q2 _ _ (k1.trans k2) (.cons (r1.kp (R1.kp k2)) r2)
def eSeq (mk : List D → D) (g : Exs S) : Ex S := fun ρ s => (g ρ s).bind fun ys s1 => match datas ys with
  | some ds => if ds.length ≤ sizeLine then .ok (.d (mk ds)) s1 else .bad
  | none => .bad
theorem de_tup {es : List Expr} {g : Exs S} {k : Nat} (h : DV X B E es g) : DE X B E (.Tuple es k pos) (eSeq .tuple g) := by
  refine pe_imp (pe_tup h) fun σ H Q ⟨G, own, ρ, s, R, q⟩ => ?_
  refine ⟨G, own, ρ, s, R, q.bnd.mono fun z s2 q2 w H2 k2 r2 => ?_⟩
  cases e : datas z with
  | none => simp only [e] at q2; exact q2.elim
  | some ds =>
    have rl := r2.datas e
    simp only [e] at q2
    split at q2
    · rename_i hl
      exact ⟨by rw [rl.len]; exact hl, fun p hp => q2 _ _ (k2.trans ((R.stp k2).put hp)) (new_tup hp rl)⟩
    · exact q2.elim
def opIx : D → D → Option D
  | .list ds, .int i => atI ds i
  | .tuple ds, .int i => atI ds i
  | .str z, .int i => if z.length ≤ sizeLine then (atI z.cps.toList i).map fun c => .str ⟨#[c]⟩ else none
  | _, _ => none
theorem RpL.atI {A : Addr → Prop} {H : Hp} {xs : List V} {ds : List D} (r : RpL B A H xs ds) {i : Int} {d : D} (h : atI ds i = some d) : ∃ x, L2.atI xs i = some x ∧ Rp B A H x d := by
  unfold L2.atI at h ⊢
  rw [r.len]
  cases e : ixN ds.length i with
  | none => rw [e] at h; cases h
  | some j =>
    rw [e] at h
    exact r.get' (show ds[j]? = some d from h)
theorem od_ix : OpD B (rIx B.K) opIx := by
  intro A N H x y p q z Q fr hz hx hy k
  unfold opIx at hz
  split at hz
  · obtain ⟨u, xs, rfl, tx, rx⟩ := rt_lst hx
    obtain ⟨v, e, r⟩ := rx.atI hz
    exact .inl ⟨u, xs, _, v, rfl, rt_int hy, SqL.of tx, e, k _ H (Same.refl H) r⟩
  · obtain ⟨u, xs, rfl, tx, rx⟩ := rt_tup hx
    obtain ⟨v, e, r⟩ := rx.atI hz
    exact .inr (.inl ⟨u, xs, _, v, rfl, rt_int hy, tx.sq, e, k _ H (Same.refl H) r⟩)
  · split at hz
    · rename_i hl
      obtain ⟨c, e, rfl⟩ := Option.map_eq_some_iff.mp hz
      exact .inr (.inr ⟨_, _, c, rt_str hx, rt_int hy, hl, e, k _ H (Same.refl H) (.str _)⟩)
    · cases hz
  · cases hz
theorem de_ix (hB : B.K = X.K) (ha : DB X B E a fa) (hb : DB X B E b fb) (hs : PlainIx b := by first | exact fun _ _ => rfl) : DE X B E (.Subscript a b pos) (eBin opIx fa fb) := de_bin od_ix (by rw [hB]; exact pe_ix ix_seq ha hb hs)
def cutL {α : Type} (xs : List α) (lo hi : Option Int) : List α := (xs.drop (HT.sIx xs.length 0 lo)).take (HT.sIx xs.length xs.length hi - HT.sIx xs.length 0 lo)
theorem RpL.cut {A : Addr → Prop} {H : Hp} {xs : List V} {ds : List D} (r : RpL B A H xs ds) (lo hi : Option Int) : RpL B A H (cutV xs lo hi) (cutL ds lo hi) := by
  unfold cutV cutL
  rw [r.len]
  exact (r.drop _).take _
/-- a part of a slice -/
abbrev Ox (S : Type) := Env → S → Out S (Option Int)
def oNone : Ox S := fun _ s => .ok none s
def oSome (f : Ex S) : Ox S := fun ρ s => (f ρ s).bind fun y s1 => match y with
  | .d (.int i) => .ok (some i) s1
  | _ => .bad
def tO (B : Bs) (E : XK) (f : Ox S) : TO := fun σ H Q => ∃ G own ρ s, Rel B G own ρ s σ H ∧ (f ρ s).sat (fun y s' => ∀ H', Stp G s' H H' → Q y H') fun e s' => ExW B G E e s'
abbrev DO (X : Cx) (B : Bs) (E : XK) (e : Option Expr) (f : Ox S) : Prop := PO X e (tO B E f)
theorem po_imp {e : Option Expr} {t t' : TO} (h : PO X e t) (i : ∀ σ H Q, t' σ H Q → t σ H Q) : PO X e t' := ⟨fun pins s σ H Q I q => h.run pins s σ H Q I (i σ H Q q)⟩
theorem do_none : DO X B E none (oNone : Ox S) := po_imp po_none fun σ H Q ⟨G, own, ρ, s, R, q⟩ => q H R.refl
theorem do_some (h : DB X B E e f) : DO X B E (some e) (oSome f) := by
  refine po_imp (po_some h) fun σ H Q ⟨G, own, ρ, s, R, q⟩ => ?_
  refine tB.run R _ q.bnd fun y s1 v H1 q1 k1 r1 R1 => ?_
  cases y with
  | r _ => exact q1.elim
  | o _ _ => exact q1.elim
  | p _ => exact q1.elim
  | f _ => exact q1.elim
  | d p =>
    cases p with
    | int i => exact ⟨i, rt_int r1, q1 H1 k1⟩
    | _ => exact q1.elim
def opSl : D → Option Int → Option Int → Option D
  | .list ds, lo, hi => some (.list (cutL ds lo hi))
  | .tuple ds, lo, hi => some (.tuple (cutL ds lo hi))
  | _, _, _ => none
def eSl (fa : Ex S) (fl fh : Ox S) : Ex S := fun ρ s => (fa ρ s).bind fun x s1 => (fl ρ s1).bind fun l s2 => (fh ρ s2).bind fun h s3 => match x with
  | .d p => (match opSl p l h with
    | some d => .ok (.d d) s3
    | none => .bad)
  | _ => .bad
theorem de_sl {lo hi : Option Expr} {p2 : Pos} {fl fh : Ox S} (hB : B.K = X.K) (ha : DB X B E a fa) (hl : DO X B E lo fl) (hh : DO X B E hi fh) : DE X B E (.Subscript a (.Slice lo hi none p2) pos) (eSl fa fl fh) := by
  refine pe_imp (pe_slice (sl_tupA.or sl_list) ha hl hh) fun σ H Q ⟨G, own, ρ, s, R, q⟩ => ?_
  refine tB.run R _ q.bnd fun y s1 v H1 q1 k1 r1 R1 => ?_
  refine ⟨G, own, ρ, s1, R1, q1.bnd.mono fun l s2 q2 H2 k2 => ?_⟩
  have R2 := R1.stp k2
  refine ⟨G, own, ρ, s2, R2, q2.bnd.mono fun h s3 q3 H3 k3 => ?_⟩
  have R3 := R2.stp k3
  have r3 := (r1.kp R1 k2).kp R2 k3
  have k13 := (k1.trans k2).trans k3
  cases y with
  | r _ => exact q3.elim
  | o _ _ => exact q3.elim
  | p _ => exact q3.elim
  | f _ => exact q3.elim
  | d p =>
    cases p with
    | tuple ds =>
      obtain ⟨u, xs, rfl, tx, rx⟩ := rt_tup r3
      refine .inl ⟨u, xs, rfl, by rw [← hB]; exact tx.sq, fun hw => ?_, fun _ p hp => ?_⟩
      · refine q3 _ H3 k13 (.tup tx ?_)
        have e : cutV xs l h = xs := by
          unfold cutV
          rw [hw.1, hw.2]
          simp
        have := rx.cut l h
        rw [e] at this
        exact this
      · exact q3 _ _ (k13.trans (R3.put hp)) (new_tup hp (rx.cut l h))
    | list ds =>
      obtain ⟨u, xs, rfl, tx, rx⟩ := rt_lst r3
      exact .inr ⟨u, xs, rfl, SqL.of tx, fun p hp => q3 _ _ (k13.trans (R3.put hp)) (new_lst hp (R3.fresh hp) (rx.cut l h))⟩
    | _ => exact q3.elim
def eCall (op : List D → Option D) (g : Exs S) : Ex S := fun ρ s => (g ρ s).bind fun ys s1 => match datas ys with
  | some ds => (match op ds with
    | some z => .ok (.d z) s1
    | none => .bad)
  | none => .bad
def CallD (B : Bs) (r : List V → Hp → VK → Prop) (op : List D → Option D) : Prop := ∀ (A : Addr → Prop) (N : Addr → Prop) (H : Hp) (vs : List V) (ds : List D) (z : D) (Q : VK),
  (∀ p, H p = none → ¬ A p) → op ds = some z → RtL B A N H vs (ds.map .d) → (∀ v H', Same H H' → Rp B A H' v z → Q v H') → r vs H Q
theorem de_of_tCB {g : Exs S} {r : List V → Hp → VK → Prop} {op : List D → Option D} (hr : CallD B r op) {es : List Expr} (h : PE X e (tCB r (tAs B E g))) : DE X B E e (eCall op g) := by
  refine pe_imp h fun σ H Q ⟨G, own, ρ, s, R, q⟩ => ?_
  refine tAs.run R _ q.bnd fun z s2 w H2 q2 k2 r2 R2 => ?_
  cases e : datas z with
  | none => simp only [e] at q2; exact q2.elim
  | some ds =>
    simp only [e] at q2
    cases e2 : op ds with
    | none => simp only [e2] at q2; exact q2.elim
    | some d =>
      simp only [e2] at q2
      exact hr _ G.A0 H2 w ds d Q (fun _ hp => R2.fresh hp) e2 (r2.datas e) fun v H' sm rp => q2 v H' (k2.trans (R2.same sm)) rp
/-- f(e, ..), f a built-in function; T(e, ..), T a built-in type: hc the rule, hr what it is on data -/
theorem de_fun {id : String} {x : Str} {p : Pos} {es : List Expr} {g : Exs S} {r : List V → Hp → VK → Prop} {op : List D → Option D} (hc : CallR X (.builtin id) r) (hr : CallD B r op) (hg : Gl X x) (hm : X.mg x = none) (hv : bootBuiltins x = some (.builtin id))
    (ha : DA X B E (e :: es) g) (hn : x ≠ "__name__" := by decide) (hdb : (x == ("__debug__" : Str)) = false := by decide)
    (he : starEach (e :: es) X.env = (false, eval e X.env) :: starEach es X.env := by rfl) (hpl : (backTo pos (starEach es X.env)).any (·.1) = false := by rfl) : DE X B E (.Call (.Name x p) (e :: es) [] pos) (eCall op g) :=
  de_of_tCB (es := es) hr (pe_callB hc hg hm hv ha hn hdb he hpl)
theorem de_typ {T : String} {x : Str} {p : Pos} {es : List Expr} {g : Exs S} {r : List V → Hp → VK → Prop} {op : List D → Option D} (hc : CallR X (.type T) r) (hr : CallD B r op) (hg : Gl X x) (hm : X.mg x = none) (hv : bootBuiltins x = some (.type T))
    (ha : DA X B E (e :: es) g) (hn : x ≠ "__name__" := by decide) (hdb : (x == ("__debug__" : Str)) = false := by decide)
    (he : starEach (e :: es) X.env = (false, eval e X.env) :: starEach es X.env := by rfl) (hpl : (backTo pos (starEach es X.env)).any (·.1) = false := by rfl) : DE X B E (.Call (.Name x p) (e :: es) [] pos) (eCall op g) :=
  de_of_tCB (es := es) hr (pe_callTy hc hg hm hv ha hn hdb he hpl)
end
end DL
namespace DL
open PySem PySem.Spec PyProof.Rows L2
variable {S : Type} [SI S]
/-- what the context must be -/
structure Ctx (X : Cx) (B : Bs) : Prop where
  hP : B.P = X.prog
  hK : B.K = X.K
  hw : B.w = X.w
  calm : X.calm = true
  nd : X.N.Nodup
  un : X.A.units + 100 < cLine
  gd : X.A.guards = some []
theorem Ctx.blk {X : Cx} {B : Bs} (c : Ctx X B) (s : Shared) (H : Hp) (sc : Scope) (en : PySem.Env) (fp : List Addr) : Ctx (X.blk s H sc en fp) B := ⟨c.hP, c.hK, c.hw, c.calm, c.nd, c.un, c.gd⟩
theorem Ctx.u64 {X : Cx} {B : Bs} (c : Ctx X B) : X.A.units + 64 < cLine := by have := c.un; omega
theorem Ctx.u65 {X : Cx} {B : Bs} (c : Ctx X B) : X.A.units + 65 < cLine := by have := c.un; omega
inductive Fl where
  | nx (ρ : Env)
  | rt (y : Val)
  | rg (y : Val) (ρ : Env)
  | bk (ρ : Env)
  | ct (ρ : Env)
abbrev Sx (S : Type) := Env → S → Out S Fl
/-- from H to H' a statement has changed nothing but the state and what was its own -/
structure Gone (G : Gh) (own own' : Own) (H H' : Hp) : Prop where
  keep : ∀ a o, H a = some o → a ∉ G.dks → (∀ i, own i ≠ some a) → H' a = some o
  news : ∀ i a, own' i = some a → (∃ j, own j = some a) ∨ H a = none
structure FrG (G : Gh) (s' : S) (H' : Hp) : Prop where
  fr : ∀ a o, G.H0 a = some o → a ∉ G.dks → H' a = some o
  dk : SI.dks s' = G.dks
  rs : SI.rep s' H'
def Post (B : Bs) (G : Gh) (own : Own) (H : Hp) (Dd : Ends) (fl : Fl) (s' : S) : Prop := match fl with
  | .nx ρ' => ∀ own' σ' H', Rel B G own' ρ' s' σ' H' → Gone G own own' H H' → Dd.nx σ' H'
  | .bk ρ' => ∀ own' σ' H', Rel B G own' ρ' s' σ' H' → Gone G own own' H H' → Dd.bk σ' H'
  | .ct ρ' => ∀ own' σ' H', Rel B G own' ρ' s' σ' H' → Gone G own own' H H' → Dd.ct σ' H'
  | .rt y => ∀ v H', FrG G s' H' → RvV B G.A0 H' v y → Dd.rt v H'
  | .rg y ρ' => ∀ v own' σ' H', Rel B G own' ρ' s' σ' H' → Gone G own own' H H' → RvV B (Av G own') H' v y → Dd.rt v H'
def tS (B : Bs) (E : XK) (g : Sx S) : TS := fun Dd σ H => ∃ G own ρ s, Rel B G own ρ s σ H ∧ (g ρ s).sat (Post B G own H Dd) fun e s' => ExW B G E e s'
abbrev DS (X : Cx) (B : Bs) (E : XK) (st : Stmt) (g : Sx S) : Prop := PS X st (tS B E g)
abbrev DSs (X : Cx) (B : Bs) (E : XK) (st : List Stmt) (g : Sx S) : Prop := PSs X st (tS B E g)
section
variable {B : Bs} {G : Gh} {own own' own'' : Own} {ρ ρ' : Env} {s s' s'' : S} {σ σ' : Sg} {H H' H'' : Hp}
theorem Gone.refl : Gone G own own H H := ⟨fun _ _ h _ _ => h, fun i a h => .inl ⟨i, h⟩⟩
theorem Gone.of_stp (k : Stp G s' H H') : Gone G own own H H' := ⟨fun a o h n _ => k.fr a o h n, fun i a h => .inl ⟨i, h⟩⟩
theorem Gone.trans (R : Rel B G own' ρ s σ H') (x : Gone G own own' H H') (y : Gone G own' own'' H' H'') : Gone G own own'' H H'' := by
  refine ⟨fun a o h n m => y.keep a o (x.keep a o h n m) n fun i z => ?_, fun i a h => ?_⟩
  · rcases x.news i a z with ⟨j, q⟩ | q
    · exact m j q
    · rw [h] at q; cases q
  · rcases y.news i a h with ⟨j, q⟩ | q
    · exact x.news j a q
    · cases z : H a with
      | none => exact .inr rfl
      | some o =>
        by_cases hd : a ∈ G.dks
        · obtain ⟨o', e, _⟩ := R.dkT hd
          rw [q] at e; cases e
        · by_cases ho : ∃ j, own j = some a
          · exact .inl ho
          · rw [x.keep a o z hd fun i e => ho ⟨i, e⟩] at q; cases q
theorem Rel.frG (R : Rel B G own ρ s σ H) : FrG G s H := ⟨R.fr, R.dk, R.rs⟩
theorem FrG.stp (x : FrG G s H) (k : Stp G s' H H') : FrG G s' H' := ⟨fun a o h n => k.fr a o (x.fr a o h n) n, k.dk, k.rs⟩
/-- the ends of a statement, a step later -/
theorem Post.later {Dd : Ends} {fl : Fl} (R : Rel B G own' ρ s σ H') (x : Gone G own own' H H') (h : Post B G own H Dd fl s') : Post B G own' H' Dd fl s' := by
  cases fl with
  | nx ρ' => exact fun own2 σ2 H2 R2 y => h own2 σ2 H2 R2 (x.trans R y)
  | bk ρ' => exact fun own2 σ2 H2 R2 y => h own2 σ2 H2 R2 (x.trans R y)
  | ct ρ' => exact fun own2 σ2 H2 R2 y => h own2 σ2 H2 R2 (x.trans R y)
  | rt y => exact h
  | rg y ρ' => exact fun v own2 σ2 H2 R2 y => h v own2 σ2 H2 R2 (x.trans R y)
/-- all that stands for data stands where something is -/
theorem Tp.ne {K : PySem.W.Frag} {H : Hp} {a p : Addr} {xs : List V} : True := trivial
end
section
variable {B : Bs} {A : Addr → Prop} {H : Hp} {p : Addr}
mutual
theorem Rp.grow (hp : H p = none) : ∀ {v : V} {d : D}, Rp B A H v d → Rp B (fun a => A a ∨ a = p) H v d
  | _, _, .non => .non
  | _, _, .bl b => .bl b
  | _, _, .int i => .int i
  | _, _, .str x => .str x
  | _, _, .lst h n r => .lst h (fun z => Or.elim z n fun e => by rw [e, hp] at h; cases h) (RpL.grow hp r)
  | _, _, .tup h r => .tup h (RpL.grow hp r)
  | _, _, .dic h n r => .dic h (fun z => Or.elim z n fun e => by have h := h.1; rw [e, hp] at h; cases h) (RpM.grow hp r)
  | _, _, .dct h n e r => .dct h (fun z => Or.elim z n fun e => by rw [e, hp] at h; cases h) e (RpM.grow hp r)
theorem RpL.grow (hp : H p = none) : ∀ {v : List V} {d : List D}, RpL B A H v d → RpL B (fun a => A a ∨ a = p) H v d
  | _, _, .nil => .nil
  | _, _, .cons h t => .cons (Rp.grow hp h) (RpL.grow hp t)
theorem RpM.grow (hp : H p = none) : ∀ {v : List (V × V)} {d : List (D × D)}, RpM B A H v d → RpM B (fun a => A a ∨ a = p) H v d
  | _, _, .nil => .nil
  | _, _, .cons h g t => .cons (Rp.grow hp h) (Rp.grow hp g) (RpM.grow hp t)
end
theorem PlR.grow {B : Bs} {A : Addr → Prop} {H : Hp} {p : Addr} (hp : H p = none) {v : V} {d : D} (h : PlR B A H v d) : PlR B (fun a => A a ∨ a = p) H v d := by
  cases d with
  | tuple ds => obtain ⟨a, xs, e, h, r⟩ := h; exact ⟨a, xs, e, h, RpL.grow hp r⟩
  | dict kvs => obtain ⟨a, ks, e, h, n, d, r⟩ := h; exact ⟨a, ks, e, h, (fun z => Or.elim z n fun e => by rw [e, hp] at h; cases h), d, RpM.grow hp r⟩
  | _ => exact h.elim
theorem RvV.grow (hp : H p = none) {v : V} : ∀ {y : Val}, RvV B A H v y → RvV B (fun a => A a ∨ a = p) H v y
  | .d _, h => Rp.grow hp h
  | .r _, h => h
  | .o _ _, ⟨a, C, dx, fs', e, c, h, n, l⟩ => ⟨a, C, dx, fs', e, c, h, (fun z => Or.elim z n fun e => by rw [e, hp] at h; cases h), fun q hq => let ⟨u, e, r⟩ := l q hq; ⟨u, e, r.grow hp⟩⟩
  | .p _, h => PlR.grow hp h
  | .f _, h => h
theorem OwnAt.grow (hp : H p = none) {a : Addr} : ∀ {x : Sl}, OwnAt B A H a x → OwnAt B (fun a => A a ∨ a = p) H a x
  | .l _, ⟨xs, h, r⟩ => ⟨xs, h, r.grow hp⟩
  | .m _, .inl ⟨ks, h, r⟩ => .inl ⟨ks, h, r.grow hp⟩
  | .m _, .inr ⟨ks, h, e, r⟩ => .inr ⟨ks, h, e, r.grow hp⟩
  | .no, h => h
  | .v _, h => h
  | .g _ _ _, h => h
  | .q _ _, ⟨C, dx, vs, hc, h, hn, r⟩ => ⟨C, dx, vs, hc, h, hn, r.grow hp⟩
theorem GmAt.grow (hp : H p = none) {a : Addr} {c : Str} {fs : List (Str × GF)} {gs : List Addr} (h : GmAt B A H a c fs gs) : GmAt B (fun a => A a ∨ a = p) H a c fs gs :=
  h.imp (fun r => Rp.grow hp r) (fun r => RpL.grow hp r) (fun _ r => OwnAt.grow hp r) fun _ _ _ z => z
end
section
variable {B : Bs} {G : Gh} {own : Own} {ρ : Env} {s s' : S} {σ : Sg} {H H' : Hp}
/-- a slot gets a value -/
theorem Rel.set (R : Rel B G own ρ s σ H) {i : Nat} {v : V} {y : Val} (h : RvV B (Av G own) H v y) : Rel B G own (ρ.set i (.v y)) s (σ.set i (some v)) H := by
  refine ⟨R.wf1, R.wf2, R.fr, R.dk, R.rs, R.inj, R.fre, R.ont, by simp [R.len], fun j x e => ?_⟩
  by_cases hj : j = i
  · subst hj
    obtain ⟨hl, e'⟩ := List.getElem?_eq_some_iff.mp e
    have hl' : j < ρ.length := by simpa using hl
    have : (ρ.set j (.v y))[j]? = some (.v y) := by simp [hl']
    rw [this] at e; cases e
    exact ⟨v, by simp [← R.len, hl'], h⟩
  · rw [List.getElem?_set_ne (Ne.symm hj)] at e
    have q := R.sl j x e
    have e2 : (σ.set i (some v))[j]? = σ[j]? := List.getElem?_set_ne (Ne.symm hj)
    cases x with
    | no => trivial
    | v z => obtain ⟨u, e1, r⟩ := q; exact ⟨u, by rw [e2]; exact e1, r⟩
    | l ds => obtain ⟨a, ho, hs, r⟩ := q; exact ⟨a, ho, by rw [e2]; exact hs, r⟩
    | m ds => obtain ⟨a, ho, hs, r⟩ := q; exact ⟨a, ho, by rw [e2]; exact hs, r⟩
    | g c a fs => obtain ⟨gs, ho, hs, hg, r⟩ := q; exact ⟨gs, ho, by rw [e2]; exact hs, by simpa using hg, r⟩
    | q _ _ => obtain ⟨a, ho, hs, r⟩ := q; exact ⟨a, ho, by rw [e2]; exact hs, r⟩
/-- a slot becomes one's own: a new object stands at p -/
theorem Rel.mine0 (R : Rel B G own ρ s σ H) {i : Nat} {p : Addr} {x : Sl} (hil : i < σ.length) (hp : H p = none) (k : Stp G s' H H') (hx : OwnAt B (fun a => Av G own a ∨ a = p) H' p x) :
    Rel B G (fun j => if j = i then some p else own j) (ρ.set i x) s' (σ.set i (some (.ref p))) H' ∧ Gone G own (fun j => if j = i then some p else own j) H H' := by
  have R' := R.stp k
  have kp := R.kp k
  have kp' : Kp (fun a => Av G own a ∨ a = p) H H' := ⟨kp.tup, fun a o h n => kp.all a o h fun z => n (.inl z)⟩
  have av : ∀ a, Av G (fun j => if j = i then some p else own j) a → Av G own a ∨ a = p := fun a h => by
    rcases h with h | ⟨j, h⟩
    · exact .inl (.inl h)
    · by_cases hj : j = i
      · simp only [hj, if_true] at h; cases h; exact .inr rfl
      · simp only [hj, if_false] at h; exact .inl (.inr ⟨j, h⟩)
  have hnot : H' p ≠ none ∧ ∃ o, H' p = some o ∧ isTu o = false := by
    cases x with
    | no => exact hx.elim
    | v _ => exact hx.elim
    | g _ _ _ => exact hx.elim
    | q _ _ => obtain ⟨_, _, _, _, e, _⟩ := hx; exact ⟨by rw [e]; simp, _, e, rfl⟩
    | l ds => obtain ⟨xs, e, _⟩ := hx; exact ⟨by rw [e]; simp, _, e, rfl⟩
    | m ds =>
      rcases hx with ⟨ks, ⟨e, _⟩, _⟩ | ⟨ks, e, _⟩
      · exact ⟨by rw [e]; simp, _, e, rfl⟩
      · exact ⟨by rw [e]; simp, _, e, rfl⟩
  have hH0 : G.H0 p = none := by
    cases q : G.H0 p with
    | none => rfl
    | some o =>
      by_cases hd : p ∈ G.dks
      · obtain ⟨o', e, _⟩ := R.dkT hd
        rw [hp] at e; cases e
      · rw [R.fr p o q hd] at hp; cases hp
  have hA0 : ¬ G.A0 p := fun z => R.wf2 p z hp
  have hown : ∀ j, own j ≠ some p := fun j z => by
    obtain ⟨o, e, _⟩ := R.ont j p z
    rw [hp] at e; cases e
  refine ⟨⟨R.wf1, R'.wf2, R'.fr, R'.dk, R'.rs, fun a b c h1 h2 => ?_, fun j a h => ?_, fun j a h => ?_, by simp [R.len], fun j z e => ?_⟩, ⟨fun a o h n _ => k.fr a o h n, fun j a h => ?_⟩⟩
  · by_cases ha : a = i
    · by_cases hb : b = i
      · rw [ha, hb]
      · simp only [ha, if_true] at h1; simp only [hb, if_false] at h2; cases h1; exact absurd h2 (hown b)
    · by_cases hb : b = i
      · simp only [ha, if_false] at h1; simp only [hb, if_true] at h2; cases h2; exact absurd h1 (hown a)
      · simp only [ha, if_false] at h1; simp only [hb, if_false] at h2; exact R.inj a b c h1 h2
  · by_cases hj : j = i
    · simp only [hj, if_true] at h; cases h; exact ⟨hH0, hA0⟩
    · simp only [hj, if_false] at h; exact R.fre j a h
  · by_cases hj : j = i
    · simp only [hj, if_true] at h; cases h; exact hnot.2
    · simp only [hj, if_false] at h; exact R'.ont j a h
  · by_cases hj : j = i
    · subst hj
      obtain ⟨hl, e'⟩ := List.getElem?_eq_some_iff.mp e
      have hl' : j < ρ.length := by simpa using hl
      have : (ρ.set j x)[j]? = some x := by simp [hl']
      rw [this] at e; cases e
      have hs : (σ.set j (some (V.ref p)))[j]? = some (some (V.ref p)) := by simp [← R.len, hl']
      cases x with
      | no => exact hx.elim
      | v _ => exact hx.elim
      | g _ _ _ => exact hx.elim
      | q _ _ => exact ⟨p, by simp, hs, hx.mono av⟩
      | l ds => exact ⟨p, by simp, hs, hx.mono av⟩
      | m ds => exact ⟨p, by simp, hs, hx.mono av⟩
    · rw [List.getElem?_set_ne (Ne.symm hj)] at e
      have q := R.sl j z e
      have e2 : (σ.set i (some (V.ref p)))[j]? = σ[j]? := List.getElem?_set_ne (Ne.symm hj)
      cases z with
      | no => trivial
      | v z => obtain ⟨u, e1, r⟩ := q; exact ⟨u, by rw [e2]; exact e1, ((r.grow hp).kp kp').mono av⟩
      | l ds => obtain ⟨a, ho, hs, r⟩ := q; exact ⟨a, by simp only [hj, if_false]; exact ho, by rw [e2]; exact hs, ((r.grow hp).kp kp' fun o e => k.fr a o e fun z => (R.fre j a ho).2 (R.wf1 a z)).mono av⟩
      | m ds => obtain ⟨a, ho, hs, r⟩ := q; exact ⟨a, by simp only [hj, if_false]; exact ho, by rw [e2]; exact hs, ((r.grow hp).kp kp' fun o e => k.fr a o e fun z => (R.fre j a ho).2 (R.wf1 a z)).mono av⟩
      | g c a fs =>
        obtain ⟨gs, ho, hs, hg, r⟩ := q
        refine ⟨gs, by simp only [hj, if_false]; exact ho, by rw [e2]; exact hs, fun l g hl => ?_, ((r.grow hp).kp kp' fun l hl o e => k.fr l o e fun z => ?_).mono av⟩
        · rw [List.length_set]
          have := gix_ge (n := σ.length) (i := j) (j := l)
          show (if gix σ.length j l = i then some p else own (gix σ.length j l)) = some g
          rw [if_neg (by omega)]
          exact hg l g hl
        · obtain ⟨j', e'⟩ := gm_own ho hg l hl
          exact (R.fre j' l e').2 (R.wf1 l z)
      | q _ _ => obtain ⟨a, ho, hs, r⟩ := q; exact ⟨a, by simp only [hj, if_false]; exact ho, by rw [e2]; exact hs, ((r.grow hp).kp kp' fun o e => k.fr a o e fun z => (R.fre j a ho).2 (R.wf1 a z)).mono av⟩
  · by_cases hj : j = i
    · simp only [hj, if_true] at h; cases h; exact .inr hp
    · simp only [hj, if_false] at h; exact .inl ⟨j, h⟩
theorem Rel.mine (R : Rel B G own ρ s σ H) {i : Nat} {p : Addr} {x : Sl} (hp : H p = none) (k : Stp G s' H H') (hx : OwnAt B (fun a => Av G own a ∨ a = p) H' p x) :
    ∃ own', Rel B G own' (ρ.set i x) s' (σ.set i (some (.ref p))) H' ∧ Gone G own own' H H' := by
  by_cases h : i < σ.length
  · exact ⟨_, R.mine0 h hp k hx⟩
  · refine ⟨own, ?_, .of_stp k⟩
    rw [List.set_eq_of_length_le (by rw [R.len]; omega), List.set_eq_of_length_le (by omega)]
    exact R.stp k
/-- what is one's own is changed in place -/
theorem Rel.chg (R : Rel B G own ρ s σ H) {i : Nat} {a : Addr} {x : Sl} {o : HO} (hi : own i = some a) (hs : σ[i]? = some (some (.ref a))) (ho : isTu o = false) (hx : OwnAt B (Av G own) (upd H a o) a x) :
    Rel B G own (ρ.set i x) s σ (upd H a o) ∧ Gone G own own H (upd H a o) := by
  have nd : a ∉ G.dks := fun z => (R.fre i a hi).2 (R.wf1 a z)
  have kp : Kp (Av G own) H (upd H a o) := by
    refine ⟨fun b xs ht h => ?_, fun b u h n => ?_⟩
    · by_cases hb : b = a
      · subst hb
        obtain ⟨o', e, n⟩ := R.ont i b hi
        rw [h] at e; cases e; rw [ht] at n; cases n
      · rw [upd_ne hb]; exact h
    · rw [upd_ne]
      · exact h
      · rintro rfl; exact n (.inr ⟨i, hi⟩)
  refine ⟨⟨R.wf1, fun b h => ?_, fun b u h n => ?_, R.dk, SI.keep s H _ R.rs (fun b h => ?_) kp.tup, R.inj, R.fre, fun j b h => ?_, by simp [R.len], fun j z e => ?_⟩, ⟨fun b u h n m => ?_, fun j b h => .inl ⟨j, h⟩⟩⟩
  · by_cases hb : b = a
    · rw [hb, upd_same]; simp
    · rw [upd_ne hb]; exact R.wf2 b h
  · by_cases hb : b = a
    · subst hb
      rw [(R.fre i b hi).1] at h; cases h
    · rw [upd_ne hb]; exact R.fr b u h n
  · rw [upd_ne]
    rintro rfl
    exact nd (by rw [← R.dk]; exact h)
  · by_cases hb : b = a
    · exact ⟨o, by rw [hb, upd_same], ho⟩
    · rw [upd_ne hb]; exact R.ont j b h
  · by_cases hj : j = i
    · subst hj
      obtain ⟨hl, e'⟩ := List.getElem?_eq_some_iff.mp e
      have hl' : j < ρ.length := by simpa using hl
      have : (ρ.set j x)[j]? = some x := by simp [hl']
      rw [this] at e; cases e
      cases x with
      | no => exact hx.elim
      | v _ => exact hx.elim
      | g _ _ _ => exact hx.elim
      | q _ _ => exact ⟨a, hi, hs, hx⟩
      | l ds => exact ⟨a, hi, hs, hx⟩
      | m ds => exact ⟨a, hi, hs, hx⟩
    · rw [List.getElem?_set_ne (Ne.symm hj)] at e
      have q := R.sl j z e
      have nb : ∀ b, own j = some b → ∀ u, H b = some u → upd H a o b = some u := fun b hb u hu => by
        rw [upd_ne]
        · exact hu
        · rintro rfl; exact hj (R.inj _ _ _ hb hi)
      cases z with
      | no => trivial
      | v z => obtain ⟨u, e1, r⟩ := q; exact ⟨u, e1, r.kp kp⟩
      | l ds => obtain ⟨b, hb, hs, r⟩ := q; exact ⟨b, hb, hs, r.kp kp (nb b hb)⟩
      | m ds => obtain ⟨b, hb, hs, r⟩ := q; exact ⟨b, hb, hs, r.kp kp (nb b hb)⟩
      | g c b fs =>
        obtain ⟨gs, hb, hs', hg, r⟩ := q
        refine ⟨gs, hb, hs', hg, r.kp kp fun l hl u hu => ?_⟩
        rw [upd_ne]
        · exact hu
        · rintro rfl
          rcases hl with rfl | hl
          · exact hj (R.inj _ _ _ hb hi)
          · obtain ⟨n, hn, e'⟩ := List.mem_iff_getElem.mp hl
            have e1 := hg n l (by rw [List.getElem?_eq_getElem hn, e'])
            have e2 := R.inj _ _ _ e1 hi
            have e3 := gix_ge (n := σ.length) (i := j) (j := n)
            have e4 := (List.getElem?_eq_some_iff.mp hs).1
            omega
      | q _ _ => obtain ⟨b, hb, hs, r⟩ := q; exact ⟨b, hb, hs, r.kp kp (nb b hb)⟩
  · rw [upd_ne]
    · exact h
    · rintro rfl; exact m i hi
end
section
variable {X : Cx} {B : Bs} {E : XK} {e : Expr} {f : Ex S} {g g' : Sx S} {st : Stmt} {sts : List Stmt} {pos : Pos}
def sNil : Sx S := fun ρ s => .ok (.nx ρ) s
def sSeq (g g' : Sx S) : Sx S := fun ρ s => (g ρ s).bind fun fl s1 => match fl with
  | .nx ρ1 => g' ρ1 s1
  | x => .ok x s1
theorem ds_nil : DSs X B E [] (sNil : Sx S) := pss_imp pss_nil fun Dd σ H ⟨G, own, ρ, s, R, q⟩ => q own σ H R .refl
theorem ds_one (h : DS X B E st g) : DSs X B E [st] g := pss_one h
theorem ds_cons (h : DS X B E st g) (h' : DSs X B E sts g') : DSs X B E (st :: sts) (sSeq g g') := by
  refine pss_imp (pss_cons h h') fun Dd σ H ⟨G, own, ρ, s, R, q⟩ => ⟨G, own, ρ, s, R, q.bnd.mono fun fl s1 q1 => ?_⟩
  cases fl with
  | nx ρ1 => exact fun own1 σ1 H1 R1 x => ⟨G, own1, ρ1, s1, R1, q1.mono fun fl s2 q2 => q2.later R1 x⟩
  | bk _ => exact q1
  | ct _ => exact q1
  | rt _ => exact q1
  | rg _ _ => exact q1
def sBrk : Sx S := fun ρ s => .ok (.bk ρ) s
def sCnt : Sx S := fun ρ s => .ok (.ct ρ) s
def sDrop (f : Ex S) : Sx S := fun ρ s => (f ρ s).bind fun _ s1 => .ok (.nx ρ) s1
def sRet (f : Ex S) : Sx S := fun ρ s => (f ρ s).bind fun y s1 => .ok (.rt y) s1
theorem RtV.ret {A N : Addr → Prop} {H : Hp} {v : V} {y : Val} (h : RtV B A N H v y) (k : ∀ a, N a → A a) : RvV B N H v y := by
  cases h with
  | of h => exact h.mono k
  | lst h n r => exact .lst h n (r.mono k)
  | dic h n r => exact .dic h n (r.mono k)
  | dct h n e r => exact .dct h n e (r.mono k)
theorem ds_ret (h : DB X B E e f) : DS X B E (.Return (some e) pos) (sRet f) := by
  refine ps_imp (ps_ret h) fun Dd σ H ⟨G, own, ρ, s, R, q⟩ => ?_
  refine tB.run R _ q.bnd fun y s1 v H1 q1 k1 r1 R1 => ?_
  exact q1 v H1 R1.frG (r1.ret fun a z => .inl z)
def sRetN : Sx S := fun ρ s => .ok (.rt (.d .none)) s
def sIf (c : Tx S) (g g' : Sx S) : Sx S := fun ρ s => (c ρ s).bind fun b s1 => if b then g ρ s1 else g' ρ s1
theorem ds_if {c : Expr} {fc : Tx S} {a b : List Stmt} (hc : DT X B E c fc) (ha : DSs X B E a g) (hb : DSs X B E b g') : DS X B E (.If c a b pos) (sIf fc g g') := by
  refine ps_imp (ps_if hc ha hb) fun Dd σ H ⟨G, own, ρ, s, R, q⟩ => ?_
  refine tT.run R _ q.bnd fun y s1 H1 q1 k1 R1 => ?_
  cases y with
  | true => exact ⟨G, own, ρ, s1, R1, q1.mono fun fl s2 q2 => q2.later R1 (.of_stp k1)⟩
  | false => exact ⟨G, own, ρ, s1, R1, q1.mono fun fl s2 q2 => q2.later R1 (.of_stp k1)⟩
/-- name = value -/
def sSet (i : Nat) (f : Ex S) : Sx S := fun ρ s => (f ρ s).bind fun y s1 => .ok (.nx (ρ.set i (.v y))) s1
theorem ds_set (c : Ctx X B) (i : Nat) {x : Str} {pos' : Pos} (h : DE X B E e f) (hi : X.N[i]? = some x := by rfl) (hx : Loc X.env.scope x := by first | exact .inl rfl | exact .inr rfl) (hs : swapsWith e (some (.Name x pos')) pos.line X.env = pure false := by rfl)
    (hf : X.fn x = true ∨ X.env.scope.names.lookup x = some .local := by first | exact .inl rfl | exact .inr rfl) : DS X B E (.Assign [.Name x pos'] e pos) (sSet i f) := by
  refine ps_imp (ps_set c.nd hi hx h hs hf) fun Dd σ H ⟨G, own, ρ, s, R, q⟩ => ?_
  refine tD.run R _ q.bnd fun y s1 v H1 q1 k1 r1 R1 => ?_
  exact q1 own _ H1 (R1.set r1) (.of_stp k1)
/-- name = another name's list, which is not asked any more -/
def sMove (i j : Nat) : Sx S := fun ρ s => match ρ[j]? with
  | some (.v y) => .ok (.nx (ρ.set i (.v y))) s
  | some (.l ds) => if i = j then .bad else .ok (.nx ((ρ.set j .no).set i (.l ds))) s
  | some (.m ds) => if i = j then .bad else .ok (.nx ((ρ.set j .no).set i (.m ds))) s
  | _ => .bad
end
end DL
namespace DL
open PySem PySem.Spec PyProof.Rows L2
variable {S : Type} [SI S]
section
variable {B : Bs} {A A' : Addr → Prop} {H : Hp}
mutual
theorem Rp.wk (k : ∀ a, A' a → A a ∨ H a = none) : ∀ {v : V} {d : D}, Rp B A H v d → Rp B A' H v d
  | _, _, .non => .non
  | _, _, .bl b => .bl b
  | _, _, .int i => .int i
  | _, _, .str x => .str x
  | _, _, .lst h n r => .lst h (fun z => (k _ z).elim n fun e => by rw [e] at h; cases h) (RpL.wk k r)
  | _, _, .tup h r => .tup h (RpL.wk k r)
  | _, _, .dic h n r => .dic h (fun z => (k _ z).elim n fun e => by have h := h.1; rw [e] at h; cases h) (RpM.wk k r)
  | _, _, .dct h n e r => .dct h (fun z => (k _ z).elim n fun e => by rw [e] at h; cases h) e (RpM.wk k r)
theorem RpL.wk (k : ∀ a, A' a → A a ∨ H a = none) : ∀ {v : List V} {d : List D}, RpL B A H v d → RpL B A' H v d
  | _, _, .nil => .nil
  | _, _, .cons h t => .cons (Rp.wk k h) (RpL.wk k t)
theorem RpM.wk (k : ∀ a, A' a → A a ∨ H a = none) : ∀ {v : List (V × V)} {d : List (D × D)}, RpM B A H v d → RpM B A' H v d
  | _, _, .nil => .nil
  | _, _, .cons h g t => .cons (Rp.wk k h) (Rp.wk k g) (RpM.wk k t)
end
end
def wipeE (vs : List Nat) (ρ : Env) : Env := match vs with
  | [] => ρ
  | v :: vs => (wipeE vs ρ).set v .no
theorem wipe_set {σ : Sg} {i : Nat} {x : Option V} : ∀ {vs : List Nat}, i ∈ vs → wipe (σ.set i x) vs = wipe σ vs
  | [], h => by simp at h
  | v :: vs, h => by
    unfold wipe
    by_cases hm : i ∈ vs
    · rw [wipe_set hm]
    · have e : i = v := by simpa [hm] using h
      subst e
      have : ∀ vs : List Nat, i ∉ vs → wipe (σ.set i x) vs = (wipe σ vs).set i x := by
        intro vs
        induction vs with
        | nil => intro _; rfl
        | cons w ws ih =>
          intro hw
          simp only [List.mem_cons, not_or] at hw
          unfold wipe
          rw [ih hw.2, List.set_comm _ _ (fun e => hw.1 e)]
      rw [this vs hm]
      simp
section
variable {B : Bs} {G : Gh} {own : Own} {ρ : Env} {s : S} {σ : Sg} {H : Hp}
theorem Rel.unset (R : Rel B G own ρ s σ H) (i : Nat) : Rel B G own (ρ.set i .no) s (σ.set i none) H := by
  refine ⟨R.wf1, R.wf2, R.fr, R.dk, R.rs, R.inj, R.fre, R.ont, by simp [R.len], fun j x e => ?_⟩
  by_cases hj : j = i
  · subst hj
    obtain ⟨hl, e'⟩ := List.getElem?_eq_some_iff.mp e
    have hl' : j < ρ.length := by simpa using hl
    have : (ρ.set j .no)[j]? = some .no := by simp [hl']
    rw [this] at e; cases e
    trivial
  · rw [List.getElem?_set_ne (Ne.symm hj)] at e
    have q := R.sl j x e
    have e2 : (σ.set i none)[j]? = σ[j]? := List.getElem?_set_ne (Ne.symm hj)
    cases x with
    | no => trivial
    | v z => obtain ⟨u, e1, r⟩ := q; exact ⟨u, by rw [e2]; exact e1, r⟩
    | l ds => obtain ⟨a, ho, hs, r⟩ := q; exact ⟨a, ho, by rw [e2]; exact hs, r⟩
    | m ds => obtain ⟨a, ho, hs, r⟩ := q; exact ⟨a, ho, by rw [e2]; exact hs, r⟩
    | g c a fs => obtain ⟨gs, ho, hs, hg, r⟩ := q; exact ⟨gs, ho, by rw [e2]; exact hs, by simpa using hg, r⟩
    | q _ _ => obtain ⟨a, ho, hs, r⟩ := q; exact ⟨a, ho, by rw [e2]; exact hs, r⟩
theorem Rel.wiped (R : Rel B G own ρ s σ H) : ∀ vs : List Nat, Rel B G own (wipeE vs ρ) s (wipe σ vs) H
  | [] => R
  | v :: vs => by unfold wipe wipeE; exact (R.wiped vs).unset v
end
abbrev Bt := D → Env → Option Env
abbrev Bts := List D → Env → Option Env
def tG (S : Type) [SI S] (B : Bs) (bt : Bt) (vs : List Nat) : TG := fun v σ H Q => ∃ G own ρ, ∃ s : S, ∃ d ρ', Rel B G own ρ s σ H ∧ Rp B (Av G own) H v d ∧ bt d ρ = some ρ' ∧ ∀ σ', Rel B G own ρ' s σ' H → wipe σ' vs = wipe σ vs → Q σ' H
def tGs (S : Type) [SI S] (B : Bs) (bt : Bts) (vs : List Nat) : TGs := fun v σ H Q => ∃ G own ρ, ∃ s : S, ∃ d ρ', Rel B G own ρ s σ H ∧ RpL B (Av G own) H v d ∧ bt d ρ = some ρ' ∧ ∀ σ', Rel B G own ρ' s σ' H → wipe σ' vs = wipe σ vs → Q σ' H
abbrev DG (S : Type) [SI S] (X : Cx) (B : Bs) (tg : Expr) (bt : Bt) (vs : List Nat) : Prop := PG X tg (tG S B bt vs)
abbrev DGs (S : Type) [SI S] (X : Cx) (B : Bs) (tg : List Expr) (bt : Bts) (vs : List Nat) : Prop := PGs X tg (tGs S B bt vs)
theorem pg_imp {X : Cx} {tg : Expr} {t t' : TG} (h : PG X tg t) (i : ∀ v σ H Q, t' v σ H Q → t v σ H Q) : PG X tg t' := ⟨fun pins s σ H v u Q I r q => h.run pins s σ H v u Q I r (i v σ H Q q)⟩
theorem pgs_imp {X : Cx} {tg : List Expr} {t t' : TGs} (h : PGs X tg t) (i : ∀ v σ H Q, t' v σ H Q → t v σ H Q) : PGs X tg t' := ⟨fun pins s σ H v u Q I r q => h.run pins s σ H v u Q I r (i v σ H Q q)⟩
def btN (i : Nat) : Bt := fun d ρ => some (ρ.set i (.v (.d d)))
def btsN : Bts := fun ds ρ => match ds with
  | [] => some ρ
  | _ => none
def btsC (b : Bt) (bs : Bts) : Bts := fun ds ρ => match ds with
  | [] => none
  | d :: r => (b d ρ).bind fun ρ1 => bs r ρ1
def btT (bs : Bts) : Bt := fun d ρ => match d with
  | .tuple ds => bs ds ρ
  | _ => none
section
variable {X : Cx} {B : Bs} {pos : Pos} {vs : List Nat}
theorem dg_name (nd : X.N.Nodup) (i : Nat) {x : Str} (hi : X.N[i]? = some x := by rfl) (hx : Loc X.env.scope x := by first | exact .inl rfl | exact .inr rfl) (hf : X.fn x = true ∨ X.env.scope.names.lookup x = some .local := by first | exact .inl rfl | exact .inr rfl) (hv : i ∈ vs := by decide) :
    DG S X B (.Name x pos) (btN i) vs := by
  refine pg_imp (pg_name nd hi hx hf) fun v σ H Q ⟨G, own, ρ, s, d, ρ', R, r, e, q⟩ => ?_
  cases e
  exact q _ (R.set (y := .d d) r) (wipe_set hv)
theorem dgs_nil : DGs S X B [] btsN vs := by
  refine pgs_imp pgs_nil fun v σ H Q ⟨G, own, ρ, s, d, ρ', R, r, e, q⟩ => ?_
  cases r with
  | nil => cases e; exact ⟨rfl, q σ R rfl⟩
  | cons _ _ => cases e
theorem dgs_cons {t : Expr} {ts : List Expr} {b : Bt} {bs : Bts} (h : DG S X B t b vs) (hs : DGs S X B ts bs vs) (hst : (assignEach (t :: ts) X.env).map (·.2) = assign t X.env :: (assignEach ts X.env).map (·.2) := by rfl) : DGs S X B (t :: ts) (btsC b bs) vs := by
  refine pgs_imp (pgs_cons h hs hst) fun v σ H Q ⟨G, own, ρ, s, d, ρ', R, r, e, q⟩ => ?_
  cases r with
  | nil => cases e
  | cons h t =>
    obtain ⟨ρ1, e1, e2⟩ := Option.bind_eq_some_iff.mp e
    exact ⟨_, _, rfl, G, own, ρ, s, _, ρ1, R, h, e1, fun σ1 R1 w1 => ⟨G, own, ρ1, s, _, ρ', R1, t, e2, fun σ2 R2 w2 => q σ2 R2 (w2.trans w1)⟩⟩
theorem btsC_len {n : Nat} {bs : Bts} (h : ∀ ds ρ ρ', bs ds ρ = some ρ' → ds.length = n) (b : Bt) : ∀ ds ρ ρ', btsC b bs ds ρ = some ρ' → ds.length = n + 1
  | [], _, _, e => by cases e
  | d :: r, ρ, ρ', e => by
    obtain ⟨ρ1, _, e2⟩ := Option.bind_eq_some_iff.mp e
    rw [List.length_cons, h _ _ _ e2]
theorem btsN_len : ∀ ds ρ ρ', btsN ds ρ = some ρ' → ds.length = 0
  | [], _, _, _ => rfl
  | _ :: _, _, _, e => by cases e
theorem dg_tup (c : Ctx X B) {es : List Expr} {k n : Nat} {bs : Bts} (h : DGs S X B es bs vs) (hl : ∀ ds ρ ρ', bs ds ρ = some ρ' → ds.length = n)
    (hn : (assignEach es X.env).length = n := by rfl) (hst : (assignEach es X.env).findIdx? (·.1) = none := by rfl) : DG S X B (.Tuple es k pos) (btT bs) vs := by
  refine pg_imp (pg_tup c.calm h hn hst) fun v σ H Q ⟨G, own, ρ, s, d, ρ', R, r, e, q⟩ => ?_
  cases r with
  | tup h r =>
    exact ⟨_, _, rfl, by rw [← c.hK]; exact h.sq, by rw [r.len]; exact hl _ _ _ e, G, own, ρ, s, _, ρ', R, r, e, q⟩
  | _ => cases e
end
section
variable {X : Cx} {B : Bs} {E : XK} {e : Expr} {f : Ex S} {g g' : Sx S} {st : Stmt} {sts : List Stmt} {pos : Pos}
def sUnp (bt : Bt) (f : Ex S) : Sx S := fun ρ s => (f ρ s).bind fun y s1 => match y with
  | .d d => (match bt d ρ with
    | some ρ' => .ok (.nx ρ') s1
    | none => .bad)
  | _ => .bad
theorem ds_unp {tg : Expr} {bt : Bt} {vs : List Nat} (h : DE X B E e f) (ht : DG S X B tg bt vs) (hs : swapsWithSole [tg] e pos.line X.env = pure false := by rfl) (hw : swappedStores [tg] e X.env = pure none := by rfl)
    (h1 : (assignEach [tg] X.env).map (·.2) = [assign tg X.env] := by rfl) : DS X B E (.Assign [tg] e pos) (sUnp bt f) := by
  refine ps_imp (ps_asg h ht hs hw h1) fun Dd σ H ⟨G, own, ρ, s, R, q⟩ => ?_
  refine tD.run R _ q.bnd fun y s1 v H1 q1 k1 r1 R1 => ?_
  cases y with
  | r _ => exact q1.elim
  | o _ _ => exact q1.elim
  | p _ => exact q1.elim
  | f _ => exact q1.elim
  | d d =>
    cases hz : bt d ρ with
    | none => simp only [hz] at q1; exact q1.elim
    | some ρ' =>
      simp only [hz] at q1
      exact ⟨G, own, ρ, s1, d, ρ', R1, r1, hz, fun σ' R' _ => q1 own σ' H1 R' (.of_stp k1)⟩
theorem Rel.frz1 {G : Gh} {own : Own} {ρ : Env} {s : S} {σ : Sg} {H : Hp} (R : Rel B G own ρ s σ H) {i : Nat} {a : Addr} {y : Val} (hi : own i = some a) (hs : σ[i]? = some (some (.ref a)))
    (hy : RvV B (Av G fun k => if k = i then none else own k) H (.ref a) y) : Rel B G (fun k => if k = i then none else own k) (ρ.set i (.v y)) s σ H := by
  have av : ∀ b, Av G (fun k => if k = i then none else own k) b → Av G own b := fun b h => by
    rcases h with h | ⟨j, h⟩
    · exact .inl h
    · by_cases hj : j = i
      · simp only [hj, if_true] at h; cases h
      · simp only [hj, if_false] at h; exact .inr ⟨j, h⟩
  have un : ∀ {j b}, (if j = i then none else own j) = some b → j ≠ i ∧ own j = some b := fun {j b} h => by
    by_cases hj : j = i
    · simp only [hj, if_true] at h; cases h
    · simp only [hj, if_false] at h; exact ⟨hj, h⟩
  refine ⟨R.wf1, R.wf2, R.fr, R.dk, R.rs, fun j k b h1 h2 => R.inj j k b (un h1).2 (un h2).2, fun j b h => R.fre j b (un h).2, fun j b h => R.ont j b (un h).2, by simp [R.len], fun j x e => ?_⟩
  by_cases hj : j = i
  · subst hj
    obtain ⟨hl, e'⟩ := List.getElem?_eq_some_iff.mp e
    have hl' : j < ρ.length := by simpa using hl
    have : (ρ.set j (.v y))[j]? = some (.v y) := by simp [hl']
    rw [this] at e; cases e
    exact ⟨_, hs, hy⟩
  · rw [List.getElem?_set_ne (Ne.symm hj)] at e
    have q := R.sl j x e
    cases x with
    | no => trivial
    | v z => obtain ⟨u, e1, r⟩ := q; exact ⟨u, e1, r.mono av⟩
    | l ds => obtain ⟨b, ho, hs, r⟩ := q; exact ⟨b, by simp only [hj, if_false]; exact ho, hs, r.mono av⟩
    | m ds => obtain ⟨b, ho, hs, r⟩ := q; exact ⟨b, by simp only [hj, if_false]; exact ho, hs, r.mono av⟩
    | g c b fs =>
      obtain ⟨gs, ho, hs', hg, r⟩ := q
      refine ⟨gs, by simp only [hj, if_false]; exact ho, hs', fun l g hl => ?_, r.mono av⟩
      have := gix_ge (n := σ.length) (i := j) (j := l)
      have := (List.getElem?_eq_some_iff.mp hs).1
      show (if gix σ.length j l = i then none else own (gix σ.length j l)) = some g
      rw [if_neg (by omega)]
      exact hg l g hl
    | q _ _ => obtain ⟨b, ho, hs, r⟩ := q; exact ⟨b, by simp only [hj, if_false]; exact ho, hs, r.mono av⟩
def frz (i : Nat) (ρ : Env) : Env := match ρ[i]? with
  | some (.l ds) => ρ.set i (.v (.d (.list ds)))
  | some (.m ds) => ρ.set i (.v (.d (.dict ds)))
  | _ => ρ
theorem Rel.frz {G : Gh} {own : Own} {ρ : Env} {s : S} {σ : Sg} {H : Hp} (R : Rel B G own ρ s σ H) (i : Nat) : ∃ own', Rel B G own' (frz i ρ) s σ H ∧ ∀ j a, own' j = some a → own j = some a := by
  unfold DL.frz
  cases z : ρ[i]? with
  | none => exact ⟨own, R, fun _ _ h => h⟩
  | some x =>
    have q := R.sl i x z
    have na : ∀ a, own i = some a → ¬ Av G (fun k => if k = i then none else own k) a := fun a h z => by
      rcases z with z | ⟨j, z⟩
      · exact (R.fre i a h).2 z
      · by_cases hj : j = i
        · simp only [hj, if_true] at z; cases z
        · simp only [hj, if_false] at z; exact hj (R.inj _ _ _ z h)
    have av : ∀ b, Av G (fun k => if k = i then none else own k) b → Av G own b := fun b h => by
      rcases h with h | ⟨j, h⟩
      · exact .inl h
      · by_cases hj : j = i
        · simp only [hj, if_true] at h; cases h
        · simp only [hj, if_false] at h; exact .inr ⟨j, h⟩
    have un : ∀ j a, (if j = i then none else own j) = some a → own j = some a := fun j a h => by
      by_cases hj : j = i
      · simp only [hj, if_true] at h; cases h
      · simp only [hj, if_false] at h; exact h
    cases x with
    | no => exact ⟨own, R, fun _ _ h => h⟩
    | v y => exact ⟨own, R, fun _ _ h => h⟩
    | g _ _ _ => exact ⟨own, R, fun _ _ h => h⟩
    | q _ _ => exact ⟨own, R, fun _ _ h => h⟩
    | l ds =>
      obtain ⟨a, ho, hs, xs, e, r⟩ := q
      exact ⟨_, R.frz1 ho hs (.lst e (na a ho) (r.mono av)), un⟩
    | m ds =>
      obtain ⟨a, ho, hs, q⟩ := q
      rcases q with ⟨ks, e, r⟩ | ⟨ks, e, e2, r⟩
      · exact ⟨_, R.frz1 ho hs (.dic e (na a ho) (r.mono av)), un⟩
      · exact ⟨_, R.frz1 ho hs (.dct e (na a ho) e2 (r.mono av)), un⟩
theorem Post.less {G : Gh} {own own' : Own} {H : Hp} {Dd : Ends} {fl : Fl} {s' : S} (k : ∀ j a, own' j = some a → own j = some a) (h : Post B G own H Dd fl s') : Post B G own' H Dd fl s' := by
  have go : ∀ {own2 H2}, Gone G own' own2 H H2 → Gone G own own2 H H2 := fun {own2 H2} x => ⟨fun a o e n m => x.keep a o e n fun i z => m i (k i a z), fun i a e => (x.news i a e).elim (fun ⟨j, z⟩ => .inl ⟨j, k j a z⟩) .inr⟩
  cases fl with
  | nx ρ' => exact fun own2 σ2 H2 R2 y => h own2 σ2 H2 R2 (go y)
  | bk ρ' => exact fun own2 σ2 H2 R2 y => h own2 σ2 H2 R2 (go y)
  | ct ρ' => exact fun own2 σ2 H2 R2 y => h own2 σ2 H2 R2 (go y)
  | rt y => exact h
  | rg y ρ' => exact fun v own2 σ2 H2 R2 y => h v own2 σ2 H2 R2 (go y)
def sFrz (i : Nat) (g : Sx S) : Sx S := fun ρ s => g (frz i ρ) s
theorem ds_frz (i : Nat) (h : DS X B E st g) : DS X B E st (sFrz i g) := by
  refine ps_imp h fun Dd σ H ⟨G, own, ρ, s, R, q⟩ => ?_
  obtain ⟨own', R', k⟩ := R.frz i
  exact ⟨G, own', _, s, R', q.mono fun fl s' q => q.less k⟩
theorem ds_move (c : Ctx X B) (i j : Nat) {x y : Str} {pos' p2 : Pos} (hj : X.N[j]? = some y := by rfl) (hv : Vis X.env.scope y := by first | exact .inl rfl | exact .inr (.inl rfl) | exact .inr (.inr rfl)) (hi : X.N[i]? = some x := by rfl) (hx : Loc X.env.scope x := by first | exact .inl rfl | exact .inr rfl)
    (hs : swapsWith (.Name y p2) (some (.Name x pos')) pos.line X.env = pure false := by rfl) (hf : X.fn x = true ∨ X.env.scope.names.lookup x = some .local := by first | exact .inl rfl | exact .inr rfl)
    (hd : (y == ("__debug__" : Str)) = false := by decide) (hcd : (y == ("__classdict__" : Str)) = false := by decide) : DS X B E (.Assign [.Name x pos'] (.Name y p2) pos) (sMove i j : Sx S) := by
  refine ps_imp (ps_set c.nd hi hx (pe_var hj hv hd hcd) hs hf) fun Dd σ H ⟨G, own, ρ, s, R, q⟩ => ?_
  have mv : ∀ (z : Sl), ρ[j]? = some z → (∃ a, own j = some a ∧ σ[j]? = some (some (V.ref a)) ∧ OwnAt B (Av G own) H a z) → i ≠ j → (∀ own' σ' H', Rel B G own' ((ρ.set j .no).set i z) s σ' H' → Gone G own own' H H' → Dd.nx σ' H') →
      tAsg (tVar j) (gName i) Dd σ H := by
    rintro z hz ⟨a, ho, hs, hx⟩ hij q
    by_cases hil : i < σ.length
    case neg =>
      have q' := q (fun k => if k = j then none else own k) (σ.set i (some (V.ref a))) H
      have e1 : (ρ.set j .no).set i z = ρ.set j .no := List.set_eq_of_length_le (by rw [List.length_set, R.len]; omega)
      have e2 : σ.set i (some (V.ref a)) = σ := List.set_eq_of_length_le (by omega)
      rw [e1, e2] at q'
      refine ⟨_, hs, ?_⟩
      show Dd.nx (σ.set i (some (V.ref a))) H
      rw [e2]
      have av : ∀ b, Av G (fun k => if k = j then none else own k) b → Av G own b := fun b h => by
        rcases h with h | ⟨k, h⟩
        · exact .inl h
        · by_cases hk : k = j
          · simp only [hk, if_true] at h; cases h
          · simp only [hk, if_false] at h; exact .inr ⟨k, h⟩
      have un : ∀ {k b}, (if k = j then none else own k) = some b → k ≠ j ∧ own k = some b := fun {k b} h => by
        by_cases hk : k = j
        · simp only [hk, if_true] at h; cases h
        · simp only [hk, if_false] at h; exact ⟨hk, h⟩
      refine q' ⟨R.wf1, R.wf2, R.fr, R.dk, R.rs, fun k l b h1 h2 => R.inj k l b (un h1).2 (un h2).2, fun k b h => R.fre k b (un h).2, fun k b h => R.ont k b (un h).2, by simp [R.len], fun k x e => ?_⟩ ⟨fun _ _ h _ _ => h, fun k b h => .inl ⟨k, (un h).2⟩⟩
      by_cases hk : k = j
      · subst hk
        obtain ⟨hl, e'⟩ := List.getElem?_eq_some_iff.mp e
        have hl' : k < ρ.length := by simpa using hl
        have : (ρ.set k .no)[k]? = some .no := by simp [hl']
        rw [this] at e; cases e
        trivial
      · rw [List.getElem?_set_ne (Ne.symm hk)] at e
        have q := R.sl k x e
        cases x with
        | no => trivial
        | v z => obtain ⟨u, e1, r⟩ := q; exact ⟨u, e1, r.mono av⟩
        | l ds => obtain ⟨b, ho, hs, r⟩ := q; exact ⟨b, by simp only [hk, if_false]; exact ho, hs, r.mono av⟩
        | m ds => obtain ⟨b, ho, hs, r⟩ := q; exact ⟨b, by simp only [hk, if_false]; exact ho, hs, r.mono av⟩
        | g c b fs =>
          obtain ⟨gs, ho, hs', hg, r⟩ := q
          refine ⟨gs, by simp only [hk, if_false]; exact ho, hs', fun l g hl => ?_, r.mono av⟩
          have := gix_ge (n := σ.length) (i := k) (j := l)
          have := (List.getElem?_eq_some_iff.mp hs).1
          show (if gix σ.length k l = j then none else own (gix σ.length k l)) = some g
          rw [if_neg (by omega)]
          exact hg l g hl
        | q _ _ => obtain ⟨b, ho, hs, r⟩ := q; exact ⟨b, by simp only [hk, if_false]; exact ho, hs, r.mono av⟩
    refine ⟨_, hs, q (fun k => if k = i then some a else if k = j then none else own k) _ H ?_ ⟨fun _ _ h _ _ => h, fun k b h => ?_⟩⟩
    · have un : ∀ {k b}, (if k = i then some a else if k = j then none else own k) = some b → ∃ l, own l = some b ∧ (k = i ∧ l = j ∨ k = l ∧ k ≠ i ∧ k ≠ j) := fun {k b} h => by
        by_cases hk : k = i
        · simp only [hk, if_true] at h; cases h; exact ⟨j, ho, .inl ⟨hk, rfl⟩⟩
        · by_cases hk2 : k = j
          · simp only [hk, if_false, hk2, if_true] at h
            split at h
            · rename_i e; exact absurd e.symm hij
            · cases h
          · simp only [hk, hk2, if_false] at h; exact ⟨k, h, .inr ⟨rfl, hk, hk2⟩⟩
      have av : ∀ b, Av G (fun k => if k = i then some a else if k = j then none else own k) b → Av G own b := fun b h => by
        rcases h with h | ⟨k, h⟩
        · exact .inl h
        · obtain ⟨l, e, _⟩ := un h; exact .inr ⟨l, e⟩
      refine ⟨R.wf1, R.wf2, R.fr, R.dk, R.rs, fun k l b h1 h2 => ?_, fun k b h => ?_, fun k b h => ?_, by simp [R.len], fun k x e => ?_⟩
      · obtain ⟨k', e1, c1⟩ := un h1
        obtain ⟨l', e2, c2⟩ := un h2
        have := R.inj _ _ _ e1 e2
        subst this
        rcases c1 with ⟨c1, d1⟩ | ⟨c1, d1, f1⟩ <;> rcases c2 with ⟨c2, d2⟩ | ⟨c2, d2, f2⟩ <;> omega
      · obtain ⟨l, e, _⟩ := un h; exact R.fre l b e
      · obtain ⟨l, e, _⟩ := un h; exact R.ont l b e
      · by_cases hk : k = i
        · subst hk
          obtain ⟨hl, e'⟩ := List.getElem?_eq_some_iff.mp e
          have hl' : k < ρ.length := by simpa using hl
          have : ((ρ.set j .no).set k z)[k]? = some z := by simp [hl']
          rw [this] at e; cases e
          have hs' : (σ.set k (some (V.ref a)))[k]? = some (some (V.ref a)) := by simp [← R.len, hl']
          cases z with
          | no => exact hx.elim
          | v _ => exact hx.elim
          | g _ _ _ => exact hx.elim
          | q _ _ => exact ⟨a, by simp, hs', hx.mono av⟩
          | l ds => exact ⟨a, by simp, hs', hx.mono av⟩
          | m ds => exact ⟨a, by simp, hs', hx.mono av⟩
        · rw [List.getElem?_set_ne (Ne.symm hk)] at e
          have e2 : (σ.set i (some (V.ref a)))[k]? = σ[k]? := List.getElem?_set_ne (Ne.symm hk)
          by_cases hk2 : k = j
          · subst hk2
            obtain ⟨hl, e'⟩ := List.getElem?_eq_some_iff.mp e
            have hl' : k < ρ.length := by simpa using hl
            have : (ρ.set k .no)[k]? = some .no := by simp [hl']
            rw [this] at e; cases e
            trivial
          · rw [List.getElem?_set_ne (Ne.symm hk2)] at e
            have q := R.sl k x e
            cases x with
            | no => trivial
            | v z => obtain ⟨u, e1, r⟩ := q; exact ⟨u, by rw [e2]; exact e1, r.mono av⟩
            | l ds => obtain ⟨b, ho, hs, r⟩ := q; exact ⟨b, by simp only [hk, hk2, if_false]; exact ho, by rw [e2]; exact hs, r.mono av⟩
            | m ds => obtain ⟨b, ho, hs, r⟩ := q; exact ⟨b, by simp only [hk, hk2, if_false]; exact ho, by rw [e2]; exact hs, r.mono av⟩
            | g c b fs =>
              obtain ⟨gs, ho, hs', hg, r⟩ := q
              refine ⟨gs, by simp only [hk, hk2, if_false]; exact ho, by rw [e2]; exact hs', fun l g hl => ?_, r.mono av⟩
              rw [List.length_set]
              have := gix_ge (n := σ.length) (i := k) (j := l)
              have := (List.getElem?_eq_some_iff.mp hs).1
              show (if gix σ.length k l = i then some a else if gix σ.length k l = j then none else own (gix σ.length k l)) = some g
              rw [if_neg (by omega), if_neg (by omega)]
              exact hg l g hl
            | q _ _ => obtain ⟨b, ho, hs, r⟩ := q; exact ⟨b, by simp only [hk, hk2, if_false]; exact ho, by rw [e2]; exact hs, r.mono av⟩
    · by_cases hk : k = i
      · simp only [hk, if_true] at h; cases h; exact .inl ⟨j, ho⟩
      · by_cases hk2 : k = j
        · simp only [hk, if_false, hk2, if_true] at h
          split at h
          · rename_i e; exact absurd e.symm hij
          · cases h
        · simp only [hk, hk2, if_false] at h; exact .inl ⟨k, h⟩
  unfold sMove at q
  cases z : ρ[j]? with
  | none => rw [z] at q; exact q.elim
  | some x =>
    rw [z] at q
    have p := R.sl j x z
    cases x with
    | no => exact q.elim
    | v y =>
      obtain ⟨u, e, r⟩ := p
      exact ⟨u, e, q own _ H (R.set r) .refl⟩
    | l ds =>
      dsimp only at q
      split at q
      · exact q.elim
      · rename_i hij
        exact mv _ z p hij q
    | g _ _ _ => exact q.elim
    | q _ _ => exact q.elim
    | m ds =>
      dsimp only at q
      split at q
      · exact q.elim
      · rename_i hij
        exact mv _ z p hij q
abbrev Lx (S : Type) := Env → S → Out S (List D)
def tF (B : Bs) (E : XK) (f : Lx S) : TE := fun σ H Q => ∃ G own ρ s, Rel B G own ρ s σ H ∧ (f ρ s).sat (fun ds s' => ∀ p H' xs, Stp G s' H H' → H p = none → H' p = some (.lst xs) → RpL B (fun a => Av G own a ∨ a = p) H' xs ds → Q (.ref p) H') fun e s' => ExW B G E e s'
abbrev DF (X : Cx) (B : Bs) (E : XK) (e : Expr) (f : Lx S) : Prop := PE X e (tF B E f)
def eL (f : Lx S) : Ex S := fun ρ s => (f ρ s).bind fun ds s1 => .ok (.d (.list ds)) s1
theorem DF.de {f : Lx S} (h : DF X B E e f) : DE X B E e (eL f) := by
  refine pe_imp h fun σ H Q ⟨G, own, ρ, s, R, q⟩ => ?_
  refine ⟨G, own, ρ, s, R, q.bnd.mono fun ds s1 q1 p H1 xs k hp e r => ?_⟩
  exact q1 _ H1 k (.lst e (R.fresh hp) (r.mono fun a z => .inl z))
def lSeq (g : Exs S) : Lx S := fun ρ s => (g ρ s).bind fun ys s1 => match datas ys with
  | some ds => if ds.length ≤ sizeLine then .ok ds s1 else .bad
  | none => .bad
theorem df_lst {es : List Expr} {g : Exs S} (h : DV X B E es g) : DF X B E (.List es pos) (lSeq g) := by
  refine pe_imp (pe_lst h) fun σ H Q ⟨G, own, ρ, s, R, q⟩ => ?_
  refine ⟨G, own, ρ, s, R, q.bnd.mono fun z s2 q2 w H2 k2 r2 => ?_⟩
  cases e : datas z with
  | none => simp only [e] at q2; exact q2.elim
  | some ds =>
    have rl := r2.datas e
    simp only [e] at q2
    split at q2
    · rename_i hl
      refine ⟨by rw [rl.len]; exact hl, fun p hp => q2 p _ w (k2.trans ((R.stp k2).put hp)) ?_ upd_same ((rl.grow hp).kp (kp_same (same_upd hp)))⟩
      cases z : H p with
      | none => rfl
      | some o =>
        by_cases hd : p ∈ G.dks
        · obtain ⟨o', e, _⟩ := (R.stp k2).dkT hd
          rw [hp] at e; cases e
        · rw [k2.fr p o z hd] at hp; cases hp
    · exact q2.elim
/-- xs + ys -/
def lCat (fa fb : Ex S) : Lx S := fun ρ s => (fa ρ s).bind fun x s1 => (fb ρ s1).bind fun y s2 => match x, y with
  | .d (.list a), .d (.list b) => if a.length + b.length ≤ sizeLine then .ok (a ++ b) s2 else .bad
  | _, _ => .bad
theorem Stp.none {G : Gh} {own : Own} {ρ : Env} {s' : S} {σ : Sg} {H H' : Hp} (R' : Rel B G own ρ s' σ H') (k : Stp G s' H H') {p : Addr} (hp : H' p = none) : H p = none := by
  cases z : H p with
  | none => rfl
  | some o =>
    by_cases hd : p ∈ G.dks
    · obtain ⟨o', e, _⟩ := R'.dkT hd
      rw [hp] at e; cases e
    · rw [k.fr p o z hd] at hp; cases hp
theorem df_cat {a b : Expr} {fa fb : Ex S} (ha : DB X B E a fa) (hb : DB X B E b fb) : DF X B E (.BinOp a .Add b pos) (lCat fa fb) := by
  refine pe_imp (pe_op op_cat ha hb) fun σ H Q ⟨G, own, ρ, s, R, q⟩ => ?_
  refine tB.run R _ q.bnd fun y s1 v H1 q1 k1 r1 R1 => ?_
  refine tB.run R1 _ q1.bnd fun z s2 w H2 q2 k2 r2 R2 => ?_
  cases y with
  | r _ => exact q2.elim
  | o _ _ => exact q2.elim
  | p _ => exact q2.elim
  | f _ => exact q2.elim
  | d p =>
    cases p with
    | list x =>
      cases z with
      | r _ => exact q2.elim
      | o _ _ => exact q2.elim
      | p _ => exact q2.elim
      | f _ => exact q2.elim
      | d q =>
        cases q with
        | list y =>
          dsimp only at q2
          split at q2
          · rename_i hl
            obtain ⟨u, xs, rfl, tx, rx⟩ := rt_lst (r1.kp R1 k2)
            obtain ⟨w, ys, rfl, ty, ry⟩ := rt_lst r2
            exact ⟨u, w, xs, ys, rfl, rfl, tx, ty, by rw [rx.len, ry.len]; exact hl, fun p hp => q2 p _ _ ((k1.trans k2).trans (R2.put hp)) (Stp.none R2 (k1.trans k2) hp) upd_same (((rx.app ry).grow hp).kp (kp_same (same_upd hp)))⟩
          · exact q2.elim
        | _ => exact q2.elim
    | _ => exact q2.elim
/-- name = a new list, one's own -/
def sNew (i : Nat) (f : Lx S) : Sx S := fun ρ s => (f ρ s).bind fun ds s1 => .ok (.nx (ρ.set i (.l ds))) s1
theorem ds_new (c : Ctx X B) (i : Nat) {x : Str} {pos' : Pos} {f : Lx S} (h : DF X B E e f) (hi : X.N[i]? = some x := by rfl) (hx : Loc X.env.scope x := by first | exact .inl rfl | exact .inr rfl) (hs : swapsWith e (some (.Name x pos')) pos.line X.env = pure false := by rfl)
    (hf : X.fn x = true ∨ X.env.scope.names.lookup x = some .local := by first | exact .inl rfl | exact .inr rfl) : DS X B E (.Assign [.Name x pos'] e pos) (sNew i f) := by
  refine ps_imp (ps_set c.nd hi hx h hs hf) fun Dd σ H ⟨G, own, ρ, s, R, q⟩ => ?_
  refine ⟨G, own, ρ, s, R, q.bnd.mono fun ds s1 q1 p H1 xs k hp e r => ?_⟩
  obtain ⟨_, R', g⟩ := R.mine (i := i) (x := .l ds) hp k ⟨xs, e, r⟩
  exact q1 _ _ H1 R' g
theorem ty_list {K : PySem.W.Frag} {H : Hp} {a : Addr} {xs : List V} (h : H a = some (.lst xs)) : tyV K "list" (.ref a) H := .inl ⟨rfl, _, SqL.of h⟩
def sApp (i : Nat) (f : Ex S) : Sx S := fun ρ s => match ρ[i]? with
  | some (.l ds) => (f ρ s).bind fun y s1 => (match y with
    | .d z => if ds.length < sizeLine then .ok (.nx (ρ.set i (.l (ds ++ [z])))) s1 else .bad
    | _ => .bad)
  | _ => .bad
theorem ds_app (c : Ctx X B) (i : Nat) (hp : PE X e (tBM X.K "list" rAppend (tVar i) (tCons (tD B E f) tNil))) (hs : swapsWith e none pos.line X.env = pure false := by rfl) : DS X B E (.Expr e pos) (sApp i f) := by
  refine ps_imp (ps_expr hp hs) fun Dd σ H ⟨G, own, ρ, s, R, q⟩ => ?_
  unfold sApp at q
  cases z : ρ[i]? with
  | none => rw [z] at q; exact q.elim
  | some x =>
    rw [z] at q
    have p := R.sl i x z
    cases x with
    | l ds =>
      obtain ⟨a, ho, hs, xs, hx, r⟩ := p
      refine ⟨_, hs, ty_list hx, ?_⟩
      refine tD.run R _ q.bnd fun y s1 v H1 q1 k1 r1 R1 => ?_
      have hd : a ∉ G.dks := fun z => (R.fre i a ho).2 (R.wf1 a z)
      have hx1 := k1.fr a _ hx hd
      have r' := RpL.kp (R.kp k1) r
      cases y with
      | r _ => exact q1.elim
      | o _ _ => exact q1.elim
      | p _ => exact q1.elim
      | f _ => exact q1.elim
      | d d =>
        dsimp only at q1
        split at q1
        · rename_i hl
          have kp : Kp (Av G own) H1 (upd H1 a (.lst (xs ++ [v]))) := by
            refine ⟨fun b ys ht h => ?_, fun b u h n => ?_⟩
            · rw [upd_ne]
              · exact h
              · rintro rfl; rw [hx1] at h; cases h; cases ht
            · rw [upd_ne]
              · exact h
              · rintro rfl; exact n (.inr ⟨i, ho⟩)
          obtain ⟨R2, g2⟩ := R1.chg (x := .l (ds ++ [d])) (o := .lst (xs ++ [v])) ho hs rfl ⟨_, upd_same, RpL.kp kp (r'.app (.cons r1 .nil))⟩
          exact ⟨a, xs, v, rfl, rfl, hx1, by rw [r.len]; exact hl, q1 own σ _ R2 ((Gone.of_stp k1).trans R1 g2)⟩
        · exact q1.elim
    | _ => exact q.elim
def sExt (i : Nat) (f : Ex S) : Sx S := fun ρ s => match ρ[i]? with
  | some (.l ds) => (f ρ s).bind fun y s1 => (match y with
    | .d (.list zs) => if ds.length + zs.length ≤ sizeLine then .ok (.nx (ρ.set i (.l (ds ++ zs)))) s1 else .bad
    | _ => .bad)
  | _ => .bad
theorem ds_ext (c : Ctx X B) (i : Nat) (hp : PE X e (tBM X.K "list" rExtend (tVar i) (tCons (tB B E f) tNil))) (hs : swapsWith e none pos.line X.env = pure false := by rfl) : DS X B E (.Expr e pos) (sExt i f) := by
  refine ps_imp (ps_expr hp hs) fun Dd σ H ⟨G, own, ρ, s, R, q⟩ => ?_
  unfold sExt at q
  cases z : ρ[i]? with
  | none => rw [z] at q; exact q.elim
  | some x =>
    rw [z] at q
    have p := R.sl i x z
    cases x with
    | l ds =>
      obtain ⟨a, ho, hs, xs, hx, r⟩ := p
      refine ⟨_, hs, ty_list hx, ?_⟩
      refine tB.run R _ q.bnd fun y s1 v H1 q1 k1 r1 R1 => ?_
      have hd : a ∉ G.dks := fun z => (R.fre i a ho).2 (R.wf1 a z)
      have hx1 := k1.fr a _ hx hd
      have r' := RpL.kp (R.kp k1) r
      cases y with
      | r _ => exact q1.elim
      | o _ _ => exact q1.elim
      | p _ => exact q1.elim
      | f _ => exact q1.elim
      | d d =>
        cases d with
        | list zs =>
          dsimp only at q1
          split at q1
          · rename_i hl
            obtain ⟨b, ys, rfl, hb, ry⟩ := rt_lst r1
            have kp : Kp (Av G own) H1 (upd H1 a (.lst (xs ++ ys))) := by
              refine ⟨fun b ys ht h => ?_, fun b u h n => ?_⟩
              · rw [upd_ne]
                · exact h
                · rintro rfl; rw [hx1] at h; cases h; cases ht
              · rw [upd_ne]
                · exact h
                · rintro rfl; exact n (.inr ⟨i, ho⟩)
            obtain ⟨R2, g2⟩ := R1.chg (x := .l (ds ++ zs)) (o := .lst (xs ++ ys)) ho hs rfl ⟨_, upd_same, RpL.kp kp (r'.app ry)⟩
            exact ⟨a, b, xs, ys, rfl, rfl, hx1, hb, by rw [r.len, ry.len]; exact hl, q1 own σ _ R2 ((Gone.of_stp k1).trans R1 g2)⟩
          · exact q1.elim
        | _ => exact q1.elim
    | _ => exact q.elim
theorem RpL.last {B : Bs} {A : Addr → Prop} {H : Hp} {v : List V} {d : List D} (r : RpL B A H v d) : RpL B A H v.dropLast d.dropLast := by
  rw [List.dropLast_eq_take, List.dropLast_eq_take, r.len]
  exact r.take _
/-- name = list.pop() -/
def sPop (i j : Nat) : Sx S := fun ρ s => match ρ[j]? with
  | some (.l ds) => (match ds[ds.length - 1]? with
    | some d => if i = j then .bad else .ok (.nx ((ρ.set j (.l ds.dropLast)).set i (.v (.d d)))) s
    | none => .bad)
  | _ => .bad
theorem ds_pop (c : Ctx X B) (i j : Nat) {x : Str} {pos' : Pos} (hp : PE X e (tBM0 X.K "list" rPop (tVar j))) (hi : X.N[i]? = some x := by rfl) (hx : Loc X.env.scope x := by first | exact .inl rfl | exact .inr rfl)
    (hs : swapsWith e (some (.Name x pos')) pos.line X.env = pure false := by rfl) (hf : X.fn x = true ∨ X.env.scope.names.lookup x = some .local := by first | exact .inl rfl | exact .inr rfl) : DS X B E (.Assign [.Name x pos'] e pos) (sPop i j : Sx S) := by
  refine ps_imp (ps_set c.nd hi hx hp hs hf) fun Dd σ H ⟨G, own, ρ, s, R, q⟩ => ?_
  unfold sPop at q
  cases z : ρ[j]? with
  | none => rw [z] at q; exact q.elim
  | some x =>
    rw [z] at q
    have p := R.sl j x z
    cases x with
    | l ds =>
      dsimp only at q
      obtain ⟨a, ho, hs, xs, hx, r⟩ := p
      cases hz : ds[ds.length - 1]? with
      | none => rw [hz] at q; exact q.elim
      | some d =>
        rw [hz] at q
        dsimp only at q
        split at q
        · exact q.elim
        · rename_i hij
          obtain ⟨v, e, rv⟩ := r.get' hz
          have kp : Kp (Av G own) H (upd H a (.lst xs.dropLast)) := by
            refine ⟨fun b ys ht h => ?_, fun b u h n => ?_⟩
            · rw [upd_ne]
              · exact h
              · rintro rfl; rw [hx] at h; cases h; cases ht
            · rw [upd_ne]
              · exact h
              · rintro rfl; exact n (.inr ⟨j, ho⟩)
          obtain ⟨R2, g2⟩ := R.chg (x := .l ds.dropLast) (o := .lst xs.dropLast) ho hs rfl ⟨_, upd_same, RpL.kp kp r.last⟩
          exact ⟨_, hs, ty_list hx, a, xs, v, rfl, rfl, hx, by rw [r.len]; exact e, q own _ _ (R2.set (y := .d d) (rv.kp kp)) g2⟩
    | _ => exact q.elim
end
end DL
namespace DL
open PySem PySem.Spec PyProof.Rows L2
variable {S : Type} [SI S]
/-- J walks ds, whatever is changed where U says -/
def ItOk (B : Bs) (A U : Addr → Prop) (J : It) (ds : List D) (H1 : Hp) : Prop := ∀ H2, (∀ a o, H1 a = some o → ¬ U a → H2 a = some o) →
  (∀ i d, ds[i]? = some d → J.go i H2 ∧ ∀ x H3, J.yld i H2 x H3 → Same H2 H3 ∧ ∀ A', (∀ a, A' a → A a ∨ H1 a = none) → Rp B A' H3 x d) ∧ J.stop ds.length H2
/-- cmp: in a comprehension (nothing of one's own changes) -/
def Chg (G : Gh) (own : Own) (cmp : Bool) (a : Addr) : Prop := a ∈ G.dks ∨ (cmp = false ∧ ∃ i, own i = some a)
def tI (B : Bs) (E : XK) (cmp : Bool) (f : Lx S) : TI := fun σ H R => ∃ G own ρ s, Rel B G own ρ s σ H ∧ (f ρ s).sat (fun ds s' => ∀ J H1, Stp G s' H H1 → ItOk B (Av G own) (Chg G own cmp) J ds H1 → R J H1) fun e s' => ExW B G E e s'
abbrev DI (X : Cx) (B : Bs) (E : XK) (cmp : Bool) (tg e : Expr) (f : Lx S) : Prop := PI X tg e (tI B E cmp f)
section
variable {B : Bs} {G : Gh} {own : Own} {ρ : Env} {s s' : S} {σ : Sg} {H H1 : Hp}
theorem Chg.av (R : Rel B G own ρ s σ H) {cmp : Bool} {a : Addr} (h : Chg G own cmp a) : Av G own a := h.elim (fun z => R.dkA a z) fun z => .inr z.2
theorem Rel.noT (R : Rel B G own ρ s σ H) {cmp : Bool} {a : Addr} {u : HO} (ht : isTu u = true) (h : H a = some u) : ¬ Chg G own cmp a := fun z => by
  rcases z with z | ⟨_, i, z⟩
  · obtain ⟨o, e, n⟩ := R.dkT z
    rw [h] at e; cases e; rw [ht] at n; cases n
  · obtain ⟨o, e, n⟩ := R.ont i a z
    rw [h] at e; cases e; rw [ht] at n; cases n
/-- what stands for data still does -/
theorem ItOk.item (R : Rel B G own ρ s σ H1) {cmp : Bool} {H2 H3 : Hp} (k : ∀ a o, H1 a = some o → ¬ Chg G own cmp a → H2 a = some o) (sm : Same H2 H3) {x : V} {d : D} (h : Rp B (Av G own) H1 x d) :
    ∀ A', (∀ a, A' a → Av G own a ∨ H1 a = none) → Rp B A' H3 x d := fun A' hA => by
  have h2 : Rp B (fun a => A' a ∨ Av G own a) H1 x d := Rp.wk (fun a z => z.elim (hA a) .inl) h
  have kp : Kp (fun a => A' a ∨ Av G own a) H1 H3 := ⟨fun a u ht e => sm a _ (k a _ e (R.noT ht e)), fun a o e n => sm a _ (k a o e fun z => n (.inr (Chg.av R z)))⟩
  exact (h2.kp kp).mono fun _ z => .inl z
theorem tp_kept (R : Rel B G own ρ s σ H1) {cmp : Bool} {H2 : Hp} (k : ∀ a o, H1 a = some o → ¬ Chg G own cmp a → H2 a = some o) {K : PySem.W.Frag} {a : Addr} {xs : List V} (h : Tp K H1 a xs) : Tp K H2 a xs := by
  rcases h with (h | ⟨o, h⟩) | h
  · exact .inl (.inl (k a _ h (R.noT rfl h)))
  · exact .inl (.inr ⟨o, k a _ h (R.noT rfl h)⟩)
  · exact .inr h
theorem it_tup {K : PySem.W.Frag} (R : Rel B G own ρ s σ H1) {cmp : Bool} {a : Addr} {xs : List V} {ds : List D} (h : Tp K H1 a xs) (r : RpL B (Av G own) H1 xs ds) : ItOk B (Av G own) (Chg G own cmp) (Itt K a) ds H1 := by
  intro H2 k
  have h2 := tp_kept R k h
  refine ⟨fun i d e => ?_, xs, h2.sq, by rw [r.len]; exact Nat.le_refl _⟩
  obtain ⟨x, ex, rx⟩ := r.get' e
  refine ⟨⟨xs, x, h2.sq, ex⟩, ?_⟩
  rintro y H3 ⟨rfl, hy⟩
  have := hy xs h2.sq
  rw [ex] at this; cases this
  exact ⟨Same.refl _, ItOk.item R k (Same.refl _) rx⟩
theorem it_lst {K : PySem.W.Frag} (R : Rel B G own ρ s σ H1) {cmp : Bool} {a : Addr} {xs : List V} {ds : List D} (h : H1 a = some (.lst xs)) (n : ¬ Chg G own cmp a) (r : RpL B (Av G own) H1 xs ds) : ItOk B (Av G own) (Chg G own cmp) (Itl K a) ds H1 := by
  intro H2 k
  have h2 := SqL.of (K := K) (k a _ h n)
  refine ⟨fun i d e => ?_, xs, h2, by rw [r.len]; exact Nat.le_refl _⟩
  obtain ⟨x, ex, rx⟩ := r.get' e
  refine ⟨⟨xs, x, h2, ex⟩, ?_⟩
  rintro y H3 ⟨rfl, hy⟩
  have := hy xs h2
  rw [ex] at this; cases this
  exact ⟨Same.refl _, ItOk.item R k (Same.refl _) rx⟩
theorem it_rng (R : Rel B G own ρ s σ H1) {cmp : Bool} {lo : Int} {n : Nat} : ItOk B (Av G own) (Chg G own cmp) (Itr lo n) ((List.range n).map fun i => .int (lo + (i : Nat))) H1 := by
  intro H2 k
  refine ⟨fun i d e => ?_, by show n ≤ _; simp⟩
  rw [List.getElem?_map] at e
  by_cases hi : i < n
  · rw [List.getElem?_range hi] at e
    cases e
    refine ⟨hi, ?_⟩
    rintro y H3 ⟨rfl, rfl⟩
    exact ⟨Same.refl _, fun _ _ => .int _⟩
  · rw [List.getElem?_eq_none (by simpa using hi)] at e; cases e
end
section
variable {X : Cx} {B : Bs} {E : XK} {e a b c tg : Expr} {f fa fb : Ex S} {g : Exs S} {pos p : Pos}
def iSeq (f : Ex S) : Lx S := fun ρ s => (f ρ s).bind fun y s1 => match y with
  | .d (.list ds) => .ok ds s1
  | .d (.tuple ds) => .ok ds s1
  | _ => .bad
theorem sat_eq {α : Type} {o : Out S α} {P : α → S → Prop} {T : Exn → S → Prop} (h : o.sat P T) : (∃ y s', o = .ok y s' ∧ P y s') ∨ ∃ e s', o = .ex e s' ∧ T e s' := by
  cases o with
  | bad => exact h.elim
  | ok y s' => exact .inl ⟨y, s', rfl, h⟩
  | ex e s' => exact .inr ⟨e, s', rfl, h⟩
theorem di_seq (hB : B.K = X.K) {cmp : Bool} (h : DE X B E e f) : DI X B E cmp tg e (iSeq f) := by
  refine pi_imp (pi_or (pi_list h) (pi_tup h)) fun σ H R' ⟨G, own, ρ, s, R, q⟩ => ?_
  have q1 := Out.sat.bnd q
  rcases sat_eq q1 with ⟨y, s1, e1, q2⟩ | ⟨y, s1, e1, q2⟩
  · have go : ∀ (P : Val → S → Prop), P y s1 → (f ρ s).sat P fun e s' => ExW B G E e s' := fun P hP => by rw [e1]; exact hP
    cases y with
    | r _ => exact q2.elim
    | o _ _ => exact q2.elim
    | p _ => exact q2.elim
    | f _ => exact q2.elim
    | d d =>
      cases d with
      | list ds =>
        refine .inl ⟨G, own, ρ, s, R, go _ fun v H1 k r => ?_⟩
        cases r with
        | lst h n r => 
          exact ⟨_, rfl, ⟨_, SqL.of h⟩, q2 _ H1 k (it_lst (R.stp k) h (fun z => n (Chg.av (R.stp k) z)) r)⟩
      | tuple ds =>
        refine .inr ⟨G, own, ρ, s, R, go _ fun v H1 k r => ?_⟩
        cases r with
        | tup h r => 
          refine ⟨_, rfl, ⟨_, by rw [← hB]; exact h.sq⟩, q2 _ H1 k (by rw [← hB]; exact it_tup (R.stp k) h r)⟩
      | _ => exact q2.elim
  · exact .inl ⟨G, own, ρ, s, R, by rw [e1]; exact q2⟩
theorem di_seqB (hB : B.K = X.K) (h : DB X B E e f) : DI X B E true tg e (iSeq f) := by
  refine pi_imp (pi_or (pi_list h) (pi_tup h)) fun σ H R' ⟨G, own, ρ, s, R, q⟩ => ?_
  have q1 := Out.sat.bnd q
  rcases sat_eq q1 with ⟨y, s1, e1, q2⟩ | ⟨y, s1, e1, q2⟩
  · have go : ∀ (P : Val → S → Prop), P y s1 → (f ρ s).sat P fun e s' => ExW B G E e s' := fun P hP => by rw [e1]; exact hP
    have nc : ∀ a, ¬ G.A0 a → ¬ Chg G own true a := fun a n z => z.elim (fun z => n (R.wf1 a z)) fun z => by cases z.1
    cases y with
    | r _ => exact q2.elim
    | o _ _ => exact q2.elim
    | p _ => exact q2.elim
    | f _ => exact q2.elim
    | d d =>
      cases d with
      | list ds =>
        refine .inl ⟨G, own, ρ, s, R, go _ fun v H1 k r => ?_⟩
        cases r with
        | lst h n r => exact ⟨_, rfl, ⟨_, SqL.of h⟩, q2 _ H1 k (it_lst (R.stp k) h (nc _ n) r)⟩
        | of r =>
          cases r with
          | lst h n r => exact ⟨_, rfl, ⟨_, SqL.of h⟩, q2 _ H1 k (it_lst (R.stp k) h (fun z => n (Chg.av (R.stp k) z)) r)⟩
      | tuple ds =>
        refine .inr ⟨G, own, ρ, s, R, go _ fun v H1 k r => ?_⟩
        cases r with
        | of r =>
          cases r with
          | tup h r => exact ⟨_, rfl, ⟨_, by rw [← hB]; exact h.sq⟩, q2 _ H1 k (by rw [← hB]; exact it_tup (R.stp k) h r)⟩
      | _ => exact q2.elim
  · exact .inl ⟨G, own, ρ, s, R, by rw [e1]; exact q2⟩
/-- the ints lo, lo + 1, .. -/
def rngD (lo : Int) (n : Nat) : List D := (List.range n).map fun i => .int (lo + (i : Nat))
def rngC (lo c : Int) (n : Nat) : List D := (List.range n).map fun i => .int (lo + (i : Nat) * c)
def small62 (i : Int) : Bool := decide (-(2 ^ 62) ≤ i ∧ i < 2 ^ 62)
def iRg1 (g : Exs S) : Lx S := fun ρ s => (g ρ s).bind fun ys s1 => match ys with
  | [.d (.int j)] => if small62 j then .ok (rngD 0 j.toNat) s1 else .bad
  | _ => .bad
def iRg2 (g : Exs S) : Lx S := fun ρ s => (g ρ s).bind fun ys s1 => match ys with
  | [.d (.int i), .d (.int j)] => if small62 i && small62 j then .ok (rngD i (j - i).toNat) s1 else .bad
  | _ => .bad
/-- range(i, j, -1) -/
def iRg3 (g : Exs S) : Lx S := fun ρ s => (g ρ s).bind fun ys s1 => match ys with
  | [.d (.int i), .d (.int j), .d (.int (-1))] => if small62 i && small62 j then .ok (rngC i (-1) (i - j).toNat) s1 else .bad
  | _ => .bad
theorem rtl1 {A N : Addr → Prop} {H : Hp} {vs : List V} {y : Val} (h : RtL B A N H vs [y]) : ∃ v, vs = [v] ∧ RtV B A N H v y := by
  cases h with
  | cons h t => cases t; exact ⟨_, rfl, h⟩
theorem rtl2 {A N : Addr → Prop} {H : Hp} {vs : List V} {y z : Val} (h : RtL B A N H vs [y, z]) : ∃ v w, vs = [v, w] ∧ RtV B A N H v y ∧ RtV B A N H w z := by
  cases h with
  | cons h t =>
    obtain ⟨w, rfl, r⟩ := rtl1 t
    exact ⟨_, _, rfl, h, r⟩
theorem di_range1 {cmp : Bool} (hm : X.mg "range" = none) (ha : DA X B E [a] g) (hg : Gl X "range" := by rfl) (hs : starEach [a] X.env = [(false, eval a X.env)] := by rfl) : DI X B E cmp tg (.Call (.Name "range" p) [a] [] pos) (iRg1 g) := by
  refine pi_imp (pi_range1 hg hm ha hs) fun σ H R' ⟨G, own, ρ, s, R, q⟩ => ?_
  refine tAs.run R _ q.bnd fun ys s1 vs H1 q1 k1 r1 R1 => ?_
  split at q1
  · rename_i j
    obtain ⟨v, rfl, r⟩ := rtl1 r1
    split at q1
    · rename_i hj
      unfold small62 at hj
      rw [decide_eq_true_eq] at hj
      refine ⟨j, by rw [rt_int r], hj.1, hj.2, q1 _ H1 k1 (it_rng R1)⟩
    · exact q1.elim
  · exact q1.elim
theorem di_range2 {cmp : Bool} (hm : X.mg "range" = none) (ha : DA X B E [a, b] g) (hg : Gl X "range" := by rfl) (hs : starEach [a, b] X.env = [(false, eval a X.env), (false, eval b X.env)] := by rfl) (hs2 : starEach [b] X.env = [(false, eval b X.env)] := by rfl) :
    DI X B E cmp tg (.Call (.Name "range" p) [a, b] [] pos) (iRg2 g) := by
  refine pi_imp (pi_range2 hg hm ha hs hs2) fun σ H R' ⟨G, own, ρ, s, R, q⟩ => ?_
  refine tAs.run R _ q.bnd fun ys s1 vs H1 q1 k1 r1 R1 => ?_
  split at q1
  · rename_i i j
    obtain ⟨v, w, rfl, r, r'⟩ := rtl2 r1
    split at q1
    · rename_i hj
      unfold small62 at hj
      rw [Bool.and_eq_true, decide_eq_true_eq, decide_eq_true_eq] at hj
      refine ⟨i, j, by rw [rt_int r, rt_int r'], ⟨hj.1.1, hj.1.2, hj.2.1, hj.2.2⟩, q1 _ H1 k1 (it_rng R1)⟩
    · exact q1.elim
  · exact q1.elim
/-- zip(xs, ys): both lists, or both tuples -/
def zipD (a b : List D) : List D := (a.zip b).map fun p => .tuple [p.1, p.2]
def iZip (g : Exs S) : Lx S := fun ρ s => (g ρ s).bind fun ys s1 => match ys with
  | [.d (.list a), .d (.list b)] => .ok (zipD a b) s1
  | [.d (.tuple a), .d (.tuple b)] => .ok (zipD a b) s1
  | _ => .bad
theorem zip_at {ds es : List D} {i : Nat} {d : D} (e : (zipD ds es)[i]? = some d) : ∃ x y, ds[i]? = some x ∧ es[i]? = some y ∧ d = .tuple [x, y] := by
  unfold zipD at e
  rw [List.getElem?_map] at e
  obtain ⟨p, e1, e2⟩ := Option.map_eq_some_iff.mp e
  obtain ⟨h1, h2⟩ := List.getElem?_zip_eq_some.mp e1
  exact ⟨_, _, h1, h2, e2.symm⟩
theorem zip_len {ds es : List D} {n m : Nat} (h : n = ds.length) (h' : m = es.length) : n ≤ (zipD ds es).length ∨ m ≤ (zipD ds es).length := by
  unfold zipD
  rw [List.length_map, List.length_zip]
  omega
theorem it_zip {G : Gh} {own : Own} {ρ : Env} {s : S} {σ : Sg} {H1 : Hp} (R : Rel B G own ρ s σ H1) {cmp : Bool} {K : PySem.W.Frag} {a b : Addr} {xs ys : List V} {ds es : List D} (h : H1 a = some (.lst xs)) (n : ¬ Chg G own cmp a) (r : RpL B (Av G own) H1 xs ds)
    (h' : H1 b = some (.lst ys)) (n' : ¬ Chg G own cmp b) (r' : RpL B (Av G own) H1 ys es) : ItOk B (Av G own) (Chg G own cmp) (Itz K a b) (zipD ds es) H1 := by
  intro H2 k
  have h2 := SqL.of (K := K) (k a _ h n)
  have h2' := SqL.of (K := K) (k b _ h' n')
  refine ⟨fun i d e => ?_, xs, ys, h2, h2', zip_len r.len r'.len⟩
  obtain ⟨x, y, e1, e2, rfl⟩ := zip_at e
  obtain ⟨u, eu, ru⟩ := r.get' e1
  obtain ⟨w, ew, rw'⟩ := r'.get' e2
  refine ⟨⟨xs, ys, u, w, h2, h2', eu, ew⟩, ?_⟩
  rintro z H3 ⟨T, u', w', rfl, hT, rfl, q1, q2⟩
  have z1 := q1 xs h2
  have z2 := q2 ys h2'
  rw [eu] at z1; rw [ew] at z2; cases z1; cases z2
  exact ⟨same_upd hT, fun A' hA => .tup (Tp.of upd_same) (.cons (ItOk.item R k (same_upd hT) ru A' hA) (.cons (ItOk.item R k (same_upd hT) rw' A' hA) .nil))⟩
theorem it_zipT {G : Gh} {own : Own} {ρ : Env} {s : S} {σ : Sg} {H1 : Hp} (R : Rel B G own ρ s σ H1) {cmp : Bool} {K : PySem.W.Frag} {a b : Addr} {xs ys : List V} {ds es : List D} (h : Tp K H1 a xs) (r : RpL B (Av G own) H1 xs ds)
    (h' : Tp K H1 b ys) (r' : RpL B (Av G own) H1 ys es) : ItOk B (Av G own) (Chg G own cmp) (RZ.ItzT K a b) (zipD ds es) H1 := by
  intro H2 k
  have h2 := (tp_kept R k h).sq
  have h2' := (tp_kept R k h').sq
  refine ⟨fun i d e => ?_, xs, ys, h2, h2', zip_len r.len r'.len⟩
  obtain ⟨x, y, e1, e2, rfl⟩ := zip_at e
  obtain ⟨u, eu, ru⟩ := r.get' e1
  obtain ⟨w, ew, rw'⟩ := r'.get' e2
  refine ⟨⟨xs, ys, u, w, h2, h2', eu, ew⟩, ?_⟩
  rintro z H3 ⟨T, u', w', rfl, hT, rfl, q1, q2⟩
  have z1 := q1 xs h2
  have z2 := q2 ys h2'
  rw [eu] at z1; rw [ew] at z2; cases z1; cases z2
  exact ⟨same_upd hT, fun A' hA => .tup (Tp.of upd_same) (.cons (ItOk.item R k (same_upd hT) ru A' hA) (.cons (ItOk.item R k (same_upd hT) rw' A' hA) .nil))⟩
theorem di_zip (hB : B.K = X.K) {elts : List Expr} {kk : Nat} {tpos : Pos} (hm : X.mg "zip" = none) (ha : DA X B E [a, b] g) (hg : Gl X "zip" := by rfl)
    (hs : starEach [a, b] X.env = (false, eval a X.env) :: starEach [b] X.env := by rfl) (hpl : (backTo pos (starEach [b] X.env)).any (·.1) = false := by rfl) : DI X B E true (.Tuple elts kk tpos) (.Call (.Name "zip" p) [a, b] [] pos) (iZip g) := by
  refine pi_imp (RZ.pi_zipA hg hm ha hs hpl) fun σ H R' ⟨G, own, ρ, s, R, q⟩ => ?_
  refine tAs.run R _ q.bnd fun ys s1 vs H1 q1 k1 r1 R1 => ?_
  have nc : ∀ a, ¬ G.A0 a → ¬ Chg G own true a := fun a n z => z.elim (fun z => n (R.wf1 a z)) fun z => by cases z.1
  have ls : ∀ {v : V} {ds : List D}, RtV B (Av G own) G.A0 H1 v (.d (.list ds)) → ∃ a xs, v = .ref a ∧ H1 a = some (.lst xs) ∧ ¬ Chg G own true a ∧ RpL B (Av G own) H1 xs ds := fun {v ds} h => by
    cases h with
    | lst h n r => exact ⟨_, _, rfl, h, nc _ n, r⟩
    | of r =>
      cases r with
      | lst h n r => exact ⟨_, _, rfl, h, fun z => n (Chg.av R1 z), r⟩
  split at q1
  · obtain ⟨v, w, rfl, r, r'⟩ := rtl2 r1
    obtain ⟨u, xs, rfl, h, n, rx⟩ := ls r
    obtain ⟨u', xs', rfl, h', n', rx'⟩ := ls r'
    exact ⟨u, u', xs, xs', rfl, .inl ⟨SqL.of h, SqL.of h', q1 _ H1 k1 (it_zip R1 h n rx h' n' rx')⟩⟩
  · obtain ⟨v, w, rfl, r, r'⟩ := rtl2 r1
    obtain ⟨u, xs, rfl, h, rx⟩ := rt_tup r
    obtain ⟨u', xs', rfl, h', rx'⟩ := rt_tup r'
    exact ⟨u, u', xs, xs', rfl, .inr ⟨by rw [← hB]; exact h.sq, by rw [← hB]; exact h'.sq, q1 _ H1 k1 (by rw [← hB]; exact it_zipT R1 h rx h' rx')⟩⟩
  · exact q1.elim
end
def forL (bt : Bt) (g : Sx S) : List D → Sx S
  | [], ρ, s => .ok (.nx ρ) s
  | d :: ds, ρ, s => match bt d ρ with
    | none => .bad
    | some ρ1 => (g ρ1 s).bind fun fl s1 => match fl with
      | .nx ρ2 => forL bt g ds ρ2 s1
      | .ct ρ2 => forL bt g ds ρ2 s1
      | .bk ρ2 => .ok (.nx ρ2) s1
      | .rt y => .ok (.rt y) s1
      | .rg y ρ2 => .ok (.rg y ρ2) s1
def sFor (it : Lx S) (bt : Bt) (g : Sx S) : Sx S := fun ρ s => (it ρ s).bind fun ds s1 => forL bt g ds ρ s1
section
variable {X : Cx} {B : Bs} {E : XK} {tg iter c : Expr} {body : List Stmt} {it : Lx S} {bt : Bt} {g : Sx S} {vs : List Nat} {pos : Pos}
/-- fresh in the course of a statement: Av grows by what was not there -/
theorem Gone.av {G : Gh} {own own' : Own} {H H' : Hp} (x : Gone G own own' H H') {a : Addr} (h : Av G own' a) : Av G own a ∨ H a = none := by
  rcases h with h | ⟨i, h⟩
  · exact .inl (.inl h)
  · exact (x.news i a h).elim (fun ⟨j, z⟩ => .inl (.inr ⟨j, z⟩)) .inr
theorem Gone.same {G : Gh} {own : Own} {H H' : Hp} (k : Same H H') : Gone G own own H H' := ⟨fun a o h _ _ => k a o h, fun i a h => .inl ⟨i, h⟩⟩
theorem ds_for (hc : Ctx X B) (hp : PassesOwn (model X.prog X.w) X.A X.env X.xe) (hi : DI X B E false tg iter it) (hg : DG S X B tg bt vs) (hb : DSs X B E body g) (hs : ∀ x, foldedSetIterable iter X.env x = pure x := by intro _; rfl) :
    DS X B E (.For tg iter body [] pos) (sFor it bt g) := by
  refine ps_imp (ps_for hp hc.calm hi hg hb hs) fun Dd σ H ⟨G, own, ρ, s, R, q⟩ => ?_
  refine ⟨G, own, ρ, s, R, q.bnd.mono fun ds s1 q1 J H1 k1 ok => ?_⟩
  have R1 := R.stp k1
  refine ⟨fun i m σ2 H2 => m = ds.length - i ∧ i ≤ ds.length ∧ ∃ own2 ρ2 s2, Rel B G own2 ρ2 s2 σ2 H2 ∧ Gone G own own2 H1 H2 ∧ (forL bt g (ds.drop i) ρ2 s2).sat (Post B G own H Dd) fun e s' => ExW B G E e s',
    ⟨ds.length, by simp, Nat.zero_le _, own, ρ, s1, R1, .refl, by simpa using q1⟩, ?_⟩
  rintro i m σ2 H2 ⟨rfl, hi, own2, ρ2, s2, R2, g2, q2⟩
  have kept : ∀ a o, H1 a = some o → ¬ Chg G own false a → H2 a = some o := fun a o h n => g2.keep a o h (fun z => n (.inl z)) fun j z => n (.inr ⟨rfl, j, z⟩)
  obtain ⟨go, stop⟩ := ok H2 kept
  by_cases hlt : i < ds.length
  · have hd : ds[i]? = some ds[i] := by simp [hlt]
    obtain ⟨g1, gy⟩ := go i _ hd
    rw [List.drop_eq_getElem_cons hlt] at q2
    refine .inr ⟨g1, fun σ' H' => ∃ own3 ρ3 s3, Rel B G own3 ρ3 s3 σ' H' ∧ Gone G own own3 H1 H' ∧ (forL bt g (ds.drop (i + 1)) ρ3 s3).sat (Post B G own H Dd) fun e s' => ExW B G E e s', fun σ' H' ⟨own3, ρ3, s3, R3, g3, q3⟩ => ⟨ds.length - (i + 1), by omega, rfl, hlt, own3, ρ3, s3, R3, g3, q3⟩, fun x H3 hy => ?_⟩
    obtain ⟨sm, rp⟩ := gy x H3 hy
    have R3 := R2.stp (R2.same sm)
    have g3 : Gone G own own2 H1 H3 := g2.trans R2 (.same sm)
    have q3 : (forL bt g (ds[i] :: ds.drop (i + 1)) ρ2 s2).sat (Post B G own H Dd) fun e s' => ExW B G E e s' := q2
    unfold forL at q3
    cases hz : bt ds[i] ρ2 with
    | none => simp only [hz] at q3; exact q3.elim
    | some ρ' =>
      simp only [hz] at q3
      refine ⟨G, own2, ρ2, s2, _, ρ', R3, rp _ fun a z => g2.av z, hz, fun σ4 R4 _ => ?_⟩
      refine ⟨G, own2, ρ', s2, R4, q3.bnd.mono fun fl s5 q5 => ?_⟩
      cases fl with
      | nx ρ5 => exact fun own5 σ5 H5 R5 g5 => ⟨own5, ρ5, s5, R5, g3.trans R3 g5, q5⟩
      | ct ρ5 => exact fun own5 σ5 H5 R5 g5 => ⟨own5, ρ5, s5, R5, g3.trans R3 g5, q5⟩
      | bk ρ5 => exact fun own5 σ5 H5 R5 g5 => q5 own5 σ5 H5 R5 ((Gone.of_stp k1).trans R1 (g3.trans R3 g5))
      | rt y => exact q5
      | rg y ρ5 => exact fun v own5 σ5 H5 R5 g5 => q5 v own5 σ5 H5 R5 ((Gone.of_stp k1).trans R1 (g3.trans R3 g5))
  · have e : i = ds.length := by omega
    subst e
    rw [List.drop_length] at q2
    exact .inl ⟨stop, q2 own2 σ2 H2 R2 ((Gone.of_stp k1).trans R1 g2)⟩
def whL (c : Tx S) (g : Sx S) : Nat → Sx S
  | 0, _, _ => .bad
  | n + 1, ρ, s => (c ρ s).bind fun b s1 => if b then (g ρ s1).bind fun fl s2 => match fl with
      | .nx ρ2 => whL c g n ρ2 s2
      | .ct ρ2 => whL c g n ρ2 s2
      | .bk ρ2 => .ok (.nx ρ2) s2
      | .rt y => .ok (.rt y) s2
      | .rg y ρ2 => .ok (.rg y ρ2) s2
    else .ok (.nx ρ) s1
/-- turns enough -/
@[irreducible] def FU : Nat := 1000000000
def sWh (n : Nat) (c : Tx S) (g : Sx S) : Sx S := fun ρ s => whL c g n ρ s
theorem ds_while (n : Nat) {fc : Tx S} (hp : PassesOwn (model X.prog X.w) X.A X.env X.xe) (hc : DT X B E c fc) (hb : DSs X B E body g) : DS X B E (.While c body [] pos) (sWh n fc g) := by
  refine ps_imp (ps_while hp hc hb) fun Dd σ H ⟨G, own, ρ, s, R, q⟩ => ?_
  refine ⟨fun m σ2 H2 => ∃ own2 ρ2 s2, Rel B G own2 ρ2 s2 σ2 H2 ∧ Gone G own own2 H H2 ∧ (whL fc g m ρ2 s2).sat (Post B G own H Dd) fun e s' => ExW B G E e s', ⟨n, own, ρ, s, R, .refl, q⟩, ?_⟩
  rintro m σ2 H2 ⟨own2, ρ2, s2, R2, g2, q2⟩
  cases m with
  | zero => exact q2.elim
  | succ m =>
    unfold whL at q2
    refine tT.run R2 _ q2.bnd fun b s3 H3 q3 k3 R3 => ?_
    have g3 : Gone G own own2 H H3 := g2.trans R2 (.of_stp k3)
    cases b with
    | true =>
      refine ⟨fun σ' H' => ∃ own3 ρ3 s3, Rel B G own3 ρ3 s3 σ' H' ∧ Gone G own own3 H H' ∧ (whL fc g m ρ3 s3).sat (Post B G own H Dd) fun e s' => ExW B G E e s', fun σ' H' h => ⟨m, by omega, h⟩, ?_⟩
      simp only [if_true] at q3
      refine ⟨G, own2, ρ2, s3, R3, q3.bnd.mono fun fl s5 q5 => ?_⟩
      cases fl with
      | nx ρ5 => exact fun own5 σ5 H5 R5 g5 => ⟨own5, ρ5, s5, R5, g3.trans R3 g5, q5⟩
      | ct ρ5 => exact fun own5 σ5 H5 R5 g5 => ⟨own5, ρ5, s5, R5, g3.trans R3 g5, q5⟩
      | bk ρ5 => exact fun own5 σ5 H5 R5 g5 => q5 own5 σ5 H5 R5 (g3.trans R3 g5)
      | rt y => exact q5
      | rg y ρ5 => exact fun v own5 σ5 H5 R5 g5 => q5 v own5 σ5 H5 R5 (g3.trans R3 g5)
    | false =>
      simp only [Bool.false_eq_true, if_false] at q3
      exact q3 own2 σ2 H3 R3 g3
end
theorem wipe_at (σ : Sg) (j : Nat) : ∀ vs : List Nat, (wipe σ vs)[j]? = if j ∈ vs then σ[j]?.map (fun _ => none) else σ[j]?
  | [] => by simp [wipe]
  | v :: vs => by
    unfold wipe
    by_cases h : v = j
    · subst h
      rw [List.getElem?_set]
      simp only [List.mem_cons, true_or, if_true]
      rw [wipe_length]
      by_cases hl : v < σ.length
      · simp [hl]
      · simp [hl]
    · rw [List.getElem?_set_ne h, wipe_at σ j vs]
      have : (j ∈ v :: vs) ↔ j ∈ vs := by simp [Ne.symm h, fun e => h (Eq.symm e)]
      simp only [this]
theorem wipe_idem (σ : Sg) (vs : List Nat) : wipe (wipe σ vs) vs = wipe σ vs := by
  apply List.ext_getElem?
  intro j
  rw [wipe_at, wipe_at]
  split
  · simp [Option.map_map, Function.comp_def]
  · rfl
def noex {α : Type} (o : Out S α) : Out S α := match o with
  | .ok a s => .ok a s
  | _ => .bad
theorem noex_sat {α : Type} {o : Out S α} {P : α → S → Prop} {T T' : Exn → S → Prop} (h : (noex o).sat P T) : o.sat P T' := by
  cases o with
  | bad => exact h
  | ex _ _ => exact h.elim
  | ok _ _ => exact h
def lcL (bt : Bt) (c : Tx S) (f : Ex S) (ρ : Env) : List D → S → Out S (List D)
  | [], s => .ok [] s
  | d :: ds, s => match bt d ρ with
    | none => .bad
    | some ρ1 => (noex (c ρ1 s)).bind fun b s1 => if b then (noex (f ρ1 s1)).bind fun y s2 => (match y with
        | .d z => (lcL bt c f ρ ds s2).bind fun r s3 => .ok (z :: r) s3
        | _ => .bad)
      else lcL bt c f ρ ds s1
def lLc (it : Lx S) (bt : Bt) (c : Tx S) (f : Ex S) (vs : List Nat) : Lx S := fun ρ s => (it ρ s).bind fun ds s1 => if ds.length ≤ sizeLine then lcL bt c f (wipeE vs ρ) ds s1 else .bad
def xYes : Tx S := fun _ s => .ok true s
abbrev DTs (X : Cx) (B : Bs) (E : XK) (es : List Expr) (f : Tx S) : Prop := PTs X es (tT B E f)
theorem dts_nil {X : Cx} {B : Bs} {E : XK} : DTs X B E [] (xYes : Tx S) := ⟨fun pins s σ H Q I q => pts_nil.run pins s σ H Q I (let ⟨G, own, ρ, s, R, q⟩ := q; q H R.refl)⟩
theorem dts_one {X : Cx} {B : Bs} {E : XK} {c : Expr} {f : Tx S} (h : DT X B E c f) : DTs X B E [c] f := pts_one h
abbrev E00 : XK := fun _ _ _ => False
section
variable {X : Cx} {B : Bs} {E : XK} {tg iter elt : Expr} {ifs : List Expr} {it : Lx S} {bt : Bt} {f : Ex S} {fc : Tx S} {own : List (Str × Nat)} {scope : Scope} {pos : Pos}
theorem tLc_of {σ : Sg} {H : Hp} {Q : VK} (h : tF B E (lLc it bt fc f (own.map (·.2))) σ H Q) : tLc (tI B E true it) (tG S B bt (own.map (·.2))) (tT B E00 fc) (tD B E00 f) (own.map (·.2)) σ H Q := by
  obtain ⟨G, ow, ρ, s, R, q⟩ := h
  refine ⟨G, ow, ρ, s, R, q.bnd.mono fun ds s1 q1 J H1 k1 ok => ?_⟩
  intro p hp
  have R1 := R.stp k1
  generalize hvs : own.map (·.2) = vs at q1 ⊢
  split at q1
  · rename_i hsz
    let G' : Gh := { H0 := fun _ => none, A0 := fun a => G.A0 a ∨ a = p, dks := G.dks }
    have npo : ∀ i, ow i ≠ some p := fun i z => by
      obtain ⟨o, e, _⟩ := R1.ont i p z
      rw [hp] at e; cases e
    have npd : p ∉ G.dks := fun z => by
      obtain ⟨o, e, _⟩ := R1.dkT z
      rw [hp] at e; cases e
    have av' : ∀ a, Av G' ow a ↔ Av G ow a ∨ a = p := fun a => ⟨fun z => z.elim (fun z => z.elim (fun z => .inl (.inl z)) .inr) fun z => .inl (.inr z), fun z => z.elim (fun z => z.elim (fun z => .inl (.inl z)) .inr) fun z => .inl (.inr z)⟩
    have RG : ∀ {s2 : S} {H2 : Hp}, (∀ a o, H1 a = some o → a ∉ G.dks → H2 a = some o) → H2 p ≠ none → SI.dks s2 = G.dks → SI.rep s2 H2 → Rel B G' ow (wipeE vs ρ) s2 (wipe σ vs) H2 := fun {s2 H2} k hpn hd hr => by
      have Rw := R1.wiped vs
      have stp : Stp G s2 H1 H2 := ⟨k, hd, hr⟩
      have Rz := Rw.stp stp
      have kp := Rw.kp stp
      refine ⟨fun a z => .inl (R.wf1 a z), fun a z => z.elim (Rz.wf2 a) (fun e => by rw [e]; exact hpn), (fun a o z => by cases z), hd, hr, R.inj, fun i a z => ⟨rfl, fun y => y.elim (R.fre i a z).2 fun e => npo i (by rw [← e]; exact z)⟩, Rz.ont, Rz.len, fun i x e => ?_⟩
      have qs := Rw.sl i x e
      have wkv : ∀ {v : V} {y : Val}, RvV B (Av G ow) H1 v y → RvV B (Av G' ow) H2 v y := fun {v y} h => ((h.grow hp).mono fun a z => (av' a).mp z).kp ⟨fun a xs h => kp.tup a xs h, fun a o h n => kp.all a o h fun z => n ((av' a).mpr (.inl z))⟩
      have wko : ∀ {a : Addr} {x : Sl}, (∀ o, H1 a = some o → H2 a = some o) → OwnAt B (Av G ow) H1 a x → OwnAt B (Av G' ow) H2 a x := fun {a x} ha h => ((h.grow hp).mono fun a z => (av' a).mp z).kp ⟨fun a xs h => kp.tup a xs h, fun a o h n => kp.all a o h fun z => n ((av' a).mpr (.inl z))⟩ ha
      have nd : ∀ a, ow i = some a → a ∉ G.dks := fun a ho z => (R.fre i a ho).2 (R.wf1 a z)
      cases x with
      | no => trivial
      | v y => obtain ⟨u, e, r⟩ := qs; exact ⟨u, e, wkv r⟩
      | l ds => obtain ⟨a, ho, hs, r⟩ := qs; exact ⟨a, ho, hs, wko (fun o h => k a o h (nd a ho)) r⟩
      | m ds => obtain ⟨a, ho, hs, r⟩ := qs; exact ⟨a, ho, hs, wko (fun o h => k a o h (nd a ho)) r⟩
      | g c a fs =>
        obtain ⟨gs, ho, hs, hg, r⟩ := qs
        refine ⟨gs, ho, hs, hg, ((r.grow hp).mono fun a z => (av' a).mp z).kp ⟨fun a xs h => kp.tup a xs h, fun a o h n => kp.all a o h fun z => n ((av' a).mpr (.inl z))⟩ fun l hl o e => k l o e fun z => ?_⟩
        obtain ⟨j, e'⟩ := gm_own ho hg l hl
        exact (R.fre j l e').2 (R.wf1 l z)
      | q _ _ => obtain ⟨a, ho, hs, r⟩ := qs; exact ⟨a, ho, hs, wko (fun o h => k a o h (nd a ho)) r⟩
    let Pend : List D → S → Prop := fun ds s' => ∀ p H' xs, Stp G s' H H' → H p = none → H' p = some (.lst xs) → RpL B (fun a => Av G ow a ∨ a = p) H' xs ds → Q (.ref p) H'
    have hp0 : H p = none := Stp.none R1 k1 hp
    refine ⟨fun i m H2 => m = ds.length - i ∧ i ≤ ds.length ∧ ∃ s2 acc da, H2 p = some (.lst acc) ∧ acc.length ≤ i ∧ RpL B (Av G' ow) H2 acc da ∧ (∀ a o, H1 a = some o → a ∉ G.dks → H2 a = some o) ∧ SI.dks s2 = G.dks ∧ SI.rep s2 H2 ∧
      (lcL bt fc f (wipeE vs ρ) (ds.drop i) s2).sat (fun r s' => Pend (da ++ r) s') fun e s' => ExW B G E e s', ⟨ds.length, by simp, Nat.zero_le _, s1, [], [], upd_same, Nat.le_refl _, .nil, fun a o h n => by rw [upd_ne (ne_of_none h hp)]; exact h, R1.dk, (R1.put hp).rs, by simpa using q1⟩, ?_⟩
    rintro i m H2 ⟨rfl, hi, s2, acc, da, hacc, hal, racc, keep, hd2, hr2, q2⟩
    have R2 := RG keep (by rw [hacc]; simp) hd2 hr2
    obtain ⟨go, stop⟩ := ok H2 fun a o h n => keep a o h fun z => n (.inl z)
    by_cases hlt : i < ds.length
    · obtain ⟨g1, gy⟩ := go i ds[i] (by simp [hlt])
      rw [List.drop_eq_getElem_cons hlt] at q2
      refine .inr ⟨g1, fun H' => ∃ s2 acc da, H' p = some (.lst acc) ∧ acc.length ≤ i + 1 ∧ RpL B (Av G' ow) H' acc da ∧ (∀ a o, H1 a = some o → a ∉ G.dks → H' a = some o) ∧ SI.dks s2 = G.dks ∧ SI.rep s2 H' ∧
        (lcL bt fc f (wipeE vs ρ) (ds.drop (i + 1)) s2).sat (fun r s' => Pend (da ++ r) s') fun e s' => ExW B G E e s', fun H' h => ⟨ds.length - (i + 1), by omega, rfl, hlt, h⟩, fun x H3 hy => ?_⟩
      obtain ⟨sm, rp⟩ := gy x H3 hy
      have R3 := R2.stp (R2.same sm)
      unfold lcL at q2
      cases hz : bt ds[i] (wipeE vs ρ) with
      | none => simp only [hz] at q2; exact q2.elim
      | some ρ' =>
        simp only [hz] at q2
        refine ⟨G', ow, _, s2, _, ρ', R3, rp _ fun a z => ((av' a).mp z).elim .inl fun e => .inr (by rw [e]; exact hp), hz, fun σ4 R4 w4 => ⟨w4.trans (wipe_idem σ vs), ?_⟩⟩
        refine tT.run R4 _ (noex_sat q2.bnd) fun b s5 H5 q5 k5 R5 => ?_
        have keep5 : ∀ a o, H1 a = some o → a ∉ G.dks → H5 a = some o := fun a o h n => k5.fr a o (sm a _ (keep a o h n)) n
        have hacc5 : H5 p = some (.lst acc) := k5.fr p _ (sm p _ hacc) npd
        have kp5 : Kp (Av G' ow) H2 H5 := ⟨fun a u ht h => (R4.kp k5).tup a u ht (sm a _ h), fun a o h n => (R4.kp k5).all a o (sm a o h) n⟩
        have racc5 := RpL.kp kp5 racc
        cases b with
        | false =>
          simp only [Bool.false_eq_true, if_false] at q5 ⊢
          exact ⟨s5, acc, da, hacc5, by omega, racc5, keep5, k5.dk, k5.rs, q5⟩
        | true =>
          simp only [if_true] at q5 ⊢
          refine tD.run R5 _ (noex_sat q5.bnd) fun y s6 v H6 q6 k6 r6 R6 => ?_
          have keep6 : ∀ a o, H1 a = some o → a ∉ G.dks → H6 a = some o := fun a o h n => k6.fr a o (keep5 a o h n) n
          have hacc6 : H6 p = some (.lst acc) := k6.fr p _ hacc5 npd
          have racc6 := RpL.kp (R5.kp k6) racc5
          cases y with
          | r _ => exact q6.elim
          | o _ _ => exact q6.elim
          | p _ => exact q6.elim
          | f _ => exact q6.elim
          | d z =>
            refine ⟨acc, hacc6, by omega, s6, acc ++ [v], da ++ [z], upd_same, by simp; omega, ?_, fun a o h n => ?_, k6.dk, ?_, ?_⟩
            · have kp : Kp (Av G' ow) H6 (upd H6 p (.lst (acc ++ [v]))) := by
                refine ⟨fun b ys ht h => ?_, fun b u h n => ?_⟩
                · rw [upd_ne]
                  · exact h
                  · rintro rfl; rw [hacc6] at h; cases h; cases ht
                · rw [upd_ne]
                  · exact h
                  · rintro rfl; exact n ((av' _).mpr (.inr rfl))
              exact RpL.kp kp (racc6.app (.cons r6 .nil))
            · rw [upd_ne (ne_of_none h hp)]; exact keep6 a o h n
            · refine SI.keep s6 H6 _ k6.rs (fun a h => ?_) fun b ys ht h => ?_
              · rw [upd_ne]
                rintro rfl
                exact npd (by rw [← k6.dk]; exact h)
              · rw [upd_ne]
                · exact h
                · rintro rfl; rw [hacc6] at h; cases h; cases ht
            · refine q6.bnd.mono fun r s7 q7 => ?_
              rw [List.append_assoc]
              exact q7
    · have e : i = ds.length := by omega
      subst e
      rw [List.drop_length] at q2
      refine .inl ⟨stop, ?_⟩
      have q3 : Pend (da ++ []) s2 := q2
      rw [List.append_nil] at q3
      refine q3 p H2 acc ⟨fun a o h n => ?_, hd2, hr2⟩ hp0 hacc (racc.mono fun a z => (av' a).mpr z)
      exact keep a o (k1.fr a o h n) n
  · exact q1.elim
theorem df_lc (c : Ctx X B) (hi : DI X B E true tg iter it) (ok : BlkOk X.N X.env.scope scope own)
    (hg : ∀ (s : Shared) (H : Hp) (C : Addr) (cl : List (Str × Addr)) (fp : List Addr), DG S (X.blk s H scope (compEnvC scope cl C X.env) fp) B tg bt (own.map (·.2)))
    (ht : ∀ (s : Shared) (H : Hp) (C : Addr) (cl : List (Str × Addr)) (fp : List Addr), DTs (X.blk s H scope (compEnvC scope cl C X.env) fp) B E00 ifs fc)
    (he : ∀ (s : Shared) (H : Hp) (C : Addr) (cl : List (Str × Addr)) (fp : List Addr), DE (X.blk s H scope (compEnvC scope cl C X.env) fp) B E00 elt f)
    (hs : ∀ x, foldedSetIterable iter X.env x = pure x := by intro _; rfl) : DF X B E (.ListComp elt [⟨tg, iter, ifs, 0⟩] scope pos) (lLc it bt fc f (own.map (·.2))) :=
  pe_imp (pe_lc c.calm c.nd hi ok hg ht he hs) fun σ H Q h => tLc_of h
end
end DL
namespace DL
open PySem PySem.Spec PyProof.Rows L2
variable {S : Type} [SI S]
section
variable {B : Bs}
def oLen : List D → Option D
  | [.list ds] => some (.int ds.length)
  | [.tuple ds] => some (.int ds.length)
  | [.str x] => if x.length ≤ sizeLine then some (.int x.length) else none
  | _ => none
theorem cl_len : CallD B (fun xs H Q => ∃ x n, xs = [x] ∧ LenV B.K x H n ∧ Q (.int n) H) oLen := by
  intro A N H vs ds z Q fr hz hv k
  unfold oLen at hz
  split at hz
  · cases hz
    obtain ⟨v, rfl, r⟩ := rtl1 hv
    obtain ⟨a, xs, rfl, h, rl⟩ := rt_lst r
    exact ⟨_, _, rfl, .inl ⟨xs, SqL.of h, rl.len.symm⟩, k _ H (Same.refl H) (.int _)⟩
  · cases hz
    obtain ⟨v, rfl, r⟩ := rtl1 hv
    obtain ⟨a, xs, rfl, h, rl⟩ := rt_tup r
    exact ⟨_, _, rfl, .inr ⟨xs, h.sq, rl.len.symm⟩, k _ H (Same.refl H) (.int _)⟩
  · split at hz
    · rename_i hl
      cases hz
      obtain ⟨v, rfl, r⟩ := rtl1 hv
      exact ⟨_, _, rfl, by rw [rt_str r]; exact ⟨hl, rfl⟩, k _ H (Same.refl H) (.int _)⟩
    · cases hz
  · cases hz
def oAbs : List D → Option D
  | [.int i] => some (.int (if i < 0 then -i else i))
  | _ => none
theorem cl_abs : CallD B (fun xs H Q => ∃ i, xs = [.int i] ∧ Q (.int (if i < 0 then -i else i)) H) oAbs := by
  intro A N H vs ds z Q fr hz hv k
  unfold oAbs at hz
  split at hz
  · cases hz
    obtain ⟨v, rfl, r⟩ := rtl1 hv
    exact ⟨_, by rw [rt_int r], k _ H (Same.refl H) (.int _)⟩
  · cases hz
def oInt : List D → Option D
  | [.int i] => some (.int i)
  | [.bool b] => some (.int (if b then 1 else 0))
  | _ => none
theorem cl_int : CallD B (fun xs H Q => (∃ i, xs = [.int i] ∧ Q (.int i) H) ∨ ∃ k, xs = [.bl k] ∧ Q (.int (if k then 1 else 0)) H) oInt := by
  intro A N H vs ds z Q fr hz hv k
  unfold oInt at hz
  split at hz
  · cases hz
    obtain ⟨v, rfl, r⟩ := rtl1 hv
    exact .inl ⟨_, by rw [rt_int r], k _ H (Same.refl H) (.int _)⟩
  · cases hz
    obtain ⟨v, rfl, r⟩ := rtl1 hv
    exact .inr ⟨_, by rw [rt_bl r], k _ H (Same.refl H) (.int _)⟩
  · cases hz
def oTuple : List D → Option D
  | [.list ds] => some (.tuple ds)
  | [.tuple ds] => some (.tuple ds)
  | _ => none
theorem cl_tuple : CallD B (fun xs H Q => ∃ p ys, xs = [.ref p] ∧ ((SqL B.K H p ys ∧ ∀ l, H l = none → Q (.ref l) (upd H l (.tup ys))) ∨ (SqT B.K H p ys ∧ Q (.ref p) H))) oTuple := by
  intro A N H vs ds z Q fr hz hv k
  unfold oTuple at hz
  split at hz
  · cases hz
    obtain ⟨v, rfl, r⟩ := rtl1 hv
    obtain ⟨a, xs, rfl, h, rl⟩ := rt_lst r
    exact ⟨a, xs, rfl, .inl ⟨SqL.of h, fun l hl => k _ _ (same_upd hl) (new_tup hl rl)⟩⟩
  · cases hz
    obtain ⟨v, rfl, r⟩ := rtl1 hv
    obtain ⟨a, xs, rfl, h, rl⟩ := rt_tup r
    exact ⟨a, xs, rfl, .inr ⟨h.sq, k _ H (Same.refl H) (.tup h rl)⟩⟩
  · cases hz
def oList : List D → Option D
  | [.list ds] => some (.list ds)
  | [.tuple ds] => some (.list ds)
  | _ => none
/-- the intsD of data -/
def intsD : List D → Option (List Int)
  | [] => some []
  | .int i :: r => (intsD r).map (i :: ·)
  | _ :: _ => none
theorem intsD_eq : ∀ {ds : List D} {ns : List Int}, intsD ds = some ns → ds = ns.map .int
  | [], _, h => by cases h; rfl
  | .int i :: r, _, h => by
    simp only [intsD, Option.map_eq_some_iff] at h
    obtain ⟨m, e, rfl⟩ := h
    rw [intsD_eq e]; rfl
  | .none :: _, _, h => by cases h
  | .bool _ :: _, _, h => by cases h
  | .str _ :: _, _, h => by cases h
  | .list _ :: _, _, h => by cases h
  | .tuple _ :: _, _, h => by cases h
  | .dict _ :: _, _, h => by cases h
theorem intsD_map : ∀ ns : List Int, intsD (ns.map .int) = some ns
  | [] => rfl
  | n :: r => by simp [intsD, intsD_map r]
def boolsD : List D → Option (List Bool)
  | [] => some []
  | .bool i :: r => (boolsD r).map (i :: ·)
  | _ :: _ => none
theorem bools_eq : ∀ {ds : List D} {ns : List Bool}, boolsD ds = some ns → ds = ns.map .bool
  | [], _, h => by cases h; rfl
  | .bool i :: r, _, h => by
    simp only [boolsD, Option.map_eq_some_iff] at h
    obtain ⟨m, e, rfl⟩ := h
    rw [bools_eq e]; rfl
  | .none :: _, _, h => by cases h
  | .int _ :: _, _, h => by cases h
  | .str _ :: _, _, h => by cases h
  | .list _ :: _, _, h => by cases h
  | .tuple _ :: _, _, h => by cases h
  | .dict _ :: _, _, h => by cases h
def oSum : List D → Option D
  | [.list ds] => (intsD ds).map fun ns => .int ns.sum
  | _ => none
theorem cl_sum : CallD B (rSum B.K) oSum := by
  intro A N H vs ds z Q fr hz hv k
  unfold oSum at hz
  split at hz
  · obtain ⟨ns, e, rfl⟩ := Option.map_eq_some_iff.mp hz
    obtain ⟨v, rfl, r⟩ := rtl1 hv
    obtain ⟨a, xs, rfl, h, rl⟩ := rt_lst r
    rw [intsD_eq e] at rl
    rw [rl.ints] at h
    exact ⟨a, ns, rfl, SqL.of h, k _ H (Same.refl H) (.int _)⟩
  · cases hz
def maxL : List Int → Int
  | [] => 0
  | [a] => a
  | a :: r => max a (maxL r)
theorem maxL_of : ∀ {ns : List Int} {m : Int}, m ∈ ns → (∀ y, y ∈ ns → y ≤ m) → m = maxL ns
  | [], m, h, _ => by simp at h
  | [a], m, h, _ => by simpa [maxL] using h
  | a :: b :: r, m, h, k => by
    show m = max a (maxL (b :: r))
    have ha := k a (by simp)
    by_cases hm : m ∈ b :: r
    · have e := maxL_of hm (fun y hy => k y (List.mem_cons_of_mem _ hy))
      rw [← e]; omega
    · have e : m = a := by
        rcases List.mem_cons.mp h with z | z
        · exact z
        · exact absurd z hm
      have : maxL (b :: r) ≤ a := by
        have hmem : ∀ l : List Int, l ≠ [] → maxL l ∈ l := by
          intro l
          induction l with
          | nil => intro h; exact absurd rfl h
          | cons x t ih =>
            intro _
            cases t with
            | nil => simp [maxL]
            | cons y t' =>
              show max x (maxL (y :: t')) ∈ x :: y :: t'
              have := ih (by simp)
              by_cases hx : x ≤ maxL (y :: t')
              · rw [Int.max_eq_right hx]; exact List.mem_cons_of_mem _ this
              · rw [Int.max_eq_left (by omega)]; exact List.mem_cons_self
        have := k _ (List.mem_cons_of_mem a (hmem (b :: r) (by simp)))
        omega
      rw [e, Int.max_eq_left this]
def oMax : List D → Option D
  | [.list ds] => (intsD ds).bind fun ns => if ns = [] then none else some (.int (maxL ns))
  | [.int i, .int j] => some (.int (if j > i then j else i))
  | _ => none
theorem cl_max : CallD B (fun xs H Q => rMax B.K xs H Q ∨ (fun xs H Q => ∃ i j, xs = [.int i, .int j] ∧ Q (.int (if j > i then j else i)) H : List V → Hp → VK → Prop) xs H Q) oMax := by
  intro A N H vs ds z Q fr hz hv k
  unfold oMax at hz
  split at hz
  · obtain ⟨ns, e, hz⟩ := Option.bind_eq_some_iff.mp hz
    split at hz
    · cases hz
    · rename_i hne
      cases hz
      obtain ⟨v, rfl, r⟩ := rtl1 hv
      obtain ⟨a, xs, rfl, h, rl⟩ := rt_lst r
      rw [intsD_eq e] at rl
      rw [rl.ints] at h
      exact .inl ⟨a, ns, rfl, SqL.of h, List.length_pos_iff.mpr hne, fun m h1 h2 => by rw [maxL_of h1 h2]; exact k _ H (Same.refl H) (.int _)⟩
  · cases hz
    obtain ⟨v, w, rfl, r, r'⟩ := rtl2 hv
    exact .inr ⟨_, _, by rw [rt_int r, rt_int r'], k _ H (Same.refl H) (.int _)⟩
  · cases hz
def oAll : List D → Option D
  | [.list ds] => (boolsD ds).map fun bs => .bool (bs.all id)
  | _ => none
theorem cl_all : CallD B (rAll B.K) oAll := by
  intro A N H vs ds z Q fr hz hv k
  unfold oAll at hz
  split at hz
  · obtain ⟨ns, e, rfl⟩ := Option.map_eq_some_iff.mp hz
    obtain ⟨v, rfl, r⟩ := rtl1 hv
    obtain ⟨a, xs, rfl, h, rl⟩ := rt_lst r
    rw [bools_eq e] at rl
    rw [rl.bools] at h
    exact ⟨a, ns, rfl, SqL.of h, k _ H (Same.refl H) (.bl _)⟩
  · cases hz
/-- repr of data -/
def oRepr : List D → Option D
  | [d] => if d.canLay0 && d.showable && decide (d.shown.length ≤ sizeLine) && decide (d.depth ≤ 60) then some (.str d.shown) else none
  | _ => none
def rRepr (K : PySem.W.Frag) : List V → Hp → VK → Prop := fun xs H Q => ∃ x d, xs = [x] ∧ Dp K H x d ∧ d.canLay0 = true ∧ d.showable = true ∧ d.shown.length ≤ sizeLine ∧ d.depth ≤ 60 ∧ Q (.str d.shown) H
theorem cl_repr : CallD B (rRepr B.K) oRepr := by
  intro A N H vs ds z Q fr hz hv k
  unfold oRepr at hz
  split at hz
  · split at hz
    · rename_i d h
      cases hz
      simp only [Bool.and_eq_true, decide_eq_true_eq] at h
      obtain ⟨v, rfl, r⟩ := rtl1 hv
      exact ⟨v, d, rfl, rt_dp r h.1.1.1, h.1.1.1, h.1.1.2, h.1.2, h.2, k _ H (Same.refl H) (.str _)⟩
    · cases hz
  · cases hz
theorem call_repr {X : Cx} (hg : X.A.guards = some []) (hu : X.A.units + 64 < cLine) : CallR X (.builtin "repr") (rRepr X.K) := by
  intro pins s σ H xs us Q I rs h
  obtain ⟨x, d, rfl, dp, lay, sh, sz, dep, q⟩ := h
  obtain ⟨u, rfl, r⟩ := vals1 rs
  obtain ⟨as, rd⟩ := Dp.reads I d x u dp r
  cases rd with
  | none => exact PySem.P.repr_of_none ⟨.str _, H, I.tok _, ⟨_, rfl⟩, q⟩
  | bool b => exact PySem.P.repr_of_bool ⟨.str _, H, I.tok _, ⟨_, by simp only [PyData.shown]; cases b <;> rfl⟩, q⟩
  | int i t => exact PySem.P.repr_of_int (by simpa [PyData.showable] using sh) ⟨.str _, H, I.tok _, ⟨s.toks, by simp only [PyData.shown]⟩, q⟩
  | str z t => exact PySem.P.repr_of_str ⟨.str _, H, I.tok _, ⟨s.toks, by simp only [PyData.shown]⟩, q⟩ (by simpa only [PyData.shown] using sz)
  | list h1 h2 h3 h4 =>
    exact PySem.repr_of_reads' (h₀ := s.heap) (.list h1 h2 h3 h4) sh (PyData.noDict_hsm (PyData.hasDict_of_canLay _ lay)) hg (by omega) (fun _ _ e => e) (fun h' u tk hk => ⟨.str _, H, I.kept hk, ⟨_, rfl⟩, q⟩) sz
  | tuple h1 h2 h3 h4 =>
    exact PySem.repr_of_reads' (h₀ := s.heap) (.tuple h1 h2 h3 h4) sh (PyData.noDict_hsm (PyData.hasDict_of_canLay _ lay)) hg (by omega) (fun _ _ e => e) (fun h' u tk hk => ⟨.str _, H, I.kept hk, ⟨_, rfl⟩, q⟩) sz
  | dict h1 h2 h3 h4 h5 => simp [PyData.canLay0] at lay
def tyD : D → String
  | .none => "NoneType"
  | .bool _ => "bool"
  | .int _ => "int"
  | .str _ => "str"
  | .list _ => "list"
  | .tuple _ => "tuple"
  | .dict _ => "dict"
/-- whether an object of this kind is one of T, T among int, bool, str, tuple, list -/
def isT (T : String) (d : D) : Bool := tyD d == T || (T == "int" && tyD d == "bool")
def kinds : List String := ["NoneType", "bool", "int", "str", "list", "tuple", "dict"]
def kitOk (T : String) : Bool := kinds.all fun k => kitB k T == some (k == T || (T == "int" && k == "bool"))
theorem kit_int : kitOk "int" = true := by decide +kernel
theorem kit_bool : kitOk "bool" = true := by decide +kernel
theorem kit_tuple : kitOk "tuple" = true := by decide +kernel
def eIsi (T : String) (f : Ex S) : Ex S := fun ρ s => (f ρ s).bind fun y s1 => match y with
  | .d (.dict _) => .bad
  | .d d => .ok (.d (.bool (isT T d))) s1
  | _ => .bad
theorem ty_of {A N : Addr → Prop} {H : Hp} {x : V} {d : D} (h : RtV B A N H x (.d d)) (nd : ∀ kvs, d ≠ .dict kvs) : TyX B.K H x (.type (tyD d)) := by
  cases d with
  | none => rw [rt_non h]; exact .base .non
  | bool b => rw [rt_bl h]; exact .base (.bl _)
  | int i => rw [rt_int h]; exact .base (.int _)
  | str z => rw [rt_str h]; exact .base (.str _)
  | list ds => obtain ⟨a, xs, rfl, e, _⟩ := rt_lst h; exact .base (.lst e)
  | tuple ds =>
    obtain ⟨a, xs, rfl, e, _⟩ := rt_tup h
    rcases e with (e | ⟨o, e⟩) | ⟨o, its, n, lk, c, _⟩
    · exact .base (.tup e)
    · exact .fTuple e
    · exact .kTuple lk c
  | dict kvs => exact absurd rfl (nd kvs)
theorem de_isi {X : Cx} {E : XK} {a : Expr} {f : Ex S} {T : String} {p p2 pos : Pos} (hB : B.K = X.K) (hk : kitOk T = true) (hm : X.mg "isinstance" = none) (ha : DB X B E a f) (hT : PE X (.Name (Str.ofString T) p2) (tC (.ty T))) (hg : Gl X "isinstance" := by rfl)
    (hs : starEach [a, .Name (Str.ofString T) p2] X.env = (false, eval a X.env) :: starEach [.Name (Str.ofString T) p2] X.env := by rfl) (hs2 : starEach [.Name (Str.ofString T) p2] X.env = (false, eval (.Name (Str.ofString T) p2) X.env) :: starEach [] X.env := by rfl) (hpl : (backTo pos (starEach [.Name (Str.ofString T) p2] X.env)).any (·.1) = false := by rfl) :
    DE X B E (.Call (.Name "isinstance" p) [a, .Name (Str.ofString T) p2] [] pos) (eIsi T f) := by
  refine pe_imp (pe_callB call_isi hg hm (by decide +kernel) (pa_cons ha (pa_cons hT pa_nil hs2) hs) (he := hs) (hpl := hpl)) fun σ H Q ⟨G, own, ρ, s, R, q⟩ => ?_
  refine tB.run R _ q.bnd fun y s1 v H1 q1 k1 r1 R1 => ?_
  cases y with
  | r _ => exact q1.elim
  | o _ _ => exact q1.elim
  | p _ => exact q1.elim
  | f _ => exact q1.elim
  | d d =>
    by_cases hd : ∃ kvs, d = .dict kvs
    · obtain ⟨kvs, rfl⟩ := hd
      exact q1.elim
    · have nd : ∀ kvs, d ≠ .dict kvs := fun kvs e => hd ⟨kvs, e⟩
      have q2 : ∀ v H', Stp G s1 H H' → RvV B (Av G own) H' v (.d (.bool (isT T d))) → Q v H' := by
        cases d with
        | dict kvs => exact absurd rfl (nd kvs)
        | _ => exact q1
      have hmem : tyD d ∈ kinds := by cases d <;> simp [tyD, kinds]
      have hkit : kitB (tyD d) T = some (isT T d) := by
        have := List.all_eq_true.mp hk _ hmem
        simpa [isT] using this
      exact ⟨v, .ty T, .type (tyD d), .type T, isT T d, rfl, .ty T, by rw [← hB]; exact ty_of r1 nd, kit_ty hkit, q2 _ H1 k1 (.bl _)⟩
def opIn : D → D → Option D
  | d, .list ds => if SeqAt.shaped d && SeqAt.shaped (.list ds) then some (.bool (ds.any fun z => PyData.eqv z d)) else none
  | d, .tuple ds => if SeqAt.shaped d && SeqAt.shaped (.tuple ds) then some (.bool (ds.any fun z => PyData.eqv z d)) else none
  | .str c, .str z => some (.bool (!(Builtin.Str.occurrences z c 0 z.length 1).isEmpty))
  | _, _ => none
def opNotIn : D → D → Option D := fun a b => match opIn a b with
  | some (.bool k) => some (.bool (!k))
  | _ => none
def rInT (K : PySem.W.Frag) (neg : Bool) : R2 := fun x y H Q => ∃ d ds, Dp K H x d ∧ Dp K H y (.tuple ds) ∧ SeqAt.shaped d = true ∧ SeqAt.shaped (.tuple ds) = true ∧ Q (.bl (if neg then !ds.any fun z => PyData.eqv z d else ds.any fun z => PyData.eqv z d)) H
theorem op_inT {X : Cx} (hu : X.A.units + 65 < cLine) : OpR X (compareOp .In) (rInT X.K false) := by
  intro pins s σ H x y v u Q I rx ry h
  obtain ⟨d, ds, hd, he, sd, se, q⟩ := h
  obtain ⟨as, r1⟩ := Dp.reads I d x v hd rx
  obtain ⟨bs, r2⟩ := Dp.reads I (.tuple ds) y u he ry
  refine SeqAt.in_tuple_reads r2 r1 (SeqAt.canLay_of_shaped se) (SeqAt.canLay_of_shaped sd) (room_in_shaped sd hu) ?_
  exact ⟨.bl _, H, I, rfl, q⟩
theorem op_notInT {X : Cx} (hu : X.A.units + 65 < cLine) : OpR X (compareOp .NotIn) (rInT X.K true) := by
  intro pins s σ H x y v u Q I rx ry h
  obtain ⟨d, ds, hd, he, sd, se, q⟩ := h
  obtain ⟨as, r1⟩ := Dp.reads I d x v hd rx
  obtain ⟨bs, r2⟩ := Dp.reads I (.tuple ds) y u he ry
  refine SeqAt.notIn_tuple_reads r2 r1 (SeqAt.canLay_of_shaped se) (SeqAt.canLay_of_shaped sd) (room_in_shaped sd hu) ?_
  exact ⟨.bl _, H, I, rfl, q⟩
abbrev rInA (K : PySem.W.Frag) : R2 := fun x y H Q => rInD K x y H Q ∨ (fun x y H Q => rInT K false x y H Q ∨ (fun x y H Q => ∃ i j, x = .str i ∧ y = .str j ∧ Q (.bl (!(Builtin.Str.occurrences j i 0 j.length 1).isEmpty)) H : R2) x y H Q : R2) x y H Q
abbrev rNotInA (K : PySem.W.Frag) : R2 := fun x y H Q => rNotInD K x y H Q ∨ (fun x y H Q => rInT K true x y H Q ∨ (fun x y H Q => ∃ i j, x = .str i ∧ y = .str j ∧ Q (.bl (!(!(Builtin.Str.occurrences j i 0 j.length 1).isEmpty))) H : R2) x y H Q : R2) x y H Q
theorem od_in : OpD B (rInA B.K) opIn := by
  intro A N H x y p q z Q fr hz hx hy k
  unfold opIn at hz
  split at hz
  · split at hz
    · rename_i h
      cases hz
      rw [Bool.and_eq_true] at h
      exact .inl ⟨_, _, rt_dp hx (SeqAt.canLay_of_shaped h.1), rt_dp hy (SeqAt.canLay_of_shaped h.2), h.1, h.2, k _ H (Same.refl H) (.bl _)⟩
    · cases hz
  · split at hz
    · rename_i h
      cases hz
      rw [Bool.and_eq_true] at h
      exact .inr (.inl ⟨_, _, rt_dp hx (SeqAt.canLay_of_shaped h.1), rt_dp hy (SeqAt.canLay_of_shaped h.2), h.1, h.2, k _ H (Same.refl H) (.bl _)⟩)
    · cases hz
  · cases hz
    exact .inr (.inr ⟨_, _, rt_str hx, rt_str hy, k _ H (Same.refl H) (.bl _)⟩)
  · cases hz
theorem od_notIn : OpD B (rNotInA B.K) opNotIn := by
  intro A N H x y p q z Q fr hz hx hy k
  unfold opNotIn opIn at hz
  split at hz
  · rename_i b hz2
    cases hz
    split at hz2
    · split at hz2
      · rename_i h
        cases hz2
        rw [Bool.and_eq_true] at h
        exact .inl ⟨_, _, rt_dp hx (SeqAt.canLay_of_shaped h.1), rt_dp hy (SeqAt.canLay_of_shaped h.2), h.1, h.2, k _ H (Same.refl H) (.bl _)⟩
      · cases hz2
    · split at hz2
      · rename_i h
        cases hz2
        rw [Bool.and_eq_true] at h
        exact .inr (.inl ⟨_, _, rt_dp hx (SeqAt.canLay_of_shaped h.1), rt_dp hy (SeqAt.canLay_of_shaped h.2), h.1, h.2, k _ H (Same.refl H) (.bl _)⟩)
      · cases hz2
    · cases hz2
      exact .inr (.inr ⟨_, _, rt_str hx, rt_str hy, k _ H (Same.refl H) (.bl _)⟩)
    · cases hz2
  · cases hz
theorem cd_in {X : Cx} (c : Ctx X B) : CmpD X B .In opIn := ⟨_, (op_inD c.u65).or ((op_inT c.u65).or op_in_str), by rw [← c.hK]; exact od_in⟩
theorem cd_notin {X : Cx} (c : Ctx X B) : CmpD X B .NotIn opNotIn := ⟨_, (op_notInD c.u65).or ((op_notInT c.u65).or L2.op_notin_str), by rw [← c.hK]; exact od_notIn⟩
section
variable {X : Cx} {E : XK} {a b e : Expr} {f fa fb : Ex S} {g : Exs S} {p p2 pos pos2 : Pos}
def lOf (f : Ex S) : Lx S := iSeq f
theorem df_list (hB : B.K = X.K) (hm : X.mg "list" = none) (ha : DB X B E a f) (hg : Gl X "list" := by rfl) (he : starEach [a] X.env = (false, eval a X.env) :: starEach [] X.env := by rfl) (hpl : (backTo pos (starEach [] X.env)).any (·.1) = false := by rfl) :
    DF X B E (.Call (.Name "list" p) [a] [] pos) (lOf f) := by
  refine pe_imp (pe_callTy call_list_of hg hm boot_list (pa_cons ha pa_nil he) (he := he) (hpl := hpl)) fun σ H Q ⟨G, own, ρ, s, R, q⟩ => ?_
  refine tB.run R _ q.bnd fun y s1 v H1 q1 k1 r1 R1 => ?_
  cases y with
  | r _ => exact q1.elim
  | o _ _ => exact q1.elim
  | p _ => exact q1.elim
  | f _ => exact q1.elim
  | d d =>
    cases d with
    | list ds =>
      obtain ⟨u, xs, rfl, h, rl⟩ := rt_lst r1
      exact ⟨u, xs, rfl, .inl (SqL.of h), fun l hl => q1 l _ xs (k1.trans (R1.put hl)) (Stp.none R1 k1 hl) upd_same ((rl.grow hl).kp (kp_same (same_upd hl)))⟩
    | tuple ds =>
      obtain ⟨u, xs, rfl, h, rl⟩ := rt_tup r1
      exact ⟨u, xs, rfl, .inr (by rw [← hB]; exact h.sq), fun l hl => q1 l _ xs (k1.trans (R1.put hl)) (Stp.none R1 k1 hl) upd_same ((rl.grow hl).kp (kp_same (same_upd hl)))⟩
    | _ => exact q1.elim
theorem rgV_rep {A : Addr → Prop} {H : Hp} (i j : Int) : RpL B A H (rgV i j) (rngD i (j - i).toNat) := by
  unfold rgV rngD
  have : ∀ l : List Nat, RpL B A H (l.map fun k => V.int (i + (k : Nat))) (l.map fun k => .int (i + (k : Nat))) := by
    intro l
    induction l with
    | nil => exact .nil
    | cons x r ih => exact .cons (.int _) ih
  exact this _
/-- list(range(j)), list(range(i, j)) -/
def lRg1 (f : Ex S) : Lx S := fun ρ s => (f ρ s).bind fun y s1 => match y with
  | .d (.int j) => if 0 ≤ j ∧ j ≤ 16777216 then .ok (rngD 0 j.toNat) s1 else .bad
  | _ => .bad
theorem df_listRg1 (c : Ctx X B) (hm : X.mg "list" = none) (hr : X.mg "range" = none) (ha : DB X B E a fa) (hg : Gl X "list" := by rfl) (hg2 : Gl X "range" := by rfl) (na : starEach [a] X.env = (false, eval a X.env) :: starEach [] X.env := by rfl)
    (nr : starEach [.Call (.Name "range" p2) [a] [] pos2] X.env = (false, eval (.Call (.Name "range" p2) [a] [] pos2) X.env) :: starEach [] X.env := by rfl) :
    DF X B E (.Call (.Name "list" p) [.Call (.Name "range" p2) [a] [] pos2] [] pos) (lRg1 fa) := by
  refine pe_imp (pe_listRg c.calm hg hm (prg_1 hg2 hr ha na) nr) fun σ H Q ⟨G, own, ρ, s, R, q⟩ => ?_
  refine tB.run R _ q.bnd fun y s1 v H1 q1 k1 r1 R1 => ?_
  cases y with
  | r _ => exact q1.elim
  | o _ _ => exact q1.elim
  | p _ => exact q1.elim
  | f _ => exact q1.elim
  | d d =>
    cases d with
    | int j =>
      dsimp only at q1
      split at q1
      · rename_i hj
        refine ⟨j, rt_int r1, RgOk.of_le (by omega) hj.2 (by omega) hj.1, fun l hl => ?_⟩
        have rg : RpL B (Av G own) H1 (rgV 0 j) (rngD 0 j.toNat) := by
          have := rgV_rep (B := B) (A := Av G own) (H := H1) 0 j
          rwa [Int.sub_zero] at this
        exact q1 l _ _ (k1.trans (R1.put hl)) (Stp.none R1 k1 hl) upd_same ((rg.grow hl).kp (kp_same (same_upd hl)))
      · exact q1.elim
    | _ => exact q1.elim
end
end
end DL
namespace DL
open PySem PySem.Spec PyProof.Rows L2
variable {S : Type} [SI S]
/-- a def's promise, called where no guard stands -/
structure FnG (P : Program) (w : World) (K : PySem.W.Frag) (mg : Str → Option Value) (base : Heap) (CX : CXT) (k : Nat) (f : Addr) (fd : FuncData) (ps : List Str) (sp : Sp) : Prop where
  len : ∀ vs H Q E, sp vs H Q E → vs.length = ps.length
  run : ∀ (A : Around) (outer : List PySem.Env) (s : Shared) (H : Hp) (args : Args) (us : List Value) (vs : List V) (Q : VK) (E : XK),
    Room k A → A.guards = some [] → Env0 P w K mg base A outer s H → BindsTo s fd args (ps.zip us) → Vals vs us → sp vs H Q E →
      codeAny (model P w) A (.call (.ref f) args) (CR CX outer P w H s Q E) s
section
variable {P : Program} {w : World} {K : PySem.W.Frag} {mg : Str → Option Value} {base : Heap} {CX : CXT} {j k : Nat} {f : Addr} {fd : FuncData} {ps : List Str} {sp : Sp}
theorem FnG.mono (F : FnG P w K mg base CX j f fd ps sp) (h : j ≤ k) : FnG P w K mg base CX k f fd ps sp where
  len := F.len
  run := fun A outer s H args us vs Q E hr => F.run A outer s H args us vs Q E (hr.mono h)
/-- the rule of a def by its body -/
theorem fg_of {name qual : Str} {params : Arguments} {body : List Stmt} {scope : Scope} {dV kV doc pm cdv ct oc : Value} {an od : Option Addr} {osl : Array (Option Value)} {N : List Str}
    (lk : K.lookup f = some ⟨oc, od, .func (PySem.W.fnOf name qual params body scope dV kV doc pm an cdv ct), osl⟩) (hcd : PySem.W.codeIn K cdv qual = true) (Sc : FnScope N ps scope)
    (len : ∀ vs H Q E, sp vs H Q E → vs.length = ps.length)
    (hbody : ∀ (A : Around) (outer : List PySem.Env) (s : Shared) (H : Hp) (vs : List V) (Q : VK) (E : XK), Room k (A.deeper (envOfC qual scope s.heap.objs.size f cdv)) → A.guards = some [] → sp vs H Q E →
      ∃ t, PSs (cxOf CX P w K mg base N qual scope f cdv A outer s H E) body t ∧ t { nx := fun _ H' => Q .non H', rt := Q } (L2.start N vs) H) :
    FnG P w K mg base CX (k + 1) f (PySem.W.fnOf name qual params body scope dV kV doc pm an cdv ct) ps sp where
  len := len
  run := fun A outer s H args us vs Q E hr gd e0 hb r hsp => by
    have KX : K.In s.heap := e0.mod.kin.keeps (fun b o e => (e0.bs b o e).1)
    have lim : s.heap.NoLimit := e0.mod.nolimit.keeps (fun b o e => (e0.bs b o e).1)
    have hkind : ∀ y ∈ ps.zip us, scope.names.lookup y.1 = some .local ∨
        (scope.names.lookup y.1 = some .cell ∧ ((cellsFrom (s.heap.objs.size + 1) scope.names []).lookup y.1).isSome = true) := by
      rintro ⟨n, v⟩ hy
      exact (Sc.par n (List.of_mem_zip hy).1).imp id (fun q => ⟨q, PySem.W.cellsFrom_some _ _ _ (.inl q)⟩)
    refine codeAny_call_function hr.depth (KX _ _ lk) rfl Sc.co Sc.gen rfl (PySem.W.codeRec_of KX hcd)
      (hb _ _ _ _ (wpAny_newFunctionEnv_cells Sc.kind hkind (fun env he s1 x => ?_)))
    subst he
    refine ⟨lim.keeps x.toInCall.keep, codeAny_func ?_⟩
    obtain ⟨t, ht, hq⟩ := hbody A outer s H vs Q E (hr.deeper _) gd hsp
    have I := inv_start (CX := CX) (E := E) Sc hr.hd e0 (len _ _ _ _ hsp) r x
    refine wpAny_mono (ht.run [] s1 (L2.start N vs) H _ I hq) (fun fl s' hs => ?_) (fun _ _ hs => hs)
    cases fl with
    | ret u => obtain ⟨v, σ', H', J, rv, q⟩ := hs; exact ⟨v, H', J.os, J.bare, J.base, J.hok, rv, q⟩
    | next => obtain ⟨σ', H', J, q⟩ := hs; exact ⟨V.non, H', J.os, J.bare, J.base, J.hok, rfl, q⟩
    | brk => exact (let ⟨_, _, _, q⟩ := hs; False.elim q)
    | cont => exact (let ⟨_, _, _, q⟩ := hs; False.elim q)
end
/-- what a call's arguments and heap must be -/
structure Call0 (B : Bs) (A0 : Addr → Prop) (s : S) (H : Hp) (vs : List V) (ys : List Val) : Prop where
  dk : ∀ a ∈ SI.dks s, A0 a
  th : ∀ a, A0 a → H a ≠ none
  rs : SI.rep s H
  av : RvL B A0 H vs ys
/-- what a call leaves -/
structure Call1 (s s' : S) (H H' : Hp) : Prop where
  fr : ∀ a o, H a = some o → a ∉ SI.dks s → H' a = some o
  dk : SI.dks s' = SI.dks s
  rs : SI.rep s' H'
/-- the promise of a def that raises nothing: F tells what it gives -/
def spP (B : Bs) (n : Nat) (F : List Val → S → Out S Val) : Sp := fun vs H Q _ => ∃ A0 ys, ∃ s : S, ys.length = n ∧ Call0 B A0 s H vs ys ∧
  (noex (F ys s)).sat (fun y s' => ∀ v H', Call1 s s' H H' → RvV B A0 H' v y → Q v H') fun _ _ => False
/-- .. that may raise -/
def spX (B : Bs) (n : Nat) (F : List Val → S → Out S Val) : Sp := fun vs H Q E => ∃ A0 ys, ∃ s : S, ys.length = n ∧ Call0 B A0 s H vs ys ∧
  (F ys s).sat (fun y s' => ∀ v H', Call1 s s' H H' → RvV B A0 H' v y → Q v H') fun e s' => ∀ C od H', Call1 s s' H H' → ExR B A0 e C od H' → E (.ref C) od H'
theorem Out.sat.both {α : Type} {o : Out S α} {P P' : α → S → Prop} {T' : Exn → S → Prop} (h : o.sat P fun _ _ => False) (k : ∀ y s, P y s → P' y s) : o.sat P' T' := by
  cases o with
  | bad => exact h
  | ex _ _ => exact h.elim
  | ok y s => exact k y s h
/-- a body as a function: n further slots -/
def runF (n : Nat) (body : Sx S) (ys : List Val) (s : S) : Out S Val := (body (ys.map .v ++ List.replicate n .no) s).bind fun fl s' => match fl with
  | .rt y => .ok y s'
  | .nx _ => .ok (.d .none) s'
  | _ => .bad
theorem RvL.len {B : Bs} {A : Addr → Prop} {H : Hp} : ∀ {vs : List V} {ys : List Val}, RvL B A H vs ys → vs.length = ys.length
  | _, _, .nil => rfl
  | _, _, .cons _ t => by simp [RvL.len t]
theorem RvL.get {B : Bs} {A : Addr → Prop} {H : Hp} : ∀ {vs : List V} {ys : List Val} {i : Nat} {y : Val}, RvL B A H vs ys → ys[i]? = some y → ∃ v, vs[i]? = some v ∧ RvV B A H v y
  | _, _, _, _, .nil, h => by simp at h
  | _, _, 0, _, .cons a t, h => by simp at h; subst h; exact ⟨_, rfl, a⟩
  | _, _, i + 1, x, .cons a t, h => by
    obtain ⟨y, e, r⟩ := RvL.get (i := i) (y := x) t (by simpa using h)
    exact ⟨y, by simpa using e, r⟩
theorem rel_start {B : Bs} {A0 : Addr → Prop} {s : S} {H : Hp} {vs : List V} {ys : List Val} {N : List Str} {n : Nat} (c : Call0 B A0 s H vs ys) (hn : N.length = vs.length + n) :
    Rel B ⟨H, A0, SI.dks s⟩ (fun _ => none) (ys.map .v ++ List.replicate n .no) s (L2.start N vs) H := by
  have hl := c.av.len
  refine ⟨c.dk, c.th, fun _ _ h _ => h, rfl, c.rs, fun _ _ _ h => (nomatch h), fun _ _ h => (nomatch h), fun _ _ h => (nomatch h), ?_, fun i x e => ?_⟩
  · unfold L2.start
    simp only [List.length_append, List.length_map, List.length_replicate]
    omega
  · by_cases hi : i < ys.length
    · rw [List.getElem?_append_left (by simpa using hi), List.getElem?_map] at e
      obtain ⟨y, e1, e2⟩ := Option.map_eq_some_iff.mp e
      subst e2
      obtain ⟨v, e3, r⟩ := c.av.get e1
      refine ⟨v, ?_, r.mono fun a z => z.elim id fun ⟨_, z⟩ => nomatch z⟩
      unfold L2.start
      rw [List.getElem?_append_left (by simpa [hl] using hi), List.getElem?_map, e3]
      rfl
    · rw [List.getElem?_append_right (by simpa using hi), List.getElem?_replicate] at e
      split at e
      · cases e; trivial
      · cases e
section
variable {P : Program} {w : World} {K : PySem.W.Frag} {mg : Str → Option Value} {base : Heap} {B : Bs} {k n : Nat} {f : Addr} {fd : FuncData} {ps N : List Str} {x qual : Str} {st : Stmt}
theorem ctx_of (hP : B.P = P) (hK : B.K = K) (hw : B.w = w) (Sc : FnScope N ps (defScope st)) {CX : CXT} {cdv : Value} {A : Around} {outer : List PySem.Env} {s : Shared} {H : Hp} {E : XK} (hr : Room k (A.deeper (envOfC qual (defScope st) s.heap.objs.size f cdv))) (hg : A.guards = some []) :
    Ctx (cxOf CX P w K mg base N qual (defScope st) f cdv A outer s H E) B :=
  ⟨hP, hK, hw, rfl, Sc.nd, by have := hr.un; show (A.deeper (envOfC qual (defScope st) s.heap.objs.size f cdv)).units + 100 < cLine; omega, hg⟩
theorem Ctx.nox {X : Cx} (c : Ctx X B) : Ctx X.nox B := ⟨c.hP, c.hK, c.hw, c.calm, c.nd, c.un, c.gd⟩
abbrev cxP (P : Program) (w : World) (K : PySem.W.Frag) (mg : Str → Option Value) (base : Heap) (N : List Str) (qual : Str) (st : Stmt) (f : Addr) (cdv : Value) (A : Around) (outer : List PySem.Env) (s : Shared) (H : Hp) (E : XK) : Cx :=
  (cxOf CX0 P w K mg base N qual (defScope st) f cdv A outer s H E).nox
/-- THE RULE for a def that raises nothing -/
theorem fg_pure (hP : B.P = P) (hK : B.K = K) (hw : B.w = w) (F : Fun K x qual st f fd) (Sc : FnScope N ps (defScope st)) (body : Sx S) (hn : N.length = ps.length + n)
    (h : ∀ (cdv : Value) (A : Around) (outer : List PySem.Env) (s : Shared) (H : Hp) (E : XK), Ctx (cxP P w K mg base N qual st f cdv A outer s H E) B → Room k (cxP P w K mg base N qual st f cdv A outer s H E).A →
      DSs (cxP P w K mg base N qual st f cdv A outer s H E) B E00 (defBody st) body) : FnG P w K mg base CX0 (k + 1) f fd ps (spP B ps.length (runF n body)) := by
  obtain ⟨oc, od, kV, doc, pm, an, cdv, ct, osl, rfl, lk, hcd⟩ := F.ex
  refine fg_of lk hcd Sc (fun vs H Q E h => ?_) fun A outer s H vs Q E hr hg hsp => ?_
  · obtain ⟨A0, ys, _, hl, c, _⟩ := h
    rw [c.av.len, hl]
  · obtain ⟨A0, ys, s0, hl, c, q⟩ := hsp
    refine ⟨_, (h cdv A outer s H E (ctx_of hP hK hw Sc hr hg).nox hr).nox, ?_⟩
    refine ⟨⟨H, A0, SI.dks s0⟩, _, _, s0, rel_start (n := n) c (by rw [hn, c.av.len, hl]), ?_⟩
    have q2 := noex_sat (T' := fun _ _ => False) q
    unfold runF at q2
    refine Out.sat.both (q2.bnd) fun fl s1 q3 => ?_
    cases fl with
    | nx ρ' => exact fun own' σ' H' R' _ => q3 .non H' ⟨R'.fr, R'.dk, R'.rs⟩ .non
    | bk _ => exact q3.elim
    | ct _ => exact q3.elim
    | rg _ _ => exact q3.elim
    | rt y => exact fun v H' fr r => q3 v H' ⟨fr.fr, fr.dk, fr.rs⟩ r
end
section
variable {X : Cx} {CX : CXT} {k n : Nat} {f C : Addr} {fd : FuncData} {ps : List Str} {sp : Sp} {E E' : XK} {x m : Str} {p pos apos : Pos} {e o : Expr} {es : List Expr} {ta : TE} {t : TA} {B : Bs} {F : List Val → S → Out S Val} {g : Exs S}
theorem run_fg {pins : List (Addr × Obj)} {σ : Sg} {H : Hp} {s : Shared} {Q : VK} {us : List Value} {vs : List V} (Fn : FnG X.prog X.w X.K X.mg X.base CX k f fd ps sp) (hr : Room k X.A) (hg : X.A.guards = some []) (hb : Binds X.K fd ps []) (hx : Passes CX X E)
    (I : L2.Inv X pins σ H s) (r : Vals vs us) (h : sp vs H Q E) : wpAny (model X.prog X.w) X.A (call (.ref f) us) (EP X pins σ Q) X.xe s := by
  have hl : us.length = ps.length := by rw [← r.length]; exact Fn.len _ _ _ _ h
  have hbi := hb s us I.kIn (by rw [List.append_nil]; exact hl)
  rw [List.append_nil] at hbi
  refine wpAny_call (codeAny_mono (Fn.run X.A X.stack s H ⟨us, []⟩ us vs Q E hr hg I.env0 hbi r h) (fun r s' hq => ?_))
  cases r with
  | error e => exact hx pins σ H s e s' I hq
  | ok fl => cases fl with
    | ret u => exact I.after hq
    | next => exact hq.elim
    | brk => exact hq.elim
    | cont => exact hq.elim
theorem pe_callG (Fn : FnG X.prog X.w X.K X.mg X.base CX k f fd ps sp) (hr : Room k X.A) (hgd : X.A.guards = some []) (hg : Gl X x) (hm : X.mg x = some (.ref f)) (hk : PySem.W.keepIn X.K (.ref f) = true) (hb : Binds X.K fd ps []) (hx : Passes CX X E)
    (ha : PA X (e :: es) t) (hdb : (x == ("__debug__" : Str)) = false := by decide) (he : starEach (e :: es) X.env = (false, eval e X.env) :: starEach es X.env := by rfl) (hpl : (backTo pos (starEach es X.env)).any (·.1) = false := by rfl) :
    PE X (.Call (.Name x p) (e :: es) [] pos) (fun σ H Q => t σ H fun vs H1 => sp vs H1 Q E) := by
  constructor
  intro pins s σ H Q I h
  refine wpAny_Call_Name_kw (ld_glob I hg hm ?_ hdb)
  exact PySem.W.callWith_K (h₀ := X.base) I.ok.mod.kin hk (thn (ha.run pos pins s σ H _ I h) (fun us s1 ⟨vs, H1, I1, r, q⟩ => ⟨I1.kIn, run_fg Fn hr hgd hb hx I1 r q⟩)) he hpl
/-- f(e, ..) -/
def eFn (n : Nat) (F : List Val → S → Out S Val) (g : Exs S) : Ex S := fun ρ s => (g ρ s).bind fun ys s1 => if ys.length = n then noex (F ys s1) else .bad
theorem call0_of {G : Gh} {own : Own} {ρ : Env} {s : S} {σ : Sg} {H : Hp} {vs : List V} {ys : List Val} (R : Rel B G own ρ s σ H) (r : RvL B (Av G own) H vs ys) : Call0 B (Av G own) s H vs ys :=
  ⟨fun a h => R.dkA a (by rw [← R.dk]; exact h), fun a h => by obtain ⟨o, e⟩ := R.avT h; rw [e]; simp, R.rs, r⟩
theorem stp_of {G : Gh} {own : Own} {ρ : Env} {s s' : S} {σ : Sg} {H H' : Hp} (R : Rel B G own ρ s σ H) (c : Call1 s s' H H') : Stp G s' H H' := ⟨fun a o h n => c.fr a o h (by rw [R.dk]; exact n), c.dk.trans R.dk, c.rs⟩
theorem de_call (c : Ctx X B) (Fn : FnG X.prog X.w X.K X.mg X.base CX0 k f fd ps (spP B n F)) (hr : Room k X.A) (hm : X.mg x = some (.ref f)) (hk : PySem.W.keepIn X.K (.ref f) = true) (hb : Binds X.K fd ps [])
    (ha : DV X B E (e :: es) g) (hg : Gl X x := by rfl) (hdb : (x == ("__debug__" : Str)) = false := by decide) (he : starEach (e :: es) X.env = (false, eval e X.env) :: starEach es X.env := by rfl) (hpl : (backTo pos (starEach es X.env)).any (·.1) = false := by rfl) :
    DE X B E (.Call (.Name x p) (e :: es) [] pos) (eFn n F g) := by
  refine pe_imp (pe_callG Fn hr c.gd hg hm hk hb pass0 ha hdb he hpl) fun σ H Q ⟨G, own, ρ, s, R, q⟩ => ?_
  refine ⟨G, own, ρ, s, R, q.bnd.mono fun ys s1 q1 vs H1 k1 r1 => ?_⟩
  have R1 := R.stp k1
  split at q1
  · rename_i hl
    refine ⟨Av G own, ys, s1, hl, call0_of R1 r1, ?_⟩
    generalize hz : noex (F ys s1) = z at q1
    cases z with
    | bad => exact q1.elim
    | ok y s2 => exact fun v H' c1 rv => q1 v H' (k1.trans (stp_of R1 c1)) rv
    | ex e s2 =>
      exfalso
      cases hF : F ys s1 <;> rw [hF] at hz <;> cases hz
  · exact q1.elim
/-- .. lists of one's own are lent: what comes back holds none -/
def eFnB (n : Nat) (F : List Val → S → Out S Val) (g : Exs S) : Ex S := fun ρ s => (g ρ s).bind fun ys s1 => if ys.length = n then (noex (F ys s1)).bind fun y s2 => (match y with
    | .d d => if hard d then .ok (.d d) s2 else .bad
    | _ => .bad)
  else .bad
theorem RtL.lend {A N : Addr → Prop} {H : Hp} (k : ∀ a, N a → A a) : ∀ {vs : List V} {ys : List Val}, RtL B A N H vs ys → RvL B N H vs ys
  | _, _, .nil => .nil
  | _, _, .cons h t => .cons (h.ret k) (RtL.lend k t)
theorem de_callB (c : Ctx X B) (Fn : FnG X.prog X.w X.K X.mg X.base CX0 k f fd ps (spP B n F)) (hr : Room k X.A) (hm : X.mg x = some (.ref f)) (hk : PySem.W.keepIn X.K (.ref f) = true) (hb : Binds X.K fd ps [])
    (ha : DA X B E (e :: es) g) (hg : Gl X x := by rfl) (hdb : (x == ("__debug__" : Str)) = false := by decide) (he : starEach (e :: es) X.env = (false, eval e X.env) :: starEach es X.env := by rfl) (hpl : (backTo pos (starEach es X.env)).any (·.1) = false := by rfl) :
    DE X B E (.Call (.Name x p) (e :: es) [] pos) (eFnB n F g) := by
  refine pe_imp (pe_callG Fn hr c.gd hg hm hk hb pass0 ha hdb he hpl) fun σ H Q ⟨G, own, ρ, s, R, q⟩ => ?_
  refine ⟨G, own, ρ, s, R, q.bnd.mono fun ys s1 q1 vs H1 k1 r1 => ?_⟩
  have R1 := R.stp k1
  split at q1
  · rename_i hl
    refine ⟨G.A0, ys, s1, hl, ⟨fun a h => R1.wf1 a (by rw [← R1.dk]; exact h), R1.wf2, R1.rs, r1.lend fun a z => .inl z⟩, ?_⟩
    generalize hz : noex (F ys s1) = z at q1
    cases z with
    | bad => exact q1.elim
    | ok y s2 =>
      intro v H' c1 rv
      have q2 := q1.bnd
      cases y with
      | r _ => exact q2.elim
      | o _ _ => exact q2.elim
      | p _ => exact q2.elim
      | f _ => exact q2.elim
      | d d =>
        have q3 : (if hard d = true then Out.ok (Val.d d) s2 else Out.bad).sat (fun y s' => ∀ v H', Stp G s' H H' → RvV B (Av G own) H' v y → Q v H') (fun e s' => ExW B G E e s') := q2
        by_cases hd : hard d = true
        · rw [if_pos hd] at q3
          exact q3 v H' (k1.trans (stp_of R1 c1)) (Rp.hard rv hd)
        · rw [if_neg hd] at q3; exact q3.elim
    | ex e s2 =>
      exfalso
      cases hF : F ys s1 <;> rw [hF] at hz <;> cases hz
  · exact q1.elim
end
theorem callerA_gd : callerA.guards = some [] := rfl
theorem law_callG {P : Program} {w : World} {K : PySem.W.Frag} {mg mb : Str → Option Value} {k : Nat} {fa a : Addr} {fd : FuncData} {x : Str} {sp : Sp} {s1 : Shared} {vs : List Value} {ns : List Int}
    (KX : K.In s1.heap) (hns : s1.heap.Ns mainGlobals mg) (hb : s1.heap.Ns builtinsNs mb) (hbb : ∀ x : Str, x ≠ "__name__" → mb x = bootBuiltins x) (hlim : s1.heap.NoLimit) (hg : s1.gens = #[])
    (ha : s1.heap.get? a = some { cls := .type "list", data := .seq vs.toArray }) (hi : IntsAre vs ns) (hl : ns.length ≤ sizeLine) (hr : Room k callerA)
    (F : ∀ base : Heap, K.In base → base.Ns mainGlobals mg → FnG P w K mg base CX0 k fa fd [x] sp) (hbind : ∀ (s : Shared) (u : Value), BindsTo s fd ⟨[u], []⟩ [(x, u)])
    (hsp : ∀ H : Hp, Only H → SqL K H a (ns.map V.int) → sp [.ref a] H (fun v _ => v = .bl true) fun _ _ _ => False) :
    codeAny (model P w) callerA (.call (.ref fa) ⟨[.ref a], []⟩) (fun r s' => r = .ok (.ret (.bool true)) ∧ OldK s1.heap s'.heap ∧ s'.os = s1.os ∧ AllBare s'.gens) s1 := by
  have rv := vals_ints hi
  have core : ∀ H : Hp, Only H → SqL K H a (ns.map V.int) → HOk P w H s1.heap → (∀ b, H b ≠ none → b = a) → (H a ≠ none → K.lookup a = none) →
      codeAny (model P w) callerA (.call (.ref fa) ⟨[.ref a], []⟩) (fun r s' => r = .ok (.ret (.bool true)) ∧ OldK s1.heap s'.heap ∧ s'.os = s1.os ∧ AllBare s'.gens) s1 := by
    intro H hO hS hok hA hK
    have notA : ∀ {b : Addr} {o : Obj}, s1.heap.get? b = some o → b ≠ a → (hidT s1.heap H).get? b = some o := fun {b o} e n => hidT_get e (by
      cases q : H b with
      | none => rfl
      | some u => exact absurd (hA b (by rw [q]; simp)) n)
    have nsK : ∀ {b : Addr} {m : Str → Option Value}, s1.heap.Ns b m → (hidT s1.heap H).Ns b m := by
      rintro b m ⟨o, es, ep, e, d, r⟩
      refine ⟨o, es, ep, notA e ?_, d, r⟩
      rintro rfl
      rw [ha] at e
      cases e
      cases (show Data.seq vs.toArray _ = Data.dict es ep from d)
    have hKb : K.In (hidT s1.heap H) := fun b o e => hidT_get (KX b o e) (by
      cases q : H b with
      | none => rfl
      | some u =>
        obtain rfl := hA b (by rw [q]; simp)
        rw [hK (by rw [q]; simp)] at e
        cases e)
    have hM : Mod K mg (hidT s1.heap H) := ⟨hKb, nsK hns, ⟨mb, nsK hb, hbb⟩, let ⟨mc, h1, h2⟩ := hlim; ⟨mc, nsK h1, h2⟩⟩
    have e0 : Env0 P w K mg (hidT s1.heap H) callerA [] s1 H := by
      refine ⟨rfl, hM, fun b o e => of_hidT e, Nat.le_of_eq (hidT_size _ _), trivial, fun b hb => ?_, hok, .of_eq hg⟩
      exact absurd (show b ∈ ([] : List Addr) from hb) (by simp)
    refine codeAny_mono ((F _ hKb (nsK hns)).run callerA [] s1 H ⟨[.ref a], []⟩ [.ref a] [.ref a] _ _ hr callerA_gd e0 (hbind s1 (.ref a)) (.cons rfl .nil) (hsp H hO hS)) (fun r s' h => ?_)
    cases r with
    | error e => exact h.elim
    | ok fl => cases fl with
      | next => exact h.elim
      | brk => exact h.elim
      | cont => exact h.elim
      | ret u =>
        obtain ⟨v, H', os, bare, un, hok', r', q⟩ := h
        obtain rfl : v = .bl true := q
        obtain rfl : u = Value.bool true := r'
        refine ⟨rfl, OldK.of_keep fun b o e => ?_, os, bare⟩
        rcases hO b with z | ⟨ob, xs, z⟩
        · exact un.keep b o e z (fun z => absurd (show b ∈ ([] : List Addr) from z) (by simp)) (by simp)
        · obtain ⟨e1, _⟩ := hok b _ z
          obtain ⟨e2, _⟩ := hok' b _ (un.frzs b ob _ z)
          rw [e] at e1
          cases e1
          exact e2
  cases hk : K.lookup a with
  | some o =>
    have e := KX a o hk
    rw [ha] at e
    cases e
    exact core (fun _ => none) (fun _ => .inl rfl) (.inr ⟨_, vs.toArray, _, hk, rfl, rfl, rfl, by rw [List.size_toArray, hi.length]; exact hl, by simpa using rv⟩)
      (fun b u z => by cases (show (none : Option HO) = some u from z)) (fun b z => absurd rfl z) (fun z => absurd rfl z)
  | none =>
    let H1 : Hp := fun b => if b = a then some (.frz { cls := .type "list", data := .seq vs.toArray } (.lst (ns.map V.int))) else none
    have at_ : H1 a = some (.frz { cls := .type "list", data := .seq vs.toArray } (.lst (ns.map V.int))) := if_pos rfl
    have off : ∀ {b}, b ≠ a → H1 b = none := fun h => if_neg h
    have only : ∀ b, H1 b ≠ none → b = a := fun b z => Classical.byContradiction fun n => z (off n)
    refine core H1 (fun b => ?_) (.inl (.inr ⟨_, at_⟩)) (fun b u z => ?_) only (fun _ => hk)
    · by_cases hb : b = a
      · rw [hb]; exact .inr ⟨_, _, at_⟩
      · exact .inl (off hb)
    · obtain rfl := only b (by rw [z]; simp)
      rw [at_] at z
      cases z
      exact ⟨ha, by rw [List.length_map]; exact hl, vs, _, rv, ha⟩
/-- the goal that k_head leaves, from the law's promise -/
theorem walk_ofG {l : PySem.W.OpenLaw} {n k : Nat} {q : Program} {loose : List Str} {XP : (Str → Option Value) → Heap → Prop} {YP : World → Heap → Prop} {d : DefRec} {K : Params → PySem.W.Frag} {sp : World → Sp} {x : Str}
    (hn : l.most = some n) (hn2 : n ≤ sizeLine) (hdf : d.params.defaults = []) (hr : Room k callerA) (hY : ∀ (w : World) (h : Heap), YP w h → (K w.params).In h)
    (F : ∀ (w : World) (mg : Str → Option Value) (fa : Addr) (h : Heap), (K w.params).In h → h.Ns mainGlobals mg → mg d.name = some (.ref fa) →
      ∃ fd : FuncData, (∀ (s : Shared) (u : Value), BindsTo s fd ⟨[u], []⟩ [(x, u)]) ∧ ∀ base : Heap, (K w.params).In base → base.Ns mainGlobals mg → FnG l.prog w (K w.params) mg base CX0 k fa fd [x] (sp w))
    (hsp : ∀ (w : World) (H : Hp) (a : Addr) (ns : List Int), ns.length ≤ n → Only H → SqL (K w.params) H a (ns.map V.int) → sp w [.ref a] H (fun v _ => v = .bl true) fun _ _ _ => False) :
    PySem.W.WalkO q loose XP YP l.row.toRowW d [] (fun f vs => PySem.call f vs) := by
  refine Att.attach_call hn hdf (fun w s0 s1 mg mb fa o pm cd doc a vs ns G Y ho hd hcd hmg hobj hints hlen hg => ?_)
  obtain ⟨fd, hb, hF⟩ := F w mg fa _ (hY w _ Y) G.T.g hmg
  exact law_callG (hY w _ Y) G.T.g G.T.b G.T.builtins G.T.nolimit hg hobj hints (Nat.le_trans hlen hn2) hr hF hb (fun H hO hS => hsp w H a ns hlen hO hS)
end DL
namespace DL
open PySem PySem.Spec PyProof.Rows L2
variable {S : Type} [SI S]
/-- what is new, and no slot's yet -/
def Gh.hide (G : Gh) (ps : List Addr) : Gh := { G with A0 := fun a => G.A0 a ∨ a ∈ ps }
section
variable {B : Bs} {G : Gh} {own : Own} {ρ : Env} {s s' : S} {σ : Sg} {H H' : Hp}
theorem av_hide {ps : List Addr} (a : Addr) : Av (G.hide ps) own a ↔ Av G own a ∨ a ∈ ps :=
  ⟨fun z => z.elim (fun z => z.elim (fun z => .inl (.inl z)) .inr) fun z => .inl (.inr z), fun z => z.elim (fun z => z.elim (fun z => .inl (.inl z)) .inr) fun z => .inl (.inr z)⟩
/-- behind a step that made p: p is hidden -/
theorem Rel.hid (R : Rel B G own ρ s σ H) (k : Stp G s' H H') {p : Addr} (hp : H p = none) (hp' : H' p ≠ none) : Rel B (G.hide [p]) own ρ s' σ H' := by
  have R' := R.stp k
  have kp := R.kp k
  have kp' : Kp (fun a => Av G own a ∨ a = p) H H' := ⟨kp.tup, fun a o h n => kp.all a o h fun z => n (.inl z)⟩
  have av : ∀ a, Av (G.hide [p]) own a → Av G own a ∨ a = p := fun a h => ((av_hide a).mp h).imp id fun z => List.mem_singleton.mp z
  have hown : ∀ j, own j ≠ some p := fun j z => by
    obtain ⟨o, e, _⟩ := R.ont j p z
    rw [hp] at e; cases e
  refine ⟨fun a h => .inl (R.wf1 a h), fun a h => h.elim (R'.wf2 a) fun z => by rw [List.mem_singleton.mp z]; exact hp', R'.fr, R'.dk, R'.rs, R.inj, fun i a h => ⟨(R.fre i a h).1, fun z => z.elim (R.fre i a h).2 fun z => hown i (by rw [← List.mem_singleton.mp z]; exact h)⟩, R'.ont, R'.len, fun i x e => ?_⟩
  have q := R.sl i x e
  have nd : ∀ a, own i = some a → a ∉ G.dks := fun a ho z => (R.fre i a ho).2 (R.wf1 a z)
  cases x with
  | no => trivial
  | v z => obtain ⟨u, e1, r⟩ := q; exact ⟨u, e1, ((r.grow hp).kp kp').mono av⟩
  | l ds => obtain ⟨a, ho, hs, r⟩ := q; exact ⟨a, ho, hs, ((r.grow hp).kp kp' fun o e => k.fr a o e (nd a ho)).mono av⟩
  | m ds => obtain ⟨a, ho, hs, r⟩ := q; exact ⟨a, ho, hs, ((r.grow hp).kp kp' fun o e => k.fr a o e (nd a ho)).mono av⟩
  | g c a fs =>
    obtain ⟨gs, ho, hs, hg, r⟩ := q
    refine ⟨gs, ho, hs, hg, ((r.grow hp).kp kp' fun l hl o e => k.fr l o e fun z => ?_).mono av⟩
    obtain ⟨j, e'⟩ := gm_own ho hg l hl
    exact (R.fre j l e').2 (R.wf1 l z)
  | q _ _ => obtain ⟨a, ho, hs, r⟩ := q; exact ⟨a, ho, hs, ((r.grow hp).kp kp' fun o e => k.fr a o e (nd a ho)).mono av⟩
/-- a hidden one becomes slot i's own -/
theorem Rel.adopt0 {p : Addr} {ps : List Addr} (R : Rel B (G.hide (p :: ps)) own ρ s σ H) (h0 : G.H0 p = none) (hA : ¬ G.A0 p) (hn : p ∉ ps) (hw : ∀ a ∈ G.dks, G.A0 a) {i : Nat} (hil : i < σ.length) {x : Sl} (hx : OwnAt B (Av (G.hide (p :: ps)) own) H p x) :
    Rel B (G.hide ps) (fun j => if j = i then some p else own j) (ρ.set i x) s (σ.set i (some (.ref p))) H := by
  have hdk : (G.hide (p :: ps)).dks = G.dks := rfl
  have hnp : ∀ j, own j ≠ some p := fun j z => (R.fre j p z).2 (.inr List.mem_cons_self)
  have av : ∀ a, Av (G.hide ps) (fun j => if j = i then some p else own j) a → Av (G.hide (p :: ps)) own a := fun a h => by
    rcases h with (h | h) | ⟨j, h⟩
    · exact .inl (.inl h)
    · exact .inl (.inr (List.mem_cons_of_mem _ h))
    · by_cases hj : j = i
      · simp only [hj, if_true] at h; cases h; exact .inl (.inr List.mem_cons_self)
      · simp only [hj, if_false] at h; exact .inr ⟨j, h⟩
  have hot : ∃ o, H p = some o ∧ isTu o = false := by
    cases x with
    | no => exact hx.elim
    | v _ => exact hx.elim
    | g _ _ _ => exact hx.elim
    | q _ _ => obtain ⟨_, _, _, _, e, _⟩ := hx; exact ⟨_, e, rfl⟩
    | l ds => obtain ⟨xs, e, _⟩ := hx; exact ⟨_, e, rfl⟩
    | m ds =>
      rcases hx with ⟨ks, ⟨e, _⟩, _⟩ | ⟨ks, e, _⟩
      · exact ⟨_, e, rfl⟩
      · exact ⟨_, e, rfl⟩
  refine ⟨fun a h => .inl (hw a h), fun a h => ?_, R.fr, R.dk, R.rs, fun a b c h1 h2 => ?_, fun j a h => ?_, fun j a h => ?_, by simp [R.len], fun j z e => ?_⟩
  · exact R.wf2 a (h.imp id fun z => List.mem_cons_of_mem _ z)
  · by_cases ha : a = i
    · by_cases hb : b = i
      · rw [ha, hb]
      · simp only [ha, if_true] at h1; simp only [hb, if_false] at h2; cases h1; exact absurd h2 (hnp b)
    · by_cases hb : b = i
      · simp only [ha, if_false] at h1; simp only [hb, if_true] at h2; cases h2; exact absurd h1 (hnp a)
      · simp only [ha, if_false] at h1; simp only [hb, if_false] at h2; exact R.inj a b c h1 h2
  · by_cases hj : j = i
    · simp only [hj, if_true] at h; cases h; exact ⟨h0, fun z => z.elim hA hn⟩
    · simp only [hj, if_false] at h; exact ⟨(R.fre j a h).1, fun z => (R.fre j a h).2 (z.imp id fun z => List.mem_cons_of_mem _ z)⟩
  · by_cases hj : j = i
    · simp only [hj, if_true] at h; cases h; exact hot
    · simp only [hj, if_false] at h; exact R.ont j a h
  · by_cases hj : j = i
    · subst hj
      obtain ⟨hl, e'⟩ := List.getElem?_eq_some_iff.mp e
      have hl' : j < ρ.length := by simpa using hl
      have : (ρ.set j x)[j]? = some x := by simp [hl']
      rw [this] at e; cases e
      have hs : (σ.set j (some (V.ref p)))[j]? = some (some (V.ref p)) := by simp [← R.len, hl']
      cases x with
      | no => exact hx.elim
      | v _ => exact hx.elim
      | g _ _ _ => exact hx.elim
      | q _ _ => exact ⟨p, by simp, hs, hx.mono av⟩
      | l ds => exact ⟨p, by simp, hs, hx.mono av⟩
      | m ds => exact ⟨p, by simp, hs, hx.mono av⟩
    · rw [List.getElem?_set_ne (Ne.symm hj)] at e
      have q := R.sl j z e
      have e2 : (σ.set i (some (V.ref p)))[j]? = σ[j]? := List.getElem?_set_ne (Ne.symm hj)
      cases z with
      | no => trivial
      | v z => obtain ⟨u, e1, r⟩ := q; exact ⟨u, by rw [e2]; exact e1, r.mono av⟩
      | l ds => obtain ⟨a, ho, hs, r⟩ := q; exact ⟨a, by simp only [hj, if_false]; exact ho, by rw [e2]; exact hs, r.mono av⟩
      | m ds => obtain ⟨a, ho, hs, r⟩ := q; exact ⟨a, by simp only [hj, if_false]; exact ho, by rw [e2]; exact hs, r.mono av⟩
      | g c a fs =>
        obtain ⟨gs, ho, hs, hg, r⟩ := q
        refine ⟨gs, by simp only [hj, if_false]; exact ho, by rw [e2]; exact hs, fun l g hl => ?_, r.mono av⟩
        rw [List.length_set]
        have := gix_ge (n := σ.length) (i := j) (j := l)
        show (if gix σ.length j l = i then some p else own (gix σ.length j l)) = some g
        rw [if_neg (by omega)]
        exact hg l g hl
      | q _ _ => obtain ⟨a, ho, hs, r⟩ := q; exact ⟨a, by simp only [hj, if_false]; exact ho, by rw [e2]; exact hs, r.mono av⟩
theorem Rel.adopt {p : Addr} {ps : List Addr} (R : Rel B (G.hide (p :: ps)) own ρ s σ H) (h0 : G.H0 p = none) (hA : ¬ G.A0 p) (hn : p ∉ ps) (hw : ∀ a ∈ G.dks, G.A0 a) {i : Nat} {x : Sl} (hx : OwnAt B (Av (G.hide (p :: ps)) own) H p x) :
    ∃ own', Rel B (G.hide ps) own' (ρ.set i x) s (σ.set i (some (.ref p))) H ∧ (∀ a, Av (G.hide ps) own' a → Av (G.hide (p :: ps)) own a) ∧ ∀ j a, own' j = some a → own j = some a ∨ a = p := by
  by_cases h : i < σ.length
  · refine ⟨_, R.adopt0 h0 hA hn hw h hx, fun a h => ?_, fun j a h => ?_⟩
    · rcases h with (h | h) | ⟨j, h⟩
      · exact .inl (.inl h)
      · exact .inl (.inr (List.mem_cons_of_mem _ h))
      · by_cases hj : j = i
        · simp only [hj, if_true] at h; cases h; exact .inl (.inr List.mem_cons_self)
        · simp only [hj, if_false] at h; exact .inr ⟨j, h⟩
    · by_cases hj : j = i
      · simp only [hj, if_true] at h; cases h; exact .inr rfl
      · simp only [hj, if_false] at h; exact .inl h
  · have av : ∀ a, Av (G.hide ps) own a → Av (G.hide (p :: ps)) own a := fun a h => by
      rcases h with (h | h) | ⟨j, h⟩
      · exact .inl (.inl h)
      · exact .inl (.inr (List.mem_cons_of_mem _ h))
      · exact .inr ⟨j, h⟩
    refine ⟨own, ?_, av, fun j a h => .inl h⟩
    rw [List.set_eq_of_length_le (by rw [R.len]; omega), List.set_eq_of_length_le (by omega)]
    refine ⟨fun a h => .inl (hw a h), fun a h => R.wf2 a (h.imp id fun z => List.mem_cons_of_mem _ z), R.fr, R.dk, R.rs, R.inj, fun j a h => ⟨(R.fre j a h).1, fun z => (R.fre j a h).2 (z.imp id fun z => List.mem_cons_of_mem _ z)⟩, R.ont, R.len, fun j z e => ?_⟩
    have q := R.sl j z e
    cases z with
    | no => trivial
    | v z => obtain ⟨u, e1, r⟩ := q; exact ⟨u, e1, r.mono av⟩
    | l ds => obtain ⟨a, ho, hs, r⟩ := q; exact ⟨a, ho, hs, r.mono av⟩
    | m ds => obtain ⟨a, ho, hs, r⟩ := q; exact ⟨a, ho, hs, r.mono av⟩
    | g c a fs => obtain ⟨gs, ho, hs, hg, r⟩ := q; exact ⟨gs, ho, hs, hg, r.mono av⟩
    | q _ _ => obtain ⟨a, ho, hs, r⟩ := q; exact ⟨a, ho, hs, r.mono av⟩
end
abbrev Nx (S : Type) := Env → S → Out S Sl
def tN (B : Bs) (E : XK) (f : Nx S) : TE := fun σ H Q => ∃ G own ρ s, Rel B G own ρ s σ H ∧ (f ρ s).sat (fun x s' => ∀ p H', Stp G s' H H' → H p = none → OwnAt B (fun a => Av G own a ∨ a = p) H' p x → Q (.ref p) H') fun e s' => ExW B G E e s'
abbrev DN (X : Cx) (B : Bs) (E : XK) (e : Expr) (f : Nx S) : Prop := PE X e (tN B E f)
def nL (f : Lx S) : Nx S := fun ρ s => (f ρ s).bind fun ds s1 => .ok (.l ds) s1
def nD : Nx S := fun _ s => .ok (.m []) s
section
variable {X : Cx} {B : Bs} {E : XK} {e : Expr} {f : Ex S} {pos : Pos}
theorem DF.dn {f : Lx S} (h : DF X B E e f) : DN X B E e (nL f) := by
  refine pe_imp h fun σ H Q ⟨G, own, ρ, s, R, q⟩ => ?_
  exact ⟨G, own, ρ, s, R, q.bnd.mono fun ds s1 q1 p H1 xs k hp e r => q1 p H1 k hp ⟨xs, e, r⟩⟩
def dOb : Obj := { cls := .type "dict", data := .dict #[] }
theorem pe_dnewN {X : Cx} {B : Bs} {pos : Pos} : PE X (.Dict [] [] pos) (fun _ H Q => ∀ p, H p = none → Q (.ref p) (upd H p (dN B p (dOb, [])))) := ⟨fun pins s σ H Q I h => by
  refine wpAny_Dict_empty ⟨.ref s.heap.objs.size, _, I.laid (a := s.heap.objs.size) (o := dN B s.heap.objs.size (dOb, [])) (t' := s.toks) (fun _ _ q => Heap.get?_push_of_some _ q) (Nat.le_refl _) ?_, rfl, h _ (I.hok.fresh (Nat.le_refl _))⟩
  have hg : (s.heap.push { cls := .type "dict", data := .dict #[] }).get? s.heap.objs.size = some dOb := Heap.get?_push_size _ rfl
  refine ⟨⟨beq_eq_false_iff_ne.mpr (Ne.symm (Nat.ne_of_lt I.big)), Nat.zero_le _, [], .nil, dOb, #[], 0, rfl, hg, ⟨rfl, rfl, rfl⟩, rfl, rfl, List.nodup_nil⟩, ⟨_, hg⟩, fun h1 h2 x k => ?_⟩
  obtain ⟨z, l, xs, hp, o, es, ep, e, ho, r⟩ := x
  exact ⟨z, l, xs, hp, o, es, ep, e, k _ ho, r⟩⟩
theorem dn_dict : DN X B E (.Dict [] [] pos) (nD : Nx S) := by
  refine pe_imp (pe_dnewN (B := B)) fun σ H Q ⟨G, own, ρ, s, R, q⟩ => fun p hp => ?_
  exact q p _ (R.put hp) hp (.inr ⟨(dOb, []), upd_same, rfl, .nil⟩)
/-- name = a new object, one's own -/
def sNewN (i : Nat) (f : Nx S) : Sx S := fun ρ s => (f ρ s).bind fun x s1 => .ok (.nx (ρ.set i x)) s1
theorem ds_newN (c : Ctx X B) (i : Nat) {x : Str} {pos' : Pos} {f : Nx S} (h : DN X B E e f) (hi : X.N[i]? = some x := by rfl) (hx : Loc X.env.scope x := by first | exact .inl rfl | exact .inr rfl) (hs : swapsWith e (some (.Name x pos')) pos.line X.env = pure false := by rfl)
    (hf : X.fn x = true ∨ X.env.scope.names.lookup x = some .local := by first | exact .inl rfl | exact .inr rfl) : DS X B E (.Assign [.Name x pos'] e pos) (sNewN i f) := by
  refine ps_imp (ps_set c.nd hi hx h hs hf) fun Dd σ H ⟨G, own, ρ, s, R, q⟩ => ?_
  refine ⟨G, own, ρ, s, R, q.bnd.mono fun x s1 q1 p H1 k hp r => ?_⟩
  obtain ⟨_, R', g⟩ := R.mine (i := i) (x := x) hp k r
  exact q1 _ _ H1 R' g
/-- [..] handed to a name on one line -/
theorem ds_setLc (c : Ctx X B) (i : Nat) {y : Str} {py spos : Pos} {tg iter elt : Expr} {ifs : List Expr} {it : Lx S} {bt : Bt} {fc : Tx S} {own : List (Str × Nat)} {scope : Scope} (hi : DI X B E true tg iter it) (ok : BlkOk X.N X.env.scope scope own)
    (hg : ∀ (s : Shared) (H : Hp) (C : Addr) (cl : List (Str × Addr)) (fp : List Addr), DG S (X.blk s H scope (compEnvC scope cl C X.env) fp) B tg bt (own.map (·.2)))
    (ht : ∀ (s : Shared) (H : Hp) (C : Addr) (cl : List (Str × Addr)) (fp : List Addr), DTs (X.blk s H scope (compEnvC scope cl C X.env) fp) B E00 ifs fc)
    (he : ∀ (s : Shared) (H : Hp) (C : Addr) (cl : List (Str × Addr)) (fp : List Addr), DE (X.blk s H scope (compEnvC scope cl C X.env) fp) B E00 elt f)
    (hy : X.N[i]? = some y := by rfl) (hyl : X.env.scope.names.lookup y = some .local := by rfl)
    (hsw : swapsWith (.ListComp elt [⟨tg, iter, ifs, 0⟩] scope pos) (some (.Name y py)) spos.line X.env = pure true := by exact sw_true rfl rfl rfl (by decide +kernel)) (hs : ∀ x, foldedSetIterable iter X.env x = pure x := by intro _; rfl) :
    DS X B E (.Assign [.Name y py] (.ListComp elt [⟨tg, iter, ifs, 0⟩] scope pos) spos) (sSet i (eL (lLc it bt fc f (own.map (·.2))))) := by
  refine ps_imp (ps_setLc c.calm c.nd hy hyl hsw hi ok hg ht he hs) fun Dd σ H ⟨G, ow, ρ, s, R, q⟩ => tLc_of ⟨G, ow, ρ, s, R, q.bnd.bnd.mono fun ds s1 q1 p H1 xs k hp e r => ?_⟩
  exact q1 ow _ H1 ((R.stp k).set (y := .d (.list ds)) (.lst e (R.fresh hp) (r.mono fun a z => .inl z))) (.of_stp k)
inductive CmR (B : Bs) (A : Addr → Prop) (H0 H : Hp) : List V → List Sl → List Addr → Prop
  | nil : CmR B A H0 H [] [] []
  | val {v : V} {y : Val} {vs : List V} {cs : List Sl} {ps : List Addr} (h : RvV B A H v y) (t : CmR B A H0 H vs cs ps) : CmR B A H0 H (v :: vs) (.v y :: cs) ps
  | new {p : Addr} {x : Sl} {vs : List V} {cs : List Sl} {ps : List Addr} (h0 : H0 p = none) (h : OwnAt B A H p x) (n : p ∉ ps) (t : CmR B A H0 H vs cs ps) : CmR B A H0 H (.ref p :: vs) (x :: cs) (p :: ps)
abbrev Ms (S : Type) := Env → S → Out S (List Sl)
def tM (B : Bs) (E : XK) (f : Ms S) : TA := fun σ H Q => ∃ G own ρ s, Rel B G own ρ s σ H ∧ (f ρ s).sat (fun cs s' => ∀ vs ps H', Stp G s' H H' → CmR B (Av (G.hide ps) own) H H' vs cs ps → Rel B (G.hide ps) own ρ s' σ H' → Q vs H') fun e s' => ExW B G E e s'
abbrev DM (X : Cx) (B : Bs) (E : XK) (es : List Expr) (f : Ms S) : Prop := PA X es (tM B E f)
def mNil : Ms S := fun _ s => .ok [] s
def mVal (f : Ex S) (g : Ms S) : Ms S := fun ρ s => (f ρ s).bind fun y s1 => (g ρ s1).bind fun cs s2 => .ok (.v y :: cs) s2
def mNew (f : Nx S) (g : Ms S) : Ms S := fun ρ s => (f ρ s).bind fun x s1 => (g ρ s1).bind fun cs s2 => .ok (x :: cs) s2
theorem Rel.hide0 {G : Gh} {own : Own} {ρ : Env} {s : S} {σ : Sg} {H : Hp} (R : Rel B G own ρ s σ H) : Rel B (G.hide []) own ρ s σ H := by
  have av : ∀ a, Av (G.hide []) own a → Av G own a := fun a h => ((av_hide a).mp h).elim id fun z => by cases z
  refine ⟨fun a h => .inl (R.wf1 a h), fun a h => h.elim (R.wf2 a) (fun z => by cases z), R.fr, R.dk, R.rs, R.inj, fun i a h => ⟨(R.fre i a h).1, fun z => z.elim (R.fre i a h).2 fun z => by cases z⟩, R.ont, R.len, fun i x e => ?_⟩
  have q := R.sl i x e
  cases x with
  | no => trivial
  | v z => obtain ⟨u, e1, r⟩ := q; exact ⟨u, e1, r.mono av⟩
  | l ds => obtain ⟨a, ho, hs, r⟩ := q; exact ⟨a, ho, hs, r.mono av⟩
  | m ds => obtain ⟨a, ho, hs, r⟩ := q; exact ⟨a, ho, hs, r.mono av⟩
  | g c a fs => obtain ⟨gs, ho, hs, hg, r⟩ := q; exact ⟨gs, ho, hs, hg, r.mono av⟩
  | q _ _ => obtain ⟨a, ho, hs, r⟩ := q; exact ⟨a, ho, hs, r.mono av⟩
theorem dm_nil : DM X B E [] (mNil : Ms S) := by
  refine pa_imp pa_nil fun σ H Q ⟨G, own, ρ, s, R, q⟩ => ?_
  exact q [] [] H R.refl .nil R.hide0
theorem CmR.fresh {A : Addr → Prop} {H0 H : Hp} : ∀ {vs : List V} {cs : List Sl} {ps : List Addr}, CmR B A H0 H vs cs ps → ∀ p ∈ ps, H0 p = none
  | _, _, _, .nil, _, h => by cases h
  | _, _, _, .val _ t, p, h => CmR.fresh t p h
  | _, _, _, .new h0 _ _ t, p, h => (List.mem_cons.mp h).elim (fun e => by rw [e]; exact h0) (CmR.fresh t p)
theorem CmR.base {A : Addr → Prop} {H0 H0' H : Hp} (k : ∀ p, H0 p = none → H0' p = none) : ∀ {vs : List V} {cs : List Sl} {ps : List Addr}, CmR B A H0 H vs cs ps → CmR B A H0' H vs cs ps
  | _, _, _, .nil => .nil
  | _, _, _, .val h t => .val h (CmR.base k t)
  | _, _, _, .new h0 h n t => .new (k _ h0) h n (CmR.base k t)
theorem CmR.mono {A A' : Addr → Prop} {H0 H : Hp} (k : ∀ a, A' a → A a) : ∀ {vs : List V} {cs : List Sl} {ps : List Addr}, CmR B A H0 H vs cs ps → CmR B A' H0 H vs cs ps
  | _, _, _, .nil => .nil
  | _, _, _, .val h t => .val (h.mono k) (CmR.mono k t)
  | _, _, _, .new h0 h n t => .new h0 (h.mono k) n (CmR.mono k t)
theorem PlR.wk {B : Bs} {A A' : Addr → Prop} {H : Hp} (k : ∀ a, A' a → A a ∨ H a = none) {v : V} {d : D} (h : PlR B A H v d) : PlR B A' H v d := by
  cases d with
  | tuple ds => obtain ⟨a, xs, e, h, r⟩ := h; exact ⟨a, xs, e, h, RpL.wk k r⟩
  | dict kvs => obtain ⟨a, ks, e, h, n, d, r⟩ := h; exact ⟨a, ks, e, h, (fun z => (k a z).elim n fun e => by rw [e] at h; cases h), d, RpM.wk k r⟩
  | _ => exact h.elim
theorem RvV.wk {A A' : Addr → Prop} {H : Hp} (k : ∀ a, A' a → A a ∨ H a = none) {v : V} : ∀ {y : Val}, RvV B A H v y → RvV B A' H v y
  | .d _, h => Rp.wk k h
  | .r _, h => h
  | .o _ _, ⟨a, C, dx, fs', e, c, h, n, l⟩ => ⟨a, C, dx, fs', e, c, h, (fun z => (k a z).elim n fun e => by rw [e] at h; cases h), fun q hq => let ⟨u, e, r⟩ := l q hq; ⟨u, e, r.wk k⟩⟩
  | .p _, h => PlR.wk k h
  | .f _, h => h
theorem OwnAt.wk {A A' : Addr → Prop} {H : Hp} (k : ∀ a, A' a → A a ∨ H a = none) {a : Addr} : ∀ {x : Sl}, OwnAt B A H a x → OwnAt B A' H a x
  | .l _, ⟨xs, h, r⟩ => ⟨xs, h, r.wk k⟩
  | .m _, .inl ⟨ks, h, r⟩ => .inl ⟨ks, h, r.wk k⟩
  | .m _, .inr ⟨ks, h, e, r⟩ => .inr ⟨ks, h, e, r.wk k⟩
  | .no, h => h
  | .v _, h => h
  | .g _ _ _, h => h
  | .q _ _, ⟨C, dx, vs, hc, h, hn, r⟩ => ⟨C, dx, vs, hc, h, hn, r.wk k⟩
theorem hide_kp {G : Gh} {own : Own} {ρ : Env} {s s' : S} {σ : Sg} {H H' : Hp} (R : Rel B G own ρ s σ H) (k : Stp G s' H H') (ps : List Addr) : Kp (Av (G.hide ps) own) H H' :=
  ⟨(R.kp k).tup, fun a o h n => (R.kp k).all a o h fun z => n ((av_hide a).mpr (.inl z))⟩
theorem ExW.hide {G : Gh} {ps : List Addr} {e : Exn} {s' : S} (h : ExW B G E e s') : ExW B (G.hide ps) E e s' := fun C od H' h1 h2 h3 h4 => h C od H' h1 h2 h3 (by
  obtain ⟨c, d⟩ := h4
  refine ⟨c, d.imp id fun ⟨dx, fs', e1, e2, l⟩ => ⟨dx, fs', e1, e2, fun q hq => let ⟨u, e, r⟩ := l q hq; ⟨u, e, r.mono fun a z => .inl z⟩⟩⟩)
theorem sat_ex {α : Type} {o : Out S α} {P : α → S → Prop} {T T' : Exn → S → Prop} (h : o.sat P T) (k : ∀ e s, T e s → T' e s) : o.sat P T' := by
  cases o with
  | bad => exact h
  | ok _ _ => exact h
  | ex e s => exact k e s h
theorem dm_val {es : List Expr} {g : Ms S} (h : DE X B E e f) (hs : DM X B E es g) (hst : starEach (e :: es) X.env = (false, eval e X.env) :: starEach es X.env := by rfl) : DM X B E (e :: es) (mVal f g) := by
  refine pa_imp (pa_cons h hs hst) fun σ H Q ⟨G, own, ρ, s, R, q⟩ => ?_
  refine tD.run R _ q.bnd fun y s1 v H1 q1 k1 r1 R1 => ?_
  refine ⟨G, own, ρ, s1, R1, q1.bnd.mono fun cs s2 q2 vs ps H2 k2 c2 R2 => ?_⟩
  refine q2 _ ps H2 (k1.trans k2) (.val ?_ (c2.base fun p hp => Stp.none R1 k1 hp)) R2
  exact (r1.wk fun a z => ((av_hide a).mp z).imp id fun z => c2.fresh a z).kp (hide_kp R1 k2 ps)
theorem dm_new {es : List Expr} {f : Nx S} {g : Ms S} (h : DN X B E e f) (hs : DM X B E es g) (hst : starEach (e :: es) X.env = (false, eval e X.env) :: starEach es X.env := by rfl) : DM X B E (e :: es) (mNew f g) := by
  refine pa_imp (pa_cons h hs hst) fun σ H Q ⟨G, own, ρ, s, R, q⟩ => ?_
  refine ⟨G, own, ρ, s, R, q.bnd.mono fun x s1 q1 p H1 k1 hp r1 => ?_⟩
  have hp1 : H1 p ≠ none := by
    cases x with
    | no => exact r1.elim
    | v _ => exact r1.elim
    | g _ _ _ => exact r1.elim
    | q _ _ => obtain ⟨_, _, _, _, e, _⟩ := r1; rw [e]; simp
    | l ds => obtain ⟨xs, e, _⟩ := r1; rw [e]; simp
    | m ds => rcases r1 with ⟨ks, ⟨e, _⟩, _⟩ | ⟨ks, e, _⟩ <;> (rw [e]; simp)
  have R1 := R.stp k1
  have Rh := R.hid k1 hp hp1
  refine ⟨G.hide [p], own, ρ, s1, Rh, (sat_ex (T' := fun e s' => ExW B (G.hide [p]) E e s') q1.bnd fun _ _ z => z.hide).mono fun cs s2 q2 vs ps H2 k2 c2 R2 => ?_⟩
  have e1 : ∀ a, Av (G.hide (p :: ps)) own a ↔ Av ((G.hide [p]).hide ps) own a := fun a => by
    rw [av_hide, av_hide, av_hide, List.mem_cons, List.mem_singleton, or_assoc]
  have npq : p ∉ ps := fun z => hp1 (c2.fresh p z)
  have k2' : Stp G s2 H1 H2 := ⟨k2.fr, k2.dk, k2.rs⟩
  have R3 : Rel B (G.hide (p :: ps)) own ρ s2 σ H2 := by
    have e2 : (G.hide [p]).hide ps = G.hide (p :: ps) := by
      unfold Gh.hide
      congr 1
      funext a
      show ((G.A0 a ∨ a ∈ [p]) ∨ a ∈ ps) = (G.A0 a ∨ a ∈ p :: ps)
      rw [or_assoc, List.mem_singleton, List.mem_cons]
    rw [← e2]; exact R2
  refine q2 _ (p :: ps) H2 (k1.trans k2') (.new hp ?_ npq ((c2.mono fun a z => (e1 a).mp z).base fun q hq => Stp.none R1 k1 hq)) R3
  have w : OwnAt B (Av (G.hide (p :: ps)) own) H1 p x := r1.wk fun a z => by
    rcases (av_hide a).mp z with z | z
    · exact .inl (.inl z)
    · exact (List.mem_cons.mp z).elim (fun e => .inl (.inr e)) fun z => .inr (c2.fresh a z)
  refine w.kp (hide_kp R1 k2' _) fun o ho => k2'.fr p o ho fun z => ?_
  obtain ⟨o, e, _⟩ := R.dkT z
  rw [hp] at e; cases e
/-- the slots is get the components cs -/
def setAll : List Nat → List Sl → Env → Env
  | i :: is, c :: cs, ρ => setAll is cs (ρ.set i c)
  | _, _, ρ => ρ
def setVs : List Nat → List V → Sg → Sg
  | i :: is, v :: vs, σ => setVs is vs (σ.set i (some v))
  | _, _, σ => σ
theorem Rel.all {G : Gh} {ρ : Env} {s : S} {σ : Sg} {H H0 : Hp} (hw : ∀ a ∈ G.dks, G.A0 a) (hf : ∀ p, H0 p = none → G.H0 p = none ∧ ¬ G.A0 p) : ∀ {is : List Nat} {vs : List V} {cs : List Sl} {ps : List Addr} {own : Own} {ρ : Env} {σ : Sg},
    CmR B (Av (G.hide ps) own) H0 H vs cs ps → Rel B (G.hide ps) own ρ s σ H → vs.length = is.length → ∃ own', Rel B G own' (setAll is cs ρ) s (setVs is vs σ) H ∧ ∀ i a, own' i = some a → (∃ j, own j = some a) ∨ H0 a = none := by
  intro is
  induction is with
  | nil =>
    intro vs cs ps own ρ σ c R hl
    cases vs with
    | cons _ _ => cases hl
    | nil =>
      cases c with
      | nil =>
        refine ⟨own, ?_, fun i a h => .inl ⟨i, h⟩⟩
        have e : G.hide [] = G := by unfold Gh.hide; congr 1; funext a; simp
        rw [← e]; exact R
  | cons i is ih =>
    intro vs cs ps own ρ σ c R hl
    cases c with
    | nil => cases hl
    | val h t =>
      obtain ⟨own', R', k⟩ := ih t (R.set h) (by simpa using hl)
      exact ⟨own', R', k⟩
    | @new p x vs cs ps h0 h n t =>
      obtain ⟨f1, f2⟩ := hf _ h0
      obtain ⟨own1, R1, av1, ow1⟩ := R.adopt (i := i) f1 f2 n hw h
      have t1 := t.mono (A' := Av (G.hide ps) own1) av1
      obtain ⟨own', R', k⟩ := ih t1 R1 (by simpa using hl)
      refine ⟨own', R', fun j a e => ?_⟩
      rcases k j a e with ⟨l, e⟩ | e
      · rcases ow1 l a e with e | e
        · exact .inl ⟨l, e⟩
        · exact .inr (by rw [e]; exact h0)
      · exact .inr e
/-- a, b = x, y -/
def sPar (is : List Nat) (g : Ms S) : Sx S := fun ρ s => (g ρ s).bind fun cs s1 => if cs.length = is.length then .ok (.nx (setAll is cs ρ)) s1 else .bad
theorem CmR.len {A : Addr → Prop} {H0 H : Hp} : ∀ {vs : List V} {cs : List Sl} {ps : List Addr}, CmR B A H0 H vs cs ps → vs.length = cs.length
  | _, _, _, .nil => rfl
  | _, _, _, .val _ t => by simp [CmR.len t]
  | _, _, _, .new _ _ _ t => by simp [CmR.len t]
theorem par_end {G : Gh} {own : Own} {ρ : Env} {s s1 : S} {σ : Sg} {H H1 : Hp} (R : Rel B G own ρ s σ H) {vs : List V} {cs : List Sl} {ps : List Addr} (k : Stp G s1 H H1) (c : CmR B (Av (G.hide ps) own) H H1 vs cs ps) (Rh : Rel B (G.hide ps) own ρ s1 σ H1) {is : List Nat} (hl : cs.length = is.length)
    {Dd : Ends} (q : ∀ own' σ' H', Rel B G own' (setAll is cs ρ) s1 σ' H' → Gone G own own' H H' → Dd.nx σ' H') : Dd.nx (setVs is vs σ) H1 := by
  obtain ⟨own', R', k'⟩ := Rel.all (is := is) (ρ := ρ) (σ := σ) R.wf1 (fun p hp => ⟨(by
    cases z : G.H0 p with
    | none => rfl
    | some o =>
      by_cases hd : p ∈ G.dks
      · obtain ⟨o', e, _⟩ := R.dkT hd
        rw [hp] at e; cases e
      · rw [R.fr p o z hd] at hp; cases hp), fun z => R.wf2 p z hp⟩) c Rh (by rw [c.len, hl])
  exact q own' _ H1 R' ⟨fun a o h n _ => k.fr a o h n, k'⟩
theorem ds_par2 (c : Ctx X B) {i j : Nat} {x y : Str} {a b : Expr} {px py pt : Pos} {kt k2 : Nat} {pt2 : Pos} {g : Ms S} (ha : DM X B E [a, b] g) (hi : X.N[i]? = some x := by rfl) (hj : X.N[j]? = some y := by rfl) (hij : i ≠ j := by decide)
    (hx : X.env.scope.names.lookup x = some .local := by rfl) (hy : X.env.scope.names.lookup y = some .local := by rfl)
    (hw : swappedStores [.Tuple [.Name x px, .Name y py] kt pt] (.Tuple [a, b] k2 pt2) X.env = pure (some [x, y]) := by rfl) (hs : swapsWithSole [.Tuple [.Name x px, .Name y py] kt pt] (.Tuple [a, b] k2 pt2) pos.line X.env = pure false := by rfl) :
    DS X B E (.Assign [.Tuple [.Name x px, .Name y py] kt pt] (.Tuple [a, b] k2 pt2) pos) (sPar [i, j] g) := by
  refine ps_imp (ps_par c.calm c.nd hi hj hij hx hy ha hw hs) fun Dd σ H ⟨G, own, ρ, s, R, q⟩ => ?_
  refine ⟨G, own, ρ, s, R, q.bnd.mono fun cs s1 q1 vs ps H1 k1 c1 R1 => ?_⟩
  split at q1
  · rename_i hl
    have hv := c1.len
    rw [hl] at hv
    obtain ⟨v, w, rfl⟩ : ∃ v w, vs = [v, w] := by
      cases vs with
      | nil => cases hv
      | cons v r => cases r with
        | nil => cases hv
        | cons w r => cases r with
          | nil => exact ⟨v, w, rfl⟩
          | cons _ _ => cases hv
    exact ⟨v, w, rfl, par_end R k1 c1 R1 hl q1⟩
  · exact q1.elim
def gsIx : List Nat → TGs
  | [] => gNil
  | i :: is => gCons (gName i) (gsIx is)
theorem gsIx_of : ∀ (is : List Nat) (vs : List V) (σ : Sg) (H : Hp) (Q : Sg → Hp → Prop), vs.length = is.length → Q (setVs is vs σ) H → gsIx is vs σ H Q
  | [], [], _, _, _, _, q => ⟨rfl, q⟩
  | [], _ :: _, _, _, _, h, _ => by cases h
  | _ :: _, [], _, _, _, h, _ => by cases h
  | i :: is, v :: vs, σ, H, Q, h, q => ⟨v, vs, rfl, gsIx_of is vs _ H Q (by simpa using h) q⟩
theorem CmR.step {A : Addr → Prop} {H0 H H' : Hp} (k : Kp A H H') (kn : ∀ p o, H0 p = none → H p = some o → H' p = some o) : ∀ {vs : List V} {cs : List Sl} {ps : List Addr}, CmR B A H0 H vs cs ps → CmR B A H0 H' vs cs ps
  | _, _, _, .nil => .nil
  | _, _, _, .val h t => .val (h.kp k) (CmR.step k kn t)
  | _, _, _, .new h0 h n t => .new h0 (h.kp k fun o e => kn _ o h0 e) n (CmR.step k kn t)
/-- is: the targets' slots -/
theorem ds_parT (c : Ctx X B) (is : List Nat) {ts es : List Expr} {kt k2 : Nat} {pt pt2 : Pos} {g : Ms S} (ha : DM X B E es g) (ht : PGs X ts (gsIx is)) (hl : ts.length = is.length := by rfl) (hsz : is.length ≤ sizeLine := by decide)
    (hn : (assignEach ts X.env).length = is.length := by rfl) (hst : (assignEach ts X.env).findIdx? (·.1) = none := by rfl)
    (hs : swapsWithSole [.Tuple ts kt pt] (.Tuple es k2 pt2) pos.line X.env = pure false := by rfl) (hw : swappedStores [.Tuple ts kt pt] (.Tuple es k2 pt2) X.env = pure none := by rfl)
    (h1 : (assignEach [.Tuple ts kt pt] X.env).map (·.2) = [assign (.Tuple ts kt pt) X.env] := by rfl) : DS X B E (.Assign [.Tuple ts kt pt] (.Tuple es k2 pt2) pos) (sPar is g) := by
  refine ps_imp (ps_asg (pe_tup ha) (pg_tup c.calm ht hn hst) hs hw h1) fun Dd σ H ⟨G, own, ρ, s, R, q⟩ => ?_
  refine ⟨G, own, ρ, s, R, q.bnd.mono fun cs s1 q1 vs ps H1 k1 c1 R1 => ?_⟩
  split at q1
  · rename_i hc
    refine ⟨by rw [c1.len, hc]; exact hsz, fun p hp => ?_⟩
    refine ⟨p, vs, rfl, SqT.of upd_same, by rw [c1.len, hc], gsIx_of is vs σ _ _ (by rw [c1.len, hc]) ?_⟩
    have sm := same_upd (o := .tup vs) hp
    have st : Stp (G.hide ps) s1 H1 (upd H1 p (.tup vs)) := R1.same sm
    have st' : Stp G s1 H1 (upd H1 p (.tup vs)) := ⟨st.fr, st.dk, st.rs⟩
    exact par_end R (k1.trans st') (c1.step (R1.kp st) fun q o _ e => sm q o e) (R1.stp st) hc q1
  · exact q1.elim
end
end DL
namespace DL
open PySem PySem.Spec PyProof.Rows L2
/-- the deck: the list at dk, the numbers' own list at a0 -/
structure Dk where
  dk : Addr
  a0 : Addr
  cells : List Int
  beg : Int
  lft : Int
  drw : Int
  ne : dk ≠ a0
def Dk.items (s : Dk) : List V := [.ref s.a0, .int s.beg, .int s.lft, .int s.drw]
def Dk.rep (s : Dk) (H : Hp) : Prop := H s.dk = some (.lst s.items) ∧ H s.a0 = some (.lst (s.cells.map V.int)) ∧ ∀ p ∈ tabs, TabO H p.1 p.2
def Dk.as (s : Dk) : List Addr := s.dk :: s.a0 :: tabs.map (·.1)
theorem mem_tabs {a : Addr} (h : a ∈ tabs.map (·.1)) : ∃ q, (a, q) ∈ tabs := let ⟨p, hp, e⟩ := List.mem_map.mp h; ⟨p.2, by rw [← e]; exact hp⟩
instance : SI Dk where
  dks := Dk.as
  rep := Dk.rep
  there := fun s H a h m => by
    rcases List.mem_cons.mp m with rfl | m
    · exact ⟨_, h.1, rfl⟩
    rcases List.mem_cons.mp m with rfl | m
    · exact ⟨_, h.2.1, rfl⟩
    · obtain ⟨q, hq⟩ := mem_tabs m
      obtain ⟨ps, e, _⟩ := h.2.2 _ hq
      exact ⟨_, e, rfl⟩
  keep := fun s H H' h k t => ⟨by rw [k s.dk (List.mem_cons_self ..)]; exact h.1, by rw [k s.a0 (List.mem_cons_of_mem _ (List.mem_cons_self ..))]; exact h.2.1, fun p hp => (h.2.2 p hp).kp (k _ (List.mem_cons_of_mem _ (List.mem_cons_of_mem _ (List.mem_map.mpr ⟨p, hp, rfl⟩)))) t⟩
def Dk.get (s : Dk) : Nat → Option Int
  | 1 => some s.beg
  | 2 => some s.lft
  | 3 => some s.drw
  | _ => none
def Dk.put (s : Dk) (j : Nat) (x : Int) : Dk := match j with
  | 1 => { s with beg := x }
  | 2 => { s with lft := x }
  | _ => { s with drw := x }
/-- the deck is the value of slot i -/
def isDk (i : Nat) (ρ : Env) (s : Dk) : Bool := match ρ[i]? with
  | some (.v (.r (.ref a))) => a == s.dk
  | _ => false
section
variable {X : Cx} {B : Bs} {E : XK} {e a b : Expr} {f : Ex Dk} {pos p p2 p3 : Pos} {G : Gh} {own : Own} {ρ : Env} {s : Dk} {σ : Sg} {H : Hp}
theorem isDk_at (R : Rel B G own ρ s σ H) {i : Nat} (h : isDk i ρ s = true) : σ[i]? = some (some (.ref s.dk)) := by
  unfold isDk at h
  split at h
  · rename_i a hz
    obtain ⟨u, e, r⟩ := R.sl i _ hz
    rw [e, show u = V.ref a from r, beq_iff_eq.mp h]
  · cases h
theorem Dk.at_ {s : Dk} {j : Nat} {x : Int} (h : s.get j = some x) : L2.atI s.items (j : Int) = some (.int x) := by
  refine atI_nat ?_
  unfold Dk.get at h
  split at h <;> cases h <;> rfl
def eDk (i j : Nat) : Ex Dk := fun ρ s => if isDk i ρ s then (match s.get j with
  | some x => .ok (.d (.int x)) s
  | none => .bad) else .bad
theorem de_dk (i j : Nat) {x : Expr} {k : Nat} (hv : PE X x (tVar i)) : DE X B E (.Subscript x (.Constant (.int (j : Int)) k p) pos) (eDk i j) := by
  refine pe_imp (pe_ix ix_list hv pe_int (fun _ _ => rfl)) fun σ H Q ⟨G, own, ρ, s, R, q⟩ => ?_
  unfold eDk at q
  by_cases hd : isDk i ρ s = true
  · rw [if_pos hd] at q
    cases hz : s.get j with
    | none => rw [hz] at q; exact q.elim
    | some x =>
      rw [hz] at q
      exact ⟨_, isDk_at R hd, _, s.items, _, _, rfl, rfl, SqL.of R.rs.1, Dk.at_ hz, q _ H R.refl (.int _)⟩
  · rw [if_neg hd] at q; exact q.elim
/-- deck[0] != [] -/
def xDkNe (i : Nat) : Tx Dk := fun ρ s => if isDk i ρ s then .ok (!s.cells.isEmpty) s else .bad
theorem dp_ints {K : PySem.W.Frag} {H : Hp} : ∀ ns : List Int, DpAll K H (ns.map V.int) (ns.map .int)
  | [] => .nil
  | n :: r => .cons (.int n) (dp_ints r)
theorem lay_ints : ∀ ns : List Int, PyData.canLayAll0 (ns.map .int) = true
  | [] => rfl
  | n :: r => by simp [PyData.canLayAll0, PyData.canLay0, lay_ints r]
theorem dep_ints : ∀ ns : List Int, PyData.depthAll (ns.map .int) = 0
  | [] => rfl
  | n :: r => by simp [PyData.depthAll, PyData.depth, dep_ints r]
theorem shaped_ints (ns : List Int) : SeqAt.shaped (.list (ns.map .int)) = true := by
  unfold SeqAt.shaped
  rw [Bool.and_eq_true]
  exact ⟨by simp [PyData.canLay0, lay_ints], by simp [PyData.depth, dep_ints]⟩
theorem dt_dkne (c : Ctx X B) (i : Nat) {x : Expr} {k : Nat} (hv : PE X x (tVar i)) : DT X B E (.Compare (.Subscript x (.Constant (.int 0) k p) p2) [.NotEq] [.List [] p3] pos) (xDkNe i) := by
  refine pt_imp (pt_cmpR (op_neD c.u64) (pe_ix ix_list hv pe_int (fun _ _ => rfl)) (pe_lst pa_nil) (nomark _)) fun σ H Q ⟨G, own, ρ, s, R, q⟩ => ?_
  unfold xDkNe at q
  by_cases hd : isDk i ρ s = true
  · rw [if_pos hd] at q
    refine ⟨_, isDk_at R hd, _, s.items, 0, .ref s.a0, rfl, rfl, SqL.of R.rs.1, rfl, ?_⟩
    refine ⟨Nat.zero_le _, fun t ht => ⟨.list (s.cells.map .int), .list [], ?_, ?_, shaped_ints _, by decide, _, rfl, ?_⟩⟩
    · have : t ≠ s.a0 := by rintro rfl; rw [R.rs.2.1] at ht; cases ht
      exact .lst (SqL.of (by rw [upd_ne (Ne.symm this)]; exact R.rs.2.1)) (dp_ints _)
    · exact .lst (SqL.of upd_same) .nil
    · have := q _ (R.put (o := .lst []) ht)
      have e : (!PyData.eqv (.list (s.cells.map .int)) (.list [])) = !s.cells.isEmpty := by
        cases s.cells <;> simp [PyData.eqv, PyData.eqvAll]
      rw [e]
      exact this
  · rw [if_neg hd] at q; exact q.elim
/-- deck[0][e] -/
def eDkC (i : Nat) (f : Ex Dk) : Ex Dk := fun ρ s => if isDk i ρ s then (f ρ s).bind fun y s1 => (match y with
  | .d (.int j) => if s1.dk = s.dk ∧ s1.a0 = s.a0 then (match L2.atI s1.cells j with
    | some x => .ok (.d (.int x)) s1
    | none => .bad) else .bad
  | _ => .bad) else .bad
theorem atI_map {α β : Type} (g : α → β) (xs : List α) (i : Int) : L2.atI (xs.map g) i = (L2.atI xs i).map g := by
  unfold L2.atI
  rw [List.length_map]
  cases ixN xs.length i with
  | none => rfl
  | some j => simp
theorem de_dkc (i : Nat) {x : Expr} {k : Nat} (hv : PE X x (tVar i)) (h : DB X B E e f) (hs : PlainIx e := by first | exact fun _ _ => rfl) : DE X B E (.Subscript (.Subscript x (.Constant (.int 0) k p) p2) e pos) (eDkC i f) := by
  refine pe_imp (pe_ix ix_list (pe_ix ix_list hv pe_int (fun _ _ => rfl)) h hs) fun σ H Q ⟨G, own, ρ, s, R, q⟩ => ?_
  unfold eDkC at q
  by_cases hd : isDk i ρ s = true
  · rw [if_pos hd] at q
    refine ⟨_, isDk_at R hd, _, s.items, 0, .ref s.a0, rfl, rfl, SqL.of R.rs.1, rfl, ?_⟩
    refine tB.run R _ q.bnd fun y s1 v H1 q1 k1 r1 R1 => ?_
    cases y with
    | r _ => exact q1.elim
    | o _ _ => exact q1.elim
    | p _ => exact q1.elim
    | f _ => exact q1.elim
    | d d =>
      cases d with
      | int j =>
        dsimp only at q1
        split at q1
        · rename_i hs
          cases hz : L2.atI s1.cells j with
          | none => rw [hz] at q1; exact q1.elim
          | some x =>
            rw [hz] at q1
            refine ⟨s.a0, s1.cells.map V.int, j, .int x, rfl, rt_int r1, SqL.of (by rw [← hs.2]; exact R1.rs.2.1), by rw [atI_map, hz]; rfl, q1 _ H1 k1 (.int _)⟩
        · exact q1.elim
      | _ => exact q1.elim
  · rw [if_neg hd] at q; exact q.elim
/-- len(deck[0]) -/
def eDkL (i : Nat) : Ex Dk := fun ρ s => if isDk i ρ s then .ok (.d (.int s.cells.length)) s else .bad
theorem de_dkl (i : Nat) {x : Expr} {k : Nat} (hv : PE X x (tVar i)) (hm : X.mg "len" = none) (hg : Gl X "len" := by rfl)
    (he : starEach [.Subscript x (.Constant (.int 0) k p) p2] X.env = (false, eval (.Subscript x (.Constant (.int 0) k p) p2) X.env) :: starEach [] X.env := by rfl) (hpl : (backTo pos (starEach [] X.env)).any (·.1) = false := by rfl) :
    DE X B E (.Call (.Name "len" p3) [.Subscript x (.Constant (.int 0) k p) p2] [] pos) (eDkL i) := by
  refine pe_imp (pe_callB call_len hg hm boot_len (pa_cons (pe_ix ix_list hv pe_int (fun _ _ => rfl)) pa_nil he) (he := he) (hpl := hpl)) fun σ H Q ⟨G, own, ρ, s, R, q⟩ => ?_
  unfold eDkL at q
  by_cases hd : isDk i ρ s = true
  · rw [if_pos hd] at q
    refine ⟨_, isDk_at R hd, _, s.items, 0, .ref s.a0, rfl, rfl, SqL.of R.rs.1, rfl, ?_⟩
    exact ⟨_, s.cells.length, rfl, .inl ⟨s.cells.map V.int, SqL.of R.rs.2.1, by simp⟩, q _ H R.refl (.int _)⟩
  · rw [if_neg hd] at q; exact q.elim
/-- deck[j] = e -/
def sDk (i j : Nat) (f : Ex Dk) : Sx Dk := fun ρ s => (f ρ s).bind fun y s1 => if isDk i ρ s1 then (match y with
  | .d (.int x) => if j = 1 ∨ j = 2 ∨ j = 3 then .ok (.nx ρ) (s1.put j x) else .bad
  | _ => .bad) else .bad
theorem ds_dk (i j : Nat) {x : Expr} {k : Nat} (hv : PE X x (tVar i)) (h : DE X B E e f) (hs : swapsWithSole [.Subscript x (.Constant (.int (j : Int)) k p) p2] e pos.line X.env = pure false := by rfl) (hw : swappedStores [.Subscript x (.Constant (.int (j : Int)) k p) p2] e X.env = pure none := by rfl)
    (h1 : (assignEach [.Subscript x (.Constant (.int (j : Int)) k p) p2] X.env).map (·.2) = [assign (.Subscript x (.Constant (.int (j : Int)) k p) p2) X.env] := by rfl) : DS X B E (.Assign [.Subscript x (.Constant (.int (j : Int)) k p) p2] e pos) (sDk i j f) := by
  refine ps_imp (ps_asg h (pg_sub hv pe_int set_list) hs hw h1) fun Dd σ H ⟨G, own, ρ, s, R, q⟩ => ?_
  refine tD.run R _ q.bnd fun y s1 v H1 q1 k1 r1 R1 => ?_
  by_cases hd : isDk i ρ s1 = true
  · rw [if_pos hd] at q1
    cases y with
    | r _ => exact q1.elim
    | o _ _ => exact q1.elim
    | p _ => exact q1.elim
    | f _ => exact q1.elim
    | d d =>
      cases d with
      | int z =>
        dsimp only at q1
        split at q1
        · rename_i hj
          have ev : v = .int z := by cases r1; rfl
          subst ev
          have hij : ixN s1.items.length (j : Int) = some j := by
            rcases hj with rfl | rfl | rfl <;> rfl
          refine ⟨_, isDk_at R1 hd, _, s1.items, (j : Int), j, rfl, rfl, R1.rs.1, hij, ?_⟩
          have hdk : (s1.put j z).dk = s1.dk := by rcases hj with rfl | rfl | rfl <;> rfl
          have ha0 : (s1.put j z).a0 = s1.a0 := by rcases hj with rfl | rfl | rfl <;> rfl
          have hce : (s1.put j z).cells = s1.cells := by rcases hj with rfl | rfl | rfl <;> rfl
          have hit : s1.items.set j (.int z) = (s1.put j z).items := by rcases hj with rfl | rfl | rfl <;> rfl
          have mem : s1.dk ∈ G.dks := by rw [← R1.dk]; exact List.mem_cons_self ..
          have stp : Stp G (s1.put j z) H1 (upd H1 s1.dk (.lst (s1.items.set j (.int z)))) := by
            refine ⟨fun b o hb n => ?_, ?_, ?_, ?_⟩
            · rw [upd_ne]
              · exact hb
              · rintro rfl; exact n mem
            · rw [← R1.dk]
              show (s1.put j z).dk :: (s1.put j z).a0 :: tabs.map (·.1) = s1.dk :: s1.a0 :: tabs.map (·.1)
              rw [hdk, ha0]
            · rw [hdk, hit]; exact upd_same
            · refine ⟨by rw [ha0, hce, upd_ne (Ne.symm s1.ne)]; exact R1.rs.2.1, fun p hp => (R1.rs.2.2 p hp).kp ?_ fun b u hu h => ?_⟩
              · rw [upd_ne]
                intro e9
                obtain ⟨ps, e8, _⟩ := R1.rs.2.2 p hp
                rw [e9, R1.rs.1] at e8
                cases e8
              · rw [upd_ne]
                · exact h
                · rintro rfl
                  rw [R1.rs.1] at h
                  cases h
                  cases hu
          exact q1 own _ _ (R1.stp stp) ((Gone.of_stp k1).trans R1 (.of_stp stp))
        · exact q1.elim
      | _ => exact q1.elim
  · rw [if_neg hd] at q1; exact q1.elim
end
section
variable {P : Program} {w : World} {K : PySem.W.Frag} {mg : Str → Option Value} {base : Heap} {B : Bs} {k n : Nat} {f : Addr} {fd : FuncData} {ps N : List Str} {x qual : Str} {st : Stmt} {sp : Sp}
/-- a def by hand -/
theorem fg_hand (hP : B.P = P) (hK : B.K = K) (hw : B.w = w) (F : Fun K x qual st f fd) (Sc : FnScope N ps (defScope st)) (len : ∀ vs H Q E, sp vs H Q E → vs.length = ps.length)
    (h : ∀ (cdv : Value) (A : Around) (outer : List PySem.Env) (s : Shared) (H : Hp) (vs : List V) (Q : VK) (E : XK), Ctx (cxP P w K mg base N qual st f cdv A outer s H E) B → Room k (cxP P w K mg base N qual st f cdv A outer s H E).A → sp vs H Q E →
      ∃ t, PSs (cxP P w K mg base N qual st f cdv A outer s H E) (defBody st) t ∧ t { nx := fun _ H' => Q .non H', rt := Q } (L2.start N vs) H) : FnG P w K mg base CX0 (k + 1) f fd ps sp := by
  obtain ⟨oc, od, kV, doc, pm, an, cdv, ct, osl, rfl, lk, hcd⟩ := F.ex
  refine fg_of lk hcd Sc len fun A outer s H vs Q E hr hg hsp => ?_
  obtain ⟨t, ht, q⟩ := h cdv A outer s H vs Q E (ctx_of hP hK hw Sc hr hg).nox hr hsp
  exact ⟨t, ht.nox, q⟩
def spDeck (K : PySem.W.Frag) : Sp := fun vs H Q _ => ∃ (a : Addr) (ns : List Int), vs = [.ref a] ∧ SqL K H a (ns.map V.int) ∧ ns.length ≤ 63 ∧
  ∀ H' p p0, Same H H' → H p = none → H p0 = none → p ≠ p0 → H' p = some (.lst [.ref p0, .int 0, .int 0, .int 0]) → H' p0 = some (.lst (ns.map V.int)) → Q (.ref p) H'
def spLaw (K : PySem.W.Frag) : Sp := fun vs H Q _ => ∃ (a : Addr) (ns : List Int), vs = [.ref a] ∧ SqL K H a (ns.map V.int) ∧ ns.length ≤ 63 ∧ (∀ p ∈ tabs, TabO H p.1 p.2) ∧ ∀ H', Q (.bl true) H'
theorem cut63 (ns : List Int) (h : ns.length ≤ 63) : cutV (ns.map V.int) none (some 63) = ns.map V.int := by
  unfold cutV
  have e : HT.sIx (ns.map V.int).length (ns.map V.int).length (some 63) = ns.length := by
    rw [show (63 : Int) = ((63 : Nat) : Int) from rfl, HT.sIx_nat, List.length_map]
    omega
  rw [e, HT.sIx_none]
  simp [List.take_of_length_le]
theorem deck_read {K : PySem.W.Frag} {H : Hp} {a : Addr} {ns : List Int} {Q : VK} (hS : SqL K H a (ns.map V.int)) (hl : ns.length ≤ 63) (q : ∀ H' p p0, Same H H' → H p = none → H p0 = none → p ≠ p0 → H' p = some (.lst [.ref p0, .int 0, .int 0, .int 0]) → H' p0 = some (.lst (ns.map V.int)) → Q (.ref p) H')
    {σ : Sg} (hσ : σ[0]? = some (some (.ref a))) :
    tLst (tCons (tCB (fun xs H Q => ∃ p ys, xs = [.ref p] ∧ (SqL K H p ys ∨ SqT K H p ys) ∧ ∀ l, H l = none → Q (.ref l) (upd H l (.lst ys))) (tCons (tSl (rSlL K) (tVar 0) tNoPart (tPart (tC (.int 63)))) tNil)) (tCons (tC (.int 0)) (tCons (tC (.int 0)) (tCons (tC (.int 0)) tNil)))) σ H Q := by
  refine ⟨_, hσ, 63, rfl, a, _, rfl, hS, fun t ht => ⟨t, _, rfl, .inl (SqL.of upd_same), fun p0 hp0 => ⟨by show 4 ≤ sizeLine; decide, fun p hp => ?_⟩⟩⟩
  have n1 : p0 ≠ t := fun e => by rw [e, upd_same] at hp0; cases hp0
  have n2 : p ≠ p0 := fun e => by rw [e, upd_same] at hp; cases hp
  have h0 : H p0 = none := by rw [upd_ne n1] at hp0; exact hp0
  have n3 : p ≠ t := fun e => by rw [upd_ne n2, e, upd_same] at hp; cases hp
  have hp' : H p = none := by rw [upd_ne n2, upd_ne n3] at hp; exact hp
  refine q _ p p0 (fun b o e => ?_) hp' h0 n2 upd_same ?_
  · rw [upd_ne (ne_of_none e hp'), upd_ne (ne_of_none e h0), upd_ne (ne_of_none e ht)]; exact e
  · rw [upd_ne (Ne.symm n2), upd_same, cut63 ns hl]
/-- the law's further statements give True, whatever stands in the script -/
def LawTrue (n : Nat) (g : Sx Dk) : Prop := ∀ (ns : List Int) (p p0 : Addr) (ne : p ≠ p0), ns.length ≤ 63 → ∃ s', g (.no :: .v (.r (.ref p)) :: List.replicate n .no) ⟨p, p0, ns, 0, 0, 0, ne⟩ = .ok (.rt (.d (.bool true))) s'
theorem law_read {B : Bs} {a : Addr} {ns : List Int} {H : Hp} {Dd : Ends} {g : Sx Dk} (hB : B.K = K) (hS : SqL K H a (ns.map V.int)) (hl : ns.length ≤ 63) (hN : N.length = n + 2) (ht : LawTrue n g) (k : (∀ p ∈ tabs, TabO H p.1 p.2) ∧ ∀ H', Dd.rt (.bl true) H') :
    tSeq (tAsg (fun σ H Q => (tCons (tVar 0) tNil) σ H fun vs H1 => spDeck K vs H1 Q E0) (gName 1)) (tS B E00 g) Dd (L2.start N [.ref a]) H := by
  have hst : L2.start N [.ref a] = some (.ref a) :: none :: List.replicate n none := by
    unfold L2.start
    rw [hN]
    show some (V.ref a) :: List.replicate (n + 1) none = _
    rw [List.replicate_succ]
  rw [hst]
  refine ⟨_, rfl, a, ns, rfl, hS, hl, fun H' p p0 sm hp hp0 ne e1 e2 => ?_⟩
  obtain ⟨s', e⟩ := ht ns p p0 ne hl
  let s0 : Dk := ⟨p, p0, ns, 0, 0, 0, ne⟩
  have hT : ∀ p ∈ tabs, TabO H' p.1 p.2 := fun p hp => by
    obtain ⟨ps, e8, _⟩ := k.1 p hp
    exact (k.1 p hp).kp (by rw [sm _ _ e8, e8]) fun b u _ h => sm b u h
  let G : Gh := ⟨H', fun b => b ∈ s0.as, s0.as⟩
  refine ⟨G, fun _ => none, .no :: .v (.r (.ref p)) :: List.replicate n .no, s0, ⟨fun b hb => hb, fun b hb => ?_, fun _ _ h _ => h, rfl, ⟨e1, e2, hT⟩, fun _ _ _ h => (nomatch h), fun _ _ h => (nomatch h), fun _ _ h => (nomatch h), ?_, fun i x hx => ?_⟩, ?_⟩
  · obtain ⟨o, e9, _⟩ := SI.there s0 H' b (show Dk.rep s0 H' from ⟨e1, e2, hT⟩) hb
    rw [e9]; simp
  · simp
  · match i, hx with
    | 0, hx => cases hx; trivial
    | 1, hx => cases hx; exact ⟨.ref p, rfl, rfl⟩
    | i + 2, hx =>
      have hx : (List.replicate n Sl.no)[i]? = some x := hx
      rw [List.getElem?_replicate] at hx
      split at hx
      · cases hx; trivial
      · cases hx
  · show (g (.no :: .v (.r (.ref p)) :: List.replicate n .no) s0).sat _ _
    rw [e]
    intro v H2 _ r
    cases r
    exact k.2 H2
end
section
variable {X : Cx} {B : Bs} {E : XK} {x : Str} {p : Pos}
theorem de_gstr {i : Str} {t : Tok} (hm : X.mg x = some (.str i t)) (hg : Gl X x := by rfl) (hd : (x == ("__debug__" : Str)) = false := by decide) : DE X B E (.Name x p) (eC (.str i) : Ex Dk) :=
  de_c (pe_glob (v := V.str i) hg hm ⟨_, rfl⟩ hd) fun _ _ => .str _
end
end DL
namespace DL
open PySem PySem.Spec PyProof.Rows L2
section
variable {S : Type} [SI S] {P : Program} {w : World} {K : PySem.W.Frag} {mg : Str → Option Value} {base : Heap} {CX : CXT} {k n : Nat} {f : Addr} {fd : FuncData} {ps : List Str} {B : Bs}
/-- a promise that asks for nothing -/
theorem fg_bad : FnG P w K mg base CX k f fd ps (spP B n (fun _ (_ : S) => (.bad : Out S Val))) where
  len := fun vs H Q E ⟨_, _, _, _, _, q⟩ => q.elim
  run := fun A outer s H args us vs Q E _ _ _ _ _ ⟨_, _, _, _, _, q⟩ => q.elim
end
section
variable {S : Type} [SI S] {X : Cx} {B : Bs} {E : XK} {e ei : Expr} {f fi : Ex S} {pos p2 : Pos}
theorem RpL.set {A : Addr → Prop} {H : Hp} : ∀ {xs : List V} {ds : List D} {v : V} {d : D}, RpL B A H xs ds → Rp B A H v d → ∀ n, RpL B A H (xs.set n v) (ds.set n d)
  | _, _, _, _, .nil, _, _ => .nil
  | _, _, _, _, .cons a t, h, 0 => .cons h t
  | _, _, _, _, .cons a t, h, n + 1 => .cons a (RpL.set t h n)
/-- xs[::-1] -/
def opRev : D → Option D
  | .list ds => some (.list ds.reverse)
  | .tuple ds => some (.tuple ds.reverse)
  | _ => none
end
section
variable {prog : Program} {w : World} {A : Around} {E : Value → Shared → Prop} {s : Shared}
theorem places_rev (n : Nat) : Builtin.Slice.slicePlaces ((n : Int) - 1) (-1) (-1) = n := by
  unfold Builtin.Slice.slicePlaces
  rw [if_neg (by decide)]
  by_cases h : (n : Int) - 1 > -1
  · rw [if_pos h, show (- (-1 : Int)) = 1 from rfl, Int.ediv_one]
    omega
  · rw [if_neg h]
    omega
theorem sliceApplied_rev {sl : Addr} {vl vu vs : Value} {n : Nat} {Q : Int × Int × Nat → Shared → Prop} (hs : s.heap.IsSliceOf sl vl vu vs) (pl : IsPart vl none) (pu : IsPart vu none) (ps : IsPart vs (some (-1)))
    (h : Q ((n : Int) - 1, -1, n) s) : wpAny (model prog w) A (Builtin.Slice.sliceApplied (.ref sl) (pure (n : Int))) Q E s := by
  obtain ⟨os, hos, hcs, hds⟩ := id hs
  unfold Builtin.Slice.sliceApplied Builtin.Slice.sliceFields
  refine wpAny_bind (wpAny_bind (wpAny_field hos hds (x := vl) rfl (wpAny_bind (wpAny_field hos hds (x := vu) rfl (wpAny_bind (wpAny_field hos hds (x := vs) rfl (wpAny_pure ?_)))))))
  refine wpAny_bind (HT.slicePart_ ps ?_)
  show wpAny _ _ (if ((-1 : Int) == 0) = true then _ else _) _ _ s
  rw [if_neg (by decide)]
  refine wpAny_bind (HT.slicePart_ pl (wpAny_bind (HT.slicePart_ pu (wpAny_bind (wpAny_pure ?_)))))
  show wpAny _ _ (pure ((n : Int) - 1, (-1 : Int), Builtin.Slice.slicePlaces ((n : Int) - 1) (-1) (-1))) _ _ s
  rw [places_rev]
  exact wpAny_pure h
theorem pick_rev {α : Type} (xs : Array α) : ((List.range xs.size).filterMap fun (k : Nat) => xs[((xs.size : Int) - 1 + (k : Int) * (-1)).toNat]?) = xs.toList.reverse := by
  have e : (fun (k : Nat) => xs[((xs.size : Int) - 1 + (k : Int) * (-1)).toNat]?) = fun k => xs[xs.size - 1 - k]? := by
    funext k
    congr 1
    omega
  rw [e]
  apply List.ext_getElem?
  intro i
  have hf : ∀ n, n ≤ xs.size → (List.range n).filterMap (fun k => xs[xs.size - 1 - k]?) = (xs.toList.reverse).take n := by
    intro n
    induction n with
    | zero => intro _; simp
    | succ n ih =>
      intro hn
      rw [List.range_succ, List.filterMap_append, ih (by omega)]
      have h1 : xs[xs.size - 1 - n]? = some xs[xs.size - 1 - n] := Array.getElem?_eq_getElem (by omega)
      simp only [List.filterMap_cons, h1, List.filterMap_nil]
      rw [List.take_succ]
      congr 1
      rw [List.getElem?_reverse (by rw [Array.length_toList]; omega)]
      rw [show xs.toList.length = xs.size from Array.length_toList]
      rw [Array.getElem?_toList, h1]
      rfl
  rw [hf xs.size (Nat.le_refl _), List.take_of_length_le (by simp)]
theorem getItem_tuple_rev {t sl : Addr} {items : Array Value} {vl vu vs : Value} {Q : Value → Shared → Prop} (ht : IsTup s.heap t items) (hs : s.heap.IsSliceOf sl vl vu vs) (pl : IsPart vl none) (pu : IsPart vu none) (ps : IsPart vs (some (-1)))
    (h : Q (.ref s.heap.objs.size) { s with heap := s.heap.push { cls := .type "tuple", data := .seq items.toList.reverse.toArray } })
    (hsz : items.size ≤ sizeLine) : wpAny (model prog w) A (getItem (.ref t) (.ref sl)) Q E s := by
  have htake : sizeOk (.seq items.toList.reverse.toArray) := by
    show items.toList.reverse.toArray.size ≤ sizeLine
    rw [List.size_toArray, List.length_reverse, Array.length_toList]
    exact hsz
  obtain ⟨os, hos, hcs, hds⟩ := id hs
  have hTs : s.TypeIs (.ref sl) "slice" := ⟨os, hos, hcs⟩
  unfold getItem
  try with_reducible refine wpAny_holding ?_
  first | refine wpAny_bind (wpAny_pure ?_) | skip
  refine wpAny_bind (wpAny_sequenceKey ht.typeIs (by decide) ?_)
  refine wpAny_bind (wpAny_callSpecial?_slot (name := Str.ofString "__getitem__") ht.typeIs PyProof.Rows.slot_tuple_getitem
    (wpAny_call_entry PyProof.Rows.slot_tuple_getitem ht.typeIs entry_tuple_getitem ?_ (args_tuple_getitem _ _)))
  show wpAny _ _ (Builtin.Tuple.tupleItemsOf (.ref t) >>= _) _ _ s
  refine wpAny_bind (tupleItemsOf_ ht ?_)
  refine wpAny_bind (wpAny_typeOf hTs ?_)
  rw [if_pos (by decide)]
  refine wpAny_bind (sliceApplied_rev hs pl pu ps ?_)
  have hno : ¬ ((((items.size : Int) - 1) == 0 && (-1 : Int) == 1 && items.size == items.size) = true) := by
    rw [show ((-1 : Int) == 1) = false from rfl, Bool.and_false, Bool.false_and]
    exact Bool.false_ne_true
  show wpAny _ _ (if (((items.size : Int) - 1) == 0 && (-1 : Int) == 1 && items.size == items.size) = true then _ else _) _ _ s
  rw [if_neg hno, pick_rev]
  first
    | exact wpAny_bind (m := Builtin.Tuple.tupleExact _) (wpAny_newObj_type (wpAny_pure ⟨_, rfl, wpAny_pure h⟩) htake)
    | exact wpAny_bind (m := Builtin.Tuple.tupleExact _) (wpAny_newObj_type (wpAny_bind (wpAny_pure (wpAny_pure ⟨_, rfl, wpAny_pure h⟩))) htake)
    | exact wpAny_bind (wpAny_bind (m := Builtin.Tuple.tupleExact _) (wpAny_newObj_type (wpAny_pure (wpAny_pure ⟨_, rfl, wpAny_pure h⟩)) htake))
    | exact wpAny_bind (wpAny_bind (m := Builtin.Tuple.tupleExact _) (wpAny_newObj_type (wpAny_pure ⟨_, rfl, wpAny_pure h⟩) htake))
end
section
def rRevA (K : PySem.W.Frag) : V → Hp → VK → Prop := fun x H Q => (∃ a xs, x = .ref a ∧ SqL K H a xs ∧ ∀ p, H p = none → Q (.ref p) (upd H p (.lst xs.reverse))) ∨
  ∃ a xs, x = .ref a ∧ SqT K H a xs ∧ ∀ p, H p = none → Q (.ref p) (upd H p (.tup xs.reverse))
theorem pe_revA {X : Cx} {e : Expr} {te : TE} {k : Nat} {p1 p2 p3 pos : Pos} (he : PE X e te) : PE X (.Subscript e (.Slice none none (some (.UnaryOp .USub (.Constant (.int 1) k p1) p2)) p3) pos) (tUn (rRevA X.K) te) := by
  refine ⟨fun pins s σ H Q I h => ?_⟩
  refine Subscript_ (thn (he.run pins s σ H _ I h) fun v s1 ⟨x, H1, I1, r1, q1⟩ => ?_)
  have hst : PO X (some (.UnaryOp .USub (.Constant (.int 1) k p1) p2)) (tPart (tUn (rU fun i => .int (-i)) (tC (.int 1)))) := po_some (pe_un un_neg pe_int)
  refine wpAny_Slice (thn (po_none.run pins s1 σ H1 (fun o H2 => o = none ∧ H2 = H1) I1 ⟨rfl, rfl⟩) fun vl s2 ⟨l, H2, I2, pl, el, e2⟩ => ?_)
  subst el e2
  refine thn (po_none.run pins s2 σ H2 (fun o H3 => o = none ∧ H3 = H2) I2 ⟨rfl, rfl⟩) fun vu s3 ⟨u, H3, I3, pu, eu, e3⟩ => ?_
  subst eu e3
  refine thn (hst.run pins s3 σ H3 (fun o H4 => o = some (-1) ∧ H4 = H3) I3 ⟨1, rfl, -1, rfl, rfl, rfl⟩) fun vs s4 ⟨o, H4, I4, ps, eo, e4⟩ => ?_
  subst eo e4
  have I5 : Inv X pins σ H4 { s4 with heap := s4.heap.push { cls := .type "slice", data := .fields #[vl, vu, vs] } } := I4.kept (t' := s4.toks) fun b ob q => Heap.get?_push_of_some _ q
  rcases q1 with ⟨a, xs, ex, hx, q⟩ | ⟨a, xs, ex, hx, q⟩
  · subst ex
    cases r1
    obtain ⟨its, r, ht, hz⟩ := I5.list hx
    have hlen := r.length
    show wpAny (model X.prog X.w) X.A (subscriptTail e (.Slice none none (some (.UnaryOp .USub (.Constant (.int 1) k p1) p2)) p3) (.ref a) (.ref s4.heap.objs.size)) (EP X pins σ Q) X.xe { s4 with heap := s4.heap.push { cls := .type "slice", data := .fields #[vl, vu, vs] } }
    refine tail_any (ops := [.ref a, .ref s4.heap.objs.size]) ht.isList.typeIs (PySem.slot_list_getitem.lookup) ?_ (by with_unfolding_all rfl)
    refine wpAny_getItem_list_slice ht.isList (Heap.IsSliceOf.new _ vl vu vs) pl pu ps (by decide) ?_ (by rw [List.size_toArray]; omega)
    rw [PySem.W.krv_pick]
    refine ⟨.ref _, _, I5.laid (t' := s4.toks) (o := .lst xs.reverse) (fun b ob q => Heap.get?_push_of_some _ q) (Nat.le_refl _) ?_, rfl, q _ (I5.hok.fresh (Nat.le_refl _))⟩
    exact ⟨by rw [List.length_reverse]; exact hz, _, 0, r.reverse, Heap.get?_push_size _ rfl⟩
  · subst ex
    cases r1
    obtain ⟨its, r, ht, hz⟩ := I5.tuple hx
    have hlen := r.length
    show wpAny (model X.prog X.w) X.A (subscriptTail e (.Slice none none (some (.UnaryOp .USub (.Constant (.int 1) k p1) p2)) p3) (.ref a) (.ref s4.heap.objs.size)) (EP X pins σ Q) X.xe { s4 with heap := s4.heap.push { cls := .type "slice", data := .fields #[vl, vu, vs] } }
    refine tail_any (ops := [.ref a, .ref s4.heap.objs.size]) ht.typeIs (PyProof.Rows.slot_tuple_getitem.lookup) ?_ (by with_unfolding_all rfl)
    refine getItem_tuple_rev ht (Heap.IsSliceOf.new _ vl vu vs) pl pu ps ?_ (by rw [List.size_toArray]; omega)
    refine ⟨.ref _, _, I5.laid (t' := s4.toks) (o := .tup xs.reverse) (fun b ob q => Heap.get?_push_of_some _ q) (Nat.le_refl _) ?_, rfl, q _ (I5.hok.fresh (Nat.le_refl _))⟩
    exact ⟨by rw [List.length_reverse]; exact hz, _, r.reverse, IsTup.new _ _⟩
variable {B : Bs} {S : Type} [SI S] {X : Cx} {E : XK} {a : Expr} {fa : Ex S} {k : Nat} {p1 p2 p3 pos : Pos}
theorem RpL.rev {A : Addr → Prop} {H : Hp} : ∀ {xs : List V} {ds : List D}, RpL B A H xs ds → RpL B A H xs.reverse ds.reverse
  | _, _, .nil => .nil
  | _, _, .cons a t => by
    rw [List.reverse_cons, List.reverse_cons]
    exact (RpL.rev t).app (.cons a .nil)
theorem ud_rev : UnD B (rRevA B.K) opRev := by
  intro A N H x p z Q fr hz hx k
  cases p with
  | list ds =>
    cases hz
    obtain ⟨a, xs, rfl, h, r⟩ := rt_lst hx
    exact .inl ⟨a, xs, rfl, SqL.of h, fun p hp => k _ _ (same_upd hp) (new_lst hp (fr p hp) r.rev)⟩
  | tuple ds =>
    cases hz
    obtain ⟨a, xs, rfl, h, r⟩ := rt_tup hx
    exact .inr ⟨a, xs, rfl, h.sq, fun p hp => k _ _ (same_upd hp) (new_tup hp r.rev)⟩
  | _ => cases hz
theorem de_rev (hB : B.K = X.K) (ha : DB X B E a fa) : DE X B E (.Subscript a (.Slice none none (some (.UnaryOp .USub (.Constant (.int 1) k p1) p2)) p3) pos) (eUn opRev fa) := de_un ud_rev (by rw [hB]; exact pe_revA ha)
end
end DL
namespace DL
open PySem PySem.Spec PyProof.Rows L2
def scK : D → Option Key
  | .int i => some (.inl i)
  | .str x => some (.inr x)
  | _ => none
def dGetS (kvs : List (D × D)) (k : Key) : Option D := (kvs.find? fun p => decide (scK p.1 = some k)).map (·.2)
def dPutS (kvs : List (D × D)) (kd z : D) (k : Key) : List (D × D) :=
  if (kvs.any fun p => decide (scK p.1 = some k)) = true then kvs.map (fun p => if scK p.1 = some k then (p.1, z) else p) else kvs ++ [(kd, z)]
section
variable {B : Bs} {A : Addr → Prop} {H : Hp}
theorem sc_of {k : Key} {d : D} (h : Rp B A H (kV k) d) : scK d = some k := by
  cases k with
  | inl i => cases h; rfl
  | inr x => cases h; rfl
theorem sc_val {N : Addr → Prop} {y : V} {d : D} {k : Key} (h : RtV B A N H y (.d d)) (e : scK d = some k) : y = kV k := by
  cases d with
  | int i => cases e; exact rt_int h
  | str x => cases e; exact rt_str h
  | _ => cases e
theorem sc_rp {k : Key} {d : D} (e : scK d = some k) : Rp B A H (kV k) d := by
  cases d with
  | int i => cases e; exact .int i
  | str x => cases e; exact .str x
  | _ => cases e
theorem rpm_get : ∀ {ks : List (Key × V)} {kvs : List (D × D)} {k : Key} {z : D}, RpM B A H (ks.map fun p => (kV p.1, p.2)) kvs → dGetS kvs k = some z → ∃ v, valV ks k = some v ∧ Rp B A H v z
  | [], _, k, z, r, h => by
    rw [List.map_nil] at r
    cases r
    cases h
  | p :: ks, _, k, z, r, h => by
    rw [List.map_cons] at r
    cases r with
    | @cons _ _ kd d vs ds h1 h2 t =>
      have e1 := sc_of h1
      unfold dGetS at h
      rw [List.find?_cons] at h
      by_cases e : p.1 = k
      · have e2 : decide (scK kd = some k) = true := decide_eq_true (by rw [e1, e])
        simp only [e2] at h
        cases h
        exact ⟨_, valV_pos e, h2⟩
      · have e2 : decide (scK kd = some k) = false := decide_eq_false (by rw [e1]; exact fun z => e (Option.some.inj z))
        simp only [e2] at h
        obtain ⟨v, e3, r⟩ := rpm_get (k := k) (z := z) t h
        exact ⟨v, by rw [valV_neg e]; exact e3, r⟩
theorem rpm_any : ∀ {ks : List (Key × V)} {kvs : List (D × D)} {k : Key}, RpM B A H (ks.map fun p => (kV p.1, p.2)) kvs → (kvs.any fun p => decide (scK p.1 = some k)) = ks.any fun kv => decide (kv.1 = k)
  | [], _, k, r => by
    rw [List.map_nil] at r
    cases r
    rfl
  | p :: ks, _, k, r => by
    rw [List.map_cons] at r
    cases r with
    | cons h1 h2 t =>
      rw [List.any_cons, List.any_cons, rpm_any t, sc_of h1]
      simp
theorem rpm_upd : ∀ {ks : List (Key × V)} {kvs : List (D × D)} {k : Key} {v : V} {z : D}, RpM B A H (ks.map fun p => (kV p.1, p.2)) kvs → Rp B A H v z →
    RpM B A H ((ks.map fun kv => if kv.1 = k then (kv.1, v) else kv).map fun p => (kV p.1, p.2)) (kvs.map fun p => if scK p.1 = some k then (p.1, z) else p)
  | [], _, k, v, z, r, hv => by
    rw [List.map_nil] at r
    cases r
    exact .nil
  | p :: ks, _, k, v, z, r, hv => by
    rw [List.map_cons] at r
    cases r with
    | cons h1 h2 t =>
      have e1 := sc_of h1
      rw [List.map_cons, List.map_cons, List.map_cons]
      by_cases e : p.1 = k
      · rw [if_pos e, if_pos (by rw [e1, e])]
        exact .cons h1 hv (rpm_upd t hv)
      · rw [if_neg e, if_neg (by rw [e1]; exact fun z => e (Option.some.inj z))]
        exact .cons h1 h2 (rpm_upd t hv)
theorem RpM.app : ∀ {v v' : List (V × V)} {d d' : List (D × D)}, RpM B A H v d → RpM B A H v' d' → RpM B A H (v ++ v') (d ++ d')
  | _, _, _, _, .nil, h => h
  | _, _, _, _, .cons a b t, h => .cons a b (RpM.app t h)
theorem RpM.len : ∀ {v : List (V × V)} {d : List (D × D)}, RpM B A H v d → v.length = d.length
  | _, _, .nil => rfl
  | _, _, .cons _ _ t => by simp [RpM.len t]
theorem rpm_put {ks : List (Key × V)} {kvs : List (D × D)} {k : Key} {v : V} {kd z : D} (r : RpM B A H (ks.map fun p => (kV p.1, p.2)) kvs) (hk : scK kd = some k) (hv : Rp B A H v z) :
    RpM B A H ((putK ks k v).map fun p => (kV p.1, p.2)) (dPutS kvs kd z k) := by
  unfold putK dPutS
  rw [rpm_any r]
  split
  · exact rpm_upd r hv
  · rw [List.map_append]
    exact r.app (.cons (sc_rp hk) hv .nil)
/-- a dict with tuple keys has no scalar ones -/
theorem dn_scalar : ∀ {ks : List (NestedKey × Addr × V)} {kvs : List (D × D)}, RpM B A H (ks.map fun p => (V.ref p.2.1, p.2.2)) kvs → ∀ p ∈ kvs, scK p.1 = none
  | [], _, r, p, m => by
    rw [List.map_nil] at r
    cases r
    cases m
  | q :: ks, _, r, p, m => by
    rw [List.map_cons] at r
    cases r with
    | cons h1 h2 t =>
      rcases List.mem_cons.mp m with rfl | m
      · cases h1 <;> rfl
      · exact dn_scalar t p m
end
section
variable {S : Type} [SI S] {X : Cx} {B : Bs} {E : XK} {e ei o value : Expr} {f fi : Ex S} {pos p2 : Pos} {td ty tv : TE}
def sDPutR (B : Bs) (td ty tv : TE) : TS := fun D σ H => tv σ H fun v H1 => td σ H1 fun x H2 => ty σ H2 fun y H3 => ∃ a kvs k, x = .ref a ∧ y = kV k ∧ kvs.length < sizeLine ∧
  (H3 a = some (.dK kvs) ∨ (kvs = [] ∧ ∃ o, H3 a = some (dN B a (o, [])))) ∧ D.nx σ (upd H3 a (.dK (putK kvs k v)))
theorem re_dK {pins : List (Addr × Obj)} {σ : L2.St} {H : Hp} {s : Shared} {a : Addr} {ob0 : Obj} (I : Inv X pins σ H s) (h : H a = some (dN B a (ob0, []))) : Inv X pins σ (upd H a (.dK [])) s := by
  obtain ⟨⟨z, _, xs, hp, ob, es, ep, _, ho, hx, hd, he, _⟩, ⟨o, hg⟩, _⟩ := I.hok a _ h
  cases hp
  have h0 : es.toList = [] := by rw [he]; rfl
  have he0 : es = #[] := by
    have := congrArg List.toArray h0
    simpa using this
  subst he0
  refine I.write (t' := s.toks) (h' := s.heap) (by rw [h]; trivial) (.inl rfl) (fun _ _ _ q => q) ⟨_, hg⟩ ?_
  exact ⟨Nat.zero_le _, z, [], .nil, ob, #[], ep, ho, hx, hd, fun _ he => by simp at he, .nil, List.nodup_nil⟩
theorem ps_dputR (hu : X.A.units + 1 < cLine) (ho : PE X o td) (hi : PE X ei ty) (hv : PE X value tv) (hs : swapsWith value (some (.Subscript o ei p2)) pos.line X.env = pure false) :
    PS X (.Assign [.Subscript o ei p2] value pos) (sDPutR B td ty tv) := by
  refine ⟨fun pins s σ H D I h => ?_⟩
  refine wpAny_Assign_Subscript (thn (hv.run pins s σ H _ I h) fun r s1 ⟨v, H1, I1, rv, q1⟩ => thn (ho.run pins s1 σ H1 _ I1 q1) fun u s2 ⟨x, H2, I2, rx, q2⟩ => thn (hi.run pins s2 σ H2 _ I2 q2) fun iv s3 ⟨y, H3, I3, ry, a, kvs, k, ex, ey, hl, hd, q3⟩ => ?_) hs
  subst ex
  obtain rfl : u = Value.ref a := rx
  subst ey
  rcases hd with hd | ⟨rfl, ob0, hd⟩
  · exact d_setItem hu I3 (.k hd hl) ry rv fun s4 I4 => ⟨σ, _, I4, q3⟩
  · have I3' := re_dK (B := B) I3 hd
    refine d_setItem hu I3' (.k upd_same hl) ry rv fun s4 I4 => ⟨σ, _, ?_, q3⟩
    rw [upd_upd] at I4
    exact I4
theorem putK_ne {ks : List (Key × V)} {k : Key} {v : V} : putK ks k v ≠ [] := by
  unfold putK
  split
  · rename_i h
    intro e
    rw [List.map_eq_nil_iff] at e
    subst e
    simp at h
  · simp
/-- dict[k] = e -/
def sPutS (i : Nat) (fi f : Ex S) : Sx S := fun ρ s => (f ρ s).bind fun y s1 => match ρ[i]? with
  | some (.m kvs) => (fi ρ s1).bind fun k s2 => (match y, k with
    | .d z, .d kd => (match scK kd with
      | some kk => if kvs.length < sizeLine ∧ (kvs.all fun p => (scK p.1).isSome) = true then .ok (.nx (ρ.set i (.m (dPutS kvs kd z kk)))) s2 else .bad
      | none => .bad)
    | _, _ => .bad)
  | _ => .bad
theorem ds_putS (c : Ctx X B) (i : Nat) {x : Expr} (hv : PE X x (tVar i)) (hi : DB X B E ei fi) (h : DE X B E e f) (hs : swapsWith e (some (.Subscript x ei p2)) pos.line X.env = pure false := by rfl) : DS X B E (.Assign [.Subscript x ei p2] e pos) (sPutS i fi f) := by
  refine ps_imp (ps_dputR (B := B) (by have := c.un; omega) hv hi h hs) fun Dd σ H ⟨G, own, ρ, s, R, q⟩ => ?_
  unfold sPutS at q
  refine tD.run R _ q.bnd fun y s1 v H1 q1 k1 r1 R1 => ?_
  cases z : ρ[i]? with
  | none => rw [z] at q1; exact q1.elim
  | some x =>
    rw [z] at q1
    have p := R1.sl i x z
    cases x with
    | m kvs =>
      obtain ⟨a, ho, hs, p⟩ := p
      refine ⟨_, hs, ?_⟩
      refine tB.run R1 _ q1.bnd fun kk s2 u H2 q2 k2 r2 R2 => ?_
      have hd : a ∉ G.dks := fun z => (R.fre i a ho).2 (R.wf1 a z)
      have rv := r1.kp (R1.kp k2)
      cases y with
      | r _ => exact q2.elim
      | o _ _ => exact q2.elim
      | p _ => exact q2.elim
      | f _ => exact q2.elim
      | d d =>
        cases kk with
        | r _ => exact q2.elim
        | o _ _ => exact q2.elim
        | p _ => exact q2.elim
        | f _ => exact q2.elim
        | d kd =>
          dsimp only at q2
          cases hk : scK kd with
          | none => rw [hk] at q2; exact q2.elim
          | some k =>
            rw [hk] at q2
            dsimp only at q2
            split at q2
            · rename_i hc
              have ey := sc_val r2 hk
              have hAll : ∃ ks : List (Key × V), ks.length = kvs.length ∧ (H2 a = some (.dK ks) ∨ (ks = [] ∧ ∃ o, H2 a = some (dN B a (o, [])))) ∧ RpM B (Av G own) H2 (ks.map fun p => (kV p.1, p.2)) kvs := by
                rcases p with ⟨ks, ⟨hx, _⟩, r⟩ | ⟨ks, hx, ek, r⟩
                · refine ⟨ks, ?_, .inl (k2.fr a _ hx hd), RpM.kp (R1.kp k2) r⟩
                  have := r.len
                  simpa using this
                · have h0 : kvs = [] := by
                    cases kvs with
                    | nil => rfl
                    | cons p t =>
                      have h1 := dn_scalar r p (.head _)
                      have h2 := hc.2
                      rw [List.all_cons, h1] at h2
                      cases h2
                  subst h0
                  obtain ⟨ob0, ks⟩ := ks
                  have hk0 : ks = [] := by
                    have := congrArg List.length ek
                    exact List.length_eq_zero_iff.mp (by simpa using this.symm)
                  subst hk0
                  exact ⟨[], rfl, .inr ⟨rfl, ob0, k2.fr a _ hx hd⟩, .nil⟩
              obtain ⟨ks, hlen, hx2, r'⟩ := hAll
              have kp : Kp (Av G own) H2 (upd H2 a (.dK (putK ks k v))) := by
                refine ⟨fun b ys ht h => ?_, fun b u h n => ?_⟩
                · rw [upd_ne]
                  · exact h
                  · rintro rfl
                    rcases hx2 with hx2 | ⟨_, _, hx2⟩ <;> rw [hx2] at h <;> cases h <;> cases ht
                · rw [upd_ne]
                  · exact h
                  · rintro rfl; exact n (.inr ⟨i, ho⟩)
              obtain ⟨R3, g3⟩ := R2.chg (x := .m (dPutS kvs kd d k)) (o := .dK (putK ks k v)) ho hs rfl (.inl ⟨_, ⟨upd_same, putK_ne⟩, RpM.kp kp (rpm_put r' hk rv)⟩)
              exact ⟨a, ks, k, rfl, ey, by rw [hlen]; exact hc.1, hx2, q2 own σ _ R3 ((Gone.of_stp (k1.trans k2)).trans R2 g3)⟩
            · exact q2.elim
    | _ => exact q1.elim
/-- dict[k] -/
def opDIx : D → D → Option D
  | .dict kvs, kd => (match scK kd with
    | some k => dGetS kvs k
    | none => none)
  | _, _ => none
theorem rt_dic {A N : Addr → Prop} {H : Hp} {x : V} {kvs : List (D × D)} (h : RtV B A N H x (.d (.dict kvs))) : ∃ a, x = .ref a ∧ ((∃ ks : List (Key × V), H a = some (.dK ks) ∧ RpM B A H (ks.map fun p => (kV p.1, p.2)) kvs) ∨
    ∃ ks : NL, H a = some (dN B a ks) ∧ kvs.map (fun p => keyD p.1) = ks.2.map (fun p => some p.1) ∧ RpM B A H (ks.2.map fun p => (V.ref p.2.1, p.2.2)) kvs) := by
  cases h with
  | of h =>
    cases h with
    | dic h n r => exact ⟨_, rfl, .inl ⟨_, h.1, r⟩⟩
    | dct h n e r => exact ⟨_, rfl, .inr ⟨_, h, e, r⟩⟩
  | dic h n r => exact ⟨_, rfl, .inl ⟨_, h.1, r⟩⟩
  | dct h n e r => exact ⟨_, rfl, .inr ⟨_, h, e, r⟩⟩
theorem od_dix : OpD B (fun x y H Q => ∃ a v, x = .ref a ∧ DGet H a y (some v) ∧ Q v H) opDIx := by
  intro A N H x y p q z Q fr hz hx hy k
  cases p with
  | dict kvs =>
    simp only [opDIx] at hz
    cases hk : scK q with
    | none => rw [hk] at hz; cases hz
    | some kk =>
      rw [hk] at hz
      have hz : dGetS kvs kk = some z := hz
      have ey := sc_val hy hk
      obtain ⟨a, rfl, h⟩ := rt_dic hx
      rcases h with ⟨ks, ha, r⟩ | ⟨ks, ha, e, r⟩
      · obtain ⟨v, e1, r1⟩ := rpm_get r hz
        refine ⟨a, v, rfl, ?_, k v H (Same.refl H) r1⟩
        rw [ey, ← e1]
        exact .k ha
      · exfalso
        unfold dGetS at hz
        cases hf : kvs.find? fun p => decide (scK p.1 = some kk) with
        | none => rw [hf] at hz; cases hz
        | some p =>
          have h1 := List.find?_some hf
          have h2 := dn_scalar r p (List.mem_of_find?_eq_some hf)
          rw [h2] at h1
          cases h1
  | _ => simp [opDIx] at hz
theorem de_dix {a b : Expr} {fa fb : Ex S} (c : Ctx X B) (ha : DB X B E a fa) (hb : DB X B E b fb) (hs : NoSl b := by intro _ _; rfl) : DE X B E (.Subscript a b pos) (eBin opDIx fa fb) :=
  de_bin od_dix (pe_dget (by have := c.un; omega) ha hb hs)
def nDisp (ks : List Str) (g : Exs S) : Nx S := fun ρ s => (g ρ s).bind fun ys s1 => match datas ys with
  | some ds => if ks.Nodup ∧ ds.length = ks.length ∧ ks.length ≤ 15 then .ok (.m ((ks.map PyData.str).zip ds)) s1 else .bad
  | none => .bad
def exsOf : List (Ex S) → Exs S
  | [] => aNil
  | f :: fs => aCons f (exsOf fs)
theorem pairs_of : ∀ {ks : List Str} {fs : List (Ex S)} {G : Gh} {own : Own} {ρ : Env} {s : S} {σ : Sg} {H : Hp} {Q : List (V × V) → Hp → Prop}, ks.length = fs.length → Rel B G own ρ s σ H →
    (exsOf fs ρ s).sat (fun ys s' => ∀ vs H', Stp G s' H H' → RvL B (Av G own) H' vs ys → Q ((ks.map V.str).zip vs) H') (fun e s' => ExW B G E e s') →
    tPairs ((ks.zip fs).map fun p => (tC (.str p.1), tD B E p.2)) σ H Q
  | [], [], G, own, ρ, s, σ, H, Q, _, R, q => q [] H R.refl .nil
  | k :: ks, f :: fs, G, own, ρ, s, σ, H, Q, hl, R, q => by
    refine tD.run R _ q.bnd fun y s1 v H1 q1 k1 r1 R1 => ?_
    refine pairs_of (Q := fun ps H3 => Q ((V.str k, v) :: ps) H3) (by simpa using hl) R1 ?_
    refine q1.bnd.mono fun ys s2 q2 vs H2 k2 r2 => ?_
    exact q2 (v :: vs) H2 (k1.trans k2) (.cons (r1.kp (R1.kp k2)) r2)
  | [], _ :: _, _, _, _, _, _, _, _, hl, _, _ => by simp at hl
  | _ :: _, [], _, _, _, _, _, _, _, hl, _, _ => by simp at hl
theorem merge_new : ∀ (ks : List (Key × V)) (acc : List (Key × V)), ((acc ++ ks).map (·.1)).Nodup → mergeK acc ks = acc ++ ks
  | [], acc, _ => by simp [mergeK]
  | p :: ks, acc, h => by
    show mergeK (putK acc p.1 p.2) ks = _
    have hn : valV acc p.1 = none := by
      cases e : valV acc p.1 with
      | none => rfl
      | some v =>
        have m := valV_in e
        rw [List.map_append, List.nodup_append] at h
        exact absurd rfl (h.2.2 _ m p.1 (by simp))
    rw [putK_new _ hn, merge_new ks (acc ++ [(p.1, p.2)]) (by simpa using h)]
    simp
theorem rpm_zip {A : Addr → Prop} {H : Hp} : ∀ {ks : List Str} {vs : List V} {ds : List D}, RpL B A H vs ds → vs.length = ks.length → RpM B A H ((((ks.map (Sum.inr : Str → Key)).zip vs)).map fun p => (kV p.1, p.2)) ((ks.map PyData.str).zip ds)
  | [], _, _, _, _ => .nil
  | k :: ks, _, _, .nil, h => by simp at h
  | k :: ks, _, _, .cons a t, h => .cons (.str k) a (rpm_zip t (by simpa using h))
theorem zip_str : ∀ (ks : List Str) (vs : List V), (ks.map V.str).zip vs = ((ks.map (Sum.inr : Str → Key)).zip vs).map fun kv => (kV kv.1, kv.2)
  | [], _ => rfl
  | k :: ks, [] => rfl
  | k :: ks, v :: vs => by
    rw [List.map_cons, List.zip_cons_cons, zip_str ks vs]
    rfl
theorem dn_disp {keys : List (Option Expr)} {values : List Expr} (ks : List Str) (fs : List (Ex S)) (hp : PPs X pos keys values ((ks.zip fs).map fun p => (tC (.str p.1), tD B E p.2))) (hl : ks.length = fs.length) (hall : keys.all (·.isSome) = true := by rfl) (hlk : keys.length = values.length := by rfl)
    (h0 : keys ≠ [] := by simp) (h15 : keys.length ≤ 15 := by decide) (hk0 : ks ≠ [] := by simp) : DN X B E (.Dict keys values pos) (nDisp ks (exsOf fs)) := by
  refine pe_imp (pe_disp hp hall hlk h0 h15) fun σ H Q ⟨G, own, ρ, s, R, q⟩ => fun p hn => ?_
  have k0 : Stp G s H (upd H p (.dK [])) := R.put hn
  have Rh := R.hid k0 hn (by rw [upd_same]; simp)
  refine pairs_of hl Rh ?_
  refine sat_ex (q.bnd.mono fun ys s1 q1 vs H1 k1 r1 => ?_) fun e s' h => h.hide
  cases hd : datas ys with
  | none => rw [hd] at q1; exact q1.elim
  | some ds =>
    rw [hd] at q1
    dsimp only at q1
    split at q1
    · rename_i hc
      have rl := r1.datas hd
      have hpd : p ∉ G.dks := fun z => by
        obtain ⟨o, e, _⟩ := R.dkT z
        rw [hn] at e; cases e
      have hp1 : H1 p = some (.dK []) := k1.fr p _ upd_same hpd
      have hvl : vs.length = ks.length := by rw [rl.len]; exact hc.2.1
      refine ⟨hp1, (ks.map (Sum.inr : Str → Key)).zip vs, zip_str ks vs, ?_, ?_⟩
      · rw [List.length_zip, List.length_map]; omega
      · have hm : mergeK [] ((ks.map (Sum.inr : Str → Key)).zip vs) = (ks.map (Sum.inr : Str → Key)).zip vs := by
          rw [merge_new _ [] ?_, List.nil_append]
          rw [List.nil_append, List.map_fst_zip (by rw [List.length_map]; omega)]
          exact List.Pairwise.map _ (fun a b h e => h (Sum.inr.inj e)) hc.1
        rw [hm]
        have kp : Kp (fun a => Av G own a ∨ a = p) H1 (upd H1 p (.dK ((ks.map (Sum.inr : Str → Key)).zip vs))) := by
          refine ⟨fun b ys ht h => ?_, fun b u h n => ?_⟩
          · rw [upd_ne]
            · exact h
            · rintro rfl; rw [hp1] at h; cases h; cases ht
          · rw [upd_ne]
            · exact h
            · rintro rfl; exact n (.inr rfl)
        have rl2 : RpL B (fun a => Av G own a ∨ a = p) H1 vs ds := rl.mono fun a z => by
          rcases z with z | rfl
          · exact (av_hide a).mpr (.inl z)
          · exact (av_hide a).mpr (.inr (by simp))
        refine q1 p _ ?_ hn (.inl ⟨_, ⟨upd_same, fun z => by have z := congrArg List.length z; rw [List.length_zip, List.length_map, hvl, Nat.min_self] at z; exact hk0 (List.length_eq_zero_iff.mp z)⟩, rpm_zip (RpL.kp kp rl2) hvl⟩)
        refine ⟨fun b o h n => ?_, k1.dk, SI.keep s1 H1 _ k1.rs (fun b hb => ?_) kp.tup⟩
        · rw [upd_ne]
          · exact k1.fr b o (by rw [upd_ne]; exact h; rintro rfl; rw [hn] at h; cases h) n
          · rintro rfl; rw [hn] at h; cases h
        · rw [upd_ne]
          rintro rfl
          have e := k1.dk
          rw [e] at hb
          exact hpd hb
    · exact q1.elim
end
end DL
namespace DL
open PySem PySem.Spec PySem.Calls PySem.W PyProof.Rows L2
def alikeL (ds : List PyData) : Bool := ds.all fun d => ds.all fun e => alike d e
def sortable (ds : List PyData) : Bool := (ds.all fun d => match d with | .tuple (_ :: _) => true | _ => false) || ds.all fun d => match d with | .none => false | .tuple _ => false | _ => true
theorem alike_of {ds : List PyData} (h : alikeL ds = true) : AllAlike ds := fun d hd e he => List.all_eq_true.mp (List.all_eq_true.mp h d hd) e he
theorem sortable_of {ds : List PyData} (h : sortable ds = true) : Sortable ds := by
  unfold sortable at h
  rw [Bool.or_eq_true] at h
  rcases h with h | h
  · refine .inl fun d hd => ?_
    have := List.all_eq_true.mp h d hd
    split at this
    · exact ⟨_, _, rfl⟩
    · cases this
  · refine .inr fun d hd => ?_
    have := List.all_eq_true.mp h d hd
    split at this
    · cases this
    · cases this
    · rename_i h1 h2
      exact ⟨h1, h2⟩
def sortD (ds : List PyData) : List PyData := ds.mergeSort (dataLe false id)
theorem depth_mem : ∀ {ds : List PyData} {k : Nat}, PyData.depthAll ds ≤ k → ∀ d ∈ ds, d.depth ≤ k
  | [], _, _, d, m => by cases m
  | x :: xs, k, h, d, m => by
    simp only [PyData.depthAll] at h
    have h := Nat.max_le.mp h
    rcases List.mem_cons.mp m with rfl | m
    · exact h.1
    · exact depth_mem h.2 d m
theorem each_zip {h : Heap} : ∀ {xs : List V} {ds : List PyData} {us : List Value} {as : List Addr}, ReadsAll h us ds as → Vals xs us → EachIs (fun (v : Value) (p : V × PyData) => RelV p.1 v) us (xs.zip ds) ∧ EachIs (fun (v : Value) (p : V × PyData) => ∃ as, Reads h v p.2 as) us (xs.zip ds)
  | [], [], _, _, r, v => by
    cases v
    exact ⟨.nil, .nil⟩
  | x :: xs, d :: ds, _, _, r, v => by
    cases v with
    | cons hv tv =>
      cases r with
      | cons hr tr =>
        obtain ⟨e1, e2⟩ := each_zip tr tv
        exact ⟨.cons hv e1, .cons ⟨_, hr⟩ e2⟩
  | [], d :: ds, _, _, r, v => by
    cases v
    cases r
  | x :: xs, [], _, _, r, v => by
    cases r
    cases v
theorem vals_each : ∀ {us : List Value} {ps : List (V × PyData)}, EachIs (fun (v : Value) (p : V × PyData) => RelV p.1 v) us ps → Vals (ps.map Prod.fst) us
  | _, _, .nil => .nil
  | _, _, .cons h t => .cons h (vals_each t)
theorem zip_snd {xs : List V} {ds : List PyData} (h : xs.length = ds.length) : (xs.zip ds).map Prod.snd = ds := List.map_snd_zip (by omega)
theorem RpL.of_mem {B : Bs} {A : Addr → Prop} {H : Hp} : ∀ {ps : List (V × PyData)}, (∀ p ∈ ps, Rp B A H p.1 p.2) → RpL B A H (ps.map Prod.fst) (ps.map Prod.snd)
  | [], _ => .nil
  | p :: ps, h => .cons (h p (.head _)) (RpL.of_mem fun q m => h q (.tail _ m))
theorem RpL.zip_mem {B : Bs} {A : Addr → Prop} {H : Hp} : ∀ {xs : List V} {ds : List PyData}, RpL B A H xs ds → ∀ p ∈ xs.zip ds, Rp B A H p.1 p.2
  | _, _, .nil, p, m => by cases m
  | _, _, .cons h t, p, m => by
    rw [List.zip_cons_cons] at m
    rcases List.mem_cons.mp m with rfl | m
    · exact h
    · exact RpL.zip_mem t p m
end DL
namespace DL
open PySem PySem.Spec PySem.Calls PySem.W PyProof.Rows L2
mutual
/-- the value v is the key k -/
inductive NK (K : PySem.W.Frag) (H : Hp) : V → NestedKey → Prop
  | non : NK K H .non .none
  | bl (b : Bool) : NK K H (.bl b) (.num (if b then 1 else 0))
  | int (i : Int) : NK K H (.int i) (.num i)
  | str (x : Str) : NK K H (.str x) (.text x)
  | tup {a : Addr} {xs : List V} {ks : List NestedKey} (h : Tp K H a xs) (r : NKs K H xs ks) : NK K H (.ref a) (.tup ks)
inductive NKs (K : PySem.W.Frag) (H : Hp) : List V → List NestedKey → Prop
  | nil : NKs K H [] []
  | cons {v : V} {k : NestedKey} {vs : List V} {ks : List NestedKey} (h : NK K H v k) (t : NKs K H vs ks) : NKs K H (v :: vs) (k :: ks)
end
section
variable {B : Bs} {A : Addr → Prop} {H : Hp}
mutual
theorem rp_nk : ∀ {v : V} {d : D} {k : NestedKey}, Rp B A H v d → keyD d = some k → NK B.K H v k
  | _, _, _, .non, e => by cases e; exact .non
  | _, _, _, .bl b, e => by
    simp only [keyD] at e
    cases e
    exact .bl b
  | _, _, _, .int i, e => by cases e; exact .int i
  | _, _, _, .str x, e => by cases e; exact .str x
  | _, _, _, .tup h r, e => by
    simp only [keyD, Option.map_eq_some_iff] at e
    obtain ⟨ks, e, rfl⟩ := e
    exact .tup h (rp_nks r e)
  | _, _, _, .lst .., e => by simp [keyD] at e
  | _, _, _, .dic .., e => by simp [keyD] at e
  | _, _, _, .dct .., e => by simp [keyD] at e
theorem rp_nks : ∀ {vs : List V} {ds : List D} {ks : List NestedKey}, RpL B A H vs ds → keyD.keyDs ds = some ks → NKs B.K H vs ks
  | _, _, _, .nil, e => by
    simp only [keyD.keyDs] at e
    cases e
    exact .nil
  | _, _, _, .cons (d := d) h t, e => by
    unfold keyD.keyDs at e
    split at e
    · rename_i k ks e1 e2
      cases e
      exact .cons (rp_nk h e1) (rp_nks t e2)
    · cases e
end
end
section
variable {X : Cx} {pins : List (Addr × Obj)} {σ : L2.St} {H : Hp} {s : Shared}
mutual
theorem NK.is (I : Inv X pins σ H s) : ∀ {v : V} {k : NestedKey} {u : Value}, NK X.K H v k → RelV v u → NestedIs s.heap k u
  | _, _, _, .non, r => by cases r; exact .none
  | _, _, _, .bl b, r => by cases r; exact .bool rfl
  | _, _, _, .int i, r => by obtain ⟨t, rfl⟩ := r; exact .int i t
  | _, _, _, .str x, r => by obtain ⟨t, rfl⟩ := r; exact .text x t
  | _, _, _, .tup h t, r => by
    cases r
    obtain ⟨its, rv, ⟨o, ho, hc, n, hd⟩, _⟩ := I.tuple h.sq
    exact .tup ho hc hd (NKs.all I t rv)
theorem NKs.all (I : Inv X pins σ H s) : ∀ {vs : List V} {ks : List NestedKey} {us : List Value}, NKs X.K H vs ks → Vals vs us → NestedAll s.heap ks us
  | _, _, _, .nil, r => by cases r; exact .nil
  | _, _, _, .cons h t, r => by
    cases r with
    | cons r rs => exact .cons (NK.is I h r) (NKs.all I t rs)
end
end
/-- at a stands a dict with these keys and values -/
structure DctN (B : Bs) (H : Hp) (a : Addr) (ks : List (NestedKey × Addr × V)) : Prop where
  at_ : (∃ o, H a = some (dN B a (o, ks))) ∨ (ks = [] ∧ H a = some (.dK []))
  key : ∀ p ∈ ks, NK B.K H (.ref p.2.1) p.1 ∧ p.1.depth ≤ 8
def atV (ks : List (NestedKey × Addr × V)) (k : NestedKey) : Option V := (ks.find? fun p => decide (p.1 = k)).map (·.2.2)
def putV (ks : List (NestedKey × Addr × V)) (k : NestedKey) (b : Addr) (v : V) : List (NestedKey × Addr × V) :=
  if (atV ks k).isSome then ks.map (fun p => if p.1 = k then (p.1, p.2.1, v) else p) else ks ++ [(k, b, v)]
abbrev PV (p : NestedKey × Addr × V) (q : NestedKey × Addr × Value) : Prop := p.1 = q.1 ∧ p.2.1 = q.2.1 ∧ RelV p.2.2 q.2.2
theorem pv_at : ∀ {ks : List (NestedKey × Addr × V)} {xs : List (NestedKey × Addr × Value)} (k : NestedKey), Paired PV ks xs → (∀ v, atV ks k = some v → ∃ b u, atKey xs k = some (b, u) ∧ RelV v u) ∧ (atV ks k = none → atKey xs k = none)
  | _, _, k, .nil => ⟨fun v h => (by cases h), fun _ => rfl⟩
  | _, _, k, .cons (a := p) (b := q) h t => by
    obtain ⟨e1, e2, e3⟩ := h
    obtain ⟨i1, i2⟩ := pv_at k t
    unfold atV atKey at *
    by_cases hk : p.1 = k
    · have hq : q.1 = k := e1 ▸ hk
      rw [List.find?_cons_of_pos (by simpa using hk), List.find?_cons_of_pos (by simpa using hq)]
      exact ⟨fun v hv => by cases hv; exact ⟨_, _, rfl, e3⟩, fun h => by cases h⟩
    · have hq : ¬ q.1 = k := fun z => hk (e1.trans z)
      rw [List.find?_cons_of_neg (by simpa using hk), List.find?_cons_of_neg (by simpa using hq)]
      exact ⟨i1, i2⟩
section
variable {X : Cx} {B : Bs} {pins : List (Addr × Obj)} {σ : L2.St} {H : Hp} {s : Shared}
theorem DctN.get (c : Ctx X B) (I : Inv X pins σ H s) {a : Addr} {ks : List (NestedKey × Addr × V)} (h : DctN B H a ks) : ∃ xs, Paired PV ks xs ∧ s.heap.DictOfH (nestedKind X.prog X.w) a xs ∧ (a == sysModules) = false ∧ ks.length ≤ sizeLine := by
  rcases h.at_ with ⟨_, hat⟩ | ⟨rfl, hat⟩
  case inr =>
    obtain ⟨_, z, vs, rel, o, es, ep, ho, hx, hd, _, he, _⟩ := I.hok a _ hat
    cases rel
    have he0 : es.toList = [] := by
      generalize es.toList = l at he
      cases he
      rfl
    exact ⟨[], .nil, ⟨o, es, ep, ho, hx, hd, he0, fun x hx => (by cases hx), List.nodup_nil⟩, z, Nat.zero_le _⟩
  obtain ⟨⟨z, hl, xs, hp, o, es, ep, _, ho, hx, hd, he, hn⟩, _⟩ := I.hok a _ hat
  rw [c.hP, c.hw] at he
  refine ⟨xs, hp, ⟨o, es, ep, ho, hx, hd, he, fun x hx => ?_, hn⟩, z, hl⟩
  have key : ∀ {ks : List (NestedKey × Addr × V)} {xs : List (NestedKey × Addr × Value)}, Paired PV ks xs → (∀ p ∈ ks, NK B.K H (.ref p.2.1) p.1 ∧ p.1.depth ≤ 8) → ∀ x ∈ xs, NestedIs s.heap x.1 (.ref x.2.1) ∧ x.1.depth ≤ 8 := by
    intro ks xs hp
    induction hp with
    | nil => intro _ x hx; cases hx
    | cons h t ih =>
      intro hk x hx
      rcases List.mem_cons.mp hx with rfl | hx
      · obtain ⟨e1, e2, e3⟩ := h
        have := hk _ (.head _)
        rw [e1, e2, c.hK] at this
        exact ⟨NK.is I this.1 rfl, this.2⟩
      · exact ih (fun p m => hk p (.tail _ m)) x hx
  exact key hp h.key x hx
end
/-- k in d, k not in d -/
def rInN (B : Bs) (neg : Bool) : R2 := fun x y H Q => ∃ b a ks k, x = .ref b ∧ y = .ref a ∧ DctN B H a ks ∧ NK B.K H (.ref b) k ∧ k.depth ≤ 8 ∧ Q (.bl (if neg then !(atV ks k).isSome else (atV ks k).isSome)) H
theorem op_inN {X : Cx} {B : Bs} (c : Ctx X B) : OpR X (compareOp .In) (rInN B false) := by
  intro pins s σ H x y v u Q I rx ry h
  obtain ⟨b, a, ks, k, rfl, rfl, hd, hk, hdp, q⟩ := h
  cases rx
  cases ry
  obtain ⟨xs, hp, hm, hz, _⟩ := hd.get c I
  rw [c.hK] at hk
  refine wpAny_in_heap (knd := nestedKind X.prog X.w) (by show X.A.units + 1 + 8 < cLine; have := c.un; omega) ⟨NK.is I hk rfl, hdp⟩ hz hm ?_
  have e : (atKey xs k).isSome = (atV ks k).isSome := by
    obtain ⟨h1, h2⟩ := pv_at k hp
    cases ha : atV ks k with
    | none => rw [h2 ha]; rfl
    | some v => obtain ⟨b, u, e, _⟩ := h1 v ha; rw [e]; rfl
  rw [e]
  exact ⟨.bl _, H, I.tok _, rfl, q⟩
theorem op_notInN {X : Cx} {B : Bs} (c : Ctx X B) : OpR X (compareOp .NotIn) (rInN B true) := by
  intro pins s σ H x y v u Q I rx ry h
  obtain ⟨b, a, ks, k, rfl, rfl, hd, hk, hdp, q⟩ := h
  cases rx
  cases ry
  obtain ⟨xs, hp, hm, hz, _⟩ := hd.get c I
  rw [c.hK] at hk
  show wpAny _ _ (do return Value.bool (!(← contains (.ref a) (.ref b)))) _ _ s
  refine wpAny_bind (wpAny_contains_heap (knd := nestedKind X.prog X.w) (by show X.A.units + 1 + 8 < cLine; have := c.un; omega) ⟨NK.is I hk rfl, hdp⟩ hz hm (wpAny_pure ?_))
  have e : (atKey xs k).isSome = (atV ks k).isSome := by
    obtain ⟨h1, h2⟩ := pv_at k hp
    cases ha : atV ks k with
    | none => rw [h2 ha]; rfl
    | some v => obtain ⟨b, u, e, _⟩ := h1 v ha; rw [e]; rfl
  rw [e]
  exact ⟨.bl _, H, I.tok _, rfl, q⟩
/-- d[k] -/
def rGetN (B : Bs) : R2 := fun x y H Q => ∃ b a ks k v, x = .ref a ∧ y = .ref b ∧ DctN B H a ks ∧ NK B.K H (.ref b) k ∧ k.depth ≤ 8 ∧ atV ks k = some v ∧ Q v H
theorem pe_dgetN {X : Cx} {B : Bs} {o i : Expr} {td ty : TE} {pos : Pos} (c : Ctx X B) (ho : PE X o td) (hi : PE X i ty) (hs : NoSl i) : PE X (.Subscript o i pos) (tOp (rGetN B) td ty) := by
  refine ⟨fun pins s σ H Q I h => ?_⟩
  refine subD_of PySem.F.slot_dict_getitem.lookup hs (thn (ho.run pins s σ H _ I h) fun u s1 ⟨x, H1, I1, rx, q1⟩ => thn (hi.run pins s1 σ H1 _ I1 q1) fun iv s2 ⟨y, H2, I2, ry, b, a, ks, k, v, ex, ey, hd, hk, hdp, hv, q⟩ => ?_)
  subst ex ey
  obtain rfl : u = Value.ref a := rx
  obtain rfl : iv = Value.ref b := ry
  obtain ⟨xs, hp, hm, hz, _⟩ := hd.get c I2
  rw [c.hK] at hk
  obtain ⟨b', w', e, rv⟩ := (pv_at k hp).1 v hv
  exact ⟨hm.typeIs, wpAny_getItem_heap (knd := nestedKind X.prog X.w) (by show X.A.units + 1 + 8 < cLine; have := c.un; omega) ⟨NK.is I2 hk rfl, hdp⟩ hm e ⟨v, H2, I2.tok _, rv, q⟩⟩
/-- d[k] = e -/
theorem pv_put {ks : List (NestedKey × Addr × V)} {xs : List (NestedKey × Addr × Value)} (hp : Paired PV ks xs) (k : NestedKey) (b : Addr) {v : V} {u : Value} (r : RelV v u) : Paired PV (putV ks k b v) (storedH xs k b u) := by
  have e : (atKey xs k).isSome = (atV ks k).isSome := by
    obtain ⟨h1, h2⟩ := pv_at k hp
    cases ha : atV ks k with
    | none => rw [h2 ha]; rfl
    | some v => obtain ⟨b, u, e, _⟩ := h1 v ha; rw [e]; rfl
  unfold putV storedH
  rw [e]
  split
  · clear e
    rename_i h
    clear h
    induction hp with
    | nil => exact .nil
    | cons h t ih =>
      rename_i p q _ _
      refine .cons ?_ ih
      obtain ⟨e1, e2, e3⟩ := h
      unfold putAt
      dsimp only
      by_cases hk : p.1 = k
      · rw [if_pos hk, if_pos (e1 ▸ hk)]; exact ⟨e1, e2, r⟩
      · rw [if_neg hk, if_neg (fun z => hk (e1.trans z))]; exact ⟨e1, e2, e3⟩
  · clear e
    rename_i h
    clear h
    induction hp with
    | nil => exact .cons ⟨rfl, rfl, r⟩ .nil
    | cons h t ih => exact .cons h ih
theorem putV_len (ks : List (NestedKey × Addr × V)) (k : NestedKey) (b : Addr) (v : V) : (putV ks k b v).length ≤ ks.length + 1 := by
  unfold putV
  split
  · rw [List.length_map]; exact Nat.le_succ _
  · rw [List.length_append]; exact Nat.le_refl _
def sDPutN (B : Bs) (td ty tv : TE) : TS := fun D σ H => tv σ H fun v H1 => td σ H1 fun x H2 => ty σ H2 fun y H3 => ∃ b a ks k, x = .ref a ∧ y = .ref b ∧ DctN B H3 a ks ∧ NK B.K H3 (.ref b) k ∧ k.depth ≤ 8 ∧ ks.length < sizeLine ∧
  ∀ o, D.nx σ (upd H3 a (dN B a (o, putV ks k b v)))
theorem ps_dputN {X : Cx} {B : Bs} {o ei value : Expr} {td ty tv : TE} {pos p2 : Pos} (c : Ctx X B) (ho : PE X o td) (hi : PE X ei ty) (hv : PE X value tv) (hs : swapsWith value (some (.Subscript o ei p2)) pos.line X.env = pure false) :
    PS X (.Assign [.Subscript o ei p2] value pos) (sDPutN B td ty tv) := by
  refine ⟨fun pins s σ H D I h => ?_⟩
  refine wpAny_Assign_Subscript (thn (hv.run pins s σ H _ I h) fun r s1 ⟨v, H1, I1, rv, q1⟩ => thn (ho.run pins s1 σ H1 _ I1 q1) fun u s2 ⟨x, H2, I2, rx, q2⟩ => thn (hi.run pins s2 σ H2 _ I2 q2) fun iv s3 ⟨y, H3, I3, ry, b, a, ks, k, ex, ey, hd, hk, hdp, hl, q3⟩ => ?_) hs
  subst ex ey
  obtain rfl : u = Value.ref a := rx
  obtain rfl : iv = Value.ref b := ry
  obtain ⟨xs, hp, hm, hz, hl2⟩ := hd.get c I3
  rw [c.hK] at hk
  have hlx : xs.length = ks.length := (Paired.length hp).symm
  refine wpAny_setItem_heap (knd := nestedKind X.prog X.w) (hsz := by rw [hlx]; exact hl2) (by show X.A.units + 1 + 8 < cLine; have := c.un; omega) ⟨NK.is I3 hk rfl, hdp⟩ hm fun h' hm' hsb => ?_
  obtain ⟨o', es, ep, ho', hx', hd', he', _, hn'⟩ := hm'
  refine ⟨σ, _, d_write (t' := s3.toks + (nestedKind X.prog X.w).draws k) I3 ?_ hsb ⟨_, ho'⟩ ?_, q3 o'⟩
  · rcases hd.at_ with ⟨_, e⟩ | ⟨_, e⟩ <;> rw [e] <;> trivial
  · refine ⟨⟨hz, by have := putV_len ks k b v; show (putV ks k b v).length ≤ sizeLine; omega, storedH xs k b r, pv_put hp k b rv, o', es, ep, rfl, ho', hx', hd', by rw [c.hP, c.hw]; exact he', hn'⟩, ⟨o', ho'⟩, fun h1 h2 pr k2 => ?_⟩
    obtain ⟨z, l, xs, pp, o, es, ep, eo, ho, r⟩ := pr
    exact ⟨z, l, xs, pp, o, es, ep, eo, k2 _ ho, r⟩
def tupKey (d : D) : Option NestedKey := match d with
  | .tuple _ => (match keyD d with
    | some k => if k.depth ≤ 8 then some k else none
    | none => none)
  | _ => none
theorem tupKey_some {d : D} {k : NestedKey} (h : tupKey d = some k) : keyD d = some k ∧ k.depth ≤ 8 ∧ ∃ ds, d = .tuple ds := by
  unfold tupKey at h
  split at h
  · split at h
    · rename_i e
      split at h
      · cases h; exact ⟨e, by assumption, _, rfl⟩
      · cases h
    · cases h
  · cases h
def allN (kvs : List (D × D)) : Bool := kvs.all fun p => (tupKey p.1).isSome
def dGetN (kvs : List (D × D)) (k : NestedKey) : Option D := (kvs.find? fun p => decide (keyD p.1 = some k)).map (·.2)
def dPutN (kvs : List (D × D)) (kd z : D) (k : NestedKey) : List (D × D) :=
  if (dGetN kvs k).isSome then kvs.map (fun p => if keyD p.1 = some k then (p.1, z) else p) else kvs ++ [(kd, z)]
section
variable {B : Bs} {A : Addr → Prop} {H : Hp}
/-- how a dict with tuple keys stands for pairs of data -/
def RN (B : Bs) (A : Addr → Prop) (H : Hp) (ks : List (NestedKey × Addr × V)) (kvs : List (D × D)) : Prop := kvs.map (fun p => keyD p.1) = ks.map (fun p => some p.1) ∧ RpM B A H (ks.map fun p => (V.ref p.2.1, p.2.2)) kvs
theorem RN.nil : RN B A H [] [] := ⟨rfl, .nil⟩
theorem rn_cons {p : NestedKey × Addr × V} {q : D × D} {ks : List (NestedKey × Addr × V)} {kvs : List (D × D)} : RN B A H (p :: ks) (q :: kvs) ↔ (keyD q.1 = some p.1 ∧ Rp B A H (.ref p.2.1) q.1 ∧ Rp B A H p.2.2 q.2) ∧ RN B A H ks kvs := by
  constructor
  · rintro ⟨e, r⟩
    rw [List.map_cons, List.map_cons] at e
    injection e with e1 e2
    rw [List.map_cons] at r
    cases r with
    | cons h1 h2 t => exact ⟨⟨e1, h1, h2⟩, e2, t⟩
  · rintro ⟨⟨e1, h1, h2⟩, e2, t⟩
    exact ⟨by rw [List.map_cons, List.map_cons, e1, e2], .cons h1 h2 t⟩
theorem RN.len {ks : List (NestedKey × Addr × V)} {kvs : List (D × D)} (h : RN B A H ks kvs) : kvs.length = ks.length := by
  have := congrArg List.length h.1
  simpa using this
theorem RN.kp {H' : Hp} (k : Kp A H H') {ks : List (NestedKey × Addr × V)} {kvs : List (D × D)} (h : RN B A H ks kvs) : RN B A H' ks kvs := ⟨h.1, RpM.kp k h.2⟩
theorem rn_ind {P : List (NestedKey × Addr × V) → List (D × D) → Prop} (h0 : P [] []) (h1 : ∀ p q ks kvs, keyD q.1 = some p.1 → Rp B A H (.ref p.2.1) q.1 → Rp B A H p.2.2 q.2 → RN B A H ks kvs → P ks kvs → P (p :: ks) (q :: kvs)) : ∀ {ks : List (NestedKey × Addr × V)} {kvs : List (D × D)}, RN B A H ks kvs → P ks kvs
  | [], [], _ => h0
  | [], _ :: _, h => by have := h.len; simp at this
  | _ :: _, [], h => by have := h.len; simp at this
  | p :: ks, q :: kvs, h => by
    obtain ⟨⟨a, b, c⟩, t⟩ := rn_cons.mp h
    exact h1 p q ks kvs a b c t (rn_ind h0 h1 t)
theorem rn_get {ks : List (NestedKey × Addr × V)} {kvs : List (D × D)} (h : RN B A H ks kvs) (k : NestedKey) : (∀ z, dGetN kvs k = some z → ∃ v, atV ks k = some v ∧ Rp B A H v z) ∧ (dGetN kvs k = none → atV ks k = none) := by
  refine rn_ind (P := fun ks kvs => (∀ z, dGetN kvs k = some z → ∃ v, atV ks k = some v ∧ Rp B A H v z) ∧ (dGetN kvs k = none → atV ks k = none)) ⟨fun z h => (by cases h), fun _ => rfl⟩ (fun p q ks kvs e r1 r2 t ih => ?_) h
  unfold dGetN atV at *
  by_cases hk : p.1 = k
  · have hq : keyD q.1 = some k := by rw [e, hk]
    rw [List.find?_cons_of_pos (by simpa using hq), List.find?_cons_of_pos (by simpa using hk)]
    exact ⟨fun z hz => (by cases hz; exact ⟨_, rfl, r2⟩), fun h => (by cases h)⟩
  · have hq : ¬ keyD q.1 = some k := fun z => hk (by rw [e] at z; exact Option.some.inj z)
    rw [List.find?_cons_of_neg (by simpa using hq), List.find?_cons_of_neg (by simpa using hk)]
    exact ih
theorem rn_some {ks : List (NestedKey × Addr × V)} {kvs : List (D × D)} (h : RN B A H ks kvs) (k : NestedKey) : (atV ks k).isSome = (dGetN kvs k).isSome := by
  obtain ⟨h1, h2⟩ := rn_get h k
  cases e : dGetN kvs k with
  | none => rw [h2 e]; rfl
  | some z => obtain ⟨v, e, _⟩ := h1 z e; rw [e]; rfl
theorem rn_put {ks : List (NestedKey × Addr × V)} {kvs : List (D × D)} (h : RN B A H ks kvs) {k : NestedKey} {kd z : D} {b : Addr} {v : V} (hk : keyD kd = some k) (hb : Rp B A H (.ref b) kd) (hv : Rp B A H v z) : RN B A H (putV ks k b v) (dPutN kvs kd z k) := by
  have e := rn_some h k
  unfold putV dPutN
  rw [e]
  split
  · clear e
    refine rn_ind (P := fun ks kvs => RN B A H (ks.map fun p => if p.1 = k then (p.1, p.2.1, v) else p) (kvs.map fun p => if keyD p.1 = some k then (p.1, z) else p)) RN.nil (fun p q ks kvs e r1 r2 t ih => ?_) h
    rw [List.map_cons, List.map_cons]
    refine rn_cons.mpr ⟨?_, ih⟩
    by_cases hk : p.1 = k
    · rw [if_pos hk, if_pos (by rw [e, hk])]; exact ⟨e, r1, hv⟩
    · rw [if_neg hk, if_neg (fun z => hk (by rw [e] at z; exact Option.some.inj z))]; exact ⟨e, r1, r2⟩
  · clear e
    refine rn_ind (P := fun ks kvs => RN B A H (ks ++ [(k, b, v)]) (kvs ++ [(kd, z)])) (rn_cons.mpr ⟨⟨hk, hb, hv⟩, RN.nil⟩) (fun p q ks kvs e r1 r2 t ih => rn_cons.mpr ⟨⟨e, r1, r2⟩, ih⟩) h
theorem rn_keys {ks : List (NestedKey × Addr × V)} {kvs : List (D × D)} (h : RN B A H ks kvs) (ha : allN kvs = true) : ∀ p ∈ ks, NK B.K H (.ref p.2.1) p.1 ∧ p.1.depth ≤ 8 := by
  revert ha
  refine rn_ind (P := fun ks kvs => allN kvs = true → ∀ p ∈ ks, NK B.K H (.ref p.2.1) p.1 ∧ p.1.depth ≤ 8) (fun _ p m => (by cases m)) (fun p q ks kvs e r1 r2 t ih ha x m => ?_) h
  unfold allN at ha ih
  rw [List.all_cons, Bool.and_eq_true] at ha
  rcases List.mem_cons.mp m with rfl | m
  · obtain ⟨k, hk⟩ := Option.isSome_iff_exists.mp ha.1
    obtain ⟨h1, h2, _⟩ := tupKey_some hk
    rw [e] at h1
    cases h1
    exact ⟨rp_nk r1 e, h2⟩
  · exact ih ha.2 x m
/-- a dict with tuple keys alone stands as one -/
theorem to_dct {a : Addr} {kvs : List (D × D)} (h : (∃ ks : List (Key × V), H a = some (.dK ks) ∧ RpM B A H (ks.map fun p => (kV p.1, p.2)) kvs) ∨ ∃ ks : NL, H a = some (dN B a ks) ∧ kvs.map (fun p => keyD p.1) = ks.2.map (fun p => some p.1) ∧ RpM B A H (ks.2.map fun p => (V.ref p.2.1, p.2.2)) kvs)
    (ha : allN kvs = true) : ∃ ks, DctN B H a ks ∧ RN B A H ks kvs := by
  rcases h with ⟨ks, e, r⟩ | ⟨ks, e, e2, r⟩
  · cases ks with
    | nil =>
      rw [List.map_nil] at r
      cases r
      exact ⟨[], ⟨.inr ⟨rfl, e⟩, fun p m => (by cases m)⟩, RN.nil⟩
    | cons p t =>
      exfalso
      rw [List.map_cons] at r
      cases r with
      | cons h1 h2 t =>
        unfold allN at ha
        rw [List.all_cons, Bool.and_eq_true] at ha
        obtain ⟨k, hk⟩ := Option.isSome_iff_exists.mp ha.1
        obtain ⟨_, _, ds, rfl⟩ := tupKey_some hk
        obtain ⟨k, v⟩ := p
        cases k <;> cases h1
  · exact ⟨ks.2, ⟨.inl ⟨ks.1, e⟩, rn_keys ⟨e2, r⟩ ha⟩, e2, r⟩
end
def opInN : D → D → Option D
  | kd, .dict kvs => (match tupKey kd with
    | some k => if allN kvs then some (.bool (dGetN kvs k).isSome) else none
    | none => none)
  | _, _ => none
def opNotInN : D → D → Option D
  | kd, .dict kvs => (match tupKey kd with
    | some k => if allN kvs then some (.bool (!(dGetN kvs k).isSome)) else none
    | none => none)
  | _, _ => none
def opDIxN : D → D → Option D
  | .dict kvs, kd => (match tupKey kd with
    | some k => if allN kvs then dGetN kvs k else none
    | none => none)
  | _, _ => none
theorem rt_key {B : Bs} {A N : Addr → Prop} {H : Hp} {x : V} {kd : D} {k : NestedKey} (h : RtV B A N H x (.d kd)) (hk : tupKey kd = some k) : ∃ b, x = .ref b ∧ NK B.K H (.ref b) k ∧ k.depth ≤ 8 := by
  obtain ⟨e, hd, ds, rfl⟩ := tupKey_some hk
  cases h with
  | of h =>
    have h : Rp B A H x (.tuple ds) := h
    have n := rp_nk h e
    cases h with
    | tup h r => exact ⟨_, rfl, n, hd⟩
theorem od_inN {B : Bs} : OpD B (rInN B false) opInN := by
  intro A N H x y p q z Q fr hz hx hy k
  unfold opInN at hz
  split at hz
  · split at hz
    · rename_i kk hkk
      split at hz
      · rename_i ha
        cases hz
        obtain ⟨b, rfl, hn, hd⟩ := rt_key hx hkk
        obtain ⟨a, rfl, hh⟩ := rt_dic hy
        obtain ⟨ks, hD, hR⟩ := to_dct hh ha
        refine ⟨b, a, ks, kk, rfl, rfl, hD, hn, hd, ?_⟩
        rw [rn_some hR]
        exact k _ H (Same.refl H) (.bl _)
      · cases hz
    · cases hz
  · cases hz
theorem od_notInN {B : Bs} : OpD B (rInN B true) opNotInN := by
  intro A N H x y p q z Q fr hz hx hy k
  unfold opNotInN at hz
  split at hz
  · split at hz
    · rename_i kk hkk
      split at hz
      · rename_i ha
        cases hz
        obtain ⟨b, rfl, hn, hd⟩ := rt_key hx hkk
        obtain ⟨a, rfl, hh⟩ := rt_dic hy
        obtain ⟨ks, hD, hR⟩ := to_dct hh ha
        refine ⟨b, a, ks, kk, rfl, rfl, hD, hn, hd, ?_⟩
        rw [rn_some hR]
        exact k _ H (Same.refl H) (.bl _)
      · cases hz
    · cases hz
  · cases hz
theorem od_dixN {B : Bs} : OpD B (rGetN B) opDIxN := by
  intro A N H x y p q z Q fr hz hx hy k
  unfold opDIxN at hz
  split at hz
  · split at hz
    · rename_i kk hkk
      split at hz
      · rename_i ha
        obtain ⟨b, rfl, hn, hd⟩ := rt_key hy hkk
        obtain ⟨a, rfl, hh⟩ := rt_dic hx
        obtain ⟨ks, hD, hR⟩ := to_dct hh ha
        obtain ⟨v, hv, rv⟩ := (rn_get hR kk).1 z hz
        exact ⟨b, a, ks, kk, v, rfl, rfl, hD, hn, hd, hv, k v H (Same.refl H) rv⟩
      · cases hz
    · cases hz
  · cases hz
section
variable {S : Type} [SI S] {X : Cx} {B : Bs} {E : XK} {e ei a b : Expr} {f fi fa fb : Ex S} {pos p2 : Pos}
theorem cd_inN (c : Ctx X B) : CmpD X B .In opInN := ⟨_, op_inN c, od_inN⟩
theorem cd_notInN (c : Ctx X B) : CmpD X B .NotIn opNotInN := ⟨_, op_notInN c, od_notInN⟩
theorem de_dixN (c : Ctx X B) (ha : DB X B E a fa) (hb : DB X B E b fb) (hs : NoSl b := by intro _ _; rfl) : DE X B E (.Subscript a b pos) (eBin opDIxN fa fb) :=
  de_bin od_dixN (pe_dgetN c ha hb hs)
/-- d[k] = e, d one's own -/
def sPutN (i : Nat) (fi f : Ex S) : Sx S := fun ρ s => (f ρ s).bind fun y s1 => match ρ[i]? with
  | some (.m kvs) => (fi ρ s1).bind fun k s2 => (match y, k with
    | .d z, .d kd => (match tupKey kd with
      | some kk => if kvs.length < sizeLine ∧ allN kvs = true then .ok (.nx (ρ.set i (.m (dPutN kvs kd z kk)))) s2 else .bad
      | none => .bad)
    | _, _ => .bad)
  | _ => .bad
theorem ds_putN (c : Ctx X B) (i : Nat) {x : Expr} (hv : PE X x (tVar i)) (hi : DE X B E ei fi) (h : DE X B E e f) (hs : swapsWith e (some (.Subscript x ei p2)) pos.line X.env = pure false := by rfl) : DS X B E (.Assign [.Subscript x ei p2] e pos) (sPutN i fi f) := by
  refine ps_imp (ps_dputN c hv hi h hs) fun Dd σ H ⟨G, own, ρ, s, R, q⟩ => ?_
  unfold sPutN at q
  refine tD.run R _ q.bnd fun y s1 v H1 q1 k1 r1 R1 => ?_
  cases z : ρ[i]? with
  | none => rw [z] at q1; exact q1.elim
  | some x =>
    rw [z] at q1
    have p := R1.sl i x z
    cases x with
    | m kvs =>
      obtain ⟨a, ho, hs, p⟩ := p
      refine ⟨_, hs, ?_⟩
      refine tD.run R1 _ q1.bnd fun kk s2 u H2 q2 k2 r2 R2 => ?_
      have hd : a ∉ G.dks := fun z => (R.fre i a ho).2 (R.wf1 a z)
      have rv := r1.kp (R1.kp k2)
      cases y with
      | r _ => exact q2.elim
      | o _ _ => exact q2.elim
      | p _ => exact q2.elim
      | f _ => exact q2.elim
      | d d =>
        cases kk with
        | r _ => exact q2.elim
        | o _ _ => exact q2.elim
        | p _ => exact q2.elim
        | f _ => exact q2.elim
        | d kd =>
          dsimp only at q2
          cases hk : tupKey kd with
          | none => rw [hk] at q2; exact q2.elim
          | some k =>
            rw [hk] at q2
            dsimp only at q2
            split at q2
            · rename_i hc
              obtain ⟨ek, hdp, ds, rfl⟩ := tupKey_some hk
              have p2 : (∃ ks : List (Key × V), H2 a = some (.dK ks) ∧ RpM B (Av G own) H2 (ks.map fun p => (kV p.1, p.2)) kvs) ∨ ∃ ks : NL, H2 a = some (dN B a ks) ∧ kvs.map (fun p => keyD p.1) = ks.2.map (fun p => some p.1) ∧ RpM B (Av G own) H2 (ks.2.map fun p => (V.ref p.2.1, p.2.2)) kvs := by
                rcases p with ⟨ks, ⟨hx, _⟩, r⟩ | ⟨ks, hx, ek, r⟩
                · exact .inl ⟨ks, k2.fr a _ hx hd, RpM.kp (R1.kp k2) r⟩
                · exact .inr ⟨ks, k2.fr a _ hx hd, ek, RpM.kp (R1.kp k2) r⟩
              obtain ⟨ks, hD, hR⟩ := to_dct p2 hc.2
              have r2 : Rp B (Av G own) H2 u (.tuple ds) := r2
              have hn := rp_nk r2 ek
              obtain ⟨b, rfl⟩ : ∃ b, u = .ref b := by
                cases r2 with
                | tup h r => exact ⟨_, rfl⟩
              have hnot : ∀ ys, isTu ys = true → H2 a ≠ some ys := fun ys ht h => by
                rcases hD.at_ with ⟨_, e⟩ | ⟨_, e⟩ <;> rw [e] at h <;> cases h <;> cases ht
              have kp : ∀ ob, Kp (Av G own) H2 (upd H2 a (dN B a (ob, putV ks k b v))) := fun ob => by
                refine ⟨fun b ys ht h => ?_, fun b u h n => ?_⟩
                · rw [upd_ne]
                  · exact h
                  · rintro rfl
                    exact hnot _ ht h
                · rw [upd_ne]
                  · exact h
                  · rintro rfl; exact n (.inr ⟨i, ho⟩)
              refine ⟨b, a, ks, k, rfl, rfl, hD, hn, hdp, by rw [← hR.len]; exact hc.1, fun ob => ?_⟩
              have hP := (rn_put hR ek r2 rv).kp (kp ob)
              obtain ⟨R3, g3⟩ := R2.chg (x := .m (dPutN kvs (.tuple ds) d k)) (o := dN B a (ob, putV ks k b v)) ho hs rfl (.inr ⟨(ob, putV ks k b v), upd_same, hP.1, hP.2⟩)
              exact q2 own σ _ R3 ((Gone.of_stp (k1.trans k2)).trans R2 g3)
            · exact q2.elim
    | _ => exact q1.elim
end
section
variable {X : Cx} {B : Bs} {pins : List (Addr × Obj)} {σ : L2.St} {H : Hp} {s : Shared} {d : Addr} {ks : NL}
theorem dN_raw (I : Inv X pins σ H s) (h : H d = some (dN B d ks)) : (d == sysModules) = false ∧ s.heap.get? d = some ks.1 ∧ ks.1.ExactDict ∧ ∃ (es : Array DictEntry) (ep : Nat), ks.1.data = .dict es ep ∧ es.size = ks.2.length ∧
    ∀ (i : Nat) (p : NestedKey × Addr × V), ks.2[i]? = some p → ∃ en : DictEntry, es[i]? = some en ∧ en.key = .ref p.2.1 ∧ RelV p.2.2 en.val := by
  obtain ⟨⟨z, hl, xs, hp, o, es, ep, rfl, ho, hx, hd, he, hn⟩, _⟩ := I.hok d _ h
  refine ⟨z, ho, hx, es, ep, hd, ?_, fun i p e => ?_⟩
  · have l1 : es.size = xs.length := size_of_entries he
    have l2 : ks.2.length = xs.length := Paired.length hp
    omega
  · obtain ⟨b, hb, e1, e2, e3⟩ := paired_get hp e
    have q := entry_at he i
    rw [hb] at q
    exact ⟨_, q, by show Value.ref b.2.1 = _; rw [e2], e3⟩
end
/-- the keys of a dict that is not empty -/
def iKeysN {S : Type} (f : Ex S) : Lx S := fun ρ s => (f ρ s).bind fun y s1 => match y with
  | .d (.dict kvs) => if allN kvs = true ∧ kvs ≠ [] then .ok (kvs.map (·.1)) s1 else .bad
  | _ => .bad
section
variable {S : Type} [SI S] {X : Cx} {B : Bs} {E : XK} {e tg : Expr} {f : Ex S} {G : Gh} {own : Own} {ρ : Env} {s : S} {σ : Sg} {H1 : Hp}
theorem dct_ne {A : Addr → Prop} {H : Hp} {a : Addr} {kvs : List (D × D)} (h : (∃ ks : List (Key × V), H a = some (.dK ks) ∧ RpM B A H (ks.map fun p => (kV p.1, p.2)) kvs) ∨ ∃ ks : NL, H a = some (dN B a ks) ∧ kvs.map (fun p => keyD p.1) = ks.2.map (fun p => some p.1) ∧ RpM B A H (ks.2.map fun p => (V.ref p.2.1, p.2.2)) kvs)
    (ha : allN kvs = true) (hne : kvs ≠ []) : ∃ ks : NL, H a = some (dN B a ks) ∧ RN B A H ks.2 kvs := by
  obtain ⟨l, hD, hR⟩ := to_dct h ha
  rcases hD.at_ with ⟨o, e⟩ | ⟨rfl, _⟩
  · exact ⟨(o, l), e, hR⟩
  · exact absurd (List.length_eq_zero_iff.mp hR.len) hne
end
end DL
namespace DL
open PySem PySem.Spec PySem.Calls PySem.W PyProof.Rows L2
def rOrdD (K : PySem.W.Frag) (f : PyData → PyData → Bool) : R2 := fun x y H Q => ∃ d e, Dp K H x d ∧ Dp K H y e ∧ alike d e = true ∧ d ≠ .none ∧ d.depth ≤ 60 ∧ Q (.bl (f d e)) H
theorem op_ltD {X : Cx} (hu : X.A.units + 65 < cLine) : OpR X (compareOp .Lt) (rOrdD X.K dataLt) := by
  intro pins s σ H x y v u Q I rx ry h
  obtain ⟨d, e, hd, he, ha, hn, hdp, q⟩ := h
  obtain ⟨as, r1⟩ := Dp.reads I d x v hd rx
  obtain ⟨bs, r2⟩ := Dp.reads I e y u he ry
  exact lt_data r1 r2 ha hn (by have := Nat.min_le_left d.depth e.depth; omega) ⟨.bl _, H, I, rfl, q⟩
def opOrdD (f : PyData → PyData → Bool) : D → D → Option D
  | .tuple a, .tuple b => if alike (.tuple a) (.tuple b) && (PyData.tuple a).canLay0 && (PyData.tuple b).canLay0 && decide ((PyData.tuple a).depth ≤ 60) then some (.bool (f (.tuple a) (.tuple b))) else none
  | _, _ => none
theorem od_ordD {B : Bs} {f : PyData → PyData → Bool} : OpD B (rOrdD B.K f) (opOrdD f) := by
  intro A N H x y p q z Q fr hz hx hy k
  unfold opOrdD at hz
  split at hz
  · split at hz
    · rename_i hc
      cases hz
      simp only [Bool.and_eq_true] at hc
      exact ⟨_, _, rt_dp hx hc.1.1.2, rt_dp hy hc.1.2, hc.1.1.1, by simp, of_decide_eq_true hc.2, k _ H (Same.refl H) (.bl _)⟩
    · cases hz
  · cases hz
theorem cd_ltD {X : Cx} {B : Bs} (c : Ctx X B) : CmpD X B .Lt (opOrdD dataLt) := ⟨_, op_ltD c.u65, by rw [← c.hK]; exact od_ordD⟩
end DL
namespace DL
open PySem PySem.Spec PySem.Calls PySem.W PyProof.Rows L2
/-- d == {} -/
def eDEmp {S : Type} (f : Ex S) : Ex S := fun ρ s => (f ρ s).bind fun y s1 => match y with
  | .d (.dict kvs) => .ok (.d (.bool kvs.isEmpty)) s1
  | _ => .bad
end DL
namespace DL
open PySem PySem.Spec PySem.Calls PySem.W PyProof.Rows L2
/-- the values of a dict that is not empty -/
def iValsN {S : Type} (f : Ex S) : Lx S := fun ρ s => (f ρ s).bind fun y s1 => match y with
  | .d (.dict kvs) => if allN kvs = true ∧ kvs ≠ [] then .ok (kvs.map (·.2)) s1 else .bad
  | _ => .bad
end DL
namespace DL
open PySem PySem.Spec PySem.Calls PySem.W PyProof.Rows L2
theorem src_keys {prog : Program} {w : World} {d : Addr} {ob : Obj} {es : Array DictEntry} {ep : Nat} (hdm : (d == sysModules) = false) (hx : ob.ExactDict) (hdat : ob.data = .dict es ep) : KdlSrc prog w "dict" d d es.size (fun i v => ∃ en : DictEntry, es[i]? = some en ∧ v = en.key) (fun h => h.get? d = some ob) where
  type := fun s h => ⟨ob, h, hx.1⟩
  there := fun h e => ⟨Heap.lt_size e, Heap.lt_size e⟩
  keep := fun h h' e k => k d (.inl rfl) ob e
  notList := by decide
  notTuple := by decide
  hint := fun A E s Q h q => kdl_hint_dict ⟨ob, h, hx.1⟩ q
  iter := fun A s hh h => by
    have hne : d ≠ s.heap.objs.size := Nat.ne_of_lt (Heap.lt_size h)
    refine ⟨_, fun i h => h.IsKeyIter s.heap.objs.size d i es.size ep ∧ h.get? d = some ob, fun E Q q => iter_keys hdm h hx hdat q, ?_, ⟨⟨_, Heap.get?_push_size _ rfl, rfl, rfl⟩, Heap.get?_push_of_some _ h⟩⟩
    refine ⟨fun b hb => ?_, fun i h h' st k => ⟨st.1.at fun o e => k _ List.mem_cons_self o e, k d (List.mem_cons_of_mem _ List.mem_cons_self) _ st.2⟩, fun i s1 Q E hi st hQ => ?_, fun s1 Q E st hQ => ?_, fun i s1 Q E st hq => wpAny_pyIter_keyiter st.1 hq⟩
    · rw [List.mem_singleton.mp hb]
      exact List.mem_cons_self
    · have he : es[i]? = some es[i] := Array.getElem?_eq_getElem hi
      exact next_key_item st.1 st.2 hdat rfl he fun h' st' sb => hQ _ h' s1.toks ⟨_, he, rfl⟩ ⟨st', (sb.2 d hne).trans st.2⟩ fun b o hb q => (sb.2 b (fun z => hb (by rw [z]; exact List.mem_cons_self))).trans q
    · exact next_key_end hh st.1 st.2 hdat rfl (Nat.le_refl _) fun h' eb => hQ h' s1.toks fun b o hb q => eb b o (fun z => hb (by rw [z]; exact List.mem_cons_self)) q
section
variable {prog : Program} {w : World} {A : Around} {E : Value → Shared → Prop} {s : Shared} {β : Type}
theorem sorted_src {a d : Addr} {T : String} {n : Nat} {P : Nat → Value → Prop} {OK : Heap → Prop} {bs : List β} {enc : β → PyData} {R : Value → β → Prop} {Q : Value → Shared → Prop} (K : KdlSrc prog w T a d n P OK) (hh : A.handled = none) (hok : OK s.heap) (hn : n ≤ sizeLine)
    (hE : ∀ acc : Array Value, ItemsOf P acc n → EachIs R acc.toList bs ∧ EachIs (fun v b => ∃ as, Reads s.heap v (enc b) as) acc.toList bs) (hal : AllAlike (bs.map enc)) (hk : Sortable (bs.map enc)) (hu : ∀ b, b ∈ bs → A.units + 2 + (enc b).depth < cLine)
    (h : ∀ (h' : Heap) (tk : Nat) (b : Addr) (out : List Value) (m : Nat), (∀ c u, s.heap.get? c = some u → h'.get? c = some u) → s.heap.get? b = none → h'.get? b = some (seqObj "list" out.toArray m) → out.length = bs.length →
      EachIs R out (bs.mergeSort (dataLe false enc)) → Q (.ref b) { s with heap := h', toks := tk }) : wpAny (model prog w) A (call (.builtin "sorted") [.ref a]) Q E s := by
  refine call_function_entry_kw kind_sorted plain_sorted entry_sorted (args_sorted1 _) ?_
  unfold Builtin.«sorted»
  refine wpAny_bind (m := checkCount "sorted" 1 1 _) (wpAny_pure (wpAny_bind (kdu_collect (A := A.in1) K hh hok hn fun h1 tk acc k1 hacc => ?_)))
  obtain ⟨e, er⟩ := hE acc hacc
  have hL : acc.toList.length ≤ sizeLine := by rw [Array.length_toList, hacc.1]; exact hn
  generalize acc.toList = vs at e er hL ⊢
  refine wpAny_bind (wpAny_newList ?_ hL)
  have hb : s.heap.get? h1.objs.size = none := by
    cases q : s.heap.get? h1.objs.size with
    | none => rfl
    | some u => exact absurd (Heap.lt_size (k1 _ _ q)) (Nat.lt_irrefl _)
  have hnew : (h1.push (seqObj "list" vs.toArray 0)).get? h1.objs.size = some (seqObj "list" vs.toArray 0) := Heap.get?_push_size _ rfl
  have k2 : ∀ c u, s.heap.get? c = some u → (h1.push (seqObj "list" vs.toArray 0)).get? c = some u := fun c u q => Heap.get?_push_of_some _ (k1 c u q)
  have hne : ∀ c u, s.heap.get? c = some u → c ≠ h1.objs.size := fun c u q z => by rw [z, hb] at q; cases q
  have k3 : ∀ c u, s.heap.get? c = some u → (sortingHeap (h1.push (seqObj "list" vs.toArray 0)) h1.objs.size vs).get? c = some u := fun c u q => sortingHeap_old (hne c u q) (k2 c u q)
  have er' : EachIs (fun v b => ∃ as, Reads (sortingHeap (h1.push (seqObj "list" vs.toArray 0)) h1.objs.size vs) v (enc b) as) vs bs := er.mono fun _ _ ⟨as, r⟩ => ⟨as, PyProof.Rows.Reads.keeps k3 r⟩
  refine wpAny_bind (wpAny_holding (wpAny_call_entry slot_list_sort ⟨_, hnew, rfl⟩ entry_list_sort ?_ (args_list_sort _)))
  refine list_sort_vals (κ := dataKind (sortingHeap (h1.push (seqObj "list" vs.toArray 0)) h1.objs.size vs) (bs.map enc)) hnew (SortsAt.data (s := { s with heap := sortingHeap (h1.push (seqObj "list" vs.toArray 0)) h1.objs.size vs, toks := tk })
    (each_map (R := fun v d => ∃ as, Reads (sortingHeap (h1.push (seqObj "list" vs.toArray 0)) h1.objs.size vs) v d as) enc er') hal hk (bound_map (A := A.in1.in1) hu)) hL ?_
  refine ⟨.none, rfl, wpAny_pure ⟨_, rfl, ?_⟩⟩
  obtain ⟨m, hm⟩ := sortedHeap_at (vs := vs) (out := (sortVals (dataKind (sortingHeap (h1.push (seqObj "list" vs.toArray 0)) h1.objs.size vs) (bs.map enc)) false vs vs).toArray) hnew
  refine h _ tk _ _ m (fun c u q => ?_) hb hm (by rw [sortVals_length false rfl]; exact e.length) (sortVals_data false e er' hal)
  rw [sortedHeap_old (hne c u q) (Heap.lt_size (k2 c u q))]
  exact k2 c u q
end
def keyVs (ks : NL) : List V := ks.2.map fun p => V.ref p.2.1
def rSortedN (B : Bs) : List V → Hp → VK → Prop := fun vs H Q => ∃ a ks ds, vs = [V.ref a] ∧ H a = some (dN B a ks) ∧ DpAll B.K H (keyVs ks) ds ∧ AllAlike ds ∧ Sortable ds ∧ PyData.depthAll ds ≤ 60 ∧ ds.length ≤ sizeLine ∧
  ∀ p ys, H p = none → ys = (((keyVs ks).zip ds).mergeSort (dataLe false Prod.snd)).map Prod.fst → Q (.ref p) (upd H p (.lst ys))
theorem cr_sortedN {X : Cx} {B : Bs} (c : Ctx X B) : CallR X (.builtin "sorted") (rSortedN B) := by
  intro pins s σ H vs us Q I r h
  obtain ⟨a, ks, ds, rfl, hat, hdp, hal, hk, hdep, hsz, q⟩ := h
  rw [c.hK] at hdp
  rw [Vals.ref1 r]
  obtain ⟨hm, hgd, hx, es, ep, hdt, hes, ent⟩ := dN_raw I hat
  have rv : Vals (keyVs ks) (ks.2.map fun p => Value.ref p.2.1) := by
    unfold keyVs
    generalize ks.2 = l
    induction l with
    | nil => exact .nil
    | cons p l ih => exact .cons rfl ih
  obtain ⟨as, rd⟩ := Dp.readsAll I ds (keyVs ks) _ hdp rv
  obtain ⟨e1, e2⟩ := each_zip rd rv
  have hlen : (keyVs ks).length = ds.length := by
    have h3 : ∀ {xs : List V} {ds : List PyData}, DpAll X.K H xs ds → xs.length = ds.length := by
      intro xs ds h
      induction xs generalizing ds with
      | nil => cases h; rfl
      | cons x xs ih => cases h with | cons _ t => simp [ih t]
    exact h3 hdp
  have hkl : (keyVs ks).length = ks.2.length := List.length_map _
  have hsnd := zip_snd hlen
  refine sorted_src (bs := (keyVs ks).zip ds) (enc := Prod.snd) (R := fun (v : Value) (p : V × PyData) => RelV p.1 v) (src_keys hm hx hdt) (I.ok.hd c.calm) hgd (by omega) (fun acc hacc => ?_) (by rw [hsnd]; exact hal) (by rw [hsnd]; exact hk) (fun b hb => ?_) fun h' tk b out m k0 hb hmm hol eo => ?_
  · have : acc.toList = ks.2.map fun p => Value.ref p.2.1 := by
      apply List.ext_getElem?
      intro j
      rw [Array.getElem?_toList, List.getElem?_map]
      by_cases hj : j < ks.2.length
      · have hj2 : j < acc.size := by rw [hacc.1]; omega
        obtain ⟨en, he, hv⟩ := hacc.2 j acc[j] (Array.getElem?_eq_getElem hj2)
        obtain ⟨en2, he2, hkey, _⟩ := ent j ks.2[j] (List.getElem?_eq_getElem hj)
        rw [he] at he2
        cases he2
        rw [Array.getElem?_eq_getElem hj2, List.getElem?_eq_getElem hj, hv, hkey]
        rfl
      · rw [List.getElem?_eq_none (by omega), Array.getElem?_eq_none (by rw [hacc.1]; omega)]
        rfl
    rw [this]
    exact ⟨e1, e2⟩
  · have : b.2 ∈ ds := by rw [← hsnd]; exact List.mem_map.mpr ⟨b, hb, rfl⟩
    have := depth_mem hdep _ this
    have := c.un
    omega
  · have hH : H b = none := I.hok.gone hb
    have hv := vals_each eo
    refine ⟨.ref b, _, I.laidN (t' := tk) (o := .lst ((((keyVs ks).zip ds).mergeSort (dataLe false Prod.snd)).map Prod.fst)) k0 hb hH ⟨?_, out, m, hv, hmm⟩, rfl, q b _ hH rfl⟩
    rw [List.length_map, List.length_mergeSort, List.length_zip]
    omega
def oSortedN : List D → Option D
  | [.dict kvs] => if allN kvs = true ∧ kvs ≠ [] ∧ (alikeL (kvs.map (·.1)) && sortable (kvs.map (·.1)) && PyData.canLayAll0 (kvs.map (·.1)) && decide (PyData.depthAll (kvs.map (·.1)) ≤ 60) && decide ((kvs.map (·.1)).length ≤ sizeLine)) = true then some (.list (sortD (kvs.map (·.1)))) else none
  | _ => none
theorem rn_keysRp {B : Bs} {A : Addr → Prop} {H : Hp} : ∀ {l : List (NestedKey × Addr × V)} {kvs : List (D × D)}, RN B A H l kvs → RpL B A H (l.map fun p => V.ref p.2.1) (kvs.map (·.1)) := by
  intro l kvs h
  refine rn_ind (P := fun (l : List (NestedKey × Addr × V)) (kvs : List (D × D)) => RpL B A H (l.map fun (p : NestedKey × Addr × V) => V.ref p.2.1) (kvs.map fun (q : D × D) => q.1)) .nil (fun p q ks kvs e r1 r2 t ih => .cons r1 ih) h
theorem cl_sortedN {B : Bs} : CallD B (rSortedN B) oSortedN := by
  intro A N H vs ds z Q fr hz hv k
  unfold oSortedN at hz
  split at hz
  · rename_i kvs
    split at hz
    · rename_i hc
      cases hz
      obtain ⟨ha, hne, hc⟩ := hc
      simp only [Bool.and_eq_true] at hc
      obtain ⟨v, rfl, r⟩ := rtl1 hv
      obtain ⟨a, rfl, hh⟩ := rt_dic r
      obtain ⟨ks, hd, hR⟩ := dct_ne hh ha hne
      have rx : RpL B A H (keyVs ks) (kvs.map (·.1)) := rn_keysRp hR
      refine ⟨a, ks, _, rfl, hd, RpL.dp rx hc.1.1.2, alike_of hc.1.1.1.1, sortable_of hc.1.1.1.2, of_decide_eq_true hc.1.2, of_decide_eq_true hc.2, fun p ys hp hy => ?_⟩
      refine k _ _ (same_upd hp) (new_lst hp (fr p hp) ?_)
      subst hy
      have h1 : sortD (kvs.map (·.1)) = (((keyVs ks).zip (kvs.map (·.1))).mergeSort (dataLe false Prod.snd)).map Prod.snd := by
        have e := List.map_mergeSort (r := dataLe false Prod.snd) (s := dataLe false id) (f := (Prod.snd : V × PyData → PyData)) (l := (keyVs ks).zip (kvs.map (·.1))) (fun _ _ _ _ => rfl)
        rw [zip_snd rx.len] at e
        exact e.symm
      rw [h1]
      exact RpL.of_mem fun p hp => RpL.zip_mem rx p ((List.mergeSort_perm _ _).mem_iff.mp hp)
    · cases hz
  · cases hz
end DL
namespace DL
open PySem PySem.Spec PySem.Calls PySem.W PyProof.Rows L2
set_option maxHeartbeats 1000000 in
theorem meets_enumerate_newT (l : Addr) (items : Array Value) (n : Nat) (d : Option Addr) (sl : Array (Option Value)) :
    Meets (Builtin.«enumerate.__new__» ⟨[.type "enumerate", .ref l], []⟩) (fun _ R s => s.heap.get? l = some { cls := .type "tuple", dict := d, data := .seq items n, slots := sl } ∧
      R (.ok (.ret (.ref (s.heap.push { cls := .type "tuple_iterator", data := .fields #[.ref l, .int 0 0] }).objs.size)))
        { s with heap := (s.heap.push { cls := .type "tuple_iterator", data := .fields #[.ref l, .int 0 0] }).push { cls := .type "enumerate", data := .fields #[.none, .bool false, .ref s.heap.objs.size, rawInt 0, .none, .none] } }) :=
  .of_wp fun prog w A R s h => by
    obtain ⟨hp, g, d', tk, os⟩ := s
    obtain ⟨hl, h⟩ := h
    have hL : hp.IsTuple l items := ⟨_, hl, rfl, n, rfl⟩
    have hsub := sub_enumerate
    wp_walk
    refine wpAny_stack_any fun st => wpAny_pure ?_
    split
    · rename_i c _ _ _ _ _
      cases (c == Value.type "enumerate")
      · wp_walk using wpAny_loadPart' hl, wpAny_pyIter_tuple hL
        exact ⟨_, rfl, h⟩
      · wp_walk using wpAny_loadPart' hl, wpAny_pyIter_tuple hL
        exact ⟨_, rfl, h⟩
    · wp_walk using wpAny_loadPart' hl, wpAny_pyIter_tuple hL
      exact ⟨_, rfl, h⟩
section
variable {prog : Program} {w : World} {A : Around} {E : Value → Shared → Prop} {s : Shared}
theorem call_enumerate_tuple {l : Addr} {items : Array Value} {Q : Value → Shared → Prop} (hL : s.heap.IsTuple l items)
    (h : ∀ h', IsEnum h' (s.heap.objs.size + 1) s.heap.objs.size 0 .none → h'.IsTupleIter s.heap.objs.size l 0 → h'.objs.size = s.heap.objs.size + 2 →
      (∀ b o, s.heap.get? b = some o → h'.get? b = some o) → Q (.ref (s.heap.objs.size + 1)) { s with heap := h' }) :
    wpAny (model prog w) A (call (.type "enumerate") [.ref l]) Q E s := by
  obtain ⟨⟨c, dct, dt, sl⟩, hl, hc, n, hd⟩ := hL
  replace hc : c = .type "tuple" := hc
  replace hd : dt = .seq items n := hd
  subst hc hd
  refine callType_new F.called_enumerate (by decide) (F.typeCall_enumerate_1 _) (F.newCall_enumerate_1 _) (fun obj => F.args_object_init_2 obj _) F.entry_enumerate_new
    (meets_enumerate_newT l items n dct sl) ⟨hl, ?_⟩
  have hz : (s.heap.push { cls := .type "tuple_iterator", data := .fields #[.ref l, .int 0 0] }).objs.size = s.heap.objs.size + 1 := Heap.size_push ..
  show _ ∧ _
  rw [hz]
  have he : IsEnum ((s.heap.push { cls := .type "tuple_iterator", data := .fields #[.ref l, .int 0 0] }).push
      { cls := .type "enumerate", data := .fields #[.none, .bool false, .ref s.heap.objs.size, rawInt 0, .none, .none] }) (s.heap.objs.size + 1) s.heap.objs.size 0 .none := by
    have := Heap.get?_push_size (s.heap.push { cls := .type "tuple_iterator", data := .fields #[.ref l, .int 0 0] })
      (o := { cls := .type "enumerate", data := .fields #[.none, .bool false, .ref s.heap.objs.size, rawInt 0, .none, .none] }) rfl
    rw [hz] at this; exact this
  refine ⟨⟨_, he, rfl⟩, h _ he ⟨_, Heap.get?_push_of_some _ (Heap.get?_push_size _ rfl), rfl, rfl⟩ (by rw [Heap.size_push, hz]) fun b o x => Heap.get?_push_of_some _ (Heap.get?_push_of_some _ x)⟩
end
theorem enum_endT {prog : Program} {w : World} {A : Around} {E : Value → Shared → Prop} {s : Shared} {e it l : Addr} {i : Nat} {items : Array Value} {old : Value} {Q : Option Value → Shared → Prop} (hh : A.handled = none)
    (he : IsEnum s.heap e it i old) (hit : s.heap.IsTupleIter it l i) (hl : s.heap.IsTuple l items) (hx : items[i]? = none)
    (hQ : ∀ h', Heap.ExtBut it s.heap h' → Q none { s with heap := h' }) : wpAny (model prog w) A (pyNext (.ref e)) Q E s := by
  have hT : s.TypeIs (.ref e) "enumerate" := ⟨_, he, rfl⟩
  unfold pyNext
  refine wpAny_bind (wpAny_attempt (wpAny_callSpecial?_slot (name := Str.ofString "__next__") hT F.slot_enumerate_next
    (wpAny_call_entry F.slot_enumerate_next hT F.entry_enumerate_next ?_ (F.args_enumerate_next_1 _))))
  show wpAny _ _ (field (.ref e) 2 >>= _) _ _ _
  refine wpAny_bind (wpAny_field he rfl (x := .ref it) rfl ?_)
  refine wpAny_bind (wpAny_nextOf_tuple_end hh hit hl hx fun h' x he' hx' => ?_)
  obtain ⟨o, ho, hc⟩ := hx'
  refine wpAny_bind (wpAny_isInstance (T := "StopIteration") (b := true) ⟨o, ho, hc⟩ isSubtype_stop ?_)
  exact wpAny_pure (hQ _ he')
def IteT (K : PySem.W.Frag) (a : Addr) : It :=
  ⟨fun i H => ∃ (xs : List V) (x : V), SqT K H a xs ∧ xs[i]? = some x, fun i H v H' => ∃ T x, v = .ref T ∧ H T = none ∧ H' = upd H T (.tup [.int (i : Nat), x]) ∧ ∀ xs, SqT K H a xs → xs[i]? = some x, fun i H => ∃ xs : List V, SqT K H a xs ∧ xs.length ≤ i⟩
theorem turn_enumT {P : Program} {w : World} {K : PySem.W.Frag} {elts : List Expr} {kk : Nat} {tpos : Pos} (a e it : Addr) :
    Turn P w K (.Tuple elts kk tpos) (IteT K a) [e, it] e (fun i h => (∃ old, IsEnum h e it ((i : Nat) : Int) old) ∧ h.IsTupleIter it a i ∧ e ≠ it ∧ a ≠ it ∧ a ≠ e) where
  mem := by simp
  obj := fun i h st b hb => by
    obtain ⟨⟨old, he⟩, ⟨o, ho, hc, hd⟩, _⟩ := st
    have e' : b = e ∨ b = it := by simpa using hb
    rcases e' with z | z
    · rw [z]; exact ⟨_, he, fun v q => nomatch q⟩
    · rw [z]; exact ⟨o, ho, fun v q => by rw [hd] at q; cases q⟩
  keep := fun i h h' st k => let ⟨⟨old, he⟩, hi, hne⟩ := st; ⟨⟨old, k e (by simp) _ he⟩, hi.at fun o q => k it (by simp) o q, hne⟩
  item := by
    intro X hP hw hK hc i pins s σ H E I hf st hg
    subst hP hw hK
    obtain ⟨⟨old, he⟩, hit, hne, hai, hae⟩ := st
    obtain ⟨xs, x, hq, hx⟩ := hg
    obtain ⟨its, rv, p, hz⟩ := I.tuple hq
    obtain ⟨u, hu, ru⟩ := rv.get hx
    have hel : e < s.heap.objs.size := Heap.lt_size he
    have hil : it < s.heap.objs.size := by obtain ⟨_, q, _⟩ := hit; exact Heap.lt_size q
    have hi : i < its.toArray.size := by
      by_cases hi : i < its.length
      · simpa using hi
      · rw [List.getElem?_eq_none (by omega)] at hu; cases hu
    refine wpAny_pyNext_enum_itemD (Draws.tuple (A := X.A.in1) (I.ok.hd hc) it a hai its.toArray) he ⟨hit, p⟩ hi hne (by simp [hne, Ne.symm hae]) fun x' h' tk hx' ho hst hT hsz hk => ?_
    have ex : x' = u := by
      have hx2 : its[i]? = some x' := by simpa using hx'
      rw [hu] at hx2
      exact (Option.some.inj hx2).symm
    subst ex
    refine ⟨_, rfl, wpAny_letOwnedTupleGo_enum (s := { s with heap := h', toks := tk + 1 }) ho fun h'' he' sb => ?_⟩
    have hT2 : h''.get? s.heap.objs.size = some { cls := .type "tuple", data := .seq #[.int i tk, x'] } := (sb.2 _ (Nat.ne_of_gt hel)).trans hT
    have new : ObjOk X.prog X.w (upd H s.heap.objs.size (.tup [.int (i : Nat), x])) h'' s.heap.objs.size (.tup [.int (i : Nat), x]) :=
      ⟨by show 2 ≤ sizeLine; decide, [.int i tk, x'], .cons ⟨_, rfl⟩ (.cons ru .nil), ⟨_, hT2, rfl, _, rfl⟩⟩
    have I1 : Inv X pins σ (upd H s.heap.objs.size (.tup [.int (i : Nat), x])) { s with heap := h'', toks := tk + 1 } :=
      I.turnedNew (ch := [e, it]) (fun b ob hb q => (sb.2 b (fun z => hb (by simp [z]))).trans (hk b ob (fun z => hb (by simp [z])) (fun z => hb (by simp [z])) q)) hf (Nat.le_refl _) new
    refine ⟨.ref s.heap.objs.size, _, I1, rfl, ⟨_, x, rfl, I.hok.fresh (Nat.le_refl _), rfl, fun ys hy => by rw [I.tuple_inj hy hq]; exact hx⟩, ⟨⟨x', ?_⟩, hst.1.at fun o q => (sb.2 it (Ne.symm hne)).trans q, hne, hai, hae⟩, fun b hb => ?_⟩
    · have e1 : ((i + 1 : Nat) : Int) = (i : Int) + 1 := by omega
      rw [e1]; exact he'
    · have hb' : b < s.heap.objs.size := by
        have e' : b = e ∨ b = it := by simpa using hb
        rcases e' with z | z
        · rw [z]; exact hel
        · rw [z]; exact hil
      rw [upd_ne (Nat.ne_of_lt hb')]
      exact (hf b hb).1
  done := by
    intro X hP hw hK hc i pins s σ H E I hf st hg
    subst hP hw hK
    obtain ⟨⟨old, he⟩, hit, hne, hai, hae⟩ := st
    obtain ⟨xs, hq, hx⟩ := hg
    obtain ⟨its, rv, p, hz⟩ := I.tuple hq
    obtain ⟨f0, f1, f2, f3, f4, f5⟩ := hf it (by simp)
    have hl := rv.length
    exact enum_endT (I.ok.hd hc) he hit p (by simp; omega) fun h' eb => ⟨rfl, I.turned (t' := s.toks) (fun b o hb q => eb b o hb q) f0 f1 f3 f4 f5⟩
  self := fun A i s Q E st h => let ⟨⟨_, he⟩, _⟩ := st; wpAny_pyIter_enum he h
def iEnumT (K : PySem.W.Frag) (ta : TA) : TI := fun σ H R => ta σ H fun vs H1 => ∃ a xs, vs = [.ref a] ∧ SqT K H1 a xs ∧ R (IteT K a) H1
theorem pi_enumT {X : Cx} {e : Expr} {ta : TA} {p pos tpos : Pos} {elts : List Expr} {kk : Nat} (hg : Gl X "enumerate") (hm : X.mg "enumerate" = none) (ha : PA X [e] ta) (hs : starEach [e] X.env = [(false, eval e X.env)] := by rfl) :
    PI X (.Tuple elts kk tpos) (.Call (.Name "enumerate" p) [e] [] pos) (iEnumT X.K ta) := by
  refine ⟨fun pins s σ H R I h => ?_⟩
  refine Call_ (ld_blt I hg hm boot_enumerate (PyProof.Rows.callWith_type1 (thn (ha.run pos pins s σ H _ I h) fun us s1 ⟨vs, H1, I1, r1, q1⟩ => ?_) hs rfl))
  obtain ⟨a, xs, ex, hq, q⟩ := q1
  subst ex
  cases r1 with
  | cons r rr =>
    cases rr
    cases r
    obtain ⟨its, rv, p', hz⟩ := I1.tuple hq
    have hal : a < s1.heap.objs.size := by obtain ⟨_, e, _⟩ := p'; exact Heap.lt_size e
    refine call_enumerate_tuple p' fun h' he hit hsz hk => wpAny_pyIter_enum he ?_
    have I2 : Inv X pins σ H1 { s1 with heap := h' } := I1.kept (t' := s1.toks) hk
    refine ⟨s1.heap.objs.size + 1, [s1.heap.objs.size + 1, s1.heap.objs.size], _, _, H1, rfl, I2, turn_enumT a (s1.heap.objs.size + 1) s1.heap.objs.size, ⟨⟨.none, he⟩, hit, Nat.succ_ne_self _, Nat.ne_of_lt hal, Nat.ne_of_lt (Nat.lt_succ_of_lt hal)⟩, fun b hb => ?_, q⟩
    have e' : b = s1.heap.objs.size + 1 ∨ b = s1.heap.objs.size := by simpa using hb
    have hle : s1.heap.objs.size ≤ b := by
      rcases e' with z | z
      · rw [z]; exact Nat.le_add_right _ _
      · rw [z]; exact Nat.le_refl _
    exact I1.fpOk hle (I1.hok.fresh hle)
/-- enumerate of a tuple -/
def iEnuT {S : Type} (f : Ex S) : Lx S := fun ρ s => (f ρ s).bind fun y s1 => match y with
  | .d (.tuple ds) => .ok ((List.range ds.length).zipWith (fun i d => PyData.tuple [.int (i : Nat), d]) ds) s1
  | _ => .bad
section
variable {S : Type} [SI S] {X : Cx} {B : Bs} {E : XK} {e : Expr} {f : Ex S} {p pos : Pos} {G : Gh} {own : Own} {ρ : Env} {s : S} {σ : Sg} {H1 : Hp}
theorem enuT_get (ds : List D) (i : Nat) : ((List.range ds.length).zipWith (fun i d => PyData.tuple [.int (i : Nat), d]) ds)[i]? = ds[i]?.map fun d => PyData.tuple [.int (i : Nat), d] := by
  rw [List.getElem?_zipWith]
  by_cases hi : i < ds.length
  · rw [List.getElem?_range hi, List.getElem?_eq_getElem hi]; rfl
  · rw [List.getElem?_eq_none (show (List.range ds.length).length ≤ i by simp; omega), List.getElem?_eq_none (show ds.length ≤ i by omega)]; rfl
theorem enuT_len (ds : List D) : ((List.range ds.length).zipWith (fun i d => PyData.tuple [.int (i : Nat), d]) ds).length = ds.length := by simp
theorem it_enuT (R : Rel B G own ρ s σ H1) {cmp : Bool} {K : PySem.W.Frag} {a : Addr} {xs : List V} {ds : List D} (h : Tp K H1 a xs) (r : RpL B (Av G own) H1 xs ds) :
    ItOk B (Av G own) (Chg G own cmp) (IteT K a) ((List.range ds.length).zipWith (fun i d => PyData.tuple [.int (i : Nat), d]) ds) H1 := by
  intro H2 k
  have h2 := (tp_kept R k h).sq
  refine ⟨fun i d e => ?_, xs, h2, by rw [enuT_len, r.len]; exact Nat.le_refl _⟩
  rw [enuT_get] at e
  obtain ⟨d', e1, rfl⟩ := Option.map_eq_some_iff.mp e
  obtain ⟨u, eu, ru⟩ := r.get' e1
  refine ⟨⟨xs, u, h2, eu⟩, ?_⟩
  rintro z H3 ⟨T, x', rfl, hT, rfl, q1⟩
  have z1 := q1 xs h2
  rw [eu] at z1; cases z1
  exact ⟨same_upd hT, fun A' hA => .tup (Tp.of upd_same) (.cons (.int _) (.cons (ItOk.item R k (same_upd hT) ru A' hA) .nil))⟩
theorem di_enuT {elts : List Expr} {kk : Nat} {tpos : Pos} {cmp : Bool} (hK : B.K = X.K) (hm : X.mg "enumerate" = none) (ha : DE X B E e f) (hg : Gl X "enumerate" := by rfl) (hs : starEach [e] X.env = [(false, eval e X.env)] := by rfl) :
    DI X B E cmp (.Tuple elts kk tpos) (.Call (.Name "enumerate" p) [e] [] pos) (iEnuT f) := by
  refine pi_imp (pi_enumT hg hm (pa_cons ha pa_nil hs) hs) fun σ H R' ⟨G, own, ρ, s, R, q⟩ => ?_
  refine tD.run R _ q.bnd fun y s1 v H1 q1 k1 r1 R1 => ?_
  cases y with
  | r _ => exact q1.elim
  | o _ _ => exact q1.elim
  | p _ => exact q1.elim
  | f _ => exact q1.elim
  | d d =>
    cases d with
    | tuple ds =>
      cases r1 with
      | tup h r => exact ⟨_, _, rfl, by rw [← hK]; exact h.sq, q1 _ H1 k1 (by rw [← hK]; exact it_enuT R1 h r)⟩
    | _ => exact q1.elim
end
end DL
namespace DL
open PySem PySem.Spec PyProof.Rows L2
end DL
namespace DL
open PySem PySem.Spec PyProof.Rows L2
theorem isSome_find {α : Type} (p : α → Bool) : ∀ xs : List α, (xs.find? p).isSome = xs.any p
  | [] => rfl
  | x :: xs => by
    rw [List.find?_cons, List.any_cons]
    cases h : p x with
    | true => rfl
    | false => rw [Bool.false_or, isSome_find p xs]
end DL
namespace DL
open PySem PySem.Spec PySem.Calls PyProof.Rows L2
def rNotInS : R2 := fun x y H Q => ∃ a o, y = .ref a ∧ DGet H a x o ∧ Q (.bl (!o.isSome)) H
theorem op_notInS {X : Cx} (hu : X.A.units + 1 < cLine) : OpR X (compareOp .NotIn) rNotInS := by
  intro pins s σ H x y v u Q I rx ry h
  obtain ⟨a, o, rfl, g, q⟩ := h
  cases (show u = Value.ref a from ry)
  exact d_notIn hu I g rx fun s3 I3 => ⟨.bl (!o.isSome), H, I3, rfl, q⟩
def opNotInS : D → D → Option D
  | kd, .dict kvs => (match scK kd with
    | some k => if (kvs.any fun p => (scK p.1).isSome) = true then some (.bool (!(dGetS kvs k).isSome)) else none
    | none => none)
  | _, _ => none
theorem od_notInS {B : Bs} : OpD B rNotInS opNotInS := by
  intro A N H x y p q z Q fr hz hx hy k
  unfold opNotInS at hz
  split at hz
  · rename_i kd kvs
    split at hz
    · rename_i kk hkk
      split at hz
      · rename_i ha
        cases hz
        have ey := sc_val hx hkk
        obtain ⟨a, rfl, hh⟩ := rt_dic hy
        rcases hh with ⟨ks, hD, r⟩ | ⟨ks, hD, e, r⟩
        · subst ey
          refine ⟨a, _, rfl, .k hD, ?_⟩
          have e1 : (valV ks kk).isSome = (dGetS kvs kk).isSome := by
            unfold dGetS valV
            rw [Option.isSome_map, Option.isSome_map, isSome_find, isSome_find, rpm_any r]
          rw [e1]
          exact k _ H (Same.refl H) (.bl _)
        · exfalso
          obtain ⟨p, hp, h2⟩ := List.any_eq_true.mp ha
          rw [dn_scalar r p hp] at h2
          cases h2
      · cases hz
    · cases hz
  · cases hz
theorem cd_notInS {X : Cx} {B : Bs} (c : Ctx X B) : CmpD X B .NotIn opNotInS := ⟨_, op_notInS (by have := c.un; omega), od_notInS⟩
def pairsS : List D → Option (List (D × D))
  | [] => some []
  | .tuple [.str k, v] :: ds => (pairsS ds).map ((.str k, v) :: ·)
  | _ :: _ => none
def dAllS (kvs : List (D × D)) : List (D × D) → List (D × D)
  | [] => kvs
  | p :: ps => dAllS (match scK p.1 with
    | some k => dPutS kvs p.1 p.2 k
    | none => kvs) ps
def oDictS : List D → Option D
  | [.list ds] => if ds ≠ [] then (pairsS ds).map fun ps => .dict (dAllS [] ps) else none
  | _ => none
theorem merge_ne : ∀ (more kvs : List (Key × V)), (kvs ≠ [] ∨ more ≠ []) → mergeK kvs more ≠ []
  | [], kvs, h => h.elim id fun h => absurd rfl h
  | p :: more, kvs, _ => merge_ne more (putK kvs p.1 p.2) (.inl putK_ne)
theorem rp_pairs {B : Bs} {A : Addr → Prop} {H : Hp} : ∀ {xs : List V} {ds : List D} {ps : List (D × D)}, RpL B A H xs ds → pairsS ds = some ps →
    ∃ (as : List Addr) (kvs : List (Key × V)), xs = as.map V.ref ∧ Paired (fun p kv => SqT B.K H p [kV kv.1, kv.2]) as kvs ∧ RpM B A H (kvs.map fun p => (kV p.1, p.2)) ps
  | _, _, _, .nil, e => by
    simp only [pairsS, Option.some.injEq] at e
    subst e
    exact ⟨[], [], rfl, .nil, .nil⟩
  | v :: xs, d :: ds, ps, .cons h t, e => by
    unfold pairsS at e
    split at e
    · rename_i heq; cases heq
    · rename_i k z ds' heq
      cases heq
      obtain ⟨ps', e1, rfl⟩ := Option.map_eq_some_iff.mp e
      obtain ⟨as, kvs, rfl, hp, hr⟩ := rp_pairs t e1
      cases h with
      | @tup a us _ hT r =>
        cases r with
        | cons hk r =>
          cases r with
          | cons hv r =>
            cases r
            cases hk
            exact ⟨a :: as, (.inr k, _) :: kvs, rfl, .cons hT.sq hp, .cons (.str k) hv hr⟩
    · cases e
theorem rpm_all {B : Bs} {A : Addr → Prop} {H : Hp} : ∀ {kvs : List (Key × V)} {ps : List (D × D)} {acc : List (Key × V)} {dcc : List (D × D)}, RpM B A H (kvs.map fun p => (kV p.1, p.2)) ps → RpM B A H (acc.map fun p => (kV p.1, p.2)) dcc →
    RpM B A H ((mergeK acc kvs).map fun p => (kV p.1, p.2)) (dAllS dcc ps) := by
  intro kvs
  induction kvs with
  | nil =>
    intro ps acc dcc h h2
    cases h
    exact h2
  | cons p kvs ih =>
    intro ps acc dcc h h2
    cases h with
    | @cons k v kd d vs ds hk hv t =>
      have hs : scK kd = some p.1 := by
        obtain ⟨pk, pv⟩ := p
        cases pk <;> (cases hk; rfl)
      show RpM B A H _ (dAllS (match scK kd with | some k => dPutS dcc kd d k | none => dcc) ds)
      rw [hs]
      exact ih t (rpm_put h2 hs hv)
theorem cl_dictS {X : Cx} {B : Bs} (hB : B.K = X.K) : CallD B (fun xs H Q => ∃ (a : Addr) (ps : List Addr) (kvs : List (Key × V)), xs = [.ref a] ∧ SqL X.K H a (ps.map V.ref) ∧ Paired (fun p kv => SqT X.K H p [kV kv.1, kv.2]) ps kvs ∧
    ∀ p, H p = none → Q (.ref p) (upd H p (.dK (mergeK [] kvs)))) oDictS := by
  intro A N H vs ds z Q fr hz hv k
  unfold oDictS at hz
  split at hz
  · rename_i ds
    split at hz
    · rename_i hne
      obtain ⟨ps, e, rfl⟩ := Option.map_eq_some_iff.mp hz
      obtain ⟨v, rfl, hv1⟩ := rtl1 hv
      obtain ⟨a, xs, rfl, h, r⟩ := rt_lst hv1
      obtain ⟨as, kvs, rfl, hp, hr⟩ := rp_pairs r e
      rw [hB] at hp
      refine ⟨a, as, kvs, rfl, SqL.of h, hp, fun p hp' => k _ _ (same_upd hp') ?_⟩
      refine .dic ⟨upd_same, merge_ne _ _ (.inr fun e => ?_)⟩ (fr p hp') (RpM.kp (kp_same (same_upd hp')) (rpm_all hr .nil))
      subst e
      have h1 := hp.length
      have h2 := r.len
      rw [List.length_map, h1] at h2
      exact hne (List.length_eq_zero_iff.mp h2.symm)
    · cases hz
  · cases hz
end DL
namespace DL
open PySem PySem.Spec PySem.Calls PyProof.Rows L2
section
variable {S : Type} [SI S]
/-- the promise of a def that gives a new list -/
def spF (B : Bs) (n : Nat) (F : List Val → S → Out S (List D)) : Sp := fun vs H Q _ => ∃ A0 ys, ∃ s : S, ys.length = n ∧ Call0 B A0 s H vs ys ∧
  (F ys s).sat (fun ds s' => ∀ p H' xs, Call1 s s' H H' → H p = none → H' p = some (.lst xs) → RpL B (fun a => A0 a ∨ a = p) H' xs ds → Q (.ref p) H') fun _ _ => False
/-- .. a body `return f` with n further slots -/
def runN (n : Nat) (f : Lx S) (ys : List Val) (s : S) : Out S (List D) := match f (ys.map .v ++ List.replicate n .no) s with
  | .ok ds s' => .ok ds s'
  | _ => .bad
/-- the call, as a list -/
def lFn (n : Nat) (F : List Val → S → Out S (List D)) (g : Exs S) : Lx S := fun ρ s => (g ρ s).bind fun ys s1 => if ys.length = n then (match F ys s1 with
  | .ok ds s' => .ok ds s'
  | _ => .bad) else .bad
end
section
variable {P : Program} {w : World} {K : PySem.W.Frag} {mg : Str → Option Value} {base : Heap} {B : Bs} {k n : Nat} {f : Addr} {fd : FuncData} {ps N : List Str} {x qual : Str} {st : Stmt} {S : Type} [SI S]
theorem fg_new (hP : B.P = P) (hK : B.K = K) (hw : B.w = w) (F : Fun K x qual st f fd) (Sc : FnScope N ps (defScope st)) (body : Lx S) (hn : N.length = ps.length + n) {e : Expr} {pos : Pos} (hst : defBody st = [.Return (some e) pos])
    (h : ∀ (cdv : Value) (A : Around) (outer : List PySem.Env) (s : Shared) (H : Hp) (E : XK), Ctx (cxP P w K mg base N qual st f cdv A outer s H E) B → Room k (cxP P w K mg base N qual st f cdv A outer s H E).A →
      DF (cxP P w K mg base N qual st f cdv A outer s H E) B E00 e body) : FnG P w K mg base CX0 (k + 1) f fd ps (spF B ps.length (runN n body)) := by
  obtain ⟨oc, od, kV, doc, pm, an, cdv, ct, osl, rfl, lk, hcd⟩ := F.ex
  refine fg_of lk hcd Sc (fun vs H Q E h => ?_) fun A outer s H vs Q E hr hg hsp => ?_
  · obtain ⟨A0, ys, _, hl, c, _⟩ := h
    rw [c.av.len, hl]
  · obtain ⟨A0, ys, s0, hl, c, q⟩ := hsp
    rw [hst]
    refine ⟨_, (pss_one (ps_ret (h cdv A outer s H E (ctx_of hP hK hw Sc hr hg).nox hr))).nox, ?_⟩
    refine ⟨⟨H, A0, SI.dks s0⟩, _, _, s0, rel_start (n := n) c (by rw [hn, c.av.len, hl]), ?_⟩
    unfold runN at q
    cases hz : body (ys.map .v ++ List.replicate n .no) s0 with
    | bad => rw [hz] at q; exact q.elim
    | ex e s1 => rw [hz] at q; exact q.elim
    | ok ds s1 =>
      rw [hz] at q
      intro p H' xs st hp hp' r
      exact q p H' xs ⟨st.fr, st.dk, st.rs⟩ hp hp' (r.mono fun a z => z.elim (fun z => .inl (.inl z)) .inr)
end
section
variable {X : Cx} {k n : Nat} {f : Addr} {fd : FuncData} {ps : List Str} {E : XK} {x : Str} {p pos : Pos} {e : Expr} {es : List Expr} {B : Bs} {S : Type} [SI S] {F : List Val → S → Out S (List D)} {g : Exs S}
theorem df_call (c : Ctx X B) (Fn : FnG X.prog X.w X.K X.mg X.base CX0 k f fd ps (spF B n F)) (hr : Room k X.A) (hm : X.mg x = some (.ref f)) (hk : PySem.W.keepIn X.K (.ref f) = true) (hb : Binds X.K fd ps [])
    (ha : DV X B E (e :: es) g) (hg : Gl X x := by rfl) (hdb : (x == ("__debug__" : Str)) = false := by decide) (he : starEach (e :: es) X.env = (false, eval e X.env) :: starEach es X.env := by rfl) (hpl : (backTo pos (starEach es X.env)).any (·.1) = false := by rfl) :
    DF X B E (.Call (.Name x p) (e :: es) [] pos) (lFn n F g) := by
  refine pe_imp (pe_callG Fn hr c.gd hg hm hk hb pass0 ha hdb he hpl) fun σ H Q ⟨G, own, ρ, s, R, q⟩ => ?_
  refine ⟨G, own, ρ, s, R, q.bnd.mono fun ys s1 q1 vs H1 k1 r1 => ?_⟩
  have R1 := R.stp k1
  split at q1
  · rename_i hl
    refine ⟨Av G own, ys, s1, hl, call0_of R1 r1, ?_⟩
    cases hz : F ys s1 with
    | bad => rw [hz] at q1; exact q1.elim
    | ex e s2 => rw [hz] at q1; exact q1.elim
    | ok ds s2 =>
      rw [hz] at q1
      intro p H' xs c1 hp hp' r
      refine q1 p H' xs (k1.trans (stp_of R1 c1)) ?_ hp' r
      cases z : H p with
      | none => rfl
      | some o =>
        by_cases hd : p ∈ G.dks
        · obtain ⟨o', e, _⟩ := R1.dkT hd
          rw [hp] at e; cases e
        · rw [k1.fr p o z hd] at hp; cases hp
  · exact q1.elim
end
end DL
namespace DL
open PySem PySem.Spec PyProof.Rows L2
variable {S : Type} [SI S]
def signD (c : Nat) : D := .str ⟨#[c]⟩
section
variable {X : Cx} {B : Bs} {E : XK} {e a b c tg : Expr} {f fa fb : Ex S} {g : Exs S} {pos p apos : Pos}
def iTxt (f : Ex S) : Lx S := fun ρ s => (f ρ s).bind fun y s1 => match y with
  | .d (.str z) => .ok (z.cps.toList.map signD) s1
  | _ => .bad
def opTSl : D → Option Int → Option Int → Option D
  | .str z, lo, hi => if z.length ≤ sizeLine then some (.str (cutS z lo hi)) else none
  | _, _, _ => none
def eTSl (fa : Ex S) (fl fh : Ox S) : Ex S := fun ρ s => (fa ρ s).bind fun x s1 => (fl ρ s1).bind fun l s2 => (fh ρ s2).bind fun h s3 => match x with
  | .d p => (match opTSl p l h with
    | some d => .ok (.d d) s3
    | none => .bad)
  | _ => .bad
/-- a text's method with one argument -/
def eM1 (op : D → D → Option D) (fa fb : Ex S) : Ex S := fun ρ s => (fa ρ s).bind fun x s1 => match x with
  | .d (.str a) => (fb ρ s1).bind fun y s2 => (match y with
    | .d d => (match op (.str a) d with
      | some z => .ok (.d z) s2
      | none => .bad)
    | _ => .bad)
  | _ => .bad
end
section
variable {X : Cx} {B : Bs} {E : XK} {pos : Pos}
/-- a new object as a value -/
def eN (f : Nx S) : Ex S := fun ρ s => (f ρ s).bind fun x s1 => match x with
  | .m kvs => .ok (.d (.dict kvs)) s1
  | .l ds => .ok (.d (.list ds)) s1
  | _ => .bad
theorem DN.de {e : Expr} {f : Nx S} (h : DN X B E e f) : DE X B E e (eN f) := by
  refine pe_imp h fun σ H Q ⟨G, own, ρ, s, R, q⟩ => ?_
  refine ⟨G, own, ρ, s, R, q.bnd.mono fun x s1 q1 p H1 k hp r => ?_⟩
  have fr := R.fresh hp
  cases x with
  | no => exact q1.elim
  | v _ => exact q1.elim
  | g _ _ _ => exact q1.elim
  | q _ _ => exact q1.elim
  | l ds =>
    obtain ⟨xs, e, r⟩ := r
    exact q1 _ H1 k (.lst e fr (r.mono fun a z => .inl z))
  | m kvs =>
    rcases r with ⟨ks, e, r⟩ | ⟨ks, e, e2, r⟩
    · exact q1 _ H1 k (.dic e fr (r.mono fun a z => .inl z))
    · exact q1 _ H1 k (.dct e fr e2 (r.mono fun a z => .inl z))
end
end DL
namespace DL
open PySem PySem.Spec PyProof.Rows L2
/-- what the written part says of an own exception class -/
structure Xk (K : PySem.W.Frag) (C : Addr) : Prop where
  ox : OexC K C
  ga : PySem.W.findIn K (.ref C) "__getattribute__" = some (some (.builtin "BaseException.__getattribute__"))
  gg : PySem.W.findIn K (.ref C) "__getattr__" = some none
  hd : PySem.W.hasDictIn K C = true
  ha : PySem.W.findIn K (.ref C) "__class__" = some (some (.builtin "object.__class__"))
  hn : PySem.W.specialIn K (.builtin "object.__class__") "__get__" = some (some (.builtin "getset_descriptor.__get__"))
  ht : PySem.W.takesIn K (.builtin "object.__class__") = some true
  hm : PySem.W.mroIn K C (.type "object") = some true
/-- __init__(self, x, y): self.f = x, self.g = y -/
def spI2 (K : PySem.W.Frag) (f g : Str) : Sp := fun vs H Q _ => ∃ (a C : Addr) (x y : V), vs = [.ref a, x, y] ∧ OexC K C ∧ PySem.W.findIn K (.ref C) f = some none ∧ PySem.W.findIn K (.ref C) g = some none ∧ H a = some (exo a C none) ∧
  ∀ dx, H dx = none → dx ≠ a → Q .non (upd (upd (upd H dx (exd dx [(f, x)])) a (exo a C (some dx))) dx (exd dx [(g, y), (f, x)]))
theorem init2_read {K : PySem.W.Frag} {f g : Str} {N : List Str} {vs : List V} {H : Hp} {Q : VK} {E : XK} (h : spI2 K f g vs H Q E) :
    (tSeq (tOst K f (tVar 0) (tVar 1)) (tOst K g (tVar 0) (tVar 2))) { nx := fun _ H' => Q .non H', rt := Q } (L2.start N vs) H := by
  obtain ⟨a, C, x, y, rfl, T, n1, n2, ha, q⟩ := h
  refine ⟨_, rfl, _, rfl, a, C, rfl, T, n1, .inl ⟨ha, fun dx hdx hne => ?_⟩⟩
  refine ⟨_, rfl, _, rfl, a, C, rfl, T, n2, .inr ⟨dx, [(f, x)], upd_same, ?_, by simp, q dx hdx hne⟩⟩
  rw [upd_ne hne]; exact upd_same
/-- an own exception class as the top left it; ks: the fields that its __init__ sets -/
structure Xc (K : PySem.W.Frag) (mg : Str → Option Value) (nm : Str) (qual : Str) (st : Stmt) (ks : List Str) where
  C : Addr
  fI : Addr
  fd : FuncData
  F : Fun K "__init__" qual st fI fd
  g : mg nm = some (.ref C)
  k : Xk K C
  iC : PySem.W.findIn K (.ref C) "__init__" = some (some (.ref fI))
  tI : PySem.W.typeIn K (.ref fI) = some (.type "function")
  no : ∀ f ∈ ks, PySem.W.findIn K (.ref C) f = some none
variable {S : Type} [SI S]
/-- raise c(e, ..) -/
def sRz (c : Str) (ks : List Str) (g : Exs S) : Sx S := fun ρ s => (g ρ s).bind fun ys s1 => match datas ys with
  | some ds => if ds.length = ks.length then .ex ⟨c, ks.zip ds⟩ s1 else .bad
  | none => .bad
section
variable {X : Cx} {B : Bs} {E : XK} {e1 e2 : Expr} {g : Exs S} {pos pos2 p : Pos}
/-- the end of it -/
theorem raised {G : Gh} {own : Own} {ρ : Env} {s1 : S} {σ : Sg} {H1 H' : Hp} (R1 : Rel B G own ρ s1 σ H1) {nm : Str} {fs : List (Str × D)} {fv : List (Str × V)} {C dx : Addr} (hc : B.cls nm = some C)
    (q : ExW B G E ⟨nm, fs⟩ s1) (hd : H' dx = some (.xd fv)) (k : Same H1 H') (hf : ∀ p ∈ fs, ∃ u, fv.lookup p.1 = some u ∧ Rp B (Av G own) H1 u p.2) : E (.ref C) (some dx) H' := by
  have st := R1.same k
  refine q C (some dx) H' (fun a o h n => k a o (R1.fr a o h n)) st.dk st.rs ⟨hc, .inr ⟨dx, fv, rfl, hd, fun p hp => ?_⟩⟩
  obtain ⟨u, e, r⟩ := hf p hp
  exact ⟨u, e, (r.kp (R1.kp st)).mono fun a z => .inl z⟩
theorem ds_raise2 {nm qual f g' : Str} {st : Stmt} (c : Ctx X B) (T : Xc X.K X.mg nm qual st [f, g']) (hfg : f ≠ g') (F1 : FnOk X.prog X.w X.K X.mg X.base CX0 1 T.fI T.fd ["self", f, g'] (spI2 X.K f g')) (hr : Room 2 X.A)
    (tk : Takes X (fun cls d _ H => E cls d H)) (hcls : B.cls nm = some T.C) (hb : Binds X.K T.fd ["self", f, g'] []) (ha : DV X B E [e1, e2] g) (hg : Gl X nm := by rfl) (hdb : (nm == ("__debug__" : Str)) = false := by decide)
    (he : starEach [e1, e2] X.env = (false, eval e1 X.env) :: starEach [e2] X.env := by rfl) (hpl : (backTo pos (starEach [e2] X.env)).any (·.1) = false := by rfl) :
    DS X B E (.Raise (some (.Call (.Name nm p) [e1, e2] [] pos)) none pos2) (sRz nm [f, g'] g) := by
  refine ps_imp (ps_raise c.calm tk (pmk_oex T.k.ox T.iC T.tI F1 hr hb .nil (fun _ _ _ _ _ _ _ h => h.elim) hg T.g ha hdb he hpl)) fun Dd σ H ⟨G, own, ρ, s, R, q⟩ => ?_
  refine ⟨G, own, ρ, s, R, (Out.sat.bnd q).mono fun ys s1 q1 vs H1 k1 r1 => ?_⟩
  have R1 := R.stp k1
  cases hz : datas ys with
  | none => simp only [hz] at q1; exact q1.elim
  | some ds =>
    simp only [hz] at q1
    by_cases hl : ds.length = [f, g'].length
    · rw [if_pos hl] at q1
      have rl := RvL.datas r1 hz
      match ds, hl, rl, q1 with
      | [d1, d2], _, .cons (v := x) ra (.cons (v := y) rb .nil), q1 =>
        refine ⟨by simp, fun a ha => ?_⟩
        refine ⟨a, T.C, x, y, rfl, T.k.ox, T.no _ (by simp), T.no _ (by simp), upd_same, fun dx hdx hne => ?_⟩
        have hd1 : H1 dx = none := by rw [upd_ne hne] at hdx; exact hdx
        refine ⟨rfl, dx, [(g', y), (f, x)], by rw [upd_ne (Ne.symm hne)]; exact upd_same, upd_same, hd1, ?_⟩
        refine raised R1 hcls q1 upd_same (fun b o h => ?_) fun p hp => ?_
        · have nb : b ≠ dx := ne_of_none h hd1
          have na : b ≠ a := ne_of_none h ha
          rw [upd_ne nb, del_ne na, upd_ne nb, upd_ne na, upd_ne nb, upd_ne na]
          exact h
        · have hp : p = (f, d1) ∨ p = (g', d2) := by simpa using hp
          rcases hp with rfl | rfl
          · refine ⟨x, ?_, ra⟩
            have : (f == g') = false := by simpa using hfg
            simp [List.lookup, this]
          · exact ⟨y, by simp [List.lookup], rb⟩
    · rw [if_neg hl] at q1; exact q1.elim
end
section
variable {P : Program} {w : World} {K : PySem.W.Frag} {mg : Str → Option Value} {base : Heap} {B : Bs} {k n : Nat} {f : Addr} {fd : FuncData} {ps N : List Str} {x qual : Str} {st : Stmt}
abbrev cxX (P : Program) (w : World) (K : PySem.W.Frag) (mg : Str → Option Value) (base : Heap) (N : List Str) (qual : Str) (st : Stmt) (f : Addr) (cdv : Value) (A : Around) (outer : List PySem.Env) (s : Shared) (H : Hp) (E : XK) : Cx :=
  cxOf (L2.CX P w) P w K mg base N qual (defScope st) f cdv A outer s H E
theorem fg_raise (hP : B.P = P) (hK : B.K = K) (hw : B.w = w) (F : Fun K x qual st f fd) (Sc : FnScope N ps (defScope st)) (body : Sx S) (hn : N.length = ps.length + n)
    (h : ∀ (cdv : Value) (A : Around) (outer : List PySem.Env) (s : Shared) (H : Hp) (E : XK), Ctx (cxX P w K mg base N qual st f cdv A outer s H E) B → Room k (cxX P w K mg base N qual st f cdv A outer s H E).A →
      Takes (cxX P w K mg base N qual st f cdv A outer s H E) (fun cls d _ H => E cls d H) → PassesOwn (model P w) (cxX P w K mg base N qual st f cdv A outer s H E).A (cxX P w K mg base N qual st f cdv A outer s H E).env (cxX P w K mg base N qual st f cdv A outer s H E).xe →
      DSs (cxX P w K mg base N qual st f cdv A outer s H E) B E (defBody st) body) : FnG P w K mg base (L2.CX P w) (k + 1) f fd ps (spX B ps.length (runF n body)) := by
  obtain ⟨oc, od, kV, doc, pm, an, cdv, ct, osl, rfl, lk, hcd⟩ := F.ex
  refine fg_of lk hcd Sc (fun vs H Q E h => ?_) fun A outer s H vs Q E hr hg hsp => ?_
  · obtain ⟨A0, ys, _, hl, c, _⟩ := h
    rw [c.av.len, hl]
  · obtain ⟨A0, ys, s0, hl, c, q⟩ := hsp
    refine ⟨_, h cdv A outer s H E (ctx_of hP hK hw Sc hr hg) hr (takes_of rfl rfl rfl rfl) (passes_of rfl), ?_⟩
    refine ⟨⟨H, A0, SI.dks s0⟩, _, _, s0, rel_start (n := n) c (by rw [hn, c.av.len, hl]), ?_⟩
    unfold runF at q
    have q2 := q.bnd
    rcases sat_eq q2 with ⟨fl, s1, e1, q3⟩ | ⟨e, s1, e1, q3⟩
    · rw [e1]
      cases fl with
      | nx ρ' => exact fun own' σ' H' R' _ => q3 .non H' ⟨R'.fr, R'.dk, R'.rs⟩ .non
      | bk _ => exact q3.elim
      | ct _ => exact q3.elim
      | rg _ _ => exact q3.elim
      | rt y => exact fun v H' fr r => q3 v H' ⟨fr.fr, fr.dk, fr.rs⟩ r
    · rw [e1]
      exact fun C od H' fr dk rs ex => q3 C od H' ⟨fr, dk, rs⟩ ex
end
section
variable {X : Cx} {k n : Nat} {f C : Addr} {fd : FuncData} {ps : List Str} {E E' : XK} {x m : Str} {p pos apos : Pos} {e o : Expr} {es : List Expr} {B : Bs} {F : List Val → S → Out S Val} {g : Exs S}
theorem ExR.mono {A A' : Addr → Prop} (k : ∀ a, A' a → A a) {e : Exn} {C : Addr} {od : Option Addr} {H : Hp} (h : ExR B A e C od H) : ExR B A' e C od H := by
  obtain ⟨hc, h⟩ := h
  refine ⟨hc, h.imp id fun ⟨dx, fs, e1, e2, l⟩ => ⟨dx, fs, e1, e2, fun p hp => ?_⟩⟩
  obtain ⟨u, e3, r⟩ := l p hp
  exact ⟨u, e3, r.mono k⟩
/-- f(e, ..), what it raises is let through -/
def eFnX (n : Nat) (F : List Val → S → Out S Val) (g : Exs S) : Ex S := fun ρ s => (g ρ s).bind fun ys s1 => if ys.length = n then F ys s1 else .bad
/-- .. lists of one's own are lent -/
def eFnBX (n : Nat) (F : List Val → S → Out S Val) (g : Exs S) : Ex S := fun ρ s => (g ρ s).bind fun ys s1 => if ys.length = n then (F ys s1).bind fun y s2 => (match y with
    | .d d => if hard d then .ok (.d d) s2 else .bad
    | _ => .bad)
  else .bad
end
section
variable {X : Cx} {a : Addr} {oe : Obj} {cls : Value} {d : Option Addr} {pn : List (Addr × Obj)} {e : Expr} {pos p p1 : Pos}
theorem inst_of {pins : List (Addr × Obj)} {σ : Sg} {H : Hp} {s : Shared} {D dd : Addr} {fs : List (Str × V)} (I : L2.Inv (X.suite a ((a, oe) :: pn)) pins σ H s) (hz : Zc (.ref D) (some dd) oe) (hf : ∃ vs, oe.data = .fields vs) (hx : H dd = some (.xd fs)) :
    ∃ (od : Obj) (mA : Str → Option Value), PySem.W.InstAt s.heap a oe D (some od) ∧ (∀ f, PySem.W.lookIn f od = some (mA f)) ∧ ∀ f, RelO (fs.lookup f) (mA f) := by
  obtain ⟨ha, _⟩ := I.pin (a, oe) (List.mem_append_left _ List.mem_cons_self)
  obtain ⟨vs, hd⟩ := hf
  have hx : ObjOk X.prog X.w H s.heap dd (.xd fs) := I.hok dd _ hx
  obtain ⟨mA, hns, hr⟩ := hx
  obtain ⟨od, ho, hl⟩ := lookIn_ns hns
  exact ⟨od, mA, ⟨ha, hz.1, by unfold PySem.W.notCls; rw [hd] <;> rfl, by rw [hz.2]; exact ho⟩, hl, hr⟩
def rIsX (K : PySem.W.Frag) (a : Addr) (cls : Value) (d : Option Addr) : List V → Hp → VK → Prop := fun xs H Q => ∃ (D dd : Addr) (fs : List (Str × V)) (c : V) (cv : Value) (b : Bool), cls = .ref D ∧ d = some dd ∧ Xk K D ∧ H dd = some (.xd fs) ∧ xs = [.ref a, c] ∧
  (∀ u, RelV c u → u = cv) ∧ PySem.W.kitOne K (.ref D) cv = some b ∧ Q (.bl b) H
theorem call_isX (hz : Zc cls d oe) (hf : ∃ vs, oe.data = .fields vs) : CallR (X.suite a ((a, oe) :: pn)) (.builtin "isinstance") (rIsX X.K a cls d) := by
  intro pins s σ H xs us Q I r h
  obtain ⟨D, dd, fs, c, cv, b, rfl, rfl, T, hx, rfl, hcv, e, q⟩ := h
  cases r with
  | cons rx rr =>
    cases rr with
    | cons rt rr =>
      cases rr
      cases rx
      have ec := hcv _ rt
      subst ec
      obtain ⟨od, mA, J, _, _⟩ := inst_of I hz hf hx
      have hcl : (PySem.W.clsIn X.K D).isSome = true := by
        have hd := T.hd
        unfold PySem.W.hasDictIn at hd
        cases hq : PySem.W.clsIn X.K D with
        | none => rw [hq] at hd; cases hd
        | some _ => rfl
      exact PySem.W.kia_one (PySem.W.kitx_exc hcl T.ga T.gg T.ox.exC T.ha T.hn T.ht T.hm) I.kIn J e (fun z => nomatch z) fun tk => ⟨.bl b, H, I.kept (t' := tk) fun _ _ z => z, rfl, q⟩
/-- isinstance(e, c) -/
def tIsX (K : PySem.W.Frag) (a : Addr) (cls : Value) (d : Option Addr) (i : Nat) (cv : Value) : TE := fun σ H Q => ∃ (D dd : Addr) (fs : List (Str × V)), cls = .ref D ∧ d = some dd ∧ Xk K D ∧ H dd = some (.xd fs) ∧ σ[i]? = some (some (.ref a)) ∧
  PySem.W.kitOne K (.ref D) cv = some true ∧ Q (.bl true) H
theorem pe_isX {i : Nat} {n : Expr} {ce : Expr} {c : V} {cv : Value} (hz : Zc cls d oe) (hf : ∃ vs, oe.data = .fields vs) (hn : PE (X.suite a ((a, oe) :: pn)) n (tVar i)) (hc : PE (X.suite a ((a, oe) :: pn)) ce (tC c)) (hcv : ∀ u, RelV c u → u = cv) (hm : X.mg "isinstance" = none) (hg : Gl X "isinstance" := by rfl)
    (hs : starEach [n, ce] X.env = (false, eval n X.env) :: starEach [ce] X.env := by rfl) (hs2 : starEach [ce] X.env = (false, eval ce X.env) :: starEach [] X.env := by rfl) (hpl : (backTo pos (starEach [ce] X.env)).any (·.1) = false := by rfl) :
    PE (X.suite a ((a, oe) :: pn)) (.Call (.Name "isinstance" p) [n, ce] [] pos) (tIsX X.K a cls d i cv) :=
  pe_imp (pe_callB (call_isX hz hf) hg hm (by decide +kernel) (pa_cons hn (pa_cons hc pa_nil hs2) hs) (he := hs) (hpl := hpl)) fun σ H Q ⟨D, dd, fs, e1, e2, T, hx, hi, hk, q⟩ =>
    ⟨_, hi, D, dd, fs, c, cv, true, e1, e2, T, hx, rfl, hcv, hk, q⟩
/-- e.f -/
def tXat (K : PySem.W.Frag) (a : Addr) (cls : Value) (d : Option Addr) (i : Nat) (f : Str) : TE := fun σ H Q => ∃ (D dd : Addr) (fs : List (Str × V)) (v : V), cls = .ref D ∧ d = some dd ∧ Xk K D ∧ PySem.W.findIn K (.ref D) f = some none ∧ H dd = some (.xd fs) ∧ σ[i]? = some (some (.ref a)) ∧
  fs.lookup f = some v ∧ Q v H
theorem pe_xat {i : Nat} {n : Expr} {f : Str} (hz : Zc cls d oe) (hf : ∃ vs, oe.data = .fields vs) (hn : PE (X.suite a ((a, oe) :: pn)) n (tVar i)) (hb : attributeBase n f X.env (eval n X.env) = eval n X.env := by rfl) :
    PE (X.suite a ((a, oe) :: pn)) (.Attribute n f pos) (tXat X.K a cls d i f) := by
  refine ⟨fun pins s σ H Q I h => ?_⟩
  obtain ⟨D, dd, fs, v, rfl, rfl, T, no, hx, hi, hl, q⟩ := h
  refine attr_of hb (thn (hn.run pins s σ H (fun x H1 => x = .ref a ∧ H1 = H) I ⟨_, hi, rfl, rfl⟩) fun u s1 hh => ?_)
  obtain ⟨x, H1, I1, rx, ex, eh⟩ := hh
  subst ex eh
  obtain rfl : u = Value.ref a := rx
  obtain ⟨od, mA, J, lk, hr⟩ := inst_of I1 hz hf hx
  obtain ⟨u, hu, ru⟩ := RelO.some_of (v := v) (o := mA f) (by rw [← hl]; exact hr f)
  exact HandSPX.exc_get I1.kIn J T.ga T.gg T.ox.exC (PySem.W.findObj_own T.hd no rfl (by rw [lk, hu])) (handed_of ru) ⟨v, H1, I1.tok _, ru, q⟩
end
structure Gives (X : Cx) (B : Bs) (i : Nat) (suite : List Stmt) (hd : Exn → Option D) where
  ts : Addr → Value → Option Addr → TS
  ok : ∀ (a : Addr) (oe : Obj) (cls : Value) (d : Option Addr) (pn : List (Addr × Obj)), Zc cls d oe → (∃ vs, oe.data = .fields vs) → PSs (X.suite a ((a, oe) :: pn)) suite (ts a cls d)
  rd : ∀ (e : Exn) (z : D) (A : Addr → Prop) (a C : Addr) (od : Option Addr) (σ : Sg) (H : Hp) (Dd : Ends), hd e = some z → ExR B A e C od H → σ[i]? = some (some (.ref a)) → (∀ p, H p = none → ¬ A p) →
    (∀ v H', Same H H' → Rp B A H' v z → Dd.rt v H') → ts a (.ref C) od Dd σ H
/-- fields of the exception, as data -/
def xFields (e : Exn) : List Str → Option (List D)
  | [] => some []
  | f :: fs => match e.fs.lookup f, xFields e fs with
    | some d, some ds => some (d :: ds)
    | _, _ => none
section
variable {X : Cx} {B : Bs}
/-- the answer made of fields, if e is of class nm -/
def hdL (nm : Str) (mk : List D → D) (ks : List Str) : Exn → Option D := fun e => if e.c = nm then (xFields e ks).map mk else none
theorem lookup_some {fs : List (Str × D)} {f : Str} {d : D} (h : fs.lookup f = some d) : (f, d) ∈ fs := by
  induction fs with
  | nil => cases h
  | cons p ps ih =>
    obtain ⟨g, y⟩ := p
    rw [List.lookup] at h
    by_cases hg : f == g
    · rw [hg] at h
      cases h
      have : f = g := by simpa using hg
      subst this
      exact .head _
    · have hg : (f == g) = false := by simpa using hg
      rw [hg] at h
      exact .tail _ (ih h)
theorem xFields_len {e : Exn} : ∀ {ks : List Str} {ds : List D}, xFields e ks = some ds → ds.length = ks.length
  | [], ds, h => by cases h; rfl
  | f :: fs, ds, h => by
    unfold xFields at h
    cases h1 : e.fs.lookup f with
    | none => rw [h1] at h; cases h
    | some d =>
      rw [h1] at h
      cases h2 : xFields e fs with
      | none => rw [h2] at h; cases h
      | some es =>
        rw [h2] at h
        cases h
        rw [List.length_cons, List.length_cons, xFields_len h2]
/-- the fields, one after the other -/
def tXats (K : PySem.W.Frag) (a : Addr) (cls : Value) (d : Option Addr) (i : Nat) : List Str → TA
  | [] => tNil
  | f :: fs => tCons (tXat K a cls d i f) (tXats K a cls d i fs)
theorem xats_read {K : PySem.W.Frag} {a C dd : Addr} {i : Nat} {σ : Sg} {H : Hp} {fv : List (Str × V)} {A : Addr → Prop} (hK : B.K = K) (T : Xk K C) (hx : H dd = some (.xd fv)) (hi : σ[i]? = some (some (.ref a))) (e : Exn)
    (l : ∀ p ∈ e.fs, ∃ u, fv.lookup p.1 = some u ∧ Rp B A H u p.2) : ∀ (ks : List Str), (∀ f ∈ ks, PySem.W.findIn K (.ref C) f = some none) → ∀ {ds : List D}, xFields e ks = some ds → ∀ (Q : List V → Hp → Prop), (∀ vs, RpL B A H vs ds → Q vs H) → tXats K a (.ref C) (some dd) i ks σ H Q
  | [], _, ds, h, Q, q => by cases h; exact q [] .nil
  | f :: fs, no, ds, h, Q, q => by
    unfold xFields at h
    cases h1 : e.fs.lookup f with
    | none => rw [h1] at h; cases h
    | some d =>
      rw [h1] at h
      cases h2 : xFields e fs with
      | none => rw [h2] at h; cases h
      | some es =>
        rw [h2] at h
        cases h
        obtain ⟨u, hu, ru⟩ := l _ (lookup_some h1)
        refine ⟨C, dd, fv, u, rfl, rfl, T, no f (.head _), hx, hi, hu, ?_⟩
        exact xats_read hK T hx hi e l fs (fun f' m => no f' (.tail _ m)) h2 _ fun vs r => q _ (.cons ru r)
section
variable {i : Nat} {nm qual : Str} {st : Stmt} {ks : List Str} {es : List Expr} {n1 n2 c1 c2 other : Expr} {v1 v2 : V} {cv1 cv2 : Value} {p1 p2 p3 p4 p5 p6 p7 p8 : Pos}
theorem two_read {K : PySem.W.Frag} {a C dd : Addr} {i : Nat} {σ : Sg} {H : Hp} {fv : List (Str × V)} {tb to : TE} {Q : VK} (T : Xk K C) (hx : H dd = some (.xd fv)) (hi : σ[i]? = some (some (.ref a))) (k1 : PySem.W.kitOne K (.ref C) cv1 = some true) (k2 : PySem.W.kitOne K (.ref C) cv2 = some true) (q : tb σ H Q) :
    tIf (tAnd (L2.tB (tIsX K a (.ref C) (some dd) i cv1)) (L2.tB (tIsX K a (.ref C) (some dd) i cv2))) tb to σ H Q :=
  ⟨C, dd, fv, rfl, rfl, T, hx, hi, k1, true, rfl, C, dd, fv, rfl, rfl, T, hx, hi, k2, true, rfl, q⟩
theorem pe_no {X : Cx} {e : Expr} : PE X e (fun _ _ _ => False) := ⟨fun _ _ _ _ _ _ h => h.elim⟩
def gives_tup {k : Nat} (hK : B.K = X.K) (T : Xc X.K X.mg nm qual st ks) (hC : B.cls nm = some T.C) (hm : X.mg "isinstance" = none) (k1 : PySem.W.kitOne X.K (.ref T.C) cv1 = some true) (k2 : PySem.W.kitOne X.K (.ref T.C) cv2 = some true) (hl : ks.length ≤ 1000) (hne : ks ≠ [])
    (s1 : ∀ (a : Addr) (oe : Obj) (cls : Value) (d : Option Addr) (pn : List (Addr × Obj)), Zc cls d oe → (∃ vs, oe.data = .fields vs) → PE (X.suite a ((a, oe) :: pn)) (.Call (.Name "isinstance" p1) [n1, c1] [] p2) (tIsX X.K a cls d i cv1))
    (s2 : ∀ (a : Addr) (oe : Obj) (cls : Value) (d : Option Addr) (pn : List (Addr × Obj)), Zc cls d oe → (∃ vs, oe.data = .fields vs) → PE (X.suite a ((a, oe) :: pn)) (.Call (.Name "isinstance" p3) [n2, c2] [] p4) (tIsX X.K a cls d i cv2))
    (hb : ∀ (a : Addr) (oe : Obj) (cls : Value) (d : Option Addr) (pn : List (Addr × Obj)), Zc cls d oe → (∃ vs, oe.data = .fields vs) → PA (X.suite a ((a, oe) :: pn)) es (tXats X.K a cls d i ks))
    (w1 : ∀ (a : Addr) (pn : List (Addr × Obj)) (whole : Sem Value), isTrue (.Call (.Name "isinstance" p1) [n1, c1] [] p2) (X.suite a pn).env whole = (do let v ← whole; standAt p2; holding [v] (truthy v)) := by intro _ _ _; rfl)
    (w2 : ∀ (a : Addr) (pn : List (Addr × Obj)) (whole : Sem Value), isTrue (.Call (.Name "isinstance" p3) [n2, c2] [] p4) (X.suite a pn).env whole = (do let v ← whole; standAt p4; holding [v] (truthy v)) := by intro _ _ _; rfl) :
    Gives X B i [.Return (some (.IfExp (.BoolOp .And [.Call (.Name "isinstance" p1) [n1, c1] [] p2, .Call (.Name "isinstance" p3) [n2, c2] [] p4] p5) (.Tuple es k p6) other p7)) p8] (hdL nm .tuple ks) where
  ts := fun a cls d => tRet (tIf (tAnd (L2.tB (tIsX X.K a cls d i cv1)) (L2.tB (tIsX X.K a cls d i cv2))) (tTup (tXats X.K a cls d i ks)) (fun _ _ _ => False))
  ok := fun a oe cls d pn hz hf => pss_one (ps_ret (pe_ifExp (pw_and (pt_val (s1 a oe cls d pn hz hf) (w1 _ _)) (pw_and1 (pt_val (s2 a oe cls d pn hz hf) (w2 _ _)))).pt (pe_tup (hb a oe cls d pn hz hf)) pe_no))
  rd := fun e z A a C od σ H Dd he hx hi fr q => by
    unfold hdL at he
    split at he
    · rename_i hc
      obtain ⟨ds, hds, rfl⟩ := Option.map_eq_some_iff.mp he
      obtain ⟨h1, h2⟩ := hx
      rw [hc, hC] at h1
      cases h1
      rcases h2 with ⟨e1, e2⟩ | ⟨dx, fv, e1, e2, l⟩
      · subst e2
        cases ks with
        | nil => exact absurd rfl hne
        | cons f fs =>
          unfold xFields at hds
          rw [e1] at hds
          cases hds
      · subst e1
        refine two_read T.k e2 hi k1 k2 ?_
        refine xats_read hK T.k e2 hi e l ks T.no hds _ fun vs r => ?_
        refine ⟨?_, fun p hp => q _ _ (same_upd hp) (new_tup hp r)⟩
        have := r.len
        have := xFields_len hds
        have : 1000 ≤ sizeLine := by rw [sizeLine_eq]; decide
        omega
    · cases he
end
end
section
variable {X : Cx} {CX : CXT} {k n : Nat} {f C : Addr} {fd : FuncData} {ps : List Str} {sp : Sp} {E E' : XK} {x m : Str} {p pos apos : Pos} {e o : Expr} {es : List Expr} {ta : TE} {t : TA} {B : Bs} {F : List Val → S → Out S Val} {g : Exs S}
theorem run_fgS {pins : List (Addr × Obj)} {σ : Sg} {H : Hp} {s : Shared} {Q : VK} {us : List Value} {vs : List V} (Fn : FnG X.prog X.w X.K X.mg X.base CX k f fd ps sp) (hr : Room k X.A) (hg : X.A.guards = some []) (hb : Binds X.K fd ps []) (hx : PassesAt CX X σ E)
    (I : L2.Inv X pins σ H s) (r : Vals vs us) (h : sp vs H Q E) : wpAny (model X.prog X.w) X.A (call (.ref f) us) (EP X pins σ Q) X.xe s := by
  have hl : us.length = ps.length := by rw [← r.length]; exact Fn.len _ _ _ _ h
  have hbi := hb s us I.kIn (by rw [List.append_nil]; exact hl)
  rw [List.append_nil] at hbi
  refine wpAny_call (codeAny_mono (Fn.run X.A X.stack s H ⟨us, []⟩ us vs Q E hr hg I.env0 hbi r h) (fun r s' hq => ?_))
  cases r with
  | error e => exact hx pins H s e s' I hq
  | ok fl => cases fl with
    | ret u => exact I.after hq
    | next => exact hq.elim
    | brk => exact hq.elim
    | cont => exact hq.elim
theorem pe_callGS {W : WX} (Fn : FnG X.prog X.w X.K X.mg X.base (L2.CX X.prog X.w) k f fd ps sp) (hr : Room k X.A) (hgd : X.A.guards = some []) (hg : Gl X x) (hm : X.mg x = some (.ref f)) (hk : PySem.W.keepIn X.K (.ref f) = true) (hb : Binds X.K fd ps []) (tk : Takes X W)
    (ha : PA X (e :: es) t) (hdb : (x == ("__debug__" : Str)) = false := by decide) (he : starEach (e :: es) X.env = (false, eval e X.env) :: starEach es X.env := by rfl) (hpl : (backTo pos (starEach es X.env)).any (·.1) = false := by rfl) :
    PE X (.Call (.Name x p) (e :: es) [] pos) (fun σ H Q => t σ H fun vs H1 => sp vs H1 Q (WE W σ)) := by
  constructor
  intro pins s σ H Q I h
  refine wpAny_Call_Name_kw (ld_glob I hg hm ?_ hdb)
  exact PySem.W.callWith_K (h₀ := X.base) I.ok.mod.kin hk (thn (ha.run pos pins s σ H _ I h) (fun us s1 ⟨vs, H1, I1, r, q⟩ => ⟨I1.kIn, run_fgS Fn hr hgd hb (passAt tk σ) I1 r q⟩)) he hpl
def sTry (i n : Nat) (F : List Val → S → Out S Val) (g : Exs S) (hd : Exn → Option D) : Sx S := fun ρ s => (noex (g ρ s)).bind fun ys s1 => if ys.length = n ∧ i < ρ.length then (match F ys s1 with
    | .ok y s2 => .ok (.rt y) s2
    | .ex e s2 => (match hd e with
      | some z => .ok (.rt (.d z)) s2
      | none => .bad)
    | .bad => .bad)
  else .bad
theorem ds_try {cx nx : Str} {np p2 p3 p4 : Pos} {b0 : Stmt} {suite : List Stmt} {i : Nat} {Cv : Value} {hd : Exn → Option D} (c : Ctx X B) (hi : X.N[i]? = some nx) (hln : X.env.kindOf nx = some .local) (hc : Names X cx Cv)
    (Fn : FnG X.prog X.w X.K X.mg X.base (L2.CX X.prog X.w) k f fd ps (spX B n F)) (hr : Room k X.A) (hm : X.mg x = some (.ref f)) (hk : PySem.W.keepIn X.K (.ref f) = true) (hb : Binds X.K fd ps [])
    (ha : ∀ (pn : List (Addr × Obj)) (xe : Value → Shared → Prop), DV (X.tr pn xe) B E00 (e :: es) g) (gv : Gives X B i (b0 :: suite) hd) (hex : ∀ e z C, hd e = some z → B.cls e.c = some C → PySem.W.exmOne X.K (.ref C) Cv = some true)
    (hs : X.stack = X.env :: X.outer := by rfl) (hf : X.env.frame = some X.env.locals := by rfl)
    (hg : Gl X x := by rfl) (hdb : (x == ("__debug__" : Str)) = false := by decide) (he : starEach (e :: es) X.env = (false, eval e X.env) :: starEach es X.env := by rfl) (hpl : (backTo pos (starEach es X.env)).any (·.1) = false := by rfl) :
    DS X B E (.Try [.Return (some (.Call (.Name x p) (e :: es) [] pos)) p2] [.ExceptHandler (some (.Name cx np)) (some nx) (b0 :: suite) p3] [] [] p4) (sTry i n F g hd) := by
  refine ps_imp (ps_try_as (tb := fun W => tRet (fun σ H Q => tVs B E00 g σ H fun vs H1 => spX B n F vs H1 Q (WE W σ))) (ts := gv.ts) (Wout := fun _ _ _ _ => False) hs hf c.nd hi hln hc takes0
    (fun W pn xe tk _ => pss_one (ps_ret (pe_callGS (X := X.tr pn xe) Fn hr c.gd hg hm hk hb tk (ha pn xe) hdb he hpl))) (fun a oe cls d pn hz hf => gv.ok a oe cls d pn hz hf)) fun Dd σ H ⟨G, own, ρ, s, R, q⟩ => ?_
  refine ⟨G, own, ρ, s, R, (noex_sat (Out.sat.bnd q)).mono fun ys s1 q1 vs H1 k1 r1 => ?_⟩
  have R1 := R.stp k1
  split at q1
  · rename_i hl
    refine ⟨Av G own, ys, s1, hl.1, call0_of R1 r1, ?_⟩
    cases hF : F ys s1 with
    | bad => rw [hF] at q1; exact q1.elim
    | ok y s2 =>
      rw [hF] at q1
      exact fun v H' c1 rv => q1 v H' (R1.stp (stp_of R1 c1)).frG (rv.mono fun a z => .inl z)
    | ex e s2 =>
      rw [hF] at q1
      intro C od H' c1 ex
      have R2 := R1.stp (stp_of R1 c1)
      cases hz : hd e with
      | none => simp only [hz] at q1; exact q1.elim
      | some z =>
        simp only [hz] at q1
        refine ⟨true, hex e z C hz ex.1, fun _ a _ => ?_, fun z => Bool.noConfusion z⟩
        refine gv.rd e z G.A0 a C od _ H' _ hz (ex.mono fun a z => .inl z) ?_ (fun p hp z => R2.wf2 p z hp) fun v H'' sm rv => ?_
        · rw [List.getElem?_set_self (by rw [← R.len]; exact hl.2)]
        · exact q1 v H'' (R2.stp (R2.same sm)).frG rv
  · exact q1.elim
end
theorem kit_own {K : PySem.W.Frag} {C C' : Addr} (h1 : PySem.W.isClsIn K C' = true) (h2 : PySem.W.typeIn K (.ref C') = some (.type "type")) (h3 : PySem.W.subIn K (.ref C) (.ref C') = some true) : PySem.W.kitOne K (.ref C) (.ref C') = some true := by
  unfold PySem.W.kitOne
  split
  · rfl
  · have e2 : ((PySem.W.clsIn K C').isSome && PySem.W.typeIn K (.ref C') == some (.type "type")) = true := by
      have h1' : (PySem.W.clsIn K C').isSome = true := h1
      rw [h1', h2] <;> rfl
    show (if ((PySem.W.clsIn K C').isSome && PySem.W.typeIn K (.ref C') == some (.type "type")) = true then PySem.W.subIn K (.ref C) (.ref C') else none) = some true
    rw [if_pos e2]
    exact h3
theorem kit_VE {K : PySem.W.Frag} {C : Addr} (h : PySem.W.subIn K (.ref C) (.type "ValueError") = some true) : PySem.W.kitOne K (.ref C) (.type "ValueError") = some true := by
  unfold PySem.W.kitOne
  rw [if_neg (by intro z; cases beq_iff_eq.mp z)]
  show (if PySem.W.kitMeta "ValueError" = true then PySem.W.subIn K (.ref C) (.type "ValueError") else none) = some true
  rw [if_pos (by decide +kernel)]
  exact h
theorem hex_of {K : PySem.W.Frag} {B : Bs} {nm : Str} {mk : List D → D} {ks : List Str} {C0 : Addr} {Cv : Value} (hC : B.cls nm = some C0) (h : PySem.W.exmOne K (.ref C0) Cv = some true) : ∀ e z C, hdL nm mk ks e = some z → B.cls e.c = some C → PySem.W.exmOne K (.ref C) Cv = some true := by
  intro e z C he hc
  unfold hdL at he
  split at he
  · rename_i hn
    rw [hn, hC] at hc
    cases hc
    exact h
  · cases he
theorem xc_then {G : Prop} {K : PySem.W.Frag} {h : Heap} {mg : Str → Option Value} {nm qual : Str} {st : Stmt} {ks : List Str} {C f1 : Addr} {cn q : Str} {N : Addr} {bs bm : List Value} {sn : List Str} {sub : List Value} {ab : Bool} {col : Option Bool} {dd : Option Addr} {m0 m1 m2 m3 m5 : Option Value}
    {od an : Option Addr} {sl : Array (Option Value)} {oc kV dc pm cd ct : Value} (X : K.In h) (Ng : h.Ns mainGlobals mg) (aC : PySem.W.nsIn K mainGlobals nm = some (some (.ref C)))
    (xL : K.lookup C = some (excClassObj cn q C N bs bm true sn sub ab col dd m0 m1 m2 m3 m5 "ValueError.__new__")) (hbm : PySem.HandSPX.refsVE bm = true)
    (sa : PySem.W.findIn K (.ref C) "__setattr__" = some (some (.builtin "object.__setattr__"))) (ga : PySem.W.findIn K (.ref C) "__getattribute__" = some (some (.builtin "BaseException.__getattribute__"))) (gg : PySem.W.findIn K (.ref C) "__getattr__" = some none)
    (a1 : PySem.W.findIn K (.ref C) "__init__" = some (some (.ref f1))) (t1 : PySem.W.typeIn K (.ref f1) = some (.type "function"))
    (l1 : K.lookup f1 = some ⟨oc, od, .func (PySem.W.fnOf "__init__" qual (defArgs st) (defBody st) (defScope st) .none kV dc pm an cd ct), sl⟩) (c1 : PySem.W.codeIn K cd qual = true) (kf : PySem.W.keepIn K (.ref f1) = true)
    (kC : PySem.W.keepIn K (.ref C) = true) (eC : PySem.W.subIn K (.ref C) (.type "BaseException") = some true) (tC : PySem.W.typeIn K (.ref C) = some (.type "type")) (hC : PySem.W.hasDictIn K C = true)
    (ha : PySem.W.findIn K (.ref C) "__class__" = some (some (.builtin "object.__class__"))) (hn : PySem.W.specialIn K (.builtin "object.__class__") "__get__" = some (some (.builtin "getset_descriptor.__get__"))) (ht : PySem.W.takesIn K (.builtin "object.__class__") = some true) (hm : PySem.W.mroIn K C (.type "object") = some true)
    (no : ∀ f ∈ ks, PySem.W.findIn K (.ref C) f = some none) (z : ∀ x : Xc K mg nm qual st ks, x.C = C → G) : G :=
  z ⟨C, f1, _, fun_mk l1 c1 kf, PySem.W.mg_of X Ng aC, ⟨⟨⟨cn, q, N, bs, bm, sn, sub, ab, col, dd, m0, m1, m2, m3, m5, xL, hbm⟩, sa, eC, tC, kC⟩, ga, gg, hC, ha, hn, ht, hm⟩, a1, t1, no⟩ rfl
theorem no2 {K : PySem.W.Frag} {C : Addr} {f g : Str} (h1 : PySem.W.findIn K (.ref C) f = some none) (h2 : PySem.W.findIn K (.ref C) g = some none) : ∀ x ∈ [f, g], PySem.W.findIn K (.ref C) x = some none := by
  intro x hx
  have hx : x = f ∨ x = g := by simpa using hx
  rcases hx with rfl | rfl
  · exact h1
  · exact h2
end DL
namespace DL
open PySem PySem.Spec PyProof.Rows L2 PyProof
def hits (m : Nat) : Nat → Nat → Nat → Nat
  | 0, _, acc => acc
  | n + 1, x, acc => hits m n ((x * 5 + 1) % (m + 1)) (acc ||| (1 <<< x))
def goN (m : Nat) : Nat → Nat → Nat
  | 0, x => x
  | n + 1, x => goN m n ((x * 5 + 1) % (m + 1))
theorem lcg_in (m x : Nat) : ∀ b, lcgI m ((x * 5 + 1) % (m + 1)) b = lcgI m x (b + 1)
  | 0 => rfl
  | b + 1 => by
    show (lcgI m ((x * 5 + 1) % (m + 1)) b * 5 + 1) % (m + 1) = (lcgI m x (b + 1) * 5 + 1) % (m + 1)
    rw [lcg_in m x b]
theorem goN_eq (m : Nat) : ∀ n x, goN m n x = lcgI m x n
  | 0, _ => rfl
  | n + 1, x => by rw [← lcg_in]; exact goN_eq m n _
theorem hits_met (m j : Nat) : ∀ n x acc, (hits m n x acc).testBit j = true → acc.testBit j = true ∨ ∃ b, b < n ∧ lcgI m x b = j
  | 0, _, _, h => .inl h
  | n + 1, x, acc, h => by
    rcases hits_met m j n _ _ h with h | ⟨b, hb, e⟩
    · rw [Nat.testBit_or, Bool.or_eq_true] at h
      rcases h with h | h
      · exact .inl h
      · refine .inr ⟨0, by omega, ?_⟩
        rw [Nat.testBit_shiftLeft, Bool.and_eq_true, decide_eq_true_eq] at h
        show x = j
        by_cases c : j - x = 0
        · omega
        · have h2 := h.2
          obtain ⟨k, ek⟩ : ∃ k, j - x = k + 1 := ⟨j - x - 1, by omega⟩
          rw [ek, Nat.testBit_succ] at h2
          simp at h2
    · exact .inr ⟨b + 1, by omega, by rw [← lcg_in]; exact e⟩
theorem lcgI_add (m x a : Nat) : ∀ k, lcgI m (lcgI m x a) k = lcgI m x (a + k)
  | 0 => rfl
  | k + 1 => by
    show (lcgI m (lcgI m x a) k * 5 + 1) % (m + 1) = (lcgI m x (a + k) * 5 + 1) % (m + 1)
    rw [lcgI_add m x a k]
/-- a mask by which all slots are met -/
structure Mk (m : Nat) : Prop where
  odd : m % 2 = 1
  big : m = 7 ∨ m = 31 ∨ m = 127 ∨ m = 511 ∨ m = 2047
  all : ∀ (h : Int) (j : Nat), j ≤ m → ∃ n, n ≤ m + 12 ∧ runI m (SetTable.bits h) n = j
theorem Mk.of {m : Nat} (ho : m % 2 = 1) (hb : m = 7 ∨ m = 31 ∨ m = 127 ∨ m = 511 ∨ m = 2047) (h1 : hits m (m + 1) 0 0 = 2 ^ (m + 1) - 1) (h2 : goN m (m + 1) 0 = 0) : Mk m := by
  have met : ∀ j, j ≤ m → ∃ b, b < m + 1 ∧ lcgI m 0 b = j := fun j hj => by
    rcases hits_met m j (m + 1) 0 0 (by rw [h1, Nat.testBit_two_pow_sub_one]; exact decide_eq_true (by omega)) with h | h
    · simp at h
    · exact h
  have per : ∀ k, lcgI m 0 (m + 1 + k) = lcgI m 0 k := fun k => by rw [← lcgI_add, ← goN_eq m (m + 1) 0, h2]
  refine ⟨ho, hb, fun h j hj => ?_⟩
  obtain ⟨a, ha, ea⟩ := met _ (runI_le m (SetTable.bits h) 12)
  obtain ⟨b, hb', eb⟩ := met j hj
  have fin : ∀ k, k ≤ m → lcgI m (runI m (SetTable.bits h) 12) k = j → ∃ n, n ≤ m + 12 ∧ runI m (SetTable.bits h) n = j := fun k hk e => ⟨12 + k, by omega, by rw [runI_tail (bits_lt h)]; exact e⟩
  rcases Nat.lt_or_ge b a with c | c
  · refine fin (b + (m + 1) - a) (by omega) ?_
    rw [← ea, lcgI_add, show a + (b + (m + 1) - a) = m + 1 + b by omega, per, eb]
  · refine fin (b - a) (by omega) ?_
    rw [← ea, lcgI_add, show a + (b - a) = b by omega, eb]
theorem mk7 : Mk 7 := .of (by decide) (by decide) (by decide +kernel) (by decide +kernel)
theorem mk31 : Mk 31 := .of (by decide) (by decide) (by decide +kernel) (by decide +kernel)
theorem mk127 : Mk 127 := .of (by decide) (by decide) (by decide +kernel) (by decide +kernel)
theorem mk511 : Mk 511 := .of (by decide) (by decide) (by decide +kernel) (by decide +kernel)
theorem mk2047 : Mk 2047 := .of (by decide) (by decide) (by decide +kernel) (by decide +kernel)
theorem Mk.met {m : Nat} (k : Mk m) (h : Int) {j : Nat} (hj : j ≤ m) : ∃ c, c < 10 * SetTable.turns m ∧ way m h c = j := by
  obtain ⟨n, hn, e⟩ := k.all h j hj
  obtain ⟨c, hc, e2⟩ := run_nth m (SetTable.bits h) n
  exact ⟨c, by unfold SetTable.turns; omega, by show (nth m _ c).j = j; rw [e2]; exact e⟩
theorem way_in (m : Nat) (h : Int) (k : Nat) : way m h k ≤ m := by
  have a : SetTable.bits h % (m + 1) ≤ m := Nat.le_of_lt_succ (Nat.mod_lt _ (Nat.succ_pos _))
  have b := (runEnd_bd a).1
  have c := nth_in (m := m) k (runAt m (SetTable.bits h % (m + 1)) (SetTable.bits h)) (by unfold runAt; dsimp only; omega)
  exact Nat.le_trans (Nat.le_add_right _ _) c
structure Tbl (t : SetTable) (hs : List Int) : Prop where
  ris : Ris t.place.toList
  dm : t.dummies = #[]
  sz : t.place.size = hs.length
  ma : Mk t.mask
  bd : ∀ x ∈ t.place.toList, x ≤ t.mask
  got : ∀ (i : Nat) (h : Int) (j : Nat), hs[i]? = some h → t.place.toList[i]? = some j → ∃ k, way t.mask h k = j ∧ ∀ c, c < k → way t.mask h c ∈ t.place.toList
theorem Tbl.first {t : SetTable} {hs : List Int} (T : Tbl t hs) (hl : hs.length ≤ t.mask) (h : Int) : ∃ K, K < 10 * SetTable.turns t.mask ∧ way t.mask h K ∉ t.place.toList ∧ ∀ c, c < K → way t.mask h c ∈ t.place.toList := by
  obtain ⟨j, hj, hn⟩ := st_missing t.place.toList (t.mask + 1) (by rw [Array.length_toList, T.sz]; omega)
  obtain ⟨k, hk, e⟩ := T.ma.met h (Nat.le_of_lt_succ hj)
  obtain ⟨K, h1, h2, h3⟩ := st_least (p := fun c => way t.mask h c ∉ t.place.toList) k (by show way t.mask h k ∉ t.place.toList; rw [e]; exact hn)
  exact ⟨K, by omega, h2, fun c hc => Classical.byContradiction fun z => h3 c hc z⟩
theorem Tbl.before {t : SetTable} {hs : List Int} (T : Tbl t hs) {h : Int} {K i j : Nat} (hK : way t.mask h K ∉ t.place.toList) (hi : hs[i]? = some h) (hj : t.place.toList[i]? = some j) : ∃ c, c < K ∧ way t.mask h c = j := by
  obtain ⟨k, e, hb⟩ := T.got i h j hi hj
  refine ⟨k, ?_, e⟩
  rcases Nat.lt_trichotomy k K with c | c | c
  · exact c
  · exact absurd (List.mem_of_getElem? hj) (by rw [← e, c]; exact hK)
  · exact absurd (hb K c) hK
theorem Tbl.put {t : SetTable} {hs : List Int} (T : Tbl t hs) {h : Int} {j K : Nat} (ej : j = way t.mask h K) (hK : j ∉ t.place.toList) (hb : ∀ c, c < K → way t.mask h c ∈ t.place.toList) :
    SetTable.below t.place j ≤ hs.length ∧ Tbl (t.put j).1 (hs.take (SetTable.below t.place j) ++ h :: hs.drop (SetTable.below t.place j)) ∧ (t.put j).1.fill = hs.length + 1 := by
  have hjm : j ≤ t.mask := by rw [ej]; exact way_in _ _ _
  have c1 := (below_cut T.ris j).1
  have hl : t.place.toList.length = hs.length := by rw [Array.length_toList]; exact T.sz
  have hpl : SetTable.below t.place j ≤ t.place.toList.length := by rw [Array.length_toList]; exact c1
  have hph : SetTable.below t.place j ≤ hs.length := by rw [← hl]; exact hpl
  have hpp := put_place t j
  have hnp : t.place[SetTable.below t.place j]? ≠ some j := fun e => hK (List.mem_of_getElem? (by rw [Array.getElem?_toList]; exact e))
  have hsize : (t.put j).1.place.size = hs.length + 1 := by rw [← Array.length_toList, hpp, len_ins _ hpl, hl]
  have up : ∀ x, x ∈ t.place.toList → x ∈ (t.put j).1.place.toList := fun x hx => by rw [hpp]; exact mem_ins.2 (.inr hx)
  refine ⟨hph, ⟨ris_insert T.ris hnp, put_dm T.dm j, by rw [len_ins _ hph]; exact hsize, T.ma, fun x hx => ?_, fun i h' j' h1 h2 => ?_⟩, ?_⟩
  · rw [hpp] at hx
    rcases mem_ins.1 hx with z | z
    · rw [z]; exact hjm
    · exact T.bd x z
  · rw [tins_get hs hph] at h1
    rw [hpp, tins_get _ hpl] at h2
    have old : ∀ i, hs[i]? = some h' → t.place.toList[i]? = some j' → ∃ k, way (t.put j).1.mask h' k = j' ∧ ∀ c, c < k → way (t.put j).1.mask h' c ∈ (t.put j).1.place.toList := fun i h1 h2 => by
      obtain ⟨k, e, z⟩ := T.got i h' j' h1 h2
      exact ⟨k, e, fun c hc => up _ (z c hc)⟩
    by_cases c : i < SetTable.below t.place j
    · rw [if_pos c] at h1 h2; exact old i h1 h2
    · rw [if_neg c] at h1 h2
      by_cases d : i = SetTable.below t.place j
      · rw [if_pos d] at h1 h2
        cases h1; cases h2
        exact ⟨K, ej.symm, fun c hc => up _ (hb c hc)⟩
      · rw [if_neg d] at h1 h2; exact old (i - 1) h1 h2
  · show (t.put j).1.place.size + (t.put j).1.dummies.size = hs.length + 1
    rw [hsize, put_dm T.dm j]; rfl
theorem free_at {m : Nat} (hm : Mk m) (owner : Array (Option Nat)) (h : Int) {j : Nat} (hj : j ≤ m) (hf : oAt owner j = none) :
    ∃ K, SetTable.layClean.free m owner (SetTable.turns m) (SetTable.bits h % (m + 1)) (SetTable.bits h) = some (way m h K) ∧ oAt owner (way m h K) = none ∧ ∀ c, c < K → oAt owner (way m h c) ≠ none := by
  obtain ⟨n, hn, e⟩ := hm.all h j hj
  have hw : oAt owner (way m h (off m (SetTable.bits h % (m + 1)) (SetTable.bits h) n)) = none := by
    have e2 : way m h (off m (SetTable.bits h % (m + 1)) (SetTable.bits h) n) = j := by show (nth m (runAt m _ _) _).j = j; rw [nth_off, itL_run]; exact e
    rw [e2]; exact hf
  obtain ⟨K, k1, k2, k3⟩ := st_least (p := fun c => oAt owner (way m h c) = none) _ hw
  refine ⟨K, free_spec m owner (SetTable.turns m) n _ _ K (by unfold SetTable.turns; omega) k1 (fun c hc => ?_) ?_, k2, k3⟩
  · have q := k3 c hc
    generalize oAt owner (way m h c) = z at q ⊢
    cases z with
    | none => exact absurd rfl q
    | some _ => rfl
  · show (oAt owner (way m h K)).isNone = true
    rw [k2]; rfl
theorem own_step {m : Nat} (hm : Mk m) {done : List Int} {owner : Array (Option Nat)} (W : L2.Own m done owner) (hl : done.length ≤ m) (h : Int) :
    ∃ j, SetTable.layClean.free m owner (SetTable.turns m) (SetTable.bits h % (m + 1)) (SetTable.bits h) = some j ∧ L2.Own m (done ++ [h]) (owner.setIfInBounds j (some done.length)) := by
  obtain ⟨ps, hps, hin⟩ := W.ps
  obtain ⟨j0, h0, hn0⟩ := st_missing ps (m + 1) (by omega)
  obtain ⟨K, e1, e2, e3⟩ := free_at hm owner h (Nat.le_of_lt_succ h0) (Classical.byContradiction fun z => hn0 (hin j0 (Nat.le_of_lt_succ h0) z))
  obtain ⟨w, ew⟩ : ∃ w, w = way m h K := ⟨_, rfl⟩
  have hwm : w ≤ m := by rw [ew]; exact way_in _ _ _
  rw [← ew] at e1 e2
  have self := oAt_set_self (owner := owner) (some done.length) (by rw [W.sz]; omega : w < owner.size)
  have mono : ∀ i, oAt owner i ≠ none → oAt (owner.setIfInBounds w (some done.length)) i ≠ none := fun i hi => by
    by_cases c : i = w
    · rw [c, self]; exact fun e => nomatch e
    · rw [oAt_set_ne _ c]; exact hi
  refine ⟨w, e1, by rw [Array.size_setIfInBounds]; exact W.sz, fun j k hj e => ?_, fun k hk => ?_, w :: ps, by rw [List.length_cons, List.length_append, hps]; rfl, fun j hj e => ?_⟩
  · by_cases c : j = w
    · rw [c, self] at e
      cases e
      exact ⟨h, K, by rw [List.getElem?_append_right (Nat.le_refl _), Nat.sub_self]; rfl, by rw [c, ew], fun k' hk' => mono _ (e3 k' hk')⟩
    · rw [oAt_set_ne _ c] at e
      obtain ⟨h', K', a1, a2, a3⟩ := W.at_ j k hj e
      exact ⟨h', K', by rw [List.getElem?_append_left (List.getElem?_eq_some_iff.mp a1).1]; exact a1, a2, fun k' hk' => mono _ (a3 k' hk')⟩
  · rw [List.length_append, List.length_singleton] at hk
    by_cases c : k < done.length
    · obtain ⟨j, hj, e⟩ := W.all k c
      exact ⟨j, hj, by rw [oAt_set_ne _ (fun z => by rw [z, e2] at e; cases e)]; exact e⟩
    · exact ⟨w, hwm, by rw [show k = done.length by omega]; exact self⟩
  · by_cases c : j = w
    · rw [c]; exact .head _
    · rw [oAt_set_ne _ c] at e; exact .tail _ (hin j hj e)
theorem fold_own {m : Nat} (hm : Mk m) : ∀ (rest done : List Int) (owner : Array (Option Nat)), L2.Own m done owner → done.length + rest.length ≤ m →
    ∃ o2, rest.foldl (stepF m) (some (owner, done.length)) = some (o2, (done ++ rest).length) ∧ L2.Own m (done ++ rest) o2
  | [], done, owner, W, _ => ⟨owner, by rw [List.append_nil]; rfl, by rw [List.append_nil]; exact W⟩
  | h :: rest, done, owner, W, hl => by
    rw [List.length_cons] at hl
    obtain ⟨j, e, W'⟩ := own_step hm W (by omega) h
    have hl' : (done ++ [h]).length = done.length + 1 := List.length_append
    obtain ⟨o2, f, W2⟩ := fold_own hm rest (done ++ [h]) _ W' (by omega)
    rw [List.append_assoc] at f W2
    exact ⟨o2, by rw [List.foldl_cons, stepF_some e, ← hl']; exact f, W2⟩
theorem lay_own {m : Nat} (hm : Mk m) {hs : Array Int} (hn : hs.size ≤ m) : ∃ owner, SetTable.layClean m hs = some owner ∧ L2.Own m hs.toList owner := by
  obtain ⟨owner, f, W⟩ := fold_own hm hs.toList [] _ (L2.Own.init m) (by rw [Array.length_toList]; simpa using hn)
  refine ⟨owner, ?_, W⟩
  have f : hs.toList.foldl (stepF m) (some (Array.replicate (m + 1) none, 0)) = some (owner, ([] ++ hs.toList).length) := f
  rw [layClean_eq, f]; rfl
theorem relaid_tbl (t : SetTable) {hs : Array Int} {wanted M : Nat} (hw : SetTable.sizeAbove wanted - 1 = M) (hM : Mk M) (hn : hs.size ≤ M) :
    ∃ t' order, t.relaid hs wanted = some (t', order) ∧ order.toList.Perm (List.range hs.size) ∧ Tbl t' (order.toList.map fun i => hs.getD i 0) ∧ t'.mask = M ∧ t'.led = t.led ∧ t'.plain = t.plain := by
  obtain ⟨owner, e, W⟩ := lay_own hM hn
  have hr : t.relaid hs wanted = some (tabOf t M owner, ((liveOf M owner).map (·.2)).toArray) := by rw [relaid_eq, hw, e]; rfl
  obtain ⟨r1, r2⟩ := ris_live (fun j => owner.getD j none) (List.range (M + 1)) (by unfold Ris; exact List.pairwise_lt_range)
  have r1 : Ris ((liveOf M owner).map (·.1)) := r1
  have r2 : ∀ x ∈ (liveOf M owner).map (·.1), x ∈ List.range (M + 1) := r2
  have has : ∀ k, k < hs.size → k ∈ (liveOf M owner).map (·.2) := fun k hk => by
    obtain ⟨j, b1, b2⟩ := W.all k (by rw [Array.length_toList]; exact hk)
    exact List.mem_map.mpr ⟨(j, k), (mem_live W.sz).2 ⟨b1, b2⟩, rfl⟩
  have hlen : (liveOf M owner).length = hs.size := by
    obtain ⟨ps, p1, p2⟩ := W.ps
    have nd : ((liveOf M owner).map (·.1)).Nodup := r1.imp fun h => Nat.ne_of_lt h
    have a := nat_nodup_len _ ps nd fun x hx => by
      obtain ⟨⟨y, k⟩, hq, rfl⟩ := List.mem_map.mp hx
      obtain ⟨b1, b2⟩ := (mem_live W.sz).1 hq
      exact p2 y b1 (by rw [b2]; exact fun z => nomatch z)
    have b := nat_nodup_len (List.range hs.size) ((liveOf M owner).map (·.2)) List.nodup_range fun k hk => has k (List.mem_range.mp hk)
    have hz : hs.toList.length = hs.size := rfl
    rw [List.length_map, p1] at a
    rw [List.length_map, List.length_range] at b
    omega
  refine ⟨tabOf t M owner, ((liveOf M owner).map (·.2)).toArray, hr, perm_range hs.size _ (by show ((liveOf M owner).map (·.2)).length = _; rw [List.length_map, hlen]) has, ⟨r1, rfl, ?_, hM, fun x hx => Nat.le_of_lt_succ (List.mem_range.mp (r2 x hx)), fun i h j h1 h2 => ?_⟩, rfl, rfl, rfl⟩
  · show ((liveOf M owner).map (·.1)).toArray.size = (((liveOf M owner).map (·.2)).map fun i => hs.getD i 0).length
    simp
  · have h1 : (((liveOf M owner).map (·.2)).map fun i => hs.getD i 0)[i]? = some h := h1
    have h2 : ((liveOf M owner).map (·.1))[i]? = some j := h2
    rw [List.getElem?_map, List.getElem?_map] at h1
    rw [List.getElem?_map] at h2
    cases hq : (liveOf M owner)[i]? with
    | none => rw [hq] at h2; cases h2
    | some q =>
      obtain ⟨y, k⟩ := q
      rw [hq] at h1 h2
      have ej : y = j := Option.some.inj h2
      have eh : hs.getD k 0 = h := Option.some.inj h1
      subst ej
      obtain ⟨b1, b2⟩ := (mem_live W.sz).1 (List.mem_of_getElem? hq)
      obtain ⟨h0, K, a1, a2, a3⟩ := W.at_ y k b1 b2
      have e0 : hs.getD k 0 = h0 := by rw [Array.getD_eq_getD_getElem?, ← Array.getElem?_toList, a1]; rfl
      have e1 : h = h0 := eh.symm.trans e0
      subst e1
      refine ⟨K, a2, fun c hc => ?_⟩
      show way M h c ∈ (liveOf M owner).map (·.1)
      cases z : oAt owner (way M h c) with
      | none => exact absurd z (a3 c hc)
      | some k2 => exact List.mem_map.mpr ⟨(way M h c, k2), (mem_live W.sz).2 ⟨way_in _ _ _, z⟩, rfl⟩
end DL
namespace DL
open PySem PySem.Spec PyProof.Rows L2 PyProof
/-- keys of whole numbers alone -/
def numK : NestedKey → Bool
  | .num _ => true
  | .tup ks => numKs ks
  | .none => false
  | .text _ => false
where numKs : List NestedKey → Bool
  | [] => true
  | k :: ks => numK k && numKs ks
section
variable {P : Program} {w : World}
/-- no class statement in it -/
def ClsAt (P : Program) (w : World) (n : Nat) (s : Shared) (v : Value) : Prop := ∀ (A : Around) (E : Value → Shared → Prop) (Q : Bool → Shared → Prop), Q false s → wpAny (model P w) A (ofAClassStatement n v) Q E s
/-- its hash is by value -/
def HbvAt (P : Program) (w : World) (n : Nat) (s : Shared) (v : Value) : Prop := ∀ (A : Around) (E : Value → Shared → Prop) (Q : Bool → Shared → Prop), Q true s → wpAny (model P w) A (hashByValue n v) Q E s
theorem cls_tup {n : Nat} {s : Shared} {a : Addr} {o : Obj} {vs : Array Value} {m : Nat} (ho : s.heap.get? a = some o) (hc : o.cls = .type "tuple") (hd : o.data = .seq vs m) (hq : ∀ v ∈ vs.toList, ClsAt P w n s v) : ClsAt P w (n + 1) s (.ref a) := fun A E Q h => by
  unfold ofAClassStatement; refine wpAny_bind (wpAny_typeOf ⟨o, ho, hc⟩ ?_); dsimp only
  have e : (("tuple" : String) == "tuple") = true := by decide
  simp only [e, if_true, Bool.not_true, Bool.false_eq_true, if_false]; try refine wpAny_bind (wpAny_pure ?_)
  try simp only [Bool.not_true, Bool.false_eq_true, if_false]
  refine wpAny_bind (m := seqItems? (.ref a)) (wpAny_seqItems ho hd ?_); dsimp only; refine wpAny_bind ?_
  show wpAny _ _ (forIn vs _ _) _ _ s; rw [← Array.forIn_toList]
  refine wpAny_forIn_list _ (fun rest r s' => r.1 = none ∧ s' = s ∧ ∀ v ∈ rest, ClsAt P w n s v) _ ?_ ?_ _ _ ⟨rfl, rfl, hq⟩
  · rintro v rest r z ⟨hr, rfl, ha⟩; refine wpAny_bind (ha v (.head _) _ _ _ ?_)
    simp only [Bool.false_eq_true, if_false]; exact wpAny_pure ⟨rfl, rfl, fun u hu => ha u (.tail _ hu)⟩
  · rintro ⟨r1, r2⟩ z ⟨hr, rfl, _⟩; simp only at hr; subst hr; exact wpAny_pure h
theorem hbv_tup {n : Nat} {s : Shared} {a : Addr} {o : Obj} {vs : Array Value} {m : Nat} (ho : s.heap.get? a = some o) (hc : o.cls = .type "tuple") (hd : o.data = .seq vs m) (hq : ∀ v ∈ vs.toList, HbvAt P w n s v) : HbvAt P w (n + 1) s (.ref a) := fun A E Q h => by
  have hT : s.TypeIs (.ref a) "tuple" := ⟨o, ho, hc⟩
  unfold hashByValue; refine wpAny_bind (wpAny_specialOf hT F.slot_tuple_hash.lookup ?_)
  refine wpAny_bind (m := seqItems? (.ref a)) (wpAny_seqItems ho hd ?_); refine wpAny_bind ?_
  show wpAny _ _ (forIn vs _ _) _ _ s; rw [← Array.forIn_toList]
  refine wpAny_forIn_list _ (fun rest r s' => r.1 = none ∧ s' = s ∧ ∀ v ∈ rest, HbvAt P w n s v) _ ?_ ?_ _ _ ⟨rfl, rfl, hq⟩
  · rintro v rest r z ⟨hr, rfl, ha⟩; refine wpAny_bind (ha v (.head _) _ _ _ ?_)
    simp only [Bool.not_true, Bool.false_eq_true, if_false]; exact wpAny_pure ⟨rfl, rfl, fun u hu => ha u (.tail _ hu)⟩
  · rintro ⟨r1, r2⟩ z ⟨hr, rfl, _⟩; simp only at hr; subst hr; exact wpAny_pure h
mutual
theorem num_cls : ∀ (k : NestedKey) (v : Value) (n : Nat) (s : Shared), NestedIs s.heap k v → numK k = true → k.depth ≤ n → ClsAt P w n s v ∧ HbvAt P w n s v
  | .num i, _, n, s, x, _, _ => by
    cases x with
    | bool _ => exact ⟨fun A E Q h => by cases n <;> exact wpAny_pure h, fun A E Q h => by cases n <;> exact wpAny_pure h⟩
    | int _ t => exact ⟨fun A E Q h => by cases n <;> exact wpAny_pure h, fun A E Q h => by cases n <;> exact wpAny_pure h⟩
  | .none, _, _, _, _, h, _ => by simp [numK] at h
  | .text _, _, _, _, _, h, _ => by simp [numK] at h
  | .tup ks, _, n, s, x, h, hn => by
    cases x with
    | tup hg hc hd hk =>
      simp only [NestedKey.depth] at hn
      cases n with
      | zero => omega
      | succ n =>
        have q := num_clss ks _ n s hk (by simpa [numK] using h) (by omega)
        exact ⟨cls_tup hg hc hd fun v hv => (q v hv).1, hbv_tup hg hc hd fun v hv => (q v hv).2⟩
theorem num_clss : ∀ (ks : List NestedKey) (vs : List Value) (n : Nat) (s : Shared), NestedAll s.heap ks vs → numK.numKs ks = true → NestedKey.depthAll ks ≤ n → ∀ v ∈ vs, ClsAt P w n s v ∧ HbvAt P w n s v
  | [], _, _, _, x, _, _, v, hv => by cases x; cases hv
  | k :: ks, _, n, s, x, h, hn, v, hv => by
    cases x with
    | cons x1 x2 =>
      simp only [numK.numKs, Bool.and_eq_true] at h
      simp only [NestedKey.depthAll] at hn
      have hn := Nat.max_le.mp hn
      rcases List.mem_cons.mp hv with e | hv
      · rw [e]; exact num_cls k _ n s x1 h.1 hn.1
      · exact num_clss ks _ n s x2 h.2 hn.2 v hv
end
/-- a tuple that may lie in such a set -/
def SK (h : Heap) (k : NestedKey) (a : Addr) : Prop := NestedIs h k (.ref a) ∧ k.depth ≤ 8 ∧ numK k = true
abbrev NP := Addr × NestedKey
def rowN (w : World) (L : List NP) : List (Int × Value) := L.map fun p => (p.2.hash w, Value.ref p.1)
structure STab (P : Program) (w : World) (h : Heap) (a : Addr) (L : List NP) (es : Array (Int × Value)) (ep : Nat) (t : SetTable) : Prop where
  ob : ∃ o, h.get? a = some o ∧ o.ExactSet ∧ o.data = .set es ep t
  rows : es.toList = rowN w L
  tab : Tbl t (L.map fun p => p.2.hash w)
  nd : (L.map (·.2)).Nodup
  tup : ∀ p ∈ L, SK h p.2 p.1
  pl : t.plain = true
  ld : w.params.followText "set-order" = true ∨ t.led = true
  room : L.length * 5 < t.mask * 3
theorem SK.keep {h h' : Heap} {k : NestedKey} {a : Addr} (x : SK h k a) (hk : ∀ c o, h.get? c = some o → h'.get? c = some o) : SK h' k a := ⟨NestedIs.at (fun b o _ _ e _ => hk b o e) _ _ x.1, x.2⟩
theorem SK.but {h h' : Heap} {k : NestedKey} {a b : Addr} {o : Obj} {es : Array (Int × Value)} {ep : Nat} {t : SetTable} (x : SK h k b) (ho : h.get? a = some o) (hd : o.data = .set es ep t) (hs : Heap.SameBut a h h') : SK h' k b :=
  ⟨NestedIs.at (fun c oc vs n e hc => (hs.2 c fun z => by rw [z, ho] at e; cases e; rw [hd] at hc; cases hc).trans e) _ _ x.1, x.2⟩
variable {A : Around} {E : Value → Shared → Prop} {s : Shared} {a : Addr} {L : List NP} {es : Array (Int × Value)} {ep : Nat} {t : SetTable}
theorem row_len {L : List NP} {es : Array (Int × Value)} (h : es.toList = rowN w L) : es.size = L.length := by
  have h := congrArg List.length h
  unfold rowN at h
  rwa [Array.length_toList, List.length_map] at h
theorem fits_of {t : SetTable} {n : Nat} (h1 : t.place.size = n) (h2 : t.dummies = #[]) (h3 : n ≤ t.mask) : t.fits n = true := by
  unfold SetTable.fits SetTable.fill
  rw [h2, Bool.and_eq_true, beq_iff_eq, decide_eq_true_eq]
  refine ⟨h1, ?_⟩
  show t.place.size + 0 ≤ t.mask
  omega
theorem STab.fits (R : STab P w s.heap a L es ep t) : t.fits es.size = true := by
  have h1 := R.tab.sz
  have h2 := row_len R.rows
  have h3 := R.room
  rw [List.length_map] at h1
  exact fits_of (by omega) R.tab.dm (by omega)
theorem STab.entry (R : STab P w s.heap a L es ep t) {i : Nat} {p : NP} (h : L[i]? = some p) : es[i]? = some (p.2.hash w, Value.ref p.1) := by
  rw [← Array.getElem?_toList, R.rows]
  unfold rowN
  rw [List.getElem?_map, h]; rfl
theorem STab.gw (R : STab P w s.heap a L es ep t) : ¬ t.gaveWay = true := by
  unfold SetTable.gaveWay; rw [R.tab.ma.odd]; decide
abbrev pth (t : SetTable) (h : Int) (c : Nat) : SetTable.Probe := nth t.mask (runAt t.mask (SetTable.bits h % (t.mask + 1)) (SetTable.bits h)) c
theorem pth_dummy (t : SetTable) (h : Int) (c : Nat) : (pth t h c).dummy = none := by
  have key : ∀ (n : Nat) (p : SetTable.Probe), p.dummy = none → (nth t.mask p n).dummy = none := by
    intro n
    induction n with
    | zero => exact fun p h => h
    | succ n ih => exact fun p h => ih _ (by unfold adv; split <;> exact h)
  exact key c _ rfl
/-- nothing is shown by a search among such tuples -/
theorem seen_num {k : NestedKey} {b : Addr} {Q : Bool → Shared → Prop} (hk : SK s.heap k b) {ys : List Value} (hy : ∀ y ∈ ys, ∃ k' c, y = Value.ref c ∧ SK s.heap k' c) (h : Q false s) :
    wpAny (model P w) A (searchCouldBeSeen (.ref b) ys) Q E s := by
  unfold searchCouldBeSeen; refine wpAny_bind ?_
  refine wpAny_forIn_list _ (fun rest r s' => r.1 = none ∧ s' = s ∧ ∀ y ∈ rest, ∃ k' c, y = Value.ref c ∧ SK s.heap k' c) _ ?_ ?_ _ _ ⟨rfl, rfl, hy⟩
  · rintro v rest r z ⟨hr, rfl, ha⟩
    obtain ⟨k', c, rfl, hc⟩ := ha v (.head _)
    have hr' : ∀ y ∈ rest, ∃ k' c, y = Value.ref c ∧ SK z.heap k' c := fun u hu => ha u (.tail _ hu)
    dsimp only
    by_cases hv : (b == c || (carriedByValue (.ref b) && carriedByValue (.ref c))) = true
    · exact wp_if_pos hv (wpAny_pure ⟨rfl, rfl, hr'⟩)
    · refine wp_if_neg hv (wpAny_bind ((nestedKind P w).quiet ⟨hk.1, hk.2.1⟩ ?_)); simp only [Bool.not_true, Bool.false_eq_true, if_false]
      refine wpAny_bind ((nestedKind P w).quiet ⟨hc.1, hc.2.1⟩ ?_); simp only [Bool.not_true, Bool.false_eq_true, if_false]
      refine wpAny_bind ((num_cls k _ 8 z hk.1 hk.2.2 hk.2.1).1 _ _ _ ?_); simp only [Bool.false_eq_true, if_false]
      refine wpAny_bind ((num_cls k' _ 8 z hc.1 hc.2.2 hc.2.1).1 _ _ _ ?_); simp only [Bool.false_eq_true, if_false]
      exact wpAny_pure ⟨rfl, rfl, hr'⟩
  · rintro ⟨r1, r2⟩ z ⟨hr, rfl, _⟩; simp only at hr; subst hr; exact wpAny_pure h
/-- the search, from the c-th place of the way on -/
theorem seek (R : STab P w s.heap a L es ep t) {x : Addr} {k : NestedKey} (hx : SK s.heap k x) (hu : A.units + 8 < cLine) {K : Nat} (hKf : K < 10 * SetTable.turns t.mask)
    (hK : way t.mask (k.hash w) K ∉ t.place.toList) (hKb : ∀ c, c < K → way t.mask (k.hash w) c ∈ t.place.toList) {Q : SetFound → Shared → Prop}
    (hin : k ∈ L.map (·.2) → Q (.there none) s) (hout : k ∉ L.map (·.2) → Q (.free (way t.mask (k.hash w) K) false) s) :
    ∀ (f c : Nat) (stand : Option SetTable.Probe), stand.getD (t.probeStart (k.hash w)) = pth t (k.hash w) c → c ≤ K → K - c < f →
      (∀ (i : Nat) p, L[i]? = some p → p.2 = k → ∃ c', c ≤ c' ∧ c' < K ∧ t.place.toList[i]? = some (way t.mask (k.hash w) c')) →
      wpAny (model P w) A (setSearchFrom a (.ref x) (k.hash w) true f stand) Q E s
  | 0, c, stand, _, _, hf, _ => absurd hf (Nat.not_lt_zero _)
  | f + 1, c, stand, hst, hc, hf, hre => by
    obtain ⟨o, ho, hex, hd⟩ := R.ob
    rw [setSearchFrom_succ]; refine wpAny_bind (wpAny_setState_of ho hd R.fits ?_); dsimp only; refine wp_if_neg R.gw ?_; try refine wpAny_bind (wpAny_pure ?_)
    have sh : ∀ q, nth t.mask (pth t (k.hash w) c) q = pth t (k.hash w) (c + q) := fun q => (nth_add t.mask c _ q).symm
    have e1 : ∀ q, (nth t.mask (pth t (k.hash w) c) q).j = way t.mask (k.hash w) (c + q) := fun q => congrArg SetTable.Probe.j (sh q)
    have hKc : c + (K - c) = K := by omega
    have spec := go_spec t R.tab.ris R.tab.dm (fun i => (es[i]?.map (·.1)).getD 0) (k.hash w) (10 * SetTable.turns t.mask) (K - c) _ (pth_dummy t (k.hash w) c) (by omega)
      (fun q hq => by rw [e1]; exact hKb (c + q) (by omega)) (by rw [e1, hKc]; exact hK)
    have hashAt : ∀ (i : Nat) p, L[i]? = some p → (fun i => (es[i]?.map (·.1)).getD 0) i = p.2.hash w := fun i p hp => by
      show (es[i]?.map (·.1)).getD 0 = _; rw [R.entry hp]; rfl
    rcases spec with ⟨q, i, hq, hi, hh, hno, hpr⟩ | ⟨hno, hpr⟩
    · have hpr' : t.probe (fun i => (es[i]?.map (·.1)).getD 0) (k.hash w) (stand.getD (t.probeStart (k.hash w))) = some (.candidate (way t.mask (k.hash w) (c + q)) i (pth t (k.hash w) (c + (q + 1)))) := by
        rw [hst, ← e1, ← sh]; exact hpr
      rw [hpr']; dsimp only; rw [e1] at hi
      have hil : i < L.length := by
        have h1 : i < t.place.toList.length := (List.getElem?_eq_some_iff.mp hi).1
        have h2 := R.tab.sz
        rw [List.length_map] at h2
        rw [Array.length_toList] at h1
        omega
      obtain ⟨p, hp⟩ : ∃ p, L[i]? = some p := ⟨_, List.getElem?_eq_getElem hil⟩
      have hmem : p ∈ L := List.mem_of_getElem? hp
      have hpt := R.tup p hmem
      have rest : wpAny (model P w) A (searchRest a (.ref x) (k.hash w) true f es t (way t.mask (k.hash w) (c + q)) i (pth t (k.hash w) (c + (q + 1)))) Q E s := by
        unfold searchRest; rw [R.entry hp]; dsimp only
        refine wpAny_bind (wpAny_holding ((nestedKind P w).eqBool hu ⟨hpt.1, hpt.2.1⟩ ⟨hx.1, hx.2.1⟩ ?_)); refine wpAny_bind (wpAny_setState_of ho hd R.fits ?_); dsimp only
        by_cases hkk : p.2 = k
        · exact wp_if_pos (by simp [hkk]) (wpAny_pure (hin (List.mem_map.mpr ⟨p, hmem, hkk⟩)))
        · refine wp_if_neg (by simp [hkk]) ?_; try refine wpAny_bind (wpAny_pure ?_)
          rw [sameMem]; dsimp only
          have hsl : t.slot (way t.mask (k.hash w) (c + q)) = .live i := slot_live R.tab.ris hi
          simp only [if_true, hsl, R.entry hp]; refine wpAny_bind (wpAny_isSame_ref_self (wpAny_bind (wpAny_pure ?_))); simp only [if_true]
          refine wp_if_neg (by simp [hkk]) (seek R hx hu hKf hK hKb hin hout f (c + (q + 1)) _ rfl (by omega) (by omega) fun i0 p0 h0 hk0 => ?_)
          obtain ⟨c', a1, a2, a3⟩ := hre i0 p0 h0 hk0
          refine ⟨c', ?_, a2, a3⟩
          rcases Nat.lt_or_ge c' (c + q) with z | z
          · exact absurd ((hashAt i0 p0 h0).trans (by rw [hk0])) (hno (c' - c) i0 (by omega) (by rw [e1, show c + (c' - c) = c' by omega]; exact a3))
          · rcases Nat.lt_or_ge (c + q) c' with y | y
            · omega
            · have ec : c' = c + q := Nat.le_antisymm y z
              rw [ec] at a3
              have s0 := slot_live R.tab.ris a3
              rw [hsl] at s0
              injection s0 with s0
              rw [← s0, hp] at h0
              cases h0
              exact absurd hk0 hkk
      by_cases hl : t.led = true
      · refine wp_if_neg (by simp [hl]) ?_; try refine wpAny_bind (wpAny_pure ?_)
        exact rest
      · refine wp_if_pos (by simp [hl]) (wpAny_bind (seen_num hx (fun y hy => ?_) ?_))
        · obtain ⟨e, he, ee⟩ := List.mem_map.mp hy
          have he1 : e ∈ es ∧ e.1 = k.hash w := by simpa using he
          have he2 : e ∈ es.toList := by simpa using he1.1
          rw [R.rows] at he2
          obtain ⟨p2, hp2, e2⟩ := List.mem_map.mp he2
          exact ⟨p2.2, p2.1, by rw [← ee, ← e2], R.tup p2 hp2⟩
        · refine wp_if_neg (by decide) ?_; try refine wpAny_bind (wpAny_pure ?_)
          exact rest
    · have hpr' : t.probe (fun i => (es[i]?.map (·.1)).getD 0) (k.hash w) (stand.getD (t.probeStart (k.hash w))) = some (.empty (way t.mask (k.hash w) K) none) := by
        rw [hst, show way t.mask (k.hash w) K = (nth t.mask (pth t (k.hash w) c) (K - c)).j by rw [e1, hKc]]; exact hpr
      rw [hpr']; dsimp only; refine wpAny_pure (hout fun hm => ?_)
      obtain ⟨p0, h0, hk0⟩ := List.mem_map.mp hm
      obtain ⟨i0, hi0, e0⟩ := List.getElem_of_mem h0
      have h00 : L[i0]? = some p0 := by rw [List.getElem?_eq_getElem hi0, e0]
      obtain ⟨c', a1, a2, a3⟩ := hre i0 p0 h00 hk0
      exact hno (c' - c) i0 (by omega) (by rw [e1, show c + (c' - c) = c' by omega]; exact a3) ((hashAt i0 p0 h00).trans (by rw [hk0]))
theorem turns_few {m : Nat} (h : Mk m) : 10 * SetTable.turns m < 100000 := by
  unfold SetTable.turns
  rcases h.big with e | e | e | e | e <;> omega
theorem seek_add (R : STab P w s.heap a L es ep t) {x : Addr} {k : NestedKey} (hx : SK s.heap k x) (hu : A.units + 8 < cLine) {Q : SetFound → Shared → Prop}
    (hin : k ∈ L.map (·.2) → Q (.there none) s)
    (hout : ∀ K, k ∉ L.map (·.2) → way t.mask (k.hash w) K ∉ t.place.toList → (∀ c, c < K → way t.mask (k.hash w) c ∈ t.place.toList) → Q (.free (way t.mask (k.hash w) K) false) s) :
    wpAny (model P w) A (setSearch a (.ref x) (k.hash w) true) Q E s := by
  have hroom := R.room
  obtain ⟨K, hKf, hK, hKb⟩ := R.tab.first (by rw [List.length_map]; omega) (k.hash w)
  have hbig := turns_few R.tab.ma
  unfold setSearch
  refine seek R hx hu hKf hK hKb hin (fun hn => hout K hn hK hKb) 100000 0 none rfl (Nat.zero_le _) (by omega) fun i p hp hk => ?_
  have hi : (L.map fun p => p.2.hash w)[i]? = some (k.hash w) := by rw [List.getElem?_map, hp, ← hk]; rfl
  have hil : i < t.place.toList.length := by
    have h1 : i < L.length := (List.getElem?_eq_some_iff.mp hp).1
    have h2 := R.tab.sz
    rw [List.length_map] at h2
    rw [Array.length_toList]
    omega
  have hj := List.getElem?_eq_getElem hil
  obtain ⟨c, hc, e⟩ := R.tab.before hK hi hj
  exact ⟨c, Nat.zero_le _, hc, by rw [hj, e]⟩
theorem row_ins (L : List NP) (p : Nat) (x : Addr) (k : NestedKey) : rowN w (L.take p ++ (x, k) :: L.drop p) = (rowN w L).take p ++ (k.hash w, Value.ref x) :: (rowN w L).drop p := by
  unfold rowN
  rw [List.map_append, List.map_cons, List.map_take, List.map_drop]
theorem row_order (L : List NP) (es : Array (Int × Value)) (order : Array Nat) (hr : es.toList = rowN w L) (hp : order.toList.Perm (List.range L.length)) :
    ∃ L2, (order.filterMap (es[·]?)).toList = rowN w L2 ∧ L2.Perm L ∧ (L2.map fun p => p.2.hash w) = order.toList.map fun i => (es.map (·.1)).getD i 0 := by
  have hsz := row_len hr
  have ent : ∀ i (h : i < L.length), es[i]? = some ((L[i]).2.hash w, Value.ref (L[i]).1) := fun i h => by
    rw [← Array.getElem?_toList, hr]; unfold rowN; rw [List.getElem?_map, List.getElem?_eq_getElem h]; rfl
  have key : ∀ l : List Nat, (∀ i ∈ l, i < L.length) → l.filterMap (fun i => es[i]?) = rowN w (l.filterMap fun i => L[i]?) ∧ ((l.filterMap fun i => L[i]?).map fun p => p.2.hash w) = l.map fun i => (es.map (·.1)).getD i 0 := by
    intro l
    induction l with
    | nil => exact fun _ => ⟨rfl, rfl⟩
    | cons i l ih =>
      intro hl
      have hi := hl i (.head _)
      obtain ⟨e1, e3⟩ := ih fun j hj => hl j (.tail _ hj)
      have e5 : (es.map (·.1))[i]? = some ((L[i]).2.hash w) := by rw [Array.getElem?_map, ent i hi]; rfl
      rw [List.filterMap_cons_some (ent i hi), List.filterMap_cons_some (List.getElem?_eq_getElem hi), e1, List.map_cons, List.map_cons, e3]
      exact ⟨rfl, by rw [Array.getD_eq_getD_getElem?, e5]; rfl⟩
  obtain ⟨e1, e3⟩ := key order.toList fun i hi => List.mem_range.mp (hp.mem_iff.mp hi)
  refine ⟨_, by rw [Array.toList_filterMap]; exact e1, (hp.filterMap fun i => L[i]?).trans ?_, e3⟩
  have key2 : ∀ n, n ≤ L.length → (List.range n).filterMap (fun i => L[i]?) = L.take n := by
    intro n
    induction n with
    | zero => exact fun _ => rfl
    | succ n ih =>
      intro hn
      rw [List.range_succ, List.filterMap_append, ih (by omega), List.take_succ, List.getElem?_eq_getElem (show n < L.length from hn), List.filterMap_cons_some (List.getElem?_eq_getElem (show n < L.length from hn))]
      rfl
  rw [key2 L.length (Nat.le_refl _), List.take_length]
/-- the table laid anew -/
theorem relay_num {o : Obj} (ho : s.heap.get? a = some o) (hex : o.ExactSet) (hd : o.data = .set es ep t) (hrows : es.toList = rowN w L) (hsz : t.place.size = es.size) (hdm : t.dummies = #[]) (hfl : es.size ≤ t.mask)
    (nd : (L.map (·.2)).Nodup) (tup : ∀ p ∈ L, SK s.heap p.2 p.1) (pl : t.plain = true) (ld : w.params.followText "set-order" = true ∨ t.led = true) {wanted M : Nat}
    (hw : SetTable.sizeAbove wanted = M + 1) (hM : Mk M) (hn : L.length * 5 < M * 3) {Q : Unit → Shared → Prop}
    (hQ : ∀ h' L' es' ep' t', Heap.SameBut a s.heap h' → STab P w h' a L' es' ep' t' → L'.Perm L → Q () { s with heap := h' }) : wpAny (model P w) A (setRelay a wanted) Q E s := by
  have hsl := row_len hrows
  have hMb : M ≤ 2047 := by rcases hM.big with e | e | e | e | e <;> omega
  obtain ⟨t', order, e, hp, T, em, el, epl⟩ := relaid_tbl t (hs := es.map (·.1)) (wanted := wanted) (by rw [hw]; rfl) hM (by rw [Array.size_map, hsl]; omega)
  rw [Array.size_map, hsl] at hp
  obtain ⟨L2, r1, r2, r3⟩ := row_order L es order hrows hp
  rw [← r3] at T
  have hs2 : (order.filterMap (es[·]?)).size = es.size := by rw [row_len r1, hsl, r2.length_eq]
  rw [setRelay_eq]; refine wpAny_bind (wpAny_setState_of ho hd (fits_of hsz hdm hfl) ?_); dsimp only
  refine wp_if_neg (by rw [hw, sizeLine_eq]; omega) ?_; try refine wpAny_bind (wpAny_pure ?_)
  rw [e]; dsimp only; refine wpAny_bind (wp_if_neg (by rw [hs2]; simp) ?_); try refine wpAny_bind (wpAny_pure ?_)
  refine wpAny_pure ?_; dsimp only; refine wpAny_storeSet_of ho hd ?_ (by rw [hs2, hsl, sizeLine_eq]; omega)
  have sb : Heap.SameBut a s.heap (s.heap.update a (Obj.putSet (order.filterMap (es[·]?)) t')) := Heap.SameBut.update ..
  exact hQ _ L2 (order.filterMap (es[·]?)) (ep + 1) t' sb ⟨⟨_, store_at ho hd, ⟨hex.1, hex.2.1, hex.2.2⟩, rfl⟩, r1, T, (r2.map (·.2)).nodup_iff.mpr nd, fun p hpm => (tup p (r2.mem_iff.mp hpm)).but ho hd sb, by rw [epl]; exact pl, by rw [el]; exact ld, by rw [r2.length_eq, em]; exact hn⟩ r2
theorem sz5 : SetTable.sizeAbove (SetTable.grown 5) = 32 := by decide +kernel
theorem sz19 : SetTable.sizeAbove (SetTable.grown 19) = 128 := by decide +kernel
theorem sz77 : SetTable.sizeAbove (SetTable.grown 77) = 512 := by decide +kernel
theorem sz307 : SetTable.sizeAbove (SetTable.grown 307) = 2048 := by decide +kernel
/-- adding -/
theorem add_num (R : STab P w s.heap a L es ep t) {x : Addr} {k : NestedKey} (hx : SK s.heap k x) (hu : A.units + 8 < cLine) (hfew : L.length + 1 ≤ 1228) {Q : Bool → Shared → Prop}
    (hQ : ∀ b h' L' es' ep' t', Heap.SameBut a s.heap h' → STab P w h' a L' es' ep' t' → (k ∈ L.map (·.2) → L' = L) → (k ∉ L.map (·.2) → L'.Perm ((x, k) :: L)) → Q b { s with heap := h' }) :
    wpAny (model P w) A (setAddHashed a (.ref x) (k.hash w)) Q E s := by
  obtain ⟨o, ho, hex, hd⟩ := R.ob
  have hsl := row_len R.rows
  have hroom := R.room
  unfold setAddHashed; refine wpAny_holding ?_; rw [show (100000 : Nat) = 99999 + 1 from rfl, setAddHashedIn_succ]
  refine wpAny_bind (wpAny_setState_of ho hd R.fits ?_); dsimp only; refine wp_if_neg (by simp [byScan, Value.scannable]) ?_; try refine wpAny_bind (wpAny_pure ?_)
  refine wpAny_bind (seek_add R hx hu (fun hm => ?_) fun K hm hK hb => ?_)
  · dsimp only; exact wpAny_pure (hQ false s.heap L es ep t (Heap.SameBut.refl a s.heap) R (fun _ => rfl) fun z => absurd hm z)
  · dsimp only; refine wpAny_bind (wpAny_setState_of ho hd R.fits ?_); dsimp only
    obtain ⟨j, ej⟩ : ∃ j, j = way t.mask (k.hash w) K := ⟨_, rfl⟩
    rw [← ej] at hK ⊢
    obtain ⟨q2, q3, q9⟩ := R.tab.put ej hK hb
    obtain ⟨p, hpp⟩ : ∃ p, p = SetTable.below t.place j := ⟨_, rfl⟩
    rw [← hpp] at q2 q3
    have q1 : (t.put j).2 = p := hpp.symm
    have hp1 : (t.put j).1.plain = true := R.pl
    have hm1 : (t.put j).1.mask = t.mask := rfl
    have hl1 : (t.put j).1.led = t.led := rfl
    generalize t.put j = pt at q1 q3 q9 hp1 hm1 hl1 ⊢
    obtain ⟨t1, p'⟩ := pt
    dsimp only at q1 q3 q9 hp1 hm1 hl1 ⊢
    subst q1
    have hby := (num_cls (P := P) (w := w) k (.ref x) 8 s hx.1 hx.2.2 hx.2.1).2
    first
      | (refine wpAny_bind ?_; refine wp_if_pos hp1 ?_; refine hby _ _ _ ?_)
      | refine wp_if_pos hp1 (wpAny_bind (hby _ _ _ ?_))
    simp only [if_true]
    have hin : (SetTable.insertAt es p' (k.hash w, Value.ref x)).toList = rowN w (L.take p' ++ (x, k) :: L.drop p') := by rw [SetTable.toList_insertAt, row_ins, R.rows]
    have pm := put_perm L p' (x, k)
    have hlen : (L.take p' ++ (x, k) :: L.drop p').length = L.length + 1 := pm.length_eq
    rw [List.length_map] at q9
    have q3 : Tbl t1 ((L.take p' ++ (x, k) :: L.drop p').map fun p => p.2.hash w) := by rw [List.map_append, List.map_cons, List.map_take, List.map_drop]; exact q3
    have nd1 : ((L.take p' ++ (x, k) :: L.drop p').map (·.2)).Nodup := (pm.map (·.2)).nodup_iff.mpr (List.nodup_cons.mpr ⟨hm, R.nd⟩)
    have hes := (row_len hin).trans hlen
    generalize SetTable.insertAt es p' (k.hash w, Value.ref x) = es1 at hin hes ⊢
    generalize L.take p' ++ (x, k) :: L.drop p' = L1 at pm hlen q3 nd1 hin
    refine wpAny_bind (wpAny_storeSet_of ho hd ?_ (by rw [hes, sizeLine_eq]; omega))
    have sb : Heap.SameBut a s.heap (s.heap.update a (Obj.putSet es1 t1)) := Heap.SameBut.update ..
    have ho1 := store_at (es' := es1) (t' := t1) ho hd
    generalize s.heap.update a (Obj.putSet es1 t1) = h1 at sb ho1 ⊢
    have tup1 : ∀ p ∈ L1, SK h1 p.2 p.1 := fun p hp => by
      rcases List.mem_cons.mp (pm.mem_iff.mp hp) with e | hp
      · rw [e]; exact hx.but ho hd sb
      · exact (R.tup p hp).but ho hd sb
    have ld1 : w.params.followText "set-order" = true ∨ t1.led = true := by rw [hl1]; exact R.ld
    by_cases hf : t1.tooFull = true
    · first
        | (refine wpAny_bind ?_; refine wp_if_pos (by simp [hf]) ?_)
        | (refine wp_if_pos (by simp [hf]) ?_; refine wpAny_bind ?_)
      have hfull : (L.length + 1) * 5 ≥ t1.mask * 3 := by
        have h := hf
        unfold SetTable.tooFull at h
        rwa [decide_eq_true_eq, q9] at h
      rw [hsl]
      have hsz1 : t1.place.size = es1.size := by have h := q3.sz; rw [List.length_map] at h; omega
      rw [hm1] at hfull
      have go : ∀ M, SetTable.sizeAbove (SetTable.grown (L.length + 1)) = M + 1 → Mk M → (L.length + 1) * 5 < M * 3 → es1.size ≤ t1.mask →
          wpAny (model P w) A (setRelay a (SetTable.grown (L.length + 1))) (fun _ s' => wpAny (model P w) A (pure true) Q E s') E { s with heap := h1 } := fun M g1 g2 g3 g4 =>
        relay_num (s := { s with heap := h1 }) ho1 ⟨hex.1, hex.2.1, hex.2.2⟩ rfl hin hsz1 q3.dm g4 nd1 tup1 hp1 ld1 g1 g2 (by rw [hlen]; exact g3)
          fun h2 L2 es2 ep2 t2 sb2 R2 pm2 => wpAny_pure (hQ true h2 L2 es2 ep2 t2 (sb.trans sb2) R2 (fun z => absurd z hm) fun _ => pm2.trans pm)
      rcases R.tab.ma.big with e | e | e | e | e
      · have e2 : L.length = 4 := by omega
        exact go 31 (by rw [e2, sz5]) mk31 (by omega) (by rw [hm1]; omega)
      · have e2 : L.length = 18 := by omega
        exact go 127 (by rw [e2, sz19]) mk127 (by omega) (by rw [hm1]; omega)
      · have e2 : L.length = 76 := by omega
        exact go 511 (by rw [e2, sz77]) mk511 (by omega) (by rw [hm1]; omega)
      · have e2 : L.length = 306 := by omega
        exact go 2047 (by rw [e2, sz307]) mk2047 (by omega) (by rw [hm1]; omega)
      · omega
    · first
        | refine wp_if_neg (by simp [hf]) ?_
        | (refine wpAny_bind ?_; refine wp_if_neg (by simp [hf]) ?_; refine wpAny_pure ?_)
      refine wpAny_pure (hQ true h1 L1 es1 (ep + 1) t1 sb ⟨⟨_, ho1, ⟨hex.1, hex.2.1, hex.2.2⟩, rfl⟩, hin, q3, nd1, tup1, hp1, ld1, ?_⟩ (fun z => absurd z hm) fun _ => pm)
      have h := hf
      unfold SetTable.tooFull at h
      rw [decide_eq_true_eq, q9] at h
      omega
end
end DL
namespace DL
open PySem PySem.Spec PySem.Calls PySem.W PyProof.Rows L2 PyProof
/-- what has come of the first i items -/
structure GotN (ks : List NP) (i : Nat) (L : List NP) : Prop where
  sub : ∀ p ∈ L, p ∈ ks.take i
  all : ∀ p ∈ ks.take i, p.2 ∈ L.map (·.2)
theorem GotN.same {ks L : List NP} {i : Nat} {x : NP} (g : GotN ks i L) (h : ks[i]? = some x) (hm : x.2 ∈ L.map (·.2)) : GotN ks (i + 1) L := by
  have e : ks.take (i + 1) = ks.take i ++ [x] := by rw [List.take_succ, h]; rfl
  refine ⟨fun p hp => by rw [e]; exact List.mem_append_left _ (g.sub p hp), fun p hp => ?_⟩
  rw [e] at hp
  rcases List.mem_append.mp hp with z | z
  · exact g.all p z
  · rw [List.mem_singleton.mp z]; exact hm
theorem GotN.more {ks L L' : List NP} {i : Nat} {x : NP} (g : GotN ks i L) (h : ks[i]? = some x) (pm : L'.Perm (x :: L)) : GotN ks (i + 1) L' := by
  have e : ks.take (i + 1) = ks.take i ++ [x] := by rw [List.take_succ, h]; rfl
  refine ⟨fun p hp => ?_, fun p hp => ?_⟩
  · rw [e]
    rcases List.mem_cons.mp (pm.mem_iff.mp hp) with z | z
    · rw [z]; exact List.mem_append_right _ (.head _)
    · exact List.mem_append_left _ (g.sub p z)
  · rw [(pm.map (·.2)).mem_iff, List.map_cons]
    rw [e] at hp
    rcases List.mem_append.mp hp with z | z
    · exact .tail _ (g.all p z)
    · rw [List.mem_singleton.mp z]; exact .head _
/-- no more different ones than so many -/
def FewN (ks : List NP) : Prop := ∀ L : List NP, (L.map (·.2)).Nodup → (∀ p ∈ L, p ∈ ks) → L.length ≤ 1227
section
variable {P : Program} {w : World} {A : Around} {E : Value → Shared → Prop} {s : Shared}
theorem STab.keep {h h' : Heap} {a : Addr} {L : List NP} {es : Array (Int × Value)} {ep : Nat} {t : SetTable} (R : STab P w h a L es ep t) (ha : ∀ o, h.get? a = some o → h'.get? a = some o) (ht : ∀ p ∈ L, SK h' p.2 p.1) : STab P w h' a L es ep t :=
  let ⟨o, ho, r⟩ := R.ob; ⟨⟨o, ha o ho, r⟩, R.rows, R.tab, R.nd, ht, R.pl, R.ld, R.room⟩
def setOb (w : World) : Obj := { cls := .type "set", dict := none, data := .set #[] 0 (.fresh 0 0 (!w.params.followText "set-order")) }
theorem sTab_fresh {h : Heap} {a : Addr} (ho : h.get? a = some (setOb w)) : STab P w h a [] #[] 0 (.fresh 0 0 (!w.params.followText "set-order")) where
  ob := ⟨_, ho, ⟨rfl, rfl, rfl⟩, rfl⟩
  rows := rfl
  tab := ⟨List.Pairwise.nil, rfl, rfl, mk7, fun x hx => (by cases hx), fun i h j hi => (by simp at hi)⟩
  nd := List.nodup_nil
  tup := fun p hp => (by cases hp)
  pl := rfl
  ld := by
    show _ ∨ (!w.params.followText "set-order") = true
    cases w.params.followText "set-order" <;> simp
  room := by show 0 * 5 < 7 * 3; decide
/-- the loop of set.update -/
theorem upd_num {I : Addr} {fp wr : List Addr} {G : Array GenState → Array GenState → Prop} {n : Nat} {Pv : Nat → Value → Prop} {St : Nat → Shared → Prop} {R : Result → Shared → Prop}
    (W : WalksS P w A.in1 I fp wr G n Pv St) (S : Addr) (hSf : S ∉ fp) (ks : List NP) (hn : n = ks.length) (hfew : FewN ks) (hval : ∀ i v, Pv i v → ∃ p, ks[i]? = some p ∧ v = .ref p.1)
    (h0 : Heap) (hk : ∀ p ∈ ks, SK h0 p.2 p.1) (hS0 : h0.get? S = none) (hw0 : ∀ b ∈ wr, h0.get? b = none) (hu : A.in1.units + 8 < cLine) :
    ∀ (k i : Nat) (s : Shared), n - i = k → i ≤ n → St i s → (∀ b o, h0.get? b = some o → s.heap.get? b = some o) → (∃ L es ep t, STab P w s.heap S L es ep t ∧ GotN ks i L) →
      (∀ s' L es ep t, Moved (S :: wr) G s s' → STab P w s'.heap S L es ep t → GotN ks n L → (∀ b o, h0.get? b = some o → s'.heap.get? b = some o) → R (.ok (.ret .none)) s') →
      codeAny (model P w) A (.builtin "set.update.loop" ⟨[.ref S, .ref I], []⟩) R s := by
  have hSw : S ∉ wr := fun h => hSf (W.sub _ h)
  have up : ∀ b ∈ wr, b ∈ S :: wr := fun b hb => .tail _ hb
  have kept : ∀ {s s' : Shared}, Moved wr G s s' → (∀ b o, h0.get? b = some o → s.heap.get? b = some o) → ∀ b o, h0.get? b = some o → s'.heap.get? b = some o := fun hm hkp b o e =>
    hm.heap b o (fun hb => by rw [hw0 b hb] at e; cases e) (hkp b o e)
  intro k
  induction k with
  | zero =>
    intro i s hk' hi hst hkp ⟨L, es, ep, t, hS, g⟩ hR
    obtain rfl : i = n := by omega
    refine codeAny_builtin F.entry_set_update_loop ?_; rw [Around.under_plainId F.plain_set_update_loop _]
    show wpAny _ A.in1 (pyNext (.ref I) >>= _) _ _ s; refine wpAny_bind (W.done s _ _ hst fun s' hm => ?_)
    have sub : ∀ p ∈ L, p ∈ ks := fun p hp => List.mem_of_mem_take (g.sub p hp)
    exact wpAny_pure (hR s' L es ep t (hm.mono up) (hS.keep (fun o e => hm.heap S o hSw e) fun p hp => (hk p (sub p hp)).keep (kept hm hkp)) g (kept hm hkp))
  | succ k ih =>
    intro i s hk' hi hst hkp ⟨L, es, ep, t, hS, g⟩ hR
    have hlt : i < n := by omega
    refine codeAny_builtin F.entry_set_update_loop ?_; rw [Around.under_plainId F.plain_set_update_loop _]
    show wpAny _ A.in1 (pyNext (.ref I) >>= _) _ _ s; refine wpAny_bind (W.item i s _ _ hlt hst fun v s' hP hst' hm => ?_)
    obtain ⟨p, hp, rfl⟩ := hval i v hP
    have hkp' := kept hm hkp
    have sub : ∀ p ∈ L, p ∈ ks := fun p hp => List.mem_of_mem_take (g.sub p hp)
    have hS' : STab P w s'.heap S L es ep t := hS.keep (fun o e => hm.heap S o hSw e) fun q hq => (hk q (sub q hq)).keep hkp'
    have hx : SK s'.heap p.2 p.1 := (hk p (List.mem_of_getElem? hp)).keep hkp'
    have hroom : L.length ≤ 1227 := hfew L hS.nd sub
    show wpAny _ A.in1 (holding [Value.ref p.1] (setAdd S (.ref p.1)) >>= _) _ _ s'; refine wpAny_bind (wpAny_holding ?_)
    unfold setAdd; refine wpAny_holding ?_; refine wpAny_bind ((nestedKind P w).pyHash hu ⟨hx.1, hx.2.1⟩ ?_)
    refine add_num (s := { s' with toks := s'.toks + (nestedKind P w).draws p.2 }) hS' hx hu (by omega) fun b h' L' es' ep' t' hsb hS2 c1 c2 => ?_
    have g' : GotN ks (i + 1) L' := by
      rcases Classical.em (p.2 ∈ L.map (·.2)) with c | c
      · rw [c1 c]; exact g.same hp c
      · exact g.more hp (c2 c)
    have hkp2 : ∀ b o, h0.get? b = some o → h'.get? b = some o := fun b o e => (hsb.2 b (fun z => by rw [z, hS0] at e; cases e)).trans (hkp' b o e)
    refine wpAny_pure ⟨plainId_quiet F.plain_set_update_loop _, ih (i + 1) _ (by omega) hlt (W.frame _ s' _ _ hst' (Nat.le_add_right _ _) fun b hb o e => ?_) hkp2 ⟨L', es', ep', t', hS2, g'⟩ fun s'' L2 es2 ep2 t2 hm'' hS'' g'' hkp'' => ?_⟩
    · rw [hsb.2 b fun h : b = S => hSf (h ▸ hb)]; exact e
    · refine hR s'' L2 es2 ep2 t2 (Moved.trans W.gtrans ((hm.mono up).then_heap (Nat.le_add_right _ _) fun b o hb e => ?_) hm'') hS'' g'' hkp''
      rw [hsb.2 b fun h : b = S => hb (h ▸ .head _)]; exact e
set_option maxRecDepth 100000 in
set_option maxHeartbeats 3200000 in
/-- set(l) -/
theorem call_set_num {l : Addr} {items : Array Value} (ks : List NP) {Q : Value → Shared → Prop} (hh : A.handled = none) (hl : s.heap.IsList l items) (hit : items.toList = ks.map fun p => Value.ref p.1)
    (hk : ∀ p ∈ ks, SK s.heap p.2 p.1) (hfew : FewN ks) (hu : A.units + 12 < cLine)
    (h : ∀ (h' : Heap) (tk : Nat) L es ep t, STab P w h' s.heap.objs.size L es ep t → GotN ks ks.length L → (∀ b o, s.heap.get? b = some o → h'.get? b = some o) → Q (.ref s.heap.objs.size) { s with heap := h', toks := tk }) :
    wpAny (model P w) A (call (.type "set") [.ref l]) Q E s := by
  have hisz : items.size = ks.length := by have q := congrArg List.length hit; rwa [Array.length_toList, List.length_map] at q
  obtain ⟨c, tl, hmro⟩ := F.called_set.mro; have hmade := F.called_set.made; have hsub := F.called_set.sub
  refine wpAny_call (codeAny_of_tree ?_); show wpAny _ _ (callAny (.type "set") _) _ _ _
  refine wpAny_pure ⟨Code.quiet_builtin _ (by decide +kernel), codeAny_builtin F.entry_type_call ?_⟩; rw [Around.under_plain (weight_type_call_type "set" [.ref l] []) rfl]
  have h1 := F.called_set.notType; have h2 := F.called_set.canCreate; have hct := F.typeCall_set_1 (.ref l)
  repeat (any_goals (first | assumption | wp_step))
  refine codeAny_mono (code_set_led1 (.ref l) (E := E) (Q₁ := fun obj s₁ => obj = .ref s.heap.objs.size ∧ s₁ = { s with heap := s.heap.push (setOb w) }) ⟨rfl, rfl⟩) fun r s₁ hr => ?_
  cases r with
  | error e => exact hr
  | ok fl =>
    cases fl with
    | ret obj =>
      obtain ⟨rfl, rfl⟩ := hr
      have hS : (s.heap.push (setOb w)).get? s.heap.objs.size = some (setOb w) := Heap.get?_push_size _ rfl
      have hT : Shared.TypeIs { s with heap := s.heap.push (setOb w) } (.ref s.heap.objs.size) "set" := ⟨_, hS, rfl⟩
      have hli := F.called_set.init.lookup; have hbi := F.called_set.init.bind (.ref s.heap.objs.size)
      repeat (any_goals (first | assumption | wp_step))
      refine codeAny_mono (codeAny_call_builtin (R := wants (fun r s₂ => r = .none ∧ ∃ h' tk L es ep t, s₂ = { s with heap := h', toks := tk } ∧ STab P w h' s.heap.objs.size L es ep t ∧ GotN ks ks.length L ∧
          (∀ b o, s.heap.get? b = some o → h'.get? b = some o)) E) F.called_set.init.plain F.entry_set_init (check_set_init_1 hT ?_)) fun r₂ s₂ hr₂ => ?_
      · obtain ⟨ol, hol, hcl, nl, hdl⟩ := hl
        obtain ⟨ocls, odict, odata, oslots⟩ := ol
        simp only at hcl hdl
        subst hcl; subst hdl
        have hol' : (s.heap.push (setOb w)).get? l = some { cls := .type "list", dict := odict, data := .seq items nl, slots := oslots } := Heap.get?_push_of_some _ hol
        have hsls := F.sub_list_set; have hslf := F.sub_list_frozenset; have hne : (Value.type "list" == Value.type "dict") = false := by decide
        have hl1 : (s.heap.push (setOb w)).IsList l items := ⟨_, hol', rfl, nl, rfl⟩
        unfold Builtin.«set.__init__» noKeywords Builtin.Frozenset.updateFrom; generalize hPI : pyIter = PI
        wp_walk
        subst hPI
        refine wpAny_pyIter_list hl1 ?_; refine wpAny_bind (wpAny_runValue ?_)
        have hlS : l < s.heap.objs.size := Heap.lt_size hol
        have hh3 : A.in1.in1.in1.handled = none := by simp [hh]
        have hsz : (s.heap.push (setOb w)).objs.size = s.heap.objs.size + 1 := Heap.size_push ..
        have hneI : l ≠ (s.heap.push (setOb w)).objs.size := by rw [hsz]; exact Nat.ne_of_lt (Nat.lt_succ_of_lt hlS)
        have hSf : s.heap.objs.size ∉ [(s.heap.push (setOb w)).objs.size, l] := by
          rw [hsz]; simp only [List.mem_cons, List.not_mem_nil, or_false, not_or]; exact ⟨Nat.ne_of_lt (Nat.lt_succ_self _), Nat.ne_of_gt hlS⟩
        have hval : ∀ (i : Nat) (v : Value), items[i]? = some v → ∃ p, ks[i]? = some p ∧ v = .ref p.1 := fun i v hv => by
          have q : items.toList[i]? = some v := by rw [Array.getElem?_toList]; exact hv
          rw [hit, List.getElem?_map] at q
          obtain ⟨p, e1, e2⟩ := Option.map_eq_some_iff.mp q
          exact ⟨p, e1, e2.symm⟩
        have gone : ∀ b, s.heap.objs.size ≤ b → s.heap.get? b = none := fun b hb => by
          cases q : s.heap.get? b with
          | none => rfl
          | some o => exact absurd (Nat.lt_of_lt_of_le (Heap.lt_size q) hb) (Nat.lt_irrefl _)
        refine upd_num ((Walks.list hh3 _ l hneI items).toS) s.heap.objs.size hSf ks hisz hfew hval s.heap hk (gone _ (Nat.le_refl _)) (fun b hb => gone b (by rw [List.mem_singleton.mp hb, hsz]; exact Nat.le_succ _)) (by show A.units + 1 + 1 + 1 + 8 < cLine; omega) (items.size - 0) 0 _ (by omega) (Nat.zero_le _)
          ⟨⟨_, Heap.get?_push_size _ rfl, rfl, rfl⟩, (hl1.push _)⟩ (fun b o e => Heap.get?_push_of_some _ (Heap.get?_push_of_some _ e)) ?hS0 ?hR
        case hS0 =>
          have hget : ((s.heap.push (setOb w)).push { cls := .type "list_iterator", data := .fields #[.ref l, .int 0 0] }).get? s.heap.objs.size = some (setOb w) := Heap.get?_push_of_some _ hS
          exact ⟨[], #[], 0, _, sTab_fresh hget, ⟨fun p h => (by cases h), fun p h => (by simp at h)⟩⟩
        case hR =>
          intro s' L es ep t hm hS' g' hkp
          obtain ⟨h', g2, d', tk', os'⟩ := s'
          have eg : g2 = s.gens := hm.gens
          have ed : d' = s.drawn := hm.drawn
          have eo : os' = s.os := hm.os
          subst eg; subst ed; subst eo
          show wpAny _ _ _ _ _ _; refine wpAny_pure ?_; show wpAny _ _ (ret Value.none) _ _ _
          rw [hisz] at g'; exact wpAny_pure ⟨rfl, h', tk', L, es, ep, t, rfl, hS', g', hkp⟩
      · cases r₂ with
        | error e => exact hr₂
        | ok fl₂ =>
          cases fl₂ with
          | ret r =>
            obtain ⟨rfl, h', tk, L, es, ep, t, rfl, hS', g', hk'⟩ := hr₂
            repeat (any_goals (first | assumption | wp_step))
            exact h _ _ _ _ _ _ hS' g' hk'
          | _ => exact hr₂.elim
    | _ => exact hr.elim
end
end DL
namespace DL
open PySem PySem.Spec PySem.Calls PySem.W PyProof.Rows L2 PyProof
section
variable {P : Program} {w : World} {A : Around} {E : Value → Shared → Prop} {s : Shared}
theorem sorted_setNum {a : Addr} {L : List NP} {es : Array (Int × Value)} {ep : Nat} {t : SetTable} {Q : Value → Shared → Prop} (R : STab P w s.heap a L es ep t) (hh : A.handled = none) (few : L.length ≤ 1228)
    (hal : AllAlike (L.map fun p => p.2.data)) (hk : Sortable (L.map fun p => p.2.data)) (hr : ∀ p ∈ L, ∃ as, Reads s.heap (.ref p.1) p.2.data as) (hdep : ∀ p ∈ L, A.units + 2 + p.2.data.depth < cLine)
    (hQ : ∀ s' p (out : List Value) (c : Nat) (L' : List NP), (∀ b o, s.heap.get? b = some o → s'.heap.get? b = some o) → s'.gens = s.gens → s'.os = s.os → s.heap.objs.size ≤ p →
      s'.heap.get? p = some (seqObj "list" out.toArray c) → out = L'.map (fun q => Value.ref q.1) → L'.Perm L → L'.Pairwise (fun q r => dataLt r.2.data q.2.data = false) → Q (.ref p) s') :
    wpAny (model P w) A (call (.builtin "sorted") [.ref a]) Q E s := by
  obtain ⟨o, ho, hex, hd⟩ := R.ob
  have hsz := row_len R.rows
  refine call_function_entry_kw kind_sorted plain_sorted entry_sorted (args_sorted1 _) ?_; unfold Builtin.«sorted»
  refine wpAny_bind (m := checkCount "sorted" 1 1 _) (wpAny_pure ?_)
  refine wpAny_bind (collect_set (A := A.in1) hh ⟨o, ho, hex.1, hd⟩ R.fits (by unfold scanBound; omega) R.tab.ris R.ld fun s1 vs k1 hz g1 o1 pm => ?_)
  have hes : es.toList.map (·.2) = L.map fun q => Value.ref q.1 := by rw [R.rows]; unfold rowN; rw [List.map_map]; rfl
  rw [hes] at pm
  obtain ⟨L1, e1, p1⟩ : ∃ L1 : List NP, vs = L1.map (fun q => Value.ref q.1) ∧ L1.Perm L := by
    have key : ∀ (vs us : List Value), vs.Perm us → ∀ L : List NP, us = L.map (fun q => Value.ref q.1) → ∃ L1 : List NP, vs = L1.map (fun q => Value.ref q.1) ∧ L1.Perm L := by
      intro vs us h
      induction h with
      | nil => exact fun L e => ⟨L, e, .refl _⟩
      | cons x _ ih =>
        intro L e
        cases L with
        | nil => cases e
        | cons q L =>
          rw [List.map_cons, List.cons.injEq] at e
          obtain ⟨L1, f1, f2⟩ := ih L e.2
          exact ⟨q :: L1, by rw [List.map_cons, f1, e.1], f2.cons _⟩
      | swap x y l =>
        intro L e
        match L, e with
        | q :: r :: L, e =>
          rw [List.map_cons, List.map_cons, List.cons.injEq, List.cons.injEq] at e
          exact ⟨r :: q :: L, by rw [List.map_cons, List.map_cons, e.1, e.2.1, e.2.2], .swap ..⟩
      | trans _ _ ih1 ih2 =>
        intro L e
        obtain ⟨L2, f1, f2⟩ := ih2 L e
        obtain ⟨L1, g1, g2⟩ := ih1 L2 f1
        exact ⟨L1, g1, g2.trans f2⟩
    exact key _ _ pm L rfl
  have hvl : vs.length = L.length := by rw [e1, List.length_map, p1.length_eq]
  have hL : vs.length ≤ sizeLine := by rw [hvl, sizeLine_eq]; omega
  refine wpAny_bind (wpAny_newList ?_ (by simpa using hL))
  have hnew : (s1.heap.push (seqObj "list" vs.toArray 0)).get? s1.heap.objs.size = some (seqObj "list" vs.toArray 0) := Heap.get?_push_size _ rfl
  have hne : ∀ c u, s.heap.get? c = some u → c ≠ s1.heap.objs.size := fun c u q => Nat.ne_of_lt (Heap.lt_size (k1 c u q))
  have k3 : ∀ c u, s.heap.get? c = some u → (sortingHeap (s1.heap.push (seqObj "list" vs.toArray 0)) s1.heap.objs.size vs).get? c = some u := fun c u q => sortingHeap_old (hne c u q) (Heap.get?_push_of_some _ (k1 c u q))
  have e2 : EachIs (fun (v : Value) (q : NP) => v = .ref q.1) vs L1 := by
    rw [e1]
    clear e1 p1
    induction L1 with
    | nil => exact .nil
    | cons q L ih => exact .cons rfl ih
  have e3 : EachIs (fun (v : Value) (q : NP) => ∃ as, Reads (sortingHeap (s1.heap.push (seqObj "list" vs.toArray 0)) s1.heap.objs.size vs) v q.2.data as) vs L1 := by
    have key : ∀ {us : List Value} {M : List NP}, EachIs (fun (v : Value) (q : NP) => v = .ref q.1) us M → (∀ q ∈ M, q ∈ L) → EachIs (fun (v : Value) (q : NP) => ∃ as, Reads (sortingHeap (s1.heap.push (seqObj "list" vs.toArray 0)) s1.heap.objs.size vs) v q.2.data as) us M := by
      intro us M h
      induction h with
      | nil => exact fun _ => .nil
      | cons h1 _ ih =>
        intro hm
        obtain ⟨as, r⟩ := hr _ (hm _ (.head _))
        exact .cons ⟨as, by rw [h1]; exact PyProof.Rows.Reads.keeps k3 r⟩ (ih fun q hq => hm q (.tail _ hq))
    exact key e2 fun q hq => p1.mem_iff.mp hq
  have hmm : ∀ d, d ∈ L1.map (fun p => p.2.data) → d ∈ L.map (fun p => p.2.data) := fun d hd => (p1.map _).mem_iff.mp hd
  have hal1 : AllAlike (L1.map fun p => p.2.data) := fun d hd e he => hal d (hmm d hd) e (hmm e he)
  have hk1 : Sortable (L1.map fun p => p.2.data) := by
    rcases hk with h | h
    · exact .inl fun d hd => h d (hmm d hd)
    · exact .inr fun d hd => h d (hmm d hd)
  refine wpAny_bind (wpAny_holding (wpAny_call_entry slot_list_sort ⟨_, hnew, rfl⟩ entry_list_sort ?_ (args_list_sort _)))
  refine list_sort_vals (κ := dataKind (sortingHeap (s1.heap.push (seqObj "list" vs.toArray 0)) s1.heap.objs.size vs) (L1.map fun p => p.2.data)) hnew (SortsAt.data (s := { s1 with heap := sortingHeap (s1.heap.push (seqObj "list" vs.toArray 0)) s1.heap.objs.size vs })
    (each_map (R := fun v d => ∃ as, Reads (sortingHeap (s1.heap.push (seqObj "list" vs.toArray 0)) s1.heap.objs.size vs) v d as) (fun q : NP => q.2.data) e3) hal1 hk1 (bound_map (A := A.in1.in1) fun q hq => hdep q (p1.mem_iff.mp hq))) hL ?_
  refine ⟨.none, rfl, wpAny_pure ⟨_, rfl, ?_⟩⟩
  obtain ⟨m, hm⟩ := sortedHeap_at (vs := vs) (out := (sortVals (dataKind (sortingHeap (s1.heap.push (seqObj "list" vs.toArray 0)) s1.heap.objs.size vs) (L1.map fun p => p.2.data)) false vs vs).toArray) hnew
  have eo : EachIs (fun (v : Value) (q : NP) => v = .ref q.1) _ _ := sortVals_data (enc := fun q : NP => q.2.data) false e2 e3 hal1
  have eo' : ∀ {us : List Value} {M : List NP}, EachIs (fun (v : Value) (q : NP) => v = .ref q.1) us M → us = M.map (fun q => Value.ref q.1) := by
    intro us M h
    induction h with
    | nil => rfl
    | cons h1 _ ih => rw [h1, ih]; rfl
  refine hQ _ s1.heap.objs.size _ m _ (fun b u e => ?_) g1 o1 hz hm (eo' eo) ((List.mergeSort_perm _ _).trans p1) ?_
  · have q := k1 b u e
    have hlt := Heap.lt_size q
    show (sortedHeap (s1.heap.push (seqObj "list" vs.toArray 0)) s1.heap.objs.size vs _).get? b = some u
    rw [sortedHeap_old (Nat.ne_of_lt hlt) (by rw [size_push']; exact Nat.lt_succ_of_lt hlt)]
    exact Heap.get?_push_of_some _ q
  · have tot := sortLe_total (listOrd itemOrd) false (fun q : NP => keyToks q.2.data)
    refine (List.pairwise_mergeSort (le := dataLe false (fun q : NP => q.2.data)) (fun a b c => tot.trans a b c) (fun a b => by rw [Bool.or_eq_true]; exact tot.total a b) L1).imp fun {q r} h => ?_
    have h : (!dataLt r.2.data q.2.data) = true := h
    simpa using h
end
/-- the set at a, the tuples themselves untold -/
structure SetN0 (P : Program) (w : World) (h : Heap) (a : Addr) (L : List NP) : Prop where
  ex : ∃ (es : Array (Int × Value)) (ep : Nat) (t : SetTable), (∃ o, h.get? a = some o ∧ o.ExactSet ∧ o.data = .set es ep t) ∧ es.toList = rowN w L ∧ Tbl t (L.map fun p => p.2.hash w) ∧ (L.map (·.2)).Nodup ∧ t.plain = true ∧
    (w.params.followText "set-order" = true ∨ t.led = true) ∧ L.length * 5 < t.mask * 3
def SetNO (P : Program) (w : World) (a : Addr) (L : List NP) : HO := .ext fun h => SetN0 P w h a L
theorem setNO_new {P : Program} {w : World} {H : Hp} {h : Heap} {a : Addr} {L : List NP} (R : SetN0 P w h a L) : ObjOk P w H h a (SetNO P w a L) := by
  have ⟨es, ep, t, ⟨o, ho, r⟩, q⟩ := R.ex
  refine ⟨R, ⟨o, ho⟩, fun h1 h2 p k => ?_⟩
  have ⟨es', ep', t', ⟨o', ho', r'⟩, q'⟩ := SetN0.ex p
  exact ⟨es', ep', t', ⟨o', k o' ho', r'⟩, q'⟩
theorem refs_num : ∀ {ks : List NP} {us : List Value}, Vals (ks.map fun p => V.ref p.1) us → us = ks.map fun p => Value.ref p.1
  | [], _, .nil => rfl
  | p :: ks, _, .cons r t => by cases r; rw [refs_num t]; rfl
theorem vals_num : ∀ ks : List NP, Vals (ks.map fun p => V.ref p.1) (ks.map fun p => Value.ref p.1)
  | [] => .nil
  | p :: ks => .cons rfl (vals_num ks)
section
variable {X : Cx}
def NumK (K : PySem.W.Frag) (H : Hp) (p : NP) : Prop := NK K H (.ref p.1) p.2 ∧ p.2.depth ≤ 8 ∧ numK p.2 = true
def rSetNum (K : PySem.W.Frag) (P : Program) (w : World) : List V → Hp → VK → Prop := fun xs H Q => ∃ (l : Addr) (ks : List NP), xs = [V.ref l] ∧ SqL K H l (ks.map fun p => V.ref p.1) ∧ (∀ p ∈ ks, NumK K H p) ∧ FewN ks ∧
  ∀ a L, H a = none → (∀ p ∈ L, p ∈ ks) → (∀ p ∈ ks, p.2 ∈ L.map (·.2)) → (L.map (·.2)).Nodup → Q (.ref a) (upd H a (SetNO P w a L))
theorem cr_setNum (hc : X.calm = true) (hu : X.A.units + 64 < cLine) : CallR X (.type "set") (rSetNum X.K X.prog X.w) := by
  intro pins s σ H xs us Q I r h
  obtain ⟨l, ks, rfl, hl, hk, hf, q⟩ := h
  rw [Vals.ref1 r]
  obtain ⟨its, rv, pl, hz⟩ := I.list hl
  refine call_set_num (P := X.prog) (w := X.w) ks (I.ok.hd hc) pl.isList (by simpa using refs_num rv) (fun p hp => ⟨NK.is I (hk p hp).1 rfl, (hk p hp).2⟩) hf (by omega) fun h' tk L es ep t R g k => ?_
  refine ⟨.ref s.heap.objs.size, upd H s.heap.objs.size (SetNO X.prog X.w s.heap.objs.size L), I.laid (t' := tk) k (Nat.le_refl _) (setNO_new ⟨es, ep, t, R.ob, R.rows, R.tab, R.nd, R.pl, R.ld, R.room⟩), rfl, q _ L (I.hok.fresh (Nat.le_refl _)) (fun p hp => List.mem_of_mem_take (g.sub p hp)) (fun p hp => g.all p (by rw [List.take_length]; exact hp)) R.nd⟩
def rSortNum (K : PySem.W.Frag) (P : Program) (w : World) : List V → Hp → VK → Prop := fun vs H Q => ∃ (a : Addr) (L : List NP), vs = [V.ref a] ∧ H a = some (SetNO P w a L) ∧ (∀ p ∈ L, NumK K H p ∧ Dp K H (.ref p.1) p.2.data ∧ p.2.data.depth ≤ 60) ∧ L.length ≤ 1228 ∧
  AllAlike (L.map fun p => p.2.data) ∧ Sortable (L.map fun p => p.2.data) ∧
  ∀ (L' : List NP) (p : Addr), L'.Perm L → L'.Pairwise (fun q r => dataLt r.2.data q.2.data = false) → H p = none → Q (.ref p) (upd H p (.lst (L'.map fun q => V.ref q.1)))
theorem cr_sortNum (hc : X.calm = true) (hu : X.A.units + 65 < cLine) : CallR X (.builtin "sorted") (rSortNum X.K X.prog X.w) := by
  intro pins s σ H vs us Q I r h
  obtain ⟨a, L, rfl, ha, hk, few, hal, hso, q⟩ := h
  have R0 : SetN0 X.prog X.w s.heap a L := (I.hok a _ ha).1
  obtain ⟨es, ep, t, h1, h2, h3, h4, h5, h6, h7⟩ := R0.ex
  have R : STab X.prog X.w s.heap a L es ep t := ⟨h1, h2, h3, h4, fun p hp => ⟨NK.is I (hk p hp).1.1 rfl, (hk p hp).1.2⟩, h5, h6, h7⟩
  rw [Vals.ref1 r]
  refine sorted_setNum R (I.ok.hd hc) few hal hso (fun p hp => ?_) (fun p hp => by have := (hk p hp).2.2; omega) fun s' p out c L' k g o hp hg hout pm pw => ?_
  · obtain ⟨as, rd⟩ := Dp.readsAll I [p.2.data] [V.ref p.1] [.ref p.1] (.cons (hk p hp).2.1 .nil) (.cons rfl .nil)
    cases rd with
    | cons hr _ => exact ⟨_, hr⟩
  · have hlen : (L'.map fun q => V.ref q.1).length ≤ sizeLine := by rw [List.length_map, pm.length_eq, sizeLine_eq]; omega
    have hn : H p = none := I.hok.fresh hp
    have hv : Vals (L'.map fun q => V.ref q.1) out := by rw [hout]; exact vals_num L'
    have J : Inv X pins σ (upd H p (.lst (L'.map fun q => V.ref q.1))) { s with heap := s'.heap, gens := s'.gens, drawn := s'.drawn, toks := s'.toks } :=
      I.call (ch := []) (Un.laid k hp hn) (I.hok.laid k hp ⟨hlen, out, c, hv, hg⟩) (by rw [g]; exact I.bare) (fun _ z => nomatch z)
    have e : s' = { s with heap := s'.heap, gens := s'.gens, drawn := s'.drawn, toks := s'.toks } := by cases s'; cases s; cases o; rfl
    rw [e]
    exact ⟨.ref p, _, J, rfl, q L' p pm pw hn⟩
end
def numD : D → Bool
  | .int _ => true
  | .tuple ds => numDs ds
  | .none => false
  | .bool _ => false
  | .str _ => false
  | .list _ => false
  | .dict _ => false
where numDs : List D → Bool
  | [] => true
  | d :: ds => numD d && numDs ds
mutual
theorem numD_key : ∀ d : D, numD d = true → ∃ k, keyD d = some k ∧ numK k = true ∧ k.data = d ∧ k.depth = d.depth
  | .int i, _ => ⟨.num i, rfl, rfl, rfl, rfl⟩
  | .tuple ds, h => by
    obtain ⟨ks, e1, e2, e3, e4⟩ := numDs_key ds (by simpa [numD] using h)
    exact ⟨.tup ks, by rw [keyD, e1]; rfl, by simpa [numK] using e2, by rw [NestedKey.data, e3], by rw [NestedKey.depth, e4, PyData.depth]⟩
  | .none, h => by simp [numD] at h
  | .bool _, h => by simp [numD] at h
  | .str _, h => by simp [numD] at h
  | .list _, h => by simp [numD] at h
  | .dict _, h => by simp [numD] at h
theorem numDs_key : ∀ ds : List D, numD.numDs ds = true → ∃ ks, keyD.keyDs ds = some ks ∧ numK.numKs ks = true ∧ NestedKey.datas ks = ds ∧ NestedKey.depthAll ks = PyData.depthAll ds
  | [], _ => ⟨[], rfl, rfl, rfl, rfl⟩
  | d :: ds, h => by
    simp only [numD.numDs, Bool.and_eq_true] at h
    obtain ⟨k, a1, a2, a3, a4⟩ := numD_key d h.1
    obtain ⟨ks, b1, b2, b3, b4⟩ := numDs_key ds h.2
    exact ⟨k :: ks, by rw [keyD.keyDs, a1, b1], by simp only [numK.numKs, Bool.and_eq_true]; exact ⟨a2, b2⟩, by rw [NestedKey.datas, a3, b3], by rw [NestedKey.depthAll, PyData.depthAll, a4, b4]⟩
end
mutual
theorem numD_lay : ∀ d : D, numD d = true → d.canLay0 = true
  | .int i, _ => rfl
  | .tuple ds, h => by rw [PyData.canLay0]; exact numDs_lay ds (by simpa [numD] using h)
  | .none, h => by simp [numD] at h
  | .bool _, h => by simp [numD] at h
  | .str _, h => by simp [numD] at h
  | .list _, h => by simp [numD] at h
  | .dict _, h => by simp [numD] at h
theorem numDs_lay : ∀ ds : List D, numD.numDs ds = true → PyData.canLayAll0 ds = true
  | [], _ => rfl
  | d :: ds, h => by
    simp only [numD.numDs, Bool.and_eq_true] at h
    simp only [PyData.canLayAll0, Bool.and_eq_true]
    exact ⟨numD_lay d h.1, numDs_lay ds h.2⟩
end
/-- zs is the ascending list of what stands in ds -/
structure SetS (ds zs : List D) : Prop where
  mem : ∀ x, x ∈ zs ↔ x ∈ ds
  asc : zs.Pairwise fun a b => dataLt a b = true
  asy : ∀ x ∈ zs, ∀ y ∈ zs, dataLt x y = true → dataLt y x = false
  few : zs.length ≤ 1227
  num : ∀ x ∈ zs, numD x = true ∧ x.depth ≤ 8 ∧ ∃ d ds, x = .tuple (d :: ds)
  alk : AllAlike zs
theorem set_uniq : ∀ {zs ys : List D}, zs.Pairwise (fun a b => dataLt a b = true) → (∀ x ∈ zs, ∀ y ∈ zs, dataLt x y = true → dataLt y x = false) → ys.Pairwise (fun a b => dataLt b a = false) → ys.Perm zs → ys = zs
  | [], ys, _, _, _, pm => pm.eq_nil
  | z :: zs, ys, h1, h2, h3, pm => by
    cases ys with
    | nil => exact absurd pm.symm.eq_nil (by simp)
    | cons y ys =>
      have g1 := List.pairwise_cons.mp h1
      have g3 := List.pairwise_cons.mp h3
      have e : y = z := by
        rcases List.mem_cons.mp (pm.mem_iff.mp (List.mem_cons_self ..)) with e | hy
        · exact e
        · rcases List.mem_cons.mp (pm.mem_iff.mpr (List.mem_cons_self ..)) with e | hz
          · exact e.symm
          · have a := g1.1 y hy
            have b := g3.1 z hz
            rw [a] at b
            cases b
      subst e
      rw [set_uniq g1.2 (fun x hx u hu => h2 x (.tail _ hx) u (.tail _ hu)) g3.2 (List.perm_cons _ |>.mp pm)]
theorem SetS.nodup {ds zs : List D} (h : SetS ds zs) : zs.Nodup := by
  refine List.Pairwise.imp_of_mem (fun {a b} ha hb hl e => ?_) h.asc
  subst e
  have := h.asy a ha a ha hl
  rw [hl] at this
  cases this
theorem SetS.uniq {ds zs ys : List D} (h : SetS ds zs) (g : SetS ds ys) : ys = zs := by
  refine set_uniq h.asc h.asy (List.Pairwise.imp_of_mem (fun {a b} ha hb hl => g.asy a ha b hb hl) g.asc) ((List.perm_ext_iff_of_nodup g.nodup h.nodup).mpr fun x => (g.mem x).trans (h.mem x).symm)
open Classical in
noncomputable def oSetS (ds : List D) : Option (List D) := if h : ∃ zs, SetS ds zs then some (Classical.choose h) else none
theorem oSetS_of {ds zs : List D} (h : SetS ds zs) : oSetS ds = some zs := by
  have hx : ∃ zs, SetS ds zs := ⟨zs, h⟩
  unfold oSetS
  rw [dif_pos hx, h.uniq (Classical.choose_spec hx)]
theorem oSetS_some {ds zs : List D} (h : oSetS ds = some zs) : SetS ds zs := by
  unfold oSetS at h
  split at h
  · rename_i hx
    cases h
    exact Classical.choose_spec hx
  · cases h
section
variable {S : Type} [SI S] {X : Cx} {B : Bs} {E : XK} {e : Expr} {f : Ex S} {p p2 pos pos2 : Pos}
noncomputable def eSortSetS (f : Ex S) : Ex S := fun ρ s => (f ρ s).bind fun y s1 => match y with
  | .d (.list ds) => (match oSetS ds with
    | some zs => .ok (.d (.list zs)) s1
    | none => .bad)
  | _ => .bad
/-- the tuples of a list, with their keys -/
theorem num_pairs {A : Addr → Prop} {H : Hp} : ∀ {xs : List V} {ds : List D}, RpL B A H xs ds → (∀ d ∈ ds, numD d = true ∧ d.depth ≤ 8 ∧ ∃ x xs, d = .tuple (x :: xs)) →
    ∃ ks : List NP, xs = ks.map (fun p => V.ref p.1) ∧ ds = ks.map (fun p => p.2.data) ∧ ∀ p ∈ ks, keyD p.2.data = some p.2 ∧ numK p.2 = true ∧ p.2.depth ≤ 8 ∧ Rp B A H (.ref p.1) p.2.data
  | _, _, .nil, _ => ⟨[], rfl, rfl, fun p hp => by cases hp⟩
  | v :: xs, d :: ds, .cons h t, hd => by
    obtain ⟨ks, e1, e2, e3⟩ := num_pairs t fun d hd' => hd d (.tail _ hd')
    obtain ⟨hn, h8, y, ys, rfl⟩ := hd d (.head _)
    obtain ⟨k, k1, k2, k3, k4⟩ := numD_key _ hn
    have hv : ∃ a, v = .ref a := by cases h with | tup _ _ => exact ⟨_, rfl⟩
    obtain ⟨a, rfl⟩ := hv
    refine ⟨(a, k) :: ks, by rw [e1]; rfl, by rw [e2, List.map_cons, k3], fun p hp => ?_⟩
    rcases List.mem_cons.mp hp with e | hp
    · rw [e]
      dsimp only
      rw [k3]
      exact ⟨k1, k2, by omega, h⟩
    · exact e3 p hp
theorem nodup_le {α : Type} : ∀ (l m : List α), l.Nodup → (∀ x ∈ l, x ∈ m) → l.length ≤ m.length
  | [], m, _, _ => Nat.zero_le _
  | x :: l, m, h, hs => by
    obtain ⟨m1, m2, rfl⟩ := List.append_of_mem (hs x (.head _))
    have h := List.nodup_cons.mp h
    have := nodup_le l (m1 ++ m2) h.2 fun y hy => by
      have hy' := hs y (.tail _ hy)
      have hne : y ≠ x := fun e => h.1 (e ▸ hy)
      rw [List.mem_append, List.mem_cons] at hy'
      rw [List.mem_append]
      rcases hy' with a | a | a
      · exact .inl a
      · exact absurd a hne
      · exact .inr a
    rw [List.length_append] at this ⊢
    rw [List.length_cons, List.length_cons]
    omega
theorem Same.kpA {A : Addr → Prop} {H H' : Hp} (k : ∀ b o, H b = some o → H' b = some o) : Kp A H H' := ⟨fun a u _ h => k a u h, fun a o h _ => k a o h⟩
theorem de_sortSetS (c : Ctx X B) (hm : X.mg "sorted" = none) (hm2 : X.mg "set" = none) (ha : DB X B E e f) (hg : Gl X "sorted" := by rfl) (hg2 : Gl X "set" := by rfl)
    (na : starEach [e] X.env = (false, eval e X.env) :: starEach [] X.env := by rfl)
    (ns : starEach [.Call (.Name "set" p2) [e] [] pos2] X.env = (false, eval (.Call (.Name "set" p2) [e] [] pos2) X.env) :: starEach [] X.env := by rfl) (hpl : (backTo pos2 (starEach [] X.env)).any (·.1) = false := by rfl) (hpl2 : (backTo pos (starEach [] X.env)).any (·.1) = false := by rfl) :
    DE X B E (.Call (.Name "sorted" p) [.Call (.Name "set" p2) [e] [] pos2] [] pos) (eSortSetS f) := by
  refine pe_imp (pe_callB (cr_sortNum c.calm c.u65) hg hm (by decide +kernel) (pa_cons (pe_callTy (cr_setNum c.calm (by have := c.u65; omega)) hg2 hm2 (by decide +kernel) (pa_cons ha pa_nil na) (he := na) (hpl := hpl)) pa_nil ns) (he := ns) (hpl := hpl2)) fun σ H Q ⟨G, own, ρ, s, R, q⟩ => ?_
  refine tB.run R _ q.bnd fun y s1 v H1 q1 k1 r1 R1 => ?_
  cases y with
  | r _ => exact q1.elim
  | o _ _ => exact q1.elim
  | p _ => exact q1.elim
  | f _ => exact q1.elim
  | d d =>
    cases d with
    | list ds =>
      dsimp only at q1
      cases hi : oSetS ds with
      | none => simp only [hi] at q1; exact q1.elim
      | some zs =>
        simp only [hi] at q1
        have Z := oSetS_some hi
        obtain ⟨u, xs, rfl, h, rl⟩ := rt_lst r1
        obtain ⟨ks, rfl, e2, hks⟩ := num_pairs rl fun d hd => Z.num d ((Z.mem d).mpr hd)
        have inj : ∀ p ∈ ks, ∀ q ∈ ks, p.2 = q.2 → p.2.data = q.2.data := fun p hp q hq e => by rw [e]
        have nod : ∀ L : List NP, (∀ p ∈ L, p ∈ ks) → (L.map (·.2)).Nodup → (L.map fun p => p.2.data).Nodup := fun L sub nd => by
          have e : (L.map fun p => p.2.data).map keyD = (L.map (·.2)).map some := by
            rw [List.map_map, List.map_map]
            exact List.map_congr_left fun p hp => (hks p (sub p hp)).1
          refine L2.nodup_of_map (f := keyD) ?_
          rw [e]
          exact List.pairwise_map.mpr (nd.imp fun h e => h (Option.some.inj e))
        have inz : ∀ p ∈ ks, p.2.data ∈ zs := fun p hp => (Z.mem _).mpr (by rw [e2]; exact List.mem_map.mpr ⟨p, hp, rfl⟩)
        have nk : ∀ {H' : Hp} {p : NP}, Rp B (Av G own) H' (.ref p.1) p.2.data → p ∈ ks → NumK B.K H' p := fun r hp => ⟨rp_nk r (hks _ hp).1, (hks _ hp).2.2.1, (hks _ hp).2.1⟩
        have few : FewN ks := fun L nd sub => by
          have := nodup_le _ zs (nod L sub nd) fun x hx => by
            obtain ⟨p, hp, rfl⟩ := List.mem_map.mp hx
            exact inz p (sub p hp)
          rw [List.length_map] at this
          exact Nat.le_trans this Z.few
        refine ⟨u, ks, rfl, SqL.of h, fun p hp => by rw [← c.hK]; exact nk (hks p hp).2.2.2 hp, few, fun a L ha sub all nd => ?_⟩
        have kp2 : Kp (Av G own) H1 (upd H1 a (SetNO X.prog X.w a L)) := Same.kpA (same_upd ha)
        have k2 := R1.put (o := SetNO X.prog X.w a L) ha
        have R2 := R1.stp k2
        have rp2 : ∀ p ∈ ks, Rp B (Av G own) (upd H1 a (SetNO X.prog X.w a L)) (.ref p.1) p.2.data := fun p hp => Rp.kp kp2 (hks p hp).2.2.2
        have z8 : ∀ p ∈ L, numD p.2.data = true ∧ p.2.data.depth ≤ 8 ∧ ∃ d ds, p.2.data = .tuple (d :: ds) := fun p hp => Z.num _ (inz p (sub p hp))
        refine ⟨a, L, rfl, upd_same, fun p hp => ⟨by rw [← c.hK]; exact nk (rp2 p (sub p hp)) (sub p hp), by rw [← c.hK]; exact Rp.dp (rp2 p (sub p hp)) (numD_lay _ (z8 p hp).1), by have := (z8 p hp).2.1; omega⟩, by have := few L nd sub; omega, fun d hd e he => ?_, .inl fun d hd => ?_, fun L' p3 pm pw hp3 => ?_⟩
        · obtain ⟨p, hp, rfl⟩ := List.mem_map.mp hd
          obtain ⟨q, hq, rfl⟩ := List.mem_map.mp he
          exact Z.alk _ (inz p (sub p hp)) _ (inz q (sub q hq))
        · obtain ⟨p, hp, rfl⟩ := List.mem_map.mp hd
          exact (z8 p hp).2.2
        · have nd' : (L'.map fun p => p.2.data).Nodup := (pm.map _).nodup_iff.mpr (nod L sub nd)
          have e : L'.map (fun p => p.2.data) = zs := by
            refine set_uniq Z.asc Z.asy (List.pairwise_map.mpr pw) ((List.perm_ext_iff_of_nodup nd' Z.nodup).mpr fun x => ⟨fun hx => ?_, fun hx => ?_⟩)
            · obtain ⟨p, hp, rfl⟩ := List.mem_map.mp hx
              exact inz p (sub p (pm.mem_iff.mp hp))
            · have hx := (Z.mem x).mp hx
              rw [e2] at hx
              obtain ⟨p, hp, rfl⟩ := List.mem_map.mp hx
              obtain ⟨q, hq, e⟩ := List.mem_map.mp (all p hp)
              have e : q.2 = p.2 := e
              exact List.mem_map.mpr ⟨q, pm.mem_iff.mpr hq, by rw [e]⟩
          refine q1 _ _ ((k1.trans k2).trans (R2.put hp3)) (new_lst hp3 (R2.fresh hp3) ?_)
          rw [← e]
          have key : ∀ M : List NP, (∀ p ∈ M, p ∈ ks) → RpL B (Av G own) (upd H1 a (SetNO X.prog X.w a L)) (M.map fun q => V.ref q.1) (M.map fun p => p.2.data) := by
            intro M
            induction M with
            | nil => exact fun _ => .nil
            | cons p M ih => exact fun hM => .cons (rp2 p (hM p (.head _))) (ih fun q hq => hM q (.tail _ hq))
          exact key L' fun p hp => sub p (pm.mem_iff.mp hp)
    | _ => exact q1.elim
end
end DL
namespace DL
open PySem PySem.Spec PyProof.Rows L2
section
variable {S : Type} {α β : Type} {T : Exn → S → Prop}
def W0 (T : Exn → S → Prop) (o : Out S α) (Q : α → S → Prop) : Prop := match o with
  | .ok a s => Q a s
  | .ex e s => T e s
  | .bad => False
/-- a box, so that no reduction looks inside -/
structure WT (T : Exn → S → Prop) (o : Out S α) (Q : α → S → Prop) : Prop where
  box ::
  out : W0 T o Q
/-- no exception -/
def F0 : Exn → S → Prop := fun _ _ => False
abbrev W (o : Out S α) (Q : α → S → Prop) : Prop := WT F0 o Q
theorem WT.ok {o : Out S α} {Q : α → S → Prop} (h : WT F0 o Q) : ∃ a s, o = .ok a s ∧ Q a s := by
  obtain ⟨h⟩ := h
  cases o with
  | ok a s => exact ⟨a, s, rfl, h⟩
  | bad => exact h.elim
  | ex _ _ => exact h.elim
theorem WT.parts {o : Out S α} {Q : α → S → Prop} (h : WT T o Q) : (∃ a s, o = .ok a s ∧ Q a s) ∨ ∃ e s, o = .ex e s ∧ T e s := by
  obtain ⟨h⟩ := h
  cases o with
  | ok a s => exact .inl ⟨a, s, rfl, h⟩
  | bad => exact h.elim
  | ex e s => exact .inr ⟨e, s, rfl, h⟩
theorem w_ok {Q : α → S → Prop} {a : α} {s : S} (q : Q a s) : WT T (.ok a s) Q := ⟨q⟩
theorem WT.get {Q : α → S → Prop} {a : α} {s : S} (h : WT T (.ok a s) Q) : Q a s := h.out
theorem w_of {o : Out S α} {Q : α → S → Prop} {a : α} {s : S} (e : o = .ok a s) (q : Q a s) : WT T o Q := by rw [e]; exact ⟨q⟩
theorem WT.mono {o : Out S α} {Q Q' : α → S → Prop} (h : WT T o Q) (k : ∀ a s, Q a s → Q' a s) : WT T o Q' := by
  rcases h.parts with ⟨a, s, rfl, q⟩ | ⟨a, s, rfl, q⟩
  · exact ⟨k _ _ q⟩
  · exact ⟨q⟩
theorem w_then {o : Out S α} {P Q : α → S → Prop} (h : WT T o P) (k : ∀ a s, P a s → Q a s) : WT T o Q := h.mono k
theorem w_bind {o : Out S α} {f : α → S → Out S β} {Q : β → S → Prop} (h : WT T o fun a s => WT T (f a s) Q) : WT T (o.bind f) Q := by
  rcases h.parts with ⟨a, s, rfl, q⟩ | ⟨a, s, rfl, q⟩
  · exact q
  · exact ⟨q⟩
theorem w_noex {o : Out S α} {Q : α → S → Prop} (h : W o Q) : WT T (noex o) Q := by
  obtain ⟨a, s, rfl, q⟩ := h.ok
  exact ⟨q⟩
theorem w_bindP {o : Out S α} {f : α → S → Out S β} {Q : β → S → Prop} (h : WT T o fun a s => W0 T (f a s) Q) : WT T (o.bind f) Q := by
  rcases h.parts with ⟨a, s, rfl, q⟩ | ⟨a, s, rfl, q⟩
  · exact ⟨q⟩
  · exact ⟨q⟩
theorem WT.eq {o : Out S α} {a : α} {s : S} (h : WT F0 o fun x s' => x = a ∧ s' = s) : o = .ok a s := by
  obtain ⟨_, _, e, rfl, rfl⟩ := h.ok
  exact e
theorem w_eq {o : Out S α} {a : α} {s : S} (h : W o fun x s' => x = a ∧ s' = s) : o = .ok a s := WT.eq h
theorem W.ok {o : Out S α} {Q : α → S → Prop} (h : W o Q) : ∃ a s, o = .ok a s ∧ Q a s := WT.ok h
theorem W.get {Q : α → S → Prop} {a : α} {s : S} (h : W (.ok a s) Q) : Q a s := h.out
theorem W.mono {o : Out S α} {Q Q' : α → S → Prop} (h : W o Q) (k : ∀ a s, Q a s → Q' a s) : W o Q' := WT.mono h k
theorem W.eq {o : Out S α} {a : α} {s : S} (h : W o fun x s' => x = a ∧ s' = s) : o = .ok a s := WT.eq h
/-- what is plain, and the rest -/
def Ck (p q : Prop) : Prop := p ∧ q
theorem ck {p q : Prop} (e : p) (h : q) : Ck p q := ⟨e, h⟩
/-- a display is no longer than a line -/
def LenOk (ds : List D) (q : Prop) : Prop := ds.length ≤ sizeLine ∧ q
theorem lenok {ds : List D} {q : Prop} (e : ds.length ≤ 1000) (h : q) : LenOk ds q := ⟨Nat.le_trans e (by rw [sizeLine_eq]; decide), h⟩
def FlK (k : Env → S → Prop) (Q : Fl → S → Prop) (fl : Fl) (s : S) : Prop := match fl with
  | .nx ρ => k ρ s
  | x => Q x s
theorem flk_nx {k : Env → S → Prop} {Q : Fl → S → Prop} {ρ : Env} {s : S} (h : k ρ s) : FlK k Q (.nx ρ) s := h
theorem flk_rt {k : Env → S → Prop} {Q : Fl → S → Prop} {y : Val} {s : S} (h : Q (.rt y) s) : FlK k Q (.rt y) s := h
theorem flk_bk {k : Env → S → Prop} {Q : Fl → S → Prop} {y : Env} {s : S} (h : Q (.bk y) s) : FlK k Q (.bk y) s := h
theorem flk_ct {k : Env → S → Prop} {Q : Fl → S → Prop} {y : Env} {s : S} (h : Q (.ct y) s) : FlK k Q (.ct y) s := h
/-- what a body gives back -/
def RtK (Q : Val → S → Prop) (fl : Fl) (s : S) : Prop := match fl with
  | .rt y => Q y s
  | .nx _ => Q (.d .none) s
  | _ => False
theorem rtk_rt {Q : Val → S → Prop} {y : Val} {s : S} (h : Q y s) : RtK Q (.rt y) s := h
theorem rtk_nx {Q : Val → S → Prop} {ρ : Env} {s : S} (h : Q (.d .none) s) : RtK Q (.nx ρ) s := h
/-- a turn of a loop -/
def LpK (k : Env → S → Prop) (Q : Fl → S → Prop) (fl : Fl) (s : S) : Prop := match fl with
  | .nx ρ => k ρ s
  | .ct ρ => k ρ s
  | .bk ρ => Q (.nx ρ) s
  | .rt y => Q (.rt y) s
  | .rg y ρ => Q (.rg y ρ) s
theorem lpk_nx {k : Env → S → Prop} {Q : Fl → S → Prop} {ρ : Env} {s : S} (h : k ρ s) : LpK k Q (.nx ρ) s := h
theorem lpk_ct {k : Env → S → Prop} {Q : Fl → S → Prop} {ρ : Env} {s : S} (h : k ρ s) : LpK k Q (.ct ρ) s := h
theorem lpk_bk {k : Env → S → Prop} {Q : Fl → S → Prop} {ρ : Env} {s : S} (h : Q (.nx ρ) s) : LpK k Q (.bk ρ) s := h
theorem lpk_rt {k : Env → S → Prop} {Q : Fl → S → Prop} {y : Val} {s : S} (h : Q (.rt y) s) : LpK k Q (.rt y) s := h
/-- a parting of ways -/
def Br (b : Bool) (p q : Prop) : Prop := if b then p else q
theorem br_t {p q : Prop} (h : p) : Br true p q := h
theorem br_f {p q : Prop} (h : q) : Br false p q := h
theorem br {b : Bool} {p q : Prop} (h : b = true → p) (k : b = false → q) : Br b p q := by
  cases b
  · exact k rfl
  · exact h rfl
theorem br_dec {P : Prop} [Decidable P] {p q : Prop} (h : P → p) (k : ¬ P → q) : Br (decide P) p q := br (fun e => h (of_decide_eq_true e)) fun e => k (of_decide_eq_false e)
theorem br_ndec {P : Prop} [Decidable P] {p q : Prop} (h : ¬ P → p) (k : P → q) : Br (!decide P) p q := br (fun e => h (by simpa using e)) fun e => k (by simpa using e)
/-- an environment, written out -/
def Stt (ρ : Env) (k : Env → Prop) : Prop := k ρ
theorem stt_z {a y : Sl} {as : Env} {k : Env → Prop} (h : k (y :: as)) : Stt ((a :: as).set 0 y) k := h
theorem stt_s {a y : Sl} {as : Env} {i : Nat} {k : Env → Prop} (h : Stt (as.set i y) fun r => k (a :: r)) : Stt ((a :: as).set (i + 1) y) k := h
variable {ρ : Env} {s : S} {i j n : Nat} {f fa fb fc : Ex S} {g : Exs S}
theorem w_var {y : Val} {Q : Val → S → Prop} (e : ρ[i]? = some (.v y)) (q : Q y s) : WT T (eVar i ρ s) Q := by unfold eVar; rw [e]; (first | exact q | exact ⟨q⟩ | exact WT.get q)
theorem w_bvar {y : Val} {Q : Val → S → Prop} (e : ρ[i]? = some (.v y)) (q : Q y s) : WT T (bVar i ρ s) Q := by unfold bVar; rw [e]; (first | exact q | exact ⟨q⟩ | exact WT.get q)
theorem w_bvarL {ds : List D} {Q : Val → S → Prop} (e : ρ[i]? = some (.l ds)) (q : Q (.d (.list ds)) s) : WT T (bVar i ρ s) Q := by unfold bVar; rw [e]; (first | exact q | exact ⟨q⟩ | exact WT.get q)
theorem w_bvarM {ds : List (D × D)} {Q : Val → S → Prop} (e : ρ[i]? = some (.m ds)) (q : Q (.d (.dict ds)) s) : WT T (bVar i ρ s) Q := by unfold bVar; rw [e]; (first | exact q | exact ⟨q⟩ | exact WT.get q)
theorem w_c {d : D} {Q : Val → S → Prop} (q : Q (.d d) s) : WT T (eC d ρ s) Q := (by first | exact q | exact ⟨q⟩ | exact WT.get q)
def BV (op : D → D → Option D) (x y : Val) (s : S) (Q : Val → S → Prop) : Prop := ∃ p q r, x = .d p ∧ y = .d q ∧ op p q = some r ∧ Q (.d r) s
theorem bv {op : D → D → Option D} {p q r : D} {Q : Val → S → Prop} (e : op p q = some r) (h : Q (.d r) s) : BV op (.d p) (.d q) s Q := ⟨p, q, r, rfl, rfl, e, h⟩
theorem w_bin {op : D → D → Option D} {Q : Val → S → Prop} (h : WT T (fa ρ s) fun x s1 => WT T (fb ρ s1) fun y s2 => BV op x y s2 Q) : WT T (eBin op fa fb ρ s) Q :=
  w_bind (h.mono fun x s1 h => w_bind (h.mono fun y s2 ⟨p, q, r, hx, hy, e, z⟩ => by subst hx hy; show WT T (match op p q with | some r => .ok (.d r) s2 | none => .bad) Q; rw [e]; (first | exact z | exact ⟨z⟩ | exact WT.get z)))
def UV (op : D → Option D) (x : Val) (s : S) (Q : Val → S → Prop) : Prop := ∃ p r, x = .d p ∧ op p = some r ∧ Q (.d r) s
theorem uv {op : D → Option D} {p r : D} {Q : Val → S → Prop} (e : op p = some r) (h : Q (.d r) s) : UV op (.d p) s Q := ⟨p, r, rfl, e, h⟩
theorem w_un {op : D → Option D} {Q : Val → S → Prop} (h : WT T (fa ρ s) fun x s1 => UV op x s1 Q) : WT T (eUn op fa ρ s) Q :=
  w_bind (h.mono fun x s1 ⟨p, r, hx, e, z⟩ => by subst hx; show WT T (match op p with | some r => .ok (.d r) s1 | none => .bad) Q; rw [e]; (first | exact z | exact ⟨z⟩ | exact WT.get z))
theorem w_anil {Q : List Val → S → Prop} (q : Q [] s) : WT T (aNil ρ s) Q := (by first | exact q | exact ⟨q⟩ | exact WT.get q)
theorem w_acons {Q : List Val → S → Prop} (h : WT T (f ρ s) fun x s1 => WT T (g ρ s1) fun xs s2 => Q (x :: xs) s2) : WT T (aCons f g ρ s) Q := w_bind (h.mono fun x s1 h => w_bindP h)
/-- a truth -/
def TV (x : Val) (s : S) (Q : Bool → S → Prop) : Prop := ∃ b, x = .d (.bool b) ∧ Q b s
theorem tv {b : Bool} {Q : Bool → S → Prop} (h : Q b s) : TV (.d (.bool b)) s Q := ⟨b, rfl, h⟩
theorem w_tof {Q : Bool → S → Prop} (h : WT T (f ρ s) fun x s1 => TV x s1 Q) : WT T (tOf f ρ s) Q := w_bind (h.mono fun x s1 ⟨b, hx, z⟩ => by subst hx; (first | exact z | exact ⟨z⟩ | exact WT.get z))
variable {c c1 c2 : DL.Tx S}
theorem w_not {Q : Bool → S → Prop} (h : WT T (c ρ s) fun b s1 => Q (!b) s1) : WT T (xNot c ρ s) Q := w_bindP h
theorem w_and {Q : Bool → S → Prop} (h : WT T (c1 ρ s) fun b s1 => Br b (WT T (c2 ρ s1) Q) (Q false s1)) : WT T (xAnd c1 c2 ρ s) Q := w_bind (h.mono fun b s1 h => by cases b <;> (first | exact h | exact ⟨h⟩ | exact WT.get h))
theorem w_or {Q : Bool → S → Prop} (h : WT T (c1 ρ s) fun b s1 => Br b (Q true s1) (WT T (c2 ρ s1) Q)) : WT T (xOr c1 c2 ρ s) Q := w_bind (h.mono fun b s1 h => by cases b <;> (first | exact h | exact ⟨h⟩ | exact WT.get h))
theorem w_yes {Q : Bool → S → Prop} (h : Q true s) : WT T (xYes ρ s) Q := (by first | exact h | exact ⟨h⟩ | exact WT.get h)
theorem w_enot {Q : Val → S → Prop} (h : WT T (f ρ s) fun x s1 => TV x s1 fun b s2 => Q (.d (.bool (!b))) s2) : WT T (eNot f ρ s) Q := w_bind (h.mono fun x s1 ⟨b, hx, z⟩ => by subst hx; (first | exact z | exact ⟨z⟩ | exact WT.get z))
theorem w_eand {Q : Val → S → Prop} (h : WT T (fa ρ s) fun x s1 => TV x s1 fun b s2 => Br b (WT T (fb ρ s2) Q) (Q (.d (.bool false)) s2)) : WT T (eAnd fa fb ρ s) Q := w_bind (h.mono fun x s1 ⟨b, hx, z⟩ => by subst hx; cases b <;> (first | exact z | exact ⟨z⟩ | exact WT.get z))
theorem w_eor {Q : Val → S → Prop} (h : WT T (fa ρ s) fun x s1 => TV x s1 fun b s2 => Br b (Q (.d (.bool true)) s2) (WT T (fb ρ s2) Q)) : WT T (eOr fa fb ρ s) Q := w_bind (h.mono fun x s1 ⟨b, hx, z⟩ => by subst hx; cases b <;> (first | exact z | exact ⟨z⟩ | exact WT.get z))
theorem w_eif {Q : Val → S → Prop} (h : WT T (c ρ s) fun b s1 => Br b (WT T (fa ρ s1) Q) (WT T (fb ρ s1) Q)) : WT T (eIf c fa fb ρ s) Q := w_bind (h.mono fun b s1 h => by cases b <;> exact h)
theorem w_chain {r r' : D → D → Option D} {Q : Val → S → Prop} (h : WT T (fa ρ s) fun x s1 => WT T (fb ρ s1) fun y s2 => BV r x y s2 fun t s3 => TV t s3 fun b s4 => Br b (WT T (fc ρ s4) fun z s5 => BV r' y z s5 Q) (Q (.d (.bool false)) s4)) : WT T (eChain r r' fa fb fc ρ s) Q := by
  refine w_bind (h.mono fun x s1 h => w_bind (h.mono fun y s2 h => ?_))
  obtain ⟨p, q, t, rfl, rfl, e, b, ht, z⟩ := h
  cases ht
  cases b with
  | false =>
    show WT T (match r p q with | some (.bool true) => _ | some (.bool false) => _ | _ => _) Q
    rw [e]
    (first | exact z | exact ⟨z⟩ | exact WT.get z)
  | true =>
    show WT T (match r p q with | some (.bool true) => _ | some (.bool false) => _ | _ => _) Q
    rw [e]
    refine w_bind (WT.mono z fun w s5 h => ?_)
    obtain ⟨p', q', t', h1, rfl, e', z'⟩ := h
    injection h1 with h1
    rw [← h1] at e'
    simp only [e']
    (first | exact z' | exact ⟨z'⟩ | exact WT.get z')
def DV_ (ys : List Val) (s : S) (Q : List D → S → Prop) : Prop := ∃ ds, datas ys = some ds ∧ Q ds s
theorem dvs {ds : List D} {ys : List Val} {Q : List D → S → Prop} (e : datas ys = some ds) (h : Q ds s) : DV_ ys s Q := ⟨ds, e, h⟩
theorem w_seqD {mk : List D → D} {Q : Val → S → Prop} (h : WT T (g ρ s) fun ys s1 => DV_ ys s1 fun ds s2 => LenOk ds (Q (.d (mk ds)) s2)) : WT T (eSeq mk g ρ s) Q :=
  w_bind (h.mono fun ys s1 ⟨ds, e, hl, z⟩ => by show WT T (match datas ys with | some ds => _ | none => _) Q; rw [e]; show WT T (if ds.length ≤ sizeLine then _ else _) Q; rw [if_pos hl]; (first | exact z | exact ⟨z⟩ | exact WT.get z))
theorem w_onone {Q : Option Int → S → Prop} (q : Q none s) : WT T (oNone ρ s) Q := (by first | exact q | exact ⟨q⟩ | exact WT.get q)
def IV (x : Val) (s : S) (Q : Int → S → Prop) : Prop := ∃ b, x = .d (.int b) ∧ Q b s
theorem iv {b : Int} {Q : Int → S → Prop} (h : Q b s) : IV (.d (.int b)) s Q := ⟨b, rfl, h⟩
theorem w_osome {Q : Option Int → S → Prop} (h : WT T (f ρ s) fun x s1 => IV x s1 fun b s2 => Q (some b) s2) : WT T (oSome f ρ s) Q := w_bind (h.mono fun x s1 ⟨b, hx, z⟩ => by subst hx; (first | exact z | exact ⟨z⟩ | exact WT.get z))
theorem w_sl {fl fh : Ox S} {Q : Val → S → Prop} (h : WT T (fa ρ s) fun x s1 => WT T (fl ρ s1) fun l s2 => WT T (fh ρ s2) fun h s3 => UV (fun d => opSl d l h) x s3 Q) : WT T (eSl fa fl fh ρ s) Q :=
  w_bind (h.mono fun x s1 h => w_bind (h.mono fun l s2 h => w_bind (h.mono fun u s3 ⟨p, r, hx, e, z⟩ => by subst hx; show WT T (match (fun d => opSl d l u) p with | some r => .ok (.d r) s3 | none => .bad) Q; rw [e]; (first | exact z | exact ⟨z⟩ | exact WT.get z))))
def CV (op : List D → Option D) (ys : List Val) (s : S) (Q : Val → S → Prop) : Prop := ∃ ds z, datas ys = some ds ∧ op ds = some z ∧ Q (.d z) s
theorem cv {op : List D → Option D} {ys : List Val} {ds : List D} {z : D} {Q : Val → S → Prop} (e : datas ys = some ds) (e' : op ds = some z) (h : Q (.d z) s) : CV op ys s Q := ⟨ds, z, e, e', h⟩
theorem cv1 {op : List D → Option D} {d z : D} {Q : Val → S → Prop} (e' : op [d] = some z) (h : Q (.d z) s) : CV op [.d d] s Q := ⟨[d], z, rfl, e', h⟩
theorem w_call {op : List D → Option D} {Q : Val → S → Prop} (h : WT T (g ρ s) fun ys s1 => CV op ys s1 Q) : WT T (eCall op g ρ s) Q :=
  w_bind (h.mono fun ys s1 ⟨ds, z, e, e', q⟩ => by show WT T (match datas ys with | some ds => _ | none => _) Q; rw [e]; show WT T (match op ds with | some z => .ok (.d z) s1 | none => .bad) Q; rw [e']; (first | exact q | exact ⟨q⟩ | exact WT.get q))
def Fw (n : Nat) (F : List Val → S → Out S Val) (ys : List Val) (s : S) (Q : Val → S → Prop) : Prop := ys.length = n ∧ W (F ys s) Q
theorem fw {F : List Val → S → Out S Val} {ys : List Val} {Q : Val → S → Prop} (e : ys.length = n) (h : W (F ys s) Q) : Fw n F ys s Q := ⟨e, h⟩
theorem w_fn {F : List Val → S → Out S Val} {Q : Val → S → Prop} (h : WT T (g ρ s) fun ys s1 => Fw n F ys s1 Q) : WT T (eFn n F g ρ s) Q :=
  w_bind (h.mono fun ys s1 ⟨e, q⟩ => by show WT T (if ys.length = n then _ else _) Q; rw [if_pos e]; exact w_noex q)
def HV (x : Val) (s : S) (Q : Val → S → Prop) : Prop := ∃ d, x = .d d ∧ hard d = true ∧ Q (.d d) s
theorem hv {d : D} {Q : Val → S → Prop} (e : hard d = true) (h : Q (.d d) s) : HV (.d d) s Q := ⟨d, rfl, e, h⟩
theorem w_fnB {F : List Val → S → Out S Val} {Q : Val → S → Prop} (h : WT T (g ρ s) fun ys s1 => Fw n F ys s1 fun y s2 => HV y s2 Q) : WT T (eFnB n F g ρ s) Q :=
  w_bind (h.mono fun ys s1 ⟨e, q⟩ => by
    show WT T (if ys.length = n then _ else _) Q
    rw [if_pos e]
    refine w_bind (w_noex (q.mono fun y s2 ⟨d, hd, hh, z⟩ => ?_))
    subst hd
    show WT T (if hard d = true then .ok (.d d) s2 else .bad) Q
    rw [if_pos hh]
    (first | exact z | exact ⟨z⟩ | exact WT.get z))
theorem w_isi {Ty : String} {Q : Val → S → Prop} (h : WT T (f ρ s) fun x s1 => UV (fun d => match d with | .dict _ => none | d => some (.bool (isT Ty d))) x s1 Q) : WT T (eIsi Ty f ρ s) Q :=
  w_bind (h.mono fun x s1 ⟨p, r, hx, e, z⟩ => by
    subst hx
    cases p with
    | dict _ => cases e
    | _ => cases e; (first | exact z | exact ⟨z⟩ | exact WT.get z))
variable {f' : Lx S}
theorem w_eL {Q : Val → S → Prop} (h : WT T (f' ρ s) fun ds s1 => Q (.d (.list ds)) s1) : WT T (eL f' ρ s) Q := w_bindP h
theorem w_lseq {Q : List D → S → Prop} (h : WT T (g ρ s) fun ys s1 => DV_ ys s1 fun ds s2 => LenOk ds (Q ds s2)) : WT T (lSeq g ρ s) Q :=
  w_bind (h.mono fun ys s1 ⟨ds, e, hl, z⟩ => by show WT T (match datas ys with | some ds => _ | none => _) Q; rw [e]; show WT T (if ds.length ≤ sizeLine then _ else _) Q; rw [if_pos hl]; (first | exact z | exact ⟨z⟩ | exact WT.get z))
theorem w_lcat {Q : List D → S → Prop} (h : WT T (fa ρ s) fun x s1 => WT T (fb ρ s1) fun y s2 => ∃ a b, x = .d (.list a) ∧ y = .d (.list b) ∧ a.length + b.length ≤ sizeLine ∧ Q (a ++ b) s2) : WT T (lCat fa fb ρ s) Q :=
  w_bind (h.mono fun x s1 h => w_bind (h.mono fun y s2 ⟨a, b, hx, hy, hl, z⟩ => by subst hx hy; show WT T (if a.length + b.length ≤ sizeLine then _ else _) Q; rw [if_pos hl]; (first | exact z | exact ⟨z⟩ | exact WT.get z)))
def SV (x : Val) (s : S) (Q : List D → S → Prop) : Prop := ∃ ds, (x = .d (.list ds) ∨ x = .d (.tuple ds)) ∧ Q ds s
theorem sv_l {ds : List D} {Q : List D → S → Prop} (h : Q ds s) : SV (.d (.list ds)) s Q := ⟨ds, .inl rfl, h⟩
theorem sv_t {ds : List D} {Q : List D → S → Prop} (h : Q ds s) : SV (.d (.tuple ds)) s Q := ⟨ds, .inr rfl, h⟩
theorem w_iseq {Q : List D → S → Prop} (h : WT T (f ρ s) fun x s1 => SV x s1 Q) : WT T (iSeq f ρ s) Q := w_bind (h.mono fun x s1 ⟨ds, hx, z⟩ => by rcases hx with rfl | rfl <;> (first | exact z | exact ⟨z⟩ | exact WT.get z))
theorem w_lof {Q : List D → S → Prop} (h : WT T (f ρ s) fun x s1 => SV x s1 Q) : WT T (lOf f ρ s) Q := w_iseq h
def R1 (ys : List Val) (s : S) (Q : List D → S → Prop) : Prop := ∃ j, ys = [.d (.int j)] ∧ small62 j = true ∧ Q (rngD 0 j.toNat) s
theorem r1 {j : Int} {Q : List D → S → Prop} (e : small62 j = true) (h : Q (rngD 0 j.toNat) s) : R1 [.d (.int j)] s Q := ⟨j, rfl, e, h⟩
theorem w_rg1 {Q : List D → S → Prop} (h : WT T (g ρ s) fun ys s1 => R1 ys s1 Q) : WT T (iRg1 g ρ s) Q := w_bind (h.mono fun ys s1 ⟨j, hy, e, z⟩ => by subst hy; show WT T (if small62 j = true then _ else _) Q; rw [if_pos e]; (first | exact z | exact ⟨z⟩ | exact WT.get z))
def R2_ (ys : List Val) (s : S) (Q : List D → S → Prop) : Prop := ∃ i j, ys = [.d (.int i), .d (.int j)] ∧ (small62 i && small62 j) = true ∧ Q (rngD i (j - i).toNat) s
theorem r2 {i j : Int} {Q : List D → S → Prop} (e : (small62 i && small62 j) = true) (h : Q (rngD i (j - i).toNat) s) : R2_ [.d (.int i), .d (.int j)] s Q := ⟨i, j, rfl, e, h⟩
theorem w_rg2 {Q : List D → S → Prop} (h : WT T (g ρ s) fun ys s1 => R2_ ys s1 Q) : WT T (iRg2 g ρ s) Q := w_bind (h.mono fun ys s1 ⟨i, j, hy, e, z⟩ => by subst hy; show WT T (if (small62 i && small62 j) = true then _ else _) Q; rw [if_pos e]; (first | exact z | exact ⟨z⟩ | exact WT.get z))
def R3_ (ys : List Val) (s : S) (Q : List D → S → Prop) : Prop := ∃ i j, ys = [.d (.int i), .d (.int j), .d (.int (-1))] ∧ (small62 i && small62 j) = true ∧ Q (rngC i (-1) (i - j).toNat) s
theorem r3 {i j : Int} {Q : List D → S → Prop} (e : (small62 i && small62 j) = true) (h : Q (rngC i (-1) (i - j).toNat) s) : R3_ [.d (.int i), .d (.int j), .d (.int (-1))] s Q := ⟨i, j, rfl, e, h⟩
theorem w_rg3 {Q : List D → S → Prop} (h : WT T (g ρ s) fun ys s1 => R3_ ys s1 Q) : WT T (iRg3 g ρ s) Q := w_bind (h.mono fun ys s1 ⟨i, j, hy, e, z⟩ => by subst hy; show WT T (if (small62 i && small62 j) = true then _ else _) Q; rw [if_pos e]; (first | exact z | exact ⟨z⟩ | exact WT.get z))
def ZV (ys : List Val) (s : S) (Q : List D → S → Prop) : Prop := ∃ a b, (ys = [.d (.list a), .d (.list b)] ∨ ys = [.d (.tuple a), .d (.tuple b)]) ∧ Q (zipD a b) s
theorem zv_l {a b : List D} {Q : List D → S → Prop} (h : Q (zipD a b) s) : ZV [.d (.list a), .d (.list b)] s Q := ⟨a, b, .inl rfl, h⟩
theorem zv_t {a b : List D} {Q : List D → S → Prop} (h : Q (zipD a b) s) : ZV [.d (.tuple a), .d (.tuple b)] s Q := ⟨a, b, .inr rfl, h⟩
theorem w_zip {Q : List D → S → Prop} (h : WT T (g ρ s) fun ys s1 => ZV ys s1 Q) : WT T (iZip g ρ s) Q := w_bind (h.mono fun ys s1 ⟨a, b, hx, z⟩ => by rcases hx with rfl | rfl <;> (first | exact z | exact ⟨z⟩ | exact WT.get z))
variable {bt : Bt} {vs : List Nat}
theorem w_lc {it : Lx S} {Q : List D → S → Prop} (h : WT T (it ρ s) fun ds s1 => ds.length ≤ sizeLine ∧ WT T (lcL bt c f (wipeE vs ρ) ds s1) Q) : WT T (lLc it bt c f vs ρ s) Q :=
  w_bind (h.mono fun ds s1 ⟨hl, z⟩ => by show WT T (if ds.length ≤ sizeLine then _ else _) Q; rw [if_pos hl]; exact z)
/-- one item of a comprehension -/
def ItemW (bt : Bt) (c : DL.Tx S) (f : Ex S) (ρ : Env) (d : D) (s : S) (Q : Option D → S → Prop) : Prop := ∃ ρ1, bt d ρ = some ρ1 ∧ W (c ρ1 s) fun b s1 => Br b (W (f ρ1 s1) fun y s2 => ∃ z, y = .d z ∧ Q (some z) s2) (Q none s1)
theorem lc_cons {d : D} {ds : List D} {Q : List D → S → Prop} (h : ItemW bt c f ρ d s fun o s1 => WT T (lcL bt c f ρ ds s1) fun r s2 => Q (o.toList ++ r) s2) : WT T (lcL bt c f ρ (d :: ds) s) Q := by
  obtain ⟨ρ1, e, h⟩ := h
  unfold lcL
  rw [e]
  refine w_bind (w_noex (h.mono fun b s1 h => ?_))
  cases b with
  | false => exact WT.mono h fun r s2 q => q
  | true =>
    refine w_bind (w_noex (WT.mono h fun y s2 ⟨z, hy, q⟩ => ?_))
    subst hy
    exact w_bindP q
/-- a comprehension that changes nothing -/
theorem lc_pure (k : D → Option D) : ∀ (ds : List D) {Q : List D → S → Prop}, (∀ d ∈ ds, ItemW bt c f ρ d s fun o s1 => o = k d ∧ s1 = s) → Q (ds.filterMap k) s → WT T (lcL bt c f ρ ds s) Q
  | [], _, _, q => ⟨q⟩
  | d :: ds, Q, h, q => by
    refine lc_cons ?_
    obtain ⟨ρ1, e, z⟩ := h d (.head _)
    refine ⟨ρ1, e, z.mono fun b s1 z => ?_⟩
    cases b with
    | false =>
      obtain ⟨h1, hs⟩ := z
      rw [hs]
      refine lc_pure k ds (fun d' m => h d' (.tail _ m)) ?_
      rw [List.filterMap_cons_none h1.symm] at q
      exact q
    | true =>
      refine WT.mono z fun y s2 ⟨w, hy, h1, hs⟩ => ⟨w, hy, ?_⟩
      rw [hs]
      refine lc_pure k ds (fun d' m => h d' (.tail _ m)) ?_
      rw [List.filterMap_cons_some h1.symm] at q
      exact q
theorem lc_map (k : D → D) (ds : List D) {Q : List D → S → Prop} (h : ∀ d ∈ ds, ItemW bt c f ρ d s fun o s1 => o = some (k d) ∧ s1 = s) (q : Q (ds.map k) s) : WT T (lcL bt c f ρ ds s) Q :=
  lc_pure (fun d => some (k d)) ds h (by rw [List.filterMap_eq_map']; exact q)
/-- a comprehension by an invariant: what it has found so far -/
theorem lc_inv (I : Nat → List D → S → Prop) : ∀ (ds : List D) (n : Nat) (acc : List D) {s : S}, I n acc s → (∀ k d, ds[k]? = some d → ∀ a s, I (n + k) a s → ItemW bt c f ρ d s fun o s1 => I (n + k + 1) (a ++ o.toList) s1) → ∀ {Q : List D → S → Prop}, (∀ r s', I (n + ds.length) (acc ++ r) s' → Q r s') → WT T (lcL bt c f ρ ds s) Q
  | [], n, acc, s, h0, _, Q, q => ⟨q [] s (by simpa using h0)⟩
  | d :: ds, n, acc, s, h0, h, Q, q => by
    refine lc_cons ?_
    obtain ⟨ρ1, e, z⟩ := h 0 d rfl acc s h0
    have go : ∀ (o : Option D) (s1 : S), I (n + 1) (acc ++ o.toList) s1 → WT T (lcL bt c f ρ ds s1) fun r s2 => Q (o.toList ++ r) s2 := fun o s1 h1 =>
      lc_inv I ds (n + 1) (acc ++ o.toList) h1 (fun k d' e a s hI => by
        have hk : n + 1 + k = n + (k + 1) := by omega
        rw [hk] at hI ⊢
        exact h (k + 1) d' (by simpa using e) a s hI) fun r s' hI => q _ s' (by
          rw [List.length_cons, ← List.append_assoc]
          rw [show n + (ds.length + 1) = n + 1 + ds.length by omega]
          exact hI)
    refine ⟨ρ1, e, z.mono fun b s1 z => ?_⟩
    cases b with
    | false => exact go none s1 z
    | true => exact WT.mono z fun y s2 ⟨w, hy, h1⟩ => ⟨w, hy, go (some w) s2 h1⟩
variable {g1 g2 : Sx S} {Q : Fl → S → Prop}
theorem w_nil (q : Q (.nx ρ) s) : WT T (sNil ρ s) Q := (by first | exact q | exact ⟨q⟩ | exact WT.get q)
theorem w_sq (h : WT T (g1 ρ s) (FlK (fun ρ1 s1 => WT T (g2 ρ1 s1) Q) Q)) : WT T (sSeq g1 g2 ρ s) Q := w_bind (h.mono fun fl s1 h => by cases fl <;> (first | exact h | exact ⟨h⟩ | exact WT.get h))
theorem w_brk (q : Q (.bk ρ) s) : WT T (sBrk ρ s) Q := (by first | exact q | exact ⟨q⟩ | exact WT.get q)
theorem w_cnt (q : Q (.ct ρ) s) : WT T (sCnt ρ s) Q := (by first | exact q | exact ⟨q⟩ | exact WT.get q)
theorem w_drop (h : WT T (f ρ s) fun _ s1 => Q (.nx ρ) s1) : WT T (sDrop f ρ s) Q := w_bindP h
theorem w_ret (h : WT T (f ρ s) fun y s1 => Q (.rt y) s1) : WT T (sRet f ρ s) Q := w_bindP h
theorem w_retN (q : Q (.rt (.d .none)) s) : WT T (sRetN ρ s) Q := (by first | exact q | exact ⟨q⟩ | exact WT.get q)
theorem w_if (h : WT T (c ρ s) fun b s1 => Br b (WT T (g1 ρ s1) Q) (WT T (g2 ρ s1) Q)) : WT T (sIf c g1 g2 ρ s) Q := w_bind (h.mono fun b s1 h => by cases b <;> exact h)
theorem w_set (h : WT T (f ρ s) fun y s1 => Stt (ρ.set i (.v y)) fun ρ1 => Q (.nx ρ1) s1) : WT T (sSet i f ρ s) Q := w_bindP h
theorem w_new (h : WT T (f' ρ s) fun ds s1 => Stt (ρ.set i (.l ds)) fun ρ1 => Q (.nx ρ1) s1) : WT T (sNew i f' ρ s) Q := w_bindP h
theorem w_unp (h : WT T (f ρ s) fun y s1 => ∃ d ρ1, y = .d d ∧ bt d ρ = some ρ1 ∧ Q (.nx ρ1) s1) : WT T (sUnp bt f ρ s) Q :=
  w_bind (h.mono fun y s1 ⟨d, ρ1, hy, e, z⟩ => by subst hy; show WT T (match bt d ρ with | some ρ' => .ok (.nx ρ') s1 | none => .bad) Q; rw [e]; (first | exact z | exact ⟨z⟩ | exact WT.get z))
theorem w_frz (h : WT T (g1 (frz i ρ) s) Q) : WT T (sFrz i g1 ρ s) Q := h
theorem w_app {ds : List D} (e : ρ[i]? = some (.l ds)) (h : WT T (f ρ s) fun y s1 => ∃ z, y = .d z ∧ ds.length < sizeLine ∧ Stt (ρ.set i (.l (ds ++ [z]))) fun ρ1 => Q (.nx ρ1) s1) : WT T (sApp i f ρ s) Q := by
  unfold sApp
  rw [e]
  refine w_bind (h.mono fun y s1 ⟨z, hy, hl, q⟩ => ?_)
  subst hy
  show WT T (if ds.length < sizeLine then _ else _) Q
  rw [if_pos hl]
  (first | exact q | exact ⟨q⟩ | exact WT.get q)
theorem w_ext {ds : List D} (e : ρ[i]? = some (.l ds)) (h : WT T (f ρ s) fun y s1 => ∃ zs, y = .d (.list zs) ∧ ds.length + zs.length ≤ sizeLine ∧ Stt (ρ.set i (.l (ds ++ zs))) fun ρ1 => Q (.nx ρ1) s1) : WT T (sExt i f ρ s) Q := by
  unfold sExt
  rw [e]
  refine w_bind (h.mono fun y s1 ⟨z, hy, hl, q⟩ => ?_)
  subst hy
  show WT T (if ds.length + z.length ≤ sizeLine then _ else _) Q
  rw [if_pos hl]
  (first | exact q | exact ⟨q⟩ | exact WT.get q)
theorem w_pop {ds : List D} {d : D} (e : ρ[j]? = some (.l ds)) (e' : ds[ds.length - 1]? = some d) (hn : i ≠ j) (q : Q (.nx ((ρ.set j (.l ds.dropLast)).set i (.v (.d d)))) s) : WT T (sPop i j ρ s) Q := by
  unfold sPop
  rw [e]
  show WT T (match ds[ds.length - 1]? with | some d => _ | none => _) Q
  rw [e']
  show WT T (if i = j then _ else _) Q
  rw [if_neg hn]
  (first | exact q | exact ⟨q⟩ | exact WT.get q)
theorem w_mnil {Q : List Sl → S → Prop} (q : Q [] s) : WT T (mNil ρ s) Q := (by first | exact q | exact ⟨q⟩ | exact WT.get q)
theorem w_mval {gm : Ms S} {Q : List Sl → S → Prop} (h : WT T (f ρ s) fun y s1 => WT T (gm ρ s1) fun cs s2 => Q (.v y :: cs) s2) : WT T (mVal f gm ρ s) Q := w_bind (h.mono fun y s1 h => w_bindP h)
theorem w_mnew {fn : Nx S} {gm : Ms S} {Q : List Sl → S → Prop} (h : WT T (fn ρ s) fun y s1 => WT T (gm ρ s1) fun cs s2 => Q (y :: cs) s2) : WT T (mNew fn gm ρ s) Q := w_bind (h.mono fun y s1 h => w_bindP h)
theorem w_nL {Q : Sl → S → Prop} (h : WT T (f' ρ s) fun ds s1 => Q (.l ds) s1) : WT T (nL f' ρ s) Q := w_bindP h
theorem w_nD {Q : Sl → S → Prop} (h : Q (.m []) s) : WT T (nD ρ s) Q := (by first | exact h | exact ⟨h⟩ | exact WT.get h)
theorem w_newN {fn : Nx S} (h : WT T (fn ρ s) fun x s1 => Stt (ρ.set i x) fun ρ1 => Q (.nx ρ1) s1) : WT T (sNewN i fn ρ s) Q := w_bindP h
/-- the slots, one after the other -/
def Sts (is : List Nat) (cs : List Sl) (ρ : Env) (k : Env → Prop) : Prop := k (setAll is cs ρ)
theorem sts_c {is : List Nat} {c : Sl} {cs : List Sl} {k : Env → Prop} (h : Stt (ρ.set i c) fun ρ1 => Sts is cs ρ1 k) : Sts (i :: is) (c :: cs) ρ k := h
theorem sts_n {k : Env → Prop} (h : k ρ) : Sts [] [] ρ k := h
theorem w_par {is : List Nat} {gm : Ms S} (h : WT T (gm ρ s) fun cs s1 => Ck (cs.length = is.length) (Sts is cs ρ fun ρ1 => Q (.nx ρ1) s1)) : WT T (sPar is gm ρ s) Q :=
  w_bind (h.mono fun cs s1 ⟨e, q⟩ => by show WT T (if cs.length = is.length then _ else _) Q; rw [if_pos e]; (first | exact q | exact ⟨q⟩ | exact WT.get q))
theorem w_for {it : Lx S} (h : WT T (it ρ s) fun ds s1 => WT T (forL bt g1 ds ρ s1) Q) : WT T (sFor it bt g1 ρ s) Q := w_bind h
theorem for_cons {d : D} {ds : List D} {ρ1 : Env} (e : bt d ρ = some ρ1) (h : WT T (g1 ρ1 s) (LpK (fun ρ2 s2 => WT T (forL bt g1 ds ρ2 s2) Q) Q)) : WT T (forL bt g1 (d :: ds) ρ s) Q := by
  unfold forL
  rw [e]
  refine w_bind (h.mono fun fl s1 h => ?_)
  cases fl <;> (first | exact h | exact ⟨h⟩ | exact WT.get h)
/-- a loop by an invariant -/
theorem for_inv (I : Nat → Env → S → Prop) : ∀ (ds : List D) (n : Nat) {ρ : Env} {s : S}, I n ρ s → (∀ k d, ds[k]? = some d → ∀ ρ s, I (n + k) ρ s → ∃ ρ1, bt d ρ = some ρ1 ∧ WT T (g1 ρ1 s) (LpK (I (n + k + 1)) Q)) → (∀ ρ s, I (n + ds.length) ρ s → Q (.nx ρ) s) → WT T (forL bt g1 ds ρ s) Q
  | [], n, ρ, s, h0, _, q => ⟨q ρ s h0⟩
  | d :: ds, n, ρ, s, h0, h, q => by
    obtain ⟨ρ1, e, z⟩ := h 0 d rfl ρ s h0
    refine for_cons e (z.mono fun fl s1 z => ?_)
    have go : ∀ (ρ2 : Env) (s1 : S), I (n + 1) ρ2 s1 → WT T (forL bt g1 ds ρ2 s1) Q := fun ρ2 s1 h1 =>
      for_inv I ds (n + 1) h1 (fun k d' e ρ s hI => by
        have hk : n + 1 + k = n + (k + 1) := by omega
        rw [hk] at hI ⊢
        exact h (k + 1) d' (by simpa using e) ρ s hI) fun ρ s hI => q ρ s (by
          rw [List.length_cons, show n + (ds.length + 1) = n + 1 + ds.length by omega]
          exact hI)
    cases fl with
    | nx ρ2 => exact go ρ2 s1 z
    | ct ρ2 => exact go ρ2 s1 z
    | bk ρ2 => exact z
    | rt y => exact z
    | rg y ρ2 => exact z
theorem wh_inv (I : Nat → Env → S → Prop) (hI : ∀ m ρ s, I m ρ s → WT T (c ρ s) fun b s1 => Br b (WT T (g1 ρ s1) (LpK (fun ρ2 s2 => ∃ m', m' < m ∧ I m' ρ2 s2) Q)) (Q (.nx ρ) s1)) : ∀ (n m : Nat) {ρ : Env} {s : S}, m < n → I m ρ s → WT T (whL c g1 n ρ s) Q
  | 0, m, _, _, h, _ => absurd h (Nat.not_lt_zero _)
  | n + 1, m, ρ, s, h, h0 => by
    unfold whL
    refine w_bind ((hI m ρ s h0).mono fun b s1 z => ?_)
    cases b with
    | false => (first | exact z | exact ⟨z⟩ | exact WT.get z)
    | true =>
      refine w_bind (WT.mono z fun fl s2 z => ?_)
      cases fl with
      | nx ρ2 => obtain ⟨m', hm, z⟩ := z; exact wh_inv I hI n m' (by omega) z
      | ct ρ2 => obtain ⟨m', hm, z⟩ := z; exact wh_inv I hI n m' (by omega) z
      | bk ρ2 => (first | exact z | exact ⟨z⟩ | exact WT.get z)
      | rt y => (first | exact z | exact ⟨z⟩ | exact WT.get z)
      | rg y ρ2 => (first | exact z | exact ⟨z⟩ | exact WT.get z)
theorem FU_eq : FU = 1000000000 := by unfold FU; rfl
theorem w_while (I : Nat → Env → S → Prop) {m : Nat} (hm : m < 1000000000) (h0 : I m ρ s) (hI : ∀ m ρ s, I m ρ s → WT T (c ρ s) fun b s1 => Br b (WT T (g1 ρ s1) (LpK (fun ρ2 s2 => ∃ m', m' < m ∧ I m' ρ2 s2) Q)) (Q (.nx ρ) s1)) : WT T (sWh FU c g1 ρ s) Q :=
  wh_inv I hI FU m (by rw [FU_eq]; exact hm) h0
theorem w_run {body : Sx S} {ys : List Val} {Q : Val → S → Prop} (h : WT T (body (ys.map .v ++ List.replicate n .no) s) (RtK Q)) : WT T (runF n body ys s) Q :=
  w_bind (h.mono fun fl s1 h => by cases fl <;> (first | exact h | exact ⟨h⟩ | exact WT.get h))
end
section
variable {T : Exn → Dk → Prop} {ρ : Env} {s : Dk} {i j n : Nat} {f : Ex Dk}
theorem isDk_of {a : Addr} (e : ρ[i]? = some (.v (.r (.ref a)))) (h : a = s.dk) : isDk i ρ s = true := by unfold isDk; rw [e, h]; exact beq_self_eq_true _
theorem w_dk {x : Int} {Q : Val → Dk → Prop} (e : ρ[i]? = some (.v (.r (.ref s.dk)))) (ex : s.get j = some x) (q : Q (.d (.int x)) s) : WT T (eDk i j ρ s) Q := by
  unfold eDk; rw [if_pos (isDk_of e rfl), ex]; (first | exact q | exact ⟨q⟩ | exact WT.get q)
theorem w_dkne {Q : Bool → Dk → Prop} (e : ρ[i]? = some (.v (.r (.ref s.dk)))) (q : Q (!s.cells.isEmpty) s) : WT T (xDkNe i ρ s) Q := by
  unfold xDkNe; rw [if_pos (isDk_of e rfl)]; (first | exact q | exact ⟨q⟩ | exact WT.get q)
theorem w_dkl {Q : Val → Dk → Prop} (e : ρ[i]? = some (.v (.r (.ref s.dk)))) (q : Q (.d (.int s.cells.length)) s) : WT T (eDkL i ρ s) Q := by
  unfold eDkL; rw [if_pos (isDk_of e rfl)]; (first | exact q | exact ⟨q⟩ | exact WT.get q)
theorem w_dkc {Q : Val → Dk → Prop} (e : ρ[i]? = some (.v (.r (.ref s.dk)))) (h : WT T (f ρ s) fun y s1 => IV y s1 fun j s1 => Ck (s1 = s) (∃ x, L2.atI s.cells j = some x ∧ Q (.d (.int x)) s)) : WT T (eDkC i f ρ s) Q := by
  unfold eDkC; rw [if_pos (isDk_of e rfl)]
  refine w_bind (h.mono fun y s1 ⟨j, hy, hs, x, e, q⟩ => ?_)
  subst hy hs
  show WT T (if s1.dk = s1.dk ∧ s1.a0 = s1.a0 then _ else _) Q
  rw [if_pos ⟨rfl, rfl⟩, e]
  (first | exact q | exact ⟨q⟩ | exact WT.get q)
theorem w_sdk {Q : Fl → Dk → Prop} {a : Addr} (e : ρ[i]? = some (.v (.r (.ref a)))) (hj : j = 1 ∨ j = 2 ∨ j = 3) (h : WT T (f ρ s) fun y s1 => IV y s1 fun x s1 => Ck (a = s1.dk) (Q (.nx ρ) (s1.put j x))) : WT T (sDk i j f ρ s) Q := by
  unfold sDk
  refine w_bind (h.mono fun y s1 ⟨x, hy, hs, q⟩ => ?_)
  subst hy
  rw [if_pos (isDk_of e hs)]
  show WT T (if j = 1 ∨ j = 2 ∨ j = 3 then _ else _) Q
  rw [if_pos hj]
  (first | exact q | exact ⟨q⟩ | exact WT.get q)
end
end DL
namespace DL
open PySem PySem.Spec PyProof.Rows L2
section
variable {S : Type} {s : S} {Q : Val → S → Prop} {a b : Int} {as bs : List D}
theorem bv_add (q : Q (.d (.int (a + b))) s) : BV opAdd (.d (.int a)) (.d (.int b)) s Q := bv rfl q
theorem bv_addT (q : Q (.d (.tuple (as ++ bs))) s) (h : as.length + bs.length ≤ sizeLine) : BV opAdd (.d (.tuple as)) (.d (.tuple bs)) s Q := bv (by exact if_pos h) q
theorem bv_addL (q : Q (.d (.list (as ++ bs))) s) (h : as.length + bs.length ≤ sizeLine) : BV opAdd (.d (.list as)) (.d (.list bs)) s Q := bv (by exact if_pos h) q
theorem bv_sub (q : Q (.d (.int (a - b))) s) : BV opSub (.d (.int a)) (.d (.int b)) s Q := bv rfl q
theorem bv_mul (q : Q (.d (.int (a * b))) s) (h : (-(2 ^ 64) < a ∧ a < 2 ^ 64) ∨ (-(2 ^ 64) < b ∧ b < 2 ^ 64)) : BV opMul (.d (.int a)) (.d (.int b)) s Q :=
  bv (by exact if_pos (by unfold mulOk; exact decide_eq_true h)) q
theorem bv_mulT (q : Q (.d (.tuple (List.replicate b.toNat as).flatten)) s) (h : -1000 ≤ b ∧ b ≤ 4000 ∧ as.length ≤ 1000) : BV opMul (.d (.tuple as)) (.d (.int b)) s Q :=
  bv (by exact if_pos h) q
theorem bv_div (q : Q (.d (.int (a / b))) s) (h : 0 < b ∧ b < 1073741824) : BV opDiv (.d (.int a)) (.d (.int b)) s Q := bv (by exact if_pos h) q
theorem bv_mod (q : Q (.d (.int (a % b))) s) (h : 0 < b) : BV opMod (.d (.int a)) (.d (.int b)) s Q := bv (by exact if_pos h) q
theorem bv_pow (q : Q (.d (.int (a ^ b.toNat))) s) (h : 0 ≤ b ∧ b ≤ 1000000 ∧ a.natAbs < 2 ^ 64) : BV opPow (.d (.int a)) (.d (.int b)) s Q := bv (by exact if_pos h) q
theorem bv_rel {f : Int → Int → Bool} (q : Q (.d (.bool (f a b))) s) : BV (opRel f) (.d (.int a)) (.d (.int b)) s Q := bv rfl q
theorem bv_eq {d e : D} (q : Q (.d (.bool (PyData.eqv d e))) s) (h : (SeqAt.shaped d && SeqAt.shaped e) = true) : BV opEq (.d d) (.d e) s Q := bv (by exact if_pos h) q
theorem bv_ne {d e : D} (q : Q (.d (.bool (!PyData.eqv d e))) s) (h : (SeqAt.shaped d && SeqAt.shaped e) = true) : BV opNe (.d d) (.d e) s Q := bv (by exact if_pos h) q
theorem uv_neg (q : Q (.d (.int (-a))) s) : UV opNeg (.d (.int a)) s Q := uv rfl q
theorem atI_nat {α : Type} (xs : List α) (n : Nat) : L2.atI xs (n : Int) = xs[n]? := by
  unfold L2.atI L2.ixN
  by_cases h : n < xs.length
  · rw [if_pos (by omega), if_pos (by omega)]
    simp
  · rw [if_pos (by omega), if_neg (by omega), List.getElem?_eq_none (by omega)]
    rfl
theorem atI_get {α : Type} {xs : List α} {i : Int} (h0 : 0 ≤ i) (h1 : i < xs.length) : ∃ h : i.toNat < xs.length, L2.atI xs i = some xs[i.toNat] := by
  obtain ⟨n, rfl⟩ := Int.eq_ofNat_of_zero_le h0
  have hn : n < xs.length := by omega
  refine ⟨by simpa using hn, ?_⟩
  rw [atI_nat, List.getElem?_eq_getElem hn]
  rfl
theorem bv_ix0 {x : D} {xs : List D} (q : Q (.d x) s) : BV opIx (.d (.tuple (x :: xs))) (.d (.int 0)) s Q := bv (by
  show L2.atI (x :: xs) ((0 : Nat) : Int) = some x
  rw [atI_nat]; rfl) q
theorem bv_ix0L {x : D} {xs : List D} (q : Q (.d x) s) : BV opIx (.d (.list (x :: xs))) (.d (.int 0)) s Q := bv (by
  show L2.atI (x :: xs) ((0 : Nat) : Int) = some x
  rw [atI_nat]; rfl) q
theorem cv_lenL (q : Q (.d (.int as.length)) s) : CV oLen [.d (.list as)] s Q := cv1 rfl q
theorem cv_lenT (q : Q (.d (.int as.length)) s) : CV oLen [.d (.tuple as)] s Q := cv1 rfl q
theorem cv_abs (q : Q (.d (.int (if a < 0 then -a else a))) s) : CV oAbs [.d (.int a)] s Q := cv1 rfl q
theorem cv_int (q : Q (.d (.int a)) s) : CV oInt [.d (.int a)] s Q := cv1 rfl q
theorem cv_tupL (q : Q (.d (.tuple as)) s) : CV oTuple [.d (.list as)] s Q := cv1 rfl q
theorem cv_tupT (q : Q (.d (.tuple as)) s) : CV oTuple [.d (.tuple as)] s Q := cv1 rfl q
theorem cv_listL (q : Q (.d (.list as)) s) : CV oList [.d (.list as)] s Q := cv1 rfl q
theorem cv_listT (q : Q (.d (.list as)) s) : CV oList [.d (.tuple as)] s Q := cv1 rfl q
theorem boolsD_map : ∀ ns : List Bool, boolsD (ns.map .bool) = some ns
  | [] => rfl
  | n :: ns => by rw [List.map_cons, boolsD, boolsD_map ns]; rfl
theorem intsD_mapf {α : Type} (f : α → Int) (xs : List α) : intsD (xs.map fun x => PyData.int (f x)) = some (xs.map f) := by rw [← intsD_map, List.map_map]; rfl
theorem boolsD_mapf {α : Type} (f : α → Bool) (xs : List α) : boolsD (xs.map fun x => PyData.bool (f x)) = some (xs.map f) := by rw [← boolsD_map, List.map_map]; rfl
theorem cv_sum {α : Type} {f : α → Int} {xs : List α} (q : Q (.d (.int (xs.map f).sum)) s) : CV oSum [.d (.list (xs.map fun x => PyData.int (f x)))] s Q := cv1 (by show Option.map _ (intsD _) = _; rw [intsD_mapf]; rfl) q
theorem cv_all {α : Type} {f : α → Bool} {xs : List α} (q : Q (.d (.bool (xs.all f))) s) : CV oAll [.d (.list (xs.map fun x => PyData.bool (f x)))] s Q :=
  cv1 (by show Option.map _ (boolsD _) = _; rw [boolsD_mapf]; simp [Function.comp_def]) q
theorem cv_max {α : Type} {f : α → Int} {xs : List α} (q : Q (.d (.int (maxL (xs.map f)))) s) (h : xs ≠ []) : CV oMax [.d (.list (xs.map fun x => PyData.int (f x)))] s Q :=
  cv1 (by show Option.bind (intsD _) _ = _; rw [intsD_mapf]; simp [h]) q
theorem cv_repr {d : D} (q : Q (.d (.str d.shown)) s) (h : d.canLay0 = true ∧ d.showable = true ∧ d.shown.length ≤ sizeLine ∧ d.depth ≤ 60) : CV oRepr [.d d] s Q :=
  cv1 (by exact if_pos (by simp [h.1, h.2.1, h.2.2.1, h.2.2.2])) q
theorem uv_slT {lo hi : Option Int} (q : Q (.d (.tuple (cutL as lo hi))) s) : UV (fun d => opSl d lo hi) (.d (.tuple as)) s Q := uv rfl q
theorem uv_slL {lo hi : Option Int} (q : Q (.d (.list (cutL as lo hi))) s) : UV (fun d => opSl d lo hi) (.d (.list as)) s Q := uv rfl q
/-- all but the last -/
theorem cut_init {α : Type} (xs : List α) : cutL xs none (some (-1)) = xs.dropLast := by
  unfold cutL
  rw [HT.sIx_none]
  have e : HT.sIx xs.length xs.length (some (-1)) = xs.length - 1 := by
    unfold HT.sIx
    simp
    omega
  rw [e]
  simp [List.dropLast_eq_take]
theorem cut_take {α : Type} (xs : List α) (n : Nat) (h : n ≤ xs.length) : cutL xs none (some (n : Int)) = xs.take n := by
  unfold cutL
  rw [HT.sIx_none, HT.sIx_nat]
  simp [h]
theorem cut_drop {α : Type} (xs : List α) (n : Nat) (h : n ≤ xs.length) : cutL xs (some (n : Int)) none = xs.drop n := by
  unfold cutL
  rw [HT.sIx_none, HT.sIx_nat]
  have e : min n xs.length = n := by omega
  rw [e]
  exact List.take_of_length_le (by simp)
theorem rg1 {j : Int} {Q : List D → S → Prop} (h : Q (rngD 0 j.toNat) s) (e : -4611686018427387904 ≤ j ∧ j < 4611686018427387904) : R1 [.d (.int j)] s Q := r1 (decide_eq_true e) h
theorem rg2 {i j : Int} {Q : List D → S → Prop} (h : Q (rngD i (j - i).toNat) s) (e : (-4611686018427387904 ≤ i ∧ i < 4611686018427387904) ∧ -4611686018427387904 ≤ j ∧ j < 4611686018427387904) : R2_ [.d (.int i), .d (.int j)] s Q :=
  r2 (by rw [Bool.and_eq_true]; exact ⟨decide_eq_true e.1, decide_eq_true e.2⟩) h
theorem rg3 {i j : Int} {Q : List D → S → Prop} (h : Q (rngC i (-1) (i - j).toNat) s) (e : (-4611686018427387904 ≤ i ∧ i < 4611686018427387904) ∧ -4611686018427387904 ≤ j ∧ j < 4611686018427387904) : R3_ [.d (.int i), .d (.int j), .d (.int (-1))] s Q :=
  r3 (by rw [Bool.and_eq_true]; exact ⟨decide_eq_true e.1, decide_eq_true e.2⟩) h
theorem dvl_nil {Q : List D → S → Prop} (h : Q [] s) : DV_ [] s Q := dvs rfl h
theorem dvl_cons {d : D} {ys : List Val} {Q : List D → S → Prop} (h : DV_ ys s fun ds s1 => Q (d :: ds) s1) : DV_ (.d d :: ys) s Q := by
  obtain ⟨ds, e, q⟩ := h
  exact dvs (by rw [datas, e]; rfl) q
theorem rng_len (lo : Int) (n : Nat) : (rngD lo n).length = n := by unfold rngD; simp
theorem rng_at {lo : Int} {n k : Nat} {d : D} (h : (rngD lo n)[k]? = some d) : k < n ∧ d = .int (lo + k) := by
  unfold rngD at h
  rw [List.getElem?_map] at h
  by_cases hk : k < n
  · rw [List.getElem?_range hk] at h
    exact ⟨hk, (Option.some.inj h).symm⟩
  · rw [List.getElem?_eq_none (by simpa using hk)] at h
    cases h
theorem sizeLine_big : 1000000 < sizeLine := by rw [sizeLine_eq]; decide
end
section
variable {S : Type} {T : Exn → S → Prop} {s : S} {ρ : Env} {bt : Bt} {c : DL.Tx S} {f : Ex S}
/-- .. over items that are data of something -/
theorem lc_mapOf {α : Type} (e k : α → D) (xs : List α) {Q : List D → S → Prop} (h : ∀ x ∈ xs, ItemW bt c f ρ (e x) s fun o s1 => o = some (k x) ∧ s1 = s) (q : Q (xs.map k) s) : WT T (lcL bt c f ρ (xs.map e) s) Q := by
  induction xs generalizing Q with
  | nil => exact ⟨q⟩
  | cons x xs ih =>
    refine lc_cons ?_
    obtain ⟨ρ1, eb, z⟩ := h x (.head _)
    refine ⟨ρ1, eb, z.mono fun b s1 z => ?_⟩
    cases b with
    | false => exact absurd z.1 (by simp)
    | true =>
      refine WT.mono z fun y s2 ⟨w, hy, h1, hs⟩ => ⟨w, hy, ?_⟩
      rw [hs]
      refine ih (fun d' m => h d' (.tail _ m)) ?_
      rw [h1]
      exact q
theorem lc_someOf {α : Type} (e : α → D) (p : α → Bool) (k : α → D) (xs : List α) {Q : List D → S → Prop} (h : ∀ x ∈ xs, ItemW bt c f ρ (e x) s fun o s1 => o = (if p x then some (k x) else none) ∧ s1 = s) (q : Q ((xs.filter p).map k) s) : WT T (lcL bt c f ρ (xs.map e) s) Q := by
  induction xs generalizing Q with
  | nil => exact ⟨q⟩
  | cons x xs ih =>
    refine lc_cons ?_
    obtain ⟨ρ1, eb, z⟩ := h x (.head _)
    refine ⟨ρ1, eb, z.mono fun b s1 z => ?_⟩
    have go : WT T (lcL bt c f ρ (xs.map e) s) fun r s2 => Q ((if p x then some (k x) else none : Option D).toList ++ r) s2 := by
      refine ih (fun d' m => h d' (.tail _ m)) ?_
      by_cases hp : p x = true
      · rw [List.filter_cons_of_pos hp] at q
        rw [if_pos hp]
        exact q
      · rw [List.filter_cons_of_neg hp] at q
        rw [if_neg hp]
        exact q
    cases b with
    | false =>
      have z : none = (if p x then some (k x) else none : Option D) ∧ s1 = s := z
      show WT T (lcL bt c f ρ (xs.map e) s1) fun r s2 => Q ((none : Option D).toList ++ r) s2
      rw [z.2, z.1]
      exact go
    | true =>
      refine WT.mono z fun y s2 ⟨w, hy, h1, hs⟩ => ⟨w, hy, ?_⟩
      rw [hs, h1]
      exact go
/-- two ways that meet again -/
theorem br_join {α : Type} {b : Bool} {o1 o2 : Out S α} {Q : α → S → Prop} (P : α → S → Prop) (h1 : b = true → WT T o1 P) (h2 : b = false → WT T o2 P) (k : ∀ a s, P a s → Q a s) : Br b (WT T o1 Q) (WT T o2 Q) :=
  br (fun e => (h1 e).mono k) fun e => (h2 e).mono k
theorem br_joinA {b : Bool} {o : Out S Bool} {s : S} {Q : Bool → S → Prop} (P : Bool → S → Prop) (h1 : b = true → WT T o P) (h2 : b = false → P false s) (k : ∀ a s, P a s → Q a s) : Br b (WT T o Q) (Q false s) :=
  br (fun e => (h1 e).mono k) fun e => k _ _ (h2 e)
theorem item {d : D} {ρ1 : Env} {Q : Option D → S → Prop} (e : bt d ρ = some ρ1) (h : W (c ρ1 s) fun b s1 => Br b (W (f ρ1 s1) fun y s2 => ∃ z, y = .d z ∧ Q (some z) s2) (Q none s1)) : ItemW bt c f ρ d s Q := ⟨ρ1, e, h⟩
theorem item1 {d : D} {ρ1 : Env} {Q : Option D → S → Prop} (e : bt d ρ = some ρ1) (h : W (f ρ1 s) fun y s2 => ∃ z, y = .d z ∧ Q (some z) s2) : ItemW bt xYes f ρ d s Q := ⟨ρ1, e, w_ok h⟩
variable {g1 : Sx S} {Q : Fl → S → Prop}
theorem for_pre' {α : Type} (e : α → D) (I : List α → Env → S → Prop) : ∀ (xs pre : List α) {ρ : Env} {s : S}, I pre ρ s → (∀ p x post, pre ++ xs = p ++ x :: post → ∀ ρ s, I p ρ s → ∃ ρ1, bt (e x) ρ = some ρ1 ∧ WT T (g1 ρ1 s) (LpK (I (p ++ [x])) Q)) → (∀ ρ s, I (pre ++ xs) ρ s → Q (.nx ρ) s) → WT T (forL bt g1 (xs.map e) ρ s) Q
  | [], pre, ρ, s, h0, _, q => ⟨q ρ s (by rw [List.append_nil]; exact h0)⟩
  | x :: xs, pre, ρ, s, h0, h, q => by
    obtain ⟨ρ1, e1, z⟩ := h pre x xs rfl ρ s h0
    refine for_cons e1 (z.mono fun fl s1 z => ?_)
    have ea : pre ++ x :: xs = (pre ++ [x]) ++ xs := by simp
    have go : ∀ (ρ2 : Env) (s1 : S), I (pre ++ [x]) ρ2 s1 → WT T (forL bt g1 (xs.map e) ρ2 s1) Q := fun ρ2 s1 h1 =>
      for_pre' e I xs (pre ++ [x]) h1 (fun p y post ep => h p y post (by rw [ea]; exact ep)) fun ρ s hI => q ρ s (by rw [ea]; exact hI)
    cases fl with
    | nx ρ2 => exact go ρ2 s1 z
    | ct ρ2 => exact go ρ2 s1 z
    | bk ρ2 => exact z
    | rt y => exact z
    | rg y ρ2 => exact z
/-- a loop by an invariant of what is done -/
theorem for_pre {α : Type} (e : α → D) (I : List α → Env → S → Prop) (xs : List α) {ρ : Env} {s : S} (h0 : I [] ρ s) (h : ∀ p x post, xs = p ++ x :: post → ∀ ρ s, I p ρ s → ∃ ρ1, bt (e x) ρ = some ρ1 ∧ WT T (g1 ρ1 s) (LpK (I (p ++ [x])) Q)) (q : ∀ ρ s, I xs ρ s → Q (.nx ρ) s) : WT T (forL bt g1 (xs.map e) ρ s) Q :=
  for_pre' e I xs [] h0 (fun p x post ep => h p x post ep) fun ρ s hI => q ρ s hI
theorem w_frzL {i : Nat} {ds : List D} (e : ρ[i]? = some (.l ds)) (h : Stt (ρ.set i (.v (.d (.list ds)))) fun ρ1 => WT T (g1 ρ1 s) Q) : WT T (sFrz i g1 ρ s) Q := by
  refine w_frz ?_
  unfold frz
  rw [e]
  exact h
theorem w_moveL {i j : Nat} {ds : List D} (e : ρ[j]? = some (.l ds)) (hn : i ≠ j) (h : Stt (ρ.set j .no) fun ρ1 => Stt (ρ1.set i (.l ds)) fun ρ2 => Q (.nx ρ2) s) : WT T (sMove i j ρ s) Q := by
  unfold sMove
  rw [e]
  show WT T (if i = j then _ else _) Q
  rw [if_neg hn]
  exact ⟨h⟩
end
end DL
namespace DL
open PySem PySem.Spec PyProof.Rows L2
/-- every code point is one -/
def CpOk (x : Str) : Prop := ∀ c ∈ x.cps.toList, c < 0x110000
theorem strOk_of {x : Str} (h : CpOk x) : PyData.strOk x = true := by
  unfold PyData.strOk
  refine Array.all_eq_true_iff_forall_mem.mpr fun c hc => ?_
  exact decide_eq_true (h c (Array.mem_toList_iff.mpr hc))
theorem cp_of {x : Str} (h : PyData.strOk x = true) : CpOk x := fun c hc => by
  have := (Array.all_eq_true_iff_forall_mem.mp h) c (Array.mem_toList_iff.mp hc)
  simpa using this
theorem char_lt (c : Char) : c.toNat < 0x110000 := by
  have h := c.valid
  have e : c.toNat = c.val.toNat := rfl
  rcases h with h | h
  · rw [e]; have : c.val.toNat < 0xd800 := h; omega
  · rw [e]; exact h.2
theorem cp_ofString (s : String) : CpOk (Str.ofString s) := fun c hc => by
  rw [Str.ofString_eq_toList] at hc
  simp at hc
  obtain ⟨d, _, rfl⟩ := hc
  exact char_lt d
theorem cp_append {x y : Str} (hx : CpOk x) (hy : CpOk y) : CpOk (x ++ y) := fun c hc => by
  have e : (x ++ y).cps.toList = x.cps.toList ++ y.cps.toList := by
    show (x.cps ++ y.cps).toList = _
    simp
  rw [e] at hc
  rcases List.mem_append.mp hc with h | h
  · exact hx c h
  · exact hy c h
theorem cp_empty : CpOk Str.empty := fun c hc => by cases hc
theorem cp_join {sep : Str} (hs : CpOk sep) : ∀ ts : List Str, (∀ t ∈ ts, CpOk t) → CpOk (Str.join sep ts)
  | [], _ => cp_empty
  | [x], h => h x (.head _)
  | x :: y :: r, h => cp_append (cp_append (h x (.head _)) hs) (cp_join hs (y :: r) fun t m => h t (.tail _ m))
theorem cp_reprChar {q c : Nat} (hc : c < 0x110000) : ∀ d ∈ Builtin.Str.reprChar q c, d < 0x110000 := by
  have hx : ∀ (w : Nat) d, d ∈ (let ds := (Nat.toDigits 16 c).map Char.toNat; List.replicate (w - ds.length) 48 ++ ds) → d < 0x110000 := fun w d m => by
    rcases List.mem_append.mp m with h | h
    · rw [(List.mem_replicate.mp h).2]; decide
    · obtain ⟨e, _, rfl⟩ := List.mem_map.mp h
      exact char_lt e
  intro d m
  unfold Builtin.Str.reprChar at m
  split at m
  · simp at m; omega
  · split at m
    · simp at m; omega
    · split at m
      · simp at m; omega
      · split at m
        · simp at m; omega
        · split at m
          · simp at m; omega
          · split at m
            · rcases List.mem_append.mp m with h | h
              · simp at h; omega
              · exact hx 2 d h
            · split at m
              · rcases List.mem_append.mp m with h | h
                · simp at h; omega
                · exact hx 4 d h
              · rcases List.mem_append.mp m with h | h
                · simp at h; omega
                · exact hx 8 d h
theorem cp_fold {q : Nat} : ∀ (l : List Nat) (acc : Array Nat), (∀ c ∈ l, c < 0x110000) → (∀ c ∈ acc.toList, c < 0x110000) → ∀ c ∈ (l.foldl (fun out c => out ++ (Builtin.Str.reprChar q c).toArray) acc).toList, c < 0x110000
  | [], acc, _, h => h
  | d :: l, acc, hl, h => cp_fold l _ (fun c m => hl c (.tail _ m)) fun c m => by
    simp at m
    rcases m with m | m
    · exact h c (by simpa using m)
    · exact cp_reprChar (hl d (.head _)) c m
theorem cp_reprText {x : Str} (h : CpOk x) : CpOk (PySem.reprText x) := fun c hc => by
  unfold PySem.reprText at hc
  have hq : reprQuote x < 0x110000 := by unfold reprQuote; split <;> decide
  simp only [Array.toList_push, List.mem_append, List.mem_singleton] at hc
  rcases hc with hc | rfl
  · rw [← Array.foldl_toList] at hc
    exact cp_fold _ _ h (fun c m => by
      have e : c = reprQuote x := by simpa using m
      rw [e]; exact hq) c hc
  · exact hq
mutual
theorem cp_shown : ∀ d : PyData, d.canLay0 = true → CpOk d.shown
  | .none, _ => by simp only [PyData.shown]; exact cp_ofString _
  | .bool b, _ => by simp only [PyData.shown]; cases b <;> exact cp_ofString _
  | .int i, _ => by simp only [PyData.shown]; exact cp_ofString _
  | .str x, h => by simp only [PyData.shown]; exact cp_reprText (cp_of (by simpa only [PyData.canLay0] using h))
  | .list xs, h => by
    rw [PyData.shown_list]
    exact cp_append (cp_append (cp_ofString _) (cp_join (cp_ofString _) _ (cp_shownAll xs (by simpa only [PyData.canLay0] using h)))) (cp_ofString _)
  | .tuple xs, h => by
    rw [PyData.shown_tuple]
    exact cp_append (cp_append (cp_ofString _) (cp_join (cp_ofString _) _ (cp_shownAll xs (by simpa only [PyData.canLay0] using h)))) (cp_ofString _)
  | .dict _, h => by simp only [PyData.canLay0] at h; cases h
theorem cp_shownAll : ∀ ds : List PyData, PyData.canLayAll0 ds = true → ∀ t ∈ PyData.shownAll ds, CpOk t
  | [], _, t, m => by simp only [PyData.shownAll] at m; cases m
  | d :: ds, h, t, m => by
    have h' : d.canLay0 = true ∧ PyData.canLayAll0 ds = true := by simpa only [PyData.canLayAll0, Bool.and_eq_true] using h
    simp only [PyData.shownAll] at m
    rcases List.mem_cons.mp m with rfl | m
    · exact cp_shown d h'.1
    · exact cp_shownAll ds h'.2 t m
end
/-- small data: no dict, nesting at most k, bulk at most b -/
structure Sm (k b : Nat) (d : PyData) : Prop where
  lay : d.canLay0 = true
  short : d.intsShort 60 = true
  sh : d.showable = true
  dp : d.depth ≤ k
  bk : d.bulk ≤ b
structure SmL (k b : Nat) (d : List PyData) : Prop where
  lay : PyData.canLayAll0 d = true
  short : PyData.intsShortAll 60 d = true
  sh : PyData.showableAll d = true
  dp : PyData.depthAll d ≤ k
  bk : PyData.bulkAll d ≤ b
theorem sm_intB {i : Int} (h : i.natAbs < 10 ^ 58) : Sm 0 0 (.int i) := by
  refine ⟨rfl, ?_, ?_, Nat.le_refl _, Nat.le_refl _⟩
  · simp only [PyData.intsShort, decide_eq_true_eq]
    have e := int_text_length_le10 (k := 58) (by decide) h
    show (Str.ofString (toString i)).length ≤ 60
    rw [PySem.ofString_length]
    omega
  · simp only [PyData.showable, decide_eq_true_eq]
    by_cases h0 : i.natAbs = 0
    · rw [h0]; decide
    · rw [Nat.log2_lt h0]
      exact Nat.lt_of_lt_of_le h (Nat.le_trans (by decide +kernel : 10 ^ 58 ≤ 2 ^ 200) (Nat.pow_le_pow_right (by decide) (by decide)))
theorem sm_int {i : Int} (h : i.natAbs < 10 ^ 12) : Sm 0 0 (.int i) := sm_intB (Nat.lt_of_lt_of_le h (by decide +kernel))
theorem sm_bool {i : Bool} : Sm 0 0 (.bool i) := ⟨rfl, rfl, rfl, Nat.le_refl _, Nat.le_refl _⟩
theorem sm_str {x : Str} (h : CpOk x) : Sm 0 x.length (.str x) := ⟨by simp only [PyData.canLay0]; exact strOk_of h, rfl, rfl, Nat.le_refl _, Nat.le_refl _⟩
theorem Sm.le {k b k' b' : Nat} {d : PyData} (h : Sm k b d) (hk : k ≤ k') (hb : b ≤ b') : Sm k' b' d := ⟨h.lay, h.short, h.sh, Nat.le_trans h.dp hk, Nat.le_trans h.bk hb⟩
theorem SmL.le {k b k' b' : Nat} {d : List PyData} (h : SmL k b d) (hk : k ≤ k') (hb : b ≤ b') : SmL k' b' d := ⟨h.lay, h.short, h.sh, Nat.le_trans h.dp hk, Nat.le_trans h.bk hb⟩
theorem sm_tuple {k b : Nat} {ds : List PyData} (h : SmL k b ds) : Sm (k + 1) b (.tuple ds) :=
  ⟨by simp only [PyData.canLay0]; exact h.lay, by simp only [PyData.intsShort]; exact h.short, by simp only [PyData.showable]; exact h.sh, by simp only [PyData.depth]; exact Nat.succ_le_succ h.dp, by simp only [PyData.bulk]; exact h.bk⟩
theorem sm_list {k b : Nat} {ds : List PyData} (h : SmL k b ds) : Sm (k + 1) b (.list ds) :=
  ⟨by simp only [PyData.canLay0]; exact h.lay, by simp only [PyData.intsShort]; exact h.short, by simp only [PyData.showable]; exact h.sh, by simp only [PyData.depth]; exact Nat.succ_le_succ h.dp, by simp only [PyData.bulk]; exact h.bk⟩
theorem sl_nil {k : Nat} : SmL k 0 [] := ⟨rfl, rfl, rfl, Nat.zero_le _, Nat.le_refl _⟩
theorem sl_cons {k b b' : Nat} {d : PyData} {ds : List PyData} (h : Sm k b d) (t : SmL k b' ds) : SmL k (b + 1 + b') (d :: ds) :=
  ⟨by simp only [PyData.canLayAll0, h.lay, t.lay, Bool.and_self], by simp only [PyData.intsShortAll, h.short, t.short, Bool.and_self], by simp only [PyData.showableAll, h.sh, t.sh, Bool.and_self],
    by simp only [PyData.depthAll]; exact Nat.max_le.mpr ⟨h.dp, t.dp⟩, by simp only [PyData.bulkAll]; have := h.bk; have := t.bk; omega⟩
theorem sl_all {k b : Nat} : ∀ ds : List PyData, (∀ d ∈ ds, Sm k b d) → SmL k (ds.length * (b + 1)) ds
  | [], _ => by rw [List.length_nil, Nat.zero_mul]; exact sl_nil
  | d :: ds, h => by
    have := sl_cons (h d (.head _)) (sl_all ds fun e m => h e (.tail _ m))
    refine this.le (Nat.le_refl _) ?_
    rw [List.length_cons, Nat.succ_mul]
    omega
theorem sl_ints {ns : List Int} (h : ∀ n ∈ ns, n.natAbs < 10 ^ 12) : SmL 0 ns.length (ns.map .int) := by
  have := sl_all (k := 0) (b := 0) (ns.map PyData.int) fun d m => by
    obtain ⟨n, hn, rfl⟩ := List.mem_map.mp m
    exact sm_int (h n hn)
  simpa using this
theorem Sm.repr {k b : Nat} {d : PyData} (h : Sm k b d) (hk : k ≤ 60) (hb : b ≤ 250000) : d.canLay0 = true ∧ d.showable = true ∧ d.shown.length ≤ sizeLine ∧ d.depth ≤ 60 := by
  refine ⟨h.lay, h.sh, ?_, Nat.le_trans h.dp hk⟩
  have h1 := PyData.shown_le_bulk 60 (by decide) d (PyData.leavesShort_of_canLay0 60 d h.lay h.short)
  have h2 := h.bk
  rw [sizeLine_eq]
  omega
theorem Sm.shaped {k b : Nat} {d : PyData} (h : Sm k b d) (hk : k ≤ 64) : SeqAt.shaped d = true := by
  unfold SeqAt.shaped
  rw [h.lay, decide_eq_true (Nat.le_trans h.dp hk)]
  rfl
theorem Sm.strSh {k b : Nat} {d : PyData} (h : Sm k b d) : SeqAt.shaped (.str d.shown) = true := by
  unfold SeqAt.shaped
  have e : (PyData.str d.shown).canLay0 = true := by simp only [PyData.canLay0]; exact strOk_of (cp_shown d h.lay)
  rw [e]
  rfl
section
variable {S : Type} {s : S} {Q : Val → S → Prop} {k b k' b' : Nat} {d e : PyData}
theorem cv_repr' (h : Sm k b d) (q : Q (.d (.str d.shown)) s) (hk : k ≤ 60 := by decide) (hb : b ≤ 250000 := by omega) : CV oRepr [.d d] s Q := cv_repr q (h.repr hk hb)
theorem str_eqv (x y : Str) : PyData.eqv (.str x) (.str y) = decide (x = y) := by
  simp only [PyData.eqv]
  by_cases h : x = y
  · rw [decide_eq_true h, h]; exact beq_self_eq_true _
  · rw [decide_eq_false h]; exact beq_false_of_ne h
/-- texts of data, compared -/
theorem bv_neR (h : Sm k b d) (h' : Sm k' b' e) (q : Q (.d (.bool (!decide (d.shown = e.shown)))) s) : BV opNe (.d (.str d.shown)) (.d (.str e.shown)) s Q :=
  bv_ne (by rw [str_eqv]; exact q) (by rw [h.strSh, h'.strSh]; rfl)
theorem bv_neSame (h : Sm k b d) (q : Q (.d (.bool false)) s) : BV opNe (.d (.str d.shown)) (.d (.str d.shown)) s Q := bv_neR h h (by rw [decide_eq_true rfl]; exact q)
/-- numbers, compared -/
theorem eqvAll_ints : ∀ a b : List Int, PyData.eqvAll (a.map .int) (b.map .int) = decide (a = b)
  | [], [] => by simp [PyData.eqvAll]
  | [], y :: ys => by simp [PyData.eqvAll]
  | x :: xs, [] => by simp [PyData.eqvAll]
  | x :: xs, y :: ys => by
    rw [List.map_cons, List.map_cons, PyData.eqvAll, eqvAll_ints xs ys]
    simp only [PyData.eqv]
    by_cases h : x = y
    · by_cases h2 : xs = ys
      · simp [h, h2]
      · simp [h, h2]
    · simp [h]
theorem eqv_iT (a b : List Int) : PyData.eqv (.tuple (a.map .int)) (.tuple (b.map .int)) = decide (a = b) := by simp only [PyData.eqv]; exact eqvAll_ints a b
theorem canLayAll_ints : ∀ ns : List Int, PyData.canLayAll0 (ns.map .int) = true
  | [] => rfl
  | n :: ns => by rw [List.map_cons, PyData.canLayAll0, canLayAll_ints ns]; rfl
theorem depthAll_ints : ∀ ns : List Int, PyData.depthAll (ns.map .int) = 0
  | [] => rfl
  | n :: ns => by rw [List.map_cons, PyData.depthAll, depthAll_ints ns]; rfl
theorem shaped_iT (ns : List Int) : SeqAt.shaped (.tuple (ns.map .int)) = true := by
  unfold SeqAt.shaped
  simp only [PyData.canLay0, PyData.depth, canLayAll_ints, depthAll_ints]
  decide
theorem bv_neI {a b : List Int} (q : Q (.d (.bool (!decide (a = b)))) s) : BV opNe (.d (.tuple (a.map .int))) (.d (.tuple (b.map .int))) s Q := bv_ne (by rw [eqv_iT]; exact q) (by rw [shaped_iT, shaped_iT]; rfl)
theorem bv_neI0 {a : List Int} (q : Q (.d (.bool (!decide (a = [])))) s) : BV opNe (.d (.tuple (a.map .int))) (.d (.tuple [])) s Q := bv_neI (b := []) q
theorem bv_eqN {a b : Int} (q : Q (.d (.bool (decide (a = b)))) s) : BV opEq (.d (.int a)) (.d (.int b)) s Q := bv_eq (by
  have e : PyData.eqv (.int a) (.int b) = decide (a = b) := by simp only [PyData.eqv]; rfl
  rw [e]; exact q) rfl
theorem bv_neN {a b : Int} (q : Q (.d (.bool (!decide (a = b)))) s) : BV opNe (.d (.int a)) (.d (.int b)) s Q := bv_ne (by
  have e : PyData.eqv (.int a) (.int b) = decide (a = b) := by simp only [PyData.eqv]; rfl
  rw [e]; exact q) rfl
theorem bv_eqB {a b : Bool} (q : Q (.d (.bool (a == b))) s) : BV opEq (.d (.bool a)) (.d (.bool b)) s Q := bv_eq (by
  have e : PyData.eqv (.bool a) (.bool b) = (a == b) := by simp only [PyData.eqv]
  rw [e]; exact q) rfl
theorem bv_neB {a b : Bool} (q : Q (.d (.bool (!(a == b)))) s) : BV opNe (.d (.bool a)) (.d (.bool b)) s Q := bv_ne (by
  have e : PyData.eqv (.bool a) (.bool b) = (a == b) := by simp only [PyData.eqv]
  rw [e]; exact q) rfl
theorem bv_neNil {mk : List PyData → PyData} {ds : List PyData} (hm : mk = .list ∨ mk = .tuple) (h : Sm k b (mk ds)) (q : Q (.d (.bool (!ds.isEmpty))) s) (hk : k ≤ 64 := by decide) : BV opNe (.d (mk ds)) (.d (mk [])) s Q := by
  refine bv_ne ?_ ?_
  · have e : PyData.eqv (mk ds) (mk []) = ds.isEmpty := by
      rcases hm with rfl | rfl <;> cases ds <;> simp [PyData.eqv, PyData.eqvAll]
    rw [e]; exact q
  · rw [h.shaped hk]
    rcases hm with rfl | rfl <;> rfl
theorem bv_isB {a b : Bool} (q : Q (.d (.bool (a == b))) s) : BV opIs (.d (.bool a)) (.d (.bool b)) s Q := bv rfl q
theorem bv_isNotB {a b : Bool} (q : Q (.d (.bool (!(a == b)))) s) : BV opIsNot (.d (.bool a)) (.d (.bool b)) s Q := bv rfl q
theorem any_ints (x : Int) : ∀ zs : List Int, ((zs.map PyData.int).any fun z => PyData.eqv z (.int x)) = decide (x ∈ zs)
  | [] => rfl
  | z :: zs => by
    rw [List.map_cons, List.any_cons, any_ints x zs]
    simp only [PyData.eqv]
    by_cases h : z = x
    · simp [h]
    · simp [h, Ne.symm h]
theorem bv_inI {x : Int} {zs : List Int} (q : Q (.d (.bool (decide (x ∈ zs)))) s) : BV opIn (.d (.int x)) (.d (.tuple (zs.map .int))) s Q :=
  bv (by
    unfold opIn
    show (if SeqAt.shaped (.int x) && SeqAt.shaped (.tuple (zs.map .int)) then _ else _) = _
    rw [shaped_iT, any_ints]
    rfl) q
theorem sm_iT {ns : List Int} (h : ∀ n ∈ ns, n.natAbs < 10 ^ 12) : Sm 1 ns.length (.tuple (ns.map .int)) := sm_tuple (sl_ints h)
end
end DL
namespace DL
open PySem PySem.Spec PyProof.Rows L2
section
variable {S : Type} {T : Exn → S → Prop} {ρ : Env} {s : S} {i n : Nat} {f fa fb : Ex S} {g : Exs S}
/-- a text -/
def XV (x : Val) (s : S) (Q : Str → S → Prop) : Prop := ∃ z, x = .d (.str z) ∧ Q z s
theorem xv {z : Str} {Q : Str → S → Prop} (h : Q z s) : XV (.d (.str z)) s Q := ⟨z, rfl, h⟩
theorem w_itxt {Q : List D → S → Prop} (h : WT T (f ρ s) fun x s1 => XV x s1 fun z s2 => Q (z.cps.toList.map signD) s2) : WT T (iTxt f ρ s) Q :=
  w_bind (h.mono fun x s1 ⟨z, hx, q⟩ => by subst hx; (first | exact q | exact ⟨q⟩))
theorem w_tsl {fl fh : Ox S} {Q : Val → S → Prop} (h : WT T (fa ρ s) fun x s1 => WT T (fl ρ s1) fun l s2 => WT T (fh ρ s2) fun h s3 => UV (fun d => opTSl d l h) x s3 Q) : WT T (eTSl fa fl fh ρ s) Q :=
  w_bind (h.mono fun x s1 h => w_bind (h.mono fun l s2 h => w_bind (h.mono fun u s3 ⟨p, r, hx, e, z⟩ => by subst hx; show WT T (match (fun d => opTSl d l u) p with | some r => .ok (.d r) s3 | none => .bad) Q; rw [e]; (first | exact z | exact ⟨z⟩))))
def MV (op : D → D → Option D) (a : Str) (y : Val) (s : S) (Q : Val → S → Prop) : Prop := ∃ d z, y = .d d ∧ op (.str a) d = some z ∧ Q (.d z) s
theorem w_m1 {op : D → D → Option D} {Q : Val → S → Prop} (h : WT T (fa ρ s) fun x s1 => XV x s1 fun a s2 => WT T (fb ρ s2) fun y s3 => MV op a y s3 Q) : WT T (eM1 op fa fb ρ s) Q :=
  w_bind (h.mono fun x s1 ⟨a, hx, q⟩ => by
    subst hx
    show WT T ((fb ρ s1).bind _) Q
    refine w_bind (q.mono fun y s2 ⟨d, z, hy, e, q⟩ => ?_)
    subst hy
    show WT T (match op (.str a) d with | some z => .ok (.d z) s2 | none => .bad) Q
    rw [e]
    (first | exact q | exact ⟨q⟩))
theorem strSh {a : Str} (h : CpOk a) : SeqAt.shaped (.str a) = true := by
  have h1 : (PyData.str a).canLay0 = true := by simp only [PyData.canLay0]; exact strOk_of h
  have h2 : (PyData.str a).depth ≤ 64 := by show 0 ≤ 64; omega
  unfold SeqAt.shaped
  rw [h1, decide_eq_true h2]
  rfl
def FwX (T : Exn → S → Prop) (n : Nat) (F : List Val → S → Out S Val) (ys : List Val) (s : S) (Q : Val → S → Prop) : Prop := ys.length = n ∧ WT T (F ys s) Q
theorem fwX {F : List Val → S → Out S Val} {ys : List Val} {Q : Val → S → Prop} (e : ys.length = n) (h : WT T (F ys s) Q) : FwX T n F ys s Q := ⟨e, h⟩
theorem w_fnX {F : List Val → S → Out S Val} {Q : Val → S → Prop} (h : WT T (g ρ s) fun ys s1 => FwX T n F ys s1 Q) : WT T (eFnX n F g ρ s) Q :=
  w_bind (h.mono fun ys s1 ⟨e, q⟩ => by show WT T (if ys.length = n then _ else _) Q; rw [if_pos e]; exact q)
theorem w_fnBX {F : List Val → S → Out S Val} {Q : Val → S → Prop} (h : WT T (g ρ s) fun ys s1 => FwX T n F ys s1 fun y s2 => HV y s2 Q) : WT T (eFnBX n F g ρ s) Q :=
  w_bind (h.mono fun ys s1 ⟨e, q⟩ => by
    show WT T (if ys.length = n then _ else _) Q
    rw [if_pos e]
    refine w_bind (q.mono fun y s2 ⟨d, hd, hh, z⟩ => ?_)
    subst hd
    show WT T (if hard d = true then .ok (.d d) s2 else .bad) Q
    rw [if_pos hh]
    (first | exact z | exact ⟨z⟩))
theorem w_rz {c : Str} {ks : List Str} {Q : Fl → S → Prop} (h : WT T (g ρ s) fun ys s1 => DV_ ys s1 fun ds s2 => Ck (ds.length = ks.length) (T ⟨c, ks.zip ds⟩ s2)) : WT T (sRz c ks g ρ s) Q :=
  w_bind (h.mono fun ys s1 ⟨ds, e, hl, z⟩ => by
    show WT T (match datas ys with | some ds => _ | none => _) Q
    rw [e]
    show WT T (if ds.length = ks.length then _ else _) Q
    rw [if_pos hl]
    exact ⟨z⟩)
/-- a call that is tried: what it gives, or what the suite makes of its exception -/
theorem w_try {F : List Val → S → Out S Val} {hd : Exn → Option D} {Q : Fl → S → Prop} (h : W (g ρ s) fun ys s1 => (ys.length = n ∧ i < ρ.length) ∧ WT (fun e s2 => ∃ z, hd e = some z ∧ Q (.rt (.d z)) s2) (F ys s1) fun y s2 => Q (.rt y) s2) : WT T (sTry i n F g hd ρ s) Q :=
  w_bind (w_noex (h.mono fun ys s1 ⟨hc, q⟩ => ⟨by
    show W0 T (if ys.length = n ∧ i < ρ.length then _ else _) Q
    rw [if_pos hc]
    rcases q.parts with ⟨y, s2, e, q⟩ | ⟨x, s2, e, z, hz, q⟩
    · rw [e]; exact q
    · rw [e]
      show W0 T (match hd x with | some z => .ok (.rt (.d z)) s2 | none => .bad) Q
      rw [hz]
      exact q⟩) |>.mono fun ys s1 q => q)
end
end DL
namespace LK
open PySem PySem.Spec PyProof.Rows L2 DL
def top (i : Nat) : Stmt := PySem.Challenge.pw_wheelfill_k31_ledgers_judged.main.body.getD i (.Pass ⟨0, 0, 0, 0⟩)
abbrev s_is_integer : Stmt := top 1
abbrev s_are_integers : Stmt := top 2
abbrev s_lean : Stmt := top 3
abbrev s_is_upright : Stmt := top 4
abbrev s_is_stand : Stmt := top 5
abbrev s_rows_of : Stmt := top 6
abbrev s_lines : Stmt := top 7
abbrev s_starts : Stmt := top 8
abbrev s_boarded_loads : Stmt := top 12
abbrev s_turned_loads : Stmt := top 13
abbrev s_may : Stmt := top 14
abbrev s_after : Stmt := top 15
abbrev s_after_all : Stmt := top 16
abbrev s_numbers_of : Stmt := top 21
abbrev s_deed : Stmt := top 22
abbrev s_is_above : Stmt := top 24
abbrev s_leads_on : Stmt := top 25
abbrev s_are_started : Stmt := top 26
abbrev s_is_ledger : Stmt := top 27
abbrev s__law_deck : Stmt := top 29
abbrev s__law_draw : Stmt := top 30
abbrev s__law_one : Stmt := top 31
abbrev s__law_count : Stmt := top 32
abbrev s__law_wheel : Stmt := top 33
abbrev s__law_lean : Stmt := top 34
abbrev s__law_fits : Stmt := top 35
abbrev s__law_rows : Stmt := top 36
abbrev s__law_starts : Stmt := top 37
abbrev s__law_stands : Stmt := top 38
abbrev s__law_behind : Stmt := top 39
abbrev s__law_rule : Stmt := top 40
abbrev s__law_deed_of : Stmt := top 41
abbrev s__law_odd : Stmt := top 42
abbrev s__law_bent : Stmt := top 43
abbrev s__law_fault : Stmt := top 44
abbrev s__law_led : Stmt := top 45
abbrev s__law_told : Stmt := top 46
abbrev s_law : Stmt := top 47
abbrev i_NoLedger : Stmt := inClass (top 19) 0
/-- a def as the top left it -/
structure Df (K : PySem.W.Frag) (mg : Str → Option Value) (nm : Str) (st : Stmt) where
  f : Addr
  fd : FuncData
  F : Fun K nm nm st f fd
  g : mg nm = some (.ref f)
/-- what the top has left -/
structure Tx (K : PySem.W.Frag) (mg : Str → Option Value) where
  nb_ValueError : mg "ValueError" = none
  nb_abs : mg "abs" = none
  nb_all : mg "all" = none
  nb_bool : mg "bool" = none
  nb_dict : mg "dict" = none
  nb_enumerate : mg "enumerate" = none
  nb_int : mg "int" = none
  nb_isinstance : mg "isinstance" = none
  nb_len : mg "len" = none
  nb_list : mg "list" = none
  nb_max : mg "max" = none
  nb_range : mg "range" = none
  nb_repr : mg "repr" = none
  nb_set : mg "set" = none
  nb_sorted : mg "sorted" = none
  nb_sum : mg "sum" = none
  nb_tuple : mg "tuple" = none
  nb_zip : mg "zip" = none
  c_BOARD : (t : Tok) ×' (mg "BOARD" = some (.str "board" t))
  c_TURN : (t : Tok) ×' (mg "TURN" = some (.str "turn" t))
  x_NoLedger : Xc K mg "NoLedger" "NoLedger.__init__" i_NoLedger ["word", "number"]
  z_WheelError : (t : Addr) ×' (mg "WheelError" = some (.ref t))
  k_NoLedger_NoLedger : PySem.W.kitOne K (.ref x_NoLedger.C) (.ref x_NoLedger.C) = some true
  k_NoLedger_ValueError : PySem.W.kitOne K (.ref x_NoLedger.C) (.type "ValueError") = some true
  e_NoLedger_NoLedger : PySem.W.exmOne K (.ref x_NoLedger.C) (.ref x_NoLedger.C) = some true
  k_NoLedger_WheelError : PySem.W.kitOne K (.ref x_NoLedger.C) (.ref z_WheelError.1) = some true
  e_NoLedger_WheelError : PySem.W.exmOne K (.ref x_NoLedger.C) (.ref z_WheelError.1) = some true
  d_is_integer : Df K mg "is_integer" s_is_integer
  d_are_integers : Df K mg "are_integers" s_are_integers
  d_lean : Df K mg "lean" s_lean
  d_is_upright : Df K mg "is_upright" s_is_upright
  d_is_stand : Df K mg "is_stand" s_is_stand
  d_rows_of : Df K mg "rows_of" s_rows_of
  d_lines : Df K mg "lines" s_lines
  d_starts : Df K mg "starts" s_starts
  d_boarded_loads : Df K mg "boarded_loads" s_boarded_loads
  d_turned_loads : Df K mg "turned_loads" s_turned_loads
  d_may : Df K mg "may" s_may
  d_after : Df K mg "after" s_after
  d_after_all : Df K mg "after_all" s_after_all
  d_numbers_of : Df K mg "numbers_of" s_numbers_of
  d_deed : Df K mg "deed" s_deed
  d_is_above : Df K mg "is_above" s_is_above
  d_leads_on : Df K mg "leads_on" s_leads_on
  d_are_started : Df K mg "are_started" s_are_started
  d_is_ledger : Df K mg "is_ledger" s_is_ledger
  d__law_draw : Df K mg "_law_draw" s__law_draw
  d__law_one : Df K mg "_law_one" s__law_one
  d__law_count : Df K mg "_law_count" s__law_count
  d__law_wheel : Df K mg "_law_wheel" s__law_wheel
  d__law_lean : Df K mg "_law_lean" s__law_lean
  d__law_fits : Df K mg "_law_fits" s__law_fits
  d__law_rows : Df K mg "_law_rows" s__law_rows
  d__law_starts : Df K mg "_law_starts" s__law_starts
  d__law_stands : Df K mg "_law_stands" s__law_stands
  d__law_behind : Df K mg "_law_behind" s__law_behind
  d__law_rule : Df K mg "_law_rule" s__law_rule
  d__law_deed_of : Df K mg "_law_deed_of" s__law_deed_of
  d__law_odd : Df K mg "_law_odd" s__law_odd
  d__law_bent : Df K mg "_law_bent" s__law_bent
  d__law_fault : Df K mg "_law_fault" s__law_fault
  d__law_led : Df K mg "_law_led" s__law_led
  d__law_told : Df K mg "_law_told" s__law_told
  d__law_deck : Df K mg "_law_deck" s__law_deck
  d_law : Df K mg "law" s_law
noncomputable section
variable {P : Program} {w : World} {K : PySem.W.Frag} {mg : Str → Option Value} {base : Heap} {B : Bs}
def clsT (T : Tx K mg) : Str → Option Addr := fun s => List.lookup s [("NoLedger", T.x_NoLedger.C)]
theorem sc_i_NoLedger : FnScope ["self", "word", "number"] ["self", "word", "number"] (defScope i_NoLedger) := ⟨rfl, rfl, rfl, by decide +kernel, rfl, by decide +kernel, by decide +kernel⟩
theorem ok_i_NoLedger (T : Tx K mg) : FnOk P w K mg base CX0 1 T.x_NoLedger.fI T.x_NoLedger.fd ["self", "word", "number"] (spI2 K "word" "number") :=
  T.x_NoLedger.F.ok sc_i_NoLedger (fun vs H Q E h => by obtain ⟨_, _, _, _, rfl, _⟩ := h; rfl) (fun cdv A outer s H vs Q E hr h => ⟨_, (pss_cons (ps_ost (pv 0) (pv 1)) (pss_one (ps_ost (pv 0) (pv 2)))), init2_read h⟩)
abbrev n_is_integer : List Str := ["value", "low", "high"]
abbrev p_is_integer : List Str := ["value", "low", "high"]
theorem sc_is_integer : FnScope n_is_integer p_is_integer (defScope s_is_integer) := ⟨rfl, rfl, rfl, by decide +kernel, rfl, by decide +kernel, by decide +kernel⟩
def b_is_integer : Sx Dk :=
  (sRet (eAnd (eIsi "int" (bVar 0)) (eAnd (eNot (eIsi "bool" (bVar 0))) (eAnd (eBin (opRel fun i j => decide (i ≤ j)) (bVar 1) (bVar 0)) (eBin (opRel fun i j => decide (i ≤ j)) (bVar 0) (bVar 2))))))
def m_is_integer : List Val → Dk → Out Dk Val := runF 0 b_is_integer
theorem ok_is_integer (hP : B.P = P) (hK : B.K = K) (hw : B.w = w) (T : Tx K mg) (hC : B.cls = clsT T) : FnG P w K mg base CX0 1 T.d_is_integer.f T.d_is_integer.fd p_is_integer (spP B 3 m_is_integer) := by
  exact fg_pure hP hK hw T.d_is_integer.F sc_is_integer b_is_integer rfl (fun cdv A outer s H E c hr =>
    (ds_one (ds_ret ((de_and ((de_isi (T := "int") c.hK kit_int (T.nb_isinstance) (db_var 0 (pv 0)) (pe_bltn (by rfl) (T.nb_int) (by decide +kernel) rfl))).lent (de_and ((de_not ((de_isi (T := "bool") c.hK kit_bool (T.nb_isinstance) (db_var 0 (pv 0)) (pe_bltn (by rfl) (T.nb_bool) (by decide +kernel) rfl))).lent)).lent (de_and ((de_cmp cd_le (db_var 1 (pv 1)) (db_var 0 (pv 0)))).lent (de_one (de_cmp cd_le (db_var 0 (pv 0)) (db_var 2 (pv 2)))))))).lent)))
abbrev n_are_integers : List Str := ["value", "low", "high", "one"]
abbrev p_are_integers : List Str := ["value", "low", "high"]
theorem sc_are_integers : FnScope n_are_integers p_are_integers (defScope s_are_integers) := ⟨rfl, rfl, rfl, by decide +kernel, rfl, by decide +kernel, by decide +kernel⟩
def b_are_integers : Sx Dk :=
  (sRet (eAnd (eIsi "tuple" (bVar 0)) (eCall oAll (aCons (eL (lLc (iSeq (bVar 0)) (btN 3) xYes (eFn 3 m_is_integer (aCons (eVar 3) (aCons (eVar 1) (aCons (eVar 2) aNil)))) [3])) aNil))))
def m_are_integers : List Val → Dk → Out Dk Val := runF 1 b_are_integers
theorem ok_are_integers (hP : B.P = P) (hK : B.K = K) (hw : B.w = w) (T : Tx K mg) (hC : B.cls = clsT T) : FnG P w K mg base CX0 2 T.d_are_integers.f T.d_are_integers.fd p_are_integers (spP B 3 m_are_integers) := by
  have g_is_integer := ok_is_integer (P := P) (w := w) (base := base) hP hK hw T hC
  exact fg_pure hP hK hw T.d_are_integers.F sc_are_integers b_are_integers rfl (fun cdv A outer s H E c hr =>
    (ds_one (ds_ret ((de_and ((de_isi (T := "tuple") c.hK kit_tuple (T.nb_isinstance) (db_var 0 (pv 0)) (pe_bltn (by rfl) (T.nb_tuple) (by decide +kernel) rfl))).lent (de_one (de_fun (op := oAll) (cr_all c.calm) (by rw [← c.hK]; exact cl_all) (by rfl) (T.nb_all) (by decide +kernel) (da_cons (((df_lc c (own := [("one", 3)]) (di_seqB c.hK (db_var 0 (pv 0))) (blkOk_by (own := [("one", 3)]) (N := n_are_integers) (sc := defScope s_are_integers) (by decide +kernel)) (fun s H C cl fp => (dg_name (c.blk s H _ (compEnvC _ cl C _) fp).nd 3)) (fun s H C cl fp => dts_nil) (fun s H C cl fp => (de_call (c.blk s H _ (compEnvC _ cl C _) fp) (g_is_integer) (hr.mono (by decide)) T.d_is_integer.g T.d_is_integer.F.kp (T.d_is_integer.F.binds (ps := p_is_integer) fun _ _ _ _ _ _ us hl => match us, hl with | [_, _, _], _ => rfl) (dv_cons (de_var 3 (pv 3)) (dv_cons (de_var 1 (pv 1)) (dv_cons (de_var 2 (pv 2)) dv_nil))))))).de).lent da_nil))))).lent)))
abbrev n_lean : List Str := ["wheel", "loads", "weight", "load"]
abbrev p_lean : List Str := ["wheel", "loads"]
theorem sc_lean : FnScope n_lean p_lean (defScope s_lean) := ⟨rfl, rfl, rfl, by decide +kernel, rfl, by decide +kernel, by decide +kernel⟩
def b_lean : Sx Dk :=
  (sRet (eCall oSum (aCons (eL (lLc (iZip (aCons (eBin opIx (bVar 0) (eC (.int 0))) (aCons (bVar 1) aNil))) (btT (btsC (btN 2) (btsC (btN 3) btsN))) xYes (eBin opMul (bVar 2) (bVar 3)) [2, 3])) aNil)))
def m_lean : List Val → Dk → Out Dk Val := runF 2 b_lean
theorem ok_lean (hP : B.P = P) (hK : B.K = K) (hw : B.w = w) (T : Tx K mg) (hC : B.cls = clsT T) : FnG P w K mg base CX0 1 T.d_lean.f T.d_lean.fd p_lean (spP B 2 m_lean) := by
  exact fg_pure hP hK hw T.d_lean.F sc_lean b_lean rfl (fun cdv A outer s H E c hr =>
    (ds_one (ds_ret ((de_fun (op := oSum) (cr_sum c.calm) (by rw [← c.hK]; exact cl_sum) (by rfl) (T.nb_sum) (by decide +kernel) (da_cons (((df_lc c (own := [("weight", 2), ("load", 3)]) (di_zip c.hK (T.nb_zip) (da_cons ((de_ix c.hK (db_var 0 (pv 0)) (de_int).lent)).lent (da_cons (db_var 1 (pv 1)) da_nil))) (blkOk_by (own := [("weight", 2), ("load", 3)]) (N := n_lean) (sc := defScope s_lean) (by decide +kernel)) (fun s H C cl fp => (dg_tup (c.blk s H _ (compEnvC _ cl C _) fp) (dgs_cons (dg_name (c.blk s H _ (compEnvC _ cl C _) fp).nd 2) (dgs_cons (dg_name (c.blk s H _ (compEnvC _ cl C _) fp).nd 3) dgs_nil)) (btsC_len (btsC_len btsN_len _) _))) (fun s H C cl fp => dts_nil) (fun s H C cl fp => (de_mul (c.blk s H _ (compEnvC _ cl C _) fp).hK (db_var 2 (pv 2)) (db_var 3 (pv 3)))))).de).lent da_nil))).lent)))
abbrev n_is_upright : List Str := ["wheel", "loads", "low", "high"]
abbrev p_is_upright : List Str := ["wheel", "loads"]
theorem sc_is_upright : FnScope n_is_upright p_is_upright (defScope s_is_upright) := ⟨rfl, rfl, rfl, by decide +kernel, rfl, by decide +kernel, by decide +kernel⟩
def b_is_upright : Sx Dk :=
  (sSeq (sUnp (btT (btsC (btN 2) (btsC (btN 3) btsN))) (eBin opIx (bVar 0) (eC (.int 3))))
    (sRet (eAnd (eBin (opRel fun i j => decide (i ≤ j)) (bVar 2) (eFn 2 m_lean (aCons (eVar 0) (aCons (eVar 1) aNil)))) (eBin (opRel fun i j => decide (i ≤ j)) (eFn 2 m_lean (aCons (eVar 0) (aCons (eVar 1) aNil))) (bVar 3)))))
def m_is_upright : List Val → Dk → Out Dk Val := runF 2 b_is_upright
theorem ok_is_upright (hP : B.P = P) (hK : B.K = K) (hw : B.w = w) (T : Tx K mg) (hC : B.cls = clsT T) : FnG P w K mg base CX0 2 T.d_is_upright.f T.d_is_upright.fd p_is_upright (spP B 2 m_is_upright) := by
  have g_lean := ok_lean (P := P) (w := w) (base := base) hP hK hw T hC
  exact fg_pure hP hK hw T.d_is_upright.F sc_is_upright b_is_upright rfl (fun cdv A outer s H E c hr =>
    (ds_cons (ds_unp (vs := [2, 3]) (de_ix c.hK (db_var 0 (pv 0)) (de_int).lent) (dg_tup c (dgs_cons (dg_name c.nd 2) (dgs_cons (dg_name c.nd 3) dgs_nil)) (btsC_len (btsC_len btsN_len _) _)))
    (ds_one (ds_ret ((de_and ((de_cmp cd_le (db_var 2 (pv 2)) ((de_call c (g_lean) (hr.mono (by decide)) T.d_lean.g T.d_lean.F.kp (T.d_lean.F.binds (ps := p_lean) fun _ _ _ _ _ _ us hl => match us, hl with | [_, _], _ => rfl) (dv_cons (de_var 0 (pv 0)) (dv_cons (de_var 1 (pv 1)) dv_nil)))).lent)).lent (de_one (de_cmp cd_le ((de_call c (g_lean) (hr.mono (by decide)) T.d_lean.g T.d_lean.F.kp (T.d_lean.F.binds (ps := p_lean) fun _ _ _ _ _ _ us hl => match us, hl with | [_, _], _ => rfl) (dv_cons (de_var 0 (pv 0)) (dv_cons (de_var 1 (pv 1)) dv_nil)))).lent (db_var 3 (pv 3)))))).lent))))
abbrev n_is_stand : List Str := ["wheel", "value", "weights", "room", "sizes", "bounds", "patience", "look", "loads", "line", "waited", "size"]
abbrev p_is_stand : List Str := ["wheel", "value"]
theorem sc_is_stand : FnScope n_is_stand p_is_stand (defScope s_is_stand) := ⟨rfl, rfl, rfl, by decide +kernel, rfl, by decide +kernel, by decide +kernel⟩
def b_is_stand : Sx Dk :=
  (sSeq (sUnp (btT (btsC (btN 2) (btsC (btN 3) (btsC (btN 4) (btsC (btN 5) (btsC (btN 6) (btsC (btN 7) btsN))))))) (eVar 0))
    (sSeq (sIf (xOr (xNot (tOf (eIsi "tuple" (bVar 1)))) (tOf (eBin opNe (eCall oLen (aCons (bVar 1) aNil)) (eC (.int 3)))))
    (sRet (eC (.bool false)))
    sNil)
    (sSeq (sUnp (btT (btsC (btN 8) (btsC (btN 9) (btsC (btN 10) btsN)))) (eVar 1))
    (sSeq (sIf (xOr (xNot (tOf (eFn 3 m_are_integers (aCons (eVar 8) (aCons (eC (.int 0)) (aCons (eVar 3) aNil)))))) (xOr (tOf (eBin opNe (eCall oLen (aCons (bVar 8) aNil)) (eCall oLen (aCons (bVar 2) aNil)))) (xNot (tOf (eFn 2 m_is_upright (aCons (eVar 0) (aCons (eVar 8) aNil)))))))
    (sRet (eC (.bool false)))
    sNil)
    (sSeq (sIf (xOr (xNot (tOf (eFn 3 m_are_integers (aCons (eVar 9) (aCons (eC (.int 1)) (aCons (eVar 3) aNil)))))) (xOr (tOf (eBin opNe (eCall oLen (aCons (bVar 9) aNil)) (bVar 7))) (xNot (tOf (eCall oAll (aCons (eL (lLc (iSeq (bVar 9)) (btN 11) xYes (eBin opIn (bVar 11) (bVar 4)) [11])) aNil))))))
    (sRet (eC (.bool false)))
    sNil)
    (sRet (eFn 3 m_is_integer (aCons (eVar 10) (aCons (eC (.int 0)) (aCons (eVar 6) aNil))))))))))
def m_is_stand : List Val → Dk → Out Dk Val := runF 10 b_is_stand
theorem ok_is_stand (hP : B.P = P) (hK : B.K = K) (hw : B.w = w) (T : Tx K mg) (hC : B.cls = clsT T) : FnG P w K mg base CX0 3 T.d_is_stand.f T.d_is_stand.fd p_is_stand (spP B 2 m_is_stand) := by
  have g_are_integers := ok_are_integers (P := P) (w := w) (base := base) hP hK hw T hC
  have g_is_integer := ok_is_integer (P := P) (w := w) (base := base) hP hK hw T hC
  have g_is_upright := ok_is_upright (P := P) (w := w) (base := base) hP hK hw T hC
  exact fg_pure hP hK hw T.d_is_stand.F sc_is_stand b_is_stand rfl (fun cdv A outer s H E c hr =>
    (ds_cons (ds_unp (vs := [2, 3, 4, 5, 6, 7]) (de_var 0 (pv 0)) (dg_tup c (dgs_cons (dg_name c.nd 2) (dgs_cons (dg_name c.nd 3) (dgs_cons (dg_name c.nd 4) (dgs_cons (dg_name c.nd 5) (dgs_cons (dg_name c.nd 6) (dgs_cons (dg_name c.nd 7) dgs_nil)))))) (btsC_len (btsC_len (btsC_len (btsC_len (btsC_len (btsC_len btsN_len _) _) _) _) _) _)))
    (ds_cons (ds_if (dt_bool (dw_or (dt_not (dt_val ((de_isi (T := "tuple") c.hK kit_tuple (T.nb_isinstance) (db_var 1 (pv 1)) (pe_bltn (by rfl) (T.nb_tuple) (by decide +kernel) rfl))).lent)) (dw_or1 (dt_cmp (cd_ne c.hK c.u64) ((de_fun (op := oLen) call_len (by rw [← c.hK]; exact cl_len) (by rfl) (T.nb_len) boot_len (da_cons (db_var 1 (pv 1)) da_nil))).lent (de_int).lent))))
    (ds_one (ds_ret (de_bl).lent))
    ds_nil)
    (ds_cons (ds_unp (vs := [8, 9, 10]) (de_var 1 (pv 1)) (dg_tup c (dgs_cons (dg_name c.nd 8) (dgs_cons (dg_name c.nd 9) (dgs_cons (dg_name c.nd 10) dgs_nil))) (btsC_len (btsC_len (btsC_len btsN_len _) _) _)))
    (ds_cons (ds_if (dt_bool (dw_or (dt_not (dt_val ((de_call c (g_are_integers) (hr.mono (by decide)) T.d_are_integers.g T.d_are_integers.F.kp (T.d_are_integers.F.binds (ps := p_are_integers) fun _ _ _ _ _ _ us hl => match us, hl with | [_, _, _], _ => rfl) (dv_cons (de_var 8 (pv 8)) (dv_cons de_int (dv_cons (de_var 3 (pv 3)) dv_nil))))).lent)) (dw_or (dt_cmp (cd_ne c.hK c.u64) ((de_fun (op := oLen) call_len (by rw [← c.hK]; exact cl_len) (by rfl) (T.nb_len) boot_len (da_cons (db_var 8 (pv 8)) da_nil))).lent ((de_fun (op := oLen) call_len (by rw [← c.hK]; exact cl_len) (by rfl) (T.nb_len) boot_len (da_cons (db_var 2 (pv 2)) da_nil))).lent) (dw_or1 (dt_not (dt_val ((de_call c (g_is_upright) (hr.mono (by decide)) T.d_is_upright.g T.d_is_upright.F.kp (T.d_is_upright.F.binds (ps := p_is_upright) fun _ _ _ _ _ _ us hl => match us, hl with | [_, _], _ => rfl) (dv_cons (de_var 0 (pv 0)) (dv_cons (de_var 8 (pv 8)) dv_nil)))).lent))))))
    (ds_one (ds_ret (de_bl).lent))
    ds_nil)
    (ds_cons (ds_if (dt_bool (dw_or (dt_not (dt_val ((de_call c (g_are_integers) (hr.mono (by decide)) T.d_are_integers.g T.d_are_integers.F.kp (T.d_are_integers.F.binds (ps := p_are_integers) fun _ _ _ _ _ _ us hl => match us, hl with | [_, _, _], _ => rfl) (dv_cons (de_var 9 (pv 9)) (dv_cons de_int (dv_cons (de_var 3 (pv 3)) dv_nil))))).lent)) (dw_or (dt_cmp (cd_ne c.hK c.u64) ((de_fun (op := oLen) call_len (by rw [← c.hK]; exact cl_len) (by rfl) (T.nb_len) boot_len (da_cons (db_var 9 (pv 9)) da_nil))).lent (db_var 7 (pv 7))) (dw_or1 (dt_not (dt_val ((de_fun (op := oAll) (cr_all c.calm) (by rw [← c.hK]; exact cl_all) (by rfl) (T.nb_all) (by decide +kernel) (da_cons (((df_lc c (own := [("size", 11)]) (di_seqB c.hK (db_var 9 (pv 9))) (blkOk_by (own := [("size", 11)]) (N := n_is_stand) (sc := defScope s_is_stand) (by decide +kernel)) (fun s H C cl fp => (dg_name (c.blk s H _ (compEnvC _ cl C _) fp).nd 11)) (fun s H C cl fp => dts_nil) (fun s H C cl fp => (de_cmp (cd_in (c.blk s H _ (compEnvC _ cl C _) fp)) (db_var 11 (pv 11)) (db_var 4 (pv 4)))))).de).lent da_nil))).lent))))))
    (ds_one (ds_ret (de_bl).lent))
    ds_nil)
    (ds_one (ds_ret ((de_call c (g_is_integer) (hr.mono (by decide)) T.d_is_integer.g T.d_is_integer.F.kp (T.d_is_integer.F.binds (ps := p_is_integer) fun _ _ _ _ _ _ us hl => match us, hl with | [_, _, _], _ => rfl) (dv_cons (de_var 10 (pv 10)) (dv_cons de_int (dv_cons (de_var 6 (pv 6)) dv_nil))))).lent))))))))
abbrev n_rows_of : List Str := ["items", "many", "found", "place", "longer", "row", "item"]
abbrev p_rows_of : List Str := ["items", "many"]
theorem sc_rows_of : FnScope n_rows_of p_rows_of (defScope s_rows_of) := ⟨rfl, rfl, rfl, by decide +kernel, rfl, by decide +kernel, by decide +kernel⟩
def b_rows_of : Sx Dk :=
  (sSeq (sNew 2 (lSeq (aCons (eSeq .tuple aNil) aNil)))
    (sSeq (sFor (iRg1 (aCons (bVar 1) aNil)) (btN 3)
    (sSeq (sNew 4 (lSeq aNil))
    (sSeq (sFrz 2 (sFor (iSeq (eVar 2)) (btN 5)
    (sExt 4 (eL (lLc (iSeq (bVar 0)) (btN 6) xYes (eBin opAdd (bVar 5) (eSeq .tuple (aCons (eVar 6) aNil))) [6])))))
    (sMove 2 4))))
    (sRet (bVar 2))))
def m_rows_of : List Val → Dk → Out Dk Val := runF 5 b_rows_of
theorem ok_rows_of (hP : B.P = P) (hK : B.K = K) (hw : B.w = w) (T : Tx K mg) (hC : B.cls = clsT T) : FnG P w K mg base CX0 1 T.d_rows_of.f T.d_rows_of.fd p_rows_of (spP B 2 m_rows_of) := by
  exact fg_pure hP hK hw T.d_rows_of.F sc_rows_of b_rows_of rfl (fun cdv A outer s H E c hr =>
    (ds_cons (ds_new c 2 (df_lst (dv_cons (de_tup dv_nil) dv_nil)))
    (ds_cons (ds_for (vs := [3]) c PassesOwn.never (di_range1 (T.nb_range) (da_cons (db_var 1 (pv 1)) da_nil)) (dg_name c.nd 3)
    (ds_cons (ds_new c 4 (df_lst dv_nil))
    (ds_cons (ds_frz 2 (ds_for (vs := [5]) c PassesOwn.never (di_seq c.hK (de_var 2 (pv 2))) (dg_name c.nd 5)
    (ds_one (ds_ext c 4 (pe_bm PySem.F.plainAttrs_list PySem.F.slot_list_extend PySem.F.type_list_extend mt_extend (pv 4) (pa_cons (((df_lc c (own := [("item", 6)]) (di_seqB c.hK (db_var 0 (pv 0))) (blkOk_by (own := [("item", 6)]) (N := n_rows_of) (sc := defScope s_rows_of) (by decide +kernel)) (fun s H C cl fp => (dg_name (c.blk s H _ (compEnvC _ cl C _) fp).nd 6)) (fun s H C cl fp => dts_nil) (fun s H C cl fp => (de_add (c.blk s H _ (compEnvC _ cl C _) fp).hK (db_var 5 (pv 5)) ((de_tup (dv_cons (de_var 6 (pv 6)) dv_nil))).lent)))).de).lent pa_nil))))))
    (ds_one (ds_move c 2 4)))))
    (ds_one (ds_ret (db_var 2 (pv 2)))))))
abbrev n_lines : List Str := ["wheel"]
abbrev p_lines : List Str := ["wheel"]
theorem sc_lines : FnScope n_lines p_lines (defScope s_lines) := ⟨rfl, rfl, rfl, by decide +kernel, rfl, by decide +kernel, by decide +kernel⟩
def b_lines : Sx Dk :=
  (sRet (eFn 2 m_rows_of (aCons (eBin opIx (bVar 0) (eC (.int 2))) (aCons (eBin opIx (bVar 0) (eC (.int 5))) aNil))))
def m_lines : List Val → Dk → Out Dk Val := runF 0 b_lines
theorem ok_lines (hP : B.P = P) (hK : B.K = K) (hw : B.w = w) (T : Tx K mg) (hC : B.cls = clsT T) : FnG P w K mg base CX0 2 T.d_lines.f T.d_lines.fd p_lines (spP B 1 m_lines) := by
  have g_rows_of := ok_rows_of (P := P) (w := w) (base := base) hP hK hw T hC
  exact fg_pure hP hK hw T.d_lines.F sc_lines b_lines rfl (fun cdv A outer s H E c hr =>
    (ds_one (ds_ret ((de_call c (g_rows_of) (hr.mono (by decide)) T.d_rows_of.g T.d_rows_of.F.kp (T.d_rows_of.F.binds (ps := p_rows_of) fun _ _ _ _ _ _ us hl => match us, hl with | [_, _], _ => rfl) (dv_cons (de_ix c.hK (db_var 0 (pv 0)) (de_int).lent) (dv_cons (de_ix c.hK (db_var 0 (pv 0)) (de_int).lent) dv_nil)))).lent)))
abbrev n_starts : List Str := ["wheel", "line"]
abbrev p_starts : List Str := ["wheel"]
theorem sc_starts : FnScope n_starts p_starts (defScope s_starts) := ⟨rfl, rfl, rfl, by decide +kernel, rfl, by decide +kernel, by decide +kernel⟩
def b_starts : Sx Dk :=
  (sRet (eCall oTuple (aCons (eL (lLc (iSeq (eFn 1 m_lines (aCons (eVar 0) aNil))) (btN 1) xYes (eSeq .tuple (aCons (eBin opMul (eSeq .tuple (aCons (eC (.int 0)) aNil)) (eCall oLen (aCons (eBin opIx (bVar 0) (eC (.int 0))) aNil))) (aCons (eVar 1) (aCons (eC (.int 0)) aNil)))) [1])) aNil)))
def m_starts : List Val → Dk → Out Dk Val := runF 1 b_starts
theorem ok_starts (hP : B.P = P) (hK : B.K = K) (hw : B.w = w) (T : Tx K mg) (hC : B.cls = clsT T) : FnG P w K mg base CX0 3 T.d_starts.f T.d_starts.fd p_starts (spP B 1 m_starts) := by
  have g_lines := ok_lines (P := P) (w := w) (base := base) hP hK hw T hC
  exact fg_pure hP hK hw T.d_starts.F sc_starts b_starts rfl (fun cdv A outer s H E c hr =>
    (ds_one (ds_ret ((de_typ (op := oTuple) call_tuple_of (by rw [← c.hK]; exact cl_tuple) (by rfl) (T.nb_tuple) boot_tuple (da_cons (((df_lc c (own := [("line", 1)]) (di_seqB c.hK ((de_call c (g_lines) (hr.mono (by decide)) T.d_lines.g T.d_lines.F.kp (T.d_lines.F.binds (ps := p_lines) fun _ _ _ _ _ _ us hl => match us, hl with | [_], _ => rfl) (dv_cons (de_var 0 (pv 0)) dv_nil))).lent) (blkOk_by (own := [("line", 1)]) (N := n_starts) (sc := defScope s_starts) (by decide +kernel)) (fun s H C cl fp => (dg_name (c.blk s H _ (compEnvC _ cl C _) fp).nd 1)) (fun s H C cl fp => dts_nil) (fun s H C cl fp => (de_tup (dv_cons (de_mul (c.blk s H _ (compEnvC _ cl C _) fp).hK ((de_tup (dv_cons de_int dv_nil))).lent ((de_fun (op := oLen) call_len (by rw [← (c.blk s H _ (compEnvC _ cl C _) fp).hK]; exact cl_len) (by rfl) (T.nb_len) boot_len (da_cons ((de_ix (c.blk s H _ (compEnvC _ cl C _) fp).hK (db_var 0 (pv 0)) (de_int).lent)).lent da_nil))).lent) (dv_cons (de_var 1 (pv 1)) (dv_cons de_int dv_nil))))))).de).lent da_nil))).lent)))
abbrev n_boarded_loads : List Str := ["loads", "line"]
abbrev p_boarded_loads : List Str := ["loads", "line"]
theorem sc_boarded_loads : FnScope n_boarded_loads p_boarded_loads (defScope s_boarded_loads) := ⟨rfl, rfl, rfl, by decide +kernel, rfl, by decide +kernel, by decide +kernel⟩
def b_boarded_loads : Sx Dk :=
  (sRet (eBin opAdd (eSeq .tuple (aCons (eBin opAdd (eBin opIx (bVar 0) (eC (.int 0))) (eBin opIx (bVar 1) (eC (.int 0)))) aNil)) (eSl (bVar 0) (oSome (eC (.int 1))) oNone)))
def m_boarded_loads : List Val → Dk → Out Dk Val := runF 0 b_boarded_loads
theorem ok_boarded_loads (hP : B.P = P) (hK : B.K = K) (hw : B.w = w) (T : Tx K mg) (hC : B.cls = clsT T) : FnG P w K mg base CX0 1 T.d_boarded_loads.f T.d_boarded_loads.fd p_boarded_loads (spP B 2 m_boarded_loads) := by
  exact fg_pure hP hK hw T.d_boarded_loads.F sc_boarded_loads b_boarded_loads rfl (fun cdv A outer s H E c hr =>
    (ds_one (ds_ret ((de_add c.hK ((de_tup (dv_cons (de_add c.hK ((de_ix c.hK (db_var 0 (pv 0)) (de_int).lent)).lent ((de_ix c.hK (db_var 1 (pv 1)) (de_int).lent)).lent) dv_nil))).lent ((de_sl c.hK (db_var 0 (pv 0)) (do_some (de_int).lent) do_none)).lent)).lent)))
abbrev n_turned_loads : List Str := ["loads"]
abbrev p_turned_loads : List Str := ["loads"]
theorem sc_turned_loads : FnScope n_turned_loads p_turned_loads (defScope s_turned_loads) := ⟨rfl, rfl, rfl, by decide +kernel, rfl, by decide +kernel, by decide +kernel⟩
def b_turned_loads : Sx Dk :=
  (sRet (eBin opAdd (eSeq .tuple (aCons (eC (.int 0)) aNil)) (eSl (bVar 0) oNone (oSome (eUn opNeg (eC (.int 1)))))))
def m_turned_loads : List Val → Dk → Out Dk Val := runF 0 b_turned_loads
theorem ok_turned_loads (hP : B.P = P) (hK : B.K = K) (hw : B.w = w) (T : Tx K mg) (hC : B.cls = clsT T) : FnG P w K mg base CX0 1 T.d_turned_loads.f T.d_turned_loads.fd p_turned_loads (spP B 1 m_turned_loads) := by
  exact fg_pure hP hK hw T.d_turned_loads.F sc_turned_loads b_turned_loads rfl (fun cdv A outer s H E c hr =>
    (ds_one (ds_ret ((de_add c.hK ((de_tup (dv_cons de_int dv_nil))).lent ((de_sl c.hK (db_var 0 (pv 0)) do_none (do_some ((de_neg (de_int).lent)).lent))).lent)).lent)))
abbrev n_may : List Str := ["wheel", "stand", "deed", "loads", "line", "waited"]
abbrev p_may : List Str := ["wheel", "stand", "deed"]
theorem sc_may : FnScope n_may p_may (defScope s_may) := ⟨rfl, rfl, rfl, by decide +kernel, rfl, by decide +kernel, by decide +kernel⟩
def b_may : Sx Dk :=
  (sSeq (sUnp (btT (btsC (btN 3) (btsC (btN 4) (btsC (btN 5) btsN)))) (eVar 1))
    (sSeq (sIf (tOf (eBin opEq (bVar 2) (eC (.str "board"))))
    (sRet (eAnd (eBin (opRel fun i j => decide (i ≤ j)) (eBin opAdd (eBin opIx (bVar 3) (eC (.int 0))) (eBin opIx (bVar 4) (eC (.int 0)))) (eBin opIx (bVar 0) (eC (.int 1)))) (eFn 2 m_is_upright (aCons (eVar 0) (aCons (eFn 2 m_boarded_loads (aCons (eVar 3) (aCons (eVar 4) aNil))) aNil)))))
    sNil)
    (sRet (eAnd (eBin (opRel fun i j => decide (i < j)) (bVar 5) (eBin opIx (bVar 0) (eC (.int 4)))) (eFn 2 m_is_upright (aCons (eVar 0) (aCons (eFn 1 m_turned_loads (aCons (eVar 3) aNil)) aNil)))))))
def m_may : List Val → Dk → Out Dk Val := runF 3 b_may
theorem ok_may (hP : B.P = P) (hK : B.K = K) (hw : B.w = w) (T : Tx K mg) (hC : B.cls = clsT T) : FnG P w K mg base CX0 3 T.d_may.f T.d_may.fd p_may (spP B 3 m_may) := by
  have g_boarded_loads := ok_boarded_loads (P := P) (w := w) (base := base) hP hK hw T hC
  have g_is_upright := ok_is_upright (P := P) (w := w) (base := base) hP hK hw T hC
  have g_turned_loads := ok_turned_loads (P := P) (w := w) (base := base) hP hK hw T hC
  exact fg_pure hP hK hw T.d_may.F sc_may b_may rfl (fun cdv A outer s H E c hr =>
    (ds_cons (ds_unp (vs := [3, 4, 5]) (de_var 1 (pv 1)) (dg_tup c (dgs_cons (dg_name c.nd 3) (dgs_cons (dg_name c.nd 4) (dgs_cons (dg_name c.nd 5) dgs_nil))) (btsC_len (btsC_len (btsC_len btsN_len _) _) _)))
    (ds_cons (ds_if (dt_cmp (cd_eq c.hK c.u64) (db_var 2 (pv 2)) ((de_gstr T.c_BOARD.2)).lent)
    (ds_one (ds_ret ((de_and ((de_cmp cd_le ((de_add c.hK ((de_ix c.hK (db_var 3 (pv 3)) (de_int).lent)).lent ((de_ix c.hK (db_var 4 (pv 4)) (de_int).lent)).lent)).lent ((de_ix c.hK (db_var 0 (pv 0)) (de_int).lent)).lent)).lent (de_one (de_call c (g_is_upright) (hr.mono (by decide)) T.d_is_upright.g T.d_is_upright.F.kp (T.d_is_upright.F.binds (ps := p_is_upright) fun _ _ _ _ _ _ us hl => match us, hl with | [_, _], _ => rfl) (dv_cons (de_var 0 (pv 0)) (dv_cons (de_call c (g_boarded_loads) (hr.mono (by decide)) T.d_boarded_loads.g T.d_boarded_loads.F.kp (T.d_boarded_loads.F.binds (ps := p_boarded_loads) fun _ _ _ _ _ _ us hl => match us, hl with | [_, _], _ => rfl) (dv_cons (de_var 3 (pv 3)) (dv_cons (de_var 4 (pv 4)) dv_nil))) dv_nil)))))).lent))
    ds_nil)
    (ds_one (ds_ret ((de_and ((de_cmp cd_lt (db_var 5 (pv 5)) ((de_ix c.hK (db_var 0 (pv 0)) (de_int).lent)).lent)).lent (de_one (de_call c (g_is_upright) (hr.mono (by decide)) T.d_is_upright.g T.d_is_upright.F.kp (T.d_is_upright.F.binds (ps := p_is_upright) fun _ _ _ _ _ _ us hl => match us, hl with | [_, _], _ => rfl) (dv_cons (de_var 0 (pv 0)) (dv_cons (de_call c (g_turned_loads) (hr.mono (by decide)) T.d_turned_loads.g T.d_turned_loads.F.kp (T.d_turned_loads.F.binds (ps := p_turned_loads) fun _ _ _ _ _ _ us hl => match us, hl with | [_], _ => rfl) (dv_cons (de_var 3 (pv 3)) dv_nil)) dv_nil)))))).lent)))))
abbrev n_after : List Str := ["wheel", "stand", "deed", "size", "loads", "line", "waited"]
abbrev p_after : List Str := ["wheel", "stand", "deed", "size"]
theorem sc_after : FnScope n_after p_after (defScope s_after) := ⟨rfl, rfl, rfl, by decide +kernel, rfl, by decide +kernel, by decide +kernel⟩
def b_after : Sx Dk :=
  (sSeq (sUnp (btT (btsC (btN 4) (btsC (btN 5) (btsC (btN 6) btsN)))) (eVar 1))
    (sSeq (sIf (tOf (eBin opEq (bVar 2) (eC (.str "board"))))
    (sRet (eSeq .tuple (aCons (eFn 2 m_boarded_loads (aCons (eVar 4) (aCons (eVar 5) aNil))) (aCons (eBin opAdd (eSl (bVar 5) (oSome (eC (.int 1))) oNone) (eSeq .tuple (aCons (eVar 3) aNil))) (aCons (eC (.int 0)) aNil)))))
    sNil)
    (sRet (eSeq .tuple (aCons (eFn 1 m_turned_loads (aCons (eVar 4) aNil)) (aCons (eVar 5) (aCons (eBin opAdd (bVar 6) (eC (.int 1))) aNil)))))))
def m_after : List Val → Dk → Out Dk Val := runF 3 b_after
theorem ok_after (hP : B.P = P) (hK : B.K = K) (hw : B.w = w) (T : Tx K mg) (hC : B.cls = clsT T) : FnG P w K mg base CX0 2 T.d_after.f T.d_after.fd p_after (spP B 4 m_after) := by
  have g_boarded_loads := ok_boarded_loads (P := P) (w := w) (base := base) hP hK hw T hC
  have g_turned_loads := ok_turned_loads (P := P) (w := w) (base := base) hP hK hw T hC
  exact fg_pure hP hK hw T.d_after.F sc_after b_after rfl (fun cdv A outer s H E c hr =>
    (ds_cons (ds_unp (vs := [4, 5, 6]) (de_var 1 (pv 1)) (dg_tup c (dgs_cons (dg_name c.nd 4) (dgs_cons (dg_name c.nd 5) (dgs_cons (dg_name c.nd 6) dgs_nil))) (btsC_len (btsC_len (btsC_len btsN_len _) _) _)))
    (ds_cons (ds_if (dt_cmp (cd_eq c.hK c.u64) (db_var 2 (pv 2)) ((de_gstr T.c_BOARD.2)).lent)
    (ds_one (ds_ret ((de_tup (dv_cons (de_call c (g_boarded_loads) (hr.mono (by decide)) T.d_boarded_loads.g T.d_boarded_loads.F.kp (T.d_boarded_loads.F.binds (ps := p_boarded_loads) fun _ _ _ _ _ _ us hl => match us, hl with | [_, _], _ => rfl) (dv_cons (de_var 4 (pv 4)) (dv_cons (de_var 5 (pv 5)) dv_nil))) (dv_cons (de_add c.hK ((de_sl c.hK (db_var 5 (pv 5)) (do_some (de_int).lent) do_none)).lent ((de_tup (dv_cons (de_var 3 (pv 3)) dv_nil))).lent) (dv_cons de_int dv_nil))))).lent))
    ds_nil)
    (ds_one (ds_ret ((de_tup (dv_cons (de_call c (g_turned_loads) (hr.mono (by decide)) T.d_turned_loads.g T.d_turned_loads.F.kp (T.d_turned_loads.F.binds (ps := p_turned_loads) fun _ _ _ _ _ _ us hl => match us, hl with | [_], _ => rfl) (dv_cons (de_var 4 (pv 4)) dv_nil)) (dv_cons (de_var 5 (pv 5)) (dv_cons (de_add c.hK (db_var 6 (pv 6)) (de_int).lent) dv_nil))))).lent)))))
abbrev n_after_all : List Str := ["wheel", "stand", "deed", "size"]
abbrev p_after_all : List Str := ["wheel", "stand", "deed"]
theorem sc_after_all : FnScope n_after_all p_after_all (defScope s_after_all) := ⟨rfl, rfl, rfl, by decide +kernel, rfl, by decide +kernel, by decide +kernel⟩
def b_after_all : Sx Dk :=
  (sSeq (sIf (tOf (eBin opEq (bVar 2) (eC (.str "turn"))))
    (sRet (eSeq .tuple (aCons (eFn 4 m_after (aCons (eVar 0) (aCons (eVar 1) (aCons (eVar 2) (aCons (eC (.int 0)) aNil))))) aNil)))
    sNil)
    (sRet (eCall oTuple (aCons (eL (lLc (iSeq (eBin opIx (bVar 0) (eC (.int 2)))) (btN 3) xYes (eFn 4 m_after (aCons (eVar 0) (aCons (eVar 1) (aCons (eVar 2) (aCons (eVar 3) aNil))))) [3])) aNil))))
def m_after_all : List Val → Dk → Out Dk Val := runF 1 b_after_all
theorem ok_after_all (hP : B.P = P) (hK : B.K = K) (hw : B.w = w) (T : Tx K mg) (hC : B.cls = clsT T) : FnG P w K mg base CX0 3 T.d_after_all.f T.d_after_all.fd p_after_all (spP B 3 m_after_all) := by
  have g_after := ok_after (P := P) (w := w) (base := base) hP hK hw T hC
  exact fg_pure hP hK hw T.d_after_all.F sc_after_all b_after_all rfl (fun cdv A outer s H E c hr =>
    (ds_cons (ds_if (dt_cmp (cd_eq c.hK c.u64) (db_var 2 (pv 2)) ((de_gstr T.c_TURN.2)).lent)
    (ds_one (ds_ret ((de_tup (dv_cons (de_call c (g_after) (hr.mono (by decide)) T.d_after.g T.d_after.F.kp (T.d_after.F.binds (ps := p_after) fun _ _ _ _ _ _ us hl => match us, hl with | [_, _, _, _], _ => rfl) (dv_cons (de_var 0 (pv 0)) (dv_cons (de_var 1 (pv 1)) (dv_cons (de_var 2 (pv 2)) (dv_cons de_int dv_nil))))) dv_nil))).lent))
    ds_nil)
    (ds_one (ds_ret ((de_typ (op := oTuple) call_tuple_of (by rw [← c.hK]; exact cl_tuple) (by rfl) (T.nb_tuple) boot_tuple (da_cons (((df_lc c (own := [("size", 3)]) (di_seqB c.hK ((de_ix c.hK (db_var 0 (pv 0)) (de_int).lent)).lent) (blkOk_by (own := [("size", 3)]) (N := n_after_all) (sc := defScope s_after_all) (by decide +kernel)) (fun s H C cl fp => (dg_name (c.blk s H _ (compEnvC _ cl C _) fp).nd 3)) (fun s H C cl fp => dts_nil) (fun s H C cl fp => (de_call (c.blk s H _ (compEnvC _ cl C _) fp) (g_after) (hr.mono (by decide)) T.d_after.g T.d_after.F.kp (T.d_after.F.binds (ps := p_after) fun _ _ _ _ _ _ us hl => match us, hl with | [_, _, _, _], _ => rfl) (dv_cons (de_var 0 (pv 0)) (dv_cons (de_var 1 (pv 1)) (dv_cons (de_var 2 (pv 2)) (dv_cons (de_var 3 (pv 3)) dv_nil)))))))).de).lent da_nil))).lent))))
abbrev n_numbers_of : List Str := ["wheel", "stand", "loads", "line", "waited", "found"]
abbrev p_numbers_of : List Str := ["wheel", "stand"]
theorem sc_numbers_of : FnScope n_numbers_of p_numbers_of (defScope s_numbers_of) := ⟨rfl, rfl, rfl, by decide +kernel, rfl, by decide +kernel, by decide +kernel⟩
def b_numbers_of : Sx Dk :=
  (sSeq (sUnp (btT (btsC (btN 2) (btsC (btN 3) (btsC (btN 4) btsN)))) (eVar 1))
    (sSeq (sNewN 5 (nDisp ["load", "head", "waited", "lean"] (exsOf [(eBin opIx (bVar 2) (eC (.int 0))), (eBin opIx (bVar 3) (eC (.int 0))), (eVar 4), (eFn 2 m_lean (aCons (eVar 0) (aCons (eVar 2) aNil)))])))
    (sSeq (sPutS 5 (eC (.str "ahead")) (eFn 2 m_lean (aCons (eVar 0) (aCons (eFn 1 m_turned_loads (aCons (eVar 2) aNil)) aNil))))
    (sRet (bVar 5)))))
def m_numbers_of : List Val → Dk → Out Dk Val := runF 4 b_numbers_of
theorem ok_numbers_of (hP : B.P = P) (hK : B.K = K) (hw : B.w = w) (T : Tx K mg) (hC : B.cls = clsT T) : FnG P w K mg base CX0 2 T.d_numbers_of.f T.d_numbers_of.fd p_numbers_of (spP B 2 m_numbers_of) := by
  have g_lean := ok_lean (P := P) (w := w) (base := base) hP hK hw T hC
  have g_turned_loads := ok_turned_loads (P := P) (w := w) (base := base) hP hK hw T hC
  exact fg_pure hP hK hw T.d_numbers_of.F sc_numbers_of b_numbers_of rfl (fun cdv A outer s H E c hr =>
    (ds_cons (ds_unp (vs := [2, 3, 4]) (de_var 1 (pv 1)) (dg_tup c (dgs_cons (dg_name c.nd 2) (dgs_cons (dg_name c.nd 3) (dgs_cons (dg_name c.nd 4) dgs_nil))) (btsC_len (btsC_len (btsC_len btsN_len _) _) _)))
    (ds_cons (ds_newN c 5 (dn_disp ["load", "head", "waited", "lean"] [(eBin opIx (bVar 2) (eC (.int 0))), (eBin opIx (bVar 3) (eC (.int 0))), (eVar 4), (eFn 2 m_lean (aCons (eVar 0) (aCons (eVar 2) aNil)))] (pps_cons pe_str (de_ix c.hK (db_var 2 (pv 2)) (de_int).lent) (pps_cons pe_str (de_ix c.hK (db_var 3 (pv 3)) (de_int).lent) (pps_cons pe_str (de_var 4 (pv 4)) (pps_cons pe_str (de_call c (g_lean) (hr.mono (by decide)) T.d_lean.g T.d_lean.F.kp (T.d_lean.F.binds (ps := p_lean) fun _ _ _ _ _ _ us hl => match us, hl with | [_, _], _ => rfl) (dv_cons (de_var 0 (pv 0)) (dv_cons (de_var 2 (pv 2)) dv_nil))) pps_nil)))) rfl))
    (ds_cons (ds_putS c 5 (pv 5) (de_str).lent (de_call c (g_lean) (hr.mono (by decide)) T.d_lean.g T.d_lean.F.kp (T.d_lean.F.binds (ps := p_lean) fun _ _ _ _ _ _ us hl => match us, hl with | [_, _], _ => rfl) (dv_cons (de_var 0 (pv 0)) (dv_cons (de_call c (g_turned_loads) (hr.mono (by decide)) T.d_turned_loads.g T.d_turned_loads.F.kp (T.d_turned_loads.F.binds (ps := p_turned_loads) fun _ _ _ _ _ _ us hl => match us, hl with | [_], _ => rfl) (dv_cons (de_var 2 (pv 2)) dv_nil)) dv_nil))))
    (ds_one (ds_ret (db_var 5 (pv 5))))))))
abbrev n_deed : List Str := ["wheel", "rule", "stand", "numbers", "tests", "act", "what", "low", "high"]
abbrev p_deed : List Str := ["wheel", "rule", "stand"]
theorem sc_deed : FnScope n_deed p_deed (defScope s_deed) := ⟨rfl, rfl, rfl, by decide +kernel, rfl, by decide +kernel, by decide +kernel⟩
def b_deed : Sx Dk :=
  (sSeq (sSet 3 (eFn 2 m_numbers_of (aCons (eVar 0) (aCons (eVar 2) aNil))))
    (sSeq (sFor (iSeq (eVar 1)) (btT (btsC (btN 4) (btsC (btN 5) btsN)))
    (sIf (tOf (eCall oAll (aCons (eL (lLc (iSeq (bVar 4)) (btT (btsC (btN 6) (btsC (btN 7) (btsC (btN 8) btsN)))) xYes (eAnd (eBin (opRel fun i j => decide (i ≤ j)) (bVar 7) (eBin opDIx (bVar 3) (bVar 6))) (eBin (opRel fun i j => decide (i ≤ j)) (eBin opDIx (bVar 3) (bVar 6)) (bVar 8))) [6, 7, 8])) aNil)))
    (sIf (tOf (eFn 3 m_may (aCons (eVar 0) (aCons (eVar 2) (aCons (eVar 5) aNil)))))
    (sRet (bVar 5))
    sNil)
    sNil))
    (sRet (eC .none))))
def m_deed : List Val → Dk → Out Dk Val := runF 6 b_deed
theorem ok_deed (hP : B.P = P) (hK : B.K = K) (hw : B.w = w) (T : Tx K mg) (hC : B.cls = clsT T) : FnG P w K mg base CX0 4 T.d_deed.f T.d_deed.fd p_deed (spP B 3 m_deed) := by
  have g_may := ok_may (P := P) (w := w) (base := base) hP hK hw T hC
  have g_numbers_of := ok_numbers_of (P := P) (w := w) (base := base) hP hK hw T hC
  exact fg_pure hP hK hw T.d_deed.F sc_deed b_deed rfl (fun cdv A outer s H E c hr =>
    (ds_cons (ds_set c 3 (de_call c (g_numbers_of) (hr.mono (by decide)) T.d_numbers_of.g T.d_numbers_of.F.kp (T.d_numbers_of.F.binds (ps := p_numbers_of) fun _ _ _ _ _ _ us hl => match us, hl with | [_, _], _ => rfl) (dv_cons (de_var 0 (pv 0)) (dv_cons (de_var 2 (pv 2)) dv_nil))))
    (ds_cons (ds_for (vs := [4, 5]) c PassesOwn.never (di_seq c.hK (de_var 1 (pv 1))) (dg_tup c (dgs_cons (dg_name c.nd 4) (dgs_cons (dg_name c.nd 5) dgs_nil)) (btsC_len (btsC_len btsN_len _) _))
    (ds_one (ds_if (dt_val ((de_fun (op := oAll) (cr_all c.calm) (by rw [← c.hK]; exact cl_all) (by rfl) (T.nb_all) (by decide +kernel) (da_cons (((df_lc c (own := [("what", 6), ("low", 7), ("high", 8)]) (di_seqB c.hK (db_var 4 (pv 4))) (blkOk_by (own := [("what", 6), ("low", 7), ("high", 8)]) (N := n_deed) (sc := defScope s_deed) (by decide +kernel)) (fun s H C cl fp => (dg_tup (c.blk s H _ (compEnvC _ cl C _) fp) (dgs_cons (dg_name (c.blk s H _ (compEnvC _ cl C _) fp).nd 6) (dgs_cons (dg_name (c.blk s H _ (compEnvC _ cl C _) fp).nd 7) (dgs_cons (dg_name (c.blk s H _ (compEnvC _ cl C _) fp).nd 8) dgs_nil))) (btsC_len (btsC_len (btsC_len btsN_len _) _) _))) (fun s H C cl fp => dts_nil) (fun s H C cl fp => (de_and ((de_cmp cd_le (db_var 7 (pv 7)) ((de_dix (c.blk s H _ (compEnvC _ cl C _) fp) (db_var 3 (pv 3)) (db_var 6 (pv 6)))).lent)).lent (de_one (de_cmp cd_le ((de_dix (c.blk s H _ (compEnvC _ cl C _) fp) (db_var 3 (pv 3)) (db_var 6 (pv 6)))).lent (db_var 8 (pv 8)))))))).de).lent da_nil))).lent)
    (ds_one (ds_if (dt_val ((de_call c (g_may) (hr.mono (by decide)) T.d_may.g T.d_may.F.kp (T.d_may.F.binds (ps := p_may) fun _ _ _ _ _ _ us hl => match us, hl with | [_, _, _], _ => rfl) (dv_cons (de_var 0 (pv 0)) (dv_cons (de_var 2 (pv 2)) (dv_cons (de_var 5 (pv 5)) dv_nil))))).lent)
    (ds_one (ds_ret (db_var 5 (pv 5))))
    ds_nil))
    ds_nil)))
    (ds_one (ds_ret (de_non).lent)))))
abbrev n_is_above : List Str := ["some", "number"]
abbrev p_is_above : List Str := ["some", "number"]
theorem sc_is_above : FnScope n_is_above p_is_above (defScope s_is_above) := ⟨rfl, rfl, rfl, by decide +kernel, rfl, by decide +kernel, by decide +kernel⟩
def b_is_above : Sx Dk :=
  (sRet (eOr (eBin opEq (bVar 1) (eC (.int 0))) (eBin (opOrdD PySem.W.dataLt) (eBin opIx (bVar 0) (eBin opSub (bVar 1) (eC (.int 1)))) (eBin opIx (bVar 0) (bVar 1)))))
def m_is_above : List Val → Dk → Out Dk Val := runF 0 b_is_above
theorem ok_is_above (hP : B.P = P) (hK : B.K = K) (hw : B.w = w) (T : Tx K mg) (hC : B.cls = clsT T) : FnG P w K mg base CX0 1 T.d_is_above.f T.d_is_above.fd p_is_above (spP B 2 m_is_above) := by
  exact fg_pure hP hK hw T.d_is_above.F sc_is_above b_is_above rfl (fun cdv A outer s H E c hr =>
    (ds_one (ds_ret ((de_or ((de_cmp (cd_eq c.hK c.u64) (db_var 1 (pv 1)) (de_int).lent)).lent (de_one (de_cmp (cd_ltD c) ((de_ix c.hK (db_var 0 (pv 0)) ((de_sub (db_var 1 (pv 1)) (de_int).lent)).lent)).lent ((de_ix c.hK (db_var 0 (pv 0)) (db_var 1 (pv 1)))).lent)))).lent)))
abbrev n_leads_on : List Str := ["wheel", "stand", "act", "known", "later"]
abbrev p_leads_on : List Str := ["wheel", "stand", "act", "known"]
theorem sc_leads_on : FnScope n_leads_on p_leads_on (defScope s_leads_on) := ⟨rfl, rfl, rfl, by decide +kernel, rfl, by decide +kernel, by decide +kernel⟩
def b_leads_on : Sx Dk :=
  (sRet (eCall oAll (aCons (eL (lLc (iSeq (eFn 3 m_after_all (aCons (eVar 0) (aCons (eVar 1) (aCons (eVar 2) aNil))))) (btN 4) xYes (eBin opInN (bVar 4) (bVar 3)) [4])) aNil)))
def m_leads_on : List Val → Dk → Out Dk Val := runF 1 b_leads_on
theorem ok_leads_on (hP : B.P = P) (hK : B.K = K) (hw : B.w = w) (T : Tx K mg) (hC : B.cls = clsT T) : FnG P w K mg base CX0 4 T.d_leads_on.f T.d_leads_on.fd p_leads_on (spP B 4 m_leads_on) := by
  have g_after_all := ok_after_all (P := P) (w := w) (base := base) hP hK hw T hC
  exact fg_pure hP hK hw T.d_leads_on.F sc_leads_on b_leads_on rfl (fun cdv A outer s H E c hr =>
    (ds_one (ds_ret ((de_fun (op := oAll) (cr_all c.calm) (by rw [← c.hK]; exact cl_all) (by rfl) (T.nb_all) (by decide +kernel) (da_cons (((df_lc c (own := [("later", 4)]) (di_seqB c.hK ((de_call c (g_after_all) (hr.mono (by decide)) T.d_after_all.g T.d_after_all.F.kp (T.d_after_all.F.binds (ps := p_after_all) fun _ _ _ _ _ _ us hl => match us, hl with | [_, _, _], _ => rfl) (dv_cons (de_var 0 (pv 0)) (dv_cons (de_var 1 (pv 1)) (dv_cons (de_var 2 (pv 2)) dv_nil))))).lent) (blkOk_by (own := [("later", 4)]) (N := n_leads_on) (sc := defScope s_leads_on) (by decide +kernel)) (fun s H C cl fp => (dg_name (c.blk s H _ (compEnvC _ cl C _) fp).nd 4)) (fun s H C cl fp => dts_nil) (fun s H C cl fp => (de_cmp (cd_inN (c.blk s H _ (compEnvC _ cl C _) fp)) (db_var 4 (pv 4)) (db_var 3 (pv 3)))))).de).lent da_nil))).lent)))
abbrev n_are_started : List Str := ["wheel", "known", "stand"]
abbrev p_are_started : List Str := ["wheel", "known"]
theorem sc_are_started : FnScope n_are_started p_are_started (defScope s_are_started) := ⟨rfl, rfl, rfl, by decide +kernel, rfl, by decide +kernel, by decide +kernel⟩
def b_are_started : Sx Dk :=
  (sRet (eCall oAll (aCons (eL (lLc (iSeq (eFn 1 m_starts (aCons (eVar 0) aNil))) (btN 2) xYes (eBin opInN (bVar 2) (bVar 1)) [2])) aNil)))
def m_are_started : List Val → Dk → Out Dk Val := runF 1 b_are_started
theorem ok_are_started (hP : B.P = P) (hK : B.K = K) (hw : B.w = w) (T : Tx K mg) (hC : B.cls = clsT T) : FnG P w K mg base CX0 4 T.d_are_started.f T.d_are_started.fd p_are_started (spP B 2 m_are_started) := by
  have g_starts := ok_starts (P := P) (w := w) (base := base) hP hK hw T hC
  exact fg_pure hP hK hw T.d_are_started.F sc_are_started b_are_started rfl (fun cdv A outer s H E c hr =>
    (ds_one (ds_ret ((de_fun (op := oAll) (cr_all c.calm) (by rw [← c.hK]; exact cl_all) (by rfl) (T.nb_all) (by decide +kernel) (da_cons (((df_lc c (own := [("stand", 2)]) (di_seqB c.hK ((de_call c (g_starts) (hr.mono (by decide)) T.d_starts.g T.d_starts.F.kp (T.d_starts.F.binds (ps := p_starts) fun _ _ _ _ _ _ us hl => match us, hl with | [_], _ => rfl) (dv_cons (de_var 0 (pv 0)) dv_nil))).lent) (blkOk_by (own := [("stand", 2)]) (N := n_are_started) (sc := defScope s_are_started) (by decide +kernel)) (fun s H C cl fp => (dg_name (c.blk s H _ (compEnvC _ cl C _) fp).nd 2)) (fun s H C cl fp => dts_nil) (fun s H C cl fp => (de_cmp (cd_inN (c.blk s H _ (compEnvC _ cl C _) fp)) (db_var 2 (pv 2)) (db_var 1 (pv 1)))))).de).lent da_nil))).lent)))
abbrev n_is_ledger : List Str := ["wheel", "rule", "value", "acts", "number", "stand"]
abbrev p_is_ledger : List Str := ["wheel", "rule", "value"]
theorem sc_is_ledger : FnScope n_is_ledger p_is_ledger (defScope s_is_ledger) := ⟨rfl, rfl, rfl, by decide +kernel, rfl, by decide +kernel, by decide +kernel⟩
def b_is_ledger : Sx Dk :=
  (sSeq (sIf (xNot (tOf (eIsi "tuple" (bVar 2))))
    (sRz "NoLedger" ["word", "number"] (aCons (eC (.str "shape")) (aCons (eUn opNeg (eC (.int 1))) aNil)))
    sNil)
    (sSeq (sNewN 3 nD)
    (sSeq (sFor (iEnuT (eVar 2)) (btT (btsC (btN 4) (btsC (btN 5) btsN)))
    (sSeq (sIf (xOr (xNot (tOf (eFn 2 m_is_stand (aCons (eVar 0) (aCons (eVar 5) aNil))))) (xNot (tOf (eFn 2 m_is_above (aCons (eVar 2) (aCons (eVar 4) aNil))))))
    (sRz "NoLedger" ["word", "number"] (aCons (eC (.str "stand")) (aCons (eVar 4) aNil)))
    sNil)
    (sSeq (sPutN 3 (eVar 5) (eFn 3 m_deed (aCons (eVar 0) (aCons (eVar 1) (aCons (eVar 5) aNil)))))
    (sIf (tOf (eBin opIs (eBin opDIxN (bVar 3) (bVar 5)) (eC .none)))
    (sRz "NoLedger" ["word", "number"] (aCons (eC (.str "stuck")) (aCons (eVar 4) aNil)))
    sNil))))
    (sSeq (sFor (iEnuT (eVar 2)) (btT (btsC (btN 4) (btsC (btN 5) btsN)))
    (sIf (xNot (tOf (eFnB 4 m_leads_on (aCons (bVar 0) (aCons (bVar 5) (aCons (eBin opDIxN (bVar 3) (bVar 5)) (aCons (bVar 3) aNil)))))))
    (sRz "NoLedger" ["word", "number"] (aCons (eC (.str "open")) (aCons (eVar 4) aNil)))
    sNil))
    (sSeq (sIf (xNot (tOf (eFnB 2 m_are_started (aCons (bVar 0) (aCons (bVar 3) aNil)))))
    (sRz "NoLedger" ["word", "number"] (aCons (eC (.str "start")) (aCons (eUn opNeg (eC (.int 1))) aNil)))
    sNil)
    (sRet (eC (.bool true))))))))
def m_is_ledger : List Val → Dk → Out Dk Val := runF 3 b_is_ledger
theorem ok_is_ledger (hP : B.P = P) (hK : B.K = K) (hw : B.w = w) (T : Tx K mg) (hC : B.cls = clsT T) : FnG P w K mg base (L2.CX P w) 7 T.d_is_ledger.f T.d_is_ledger.fd p_is_ledger (spX B 3 m_is_ledger) := by
  have g_are_started := ok_are_started (P := P) (w := w) (base := base) hP hK hw T hC
  have g_deed := ok_deed (P := P) (w := w) (base := base) hP hK hw T hC
  have g_is_above := ok_is_above (P := P) (w := w) (base := base) hP hK hw T hC
  have g_is_stand := ok_is_stand (P := P) (w := w) (base := base) hP hK hw T hC
  have g_leads_on := ok_leads_on (P := P) (w := w) (base := base) hP hK hw T hC
  exact fg_raise (k := 6) hP hK hw T.d_is_ledger.F sc_is_ledger b_is_ledger rfl (fun cdv A outer s H E c hr tk po =>
    (ds_cons (ds_if (dt_not (dt_val ((de_isi (T := "tuple") c.hK kit_tuple (T.nb_isinstance) (db_var 2 (pv 2)) (pe_bltn (by rfl) (T.nb_tuple) (by decide +kernel) rfl))).lent))
    (ds_one (ds_raise2 c T.x_NoLedger (by decide) (ok_i_NoLedger (P := P) (w := w) (base := base) T) (hr.mono (by decide)) tk (by rw [hC]; rfl) (T.x_NoLedger.F.binds (ps := ["self", "word", "number"]) fun _ _ _ _ _ _ us hl => match us, hl with | [_, _, _], _ => rfl) (dv_cons de_str (dv_cons (de_neg (de_int).lent) dv_nil))))
    ds_nil)
    (ds_cons (ds_newN c 3 dn_dict)
    (ds_cons (ds_for (vs := [4, 5]) c po (di_enuT c.hK (T.nb_enumerate) (de_var 2 (pv 2))) (dg_tup c (dgs_cons (dg_name c.nd 4) (dgs_cons (dg_name c.nd 5) dgs_nil)) (btsC_len (btsC_len btsN_len _) _))
    (ds_cons (ds_if (dt_bool (dw_or (dt_not (dt_val ((de_call c (g_is_stand) (hr.mono (by decide)) T.d_is_stand.g T.d_is_stand.F.kp (T.d_is_stand.F.binds (ps := p_is_stand) fun _ _ _ _ _ _ us hl => match us, hl with | [_, _], _ => rfl) (dv_cons (de_var 0 (pv 0)) (dv_cons (de_var 5 (pv 5)) dv_nil)))).lent)) (dw_or1 (dt_not (dt_val ((de_call c (g_is_above) (hr.mono (by decide)) T.d_is_above.g T.d_is_above.F.kp (T.d_is_above.F.binds (ps := p_is_above) fun _ _ _ _ _ _ us hl => match us, hl with | [_, _], _ => rfl) (dv_cons (de_var 2 (pv 2)) (dv_cons (de_var 4 (pv 4)) dv_nil)))).lent)))))
    (ds_one (ds_raise2 c T.x_NoLedger (by decide) (ok_i_NoLedger (P := P) (w := w) (base := base) T) (hr.mono (by decide)) tk (by rw [hC]; rfl) (T.x_NoLedger.F.binds (ps := ["self", "word", "number"]) fun _ _ _ _ _ _ us hl => match us, hl with | [_, _, _], _ => rfl) (dv_cons de_str (dv_cons (de_var 4 (pv 4)) dv_nil))))
    ds_nil)
    (ds_cons (ds_putN c 3 (pv 3) (de_var 5 (pv 5)) (de_call c (g_deed) (hr.mono (by decide)) T.d_deed.g T.d_deed.F.kp (T.d_deed.F.binds (ps := p_deed) fun _ _ _ _ _ _ us hl => match us, hl with | [_, _, _], _ => rfl) (dv_cons (de_var 0 (pv 0)) (dv_cons (de_var 1 (pv 1)) (dv_cons (de_var 5 (pv 5)) dv_nil)))))
    (ds_one (ds_if (dt_cmp cd_is ((de_dixN c (db_var 3 (pv 3)) (db_var 5 (pv 5)))).lent (de_non).lent)
    (ds_one (ds_raise2 c T.x_NoLedger (by decide) (ok_i_NoLedger (P := P) (w := w) (base := base) T) (hr.mono (by decide)) tk (by rw [hC]; rfl) (T.x_NoLedger.F.binds (ps := ["self", "word", "number"]) fun _ _ _ _ _ _ us hl => match us, hl with | [_, _, _], _ => rfl) (dv_cons de_str (dv_cons (de_var 4 (pv 4)) dv_nil))))
    ds_nil)))))
    (ds_cons (ds_for (vs := [4, 5]) c po (di_enuT c.hK (T.nb_enumerate) (de_var 2 (pv 2))) (dg_tup c (dgs_cons (dg_name c.nd 4) (dgs_cons (dg_name c.nd 5) dgs_nil)) (btsC_len (btsC_len btsN_len _) _))
    (ds_one (ds_if (dt_not (dt_val ((de_callB c (g_leads_on) (hr.mono (by decide)) T.d_leads_on.g T.d_leads_on.F.kp (T.d_leads_on.F.binds (ps := p_leads_on) fun _ _ _ _ _ _ us hl => match us, hl with | [_, _, _, _], _ => rfl) (da_cons (db_var 0 (pv 0)) (da_cons (db_var 5 (pv 5)) (da_cons ((de_dixN c (db_var 3 (pv 3)) (db_var 5 (pv 5)))).lent (da_cons (db_var 3 (pv 3)) da_nil)))))).lent))
    (ds_one (ds_raise2 c T.x_NoLedger (by decide) (ok_i_NoLedger (P := P) (w := w) (base := base) T) (hr.mono (by decide)) tk (by rw [hC]; rfl) (T.x_NoLedger.F.binds (ps := ["self", "word", "number"]) fun _ _ _ _ _ _ us hl => match us, hl with | [_, _, _], _ => rfl) (dv_cons de_str (dv_cons (de_var 4 (pv 4)) dv_nil))))
    ds_nil)))
    (ds_cons (ds_if (dt_not (dt_val ((de_callB c (g_are_started) (hr.mono (by decide)) T.d_are_started.g T.d_are_started.F.kp (T.d_are_started.F.binds (ps := p_are_started) fun _ _ _ _ _ _ us hl => match us, hl with | [_, _], _ => rfl) (da_cons (db_var 0 (pv 0)) (da_cons (db_var 3 (pv 3)) da_nil)))).lent))
    (ds_one (ds_raise2 c T.x_NoLedger (by decide) (ok_i_NoLedger (P := P) (w := w) (base := base) T) (hr.mono (by decide)) tk (by rw [hC]; rfl) (T.x_NoLedger.F.binds (ps := ["self", "word", "number"]) fun _ _ _ _ _ _ us hl => match us, hl with | [_, _, _], _ => rfl) (dv_cons de_str (dv_cons (de_neg (de_int).lent) dv_nil))))
    ds_nil)
    (ds_one (ds_ret (de_bl).lent))))))))
abbrev n__law_draw : List Str := ["_law_deck_here", "_law_many", "_law_found", "_law_cell", "_law_mixed"]
abbrev p__law_draw : List Str := ["_law_deck_here", "_law_many"]
theorem sc__law_draw : FnScope n__law_draw p__law_draw (defScope s__law_draw) := ⟨rfl, rfl, rfl, by decide +kernel, rfl, by decide +kernel, by decide +kernel⟩
def b__law_draw : Sx Dk :=
  (sSeq (sDk 0 3 (eBin opAdd (eDk 0 3) (eC (.int 1))))
    (sSeq (sIf (tOf (eBin (opRel fun i j => decide (j < i)) (eDk 0 2) (eC (.int 0))))
    (sSeq (sSet 2 (eBin opMod (eCall oInt (aCons (eDk 0 2) aNil)) (bVar 1)))
    (sSeq (sDk 0 2 (eBin opDiv (eDk 0 2) (bVar 1)))
    (sRet (bVar 2))))
    sNil)
    (sSeq (sSet 3 (eC (.int 61)))
    (sSeq (sIf (xDkNe 0)
    (sSet 3 (eDkC 0 (eBin opMod (eCall oInt (aCons (eDk 0 1) aNil)) (eDkL 0))))
    sNil)
    (sSeq (sDk 0 1 (eBin opAdd (eDk 0 1) (eC (.int 1))))
    (sSeq (sIf (xAnd (tOf (eBin (opRel fun i j => decide (j ≤ i)) (eCall oAbs (aCons (bVar 3) aNil)) (eBin opPow (eC (.int 10)) (eC (.int 18))))) (tOf (eBin (opRel fun i j => decide (i ≤ j)) (eDk 0 1) (eDkL 0))))
    (sSeq (sDk 0 2 (eBin opDiv (eCall oAbs (aCons (bVar 3) aNil)) (bVar 1)))
    (sRet (eBin opMod (eCall oInt (aCons (eCall oAbs (aCons (bVar 3) aNil)) aNil)) (bVar 1))))
    sNil)
    (sSeq (sSet 4 (eBin opMod (eBin opPow (eCall oInt (aCons (eBin opAdd (eBin opMod (eCall oInt (aCons (bVar 3) aNil)) (eC (.int 2147483629))) (eBin opMul (eC (.int 49979687)) (eDk 0 3))) aNil)) (eC (.int 5))) (eC (.int 2147483647))))
    (sSeq (sSet 4 (eBin opMod (eBin opPow (eCall oInt (aCons (eBin opAdd (eBin opMul (bVar 4) (eBin opAdd (eBin opMul (eC (.int 2)) (eDk 0 3)) (eC (.int 3)))) (eC (.int 8887))) aNil)) (eC (.int 3))) (eC (.int 2147483587))))
    (sRet (eBin opMod (eBin opDiv (bVar 4) (eC (.int 64))) (bVar 1)))))))))))
def m__law_draw : List Val → Dk → Out Dk Val := runF 3 b__law_draw
theorem ok__law_draw (hP : B.P = P) (hK : B.K = K) (hw : B.w = w) (T : Tx K mg) (hC : B.cls = clsT T) : FnG P w K mg base CX0 1 T.d__law_draw.f T.d__law_draw.fd p__law_draw (spP B 2 m__law_draw) := by
  exact fg_pure hP hK hw T.d__law_draw.F sc__law_draw b__law_draw rfl (fun cdv A outer s H E c hr =>
    (ds_cons (ds_dk 0 3 (pv 0) (de_add c.hK ((de_dk 0 3 (pv 0))).lent (de_int).lent))
    (ds_cons (ds_if (dt_cmp cd_gt ((de_dk 0 2 (pv 0))).lent (de_int).lent)
    (ds_cons (ds_set c 2 (de_mod ((de_typ (op := oInt) call_int1 cl_int (by rfl) (T.nb_int) (by decide +kernel) (da_cons ((de_dk 0 2 (pv 0))).lent da_nil))).lent (db_var 1 (pv 1))))
    (ds_cons (ds_dk 0 2 (pv 0) (de_div ((de_dk 0 2 (pv 0))).lent (db_var 1 (pv 1))))
    (ds_one (ds_ret (db_var 2 (pv 2))))))
    ds_nil)
    (ds_cons (ds_set c 3 de_int)
    (ds_cons (ds_if (dt_dkne c 0 (pv 0))
    (ds_one (ds_set c 3 (de_dkc 0 (pv 0) ((de_mod ((de_typ (op := oInt) call_int1 cl_int (by rfl) (T.nb_int) (by decide +kernel) (da_cons ((de_dk 0 1 (pv 0))).lent da_nil))).lent ((de_dkl 0 (pv 0) (T.nb_len))).lent)).lent)))
    ds_nil)
    (ds_cons (ds_dk 0 1 (pv 0) (de_add c.hK ((de_dk 0 1 (pv 0))).lent (de_int).lent))
    (ds_cons (ds_if (dt_bool (dw_and (dt_cmp cd_ge ((de_fun (op := oAbs) call_abs cl_abs (by rfl) (T.nb_abs) (by decide +kernel) (da_cons (db_var 3 (pv 3)) da_nil))).lent ((de_pow (de_int).lent (de_int).lent)).lent) (dw_and1 (dt_cmp cd_le ((de_dk 0 1 (pv 0))).lent ((de_dkl 0 (pv 0) (T.nb_len))).lent))))
    (ds_cons (ds_dk 0 2 (pv 0) (de_div ((de_fun (op := oAbs) call_abs cl_abs (by rfl) (T.nb_abs) (by decide +kernel) (da_cons (db_var 3 (pv 3)) da_nil))).lent (db_var 1 (pv 1))))
    (ds_one (ds_ret ((de_mod ((de_typ (op := oInt) call_int1 cl_int (by rfl) (T.nb_int) (by decide +kernel) (da_cons ((de_fun (op := oAbs) call_abs cl_abs (by rfl) (T.nb_abs) (by decide +kernel) (da_cons (db_var 3 (pv 3)) da_nil))).lent da_nil))).lent (db_var 1 (pv 1)))).lent)))
    ds_nil)
    (ds_cons (ds_set c 4 (de_mod ((de_pow ((de_typ (op := oInt) call_int1 cl_int (by rfl) (T.nb_int) (by decide +kernel) (da_cons ((de_add c.hK ((de_mod ((de_typ (op := oInt) call_int1 cl_int (by rfl) (T.nb_int) (by decide +kernel) (da_cons (db_var 3 (pv 3)) da_nil))).lent (de_int).lent)).lent ((de_mul c.hK (de_int).lent ((de_dk 0 3 (pv 0))).lent)).lent)).lent da_nil))).lent (de_int).lent)).lent (de_int).lent))
    (ds_cons (ds_set c 4 (de_mod ((de_pow ((de_typ (op := oInt) call_int1 cl_int (by rfl) (T.nb_int) (by decide +kernel) (da_cons ((de_add c.hK ((de_mul c.hK (db_var 4 (pv 4)) ((de_add c.hK ((de_mul c.hK (de_int).lent ((de_dk 0 3 (pv 0))).lent)).lent (de_int).lent)).lent)).lent (de_int).lent)).lent da_nil))).lent (de_int).lent)).lent (de_int).lent))
    (ds_one (ds_ret ((de_mod ((de_div (db_var 4 (pv 4)) (de_int).lent)).lent (db_var 1 (pv 1)))).lent)))))))))))
abbrev n__law_one : List Str := ["_law_deck_here", "_law_items"]
abbrev p__law_one : List Str := ["_law_deck_here", "_law_items"]
theorem sc__law_one : FnScope n__law_one p__law_one (defScope s__law_one) := ⟨rfl, rfl, rfl, by decide +kernel, rfl, by decide +kernel, by decide +kernel⟩
def b__law_one : Sx Dk :=
  (sRet (eBin opIx (bVar 1) (eFn 2 m__law_draw (aCons (eVar 0) (aCons (eCall oLen (aCons (bVar 1) aNil)) aNil)))))
def m__law_one : List Val → Dk → Out Dk Val := runF 0 b__law_one
theorem ok__law_one (hP : B.P = P) (hK : B.K = K) (hw : B.w = w) (T : Tx K mg) (hC : B.cls = clsT T) : FnG P w K mg base CX0 2 T.d__law_one.f T.d__law_one.fd p__law_one (spP B 2 m__law_one) := by
  have g__law_draw := ok__law_draw (P := P) (w := w) (base := base) hP hK hw T hC
  exact fg_pure hP hK hw T.d__law_one.F sc__law_one b__law_one rfl (fun cdv A outer s H E c hr =>
    (ds_one (ds_ret ((de_ix c.hK (db_var 1 (pv 1)) ((de_call c (g__law_draw) (hr.mono (by decide)) T.d__law_draw.g T.d__law_draw.F.kp (T.d__law_draw.F.binds (ps := p__law_draw) fun _ _ _ _ _ _ us hl => match us, hl with | [_, _], _ => rfl) (dv_cons (de_var 0 (pv 0)) (dv_cons (de_fun (op := oLen) call_len (by rw [← c.hK]; exact cl_len) (by rfl) (T.nb_len) boot_len (da_cons (db_var 1 (pv 1)) da_nil)) dv_nil)))).lent)).lent)))
abbrev n__law_count : List Str := ["_law_weights", "_law_room", "_law_sizes", "_law_patience", "_law_look", "_law_found", "_law_place", "_law_k"]
abbrev p__law_count : List Str := ["_law_weights", "_law_room", "_law_sizes", "_law_patience", "_law_look"]
theorem sc__law_count : FnScope n__law_count p__law_count (defScope s__law_count) := ⟨rfl, rfl, rfl, by decide +kernel, rfl, by decide +kernel, by decide +kernel⟩
def b__law_count : Sx Dk :=
  (sSeq (sSet 5 (eBin opAdd (bVar 3) (eC (.int 1))))
    (sSeq (sFor (iSeq (eVar 0)) (btN 6)
    (sSet 5 (eBin opMul (bVar 5) (eBin opAdd (bVar 1) (eC (.int 1))))))
    (sSeq (sFor (iRg1 (aCons (bVar 4) aNil)) (btN 7)
    (sSet 5 (eBin opMul (bVar 5) (eCall oLen (aCons (bVar 2) aNil)))))
    (sRet (bVar 5)))))
def m__law_count : List Val → Dk → Out Dk Val := runF 3 b__law_count
theorem ok__law_count (hP : B.P = P) (hK : B.K = K) (hw : B.w = w) (T : Tx K mg) (hC : B.cls = clsT T) : FnG P w K mg base CX0 1 T.d__law_count.f T.d__law_count.fd p__law_count (spP B 5 m__law_count) := by
  exact fg_pure hP hK hw T.d__law_count.F sc__law_count b__law_count rfl (fun cdv A outer s H E c hr =>
    (ds_cons (ds_set c 5 (de_add c.hK (db_var 3 (pv 3)) (de_int).lent))
    (ds_cons (ds_for (vs := [6]) c PassesOwn.never (di_seq c.hK (de_var 0 (pv 0))) (dg_name c.nd 6)
    (ds_one (ds_set c 5 (de_mul c.hK (db_var 5 (pv 5)) ((de_add c.hK (db_var 1 (pv 1)) (de_int).lent)).lent))))
    (ds_cons (ds_for (vs := [7]) c PassesOwn.never (di_range1 (T.nb_range) (da_cons (db_var 4 (pv 4)) da_nil)) (dg_name c.nd 7)
    (ds_one (ds_set c 5 (de_mul c.hK (db_var 5 (pv 5)) ((de_fun (op := oLen) call_len (by rw [← c.hK]; exact cl_len) (by rfl) (T.nb_len) boot_len (da_cons (db_var 2 (pv 2)) da_nil))).lent))))
    (ds_one (ds_ret (db_var 5 (pv 5))))))))
abbrev n__law_wheel : List Str := ["_law_deck_here", "_law_most", "_law_room", "_law_sizes", "_law_size", "_law_patience", "_law_look", "_law_wide", "_law_weights", "_law_place", "_law_far", "_law_bounds"]
abbrev p__law_wheel : List Str := ["_law_deck_here", "_law_most"]
theorem sc__law_wheel : FnScope n__law_wheel p__law_wheel (defScope s__law_wheel) := ⟨rfl, rfl, rfl, by decide +kernel, rfl, by decide +kernel, by decide +kernel⟩
def b__law_wheel : Sx Dk :=
  (sSeq (sSet 2 (eFn 2 m__law_one (aCons (eVar 0) (aCons (eL (lSeq (aCons (eC (.int 1)) (aCons (eC (.int 2)) (aCons (eC (.int 2)) (aCons (eC (.int 2)) (aCons (eC (.int 3)) (aCons (eC (.int 4)) aNil)))))))) aNil))))
    (sSeq (sSet 3 (eCall oTuple (aCons (eL (lLc (iRg2 (aCons (eC (.int 1)) (aCons (eBin opAdd (bVar 2) (eC (.int 1))) aNil))) (btN 4) (tOf (eBin (opRel fun i j => decide (j < i)) (eFn 2 m__law_draw (aCons (eVar 0) (aCons (eC (.int 3)) aNil))) (eC (.int 0)))) (eVar 4) [4])) aNil)))
    (sSeq (sSet 3 (eIf (tOf (eBin opNe (bVar 3) (eSeq .tuple aNil))) (eVar 3) (eSeq .tuple (aCons (eBin opAdd (eC (.int 1)) (eFn 2 m__law_draw (aCons (eVar 0) (aCons (eVar 2) aNil)))) aNil))))
    (sSeq (sPar [5, 6] (mVal (eFn 2 m__law_one (aCons (eVar 0) (aCons (eL (lSeq (aCons (eC (.int 1)) (aCons (eC (.int 1)) (aCons (eC (.int 2)) (aCons (eC (.int 2)) (aCons (eC (.int 3)) (aCons (eBin opAdd (eC (.int 1)) (eFn 2 m__law_draw (aCons (eVar 0) (aCons (eC (.int 6)) aNil)))) aNil)))))))) aNil))) (mVal (eFn 2 m__law_one (aCons (eVar 0) (aCons (eL (lSeq (aCons (eC (.int 1)) (aCons (eC (.int 1)) (aCons (eC (.int 1)) (aCons (eC (.int 2)) (aCons (eC (.int 3)) aNil))))))) aNil))) mNil)))
    (sSeq (sSet 7 (eFn 2 m__law_one (aCons (eVar 0) (aCons (eL (lSeq (aCons (eC (.int 1)) (aCons (eC (.int 1)) (aCons (eC (.int 2)) (aCons (eC (.int 9)) aNil)))))) aNil))))
    (sSeq (sSet 8 (eL (lLc (iRg1 (aCons (eFn 2 m__law_one (aCons (eVar 0) (aCons (eL (lSeq (aCons (eC (.int 2)) (aCons (eC (.int 3)) (aCons (eC (.int 3)) (aCons (eC (.int 4)) (aCons (eC (.int 5)) (aCons (eC (.int 6)) aNil)))))))) aNil))) aNil)) (btN 9) xYes (eBin opSub (eFn 2 m__law_draw (aCons (eVar 0) (aCons (eBin opAdd (eBin opMul (eC (.int 2)) (bVar 7)) (eC (.int 1))) aNil))) (bVar 7)) [9])))
    (sSeq (sWh FU (xAnd (tOf (eBin (opRel fun i j => decide (j < i)) (eCall oLen (aCons (bVar 8) aNil)) (eC (.int 2)))) (tOf (eBin (opRel fun i j => decide (j < i)) (eFn 5 m__law_count (aCons (eVar 8) (aCons (eVar 2) (aCons (eVar 3) (aCons (eVar 5) (aCons (eVar 6) aNil)))))) (bVar 1))))
    (sSet 8 (eSl (bVar 8) oNone (oSome (eUn opNeg (eC (.int 1)))))))
    (sSeq (sIf (tOf (eBin (opRel fun i j => decide (j < i)) (eFn 5 m__law_count (aCons (eVar 8) (aCons (eVar 2) (aCons (eVar 3) (aCons (eVar 5) (aCons (eVar 6) aNil)))))) (bVar 1)))
    (sPar [5, 6] (mVal (eC (.int 1)) (mVal (eC (.int 1)) mNil)))
    sNil)
    (sSeq (sSet 10 (eFn 2 m__law_one (aCons (eVar 0) (aCons (eL (lSeq (aCons (eC (.int 2)) (aCons (eC (.int 4)) (aCons (eC (.int 8)) (aCons (eC (.int 30)) aNil)))))) aNil))))
    (sSeq (sSet 11 (eSeq .tuple (aCons (eBin opSub (eC (.int 0)) (eFn 2 m__law_draw (aCons (eVar 0) (aCons (eVar 10) aNil)))) (aCons (eFn 2 m__law_draw (aCons (eVar 0) (aCons (eVar 10) aNil))) aNil))))
    (sRet (eSeq .tuple (aCons (eCall oTuple (aCons (bVar 8) aNil)) (aCons (eVar 2) (aCons (eVar 3) (aCons (eVar 11) (aCons (eVar 5) (aCons (eVar 6) aNil))))))))))))))))))
def m__law_wheel : List Val → Dk → Out Dk Val := runF 10 b__law_wheel
theorem ok__law_wheel (hP : B.P = P) (hK : B.K = K) (hw : B.w = w) (T : Tx K mg) (hC : B.cls = clsT T) : FnG P w K mg base CX0 3 T.d__law_wheel.f T.d__law_wheel.fd p__law_wheel (spP B 2 m__law_wheel) := by
  have g__law_count := ok__law_count (P := P) (w := w) (base := base) hP hK hw T hC
  have g__law_draw := ok__law_draw (P := P) (w := w) (base := base) hP hK hw T hC
  have g__law_one := ok__law_one (P := P) (w := w) (base := base) hP hK hw T hC
  exact fg_pure hP hK hw T.d__law_wheel.F sc__law_wheel b__law_wheel rfl (fun cdv A outer s H E c hr =>
    (ds_cons (ds_set c 2 (de_call c (g__law_one) (hr.mono (by decide)) T.d__law_one.g T.d__law_one.F.kp (T.d__law_one.F.binds (ps := p__law_one) fun _ _ _ _ _ _ us hl => match us, hl with | [_, _], _ => rfl) (dv_cons (de_var 0 (pv 0)) (dv_cons ((df_lst (dv_cons de_int (dv_cons de_int (dv_cons de_int (dv_cons de_int (dv_cons de_int (dv_cons de_int dv_nil)))))))).de dv_nil))))
    (ds_cons (ds_set c 3 (de_typ (op := oTuple) call_tuple_of (by rw [← c.hK]; exact cl_tuple) (by rfl) (T.nb_tuple) boot_tuple (da_cons (((df_lc c (own := [("_law_size", 4)]) (di_range2 (T.nb_range) (da_cons (de_int).lent (da_cons ((de_add c.hK (db_var 2 (pv 2)) (de_int).lent)).lent da_nil))) (blkOk_by (own := [("_law_size", 4)]) (N := n__law_wheel) (sc := defScope s__law_wheel) (by decide +kernel)) (fun s H C cl fp => (dg_name (c.blk s H _ (compEnvC _ cl C _) fp).nd 4)) (fun s H C cl fp => (dts_one (dt_cmp cd_gt ((de_call (c.blk s H _ (compEnvC _ cl C _) fp) (g__law_draw) (hr.mono (by decide)) T.d__law_draw.g T.d__law_draw.F.kp (T.d__law_draw.F.binds (ps := p__law_draw) fun _ _ _ _ _ _ us hl => match us, hl with | [_, _], _ => rfl) (dv_cons (de_var 0 (pv 0)) (dv_cons de_int dv_nil)))).lent (de_int).lent))) (fun s H C cl fp => (de_var 4 (pv 4))))).de).lent da_nil)))
    (ds_cons (ds_set c 3 (de_if (dt_cmp (cd_ne c.hK c.u64) (db_var 3 (pv 3)) ((de_tup dv_nil)).lent) (de_var 3 (pv 3)) (de_tup (dv_cons (de_add c.hK (de_int).lent ((de_call c (g__law_draw) (hr.mono (by decide)) T.d__law_draw.g T.d__law_draw.F.kp (T.d__law_draw.F.binds (ps := p__law_draw) fun _ _ _ _ _ _ us hl => match us, hl with | [_, _], _ => rfl) (dv_cons (de_var 0 (pv 0)) (dv_cons (de_var 2 (pv 2)) dv_nil)))).lent) dv_nil))))
    (ds_cons (ds_par2 c (dm_val (de_call c (g__law_one) (hr.mono (by decide)) T.d__law_one.g T.d__law_one.F.kp (T.d__law_one.F.binds (ps := p__law_one) fun _ _ _ _ _ _ us hl => match us, hl with | [_, _], _ => rfl) (dv_cons (de_var 0 (pv 0)) (dv_cons ((df_lst (dv_cons de_int (dv_cons de_int (dv_cons de_int (dv_cons de_int (dv_cons de_int (dv_cons (de_add c.hK (de_int).lent ((de_call c (g__law_draw) (hr.mono (by decide)) T.d__law_draw.g T.d__law_draw.F.kp (T.d__law_draw.F.binds (ps := p__law_draw) fun _ _ _ _ _ _ us hl => match us, hl with | [_, _], _ => rfl) (dv_cons (de_var 0 (pv 0)) (dv_cons de_int dv_nil)))).lent) dv_nil)))))))).de dv_nil))) (dm_val (de_call c (g__law_one) (hr.mono (by decide)) T.d__law_one.g T.d__law_one.F.kp (T.d__law_one.F.binds (ps := p__law_one) fun _ _ _ _ _ _ us hl => match us, hl with | [_, _], _ => rfl) (dv_cons (de_var 0 (pv 0)) (dv_cons ((df_lst (dv_cons de_int (dv_cons de_int (dv_cons de_int (dv_cons de_int (dv_cons de_int dv_nil))))))).de dv_nil))) dm_nil)))
    (ds_cons (ds_set c 7 (de_call c (g__law_one) (hr.mono (by decide)) T.d__law_one.g T.d__law_one.F.kp (T.d__law_one.F.binds (ps := p__law_one) fun _ _ _ _ _ _ us hl => match us, hl with | [_, _], _ => rfl) (dv_cons (de_var 0 (pv 0)) (dv_cons ((df_lst (dv_cons de_int (dv_cons de_int (dv_cons de_int (dv_cons de_int dv_nil)))))).de dv_nil))))
    (ds_cons (ds_setLc c 8 (own := [("_law_place", 9)]) (di_range1 (T.nb_range) (da_cons ((de_call c (g__law_one) (hr.mono (by decide)) T.d__law_one.g T.d__law_one.F.kp (T.d__law_one.F.binds (ps := p__law_one) fun _ _ _ _ _ _ us hl => match us, hl with | [_, _], _ => rfl) (dv_cons (de_var 0 (pv 0)) (dv_cons ((df_lst (dv_cons de_int (dv_cons de_int (dv_cons de_int (dv_cons de_int (dv_cons de_int (dv_cons de_int dv_nil)))))))).de dv_nil)))).lent da_nil)) (blkOk_by (own := [("_law_place", 9)]) (N := n__law_wheel) (sc := defScope s__law_wheel) (by decide +kernel)) (fun s H C cl fp => (dg_name (c.blk s H _ (compEnvC _ cl C _) fp).nd 9)) (fun s H C cl fp => dts_nil) (fun s H C cl fp => (de_sub ((de_call (c.blk s H _ (compEnvC _ cl C _) fp) (g__law_draw) (hr.mono (by decide)) T.d__law_draw.g T.d__law_draw.F.kp (T.d__law_draw.F.binds (ps := p__law_draw) fun _ _ _ _ _ _ us hl => match us, hl with | [_, _], _ => rfl) (dv_cons (de_var 0 (pv 0)) (dv_cons (de_add (c.blk s H _ (compEnvC _ cl C _) fp).hK ((de_mul (c.blk s H _ (compEnvC _ cl C _) fp).hK (de_int).lent (db_var 7 (pv 7)))).lent (de_int).lent) dv_nil)))).lent (db_var 7 (pv 7)))))
    (ds_cons (ds_while FU PassesOwn.never (dt_bool (dw_and (dt_cmp cd_gt ((de_fun (op := oLen) call_len (by rw [← c.hK]; exact cl_len) (by rfl) (T.nb_len) boot_len (da_cons (db_var 8 (pv 8)) da_nil))).lent (de_int).lent) (dw_and1 (dt_cmp cd_gt ((de_call c (g__law_count) (hr.mono (by decide)) T.d__law_count.g T.d__law_count.F.kp (T.d__law_count.F.binds (ps := p__law_count) fun _ _ _ _ _ _ us hl => match us, hl with | [_, _, _, _, _], _ => rfl) (dv_cons (de_var 8 (pv 8)) (dv_cons (de_var 2 (pv 2)) (dv_cons (de_var 3 (pv 3)) (dv_cons (de_var 5 (pv 5)) (dv_cons (de_var 6 (pv 6)) dv_nil))))))).lent (db_var 1 (pv 1))))))
    (ds_one (ds_set c 8 (de_sl c.hK (db_var 8 (pv 8)) do_none (do_some ((de_neg (de_int).lent)).lent)))))
    (ds_cons (ds_if (dt_cmp cd_gt ((de_call c (g__law_count) (hr.mono (by decide)) T.d__law_count.g T.d__law_count.F.kp (T.d__law_count.F.binds (ps := p__law_count) fun _ _ _ _ _ _ us hl => match us, hl with | [_, _, _, _, _], _ => rfl) (dv_cons (de_var 8 (pv 8)) (dv_cons (de_var 2 (pv 2)) (dv_cons (de_var 3 (pv 3)) (dv_cons (de_var 5 (pv 5)) (dv_cons (de_var 6 (pv 6)) dv_nil))))))).lent (db_var 1 (pv 1)))
    (ds_one (ds_parT c [5, 6] (dm_val de_int (dm_val de_int dm_nil)) (pgs_cons (pg_name (i := 5) c.nd rfl (by first | exact .inl rfl | exact .inr rfl)) (pgs_cons (pg_name (i := 6) c.nd rfl (by first | exact .inl rfl | exact .inr rfl)) pgs_nil))))
    ds_nil)
    (ds_cons (ds_set c 10 (de_call c (g__law_one) (hr.mono (by decide)) T.d__law_one.g T.d__law_one.F.kp (T.d__law_one.F.binds (ps := p__law_one) fun _ _ _ _ _ _ us hl => match us, hl with | [_, _], _ => rfl) (dv_cons (de_var 0 (pv 0)) (dv_cons ((df_lst (dv_cons de_int (dv_cons de_int (dv_cons de_int (dv_cons de_int dv_nil)))))).de dv_nil))))
    (ds_cons (ds_set c 11 (de_tup (dv_cons (de_sub (de_int).lent ((de_call c (g__law_draw) (hr.mono (by decide)) T.d__law_draw.g T.d__law_draw.F.kp (T.d__law_draw.F.binds (ps := p__law_draw) fun _ _ _ _ _ _ us hl => match us, hl with | [_, _], _ => rfl) (dv_cons (de_var 0 (pv 0)) (dv_cons (de_var 10 (pv 10)) dv_nil)))).lent) (dv_cons (de_call c (g__law_draw) (hr.mono (by decide)) T.d__law_draw.g T.d__law_draw.F.kp (T.d__law_draw.F.binds (ps := p__law_draw) fun _ _ _ _ _ _ us hl => match us, hl with | [_, _], _ => rfl) (dv_cons (de_var 0 (pv 0)) (dv_cons (de_var 10 (pv 10)) dv_nil))) dv_nil))))
    (ds_one (ds_ret ((de_tup (dv_cons (de_typ (op := oTuple) call_tuple_of (by rw [← c.hK]; exact cl_tuple) (by rfl) (T.nb_tuple) boot_tuple (da_cons (db_var 8 (pv 8)) da_nil)) (dv_cons (de_var 2 (pv 2)) (dv_cons (de_var 3 (pv 3)) (dv_cons (de_var 11 (pv 11)) (dv_cons (de_var 5 (pv 5)) (dv_cons (de_var 6 (pv 6)) dv_nil)))))))).lent)))))))))))))
abbrev n__law_lean : List Str := ["_law_wheel_here", "_law_loads", "_law_weight", "_law_load"]
abbrev p__law_lean : List Str := ["_law_wheel_here", "_law_loads"]
theorem sc__law_lean : FnScope n__law_lean p__law_lean (defScope s__law_lean) := ⟨rfl, rfl, rfl, by decide +kernel, rfl, by decide +kernel, by decide +kernel⟩
def b__law_lean : Sx Dk :=
  (sRet (eCall oSum (aCons (eL (lLc (iZip (aCons (eBin opIx (bVar 0) (eC (.int 0))) (aCons (bVar 1) aNil))) (btT (btsC (btN 2) (btsC (btN 3) btsN))) xYes (eBin opMul (bVar 2) (bVar 3)) [2, 3])) aNil)))
def m__law_lean : List Val → Dk → Out Dk Val := runF 2 b__law_lean
theorem ok__law_lean (hP : B.P = P) (hK : B.K = K) (hw : B.w = w) (T : Tx K mg) (hC : B.cls = clsT T) : FnG P w K mg base CX0 1 T.d__law_lean.f T.d__law_lean.fd p__law_lean (spP B 2 m__law_lean) := by
  exact fg_pure hP hK hw T.d__law_lean.F sc__law_lean b__law_lean rfl (fun cdv A outer s H E c hr =>
    (ds_one (ds_ret ((de_fun (op := oSum) (cr_sum c.calm) (by rw [← c.hK]; exact cl_sum) (by rfl) (T.nb_sum) (by decide +kernel) (da_cons (((df_lc c (own := [("_law_weight", 2), ("_law_load", 3)]) (di_zip c.hK (T.nb_zip) (da_cons ((de_ix c.hK (db_var 0 (pv 0)) (de_int).lent)).lent (da_cons (db_var 1 (pv 1)) da_nil))) (blkOk_by (own := [("_law_weight", 2), ("_law_load", 3)]) (N := n__law_lean) (sc := defScope s__law_lean) (by decide +kernel)) (fun s H C cl fp => (dg_tup (c.blk s H _ (compEnvC _ cl C _) fp) (dgs_cons (dg_name (c.blk s H _ (compEnvC _ cl C _) fp).nd 2) (dgs_cons (dg_name (c.blk s H _ (compEnvC _ cl C _) fp).nd 3) dgs_nil)) (btsC_len (btsC_len btsN_len _) _))) (fun s H C cl fp => dts_nil) (fun s H C cl fp => (de_mul (c.blk s H _ (compEnvC _ cl C _) fp).hK (db_var 2 (pv 2)) (db_var 3 (pv 3)))))).de).lent da_nil))).lent)))
abbrev n__law_fits : List Str := ["_law_wheel_here", "_law_loads", "_law_load"]
abbrev p__law_fits : List Str := ["_law_wheel_here", "_law_loads"]
theorem sc__law_fits : FnScope n__law_fits p__law_fits (defScope s__law_fits) := ⟨rfl, rfl, rfl, by decide +kernel, rfl, by decide +kernel, by decide +kernel⟩
def b__law_fits : Sx Dk :=
  (sSeq (sIf (tOf (eBin (opRel fun i j => decide (j < i)) (eCall oMax (aCons (eL (lLc (iSeq (bVar 1)) (btN 2) xYes (eCall oInt (aCons (bVar 2) aNil)) [2])) aNil)) (eBin opIx (bVar 0) (eC (.int 1)))))
    (sRet (eC (.bool false)))
    sNil)
    (sRet (eChain (opRel fun i j => decide (i ≤ j)) (opRel fun i j => decide (i ≤ j)) (eBin opIx (eBin opIx (bVar 0) (eC (.int 3))) (eC (.int 0))) (eFn 2 m__law_lean (aCons (eVar 0) (aCons (eVar 1) aNil))) (eBin opIx (eBin opIx (bVar 0) (eC (.int 3))) (eC (.int 1))))))
def m__law_fits : List Val → Dk → Out Dk Val := runF 1 b__law_fits
theorem ok__law_fits (hP : B.P = P) (hK : B.K = K) (hw : B.w = w) (T : Tx K mg) (hC : B.cls = clsT T) : FnG P w K mg base CX0 2 T.d__law_fits.f T.d__law_fits.fd p__law_fits (spP B 2 m__law_fits) := by
  have g__law_lean := ok__law_lean (P := P) (w := w) (base := base) hP hK hw T hC
  exact fg_pure hP hK hw T.d__law_fits.F sc__law_fits b__law_fits rfl (fun cdv A outer s H E c hr =>
    (ds_cons (ds_if (dt_cmp cd_gt ((de_fun (op := oMax) ((cr_max c.calm).or (call_max2 c.calm)) (by rw [← c.hK]; exact cl_max) (by rfl) (T.nb_max) (by decide +kernel) (da_cons (((df_lc c (own := [("_law_load", 2)]) (di_seqB c.hK (db_var 1 (pv 1))) (blkOk_by (own := [("_law_load", 2)]) (N := n__law_fits) (sc := defScope s__law_fits) (by decide +kernel)) (fun s H C cl fp => (dg_name (c.blk s H _ (compEnvC _ cl C _) fp).nd 2)) (fun s H C cl fp => dts_nil) (fun s H C cl fp => (de_typ (op := oInt) call_int1 cl_int (by rfl) (T.nb_int) (by decide +kernel) (da_cons (db_var 2 (pv 2)) da_nil))))).de).lent da_nil))).lent ((de_ix c.hK (db_var 0 (pv 0)) (de_int).lent)).lent)
    (ds_one (ds_ret (de_bl).lent))
    ds_nil)
    (ds_one (ds_ret ((de_chain cd_le cd_le ((de_ix c.hK ((de_ix c.hK (db_var 0 (pv 0)) (de_int).lent)).lent (de_int).lent)).lent ((de_call c (g__law_lean) (hr.mono (by decide)) T.d__law_lean.g T.d__law_lean.F.kp (T.d__law_lean.F.binds (ps := p__law_lean) fun _ _ _ _ _ _ us hl => match us, hl with | [_, _], _ => rfl) (dv_cons (de_var 0 (pv 0)) (dv_cons (de_var 1 (pv 1)) dv_nil)))).lent ((de_ix c.hK ((de_ix c.hK (db_var 0 (pv 0)) (de_int).lent)).lent (de_int).lent)).lent)).lent))))
abbrev n__law_rows : List Str := ["_law_items", "_law_many", "_law_found", "_law_k", "_law_longer", "_law_row", "_law_item"]
abbrev p__law_rows : List Str := ["_law_items", "_law_many"]
theorem sc__law_rows : FnScope n__law_rows p__law_rows (defScope s__law_rows) := ⟨rfl, rfl, rfl, by decide +kernel, rfl, by decide +kernel, by decide +kernel⟩
def b__law_rows : Sx Dk :=
  (sSeq (sNew 2 (lSeq (aCons (eSeq .tuple aNil) aNil)))
    (sSeq (sFor (iRg1 (aCons (bVar 1) aNil)) (btN 3)
    (sSeq (sNew 4 (lSeq aNil))
    (sSeq (sFrz 2 (sFor (iSeq (eVar 2)) (btN 5)
    (sExt 4 (eL (lLc (iSeq (bVar 0)) (btN 6) xYes (eBin opAdd (bVar 5) (eSeq .tuple (aCons (eVar 6) aNil))) [6])))))
    (sMove 2 4))))
    (sRet (bVar 2))))
def m__law_rows : List Val → Dk → Out Dk Val := runF 5 b__law_rows
theorem ok__law_rows (hP : B.P = P) (hK : B.K = K) (hw : B.w = w) (T : Tx K mg) (hC : B.cls = clsT T) : FnG P w K mg base CX0 1 T.d__law_rows.f T.d__law_rows.fd p__law_rows (spP B 2 m__law_rows) := by
  exact fg_pure hP hK hw T.d__law_rows.F sc__law_rows b__law_rows rfl (fun cdv A outer s H E c hr =>
    (ds_cons (ds_new c 2 (df_lst (dv_cons (de_tup dv_nil) dv_nil)))
    (ds_cons (ds_for (vs := [3]) c PassesOwn.never (di_range1 (T.nb_range) (da_cons (db_var 1 (pv 1)) da_nil)) (dg_name c.nd 3)
    (ds_cons (ds_new c 4 (df_lst dv_nil))
    (ds_cons (ds_frz 2 (ds_for (vs := [5]) c PassesOwn.never (di_seq c.hK (de_var 2 (pv 2))) (dg_name c.nd 5)
    (ds_one (ds_ext c 4 (pe_bm PySem.F.plainAttrs_list PySem.F.slot_list_extend PySem.F.type_list_extend mt_extend (pv 4) (pa_cons (((df_lc c (own := [("_law_item", 6)]) (di_seqB c.hK (db_var 0 (pv 0))) (blkOk_by (own := [("_law_item", 6)]) (N := n__law_rows) (sc := defScope s__law_rows) (by decide +kernel)) (fun s H C cl fp => (dg_name (c.blk s H _ (compEnvC _ cl C _) fp).nd 6)) (fun s H C cl fp => dts_nil) (fun s H C cl fp => (de_add (c.blk s H _ (compEnvC _ cl C _) fp).hK (db_var 5 (pv 5)) ((de_tup (dv_cons (de_var 6 (pv 6)) dv_nil))).lent)))).de).lent pa_nil))))))
    (ds_one (ds_move c 2 4)))))
    (ds_one (ds_ret (db_var 2 (pv 2)))))))
abbrev n__law_starts : List Str := ["_law_wheel_here", "_law_line"]
abbrev p__law_starts : List Str := ["_law_wheel_here"]
theorem sc__law_starts : FnScope n__law_starts p__law_starts (defScope s__law_starts) := ⟨rfl, rfl, rfl, by decide +kernel, rfl, by decide +kernel, by decide +kernel⟩
def b__law_starts : Sx Dk :=
  (sRet (eL (lLc (iSeq (eFn 2 m__law_rows (aCons (eBin opIx (bVar 0) (eC (.int 2))) (aCons (eBin opIx (bVar 0) (eC (.int 5))) aNil)))) (btN 1) xYes (eSeq .tuple (aCons (eBin opMul (eSeq .tuple (aCons (eC (.int 0)) aNil)) (eCall oLen (aCons (eBin opIx (bVar 0) (eC (.int 0))) aNil))) (aCons (eVar 1) (aCons (eC (.int 0)) aNil)))) [1])))
def m__law_starts : List Val → Dk → Out Dk Val := runF 1 b__law_starts
theorem ok__law_starts (hP : B.P = P) (hK : B.K = K) (hw : B.w = w) (T : Tx K mg) (hC : B.cls = clsT T) : FnG P w K mg base CX0 2 T.d__law_starts.f T.d__law_starts.fd p__law_starts (spP B 1 m__law_starts) := by
  have g__law_rows := ok__law_rows (P := P) (w := w) (base := base) hP hK hw T hC
  exact fg_pure hP hK hw T.d__law_starts.F sc__law_starts b__law_starts rfl (fun cdv A outer s H E c hr =>
    (ds_one (ds_ret (((df_lc c (own := [("_law_line", 1)]) (di_seqB c.hK ((de_call c (g__law_rows) (hr.mono (by decide)) T.d__law_rows.g T.d__law_rows.F.kp (T.d__law_rows.F.binds (ps := p__law_rows) fun _ _ _ _ _ _ us hl => match us, hl with | [_, _], _ => rfl) (dv_cons (de_ix c.hK (db_var 0 (pv 0)) (de_int).lent) (dv_cons (de_ix c.hK (db_var 0 (pv 0)) (de_int).lent) dv_nil)))).lent) (blkOk_by (own := [("_law_line", 1)]) (N := n__law_starts) (sc := defScope s__law_starts) (by decide +kernel)) (fun s H C cl fp => (dg_name (c.blk s H _ (compEnvC _ cl C _) fp).nd 1)) (fun s H C cl fp => dts_nil) (fun s H C cl fp => (de_tup (dv_cons (de_mul (c.blk s H _ (compEnvC _ cl C _) fp).hK ((de_tup (dv_cons de_int dv_nil))).lent ((de_fun (op := oLen) call_len (by rw [← (c.blk s H _ (compEnvC _ cl C _) fp).hK]; exact cl_len) (by rfl) (T.nb_len) boot_len (da_cons ((de_ix (c.blk s H _ (compEnvC _ cl C _) fp).hK (db_var 0 (pv 0)) (de_int).lent)).lent da_nil))).lent) (dv_cons (de_var 1 (pv 1)) (dv_cons de_int dv_nil))))))).de).lent)))
def bl__law_starts : Lx Dk :=
  (lLc (iSeq (eFn 2 m__law_rows (aCons (eBin opIx (bVar 0) (eC (.int 2))) (aCons (eBin opIx (bVar 0) (eC (.int 5))) aNil)))) (btN 1) xYes (eSeq .tuple (aCons (eBin opMul (eSeq .tuple (aCons (eC (.int 0)) aNil)) (eCall oLen (aCons (eBin opIx (bVar 0) (eC (.int 0))) aNil))) (aCons (eVar 1) (aCons (eC (.int 0)) aNil)))) [1])
def l__law_starts : List Val → Dk → Out Dk (List PyData) := runN 1 bl__law_starts
theorem okl__law_starts (hP : B.P = P) (hK : B.K = K) (hw : B.w = w) (T : Tx K mg) (hC : B.cls = clsT T) : FnG P w K mg base CX0 2 T.d__law_starts.f T.d__law_starts.fd p__law_starts (spF B 1 l__law_starts) := by
  have g__law_rows := ok__law_rows (P := P) (w := w) (base := base) hP hK hw T hC
  exact fg_new hP hK hw T.d__law_starts.F sc__law_starts bl__law_starts rfl rfl (fun cdv A outer s H E c hr =>
    (df_lc c (own := [("_law_line", 1)]) (di_seqB c.hK ((de_call c (g__law_rows) (hr.mono (by decide)) T.d__law_rows.g T.d__law_rows.F.kp (T.d__law_rows.F.binds (ps := p__law_rows) fun _ _ _ _ _ _ us hl => match us, hl with | [_, _], _ => rfl) (dv_cons (de_ix c.hK (db_var 0 (pv 0)) (de_int).lent) (dv_cons (de_ix c.hK (db_var 0 (pv 0)) (de_int).lent) dv_nil)))).lent) (blkOk_by (own := [("_law_line", 1)]) (N := n__law_starts) (sc := defScope s__law_starts) (by decide +kernel)) (fun s H C cl fp => (dg_name (c.blk s H _ (compEnvC _ cl C _) fp).nd 1)) (fun s H C cl fp => dts_nil) (fun s H C cl fp => (de_tup (dv_cons (de_mul (c.blk s H _ (compEnvC _ cl C _) fp).hK ((de_tup (dv_cons de_int dv_nil))).lent ((de_fun (op := oLen) call_len (by rw [← (c.blk s H _ (compEnvC _ cl C _) fp).hK]; exact cl_len) (by rfl) (T.nb_len) boot_len (da_cons ((de_ix (c.blk s H _ (compEnvC _ cl C _) fp).hK (db_var 0 (pv 0)) (de_int).lent)).lent da_nil))).lent) (dv_cons (de_var 1 (pv 1)) (dv_cons de_int dv_nil)))))))
abbrev n__law_stands : List Str := ["_law_wheel_here", "_law_found", "_law_every", "_law_loads", "_law_line", "_law_waited"]
abbrev p__law_stands : List Str := ["_law_wheel_here"]
theorem sc__law_stands : FnScope n__law_stands p__law_stands (defScope s__law_stands) := ⟨rfl, rfl, rfl, by decide +kernel, rfl, by decide +kernel, by decide +kernel⟩
def b__law_stands : Sx Dk :=
  (sSeq (sPar [1, 2] (mNew (nL (lSeq aNil)) (mVal (eFn 2 m__law_rows (aCons (eBin opIx (bVar 0) (eC (.int 2))) (aCons (eBin opIx (bVar 0) (eC (.int 5))) aNil))) mNil)))
    (sSeq (sFor (iSeq (eFn 2 m__law_rows (aCons (eL (lRg1 (eBin opAdd (eBin opIx (bVar 0) (eC (.int 1))) (eC (.int 1))))) (aCons (eCall oLen (aCons (eBin opIx (bVar 0) (eC (.int 0))) aNil)) aNil)))) (btN 3)
    (sIf (tOf (eFn 2 m__law_fits (aCons (eVar 0) (aCons (eVar 3) aNil))))
    (sFor (iSeq (eVar 2)) (btN 4)
    (sExt 1 (eL (lLc (iRg1 (aCons (eBin opAdd (eBin opIx (bVar 0) (eC (.int 4))) (eC (.int 1))) aNil)) (btN 5) xYes (eSeq .tuple (aCons (eVar 3) (aCons (eVar 4) (aCons (eVar 5) aNil)))) [5]))))
    sNil))
    (sRet (bVar 1))))
def m__law_stands : List Val → Dk → Out Dk Val := runF 5 b__law_stands
theorem ok__law_stands (hP : B.P = P) (hK : B.K = K) (hw : B.w = w) (T : Tx K mg) (hC : B.cls = clsT T) : FnG P w K mg base CX0 3 T.d__law_stands.f T.d__law_stands.fd p__law_stands (spP B 1 m__law_stands) := by
  have g__law_fits := ok__law_fits (P := P) (w := w) (base := base) hP hK hw T hC
  have g__law_rows := ok__law_rows (P := P) (w := w) (base := base) hP hK hw T hC
  exact fg_pure hP hK hw T.d__law_stands.F sc__law_stands b__law_stands rfl (fun cdv A outer s H E c hr =>
    (ds_cons (ds_par2 c (dm_new ((df_lst dv_nil)).dn (dm_val (de_call c (g__law_rows) (hr.mono (by decide)) T.d__law_rows.g T.d__law_rows.F.kp (T.d__law_rows.F.binds (ps := p__law_rows) fun _ _ _ _ _ _ us hl => match us, hl with | [_, _], _ => rfl) (dv_cons (de_ix c.hK (db_var 0 (pv 0)) (de_int).lent) (dv_cons (de_ix c.hK (db_var 0 (pv 0)) (de_int).lent) dv_nil))) dm_nil)))
    (ds_cons (ds_for (vs := [3]) c PassesOwn.never (di_seq c.hK (de_call c (g__law_rows) (hr.mono (by decide)) T.d__law_rows.g T.d__law_rows.F.kp (T.d__law_rows.F.binds (ps := p__law_rows) fun _ _ _ _ _ _ us hl => match us, hl with | [_, _], _ => rfl) (dv_cons ((df_listRg1 c (T.nb_list) (T.nb_range) ((de_add c.hK ((de_ix c.hK (db_var 0 (pv 0)) (de_int).lent)).lent (de_int).lent)).lent)).de (dv_cons (de_fun (op := oLen) call_len (by rw [← c.hK]; exact cl_len) (by rfl) (T.nb_len) boot_len (da_cons ((de_ix c.hK (db_var 0 (pv 0)) (de_int).lent)).lent da_nil)) dv_nil)))) (dg_name c.nd 3)
    (ds_one (ds_if (dt_val ((de_call c (g__law_fits) (hr.mono (by decide)) T.d__law_fits.g T.d__law_fits.F.kp (T.d__law_fits.F.binds (ps := p__law_fits) fun _ _ _ _ _ _ us hl => match us, hl with | [_, _], _ => rfl) (dv_cons (de_var 0 (pv 0)) (dv_cons (de_var 3 (pv 3)) dv_nil)))).lent)
    (ds_one (ds_for (vs := [4]) c PassesOwn.never (di_seq c.hK (de_var 2 (pv 2))) (dg_name c.nd 4)
    (ds_one (ds_ext c 1 (pe_bm PySem.F.plainAttrs_list PySem.F.slot_list_extend PySem.F.type_list_extend mt_extend (pv 1) (pa_cons (((df_lc c (own := [("_law_waited", 5)]) (di_range1 (T.nb_range) (da_cons ((de_add c.hK ((de_ix c.hK (db_var 0 (pv 0)) (de_int).lent)).lent (de_int).lent)).lent da_nil)) (blkOk_by (own := [("_law_waited", 5)]) (N := n__law_stands) (sc := defScope s__law_stands) (by decide +kernel)) (fun s H C cl fp => (dg_name (c.blk s H _ (compEnvC _ cl C _) fp).nd 5)) (fun s H C cl fp => dts_nil) (fun s H C cl fp => (de_tup (dv_cons (de_var 3 (pv 3)) (dv_cons (de_var 4 (pv 4)) (dv_cons (de_var 5 (pv 5)) dv_nil))))))).de).lent pa_nil))))))
    ds_nil)))
    (ds_one (ds_ret (db_var 1 (pv 1)))))))
abbrev n__law_behind : List Str := ["_law_wheel_here", "_law_stand", "_law_act", "_law_loads", "_law_line", "_law_waited", "_law_later", "_law_size"]
abbrev p__law_behind : List Str := ["_law_wheel_here", "_law_stand", "_law_act"]
theorem sc__law_behind : FnScope n__law_behind p__law_behind (defScope s__law_behind) := ⟨rfl, rfl, rfl, by decide +kernel, rfl, by decide +kernel, by decide +kernel⟩
def b__law_behind : Sx Dk :=
  (sSeq (sUnp (btT (btsC (btN 3) (btsC (btN 4) (btsC (btN 5) btsN)))) (eVar 1))
    (sSeq (sIf (tOf (eBin opEq (bVar 2) (eC (.str "turn"))))
    (sSeq (sSet 6 (eBin opAdd (eSeq .tuple (aCons (eC (.int 0)) aNil)) (eSl (bVar 3) oNone (oSome (eUn opNeg (eC (.int 1)))))))
    (sRet (eIf (xAnd (tOf (eBin (opRel fun i j => decide (i < j)) (bVar 5) (eBin opIx (bVar 0) (eC (.int 4))))) (tOf (eFn 2 m__law_fits (aCons (eVar 0) (aCons (eVar 6) aNil))))) (eSeq .tuple (aCons (eSeq .tuple (aCons (eVar 6) (aCons (eVar 4) (aCons (eBin opAdd (bVar 5) (eC (.int 1))) aNil)))) aNil)) (eSeq .tuple aNil))))
    sNil)
    (sSeq (sSet 6 (eBin opAdd (eSeq .tuple (aCons (eBin opAdd (eBin opIx (bVar 3) (eC (.int 0))) (eBin opIx (bVar 4) (eC (.int 0)))) aNil)) (eSl (bVar 3) (oSome (eC (.int 1))) oNone)))
    (sSeq (sIf (xNot (tOf (eFn 2 m__law_fits (aCons (eVar 0) (aCons (eVar 6) aNil)))))
    (sRet (eSeq .tuple aNil))
    sNil)
    (sRet (eCall oTuple (aCons (eL (lLc (iSeq (eBin opIx (bVar 0) (eC (.int 2)))) (btN 7) xYes (eSeq .tuple (aCons (eVar 6) (aCons (eBin opAdd (eSl (bVar 4) (oSome (eC (.int 1))) oNone) (eSeq .tuple (aCons (eVar 7) aNil))) (aCons (eC (.int 0)) aNil)))) [7])) aNil)))))))
def m__law_behind : List Val → Dk → Out Dk Val := runF 5 b__law_behind
theorem ok__law_behind (hP : B.P = P) (hK : B.K = K) (hw : B.w = w) (T : Tx K mg) (hC : B.cls = clsT T) : FnG P w K mg base CX0 3 T.d__law_behind.f T.d__law_behind.fd p__law_behind (spP B 3 m__law_behind) := by
  have g__law_fits := ok__law_fits (P := P) (w := w) (base := base) hP hK hw T hC
  exact fg_pure hP hK hw T.d__law_behind.F sc__law_behind b__law_behind rfl (fun cdv A outer s H E c hr =>
    (ds_cons (ds_unp (vs := [3, 4, 5]) (de_var 1 (pv 1)) (dg_tup c (dgs_cons (dg_name c.nd 3) (dgs_cons (dg_name c.nd 4) (dgs_cons (dg_name c.nd 5) dgs_nil))) (btsC_len (btsC_len (btsC_len btsN_len _) _) _)))
    (ds_cons (ds_if (dt_cmp (cd_eq c.hK c.u64) (db_var 2 (pv 2)) (de_str).lent)
    (ds_cons (ds_set c 6 (de_add c.hK ((de_tup (dv_cons de_int dv_nil))).lent ((de_sl c.hK (db_var 3 (pv 3)) do_none (do_some ((de_neg (de_int).lent)).lent))).lent))
    (ds_one (ds_ret ((de_if (dt_bool (dw_and (dt_cmp cd_lt (db_var 5 (pv 5)) ((de_ix c.hK (db_var 0 (pv 0)) (de_int).lent)).lent) (dw_and1 (dt_val ((de_call c (g__law_fits) (hr.mono (by decide)) T.d__law_fits.g T.d__law_fits.F.kp (T.d__law_fits.F.binds (ps := p__law_fits) fun _ _ _ _ _ _ us hl => match us, hl with | [_, _], _ => rfl) (dv_cons (de_var 0 (pv 0)) (dv_cons (de_var 6 (pv 6)) dv_nil)))).lent)))) (de_tup (dv_cons (de_tup (dv_cons (de_var 6 (pv 6)) (dv_cons (de_var 4 (pv 4)) (dv_cons (de_add c.hK (db_var 5 (pv 5)) (de_int).lent) dv_nil)))) dv_nil)) (de_tup dv_nil))).lent)))
    ds_nil)
    (ds_cons (ds_set c 6 (de_add c.hK ((de_tup (dv_cons (de_add c.hK ((de_ix c.hK (db_var 3 (pv 3)) (de_int).lent)).lent ((de_ix c.hK (db_var 4 (pv 4)) (de_int).lent)).lent) dv_nil))).lent ((de_sl c.hK (db_var 3 (pv 3)) (do_some (de_int).lent) do_none)).lent))
    (ds_cons (ds_if (dt_not (dt_val ((de_call c (g__law_fits) (hr.mono (by decide)) T.d__law_fits.g T.d__law_fits.F.kp (T.d__law_fits.F.binds (ps := p__law_fits) fun _ _ _ _ _ _ us hl => match us, hl with | [_, _], _ => rfl) (dv_cons (de_var 0 (pv 0)) (dv_cons (de_var 6 (pv 6)) dv_nil)))).lent))
    (ds_one (ds_ret ((de_tup dv_nil)).lent))
    ds_nil)
    (ds_one (ds_ret ((de_typ (op := oTuple) call_tuple_of (by rw [← c.hK]; exact cl_tuple) (by rfl) (T.nb_tuple) boot_tuple (da_cons (((df_lc c (own := [("_law_size", 7)]) (di_seqB c.hK ((de_ix c.hK (db_var 0 (pv 0)) (de_int).lent)).lent) (blkOk_by (own := [("_law_size", 7)]) (N := n__law_behind) (sc := defScope s__law_behind) (by decide +kernel)) (fun s H C cl fp => (dg_name (c.blk s H _ (compEnvC _ cl C _) fp).nd 7)) (fun s H C cl fp => dts_nil) (fun s H C cl fp => (de_tup (dv_cons (de_var 6 (pv 6)) (dv_cons (de_add (c.blk s H _ (compEnvC _ cl C _) fp).hK ((de_sl (c.blk s H _ (compEnvC _ cl C _) fp).hK (db_var 4 (pv 4)) (do_some (de_int).lent) do_none)).lent ((de_tup (dv_cons (de_var 7 (pv 7)) dv_nil))).lent) (dv_cons de_int dv_nil))))))).de).lent da_nil))).lent)))))))
abbrev n__law_rule : List Str := ["_law_deck_here", "_law_wheel_here", "_law_found", "_law_k", "_law_tests", "_law_more", "_law_what", "_law_low", "_law_wide", "_law_ends"]
abbrev p__law_rule : List Str := ["_law_deck_here", "_law_wheel_here"]
theorem sc__law_rule : FnScope n__law_rule p__law_rule (defScope s__law_rule) := ⟨rfl, rfl, rfl, by decide +kernel, rfl, by decide +kernel, by decide +kernel⟩
def b__law_rule : Sx Dk :=
  (sSeq (sNew 2 (lSeq aNil))
    (sSeq (sFor (iRg1 (aCons (eFn 2 m__law_draw (aCons (eVar 0) (aCons (eC (.int 4)) aNil))) aNil)) (btN 3)
    (sSeq (sNew 4 (lSeq aNil))
    (sSeq (sFor (iRg1 (aCons (eFn 2 m__law_draw (aCons (eVar 0) (aCons (eC (.int 3)) aNil))) aNil)) (btN 5)
    (sSeq (sSet 6 (eFn 2 m__law_one (aCons (eVar 0) (aCons (eL (lSeq (aCons (eC (.str "load")) (aCons (eC (.str "head")) (aCons (eC (.str "waited")) (aCons (eC (.str "lean")) (aCons (eC (.str "ahead")) aNil))))))) aNil))))
    (sSeq (sSet 7 (eBin opSub (eFn 2 m__law_draw (aCons (eVar 0) (aCons (eC (.int 5)) aNil))) (eFn 2 m__law_one (aCons (eVar 0) (aCons (eL (lSeq (aCons (eC (.int 0)) (aCons (eC (.int 0)) (aCons (eC (.int 0)) (aCons (eC (.int 2)) (aCons (eC (.int 9)) (aCons (eUn opNeg (eC (.int 40))) (aCons (eC (.int 60)) (aCons (eBin opPow (eC (.int 10)) (eC (.int 30))) aNil)))))))))) aNil)))))
    (sSeq (sSet 8 (eFn 2 m__law_one (aCons (eVar 0) (aCons (eL (lSeq (aCons (eFn 2 m__law_draw (aCons (eVar 0) (aCons (eC (.int 4)) aNil))) (aCons (eFn 2 m__law_draw (aCons (eVar 0) (aCons (eC (.int 4)) aNil))) (aCons (eC (.int 10)) (aCons (eC (.int 130)) (aCons (eBin opMul (eC (.int 2)) (eBin opPow (eC (.int 10)) (eC (.int 30)))) aNil))))))) aNil))))
    (sApp 4 (eSeq .tuple (aCons (eVar 6) (aCons (eVar 7) (aCons (eBin opAdd (bVar 7) (bVar 8)) aNil)))))))))
    (sApp 2 (eSeq .tuple (aCons (eCall oTuple (aCons (bVar 4) aNil)) (aCons (eFn 2 m__law_one (aCons (eVar 0) (aCons (eL (lSeq (aCons (eC (.str "board")) (aCons (eC (.str "turn")) aNil)))) aNil))) aNil)))))))
    (sSeq (sSet 9 (eL (lSeq (aCons (eL (lSeq aNil)) (aCons (eL (lSeq (aCons (eSeq .tuple (aCons (eSeq .tuple aNil) (aCons (eC (.str "board")) aNil))) aNil))) (aCons (eL (lSeq (aCons (eSeq .tuple (aCons (eSeq .tuple aNil) (aCons (eC (.str "board")) aNil))) (aCons (eSeq .tuple (aCons (eSeq .tuple aNil) (aCons (eC (.str "turn")) aNil))) aNil)))) (aCons (eL (lSeq (aCons (eSeq .tuple (aCons (eSeq .tuple aNil) (aCons (eC (.str "turn")) aNil))) (aCons (eSeq .tuple (aCons (eSeq .tuple aNil) (aCons (eC (.str "board")) aNil))) aNil)))) aNil)))))))
    (sRet (eCall oTuple (aCons (eBin opAdd (bVar 2) (eFn 2 m__law_one (aCons (eVar 0) (aCons (eBin opAdd (bVar 9) (eSl (bVar 9) (oSome (eC (.int 2))) oNone)) aNil)))) aNil))))))
def m__law_rule : List Val → Dk → Out Dk Val := runF 8 b__law_rule
theorem ok__law_rule (hP : B.P = P) (hK : B.K = K) (hw : B.w = w) (T : Tx K mg) (hC : B.cls = clsT T) : FnG P w K mg base CX0 3 T.d__law_rule.f T.d__law_rule.fd p__law_rule (spP B 2 m__law_rule) := by
  have g__law_draw := ok__law_draw (P := P) (w := w) (base := base) hP hK hw T hC
  have g__law_one := ok__law_one (P := P) (w := w) (base := base) hP hK hw T hC
  exact fg_pure hP hK hw T.d__law_rule.F sc__law_rule b__law_rule rfl (fun cdv A outer s H E c hr =>
    (ds_cons (ds_new c 2 (df_lst dv_nil))
    (ds_cons (ds_for (vs := [3]) c PassesOwn.never (di_range1 (T.nb_range) (da_cons ((de_call c (g__law_draw) (hr.mono (by decide)) T.d__law_draw.g T.d__law_draw.F.kp (T.d__law_draw.F.binds (ps := p__law_draw) fun _ _ _ _ _ _ us hl => match us, hl with | [_, _], _ => rfl) (dv_cons (de_var 0 (pv 0)) (dv_cons de_int dv_nil)))).lent da_nil)) (dg_name c.nd 3)
    (ds_cons (ds_new c 4 (df_lst dv_nil))
    (ds_cons (ds_for (vs := [5]) c PassesOwn.never (di_range1 (T.nb_range) (da_cons ((de_call c (g__law_draw) (hr.mono (by decide)) T.d__law_draw.g T.d__law_draw.F.kp (T.d__law_draw.F.binds (ps := p__law_draw) fun _ _ _ _ _ _ us hl => match us, hl with | [_, _], _ => rfl) (dv_cons (de_var 0 (pv 0)) (dv_cons de_int dv_nil)))).lent da_nil)) (dg_name c.nd 5)
    (ds_cons (ds_set c 6 (de_call c (g__law_one) (hr.mono (by decide)) T.d__law_one.g T.d__law_one.F.kp (T.d__law_one.F.binds (ps := p__law_one) fun _ _ _ _ _ _ us hl => match us, hl with | [_, _], _ => rfl) (dv_cons (de_var 0 (pv 0)) (dv_cons ((df_lst (dv_cons de_str (dv_cons de_str (dv_cons de_str (dv_cons de_str (dv_cons de_str dv_nil))))))).de dv_nil))))
    (ds_cons (ds_set c 7 (de_sub ((de_call c (g__law_draw) (hr.mono (by decide)) T.d__law_draw.g T.d__law_draw.F.kp (T.d__law_draw.F.binds (ps := p__law_draw) fun _ _ _ _ _ _ us hl => match us, hl with | [_, _], _ => rfl) (dv_cons (de_var 0 (pv 0)) (dv_cons de_int dv_nil)))).lent ((de_call c (g__law_one) (hr.mono (by decide)) T.d__law_one.g T.d__law_one.F.kp (T.d__law_one.F.binds (ps := p__law_one) fun _ _ _ _ _ _ us hl => match us, hl with | [_, _], _ => rfl) (dv_cons (de_var 0 (pv 0)) (dv_cons ((df_lst (dv_cons de_int (dv_cons de_int (dv_cons de_int (dv_cons de_int (dv_cons de_int (dv_cons (de_neg (de_int).lent) (dv_cons de_int (dv_cons (de_pow (de_int).lent (de_int).lent) dv_nil)))))))))).de dv_nil)))).lent))
    (ds_cons (ds_set c 8 (de_call c (g__law_one) (hr.mono (by decide)) T.d__law_one.g T.d__law_one.F.kp (T.d__law_one.F.binds (ps := p__law_one) fun _ _ _ _ _ _ us hl => match us, hl with | [_, _], _ => rfl) (dv_cons (de_var 0 (pv 0)) (dv_cons ((df_lst (dv_cons (de_call c (g__law_draw) (hr.mono (by decide)) T.d__law_draw.g T.d__law_draw.F.kp (T.d__law_draw.F.binds (ps := p__law_draw) fun _ _ _ _ _ _ us hl => match us, hl with | [_, _], _ => rfl) (dv_cons (de_var 0 (pv 0)) (dv_cons de_int dv_nil))) (dv_cons (de_call c (g__law_draw) (hr.mono (by decide)) T.d__law_draw.g T.d__law_draw.F.kp (T.d__law_draw.F.binds (ps := p__law_draw) fun _ _ _ _ _ _ us hl => match us, hl with | [_, _], _ => rfl) (dv_cons (de_var 0 (pv 0)) (dv_cons de_int dv_nil))) (dv_cons de_int (dv_cons de_int (dv_cons (de_mul c.hK (de_int).lent ((de_pow (de_int).lent (de_int).lent)).lent) dv_nil))))))).de dv_nil))))
    (ds_one (ds_app c 4 (pe_bm PySem.F.plainAttrs_list PySem.F.slot_list_append PySem.F.type_list_append mt_append (pv 4) (pa_cons (de_tup (dv_cons (de_var 6 (pv 6)) (dv_cons (de_var 7 (pv 7)) (dv_cons (de_add c.hK (db_var 7 (pv 7)) (db_var 8 (pv 8))) dv_nil)))) pa_nil))))))))
    (ds_one (ds_app c 2 (pe_bm PySem.F.plainAttrs_list PySem.F.slot_list_append PySem.F.type_list_append mt_append (pv 2) (pa_cons (de_tup (dv_cons (de_typ (op := oTuple) call_tuple_of (by rw [← c.hK]; exact cl_tuple) (by rfl) (T.nb_tuple) boot_tuple (da_cons (db_var 4 (pv 4)) da_nil)) (dv_cons (de_call c (g__law_one) (hr.mono (by decide)) T.d__law_one.g T.d__law_one.F.kp (T.d__law_one.F.binds (ps := p__law_one) fun _ _ _ _ _ _ us hl => match us, hl with | [_, _], _ => rfl) (dv_cons (de_var 0 (pv 0)) (dv_cons ((df_lst (dv_cons de_str (dv_cons de_str dv_nil)))).de dv_nil))) dv_nil))) pa_nil)))))))
    (ds_cons (ds_set c 9 ((df_lst (dv_cons ((df_lst dv_nil)).de (dv_cons ((df_lst (dv_cons (de_tup (dv_cons (de_tup dv_nil) (dv_cons de_str dv_nil))) dv_nil))).de (dv_cons ((df_lst (dv_cons (de_tup (dv_cons (de_tup dv_nil) (dv_cons de_str dv_nil))) (dv_cons (de_tup (dv_cons (de_tup dv_nil) (dv_cons de_str dv_nil))) dv_nil)))).de (dv_cons ((df_lst (dv_cons (de_tup (dv_cons (de_tup dv_nil) (dv_cons de_str dv_nil))) (dv_cons (de_tup (dv_cons (de_tup dv_nil) (dv_cons de_str dv_nil))) dv_nil)))).de dv_nil)))))).de)
    (ds_one (ds_ret ((de_typ (op := oTuple) call_tuple_of (by rw [← c.hK]; exact cl_tuple) (by rfl) (T.nb_tuple) boot_tuple (da_cons ((de_add c.hK (db_var 2 (pv 2)) ((de_call c (g__law_one) (hr.mono (by decide)) T.d__law_one.g T.d__law_one.F.kp (T.d__law_one.F.binds (ps := p__law_one) fun _ _ _ _ _ _ us hl => match us, hl with | [_, _], _ => rfl) (dv_cons (de_var 0 (pv 0)) (dv_cons (de_add c.hK (db_var 9 (pv 9)) ((de_sl c.hK (db_var 9 (pv 9)) (do_some (de_int).lent) do_none)).lent) dv_nil)))).lent)).lent da_nil))).lent))))))
abbrev n__law_deed_of : List Str := ["_law_wheel_here", "_law_rule_here", "_law_stand", "_law_loads", "_law_line", "_law_waited", "_law_numbers", "_law_tests", "_law_act", "_law_wrong", "_law_what", "_law_low", "_law_high"]
abbrev p__law_deed_of : List Str := ["_law_wheel_here", "_law_rule_here", "_law_stand"]
theorem sc__law_deed_of : FnScope n__law_deed_of p__law_deed_of (defScope s__law_deed_of) := ⟨rfl, rfl, rfl, by decide +kernel, rfl, by decide +kernel, by decide +kernel⟩
def b__law_deed_of : Sx Dk :=
  (sSeq (sUnp (btT (btsC (btN 3) (btsC (btN 4) (btsC (btN 5) btsN)))) (eVar 2))
    (sSeq (sNewN 6 (nDisp ["load", "head", "waited", "lean"] (exsOf [(eBin opIx (bVar 3) (eC (.int 0))), (eBin opIx (bVar 4) (eC (.int 0))), (eVar 5), (eFn 2 m__law_lean (aCons (eVar 0) (aCons (eVar 3) aNil)))])))
    (sSeq (sPutS 6 (eC (.str "ahead")) (eFn 2 m__law_lean (aCons (eVar 0) (aCons (eBin opAdd (eSeq .tuple (aCons (eC (.int 0)) aNil)) (eSl (bVar 3) oNone (oSome (eUn opNeg (eC (.int 1)))))) aNil))))
    (sSeq (sFor (iSeq (eVar 1)) (btT (btsC (btN 7) (btsC (btN 8) btsN)))
    (sSeq (sSet 9 (eL (lLc (iSeq (bVar 7)) (btT (btsC (btN 10) (btsC (btN 11) (btsC (btN 12) btsN)))) (xNot (tOf (eChain (opRel fun i j => decide (i ≤ j)) (opRel fun i j => decide (i ≤ j)) (bVar 11) (eBin opDIx (bVar 6) (bVar 10)) (bVar 12)))) (eVar 10) [10, 11, 12])))
    (sIf (xAnd (tOf (eBin opEq (bVar 9) (eL (lSeq aNil)))) (tOf (eBin opNe (eFn 3 m__law_behind (aCons (eVar 0) (aCons (eVar 2) (aCons (eVar 8) aNil)))) (eSeq .tuple aNil))))
    (sRet (bVar 8))
    sNil)))
    (sRet (eC .none))))))
def m__law_deed_of : List Val → Dk → Out Dk Val := runF 10 b__law_deed_of
theorem ok__law_deed_of (hP : B.P = P) (hK : B.K = K) (hw : B.w = w) (T : Tx K mg) (hC : B.cls = clsT T) : FnG P w K mg base CX0 4 T.d__law_deed_of.f T.d__law_deed_of.fd p__law_deed_of (spP B 3 m__law_deed_of) := by
  have g__law_behind := ok__law_behind (P := P) (w := w) (base := base) hP hK hw T hC
  have g__law_lean := ok__law_lean (P := P) (w := w) (base := base) hP hK hw T hC
  exact fg_pure hP hK hw T.d__law_deed_of.F sc__law_deed_of b__law_deed_of rfl (fun cdv A outer s H E c hr =>
    (ds_cons (ds_unp (vs := [3, 4, 5]) (de_var 2 (pv 2)) (dg_tup c (dgs_cons (dg_name c.nd 3) (dgs_cons (dg_name c.nd 4) (dgs_cons (dg_name c.nd 5) dgs_nil))) (btsC_len (btsC_len (btsC_len btsN_len _) _) _)))
    (ds_cons (ds_newN c 6 (dn_disp ["load", "head", "waited", "lean"] [(eBin opIx (bVar 3) (eC (.int 0))), (eBin opIx (bVar 4) (eC (.int 0))), (eVar 5), (eFn 2 m__law_lean (aCons (eVar 0) (aCons (eVar 3) aNil)))] (pps_cons pe_str (de_ix c.hK (db_var 3 (pv 3)) (de_int).lent) (pps_cons pe_str (de_ix c.hK (db_var 4 (pv 4)) (de_int).lent) (pps_cons pe_str (de_var 5 (pv 5)) (pps_cons pe_str (de_call c (g__law_lean) (hr.mono (by decide)) T.d__law_lean.g T.d__law_lean.F.kp (T.d__law_lean.F.binds (ps := p__law_lean) fun _ _ _ _ _ _ us hl => match us, hl with | [_, _], _ => rfl) (dv_cons (de_var 0 (pv 0)) (dv_cons (de_var 3 (pv 3)) dv_nil))) pps_nil)))) rfl))
    (ds_cons (ds_putS c 6 (pv 6) (de_str).lent (de_call c (g__law_lean) (hr.mono (by decide)) T.d__law_lean.g T.d__law_lean.F.kp (T.d__law_lean.F.binds (ps := p__law_lean) fun _ _ _ _ _ _ us hl => match us, hl with | [_, _], _ => rfl) (dv_cons (de_var 0 (pv 0)) (dv_cons (de_add c.hK ((de_tup (dv_cons de_int dv_nil))).lent ((de_sl c.hK (db_var 3 (pv 3)) do_none (do_some ((de_neg (de_int).lent)).lent))).lent) dv_nil))))
    (ds_cons (ds_for (vs := [7, 8]) c PassesOwn.never (di_seq c.hK (de_var 1 (pv 1))) (dg_tup c (dgs_cons (dg_name c.nd 7) (dgs_cons (dg_name c.nd 8) dgs_nil)) (btsC_len (btsC_len btsN_len _) _))
    (ds_cons (ds_setLc c 9 (own := [("_law_what", 10), ("_law_low", 11), ("_law_high", 12)]) (di_seqB c.hK (db_var 7 (pv 7))) (blkOk_by (own := [("_law_what", 10), ("_law_low", 11), ("_law_high", 12)]) (N := n__law_deed_of) (sc := defScope s__law_deed_of) (by decide +kernel)) (fun s H C cl fp => (dg_tup (c.blk s H _ (compEnvC _ cl C _) fp) (dgs_cons (dg_name (c.blk s H _ (compEnvC _ cl C _) fp).nd 10) (dgs_cons (dg_name (c.blk s H _ (compEnvC _ cl C _) fp).nd 11) (dgs_cons (dg_name (c.blk s H _ (compEnvC _ cl C _) fp).nd 12) dgs_nil))) (btsC_len (btsC_len (btsC_len btsN_len _) _) _))) (fun s H C cl fp => (dts_one (dt_not (dt_chain cd_le cd_le (db_var 11 (pv 11)) ((de_dix (c.blk s H _ (compEnvC _ cl C _) fp) (db_var 6 (pv 6)) (db_var 10 (pv 10)))).lent (db_var 12 (pv 12)))))) (fun s H C cl fp => (de_var 10 (pv 10))))
    (ds_one (ds_if (dt_bool (dw_and (dt_cmp (cd_eq c.hK c.u64) (db_var 9 (pv 9)) (((df_lst dv_nil)).de).lent) (dw_and1 (dt_cmp (cd_ne c.hK c.u64) ((de_call c (g__law_behind) (hr.mono (by decide)) T.d__law_behind.g T.d__law_behind.F.kp (T.d__law_behind.F.binds (ps := p__law_behind) fun _ _ _ _ _ _ us hl => match us, hl with | [_, _, _], _ => rfl) (dv_cons (de_var 0 (pv 0)) (dv_cons (de_var 2 (pv 2)) (dv_cons (de_var 8 (pv 8)) dv_nil))))).lent ((de_tup dv_nil)).lent))))
    (ds_one (ds_ret (db_var 8 (pv 8))))
    ds_nil))))
    (ds_one (ds_ret (de_non).lent)))))))
abbrev n__law_odd : List Str := ["_law_deck_here", "_law_some"]
abbrev p__law_odd : List Str := ["_law_deck_here"]
theorem sc__law_odd : FnScope n__law_odd p__law_odd (defScope s__law_odd) := ⟨rfl, rfl, rfl, by decide +kernel, rfl, by decide +kernel, by decide +kernel⟩
def b__law_odd : Sx Dk :=
  (sSeq (sSet 1 (eL (lSeq (aCons (eC .none) (aCons (eC (.bool true)) (aCons (eC (.bool false)) (aCons (eC (.int 0)) (aCons (eC (.int 1)) (aCons (eC (.int 2)) (aCons (eUn opNeg (eC (.int 1))) (aCons (eC (.int 7)) (aCons (eBin opPow (eC (.int 10)) (eC (.int 40))) (aCons (eC (.str "")) (aCons (eC (.str "0")) (aCons (eC (.str "board")) (aCons (eC (.str "turn")) (aCons (eSeq .tuple aNil) (aCons (eL (lSeq aNil)) (aCons (eSeq .tuple (aCons (eC (.int 0)) aNil)) (aCons (eSeq .tuple (aCons (eC (.int 1)) aNil)) (aCons (eL (lSeq (aCons (eC (.int 0)) aNil))) (aCons (eSeq .tuple (aCons (eC (.int 0)) (aCons (eC (.int 0)) aNil))) aNil))))))))))))))))))))))
    (sRet (eFn 2 m__law_one (aCons (eVar 0) (aCons (eBin opAdd (bVar 1) (eL (lSeq (aCons (eSeq .tuple (aCons (eC (.bool true)) aNil)) (aCons (eSeq .tuple (aCons (eC (.int 0)) (aCons (eC (.int 1)) aNil))) (aCons (eSeq .tuple (aCons (eC (.int 0)) (aCons (eC (.int 1)) (aCons (eSeq .tuple (aCons (eC (.int 0)) aNil)) aNil)))) (aCons (eSeq .tuple (aCons (eSeq .tuple (aCons (eC (.int 0)) aNil)) (aCons (eC (.int 0)) aNil))) (aCons (eSeq .tuple (aCons (eSeq .tuple aNil) (aCons (eSeq .tuple aNil) aNil))) (aCons (eSeq .tuple (aCons (eC (.int 0)) (aCons (eL (lSeq (aCons (eC (.int 1)) aNil))) aNil))) (aCons (eSeq .tuple (aCons (eSeq .tuple (aCons (eC (.int 0)) (aCons (eC (.int 1)) aNil))) (aCons (eSeq .tuple (aCons (eC (.int 1)) (aCons (eC (.int 1)) aNil))) aNil))) aNil)))))))))) aNil)))))
def m__law_odd : List Val → Dk → Out Dk Val := runF 1 b__law_odd
theorem ok__law_odd (hP : B.P = P) (hK : B.K = K) (hw : B.w = w) (T : Tx K mg) (hC : B.cls = clsT T) : FnG P w K mg base CX0 3 T.d__law_odd.f T.d__law_odd.fd p__law_odd (spP B 1 m__law_odd) := by
  have g__law_one := ok__law_one (P := P) (w := w) (base := base) hP hK hw T hC
  exact fg_pure hP hK hw T.d__law_odd.F sc__law_odd b__law_odd rfl (fun cdv A outer s H E c hr =>
    (ds_cons (ds_set c 1 ((df_lst (dv_cons de_non (dv_cons de_bl (dv_cons de_bl (dv_cons de_int (dv_cons de_int (dv_cons de_int (dv_cons (de_neg (de_int).lent) (dv_cons de_int (dv_cons (de_pow (de_int).lent (de_int).lent) (dv_cons de_str (dv_cons de_str (dv_cons de_str (dv_cons de_str (dv_cons (de_tup dv_nil) (dv_cons ((df_lst dv_nil)).de (dv_cons (de_tup (dv_cons de_int dv_nil)) (dv_cons (de_tup (dv_cons de_int dv_nil)) (dv_cons ((df_lst (dv_cons de_int dv_nil))).de (dv_cons (de_tup (dv_cons de_int (dv_cons de_int dv_nil))) dv_nil))))))))))))))))))))).de)
    (ds_one (ds_ret ((de_call c (g__law_one) (hr.mono (by decide)) T.d__law_one.g T.d__law_one.F.kp (T.d__law_one.F.binds (ps := p__law_one) fun _ _ _ _ _ _ us hl => match us, hl with | [_, _], _ => rfl) (dv_cons (de_var 0 (pv 0)) (dv_cons (de_add c.hK (db_var 1 (pv 1)) (((df_lst (dv_cons (de_tup (dv_cons de_bl dv_nil)) (dv_cons (de_tup (dv_cons de_int (dv_cons de_int dv_nil))) (dv_cons (de_tup (dv_cons de_int (dv_cons de_int (dv_cons (de_tup (dv_cons de_int dv_nil)) dv_nil)))) (dv_cons (de_tup (dv_cons (de_tup (dv_cons de_int dv_nil)) (dv_cons de_int dv_nil))) (dv_cons (de_tup (dv_cons (de_tup dv_nil) (dv_cons (de_tup dv_nil) dv_nil))) (dv_cons (de_tup (dv_cons de_int (dv_cons ((df_lst (dv_cons de_int dv_nil))).de dv_nil))) (dv_cons (de_tup (dv_cons (de_tup (dv_cons de_int (dv_cons de_int dv_nil))) (dv_cons (de_tup (dv_cons de_int (dv_cons de_int dv_nil))) dv_nil))) dv_nil))))))))).de).lent) dv_nil)))).lent))))
abbrev n__law_bent : List Str := ["_law_deck_here", "_law_thing", "_law_deep", "_law_at", "_law_way"]
abbrev p__law_bent : List Str := ["_law_deck_here", "_law_thing", "_law_deep"]
theorem sc__law_bent : FnScope n__law_bent p__law_bent (defScope s__law_bent) := ⟨rfl, rfl, rfl, by decide +kernel, rfl, by decide +kernel, by decide +kernel⟩
def b__law_bent (m__law_bent : List Val → Dk → Out Dk Val) : Sx Dk :=
  (sSeq (sIf (xOr (xNot (tOf (eIsi "tuple" (bVar 1)))) (xOr (tOf (eBin opEq (bVar 1) (eSeq .tuple aNil))) (xOr (tOf (eBin opEq (bVar 2) (eC (.int 0)))) (tOf (eBin opEq (eFn 2 m__law_draw (aCons (eVar 0) (aCons (eC (.int 7)) aNil))) (eC (.int 0)))))))
    (sSeq (sIf (xAnd (tOf (eIsi "int" (bVar 1))) (xAnd (xNot (tOf (eIsi "bool" (bVar 1)))) (tOf (eBin opEq (eFn 2 m__law_draw (aCons (eVar 0) (aCons (eC (.int 2)) aNil))) (eC (.int 0))))))
    (sRet (eBin opAdd (bVar 1) (eFn 2 m__law_one (aCons (eVar 0) (aCons (eL (lSeq (aCons (eC (.int 1)) (aCons (eUn opNeg (eC (.int 1))) (aCons (eC (.int 2)) (aCons (eBin opSub (eC (.int 0)) (bVar 1)) aNil)))))) aNil)))))
    sNil)
    (sRet (eFn 1 m__law_odd (aCons (eVar 0) aNil))))
    sNil)
    (sSeq (sPar [3, 4] (mVal (eFn 2 m__law_draw (aCons (eVar 0) (aCons (eCall oLen (aCons (bVar 1) aNil)) aNil))) (mVal (eFn 2 m__law_draw (aCons (eVar 0) (aCons (eC (.int 10)) aNil))) mNil)))
    (sSeq (sIf (tOf (eBin opEq (bVar 4) (eC (.int 0))))
    (sRet (eBin opAdd (eSl (bVar 1) oNone (oSome (bVar 3))) (eSl (bVar 1) (oSome (eBin opAdd (bVar 3) (eC (.int 1)))) oNone)))
    sNil)
    (sSeq (sIf (tOf (eBin opEq (bVar 4) (eC (.int 1))))
    (sRet (eBin opAdd (eBin opAdd (eSl (bVar 1) oNone (oSome (bVar 3))) (eSeq .tuple (aCons (eBin opIx (bVar 1) (bVar 3)) aNil))) (eSl (bVar 1) (oSome (bVar 3)) oNone)))
    sNil)
    (sSeq (sIf (tOf (eBin opEq (bVar 4) (eC (.int 2))))
    (sRet (eUn opRev (bVar 1)))
    sNil)
    (sSeq (sIf (tOf (eBin opEq (bVar 4) (eC (.int 3))))
    (sRet (eL (lOf (bVar 1))))
    sNil)
    (sRet (eBin opAdd (eBin opAdd (eSl (bVar 1) oNone (oSome (bVar 3))) (eSeq .tuple (aCons (eFn 3 m__law_bent (aCons (eVar 0) (aCons (eBin opIx (bVar 1) (bVar 3)) (aCons (eBin opSub (bVar 2) (eC (.int 1))) aNil)))) aNil))) (eSl (bVar 1) (oSome (eBin opAdd (bVar 3) (eC (.int 1)))) oNone)))))))))
def r__law_bent : Nat → List Val → Dk → Out Dk Val
  | 0 => fun _ _ => .bad
  | i + 1 => runF 2 (b__law_bent (r__law_bent i))
abbrev m__law_bent : List Val → Dk → Out Dk Val := r__law_bent 7
theorem okr__law_bent (hP : B.P = P) (hK : B.K = K) (hw : B.w = w) (T : Tx K mg) (hC : B.cls = clsT T) (i : Nat) : FnG P w K mg base CX0 (4 + i) T.d__law_bent.f T.d__law_bent.fd p__law_bent (spP B 3 (r__law_bent i)) := by
  have g__law_draw := ok__law_draw (P := P) (w := w) (base := base) hP hK hw T hC
  have g__law_odd := ok__law_odd (P := P) (w := w) (base := base) hP hK hw T hC
  have g__law_one := ok__law_one (P := P) (w := w) (base := base) hP hK hw T hC
  induction i with
  | zero => exact fg_bad
  | succ i g__law_bent =>
    have hh : FnG P w K mg base CX0 (4 + i + 1) T.d__law_bent.f T.d__law_bent.fd p__law_bent (spP B 3 (r__law_bent (i + 1))) := fg_pure (k := 4 + i) hP hK hw T.d__law_bent.F sc__law_bent (b__law_bent (r__law_bent i)) rfl (fun cdv A outer s H E c hr =>
    (ds_cons (ds_if (dt_bool (dw_or (dt_not (dt_val ((de_isi (T := "tuple") c.hK kit_tuple (T.nb_isinstance) (db_var 1 (pv 1)) (pe_bltn (by rfl) (T.nb_tuple) (by decide +kernel) rfl))).lent)) (dw_or (dt_cmp (cd_eq c.hK c.u64) (db_var 1 (pv 1)) ((de_tup dv_nil)).lent) (dw_or (dt_cmp (cd_eq c.hK c.u64) (db_var 2 (pv 2)) (de_int).lent) (dw_or1 (dt_cmp (cd_eq c.hK c.u64) ((de_call c (g__law_draw) (hr.mono (by omega)) T.d__law_draw.g T.d__law_draw.F.kp (T.d__law_draw.F.binds (ps := p__law_draw) fun _ _ _ _ _ _ us hl => match us, hl with | [_, _], _ => rfl) (dv_cons (de_var 0 (pv 0)) (dv_cons de_int dv_nil)))).lent (de_int).lent))))))
    (ds_cons (ds_if (dt_bool (dw_and (dt_val ((de_isi (T := "int") c.hK kit_int (T.nb_isinstance) (db_var 1 (pv 1)) (pe_bltn (by rfl) (T.nb_int) (by decide +kernel) rfl))).lent) (dw_and (dt_not (dt_val ((de_isi (T := "bool") c.hK kit_bool (T.nb_isinstance) (db_var 1 (pv 1)) (pe_bltn (by rfl) (T.nb_bool) (by decide +kernel) rfl))).lent)) (dw_and1 (dt_cmp (cd_eq c.hK c.u64) ((de_call c (g__law_draw) (hr.mono (by omega)) T.d__law_draw.g T.d__law_draw.F.kp (T.d__law_draw.F.binds (ps := p__law_draw) fun _ _ _ _ _ _ us hl => match us, hl with | [_, _], _ => rfl) (dv_cons (de_var 0 (pv 0)) (dv_cons de_int dv_nil)))).lent (de_int).lent)))))
    (ds_one (ds_ret ((de_add c.hK (db_var 1 (pv 1)) ((de_call c (g__law_one) (hr.mono (by omega)) T.d__law_one.g T.d__law_one.F.kp (T.d__law_one.F.binds (ps := p__law_one) fun _ _ _ _ _ _ us hl => match us, hl with | [_, _], _ => rfl) (dv_cons (de_var 0 (pv 0)) (dv_cons ((df_lst (dv_cons de_int (dv_cons (de_neg (de_int).lent) (dv_cons de_int (dv_cons (de_sub (de_int).lent (db_var 1 (pv 1))) dv_nil)))))).de dv_nil)))).lent)).lent))
    ds_nil)
    (ds_one (ds_ret ((de_call c (g__law_odd) (hr.mono (by omega)) T.d__law_odd.g T.d__law_odd.F.kp (T.d__law_odd.F.binds (ps := p__law_odd) fun _ _ _ _ _ _ us hl => match us, hl with | [_], _ => rfl) (dv_cons (de_var 0 (pv 0)) dv_nil))).lent)))
    ds_nil)
    (ds_cons (ds_par2 c (dm_val (de_call c (g__law_draw) (hr.mono (by omega)) T.d__law_draw.g T.d__law_draw.F.kp (T.d__law_draw.F.binds (ps := p__law_draw) fun _ _ _ _ _ _ us hl => match us, hl with | [_, _], _ => rfl) (dv_cons (de_var 0 (pv 0)) (dv_cons (de_fun (op := oLen) call_len (by rw [← c.hK]; exact cl_len) (by rfl) (T.nb_len) boot_len (da_cons (db_var 1 (pv 1)) da_nil)) dv_nil))) (dm_val (de_call c (g__law_draw) (hr.mono (by omega)) T.d__law_draw.g T.d__law_draw.F.kp (T.d__law_draw.F.binds (ps := p__law_draw) fun _ _ _ _ _ _ us hl => match us, hl with | [_, _], _ => rfl) (dv_cons (de_var 0 (pv 0)) (dv_cons de_int dv_nil))) dm_nil)))
    (ds_cons (ds_if (dt_cmp (cd_eq c.hK c.u64) (db_var 4 (pv 4)) (de_int).lent)
    (ds_one (ds_ret ((de_add c.hK ((de_sl c.hK (db_var 1 (pv 1)) do_none (do_some (db_var 3 (pv 3))))).lent ((de_sl c.hK (db_var 1 (pv 1)) (do_some ((de_add c.hK (db_var 3 (pv 3)) (de_int).lent)).lent) do_none)).lent)).lent))
    ds_nil)
    (ds_cons (ds_if (dt_cmp (cd_eq c.hK c.u64) (db_var 4 (pv 4)) (de_int).lent)
    (ds_one (ds_ret ((de_add c.hK ((de_add c.hK ((de_sl c.hK (db_var 1 (pv 1)) do_none (do_some (db_var 3 (pv 3))))).lent ((de_tup (dv_cons (de_ix c.hK (db_var 1 (pv 1)) (db_var 3 (pv 3))) dv_nil))).lent)).lent ((de_sl c.hK (db_var 1 (pv 1)) (do_some (db_var 3 (pv 3))) do_none)).lent)).lent))
    ds_nil)
    (ds_cons (ds_if (dt_cmp (cd_eq c.hK c.u64) (db_var 4 (pv 4)) (de_int).lent)
    (ds_one (ds_ret ((de_rev c.hK (db_var 1 (pv 1)))).lent))
    ds_nil)
    (ds_cons (ds_if (dt_cmp (cd_eq c.hK c.u64) (db_var 4 (pv 4)) (de_int).lent)
    (ds_one (ds_ret (((df_list c.hK (T.nb_list) (db_var 1 (pv 1)))).de).lent))
    ds_nil)
    (ds_one (ds_ret ((de_add c.hK ((de_add c.hK ((de_sl c.hK (db_var 1 (pv 1)) do_none (do_some (db_var 3 (pv 3))))).lent ((de_tup (dv_cons (de_call c (g__law_bent) (hr.mono (by omega)) T.d__law_bent.g T.d__law_bent.F.kp (T.d__law_bent.F.binds (ps := p__law_bent) fun _ _ _ _ _ _ us hl => match us, hl with | [_, _, _], _ => rfl) (dv_cons (de_var 0 (pv 0)) (dv_cons (de_ix c.hK (db_var 1 (pv 1)) (db_var 3 (pv 3))) (dv_cons (de_sub (db_var 2 (pv 2)) (de_int).lent) dv_nil)))) dv_nil))).lent)).lent ((de_sl c.hK (db_var 1 (pv 1)) (do_some ((de_add c.hK (db_var 3 (pv 3)) (de_int).lent)).lent) do_none)).lent)).lent)))))))))
    exact hh
theorem ok__law_bent (hP : B.P = P) (hK : B.K = K) (hw : B.w = w) (T : Tx K mg) (hC : B.cls = clsT T) : FnG P w K mg base CX0 11 T.d__law_bent.f T.d__law_bent.fd p__law_bent (spP B 3 m__law_bent) := okr__law_bent hP hK hw T hC 7
abbrev n__law_fault : List Str := ["_law_wheel_here", "_law_rule_here", "_law_every", "_law_thing", "_law_number", "_law_stand", "_law_one_here", "_law_missing"]
abbrev p__law_fault : List Str := ["_law_wheel_here", "_law_rule_here", "_law_every", "_law_thing"]
theorem sc__law_fault : FnScope n__law_fault p__law_fault (defScope s__law_fault) := ⟨rfl, rfl, rfl, by decide +kernel, rfl, by decide +kernel, by decide +kernel⟩
def b__law_fault : Sx Dk :=
  (sSeq (sIf (xNot (tOf (eIsi "tuple" (bVar 3))))
    (sRet (eSeq .tuple (aCons (eC (.str "shape")) (aCons (eUn opNeg (eC (.int 1))) aNil))))
    sNil)
    (sSeq (sFor (iEnuT (eVar 3)) (btT (btsC (btN 4) (btsC (btN 5) btsN)))
    (sSeq (sIf (xOr (tOf (eBin opNotInS (eCall oRepr (aCons (bVar 5) aNil)) (bVar 2))) (xAnd (tOf (eBin (opRel fun i j => decide (j < i)) (bVar 4) (eC (.int 0)))) (xNot (tOf (eBin (opOrdD PySem.W.dataLt) (eBin opIx (bVar 3) (eBin opSub (bVar 4) (eC (.int 1)))) (bVar 5))))))
    (sRet (eSeq .tuple (aCons (eC (.str "stand")) (aCons (eVar 4) aNil))))
    sNil)
    (sIf (tOf (eBin opIs (eFn 3 m__law_deed_of (aCons (eVar 0) (aCons (eVar 1) (aCons (eVar 5) aNil)))) (eC .none)))
    (sRet (eSeq .tuple (aCons (eC (.str "stuck")) (aCons (eVar 4) aNil))))
    sNil)))
    (sSeq (sFor (iEnuT (eVar 3)) (btT (btsC (btN 4) (btsC (btN 5) btsN)))
    (sFor (iSeq (eFn 3 m__law_behind (aCons (eVar 0) (aCons (eVar 5) (aCons (eFn 3 m__law_deed_of (aCons (eVar 0) (aCons (eVar 1) (aCons (eVar 5) aNil)))) aNil))))) (btN 6)
    (sIf (tOf (eBin opNotIn (bVar 6) (bVar 3)))
    (sRet (eSeq .tuple (aCons (eC (.str "open")) (aCons (eVar 4) aNil))))
    sNil)))
    (sSeq (sSet 7 (eL (lLc (iSeq (eFn 1 m__law_starts (aCons (eVar 0) aNil))) (btN 6) (tOf (eBin opNotIn (bVar 6) (bVar 3))) (eVar 6) [6])))
    (sRet (eIf (tOf (eBin opEq (bVar 7) (eL (lSeq aNil)))) (eC .none) (eSeq .tuple (aCons (eC (.str "start")) (aCons (eUn opNeg (eC (.int 1))) aNil)))))))))
def m__law_fault : List Val → Dk → Out Dk Val := runF 4 b__law_fault
theorem ok__law_fault (hP : B.P = P) (hK : B.K = K) (hw : B.w = w) (T : Tx K mg) (hC : B.cls = clsT T) : FnG P w K mg base CX0 5 T.d__law_fault.f T.d__law_fault.fd p__law_fault (spP B 4 m__law_fault) := by
  have g__law_behind := ok__law_behind (P := P) (w := w) (base := base) hP hK hw T hC
  have g__law_deed_of := ok__law_deed_of (P := P) (w := w) (base := base) hP hK hw T hC
  have g__law_starts := ok__law_starts (P := P) (w := w) (base := base) hP hK hw T hC
  exact fg_pure hP hK hw T.d__law_fault.F sc__law_fault b__law_fault rfl (fun cdv A outer s H E c hr =>
    (ds_cons (ds_if (dt_not (dt_val ((de_isi (T := "tuple") c.hK kit_tuple (T.nb_isinstance) (db_var 3 (pv 3)) (pe_bltn (by rfl) (T.nb_tuple) (by decide +kernel) rfl))).lent))
    (ds_one (ds_ret ((de_tup (dv_cons de_str (dv_cons (de_neg (de_int).lent) dv_nil)))).lent))
    ds_nil)
    (ds_cons (ds_for (vs := [4, 5]) c PassesOwn.never (di_enuT c.hK (T.nb_enumerate) (de_var 3 (pv 3))) (dg_tup c (dgs_cons (dg_name c.nd 4) (dgs_cons (dg_name c.nd 5) dgs_nil)) (btsC_len (btsC_len btsN_len _) _))
    (ds_cons (ds_if (dt_bool (dw_or (dt_cmp (cd_notInS c) ((de_fun (op := oRepr) (call_repr c.gd c.u64) (by rw [← c.hK]; exact cl_repr) (by rfl) (T.nb_repr) (by decide +kernel) (da_cons (db_var 5 (pv 5)) da_nil))).lent (db_var 2 (pv 2))) (dw_or1 (dt_bool (dw_and (dt_cmp cd_gt (db_var 4 (pv 4)) (de_int).lent) (dw_and1 (dt_not (dt_cmp (cd_ltD c) ((de_ix c.hK (db_var 3 (pv 3)) ((de_sub (db_var 4 (pv 4)) (de_int).lent)).lent)).lent (db_var 5 (pv 5))))))))))
    (ds_one (ds_ret ((de_tup (dv_cons de_str (dv_cons (de_var 4 (pv 4)) dv_nil)))).lent))
    ds_nil)
    (ds_one (ds_if (dt_cmp cd_is ((de_call c (g__law_deed_of) (hr.mono (by decide)) T.d__law_deed_of.g T.d__law_deed_of.F.kp (T.d__law_deed_of.F.binds (ps := p__law_deed_of) fun _ _ _ _ _ _ us hl => match us, hl with | [_, _, _], _ => rfl) (dv_cons (de_var 0 (pv 0)) (dv_cons (de_var 1 (pv 1)) (dv_cons (de_var 5 (pv 5)) dv_nil))))).lent (de_non).lent)
    (ds_one (ds_ret ((de_tup (dv_cons de_str (dv_cons (de_var 4 (pv 4)) dv_nil)))).lent))
    ds_nil))))
    (ds_cons (ds_for (vs := [4, 5]) c PassesOwn.never (di_enuT c.hK (T.nb_enumerate) (de_var 3 (pv 3))) (dg_tup c (dgs_cons (dg_name c.nd 4) (dgs_cons (dg_name c.nd 5) dgs_nil)) (btsC_len (btsC_len btsN_len _) _))
    (ds_one (ds_for (vs := [6]) c PassesOwn.never (di_seq c.hK (de_call c (g__law_behind) (hr.mono (by decide)) T.d__law_behind.g T.d__law_behind.F.kp (T.d__law_behind.F.binds (ps := p__law_behind) fun _ _ _ _ _ _ us hl => match us, hl with | [_, _, _], _ => rfl) (dv_cons (de_var 0 (pv 0)) (dv_cons (de_var 5 (pv 5)) (dv_cons (de_call c (g__law_deed_of) (hr.mono (by decide)) T.d__law_deed_of.g T.d__law_deed_of.F.kp (T.d__law_deed_of.F.binds (ps := p__law_deed_of) fun _ _ _ _ _ _ us hl => match us, hl with | [_, _, _], _ => rfl) (dv_cons (de_var 0 (pv 0)) (dv_cons (de_var 1 (pv 1)) (dv_cons (de_var 5 (pv 5)) dv_nil)))) dv_nil))))) (dg_name c.nd 6)
    (ds_one (ds_if (dt_cmp (cd_notin c) (db_var 6 (pv 6)) (db_var 3 (pv 3)))
    (ds_one (ds_ret ((de_tup (dv_cons de_str (dv_cons (de_var 4 (pv 4)) dv_nil)))).lent))
    ds_nil)))))
    (ds_cons (ds_setLc c 7 (own := [("_law_one_here", 6)]) (di_seqB c.hK ((de_call c (g__law_starts) (hr.mono (by decide)) T.d__law_starts.g T.d__law_starts.F.kp (T.d__law_starts.F.binds (ps := p__law_starts) fun _ _ _ _ _ _ us hl => match us, hl with | [_], _ => rfl) (dv_cons (de_var 0 (pv 0)) dv_nil))).lent) (blkOk_by (own := [("_law_one_here", 6)]) (N := n__law_fault) (sc := defScope s__law_fault) (by decide +kernel)) (fun s H C cl fp => (dg_name (c.blk s H _ (compEnvC _ cl C _) fp).nd 6)) (fun s H C cl fp => (dts_one (dt_cmp (cd_notin (c.blk s H _ (compEnvC _ cl C _) fp)) (db_var 6 (pv 6)) (db_var 3 (pv 3))))) (fun s H C cl fp => (de_var 6 (pv 6))))
    (ds_one (ds_ret ((de_if (dt_cmp (cd_eq c.hK c.u64) (db_var 7 (pv 7)) (((df_lst dv_nil)).de).lent) de_non (de_tup (dv_cons de_str (dv_cons (de_neg (de_int).lent) dv_nil))))).lent)))))))
abbrev n__law_led : List Str := ["_law_wheel_here", "_law_rule_here", "_law_found", "_law_waiting", "_law_stand", "_law_act"]
abbrev p__law_led : List Str := ["_law_wheel_here", "_law_rule_here"]
theorem sc__law_led : FnScope n__law_led p__law_led (defScope s__law_led) := ⟨rfl, rfl, rfl, by decide +kernel, rfl, by decide +kernel, by decide +kernel⟩
def b__law_led : Sx Dk :=
  (sSeq (sPar [2, 3] (mNew nD (mNew (nL (lFn 1 l__law_starts (aCons (eVar 0) aNil))) mNil)))
    (sSeq (sWh FU (tOf (eBin opNe (bVar 3) (eL (lSeq aNil))))
    (sSeq (sPop 4 3)
    (sIf (tOf (eBin opNotInN (bVar 4) (bVar 2)))
    (sSeq (sPutN 2 (eVar 4) (eC (.bool true)))
    (sSeq (sSet 5 (eFn 3 m__law_deed_of (aCons (eVar 0) (aCons (eVar 1) (aCons (eVar 4) aNil)))))
    (sExt 3 (eIf (tOf (eBin opIs (bVar 5) (eC .none))) (eL (lSeq aNil)) (eL (lOf (eFn 3 m__law_behind (aCons (eVar 0) (aCons (eVar 4) (aCons (eVar 5) aNil))))))))))
    sNil)))
    (sRet (eCall oTuple (aCons (eCall oSortedN (aCons (bVar 2) aNil)) aNil)))))
def m__law_led : List Val → Dk → Out Dk Val := runF 4 b__law_led
theorem ok__law_led (hP : B.P = P) (hK : B.K = K) (hw : B.w = w) (T : Tx K mg) (hC : B.cls = clsT T) : FnG P w K mg base CX0 5 T.d__law_led.f T.d__law_led.fd p__law_led (spP B 2 m__law_led) := by
  have g__law_behind := ok__law_behind (P := P) (w := w) (base := base) hP hK hw T hC
  have g__law_deed_of := ok__law_deed_of (P := P) (w := w) (base := base) hP hK hw T hC
  have g__law_starts := ok__law_starts (P := P) (w := w) (base := base) hP hK hw T hC
  have gl__law_starts := okl__law_starts (P := P) (w := w) (base := base) hP hK hw T hC
  exact fg_pure hP hK hw T.d__law_led.F sc__law_led b__law_led rfl (fun cdv A outer s H E c hr =>
    (ds_cons (ds_par2 c (dm_new dn_dict (dm_new ((df_call c (gl__law_starts) (hr.mono (by decide)) T.d__law_starts.g T.d__law_starts.F.kp (T.d__law_starts.F.binds (ps := p__law_starts) fun _ _ _ _ _ _ us hl => match us, hl with | [_], _ => rfl) (dv_cons (de_var 0 (pv 0)) dv_nil))).dn dm_nil)))
    (ds_cons (ds_while FU PassesOwn.never (dt_cmp (cd_ne c.hK c.u64) (db_var 3 (pv 3)) (((df_lst dv_nil)).de).lent)
    (ds_cons (ds_pop c 4 3 (pe_bm0 PySem.F.plainAttrs_list PySem.F.slot_list_pop PySem.F.type_list_pop mt_pop (pv 3)))
    (ds_one (ds_if (dt_cmp (cd_notInN c) (db_var 4 (pv 4)) (db_var 2 (pv 2)))
    (ds_cons (ds_putN c 2 (pv 2) (de_var 4 (pv 4)) de_bl)
    (ds_cons (ds_set c 5 (de_call c (g__law_deed_of) (hr.mono (by decide)) T.d__law_deed_of.g T.d__law_deed_of.F.kp (T.d__law_deed_of.F.binds (ps := p__law_deed_of) fun _ _ _ _ _ _ us hl => match us, hl with | [_, _, _], _ => rfl) (dv_cons (de_var 0 (pv 0)) (dv_cons (de_var 1 (pv 1)) (dv_cons (de_var 4 (pv 4)) dv_nil)))))
    (ds_one (ds_ext c 3 (pe_bm PySem.F.plainAttrs_list PySem.F.slot_list_extend PySem.F.type_list_extend mt_extend (pv 3) (pa_cons ((de_if (dt_cmp cd_is (db_var 5 (pv 5)) (de_non).lent) ((df_lst dv_nil)).de ((df_list c.hK (T.nb_list) ((de_call c (g__law_behind) (hr.mono (by decide)) T.d__law_behind.g T.d__law_behind.F.kp (T.d__law_behind.F.binds (ps := p__law_behind) fun _ _ _ _ _ _ us hl => match us, hl with | [_, _, _], _ => rfl) (dv_cons (de_var 0 (pv 0)) (dv_cons (de_var 4 (pv 4)) (dv_cons (de_var 5 (pv 5)) dv_nil))))).lent)).de)).lent pa_nil))))))
    ds_nil))))
    (ds_one (ds_ret ((de_typ (op := oTuple) call_tuple_of (by rw [← c.hK]; exact cl_tuple) (by rfl) (T.nb_tuple) boot_tuple (da_cons ((de_fun (op := oSortedN) (cr_sortedN (B := B) c) cl_sortedN (by rfl) (T.nb_sorted) (by decide +kernel) (da_cons (db_var 2 (pv 2)) da_nil))).lent da_nil))).lent)))))
abbrev n__law_told : List Str := ["_law_wheel_here", "_law_rule_here", "_law_thing", "e"]
abbrev p__law_told : List Str := ["_law_wheel_here", "_law_rule_here", "_law_thing"]
theorem sc__law_told : FnScope n__law_told p__law_told (defScope s__law_told) := ⟨rfl, rfl, rfl, by decide +kernel, rfl, by decide +kernel, by decide +kernel⟩
def b__law_told : Sx Dk :=
  (sTry 3 3 m_is_ledger (aCons (eVar 0) (aCons (eVar 1) (aCons (eVar 2) aNil))) (hdL "NoLedger" .tuple ["word", "number"]))
def m__law_told : List Val → Dk → Out Dk Val := runF 1 b__law_told
theorem ok__law_told (hP : B.P = P) (hK : B.K = K) (hw : B.w = w) (T : Tx K mg) (hC : B.cls = clsT T) : FnG P w K mg base CX0 8 T.d__law_told.f T.d__law_told.fd p__law_told (spP B 3 m__law_told) := by
  have g_is_ledger := ok_is_ledger (P := P) (w := w) (base := base) hP hK hw T hC
  exact fg_pure hP hK hw T.d__law_told.F sc__law_told b__law_told rfl (fun cdv A outer s H E c hr =>
    (ds_one (ds_try (i := 3) c rfl rfl ⟨by rfl, by decide, .inl T.z_WheelError.2⟩ (g_is_ledger) (hr.mono (by decide)) T.d_is_ledger.g T.d_is_ledger.F.kp (T.d_is_ledger.F.binds (ps := p_is_ledger) fun _ _ _ _ _ _ us hl => match us, hl with | [_, _, _], _ => rfl) (fun pn xe => (dv_cons (de_var 0 (pv 0)) (dv_cons (de_var 1 (pv 1)) (dv_cons (de_var 2 (pv 2)) dv_nil)))) (gives_tup c.hK T.x_NoLedger (by rw [hC]; rfl) T.nb_isinstance T.k_NoLedger_NoLedger T.k_NoLedger_ValueError (by decide) (by simp) (fun a oe cls d pn hz hf => pe_isX hz hf (pv 3) (pe_glob (v := V.ref T.x_NoLedger.C) (by rfl) T.x_NoLedger.g rfl) (fun u r => r) T.nb_isinstance) (fun a oe cls d pn hz hf => pe_isX hz hf (pv 3) (pe_bltn (v := V.ty "ValueError") (by rfl) T.nb_ValueError (by decide +kernel) rfl) (fun u r => r) T.nb_isinstance) (fun a oe cls d pn hz hf => (pa_cons (pe_xat hz hf (pv 3)) (pa_cons (pe_xat hz hf (pv 3)) pa_nil)))) (hex_of (by rw [hC]; rfl) T.e_NoLedger_WheelError))))
abbrev n__law_deck : List Str := ["_law_script"]
theorem sc__law_deck : FnScope n__law_deck n__law_deck (defScope s__law_deck) := ⟨rfl, rfl, rfl, by decide +kernel, rfl, by decide +kernel, by decide +kernel⟩
theorem ok__law_deck (hP : B.P = P) (hK : B.K = K) (hw : B.w = w) (T : Tx K mg) : FnG P w K mg base CX0 1 T.d__law_deck.f T.d__law_deck.fd n__law_deck (spDeck K) := by
  refine fg_hand hP hK hw T.d__law_deck.F sc__law_deck (fun vs H Q E h => ?_) (fun cdv A outer s H vs Q E c hr h => ?_)
  · obtain ⟨a, ns, rfl, _⟩ := h; rfl
  · obtain ⟨a, ns, rfl, hS, hl, q⟩ := h
    refine ⟨_, pss_one (ps_ret (pe_lst (pa_cons (pe_callTy call_list_of (by rfl) T.nb_list boot_list (pa_cons (pe_slice sl_list (pv 0) po_none (po_some pe_int)) pa_nil)) (pa_cons pe_int (pa_cons pe_int (pa_cons pe_int pa_nil)))))), ?_⟩
    exact deck_read hS hl q rfl
abbrev n_law : List Str := ["_law_script", "_law_deck_here", "_law_again", "_law_wheel_here", "_law_rule_here", "_law_stands_here", "_law_every", "_law_stand", "_law_led_here", "_law_some", "_law_spot", "_law_more", "_law_k", "_law_thing", "_law_time", "_law_held", "_law_due"]
abbrev p_law : List Str := ["_law_script"]
theorem sc_law : FnScope n_law p_law (defScope s_law) := ⟨rfl, rfl, rfl, by decide +kernel, rfl, by decide +kernel, by decide +kernel⟩
def b_law : Sx Dk :=
  (sSeq (sFor (iRg1 (aCons (eC (.int 4)) aNil)) (btN 2)
    (sSeq (sSet 3 (eFn 2 m__law_wheel (aCons (eVar 1) (aCons (eC (.int 200)) aNil))))
    (sSeq (sPar [4, 5] (mVal (eFn 2 m__law_rule (aCons (eVar 1) (aCons (eVar 3) aNil))) (mVal (eFn 1 m__law_stands (aCons (eVar 3) aNil)) mNil)))
    (sSeq (sSet 6 (eCall oDictS (aCons (eL (lLc (iSeq (bVar 5)) (btN 7) xYes (eSeq .tuple (aCons (eCall oRepr (aCons (bVar 7) aNil)) (aCons (eC (.bool true)) aNil))) [7])) aNil)))
    (sSeq (sPar [8, 9] (mVal (eFn 2 m__law_led (aCons (eVar 3) (aCons (eVar 4) aNil))) (mNew (nL (lSeq aNil)) mNil)))
    (sSeq (sFor (iSeq (eVar 8)) (btN 7)
    (sIf (tOf (eBin opIsNot (eFn 3 m__law_deed_of (aCons (eVar 3) (aCons (eVar 4) (aCons (eVar 7) aNil)))) (eC .none)))
    (sApp 9 (eVar 7))
    sNil))
    (sSeq (sSet 10 (eFn 2 m__law_draw (aCons (eVar 1) (aCons (eCall oLen (aCons (bVar 8) aNil)) aNil))))
    (sSeq (sSet 11 (eCall oTuple (aCons (eSortSetS (eBin opAdd (eL (lOf (bVar 8))) (eL (lSeq (aCons (eFn 2 m__law_one (aCons (eVar 1) (aCons (eVar 5) aNil))) aNil))))) aNil)))
    (sSeq (sNew 9 (lSeq (aCons (eVar 8) (aCons (eCall oTuple (aCons (bVar 9) aNil)) (aCons (eVar 11) (aCons (eBin opAdd (eSl (bVar 8) oNone (oSome (bVar 10))) (eSl (bVar 8) (oSome (eBin opAdd (bVar 10) (eC (.int 1)))) oNone)) aNil))))))
    (sSeq (sNew 9 (lCat (bVar 9) (eL (lSeq (aCons (eUn opRev (bVar 8)) (aCons (eL (lOf (bVar 8))) (aCons (eFn 1 m__law_odd (aCons (eVar 1) aNil)) (aCons (eSeq .tuple aNil) aNil))))))))
    (sSeq (sFor (iRg1 (aCons (eC (.int 4)) aNil)) (btN 12)
    (sSeq (sSet 13 (eFn 2 m__law_one (aCons (eVar 1) (aCons (eSl (bVar 9) oNone (oSome (eC (.int 4)))) aNil))))
    (sSeq (sFor (iRg1 (aCons (eBin opAdd (eC (.int 1)) (eFn 2 m__law_draw (aCons (eVar 1) (aCons (eC (.int 3)) aNil)))) aNil)) (btN 14)
    (sSet 13 (eFn 3 m__law_bent (aCons (eVar 1) (aCons (eVar 13) (aCons (eBin opAdd (eC (.int 1)) (eFn 2 m__law_draw (aCons (eVar 1) (aCons (eC (.int 4)) aNil)))) aNil))))))
    (sApp 9 (eVar 13)))))
    (sFrz 9 (sFor (iSeq (eVar 9)) (btN 13)
    (sSeq (sSet 15 (eCall oRepr (aCons (eL (lSeq (aCons (eVar 3) (aCons (eVar 4) (aCons (eVar 13) aNil))))) aNil)))
    (sSeq (sSet 16 (eFn 4 m__law_fault (aCons (eVar 3) (aCons (eVar 4) (aCons (eVar 6) (aCons (eVar 13) aNil))))))
    (sSeq (sIf (tOf (eBin opNe (eCall oRepr (aCons (eFn 3 m__law_told (aCons (eVar 3) (aCons (eVar 4) (aCons (eVar 13) aNil)))) aNil)) (eCall oRepr (aCons (eIf (tOf (eBin opIs (bVar 16) (eC .none))) (eC (.bool true)) (eVar 16)) aNil))))
    (sRet (eC (.bool false)))
    sNil)
    (sIf (tOf (eBin opNe (eCall oRepr (aCons (eL (lSeq (aCons (eVar 3) (aCons (eVar 4) (aCons (eVar 13) aNil))))) aNil)) (bVar 15)))
    (sRet (eC (.bool false)))
    sNil)))))))))))))))))
    (sRet (eC (.bool true))))
theorem ok_law (hP : B.P = P) (hK : B.K = K) (hw : B.w = w) (T : Tx K mg) (hC : B.cls = clsT T) (ht : LawTrue 15 b_law) : FnG P w K mg base CX0 12 T.d_law.f T.d_law.fd p_law (spLaw K) := by
  have g__law_bent := ok__law_bent (P := P) (w := w) (base := base) hP hK hw T hC
  have g__law_deed_of := ok__law_deed_of (P := P) (w := w) (base := base) hP hK hw T hC
  have g__law_draw := ok__law_draw (P := P) (w := w) (base := base) hP hK hw T hC
  have g__law_fault := ok__law_fault (P := P) (w := w) (base := base) hP hK hw T hC
  have g__law_led := ok__law_led (P := P) (w := w) (base := base) hP hK hw T hC
  have g__law_odd := ok__law_odd (P := P) (w := w) (base := base) hP hK hw T hC
  have g__law_one := ok__law_one (P := P) (w := w) (base := base) hP hK hw T hC
  have g__law_rule := ok__law_rule (P := P) (w := w) (base := base) hP hK hw T hC
  have g__law_stands := ok__law_stands (P := P) (w := w) (base := base) hP hK hw T hC
  have g__law_told := ok__law_told (P := P) (w := w) (base := base) hP hK hw T hC
  have g__law_wheel := ok__law_wheel (P := P) (w := w) (base := base) hP hK hw T hC
  have g_deck := ok__law_deck (P := P) (w := w) (base := base) hP hK hw T
  refine fg_hand hP hK hw T.d_law.F sc_law (fun vs H Q E h => ?_) (fun cdv A outer s H vs Q E c hr h => ?_)
  · obtain ⟨a, ns, rfl, _⟩ := h; rfl
  · obtain ⟨a, ns, rfl, hS, hl, k⟩ := h
    have b := T.d__law_deck.F.binds (ps := n__law_deck) fun _ _ _ _ _ _ us hl => match us, hl with | [_], _ => rfl
    have r : DSs (cxP P w K mg base n_law "law" s_law T.d_law.f cdv A outer s H E) B E00 (defBody s_law).tail b_law :=
    (ds_cons (ds_for (vs := [2]) c PassesOwn.never (di_range1 (T.nb_range) (da_cons (de_int).lent da_nil)) (dg_name c.nd 2)
    (ds_cons (ds_set c 3 (de_call c (g__law_wheel) (hr.mono (by decide)) T.d__law_wheel.g T.d__law_wheel.F.kp (T.d__law_wheel.F.binds (ps := p__law_wheel) fun _ _ _ _ _ _ us hl => match us, hl with | [_, _], _ => rfl) (dv_cons (de_var 1 (pv 1)) (dv_cons de_int dv_nil))))
    (ds_cons (ds_par2 c (dm_val (de_call c (g__law_rule) (hr.mono (by decide)) T.d__law_rule.g T.d__law_rule.F.kp (T.d__law_rule.F.binds (ps := p__law_rule) fun _ _ _ _ _ _ us hl => match us, hl with | [_, _], _ => rfl) (dv_cons (de_var 1 (pv 1)) (dv_cons (de_var 3 (pv 3)) dv_nil))) (dm_val (de_call c (g__law_stands) (hr.mono (by decide)) T.d__law_stands.g T.d__law_stands.F.kp (T.d__law_stands.F.binds (ps := p__law_stands) fun _ _ _ _ _ _ us hl => match us, hl with | [_], _ => rfl) (dv_cons (de_var 3 (pv 3)) dv_nil)) dm_nil)))
    (ds_cons (ds_set c 6 (de_typ (op := oDictS) (call_dictP c.calm) (cl_dictS c.hK) (by rfl) (T.nb_dict) (by decide +kernel) (da_cons (((df_lc c (own := [("_law_stand", 7)]) (di_seqB c.hK (db_var 5 (pv 5))) (blkOk_by (own := [("_law_stand", 7)]) (N := n_law) (sc := defScope s_law) (by decide +kernel)) (fun s H C cl fp => (dg_name (c.blk s H _ (compEnvC _ cl C _) fp).nd 7)) (fun s H C cl fp => dts_nil) (fun s H C cl fp => (de_tup (dv_cons (de_fun (op := oRepr) (call_repr (c.blk s H _ (compEnvC _ cl C _) fp).gd (c.blk s H _ (compEnvC _ cl C _) fp).u64) (by rw [← (c.blk s H _ (compEnvC _ cl C _) fp).hK]; exact cl_repr) (by rfl) (T.nb_repr) (by decide +kernel) (da_cons (db_var 7 (pv 7)) da_nil)) (dv_cons de_bl dv_nil)))))).de).lent da_nil)))
    (ds_cons (ds_par2 c (dm_val (de_call c (g__law_led) (hr.mono (by decide)) T.d__law_led.g T.d__law_led.F.kp (T.d__law_led.F.binds (ps := p__law_led) fun _ _ _ _ _ _ us hl => match us, hl with | [_, _], _ => rfl) (dv_cons (de_var 3 (pv 3)) (dv_cons (de_var 4 (pv 4)) dv_nil))) (dm_new ((df_lst dv_nil)).dn dm_nil)))
    (ds_cons (ds_for (vs := [7]) c PassesOwn.never (di_seq c.hK (de_var 8 (pv 8))) (dg_name c.nd 7)
    (ds_one (ds_if (dt_cmp cd_isnot ((de_call c (g__law_deed_of) (hr.mono (by decide)) T.d__law_deed_of.g T.d__law_deed_of.F.kp (T.d__law_deed_of.F.binds (ps := p__law_deed_of) fun _ _ _ _ _ _ us hl => match us, hl with | [_, _, _], _ => rfl) (dv_cons (de_var 3 (pv 3)) (dv_cons (de_var 4 (pv 4)) (dv_cons (de_var 7 (pv 7)) dv_nil))))).lent (de_non).lent)
    (ds_one (ds_app c 9 (pe_bm PySem.F.plainAttrs_list PySem.F.slot_list_append PySem.F.type_list_append mt_append (pv 9) (pa_cons (de_var 7 (pv 7)) pa_nil))))
    ds_nil)))
    (ds_cons (ds_set c 10 (de_call c (g__law_draw) (hr.mono (by decide)) T.d__law_draw.g T.d__law_draw.F.kp (T.d__law_draw.F.binds (ps := p__law_draw) fun _ _ _ _ _ _ us hl => match us, hl with | [_, _], _ => rfl) (dv_cons (de_var 1 (pv 1)) (dv_cons (de_fun (op := oLen) call_len (by rw [← c.hK]; exact cl_len) (by rfl) (T.nb_len) boot_len (da_cons (db_var 8 (pv 8)) da_nil)) dv_nil))))
    (ds_cons (ds_set c 11 (de_typ (op := oTuple) call_tuple_of (by rw [← c.hK]; exact cl_tuple) (by rfl) (T.nb_tuple) boot_tuple (da_cons ((de_sortSetS c (T.nb_sorted) (T.nb_set) ((de_add c.hK (((df_list c.hK (T.nb_list) (db_var 8 (pv 8)))).de).lent (((df_lst (dv_cons (de_call c (g__law_one) (hr.mono (by decide)) T.d__law_one.g T.d__law_one.F.kp (T.d__law_one.F.binds (ps := p__law_one) fun _ _ _ _ _ _ us hl => match us, hl with | [_, _], _ => rfl) (dv_cons (de_var 1 (pv 1)) (dv_cons (de_var 5 (pv 5)) dv_nil))) dv_nil))).de).lent)).lent)).lent da_nil)))
    (ds_cons (ds_new c 9 (df_lst (dv_cons (de_var 8 (pv 8)) (dv_cons (de_typ (op := oTuple) call_tuple_of (by rw [← c.hK]; exact cl_tuple) (by rfl) (T.nb_tuple) boot_tuple (da_cons (db_var 9 (pv 9)) da_nil)) (dv_cons (de_var 11 (pv 11)) (dv_cons (de_add c.hK ((de_sl c.hK (db_var 8 (pv 8)) do_none (do_some (db_var 10 (pv 10))))).lent ((de_sl c.hK (db_var 8 (pv 8)) (do_some ((de_add c.hK (db_var 10 (pv 10)) (de_int).lent)).lent) do_none)).lent) dv_nil))))))
    (ds_cons (ds_new c 9 (df_cat (db_var 9 (pv 9)) (((df_lst (dv_cons (de_rev c.hK (db_var 8 (pv 8))) (dv_cons ((df_list c.hK (T.nb_list) (db_var 8 (pv 8)))).de (dv_cons (de_call c (g__law_odd) (hr.mono (by decide)) T.d__law_odd.g T.d__law_odd.F.kp (T.d__law_odd.F.binds (ps := p__law_odd) fun _ _ _ _ _ _ us hl => match us, hl with | [_], _ => rfl) (dv_cons (de_var 1 (pv 1)) dv_nil)) (dv_cons (de_tup dv_nil) dv_nil)))))).de).lent))
    (ds_cons (ds_for (vs := [12]) c PassesOwn.never (di_range1 (T.nb_range) (da_cons (de_int).lent da_nil)) (dg_name c.nd 12)
    (ds_cons (ds_set c 13 (de_call c (g__law_one) (hr.mono (by decide)) T.d__law_one.g T.d__law_one.F.kp (T.d__law_one.F.binds (ps := p__law_one) fun _ _ _ _ _ _ us hl => match us, hl with | [_, _], _ => rfl) (dv_cons (de_var 1 (pv 1)) (dv_cons (de_sl c.hK (db_var 9 (pv 9)) do_none (do_some (de_int).lent)) dv_nil))))
    (ds_cons (ds_for (vs := [14]) c PassesOwn.never (di_range1 (T.nb_range) (da_cons ((de_add c.hK (de_int).lent ((de_call c (g__law_draw) (hr.mono (by decide)) T.d__law_draw.g T.d__law_draw.F.kp (T.d__law_draw.F.binds (ps := p__law_draw) fun _ _ _ _ _ _ us hl => match us, hl with | [_, _], _ => rfl) (dv_cons (de_var 1 (pv 1)) (dv_cons de_int dv_nil)))).lent)).lent da_nil)) (dg_name c.nd 14)
    (ds_one (ds_set c 13 (de_call c (g__law_bent) (hr.mono (by decide)) T.d__law_bent.g T.d__law_bent.F.kp (T.d__law_bent.F.binds (ps := p__law_bent) fun _ _ _ _ _ _ us hl => match us, hl with | [_, _, _], _ => rfl) (dv_cons (de_var 1 (pv 1)) (dv_cons (de_var 13 (pv 13)) (dv_cons (de_add c.hK (de_int).lent ((de_call c (g__law_draw) (hr.mono (by decide)) T.d__law_draw.g T.d__law_draw.F.kp (T.d__law_draw.F.binds (ps := p__law_draw) fun _ _ _ _ _ _ us hl => match us, hl with | [_, _], _ => rfl) (dv_cons (de_var 1 (pv 1)) (dv_cons de_int dv_nil)))).lent) dv_nil)))))))
    (ds_one (ds_app c 9 (pe_bm PySem.F.plainAttrs_list PySem.F.slot_list_append PySem.F.type_list_append mt_append (pv 9) (pa_cons (de_var 13 (pv 13)) pa_nil)))))))
    (ds_one (ds_frz 9 (ds_for (vs := [13]) c PassesOwn.never (di_seq c.hK (de_var 9 (pv 9))) (dg_name c.nd 13)
    (ds_cons (ds_set c 15 (de_fun (op := oRepr) (call_repr c.gd c.u64) (by rw [← c.hK]; exact cl_repr) (by rfl) (T.nb_repr) (by decide +kernel) (da_cons (((df_lst (dv_cons (de_var 3 (pv 3)) (dv_cons (de_var 4 (pv 4)) (dv_cons (de_var 13 (pv 13)) dv_nil))))).de).lent da_nil)))
    (ds_cons (ds_set c 16 (de_call c (g__law_fault) (hr.mono (by decide)) T.d__law_fault.g T.d__law_fault.F.kp (T.d__law_fault.F.binds (ps := p__law_fault) fun _ _ _ _ _ _ us hl => match us, hl with | [_, _, _, _], _ => rfl) (dv_cons (de_var 3 (pv 3)) (dv_cons (de_var 4 (pv 4)) (dv_cons (de_var 6 (pv 6)) (dv_cons (de_var 13 (pv 13)) dv_nil))))))
    (ds_cons (ds_if (dt_cmp (cd_ne c.hK c.u64) ((de_fun (op := oRepr) (call_repr c.gd c.u64) (by rw [← c.hK]; exact cl_repr) (by rfl) (T.nb_repr) (by decide +kernel) (da_cons ((de_call c (g__law_told) (hr.mono (by decide)) T.d__law_told.g T.d__law_told.F.kp (T.d__law_told.F.binds (ps := p__law_told) fun _ _ _ _ _ _ us hl => match us, hl with | [_, _, _], _ => rfl) (dv_cons (de_var 3 (pv 3)) (dv_cons (de_var 4 (pv 4)) (dv_cons (de_var 13 (pv 13)) dv_nil))))).lent da_nil))).lent ((de_fun (op := oRepr) (call_repr c.gd c.u64) (by rw [← c.hK]; exact cl_repr) (by rfl) (T.nb_repr) (by decide +kernel) (da_cons ((de_if (dt_cmp cd_is (db_var 16 (pv 16)) (de_non).lent) de_bl (de_var 16 (pv 16)))).lent da_nil))).lent)
    (ds_one (ds_ret (de_bl).lent))
    ds_nil)
    (ds_one (ds_if (dt_cmp (cd_ne c.hK c.u64) ((de_fun (op := oRepr) (call_repr c.gd c.u64) (by rw [← c.hK]; exact cl_repr) (by rfl) (T.nb_repr) (by decide +kernel) (da_cons (((df_lst (dv_cons (de_var 3 (pv 3)) (dv_cons (de_var 4 (pv 4)) (dv_cons (de_var 13 (pv 13)) dv_nil))))).de).lent da_nil))).lent (db_var 15 (pv 15)))
    (ds_one (ds_ret (de_bl).lent))
    ds_nil)))))))))))))))))))
    (ds_one (ds_ret (de_bl).lent)))
    refine ⟨_, pss_cons (ps_set (i := 1) sc_law.nd rfl (by first | exact .inl rfl | exact .inr rfl) (pe_callG g_deck (hr.mono (by decide)) c.gd (by rfl) T.d__law_deck.g T.d__law_deck.F.kp b pass0 (pa_cons (pv 0) pa_nil))) r, ?_⟩
    exact law_read hK hS hl rfl ht k
end
end LK
namespace LK
open PySem PySem.Spec PyProof.Rows L2 DL
local macro_rules | `(tactic| wtm_at "z") => `(tactic| first
  | with_reducible refine w_sq ?_
  | with_reducible refine flk_nx ?_
  | with_reducible refine w_set ?_
  | with_reducible refine stt_z ?_
  | with_reducible refine stt_s ?_
  | with_reducible refine w_bin ?_
  | ((with_reducible refine' w_bvar ?e ?_); (case e => exact rfl))
  | ((with_reducible refine' w_var ?e ?_); (case e => exact rfl))
  | with_reducible refine w_c ?_
  | with_reducible refine bv_add ?_
  | with_reducible refine bv_sub ?_
  | with_reducible refine bv_rel ?_
  | with_reducible refine bv_mul ?_ ?_
  | with_reducible refine bv_div ?_ ?_
  | with_reducible refine bv_mod ?_ ?_
  | with_reducible refine bv_pow ?_ ?_
  | with_reducible refine bv_addT ?_ ?_
  | with_reducible refine bv_addL ?_ ?_
  | with_reducible refine bv_mulT ?_ ?_
  | with_reducible refine bv_ix0 ?_
  | with_reducible refine bv_ix0L ?_
  | ((with_reducible refine' bv (op := opIx) ?e ?_); (case e => exact rfl))
  | with_reducible refine bv_isB ?_
  | with_reducible refine bv_isNotB ?_
  | with_reducible refine bv_eqN ?_
  | with_reducible refine bv_neN ?_
  | with_reducible refine bv_eqB ?_
  | with_reducible refine bv_neB ?_
  | with_reducible refine w_anil ?_
  | with_reducible refine w_acons ?_
  | with_reducible refine w_call ?_
  | with_reducible refine w_fn ?_
  | with_reducible refine fw rfl ?_
  | with_reducible refine w_tof ?_
  | with_reducible refine tv ?_
  | with_reducible refine iv ?_
  | with_reducible refine w_not ?_
  | with_reducible refine w_and ?_
  | with_reducible refine w_or ?_
  | with_reducible refine w_yes ?_
  | with_reducible refine w_if ?_
  | with_reducible refine br_t ?_
  | with_reducible refine br_f ?_
  | with_reducible refine w_ret ?_
  | with_reducible refine rtk_rt ?_
  | with_reducible refine rtk_nx ?_
  | with_reducible refine flk_rt ?_
  | with_reducible refine flk_bk ?_
  | with_reducible refine flk_ct ?_
  | with_reducible refine w_nil ?_
  | with_reducible refine lpk_nx ?_
  | with_reducible refine lpk_ct ?_
  | with_reducible refine lpk_bk ?_
  | with_reducible refine lpk_rt ?_
  | with_reducible refine w_eL ?_
  | with_reducible refine w_iseq ?_
  | with_reducible refine w_lof ?_
  | with_reducible refine sv_l ?_
  | with_reducible refine sv_t ?_
  | with_reducible refine w_zip ?_
  | with_reducible refine zv_l ?_
  | with_reducible refine zv_t ?_
  | with_reducible refine w_lc ?_
  | with_reducible refine cv_lenL ?_
  | with_reducible refine cv_lenT ?_
  | with_reducible refine cv_abs ?_
  | with_reducible refine cv_int ?_
  | with_reducible refine cv_tupL ?_
  | with_reducible refine cv_tupT ?_
  | with_reducible refine cv_listL ?_
  | with_reducible refine cv_listT ?_
  | with_reducible refine w_sl ?_
  | with_reducible refine w_onone ?_
  | with_reducible refine w_osome ?_
  | with_reducible refine uv_slT ?_
  | with_reducible refine uv_slL ?_
  | with_reducible refine w_un ?_
  | with_reducible refine uv_neg ?_
  | with_reducible refine w_eand ?_
  | with_reducible refine w_eor ?_
  | with_reducible refine w_enot ?_
  | with_reducible refine w_eif ?_
  | with_reducible refine w_chain ?_
  | with_reducible refine w_seqD ?_
  | with_reducible refine w_lseq ?_
  | with_reducible refine dvl_nil ?_
  | with_reducible refine dvl_cons ?_
  | with_reducible refine w_for ?_
  | with_reducible refine w_rg1 ?_
  | with_reducible refine w_rg2 ?_
  | with_reducible refine w_rg3 ?_
  | with_reducible refine rg3 ?_ ?_
  | with_reducible refine rg1 ?_ ?_
  | with_reducible refine rg2 ?_ ?_
  | with_reducible refine w_new ?_
  | with_reducible refine w_newN ?_
  | with_reducible refine w_nL ?_
  | with_reducible refine w_nD ?_
  | with_reducible refine w_par ?_
  | with_reducible refine w_mval ?_
  | with_reducible refine w_mnew ?_
  | with_reducible refine w_mnil ?_
  | with_reducible refine sts_c ?_
  | with_reducible refine sts_n ?_
  | with_reducible refine w_brk ?_
  | with_reducible refine w_cnt ?_
  | with_reducible refine w_drop ?_
  | with_reducible refine w_retN ?_
  | ((with_reducible refine' w_frzL ?e ?_); (case e => exact rfl))
  | ((with_reducible refine' w_moveL ?e ?n ?_); (case e => exact rfl); (case n => decide))
  | ((with_reducible refine' w_ext ?e ?_); (case e => exact rfl))
  | ((with_reducible refine' w_app ?e ?_); (case e => exact rfl))
  | ((with_reducible refine' w_bvarL ?e ?_); (case e => exact rfl))
  | ((with_reducible refine' w_dk ?e ?x ?_); (case e => exact rfl); (case x => exact rfl))
  | ((with_reducible refine' w_dkne ?e ?_); (case e => exact rfl))
  | ((with_reducible refine' w_dkl ?e ?_); (case e => exact rfl))
  | ((with_reducible refine' w_dkc ?e ?_); (case e => exact rfl))
  | ((with_reducible refine' w_sdk ?e ?x ?_); (case e => exact rfl); (case x => decide))
  | ((with_reducible refine w_run ?_); dsimp only [List.map, List.replicate, List.append, HAppend.hAppend, Append.append])
  | ((with_reducible refine lenok ?e ?_); (case e => exact Nat.le_of_ble_eq_true rfl))
  | ((with_reducible refine ck ?e ?_); (case e => exact rfl))
  )
local macro_rules | `(tactic| wtm_at "z") => `(tactic| first
  | with_reducible refine w_m1 ?_
  | with_reducible refine xv ?_
  | with_reducible refine w_tsl ?_
  | with_reducible refine w_itxt ?_
  | with_reducible refine w_fnX ?_
  | with_reducible refine w_fnBX ?_
  | with_reducible refine fwX rfl ?_
  | with_reducible refine w_rz ?_
  )
theorem w_putN {S : Type} {T : Exn → S → Prop} {s : S} {ρ : DL.Env} {i : Nat} {fi f : Ex S} {kvs : List (PyData × PyData)} {Q : Fl → S → Prop} (e : ρ[i]? = some (.m kvs))
    (h : WT T (f ρ s) fun y s1 => WT T (fi ρ s1) fun k s2 => ∃ z kd kk, y = .d z ∧ k = .d kd ∧ tupKey kd = some kk ∧ (kvs.length < sizeLine ∧ allN kvs = true) ∧ Stt (ρ.set i (.m (dPutN kvs kd z kk))) fun ρ1 => Q (.nx ρ1) s2) : WT T (sPutN i fi f ρ s) Q := by
  unfold sPutN
  refine w_bind (h.mono fun y s1 h => ?_)
  rw [e]
  refine w_bind (h.mono fun k s2 ⟨z, kd, kk, hy, hk, ht, hc, q⟩ => ?_)
  subst hy hk
  show WT T (match tupKey kd with | some kk => _ | none => _) Q
  rw [ht]
  show WT T (if _ then _ else _) Q
  rw [if_pos hc]
  exact ⟨q⟩
theorem w_keysN {S : Type} {T : Exn → S → Prop} {s : S} {ρ : DL.Env} {f : Ex S} {Q : List PyData → S → Prop} (h : WT T (f ρ s) fun y s1 => ∃ kvs, y = .d (.dict kvs) ∧ (allN kvs = true ∧ kvs ≠ []) ∧ Q (kvs.map (·.1)) s1) : WT T (iKeysN f ρ s) Q := by
  unfold iKeysN
  refine w_bind (h.mono fun y s1 ⟨kvs, hy, hc, q⟩ => ?_)
  subst hy
  show WT T (if _ then _ else _) Q
  rw [if_pos hc]
  exact ⟨q⟩
theorem w_valsN {S : Type} {T : Exn → S → Prop} {s : S} {ρ : DL.Env} {f : Ex S} {Q : List PyData → S → Prop} (h : WT T (f ρ s) fun y s1 => ∃ kvs, y = .d (.dict kvs) ∧ (allN kvs = true ∧ kvs ≠ []) ∧ Q (kvs.map (·.2)) s1) : WT T (iValsN f ρ s) Q := by
  unfold iValsN
  refine w_bind (h.mono fun y s1 ⟨kvs, hy, hc, q⟩ => ?_)
  subst hy
  show WT T (if _ then _ else _) Q
  rw [if_pos hc]
  exact ⟨q⟩
theorem w_dEmp {S : Type} {T : Exn → S → Prop} {s : S} {ρ : DL.Env} {f : Ex S} {Q : Val → S → Prop} (h : WT T (f ρ s) fun y s1 => ∃ kvs, y = .d (.dict kvs) ∧ Q (.d (.bool kvs.isEmpty)) s1) : WT T (eDEmp f ρ s) Q := by
  unfold eDEmp
  refine w_bind (h.mono fun y s1 ⟨kvs, hy, q⟩ => ?_)
  subst hy
  exact ⟨q⟩
theorem w_enuT {S : Type} {T : Exn → S → Prop} {s : S} {ρ : DL.Env} {f : Ex S} {Q : List PyData → S → Prop} (h : WT T (f ρ s) fun y s1 => ∃ ds, y = .d (.tuple ds) ∧ Q ((List.range ds.length).zipWith (fun i d => PyData.tuple [.int (i : Nat), d]) ds) s1) : WT T (iEnuT f ρ s) Q := by
  unfold iEnuT
  refine w_bind (h.mono fun y s1 ⟨kvs, hy, q⟩ => ?_)
  subst hy
  exact ⟨q⟩
theorem w_frzM {S : Type} {T : Exn → S → Prop} {s : S} {ρ : DL.Env} {g1 : Sx S} {i : Nat} {kvs : List (PyData × PyData)} {Q : Fl → S → Prop} (e : ρ[i]? = some (.m kvs)) (h : Stt (ρ.set i (.v (.d (.dict kvs)))) fun ρ1 => WT T (g1 ρ1 s) Q) : WT T (sFrz i g1 ρ s) Q := by
  unfold sFrz frz
  rw [e]
  exact h
theorem w_moveM {S : Type} {T : Exn → S → Prop} {s : S} {ρ : DL.Env} {i j : Nat} {kvs : List (PyData × PyData)} {Q : Fl → S → Prop} (e : ρ[j]? = some (.m kvs)) (hn : i ≠ j) (h : Stt (ρ.set j .no) fun ρ1 => Stt (ρ1.set i (.m kvs)) fun ρ2 => Q (.nx ρ2) s) : WT T (sMove i j ρ s) Q := by
  unfold sMove
  rw [e]
  show WT T (if i = j then _ else _) Q
  rw [if_neg hn]
  exact ⟨h⟩
theorem w_moveV {S : Type} {T : Exn → S → Prop} {s : S} {ρ : DL.Env} {i j : Nat} {y : Val} {Q : Fl → S → Prop} (e : ρ[j]? = some (.v y)) (h : Stt (ρ.set i (.v y)) fun ρ2 => Q (.nx ρ2) s) : WT T (sMove i j ρ s) Q := by
  unfold sMove
  rw [e]
  exact ⟨h⟩
local macro_rules | `(tactic| wtm_at "z") => `(tactic| first
  | with_reducible refine w_keysN ?_
  | with_reducible refine w_valsN ?_
  | with_reducible refine w_dEmp ?_
  | with_reducible refine w_enuT ?_
  | ((with_reducible refine' w_putN ?e ?_); (case e => exact rfl))
  | ((with_reducible refine' w_frzM ?e ?_); (case e => exact rfl))
  | ((with_reducible refine' w_moveM ?e ?n ?_); (case e => exact rfl); (case n => decide))
  | ((with_reducible refine' w_moveV ?e ?_); (case e => exact rfl))
  | ((with_reducible refine' w_bvarM ?e ?_); (case e => exact rfl))
  )
theorem w_sortSetS {S : Type} {T : Exn → S → Prop} {s : S} {ρ : DL.Env} {f : Ex S} {Q : Val → S → Prop} (h : WT T (f ρ s) fun y s1 => ∃ ds zs, y = .d (.list ds) ∧ SetS ds zs ∧ Q (.d (.list zs)) s1) : WT T (eSortSetS f ρ s) Q := by
  unfold eSortSetS
  refine w_bind (h.mono fun y s1 ⟨ds, zs, hy, hc, q⟩ => ?_)
  subst hy
  show WT T (match oSetS ds with | some zs => _ | none => _) Q
  rw [oSetS_of hc]
  exact ⟨q⟩
local macro_rules | `(tactic| wtm_at "z") => `(tactic| first
  | with_reducible refine w_sortSetS ?_
  )
theorem w_lFn {S : Type} {T : Exn → S → Prop} {s : S} {ρ : DL.Env} {n : Nat} {F : List Val → S → Out S (List PyData)} {g : Exs S} {Q : List PyData → S → Prop} (h : WT T (g ρ s) fun ys s1 => ys.length = n ∧ ∃ ds s2, F ys s1 = .ok ds s2 ∧ Q ds s2) : WT T (lFn n F g ρ s) Q := by
  unfold lFn
  refine w_bind (h.mono fun ys s1 ⟨hl, ds, s2, e, q⟩ => ?_)
  rw [if_pos hl, e]
  exact ⟨q⟩
theorem runN_of {n : Nat} {f : Lx Dk} {ys : List Val} {s s' : Dk} {ds : List PyData} (h : runF n (sRet (eL f)) ys s = .ok (.d (.list ds)) s') : DL.runN n f ys s = .ok ds s' := by
  unfold DL.runN
  unfold runF sRet eL at h
  cases hz : f (ys.map .v ++ List.replicate n .no) s with
  | bad => rw [hz] at h; cases h
  | ex e s1 => rw [hz] at h; cases h
  | ok zs s1 =>
    rw [hz] at h
    cases h
    rfl
local macro_rules | `(tactic| wtm_at "z") => `(tactic| first
  | with_reducible refine w_lFn ?_
  )
structure KEnc {κ : Type} (ke : κ → PyData) (kk : κ → NestedKey) : Prop where
  tk : ∀ k, tupKey (ke k) = some (kk k)
  inj : ∀ a b, kk a = kk b → a = b
theorem KEnc.key {κ : Type} {ke : κ → PyData} {kk : κ → NestedKey} (E : KEnc ke kk) (k : κ) : keyD (ke k) = some (kk k) := (tupKey_some (E.tk k)).1
def encM {κ β : Type} (ke : κ → PyData) (ve : β → PyData) (l : List (κ × β)) : List (PyData × PyData) := l.map fun p => (ke p.1, ve p.2)
def getK {κ β : Type} [DecidableEq κ] (l : List (κ × β)) (k : κ) : Option β := (l.find? fun p => decide (p.1 = k)).map (·.2)
def putK {κ β : Type} [DecidableEq κ] (l : List (κ × β)) (k : κ) (v : β) : List (κ × β) :=
  if (getK l k).isSome then l.map (fun p => if p.1 = k then (p.1, v) else p) else l ++ [(k, v)]
theorem encM_all {κ β : Type} {ke : κ → PyData} {kk : κ → NestedKey} (E : KEnc ke kk) (ve : β → PyData) (l : List (κ × β)) : allN (encM ke ve l) = true := by
  unfold allN encM
  rw [List.all_map]
  exact List.all_eq_true.mpr fun p _ => by
    show (tupKey (ke p.1)).isSome = true
    rw [E.tk]
    rfl
theorem encM_get {κ β : Type} [DecidableEq κ] {ke : κ → PyData} {kk : κ → NestedKey} (E : KEnc ke kk) (ve : β → PyData) (l : List (κ × β)) (k : κ) : dGetN (encM ke ve l) (kk k) = (getK l k).map ve := by
  unfold dGetN encM getK
  rw [List.find?_map, Option.map_map, Option.map_map]
  have e : ((fun p : PyData × PyData => decide (keyD p.1 = some (kk k))) ∘ fun p : κ × β => (ke p.1, ve p.2)) = fun p => decide (p.1 = k) := by
    funext p
    show decide (keyD (ke p.1) = some (kk k)) = decide (p.1 = k)
    rw [E.key]
    refine decide_eq_decide.mpr ⟨fun h => E.inj _ _ (Option.some.inj h), fun h => by rw [h]⟩
  rw [e]
  rfl
theorem encM_put {κ β : Type} [DecidableEq κ] {ke : κ → PyData} {kk : κ → NestedKey} (E : KEnc ke kk) (ve : β → PyData) (l : List (κ × β)) (k : κ) (v : β) : dPutN (encM ke ve l) (ke k) (ve v) (kk k) = encM ke ve (putK l k v) := by
  unfold dPutN putK
  rw [encM_get E]
  have e : ((getK l k).map ve).isSome = (getK l k).isSome := by cases getK l k <;> rfl
  rw [e]
  split
  · unfold encM
    rw [List.map_map, List.map_map]
    refine List.map_congr_left fun p _ => ?_
    show (if keyD (ke p.1) = some (kk k) then (ke p.1, ve v) else (ke p.1, ve p.2)) = (ke (if p.1 = k then (p.1, v) else p).1, ve (if p.1 = k then (p.1, v) else p).2)
    rw [E.key]
    by_cases h : p.1 = k
    · rw [if_pos h, h, if_pos rfl]
    · rw [if_neg h, if_neg fun h' => h (E.inj _ _ (Option.some.inj h'))]
  · unfold encM
    rw [List.map_append]
    rfl
theorem getK_mem {κ β : Type} [DecidableEq κ] {l : List (κ × β)} {k : κ} {v : β} (h : getK l k = some v) : (k, v) ∈ l := by
  unfold getK at h
  cases e : l.find? fun p => decide (p.1 = k) with
  | none => rw [e] at h; cases h
  | some p =>
    rw [e] at h
    have h1 := List.mem_of_find?_eq_some e
    have h2 := List.find?_some e
    have h2 : p.1 = k := of_decide_eq_true h2
    have h : p.2 = v := Option.some.inj h
    rw [← h, ← h2]
    exact h1
theorem getK_none {κ β : Type} [DecidableEq κ] {l : List (κ × β)} {k : κ} (h : getK l k = none) : ∀ p ∈ l, p.1 ≠ k := by
  unfold getK at h
  rw [Option.map_eq_none_iff, List.find?_eq_none] at h
  exact fun p hp e => h p hp (decide_eq_true e)
theorem getK_of {κ β : Type} [DecidableEq κ] {l : List (κ × β)} {p : κ × β} (hn : (l.map (·.1)).Nodup) (h : p ∈ l) : getK l p.1 = some p.2 := by
  cases e : getK l p.1 with
  | none => exact absurd rfl (getK_none e p h)
  | some v =>
    have hm := getK_mem e
    have : ∀ {l : List (κ × β)}, (l.map (·.1)).Nodup → ∀ {k v w}, (k, v) ∈ l → (k, w) ∈ l → v = w := by
      intro l
      induction l with
      | nil => intro _ k v w h; cases h
      | cons x xs ih =>
        intro hn k v w h1 h2
        rw [List.map_cons, List.nodup_cons] at hn
        rcases List.mem_cons.mp h1 with e1 | h1
        · rcases List.mem_cons.mp h2 with e2 | h2
          · have := e1.trans e2.symm; injection this
          · rw [← e1] at hn
            exact absurd (List.mem_map.mpr ⟨(k, w), h2, rfl⟩) hn.1
        · rcases List.mem_cons.mp h2 with e2 | h2
          · rw [← e2] at hn
            exact absurd (List.mem_map.mpr ⟨(k, v), h1, rfl⟩) hn.1
          · exact ih hn.2 h1 h2
    rw [this hn hm h]
theorem mem_putK {κ β : Type} [DecidableEq κ] {l : List (κ × β)} {k : κ} {v : β} {p : κ × β} (h : p ∈ putK l k v) : p = (k, v) ∨ p ∈ l ∧ p.1 ≠ k := by
  unfold putK at h
  split at h
  · obtain ⟨q, hq, rfl⟩ := List.mem_map.mp h
    by_cases e : q.1 = k
    · rw [if_pos e, e]; exact .inl rfl
    · rw [if_neg e]; exact .inr ⟨hq, e⟩
  · rename_i hn
    rcases List.mem_append.mp h with h | h
    · exact .inr ⟨h, getK_none (by cases e : getK l k with | none => rfl | some _ => rw [e] at hn; exact absurd rfl hn) p h⟩
    · exact .inl (List.mem_singleton.mp h)
theorem putK_nodup {κ β : Type} [DecidableEq κ] {l : List (κ × β)} (k : κ) (v : β) (h : (l.map (·.1)).Nodup) : ((putK l k v).map (·.1)).Nodup := by
  unfold putK
  split
  · rw [List.map_map]
    have e : l.map ((fun p : κ × β => p.1) ∘ fun p => if p.1 = k then (p.1, v) else p) = l.map (·.1) := List.map_congr_left fun p _ => by
      show (if p.1 = k then (p.1, v) else p).1 = p.1
      split <;> rfl
    rw [e]
    exact h
  · rename_i hn
    rw [List.map_append, List.nodup_append]
    refine ⟨h, by simp, fun a ha b hb => ?_⟩
    have hb : b = k := by simpa using hb
    obtain ⟨p, hp, rfl⟩ := List.mem_map.mp ha
    rw [hb]
    exact getK_none (by cases e : getK l k with | none => rfl | some _ => rw [e] at hn; exact absurd rfl hn) p hp
theorem nodup_len {α : Type} [DecidableEq α] : ∀ {l m : List α}, l.Nodup → (∀ x ∈ l, x ∈ m) → l.length ≤ m.length
  | [], _, _, _ => Nat.zero_le _
  | x :: xs, m, hn, hs => by
    rw [List.nodup_cons] at hn
    have hx := hs x (by simp)
    have h1 := nodup_len (l := xs) (m := m.erase x) hn.2 fun y hy => (List.mem_erase_of_ne (fun e => hn.1 (by rw [← e]; exact hy))).mpr (hs y (by simp [hy]))
    have h2 := List.length_erase_of_mem hx
    have h3 := List.length_pos_of_mem hx
    rw [List.length_cons]
    omega
theorem bv_inN {S : Type} {s : S} {Q : Val → S → Prop} {κ β : Type} [DecidableEq κ] {ke : κ → PyData} {kk : κ → NestedKey} (E : KEnc ke kk) {ve : β → PyData} (l : List (κ × β)) (k : κ) (q : Q (.d (.bool (getK l k).isSome)) s) : BV opInN (.d (ke k)) (.d (.dict (encM ke ve l))) s Q := by
  refine bv ?_ q
  show (match tupKey (ke k) with | some k => if allN (encM ke ve l) then some (PyData.bool (dGetN (encM ke ve l) k).isSome) else none | none => none) = _
  rw [E.tk]
  show (if allN (encM ke ve l) = true then some (PyData.bool (dGetN (encM ke ve l) (kk k)).isSome) else none) = _
  rw [if_pos (encM_all E ve l), encM_get E]
  cases getK l k <;> rfl
theorem bv_notInN {S : Type} {s : S} {Q : Val → S → Prop} {κ β : Type} [DecidableEq κ] {ke : κ → PyData} {kk : κ → NestedKey} (E : KEnc ke kk) {ve : β → PyData} (l : List (κ × β)) (k : κ) (q : Q (.d (.bool (!(getK l k).isSome))) s) : BV opNotInN (.d (ke k)) (.d (.dict (encM ke ve l))) s Q := by
  refine bv ?_ q
  show (match tupKey (ke k) with | some k => if allN (encM ke ve l) then some (PyData.bool (!(dGetN (encM ke ve l) k).isSome)) else none | none => none) = _
  rw [E.tk]
  show (if allN (encM ke ve l) = true then some (PyData.bool (!(dGetN (encM ke ve l) (kk k)).isSome)) else none) = _
  rw [if_pos (encM_all E ve l), encM_get E]
  cases getK l k <;> rfl
theorem bv_dixN {S : Type} {s : S} {Q : Val → S → Prop} {κ β : Type} [DecidableEq κ] {ke : κ → PyData} {kk : κ → NestedKey} (E : KEnc ke kk) {ve : β → PyData} {l : List (κ × β)} {k : κ} {v : β} (h : getK l k = some v) (q : Q (.d (ve v)) s) : BV opDIxN (.d (.dict (encM ke ve l))) (.d (ke k)) s Q := by
  refine bv ?_ q
  show (match tupKey (ke k) with | some k => if allN (encM ke ve l) then dGetN (encM ke ve l) k else none | none => none) = _
  rw [E.tk]
  show (if allN (encM ke ve l) = true then dGetN (encM ke ve l) (kk k) else none) = _
  rw [if_pos (encM_all E ve l), encM_get E, h]
  rfl
/-- a wheel -/
structure Wh where
  ws : List Int
  room : Int
  sizes : List Int
  lo : Int
  hi : Int
  pat : Int
  look : Int
abbrev iT (xs : List Int) : PyData := .tuple (xs.map .int)
def Wh.d (w : Wh) : PyData := .tuple [iT w.ws, .int w.room, iT w.sizes, .tuple [.int w.lo, .int w.hi], .int w.pat, .int w.look]
def dotL (ws ls : List Int) : Int := ((ws.zip ls).map fun p => p.1 * p.2).sum
def SmallL (ws : List Int) : Prop := ws.length ≤ 1000 ∧ ∀ w ∈ ws, -(2 ^ 64) < w ∧ w < 2 ^ 64
theorem zip_ints (a b : List Int) : zipD (a.map .int) (b.map .int) = (a.zip b).map fun p => .tuple [.int p.1, .int p.2] := by
  unfold zipD
  rw [List.zip_map, List.map_map]
  rfl
theorem lean_eq (w : Wh) (ls : List Int) (hw : SmallL w.ws) (s : Dk) : m_lean [.d w.d, .d (iT ls)] s = .ok (.d (.int (dotL w.ws ls))) s := by
  refine w_eq ?_
  unfold m_lean b_lean Wh.d iT
  repeat wtm_at "z"
  rw [zip_ints]
  refine ⟨by rw [List.length_map, List.length_zip]; have := hw.1; have := sizeLine_big; omega, ?_⟩
  refine lc_mapOf _ (fun p => .int (p.1 * p.2)) _ (fun p hp => item1 rfl ?_) ?_
  · repeat wtm_at "z"
    · exact ⟨_, rfl, rfl, rfl⟩
    · exact .inl (hw.2 _ (List.of_mem_zip hp).1)
  · repeat wtm_at "z"
    refine cv_sum ?_
    repeat wtm_at "z"
    exact ⟨rfl, rfl⟩
theorem rep0 (n : Nat) : (List.replicate n [PyData.int 0]).flatten = (List.replicate n (0 : Int)).map .int := by
  induction n with
  | zero => rfl
  | succ n ih => rw [List.replicate_succ, List.flatten_cons, ih]; rfl
def Wh.up (w : Wh) (ls : List Int) : Bool := decide (w.lo ≤ dotL w.ws ls) && decide (dotL w.ws ls ≤ w.hi)
theorem is_upright_eq (w : Wh) (ls : List Int) (hw : SmallL w.ws) (s : Dk) : m_is_upright [.d w.d, .d (iT ls)] s = .ok (.d (.bool (w.up ls))) s := by
  refine w_eq ?_
  unfold m_is_upright b_is_upright
  repeat wtm_at "z"
  refine w_unp ?_
  repeat wtm_at "z"
  refine ⟨_, _, rfl, rfl, ?_⟩
  repeat wtm_at "z"
  refine w_of (lean_eq w ls hw _) ?_
  repeat wtm_at "z"
  unfold Wh.up
  refine br_dec (fun h => ?_) fun h => ?_
  · repeat wtm_at "z"
    refine w_of (lean_eq w ls hw _) ?_
    repeat wtm_at "z"
    exact ⟨by rw [decide_eq_true h]; rfl, rfl⟩
  · repeat wtm_at "z"
    exact ⟨by rw [decide_eq_false h]; rfl, rfl⟩
def turnL (ls : List Int) : List Int := 0 :: ls.dropLast
theorem turned_loads_eq (ls : List Int) (hl : ls.length ≤ 1000) (s : Dk) : m_turned_loads [.d (iT ls)] s = .ok (.d (iT (turnL ls))) s := by
  refine w_eq ?_
  unfold m_turned_loads b_turned_loads iT
  repeat wtm_at "z"
  · rw [cut_init]
    refine ⟨?_, rfl⟩
    unfold turnL
    simp [List.map_dropLast]
  · rw [cut_init]
    have := sizeLine_big
    simp
    omega
structure DkOk (k : Int) (s : Dk) : Prop where
  beg : 0 ≤ s.beg
  d0 : 0 ≤ s.drw
  dk : s.drw ≤ k
theorem dr1 (c d : Int) (h0 : 0 ≤ d) (h1 : d ≤ 1000000000) : (0 : Int) ≤ 5 ∧ (5 : Int) ≤ 1000000 ∧ (c % 2147483629 + 49979687 * d).natAbs < 2 ^ 64 := by omega
theorem dr2 (z d : Int) (h0 : 0 ≤ d) (h1 : d ≤ 1000000000) : (0 : Int) ≤ 3 ∧ (3 : Int) ≤ 1000000 ∧ (z % 2147483647 * (2 * d + 3) + 8887).natAbs < 2 ^ 64 := by
  have m0 := Int.emod_nonneg z (by decide : (2147483647 : Int) ≠ 0)
  have m1 := Int.emod_lt_of_pos z (by decide : (0 : Int) < 2147483647)
  generalize z % 2147483647 = m at *
  have a := Int.mul_nonneg m0 (by omega : 0 ≤ 2 * d + 3)
  have b := Int.mul_le_mul (by omega : m ≤ 2147483646) (by omega : 2 * d + 3 ≤ 2000000003) (by omega) (by decide)
  refine ⟨by decide, by decide, ?_⟩
  omega
theorem draw_ok (n : Int) (h0 : 0 < n) (h1 : n < 1073741824) {s : Dk} {k : Int} (hs : DkOk k s) (hk : k < 1000000000) {Q : Val → Dk → Prop} (q : ∀ r s', 0 ≤ r → r < n → DkOk (k + 1) s' → s'.dk = s.dk → Q (.d (.int r)) s') :
    W (m__law_draw [.r (.ref s.dk), .d (.int n)] s) Q := by
  have hd0 := hs.d0
  have hdk := hs.dk
  have hb := hs.beg
  unfold m__law_draw b__law_draw
  repeat wtm_at "z"
  refine br_dec (fun hl => ?_) fun hl => ?_
  · repeat wtm_at "z"
    · exact q _ _ (Int.emod_nonneg _ (by omega)) (Int.emod_lt_of_pos _ h0) ⟨hb, (by show 0 ≤ s.drw + 1; omega), (by show s.drw + 1 ≤ k + 1; omega)⟩ rfl
    · exact ⟨h0, h1⟩
    · exact h0
  · repeat wtm_at "z"
    have hlen : (!s.cells.isEmpty) = true → (0 : Int) < s.cells.length := fun hc => by
      cases e : s.cells with
      | nil => rw [e] at hc; cases hc
      | cons a b => simp
    refine br_join (fun fl s1 => ∃ c : Int, fl = .nx [.v (.r (.ref s.dk)), .v (.d (.int n)), .no, .v (.d (.int c)), .no] ∧ s1 = s.put 3 (s.drw + 1)) (fun hc => ?_) (fun hc => ?_) ?_
    · repeat wtm_at "z"
      · have hp := hlen hc
        obtain ⟨_, e⟩ := atI_get (xs := s.cells) (i := s.beg % (s.cells.length : Int)) (Int.emod_nonneg _ (by omega)) (Int.emod_lt_of_pos _ hp)
        refine ⟨_, e, ?_⟩
        repeat wtm_at "z"
        exact ⟨_, rfl, rfl⟩
      · exact hlen hc
    · repeat wtm_at "z"
      exact ⟨_, rfl, rfl⟩
    · rintro fl s1 ⟨c, rfl, rfl⟩
      repeat wtm_at "z"
      refine br_joinA (fun b s1 => s1 = (s.put 3 (s.drw + 1)).put 1 (s.beg + 1)) (fun _ => ?_) (fun _ => ?_) ?_
      · repeat wtm_at "z"
        rfl
      · rfl
      · rintro b s1 rfl
        refine br (fun hb => ?_) fun hb => ?_
        · repeat wtm_at "z"
          · exact q _ _ (Int.emod_nonneg _ (by omega)) (Int.emod_lt_of_pos _ h0) ⟨(by show 0 ≤ s.beg + 1; omega), (by show 0 ≤ s.drw + 1; omega), (by show s.drw + 1 ≤ k + 1; omega)⟩ rfl
          · exact h0
          · exact ⟨h0, h1⟩
        · have ed : ((s.put 3 (s.drw + 1)).put 1 (s.beg + 1)).drw = s.drw + 1 := rfl
          repeat wtm_at "z"
          · exact q _ _ (Int.emod_nonneg _ (by omega)) (Int.emod_lt_of_pos _ h0) ⟨(by show 0 ≤ s.beg + 1; omega), (by show 0 ≤ s.drw + 1; omega), (by show s.drw + 1 ≤ k + 1; omega)⟩ rfl
          · exact h0
          · exact ⟨by decide, by decide⟩
          · decide
          · exact dr2 _ _ (by omega) (by omega)
          · exact .inr ⟨by omega, by omega⟩
          · exact .inl ⟨by decide, by decide⟩
          · decide
          · exact dr1 _ _ (by omega) (by omega)
          · exact .inl ⟨by decide, by decide⟩
          · decide
      · exact ⟨by decide, by decide, by decide⟩
theorem DkOk.le {k k' : Int} {s : Dk} (h : DkOk k s) (e : k ≤ k') : DkOk k' s := ⟨h.beg, h.d0, Int.le_trans h.dk e⟩
theorem one_ok {ds : List PyData} (h0 : 0 < ds.length) (h1 : ds.length < 1000000) {s : Dk} {k : Int} (hs : DkOk k s) (hk : k < 1000000000) {Q : Val → Dk → Prop} (q : ∀ d s', d ∈ ds → DkOk (k + 1) s' → s'.dk = s.dk → Q (.d d) s') :
    W (m__law_one [.r (.ref s.dk), .d (.list ds)] s) Q := by
  unfold m__law_one b__law_one
  repeat wtm_at "z"
  refine draw_ok _ (by omega) (by omega) hs hk fun r s' r0 r1 ok' e => ?_
  obtain ⟨h, e2⟩ := atI_get r0 r1
  refine bv (op := opIx) e2 ?_
  repeat wtm_at "z"
  exact q _ _ (List.getElem_mem _) ok' e
/-- the counting of a wheel's stands -/
def cntL (n : Nat) (room : Int) (z : Nat) (pat look : Int) : Int := (pat + 1) * (room + 1) ^ n * (z : Int) ^ look.toNat
theorem count_eq (ws : List PyData) (room : Int) (zs : List PyData) (pat look : Int) (hr : 0 ≤ room ∧ room < 1000) (hz : zs.length < 1000) (hl : 0 ≤ look ∧ look < 1000) (s : Dk) :
    m__law_count [.d (.list ws), .d (.int room), .d (.tuple zs), .d (.int pat), .d (.int look)] s = .ok (.d (.int (cntL ws.length room zs.length pat look))) s := by
  refine w_eq ?_
  unfold m__law_count b__law_count
  repeat wtm_at "z"
  refine for_inv (fun n ρ s' => s' = s ∧ ∃ x, ρ = [.v (.d (.list ws)), .v (.d (.int room)), .v (.d (.tuple zs)), .v (.d (.int pat)), .v (.d (.int look)), .v (.d (.int ((pat + 1) * (room + 1) ^ n))), x, .no]) ws 0 ⟨rfl, .no, by simp⟩ ?_ ?_
  · rintro n d hd ρ s' ⟨rfl, x, rfl⟩
    refine ⟨_, rfl, ?_⟩
    repeat wtm_at "z"
    · refine ⟨rfl, .v (.d d), ?_⟩
      simp only [List.set_cons_zero, List.set_cons_succ]
      rw [Int.mul_assoc, ← Int.pow_succ]
    · right; omega
  · rintro ρ s' ⟨rfl, x, rfl⟩
    rw [Nat.zero_add]
    repeat wtm_at "z"
    · refine for_inv (fun n ρ s1 => s1 = s' ∧ ∃ y, ρ = [.v (.d (.list ws)), .v (.d (.int room)), .v (.d (.tuple zs)), .v (.d (.int pat)), .v (.d (.int look)), .v (.d (.int ((pat + 1) * (room + 1) ^ ws.length * (zs.length : Int) ^ n))), x, y]) (rngD 0 look.toNat) 0 ?_ ?_ ?_
      · exact ⟨rfl, .no, by simp⟩
      · rintro n d hd ρ s' ⟨rfl, y, rfl⟩
        refine ⟨_, rfl, ?_⟩
        repeat wtm_at "z"
        · refine ⟨rfl, .v (.d d), ?_⟩
          simp only [List.set_cons_zero, List.set_cons_succ]
          rw [Int.mul_assoc, ← Int.pow_succ]
        · right; omega
      · rintro ρ s1 ⟨rfl, y, rfl⟩
        repeat wtm_at "z"
        unfold cntL
        rw [rng_len]
        simp
    · omega
structure Dks (a : Addr) (k : Int) (s : Dk) : Prop where
  ok : DkOk k s
  eq : s.dk = a
theorem Dks.le {a : Addr} {k k' : Int} {s : Dk} (h : Dks a k s) (e : k ≤ k') : Dks a k' s := ⟨h.ok.le e, h.eq⟩
theorem draw_a {a : Addr} {n : Int} {s : Dk} {k : Int} (hs : Dks a k s) (hk : k < 1000000000) (h : 0 < n ∧ n < 1073741824) {Q : Val → Dk → Prop} (q : ∀ r s', 0 ≤ r → r < n → Dks a (k + 1) s' → Q (.d (.int r)) s') :
    W (m__law_draw [.r (.ref a), .d (.int n)] s) Q := by
  obtain ⟨ok', rfl⟩ := hs
  exact draw_ok n h.1 h.2 ok' hk fun r s' r0 r1 o e => q r s' r0 r1 ⟨o, e⟩
theorem one_a {a : Addr} {ds : List PyData} {s : Dk} {k : Int} (hs : Dks a k s) (hk : k < 1000000000) (h : 0 < ds.length ∧ ds.length < 1000000) {Q : Val → Dk → Prop} (q : ∀ d s', d ∈ ds → Dks a (k + 1) s' → Q (.d d) s') :
    W (m__law_one [.r (.ref a), .d (.list ds)] s) Q := by
  obtain ⟨ok', rfl⟩ := hs
  exact one_ok h.1 h.2 ok' hk fun r s' m o e => q r s' m ⟨o, e⟩
/-- .. among numbers -/
theorem one_n {a : Addr} (ns : List Int) {s : Dk} {k : Int} (hs : Dks a k s) (hk : k < 1000000000) (h : 0 < ns.length ∧ ns.length < 1000000) {Q : Val → Dk → Prop} (q : ∀ n s', n ∈ ns → Dks a (k + 1) s' → Q (.d (.int n)) s') :
    W (m__law_one [.r (.ref a), .d (.list (ns.map .int))] s) Q :=
  one_a hs hk (by simpa using h) fun d s' m o => by
    obtain ⟨n, hn, rfl⟩ := List.mem_map.mp m
    exact q n s' hn o
structure GoodWh (most : Int) (w : Wh) : Prop where
  n : 2 ≤ w.ws.length ∧ w.ws.length ≤ 6
  ws : ∀ x ∈ w.ws, -9 ≤ x ∧ x ≤ 9
  room : 1 ≤ w.room ∧ w.room ≤ 4
  ne : w.sizes ≠ []
  asc : w.sizes.Pairwise (· < ·)
  zs : ∀ z ∈ w.sizes, 1 ≤ z ∧ z ≤ w.room
  zl : w.sizes.length ≤ 4
  lo : -61 < w.lo ∧ w.lo ≤ 0
  hi : 0 ≤ w.hi ∧ w.hi < 61
  pat : 1 ≤ w.pat ∧ w.pat ≤ 6
  look : 1 ≤ w.look ∧ w.look ≤ 3
  cnt : cntL w.ws.length w.room w.sizes.length w.pat w.look ≤ most
theorem GoodWh.small {most : Int} {w : Wh} (h : GoodWh most w) : SmallL w.ws := ⟨by have := h.n; omega, fun x hx => by have := h.ws x hx; omega⟩
theorem cnt_least {room : Int} {z : Nat} (hr : 1 ≤ room ∧ room ≤ 4) (hz : z ≤ 4) : cntL 2 room z 1 1 ≤ 200 := by
  have e : cntL 2 room z 1 1 = 2 * ((room + 1) * (room + 1)) * (z : Int) := by
    unfold cntL
    rw [Int.pow_succ, Int.pow_succ, Int.pow_zero, Int.one_mul, show (1 : Int).toNat = 1 from rfl, Int.pow_succ, Int.pow_zero, Int.one_mul]
    rfl
  rw [e]
  have : room = 1 ∨ room = 2 ∨ room = 3 ∨ room = 4 := by omega
  rcases this with rfl | rfl | rfl | rfl <;> omega
theorem wheel_okB {a : Addr} {most M : Int} (hm : 200 ≤ M) (hmm : most ≤ M) {s : Dk} {k : Int} (hs : Dks a k s) (hk : k < 900000000) {Q : Val → Dk → Prop} (q : ∀ w s', GoodWh M w → (-31 < w.lo ∧ w.hi < 31) → Dks a (k + 40) s' → Q (.d w.d) s') :
    W (m__law_wheel [.r (.ref a), .d (.int most)] s) Q := by
  unfold m__law_wheel b__law_wheel
  repeat wtm_at "z"
  refine one_n [1, 2, 2, 2, 3, 4] hs (by omega) (by decide) fun room s1 hroom hs1 => ?_
  have hr : 1 ≤ room ∧ room ≤ 4 := by simp at hroom; omega
  clear hroom
  repeat wtm_at "z"
  · refine ⟨by rw [rng_len]; have := sizeLine_big; omega, ?_⟩
    refine lc_inv (fun n acc s' => Dks a (k + 1 + n) s' ∧ ∃ zs : List Int, acc = zs.map .int ∧ zs.Pairwise (· < ·) ∧ zs.length ≤ n ∧ ∀ z ∈ zs, 1 ≤ z ∧ z ≤ n) (rngD 1 (room + 1 - 1).toNat) 0 [] ⟨by simpa using hs1, [], rfl, .nil, Nat.le_refl _, fun z hz => by cases hz⟩ ?_ ?_
    · rintro n d hd acc s' ⟨hs', zs, rfl, p, hl, hz⟩
      obtain ⟨hn, rfl⟩ := rng_at hd
      refine item rfl ?_
      repeat wtm_at "z"
      refine draw_a hs' (by omega) (by omega) fun r s2 r0 r1 hs2 => ?_
      repeat wtm_at "z"
      refine br_dec (fun hp => ?_) fun hp => ?_
      · repeat wtm_at "z"
        refine ⟨_, rfl, hs2.le (by omega), zs ++ [1 + (n : Int)], by simp, ?_, by simp; omega, ?_⟩
        · refine List.pairwise_append.mpr ⟨p, by simp, fun x hx y hy => ?_⟩
          have := hz x hx
          simp at hy
          omega
        · intro z hz'
          rcases List.mem_append.mp hz' with m | m
          · have := hz z m; omega
          · simp at m; omega
      · exact ⟨hs2.le (by omega), zs, by simp, p, by omega, fun z hz' => by have := hz z hz'; omega⟩
    · rintro r s2 ⟨hs2, zs, hr2, p, hl, hz⟩
      rw [rng_len] at hl hz hs2
      have hr2 : r = zs.map .int := hr2
      subst hr2
      repeat wtm_at "z"
      refine bv_neI0 ?_
      repeat wtm_at "z"
      -- the sizes, the room for the rest
      have zl : zs.length ≤ 4 := by omega
      have hz' : ∀ z ∈ zs, 1 ≤ z ∧ z ≤ room := fun z m => by have := hz z m; omega
      refine br_join (fun y s3 => ∃ zs : List Int, y = .d (.tuple (zs.map .int)) ∧ zs ≠ [] ∧ zs.Pairwise (· < ·) ∧ zs.length ≤ 4 ∧ (∀ z ∈ zs, 1 ≤ z ∧ z ≤ room) ∧ Dks a (k + 6) s3) (fun he => ?_) (fun he => ?_) ?_
      · repeat wtm_at "z"
        exact ⟨zs, rfl, by simpa using he, p, zl, hz', hs2.le (by omega)⟩
      · repeat wtm_at "z"
        refine draw_a hs2 (by omega) (by omega) fun r s3 r0 r1 hs3 => ?_
        repeat wtm_at "z"
        refine ⟨[1 + r], rfl, by simp, by simp, by simp, fun z m => ?_, hs3.le (by omega)⟩
        simp at m
        omega
      · rintro _ s3 ⟨zs', rfl, zne, zasc, zl', zin, hs3⟩
        repeat wtm_at "z"
        clear zl hz' p hl hz hr2 hs2
        clear zs
        refine draw_a hs3 (by omega) (by omega) fun r s4 r0 r1 hs4 => ?_
        repeat wtm_at "z"
        refine one_n [1, 1, 2, 2, 3, 1 + r] hs4 (by omega) (by simp) fun pat s5 hpat hs5 => ?_
        have hp : 1 ≤ pat ∧ pat ≤ 6 := by simp at hpat; omega
        clear hpat hs4 hs3
        repeat wtm_at "z"
        refine one_n [1, 1, 1, 2, 3] hs5 (by omega) (by simp) fun look s6 hlook hs6 => ?_
        have hl : 1 ≤ look ∧ look ≤ 3 := by simp at hlook; omega
        clear hlook hs5
        repeat wtm_at "z"
        refine one_n [1, 1, 2, 9] hs6 (by omega) (by simp) fun wide s7 hwide hs7 => ?_
        have hw : 1 ≤ wide ∧ wide ≤ 9 := by simp at hwide; omega
        clear hwide hs6
        repeat wtm_at "z"
        refine one_n [2, 3, 3, 4, 5, 6] hs7 (by omega) (by simp) fun num s8 hnum hs8 => ?_
        have hn : 2 ≤ num ∧ num ≤ 6 := by simp at hnum; omega
        clear hnum hs7
        repeat wtm_at "z"
        · refine ⟨by rw [rng_len]; have := sizeLine_big; omega, ?_⟩
          refine lc_inv (fun n acc s' => Dks a (k + 11 + n) s' ∧ ∃ ws : List Int, acc = ws.map .int ∧ ws.length = n ∧ ∀ x ∈ ws, -9 ≤ x ∧ x ≤ 9) (rngD 0 num.toNat) 0 [] ⟨hs8.le (by omega), [], rfl, rfl, fun z hz => by cases hz⟩ ?_ ?_
          · rintro n d hd acc s' ⟨hs', ws, rfl, hwl, hws⟩
            obtain ⟨hn', rfl⟩ := rng_at hd
            refine item1 rfl ?_
            repeat wtm_at "z"
            · refine draw_a hs' (by omega) (by omega) fun r s2 r0 r1 hs2 => ?_
              repeat wtm_at "z"
              refine ⟨_, rfl, hs2.le (by omega), ws ++ [r - wide], by simp, by simp; omega, fun x hx => ?_⟩
              rcases List.mem_append.mp hx with m | m
              · exact hws x m
              · simp at m; omega
            · left; omega
          · rintro r s9 ⟨hs9, ws, hr9, hwl, hws⟩
            rw [rng_len] at hwl hs9
            have hr9 : r = ws.map .int := hr9
            subst hr9
            repeat wtm_at "z"
            refine w_while (fun m ρ s10 => Dks a (k + 20) s10 ∧ ∃ ws : List Int, m = ws.length ∧ 2 ≤ ws.length ∧ ws.length ≤ 6 ∧ (∀ x ∈ ws, -9 ≤ x ∧ x ≤ 9) ∧
              ρ = [.v (.r (.ref a)), .v (.d (.int most)), .v (.d (.int room)), .v (.d (.tuple (zs'.map .int))), .no, .v (.d (.int pat)), .v (.d (.int look)), .v (.d (.int wide)), .v (.d (.list (ws.map .int))), .no, .no, .no]) (m := ws.length) (by omega) ⟨hs9.le (by omega), ws, rfl, by omega, by omega, hws, rfl⟩ ?_
            rintro m ρ s10 ⟨hs10, ws, rfl, hw2, hw6, hws, rfl⟩
            repeat wtm_at "z"
            refine br_joinA (fun b s' => s' = s10 ∧ (b = true → 2 < ws.length) ∧ (b = false → ws.length = 2 ∨ cntL ws.length room zs'.length pat look ≤ most)) (fun h2 => ?_) (fun h2 => ?_) ?_
            · repeat wtm_at "z"
              refine w_of (count_eq _ _ _ _ _ (by omega) (by simp; omega) (by omega) _) ?_
              repeat wtm_at "z"
              simp at h2 ⊢
              omega
            · simp at h2 ⊢
              omega
            · rintro b s11 ⟨rfl, ht, hf⟩
              cases b with
              | true =>
                repeat wtm_at "z"
                have := ht rfl
                rw [cut_init, ← List.map_dropLast]
                refine ⟨ws.dropLast.length, by simp; omega, hs10, ws.dropLast, rfl, by simp; omega, by simp; omega, fun x hx => hws x (List.dropLast_subset ws hx), rfl⟩
              | false =>
                repeat wtm_at "z"
                refine w_of (count_eq _ _ _ _ _ (by omega) (by simp; omega) (by omega) _) ?_
                repeat wtm_at "z"
                rw [List.length_map, List.length_map]
                refine br_join (fun fl s' => s' = s11 ∧ ∃ pat look : Int, (1 ≤ pat ∧ pat ≤ 6) ∧ (1 ≤ look ∧ look ≤ 3) ∧ cntL ws.length room zs'.length pat look ≤ M ∧
                  fl = .nx [.v (.r (.ref a)), .v (.d (.int most)), .v (.d (.int room)), .v (.d (.tuple (zs'.map .int))), .no, .v (.d (.int pat)), .v (.d (.int look)), .v (.d (.int wide)), .v (.d (.list (ws.map .int))), .no, .no, .no]) (fun hc => ?_) (fun hc => ?_) ?_
                · repeat wtm_at "z"
                  have hc := of_decide_eq_true hc
                  have h2 : ws.length = 2 := (hf rfl).resolve_right (by omega)
                  refine ⟨rfl, 1, 1, by decide, by decide, ?_, rfl⟩
                  rw [h2]
                  exact Int.le_trans (cnt_least hr zl') hm
                · repeat wtm_at "z"
                  have hc := of_decide_eq_false hc
                  exact ⟨rfl, pat, look, hp, hl, by omega, rfl⟩
                · clear hf ht hp hl
                  rintro fl s' ⟨rfl, pat', look', hp, hl, hcnt, rfl⟩
                  repeat wtm_at "z"
                  refine one_n [2, 4, 8, 30] hs10 (by omega) (by simp) fun far s12 hfar hs12 => ?_
                  have hf : 2 ≤ far ∧ far ≤ 30 := by simp at hfar; omega
                  repeat wtm_at "z"
                  refine draw_a hs12 (by omega) (by omega) fun b1 s13 b10 b11 hs13 => ?_
                  repeat wtm_at "z"
                  refine draw_a hs13 (by omega) (by omega) fun b2 s14 b20 b21 hs14 => ?_
                  repeat wtm_at "z"
                  exact q ⟨ws, room, zs', 0 - b1, b2, pat', look'⟩ _ ⟨⟨hw2, hw6⟩, hws, hr, zne, zasc, zin, zl', ⟨by show -61 < 0 - b1; omega, by show 0 - b1 ≤ 0; omega⟩, ⟨b20, by show b2 < 61; omega⟩, hp, hl, hcnt⟩ ⟨by show -31 < 0 - b1; omega, by show b2 < 31; omega⟩ (hs14.le (by omega))
        · omega
  · omega
theorem wheel_okM {a : Addr} {most M : Int} (hm : 200 ≤ M) (hmm : most ≤ M) {s : Dk} {k : Int} (hs : Dks a k s) (hk : k < 900000000) {Q : Val → Dk → Prop} (q : ∀ w s', GoodWh M w → Dks a (k + 40) s' → Q (.d w.d) s') :
    W (m__law_wheel [.r (.ref a), .d (.int most)] s) Q := wheel_okB hm hmm hs hk fun w s' h _ => q w s' h
theorem wheel_ok {a : Addr} {most : Int} (hm : 200 ≤ most) {s : Dk} {k : Int} (hs : Dks a k s) (hk : k < 900000000) {Q : Val → Dk → Prop} (q : ∀ w s', GoodWh most w → Dks a (k + 40) s' → Q (.d w.d) s') :
    W (m__law_wheel [.r (.ref a), .d (.int most)] s) Q := wheel_okM hm (Int.le_refl _) hs hk q
theorem sm_wh {w : Wh} {most : Int} (h : GoodWh most w) : Sm 2 30 w.d := by
  have s1 : Sm 1 6 (iT w.ws) := (sm_iT fun n m => by have := h.ws n m; omega).le (Nat.le_refl _) h.n.2
  have s2 : Sm 1 4 (iT w.sizes) := (sm_iT fun n m => by have := h.zs n m; have := h.room; omega).le (Nat.le_refl _) h.zl
  have s3 : Sm 1 2 (.tuple [.int w.lo, .int w.hi]) := sm_iT (ns := [w.lo, w.hi]) fun n m => by have := h.lo; have := h.hi; simp at m; omega
  have i1 : Sm 0 0 (.int w.room) := sm_int (by have := h.room; omega)
  have i2 : Sm 0 0 (.int w.pat) := sm_int (by have := h.pat; omega)
  have i3 : Sm 0 0 (.int w.look) := sm_int (by have := h.look; omega)
  have := sm_tuple (sl_cons s1 (sl_cons (i1.le (Nat.zero_le 1) (Nat.zero_le 0)) (sl_cons s2 (sl_cons s3 (sl_cons (i2.le (Nat.zero_le 1) (Nat.zero_le 0)) (sl_cons (i3.le (Nat.zero_le 1) (Nat.zero_le 0)) sl_nil))))))
  exact this.le (by decide) (by decide)
theorem boarded_loads_eq (l z : Int) (r zs : List Int) (hl : r.length ≤ 1000) (s : Dk) : m_boarded_loads [.d (iT (l :: r)), .d (iT (z :: zs))] s = .ok (.d (iT ((l + z) :: r))) s := by
  refine w_eq ?_
  unfold m_boarded_loads b_boarded_loads iT
  repeat wtm_at "z"
  · rw [show (1 : Int) = ((1 : Nat) : Int) from rfl, cut_drop _ _ (by simp)]
    exact ⟨rfl, rfl⟩
  · rw [show (1 : Int) = ((1 : Nat) : Int) from rfl, cut_drop _ _ (by simp)]
    have := sizeLine_big
    simp
    omega
/-- a deed's word -/
def deedS (b : Bool) : Str := if b then "board" else "turn"
/-- a stand -/
structure Sd where
  ls : List Int
  ln : List Int
  wt : Int
deriving DecidableEq
def Sd.d (t : Sd) : PyData := .tuple [iT t.ls, iT t.ln, .int t.wt]
/-- a stand in its bounds, but for the lean -/
structure GoodSd (w : Wh) (t : Sd) : Prop where
  n : t.ls.length = w.ws.length
  ls : ∀ x ∈ t.ls, 0 ≤ x ∧ x ≤ w.room
  look : (t.ln.length : Int) = w.look
  ln : ∀ z ∈ t.ln, z ∈ w.sizes
  wt : 0 ≤ t.wt ∧ t.wt ≤ w.pat
def boardL (ls ln : List Int) : List Int := match ls, ln with
  | l :: r, z :: _ => (l + z) :: r
  | _, _ => []
def mayB (w : Wh) (t : Sd) (b : Bool) : Bool := if b then decide ((boardL t.ls t.ln).headD 0 ≤ w.room) && w.up (boardL t.ls t.ln) else decide (t.wt < w.pat) && w.up (turnL t.ls)
theorem bv_eqS {S : Type} {s : S} {Q : Val → S → Prop} {x y : Str} (q : Q (.d (.bool (decide (x = y)))) s) (h : (PyData.strOk x && PyData.strOk y) = true) : BV opEq (.d (.str x)) (.d (.str y)) s Q :=
  bv_eq (by rw [str_eqv]; exact q) (by
    rw [Bool.and_eq_true] at h
    unfold SeqAt.shaped
    simp only [PyData.canLay0, h.1, h.2]
    rfl)
theorem strOk_deed (b : Bool) : PyData.strOk (deedS b) = true := by cases b <;> decide +kernel
theorem deed_board (b : Bool) : decide (deedS b = ("board" : Str)) = b := by cases b <;> decide +kernel
theorem deed_turn (b : Bool) : decide (deedS b = ("turn" : Str)) = !b := by cases b <;> decide +kernel
def deedsB (w : Wh) (t : Sd) : List Bool := [true, false].filter (mayB w t)
theorem may_eq (w : Wh) (t : Sd) (b : Bool) (hw : SmallL w.ws) (hl : t.ls.length ≤ 1000) (h0 : t.ls ≠ []) (h1 : t.ln ≠ []) (s : Dk) : m_may [.d w.d, .d t.d, .d (.str (deedS b))] s = .ok (.d (.bool (mayB w t b))) s := by
  obtain ⟨ls, ln, wt⟩ := t
  cases ls with
  | nil => exact absurd rfl h0
  | cons l r =>
  cases ln with
  | nil => exact absurd rfl h1
  | cons z zs =>
  have hr : r.length ≤ 1000 := by simp at hl; omega
  refine w_eq ?_
  unfold m_may b_may
  dsimp only [Sd.d, iT, List.map]
  repeat wtm_at "z"
  refine w_unp ?_
  repeat wtm_at "z"
  refine ⟨_, _, rfl, rfl, ?_⟩
  simp only [List.set_cons_succ, List.set_cons_zero]
  repeat wtm_at "z"
  refine bv_eqS ?_ (by rw [strOk_deed]; decide +kernel)
  repeat wtm_at "z"
  rw [deed_board]
  cases b with
  | true =>
    repeat wtm_at "z"
    refine br_dec (fun h => ?_) fun h => ?_
    · repeat wtm_at "z"
      refine w_of (boarded_loads_eq l z r zs hr _) ?_
      repeat wtm_at "z"
      refine w_of (is_upright_eq w _ hw _) ?_
      repeat wtm_at "z"
      refine ⟨?_, rfl⟩
      rw [show mayB w ⟨l :: r, z :: zs, wt⟩ true = (decide (l + z ≤ w.room) && w.up ((l + z) :: r)) from rfl, decide_eq_true h]
      rfl
    · repeat wtm_at "z"
      refine ⟨?_, rfl⟩
      rw [show mayB w ⟨l :: r, z :: zs, wt⟩ true = (decide (l + z ≤ w.room) && w.up ((l + z) :: r)) from rfl, decide_eq_false h]
      rfl
  | false =>
    repeat wtm_at "z"
    refine br_dec (fun h => ?_) fun h => ?_
    · repeat wtm_at "z"
      refine w_of (turned_loads_eq _ hl _) ?_
      repeat wtm_at "z"
      refine w_of (is_upright_eq w _ hw _) ?_
      repeat wtm_at "z"
      refine ⟨?_, rfl⟩
      rw [show mayB w ⟨l :: r, z :: zs, wt⟩ false = (decide (wt < w.pat) && w.up (turnL (l :: r))) from rfl, decide_eq_true h]
      rfl
    · repeat wtm_at "z"
      refine ⟨?_, rfl⟩
      rw [show mayB w ⟨l :: r, z :: zs, wt⟩ false = (decide (wt < w.pat) && w.up (turnL (l :: r))) from rfl, decide_eq_false h]
      rfl
theorem llean_eq (w : Wh) (ls : List Int) (hw : SmallL w.ws) (s : Dk) : m__law_lean [.d w.d, .d (iT ls)] s = .ok (.d (.int (dotL w.ws ls))) s := by
  refine w_eq ?_
  unfold m__law_lean b__law_lean Wh.d iT
  repeat wtm_at "z"
  rw [zip_ints]
  refine ⟨by rw [List.length_map, List.length_zip]; have := hw.1; have := sizeLine_big; omega, ?_⟩
  refine lc_mapOf _ (fun p => .int (p.1 * p.2)) _ (fun p hp => item1 rfl ?_) ?_
  · repeat wtm_at "z"
    · exact ⟨_, rfl, rfl, rfl⟩
    · exact .inl (hw.2 _ (List.of_mem_zip hp).1)
  · repeat wtm_at "z"
    refine cv_sum ?_
    repeat wtm_at "z"
    exact ⟨rfl, rfl⟩
def fitB (w : Wh) (ls : List Int) : Bool := decide (maxL ls ≤ w.room) && w.up ls
theorem maxL_le : ∀ (ls : List Int) (r : Int), ls ≠ [] → (maxL ls ≤ r ↔ ∀ x ∈ ls, x ≤ r)
  | [], _, h => absurd rfl h
  | [a], r, _ => by simp [maxL]
  | a :: b :: l, r, _ => by
    have ih := maxL_le (b :: l) r (by simp)
    show max a (maxL (b :: l)) ≤ r ↔ _
    rw [Int.max_le, ih]
    simp
theorem fits_eq (w : Wh) (ls : List Int) (hw : SmallL w.ws) (hl : ls.length ≤ 1000) (h0 : ls ≠ []) (s : Dk) : m__law_fits [.d w.d, .d (iT ls)] s = .ok (.d (.bool (fitB w ls))) s := by
  refine w_eq ?_
  unfold m__law_fits b__law_fits
  repeat wtm_at "z"
  refine ⟨by rw [List.length_map]; have := sizeLine_big; omega, ?_⟩
  refine lc_mapOf _ (fun l => .int l) _ (fun l _ => item1 rfl ?_) ?_
  · repeat wtm_at "z"
    exact ⟨_, rfl, rfl, rfl⟩
  repeat wtm_at "z"
  refine cv_max ?_ h0
  repeat wtm_at "z"
  rw [List.map_id']
  refine br_dec (fun h => ?_) fun h => ?_
  · have h : w.room < maxL ls := h
    repeat wtm_at "z"
    refine ⟨?_, rfl⟩
    rw [show fitB w ls = (decide (maxL ls ≤ w.room) && w.up ls) from rfl, decide_eq_false (by omega)]
    rfl
  · have h : ¬ w.room < maxL ls := h
    repeat wtm_at "z"
    refine w_of (llean_eq w ls hw _) ?_
    repeat wtm_at "z"
    have e : fitB w ls = (decide (w.lo ≤ dotL w.ws ls) && decide (dotL w.ws ls ≤ w.hi)) := by
      unfold fitB Wh.up
      rw [decide_eq_true (by omega : maxL ls ≤ w.room), Bool.true_and]
    rw [e]
    refine br_dec (fun h => ?_) fun h => ?_
    · repeat wtm_at "z"
      rw [decide_eq_true (show w.lo ≤ dotL w.ws ls from h)]
      exact ⟨rfl, rfl⟩
    · repeat wtm_at "z"
      rw [decide_eq_false (show ¬ w.lo ≤ dotL w.ws ls from h)]
      exact ⟨rfl, rfl⟩
/-- all rows of so many of the items -/
def rowsL (items : List Int) : Nat → List (List Int)
  | 0 => [[]]
  | n + 1 => (rowsL items n).flatMap fun row => items.map fun i => row ++ [i]
theorem rowsL_len (items : List Int) : ∀ n, (rowsL items n).length = items.length ^ n
  | 0 => rfl
  | n + 1 => by
    rw [rowsL, List.length_flatMap, List.map_congr_left (g := fun _ => items.length) (fun a _ => by simp), List.map_const', List.sum_replicate_nat, rowsL_len items n, Nat.pow_succ]
theorem rowsL_mem (items : List Int) : ∀ n row, row ∈ rowsL items n → row.length = n ∧ ∀ x ∈ row, x ∈ items
  | 0, row, h => by
    rw [rowsL, List.mem_singleton] at h
    rw [h]
    exact ⟨rfl, fun x hx => by cases hx⟩
  | n + 1, row, h => by
    rw [rowsL, List.mem_flatMap] at h
    obtain ⟨r, hr, h⟩ := h
    obtain ⟨i, hi, rfl⟩ := List.mem_map.mp h
    obtain ⟨h1, h2⟩ := rowsL_mem items n r hr
    refine ⟨by simp [h1], fun x hx => ?_⟩
    rcases List.mem_append.mp hx with m | m
    · exact h2 x m
    · rw [List.mem_singleton.mp m]; exact hi
theorem rowsL_small {items : List Int} {n : Nat} (hz : items.length ≤ 4) (hn : n ≤ 3) : (rowsL items n).length ≤ 64 := by
  rw [rowsL_len]
  exact Nat.le_trans (Nat.pow_le_pow_left hz n) (Nat.pow_le_pow_right (by decide) hn)
theorem lrows_eq (items : List Int) (many : Nat) (hz : items.length ≤ 4) (hn : many ≤ 3) (s : Dk) : m__law_rows [.d (iT items), .d (.int many)] s = .ok (.d (.list ((rowsL items many).map iT))) s := by
  refine w_eq ?_
  unfold m__law_rows b__law_rows
  repeat wtm_at "z"
  · refine for_inv (fun n ρ s' => s' = s ∧ ∃ x3 x4 x5 x6, ρ = [.v (.d (iT items)), .v (.d (.int many)), .l ((rowsL items n).map iT), x3, x4, x5, x6]) (rngD 0 (many : Int).toNat) 0 ⟨rfl, .no, .no, .no, .no, rfl⟩ ?_ ?_
    · rintro n d hd ρ s' ⟨rfl, x3, x4, x5, x6, rfl⟩
      have hn' : n < (many : Int).toNat := (rng_at hd).1
      rw [Nat.zero_add]
      refine ⟨_, rfl, ?_⟩
      simp only [List.set_cons_succ, List.set_cons_zero]
      repeat wtm_at "z"
      have hlen : ∀ p post : List (List Int), rowsL items n = p ++ post → (p.flatMap fun row => items.map fun i => row ++ [i]).length ≤ 256 := fun p post e => by
        have h1 : p.length ≤ 64 := Nat.le_trans (by rw [e]; simp) (rowsL_small (n := n) hz (by omega))
        rw [List.length_flatMap, List.map_congr_left (g := fun _ => items.length) (fun a _ => by simp), List.map_const', List.sum_replicate_nat]
        exact Nat.le_trans (Nat.mul_le_mul h1 hz) (by decide)
      refine for_pre iT (fun p ρ s1 => s1 = s' ∧ ∃ x5 x6, ρ = [.v (.d (iT items)), .v (.d (.int many)), .v (.d (.list ((rowsL items n).map iT))), .v (.d d), .l ((p.flatMap fun row => items.map fun i => row ++ [i]).map iT), x5, x6]) (rowsL items n) ⟨rfl, x5, x6, rfl⟩ ?_ ?_
      · rintro p row post ep ρ s1 ⟨rfl, x5, x6, rfl⟩
        refine ⟨_, rfl, ?_⟩
        simp only [List.set_cons_succ, List.set_cons_zero]
        have hrow : row.length ≤ 3 := by
          have := (rowsL_mem items n row (by rw [ep]; simp)).1
          omega
        repeat wtm_at "z"
        refine ⟨by rw [List.length_map]; have := sizeLine_big; omega, ?_⟩
        refine lc_mapOf _ (fun i => iT (row ++ [i])) _ (fun i _ => item1 rfl ?_) ?_
        · repeat wtm_at "z"
          · exact ⟨_, rfl, by unfold iT; rw [List.map_append]; rfl, rfl⟩
          · have := sizeLine_big
            simp
            omega
        · repeat wtm_at "z"
          refine ⟨_, rfl, ?_, ?_⟩
          · have := hlen p (row :: post) ep
            have := sizeLine_big
            simp only [List.length_map] at *
            omega
          · repeat wtm_at "z"
            refine ⟨rfl, .v (.d (iT row)), x6, ?_⟩
            rw [List.flatMap_append, List.map_append, List.flatMap_singleton, List.map_map]
            rfl
      · rintro ρ s1 ⟨rfl, x5, x6, rfl⟩
        repeat wtm_at "z"
        exact ⟨rfl, _, _, _, _, rfl⟩
    · rintro ρ s1 ⟨rfl, x3, x4, x5, x6, rfl⟩
      rw [rng_len]
      repeat wtm_at "z"
      refine ⟨?_, rfl⟩
      rw [Nat.zero_add]
      rfl
  · omega
def startsL (w : Wh) : List Sd := (rowsL w.sizes w.look.toNat).map fun r => ⟨List.replicate w.ws.length 0, r, 0⟩
theorem lstarts_eq (w : Wh) {most : Int} (hw : GoodWh most w) (s : Dk) : m__law_starts [.d w.d] s = .ok (.d (.list ((startsL w).map Sd.d))) s := by
  refine w_eq ?_
  have hlk := hw.look
  have hn := hw.n
  unfold m__law_starts b__law_starts
  repeat wtm_at "z"
  have e := lrows_eq w.sizes w.look.toNat hw.zl (by omega) s
  rw [show ((w.look.toNat : Nat) : Int) = w.look by omega] at e
  refine w_of e ?_
  repeat wtm_at "z"
  refine ⟨by rw [List.length_map]; have := sizeLine_big; have := rowsL_small (n := w.look.toNat) hw.zl (by omega); omega, ?_⟩
  refine lc_mapOf _ (fun r => Sd.d ⟨List.replicate w.ws.length 0, r, 0⟩) _ (fun r _ => item1 rfl ?_) ?_
  · repeat wtm_at "z"
    · refine ⟨_, rfl, ?_, rfl⟩
      rw [rep0, show ((w.ws.map PyData.int).length : Int).toNat = w.ws.length by simp]
      rfl
    · simp; omega
  · repeat wtm_at "z"
    refine ⟨?_, rfl⟩
    unfold startsL
    rw [List.map_map]
    rfl
theorem starts_good (w : Wh) {most : Int} (hw : GoodWh most w) : ∀ t ∈ startsL w, GoodSd w t := by
  intro t ht
  obtain ⟨r, hr, rfl⟩ := List.mem_map.mp ht
  have hlk := hw.look
  have hp := hw.pat
  have hro := hw.room
  obtain ⟨h1, h2⟩ := rowsL_mem _ _ _ hr
  exact ⟨by simp, fun x hx => by have := (List.mem_replicate.mp hx).2; omega, by show (r.length : Int) = _; omega, h2, ⟨Int.le_refl _, by show (0 : Int) ≤ w.pat; omega⟩⟩
theorem starts_ne (w : Wh) {most : Int} (hw : GoodWh most w) : 0 < (startsL w).length ∧ (startsL w).length ≤ 64 := by
  have hlk := hw.look
  unfold startsL
  rw [List.length_map]
  refine ⟨?_, rowsL_small hw.zl (by omega)⟩
  rw [rowsL_len]
  have : 0 < w.sizes.length := List.length_pos_iff.mpr hw.ne
  exact Nat.pow_pos this
theorem rows_eq (items : List Int) (many : Nat) (hz : items.length ≤ 4) (hn : many ≤ 3) (s : Dk) : m_rows_of [.d (iT items), .d (.int many)] s = .ok (.d (.list ((rowsL items many).map iT))) s := by
  refine w_eq ?_
  unfold m_rows_of b_rows_of
  repeat wtm_at "z"
  · refine for_inv (fun n ρ s' => s' = s ∧ ∃ x3 x4 x5 x6, ρ = [.v (.d (iT items)), .v (.d (.int many)), .l ((rowsL items n).map iT), x3, x4, x5, x6]) (rngD 0 (many : Int).toNat) 0 ⟨rfl, .no, .no, .no, .no, rfl⟩ ?_ ?_
    · rintro n d hd ρ s' ⟨rfl, x3, x4, x5, x6, rfl⟩
      have hn' : n < (many : Int).toNat := (rng_at hd).1
      rw [Nat.zero_add]
      refine ⟨_, rfl, ?_⟩
      simp only [List.set_cons_succ, List.set_cons_zero]
      repeat wtm_at "z"
      have hlen : ∀ p post : List (List Int), rowsL items n = p ++ post → (p.flatMap fun row => items.map fun i => row ++ [i]).length ≤ 256 := fun p post e => by
        have h1 : p.length ≤ 64 := Nat.le_trans (by rw [e]; simp) (rowsL_small (n := n) hz (by omega))
        rw [List.length_flatMap, List.map_congr_left (g := fun _ => items.length) (fun a _ => by simp), List.map_const', List.sum_replicate_nat]
        exact Nat.le_trans (Nat.mul_le_mul h1 hz) (by decide)
      refine for_pre iT (fun p ρ s1 => s1 = s' ∧ ∃ x5 x6, ρ = [.v (.d (iT items)), .v (.d (.int many)), .v (.d (.list ((rowsL items n).map iT))), .v (.d d), .l ((p.flatMap fun row => items.map fun i => row ++ [i]).map iT), x5, x6]) (rowsL items n) ⟨rfl, x5, x6, rfl⟩ ?_ ?_
      · rintro p row post ep ρ s1 ⟨rfl, x5, x6, rfl⟩
        refine ⟨_, rfl, ?_⟩
        simp only [List.set_cons_succ, List.set_cons_zero]
        have hrow : row.length ≤ 3 := by
          have := (rowsL_mem items n row (by rw [ep]; simp)).1
          omega
        repeat wtm_at "z"
        refine ⟨by rw [List.length_map]; have := sizeLine_big; omega, ?_⟩
        refine lc_mapOf _ (fun i => iT (row ++ [i])) _ (fun i _ => item1 rfl ?_) ?_
        · repeat wtm_at "z"
          · exact ⟨_, rfl, by unfold iT; rw [List.map_append]; rfl, rfl⟩
          · have := sizeLine_big
            simp
            omega
        · repeat wtm_at "z"
          refine ⟨_, rfl, ?_, ?_⟩
          · have := hlen p (row :: post) ep
            have := sizeLine_big
            simp only [List.length_map] at *
            omega
          · repeat wtm_at "z"
            refine ⟨rfl, .v (.d (iT row)), x6, ?_⟩
            rw [List.flatMap_append, List.map_append, List.flatMap_singleton, List.map_map]
            rfl
      · rintro ρ s1 ⟨rfl, x5, x6, rfl⟩
        repeat wtm_at "z"
        exact ⟨rfl, _, _, _, _, rfl⟩
    · rintro ρ s1 ⟨rfl, x3, x4, x5, x6, rfl⟩
      rw [rng_len]
      repeat wtm_at "z"
      refine ⟨?_, rfl⟩
      rw [Nat.zero_add]
      rfl
  · omega
theorem lines_eq (w : Wh) {most : Int} (hw : GoodWh most w) (s : Dk) : m_lines [.d w.d] s = .ok (.d (.list ((rowsL w.sizes w.look.toNat).map iT))) s := by
  refine w_eq ?_
  have hlk := hw.look
  unfold m_lines b_lines
  repeat wtm_at "z"
  have e := rows_eq w.sizes w.look.toNat hw.zl (by omega) s
  rw [show ((w.look.toNat : Nat) : Int) = w.look by omega] at e
  refine w_of e ?_
  repeat wtm_at "z"
  exact ⟨rfl, rfl⟩
theorem starts_eq (w : Wh) {most : Int} (hw : GoodWh most w) (s : Dk) : m_starts [.d w.d] s = .ok (.d (.tuple ((startsL w).map Sd.d))) s := by
  refine w_eq ?_
  have hlk := hw.look
  have hn := hw.n
  have sz := sizeLine_big
  unfold m_starts b_starts
  repeat wtm_at "z"
  refine w_of (lines_eq w hw _) ?_
  repeat wtm_at "z"
  refine ⟨by rw [List.length_map]; have := rowsL_small (n := w.look.toNat) hw.zl (by omega); omega, ?_⟩
  refine lc_mapOf _ (fun r => Sd.d ⟨List.replicate w.ws.length 0, r, 0⟩) _ (fun r _ => item1 rfl ?_) ?_
  · repeat wtm_at "z"
    · refine ⟨_, rfl, ?_, rfl⟩
      rw [rep0, show ((w.ws.map PyData.int).length : Int).toNat = w.ws.length by simp]
      rfl
    · exact ⟨by rw [List.length_map]; omega, by rw [List.length_map]; omega, (by decide : 1 ≤ 1000)⟩
  · repeat wtm_at "z"
    refine ⟨?_, rfl⟩
    unfold startsL
    rw [List.map_map]
    rfl
/-- rows by their places: rising -/
theorem lt_snoc {xs ys : List Int} {a b : Int} : xs.length = ys.length → xs < ys → xs ++ [a] < ys ++ [b] := by
  intro hl h
  induction xs generalizing ys with
  | nil =>
    cases ys with
    | nil => exact absurd h (by simp)
    | cons y ys => simp at hl
  | cons x xs ih =>
    cases ys with
    | nil => simp at hl
    | cons y ys =>
      simp only [List.cons_append]
      rw [List.cons_lt_cons_iff] at h ⊢
      rcases h with h | ⟨h1, h2⟩
      · exact .inl h
      · exact .inr ⟨h1, ih (by simpa using hl) h2⟩
theorem lt_last {xs : List Int} {a b : Int} (h : a < b) : xs ++ [a] < xs ++ [b] := by
  induction xs with
  | nil => simp only [List.nil_append]; rw [List.cons_lt_cons_iff]; exact .inl h
  | cons x xs ih =>
    simp only [List.cons_append]
    rw [List.cons_lt_cons_iff]
    exact .inr ⟨rfl, ih⟩
theorem rows_asc {items : List Int} (h : items.Pairwise (· < ·)) : ∀ n, (rowsL items n).Pairwise (· < ·)
  | 0 => by simp [rowsL]
  | n + 1 => by
    rw [rowsL, List.pairwise_flatMap]
    refine ⟨fun r _ => ?_, ?_⟩
    · rw [List.pairwise_map]
      exact h.imp fun hab => lt_last hab
    · refine List.Pairwise.imp_of_mem (fun {r r'} hr hr' hlt => ?_) (rows_asc h n)
      intro x hx y hy
      obtain ⟨i, _, rfl⟩ := List.mem_map.mp hx
      obtain ⟨j, _, rfl⟩ := List.mem_map.mp hy
      exact lt_snoc (by rw [(rowsL_mem items n r hr).1, (rowsL_mem items n r' hr').1]) hlt
theorem alike_sd (t u : Sd) : PySem.W.alike t.d u.d = true := by
  unfold Sd.d iT
  simp only [PySem.W.alike, PySem.W.alikeAll, PySem.W.alike_ints, Bool.and_self]
theorem sd_lt (t u : Sd) : PySem.W.dataLt t.d u.d = (if t.ls = u.ls then (if t.ln = u.ln then decide (t.wt < u.wt) else decide (t.ln < u.ln)) else decide (t.ls < u.ls)) := by
  have a1 : ∀ xs ys : List Int, PySem.W.alike (iT xs) (iT ys) = true := fun xs ys => by
    unfold iT
    simp only [PySem.W.alike, PySem.W.alike_ints]
  have l1 : ∀ xs ys : List Int, PySem.W.dataLt (iT xs) (iT ys) = decide (xs < ys) := fun xs ys => by
    unfold iT
    rw [PySem.W.dataLt_tuple]
    exact PySem.W.dataLt_ints xs ys
  unfold Sd.d
  rw [PySem.W.dataLt_tuple, PySem.W.dataLt_cons (a1 _ _), PySem.W.dataLt_cons (a1 _ _), PySem.W.dataLt_cons (by simp [PySem.W.alike]), l1, l1, PySem.W.dataLt_int]
  have e0 : PyProof.Rows.lexLt PyProof.Rows.itemOrd (PySem.W.keyToksAll []) (PySem.W.keyToksAll []) = false := PyProof.Rows.lex_irrefl _
  rw [e0]
  have e1 : ∀ xs ys : List Int, PyData.eqv (iT xs) (iT ys) = decide (xs = ys) := fun xs ys => eqv_iT xs ys
  rw [e1, e1]
  have e2 : PyData.eqv (.int t.wt) (.int u.wt) = decide (t.wt = u.wt) := by simp only [PyData.eqv]; rfl
  rw [e2]
  by_cases h1 : t.ls = u.ls
  · by_cases h2 : t.ln = u.ln
    · by_cases h3 : t.wt = u.wt
      · simp [h1, h2, h3]
      · simp [h1, h2, h3]
    · simp [h1, h2]
  · simp [h1]
/-- where a deed leads -/
def behindL (w : Wh) (t : Sd) (b : Bool) : List Sd := if b then (if fitB w (boardL t.ls t.ln) then w.sizes.map fun z => ⟨boardL t.ls t.ln, t.ln.drop 1 ++ [z], 0⟩ else [])
  else if decide (t.wt < w.pat) && fitB w (turnL t.ls) then [⟨turnL t.ls, t.ln, t.wt + 1⟩] else []
theorem behind_eq (w : Wh) (t : Sd) (b : Bool) (hw : SmallL w.ws) (hz : w.sizes.length ≤ 1000) (hl : t.ls.length ≤ 1000) (hl2 : t.ln.length ≤ 1000) (h0 : t.ls ≠ []) (h1 : t.ln ≠ []) (s : Dk) : m__law_behind [.d w.d, .d t.d, .d (.str (deedS b))] s = .ok (.d (.tuple ((behindL w t b).map Sd.d))) s := by
  obtain ⟨ls, ln, wt⟩ := t
  cases ls with
  | nil => exact absurd rfl h0
  | cons l r =>
  cases ln with
  | nil => exact absurd rfl h1
  | cons z zs =>
  have hr : r.length ≤ 1000 := by simp at hl; omega
  have hzs : zs.length ≤ 1000 := by simp at hl2; omega
  have e1 : cutL (PyData.int l :: r.map PyData.int) none (some (-1)) = (l :: r).dropLast.map PyData.int := by
    rw [cut_init, List.map_dropLast]; rfl
  have e2 : cutL (PyData.int l :: r.map PyData.int) (some 1) none = r.map PyData.int := by
    rw [show (1 : Int) = ((1 : Nat) : Int) from rfl, cut_drop _ _ (by simp)]; rfl
  have e3 : cutL (PyData.int z :: zs.map PyData.int) (some 1) none = zs.map PyData.int := by
    rw [show (1 : Int) = ((1 : Nat) : Int) from rfl, cut_drop _ _ (by simp)]; rfl
  refine w_eq ?_
  unfold m__law_behind b__law_behind
  dsimp only [Sd.d, iT, List.map]
  repeat wtm_at "z"
  refine w_unp ?_
  repeat wtm_at "z"
  refine ⟨_, _, rfl, rfl, ?_⟩
  simp only [List.set_cons_succ, List.set_cons_zero]
  repeat wtm_at "z"
  refine bv_eqS ?_ (by rw [strOk_deed]; decide +kernel)
  repeat wtm_at "z"
  rw [deed_turn]
  cases b with
  | false =>
    simp only [Bool.not_false]
    repeat wtm_at "z"
    · rw [e1]
      repeat wtm_at "z"
      refine br_dec (fun h => ?_) fun h => ?_
      · have h : wt < w.pat := h
        repeat wtm_at "z"
        refine w_of (fits_eq w (turnL (l :: r)) hw (by unfold turnL; simp at hl ⊢; omega) (by unfold turnL; simp) _) ?_
        repeat wtm_at "z"
        have eb : behindL w ⟨l :: r, z :: zs, wt⟩ false = if fitB w (turnL (l :: r)) then [⟨turnL (l :: r), z :: zs, wt + 1⟩] else [] := by
          show (if decide (wt < w.pat) && fitB w (turnL (l :: r)) then _ else _) = _
          rw [decide_eq_true h, Bool.true_and]
        rw [eb]
        refine br (fun h => ?_) fun h => ?_
        · repeat wtm_at "z"
          rw [h]
          exact ⟨rfl, rfl⟩
        · repeat wtm_at "z"
          rw [h]
          exact ⟨rfl, rfl⟩
      · have h : ¬ wt < w.pat := h
        repeat wtm_at "z"
        have eb : behindL w ⟨l :: r, z :: zs, wt⟩ false = [] := by
          show (if decide (wt < w.pat) && fitB w (turnL (l :: r)) then _ else _) = _
          rw [decide_eq_false h]
          rfl
        rw [eb]
        exact ⟨rfl, rfl⟩
    · rw [e1]
      have := sizeLine_big
      simp at hl ⊢
      omega
  | true =>
    simp only [Bool.not_true]
    repeat wtm_at "z"
    · rw [e2]
      repeat wtm_at "z"
      refine w_of (fits_eq w ((l + z) :: r) hw (by simp at hl ⊢; omega) (by simp) _) ?_
      repeat wtm_at "z"
      have eb : behindL w ⟨l :: r, z :: zs, wt⟩ true = if fitB w ((l + z) :: r) then w.sizes.map fun y => ⟨(l + z) :: r, zs ++ [y], 0⟩ else [] := rfl
      rw [eb]
      refine br (fun h => ?_) fun h => ?_
      · have h : fitB w ((l + z) :: r) = false := by simpa using h
        repeat wtm_at "z"
        rw [h]
        exact ⟨rfl, rfl⟩
      · have h : fitB w ((l + z) :: r) = true := by simpa using h
        repeat wtm_at "z"
        refine ⟨by rw [List.length_map]; have := sizeLine_big; omega, ?_⟩
        refine lc_mapOf _ (fun y => Sd.d ⟨(l + z) :: r, zs ++ [y], 0⟩) _ (fun y _ => item1 rfl ?_) ?_
        · repeat wtm_at "z"
          · rw [e3]
            refine ⟨_, rfl, ?_, rfl⟩
            unfold Sd.d iT
            rw [List.map_append]
            rfl
          · rw [e3]
            have := sizeLine_big
            simp
            omega
        · repeat wtm_at "z"
          refine ⟨?_, rfl⟩
          rw [if_pos h, List.map_map]
          rfl
    · rw [e2]
      have := sizeLine_big
      simp
      omega
theorem behind_good (w : Wh) (t : Sd) (b : Bool) {most : Int} (hw : GoodWh most w) (ht : GoodSd w t) : ∀ t' ∈ behindL w t b, GoodSd w t' := by
  obtain ⟨ls, ln, wt⟩ := t
  obtain ⟨hn, hls, hlk, hln, hwt⟩ := ht
  have hwn := hw.n
  have hwl := hw.look
  have hwp := hw.pat
  have hwr := hw.room
  simp only at hn hls hlk hln hwt
  cases ls with
  | nil => simp at hn; omega
  | cons l r =>
  cases ln with
  | nil => simp at hlk; omega
  | cons z zs =>
  intro t' m
  cases b with
  | true =>
    have m : t' ∈ (if fitB w ((l + z) :: r) then w.sizes.map fun y => (⟨(l + z) :: r, zs ++ [y], 0⟩ : Sd) else []) := m
    by_cases h : fitB w ((l + z) :: r) = true
    · rw [if_pos h] at m
      obtain ⟨y, hy, rfl⟩ := List.mem_map.mp m
      have hz := hw.zs z (hln z (.head _))
      have hl := hls l (.head _)
      have h : maxL ((l + z) :: r) ≤ w.room := by
        unfold fitB at h
        rw [Bool.and_eq_true] at h
        exact of_decide_eq_true h.1
      have h := (maxL_le _ _ (by simp)).mp h
      refine ⟨by simpa using hn, fun x hx => ⟨?_, h x hx⟩, by simpa using hlk, fun x hx => ?_, ⟨Int.le_refl _, by show (0 : Int) ≤ w.pat; omega⟩⟩
      · rcases List.mem_cons.mp hx with rfl | hx
        · omega
        · exact (hls x (.tail _ hx)).1
      · rcases List.mem_append.mp hx with hx | hx
        · exact hln x (.tail _ hx)
        · rw [List.mem_singleton.mp hx]; exact hy
    · rw [if_neg h] at m
      cases m
  | false =>
    have m : t' ∈ (if decide (wt < w.pat) && fitB w (turnL (l :: r)) then [(⟨turnL (l :: r), z :: zs, wt + 1⟩ : Sd)] else []) := m
    split at m
    · rename_i h
      rw [Bool.and_eq_true] at h
      have h := of_decide_eq_true h.1
      rw [List.mem_singleton.mp m]
      refine ⟨by unfold turnL; simpa using hn, fun x hx => ?_, hlk, hln, ⟨by show 0 ≤ wt + 1; omega, by show wt + 1 ≤ w.pat; omega⟩⟩
      rcases List.mem_cons.mp hx with rfl | hx
      · exact ⟨Int.le_refl _, by omega⟩
      · exact hls x (List.dropLast_subset _ hx)
    · cases m
theorem behind_may (w : Wh) (t : Sd) (b : Bool) {most : Int} (hw : GoodWh most w) (ht : GoodSd w t) : (behindL w t b).isEmpty = !mayB w t b := by
  obtain ⟨ls, ln, wt⟩ := t
  obtain ⟨hn, hls, hlk, hln, hwt⟩ := ht
  have hwn := hw.n
  have hwl := hw.look
  have hwr := hw.room
  simp only at hn hls hlk hln hwt
  cases ls with
  | nil => simp at hn; omega
  | cons l r =>
  cases ln with
  | nil => simp at hlk; omega
  | cons z zs =>
  cases b with
  | true =>
    show (if fitB w ((l + z) :: r) then w.sizes.map fun y => (⟨(l + z) :: r, zs ++ [y], 0⟩ : Sd) else []).isEmpty = !(decide (l + z ≤ w.room) && w.up ((l + z) :: r))
    have e : fitB w ((l + z) :: r) = (decide (l + z ≤ w.room) && w.up ((l + z) :: r)) := by
      unfold fitB
      congr 1
      refine decide_eq_decide.mpr ?_
      rw [maxL_le _ _ (by simp)]
      exact ⟨fun h => h _ (.head _), fun h x hx => by
        rcases List.mem_cons.mp hx with rfl | hx
        · exact h
        · exact (hls x (.tail _ hx)).2⟩
    rw [e]
    cases (decide (l + z ≤ w.room) && w.up ((l + z) :: r)) with
    | false => rfl
    | true =>
      cases hs : w.sizes with
      | nil => exact absurd hs hw.ne
      | cons a b => rfl
  | false =>
    show (if decide (wt < w.pat) && fitB w (turnL (l :: r)) then [(⟨turnL (l :: r), z :: zs, wt + 1⟩ : Sd)] else []).isEmpty = !(decide (wt < w.pat) && w.up (turnL (l :: r)))
    have e : fitB w (turnL (l :: r)) = w.up (turnL (l :: r)) := by
      unfold fitB
      rw [decide_eq_true, Bool.true_and]
      rw [maxL_le _ _ (by unfold turnL; simp)]
      intro x hx
      rcases List.mem_cons.mp hx with rfl | hx
      · omega
      · exact (hls x (List.dropLast_subset _ hx)).2
    rw [e]
    cases (decide (wt < w.pat) && w.up (turnL (l :: r))) <;> rfl
theorem behind_len (w : Wh) (t : Sd) (b : Bool) {most : Int} (hw : GoodWh most w) : (behindL w t b).length ≤ 4 := by
  have hzl := hw.zl
  cases b with
  | true =>
    show (if fitB w (boardL t.ls t.ln) then w.sizes.map fun z => (⟨boardL t.ls t.ln, t.ln.drop 1 ++ [z], 0⟩ : Sd) else []).length ≤ 4
    split
    · rw [List.length_map]; exact hzl
    · exact Nat.zero_le _
  | false =>
    show (if decide (t.wt < w.pat) && fitB w (turnL t.ls) then [(⟨turnL t.ls, t.ln, t.wt + 1⟩ : Sd)] else []).length ≤ 4
    split
    · exact (by decide : 1 ≤ 4)
    · exact Nat.zero_le _
theorem sm_sd {w : Wh} {t : Sd} {most : Int} (hw : GoodWh most w) (h : GoodSd w t) : Sm 2 12 t.d := by
  have h1 := hw.n
  have h2 := hw.look
  have h3 := h.n
  have h4 := h.look
  have h5 := hw.room
  have h6 := hw.pat
  have h7 := h.wt
  have s1 : Sm 1 6 (iT t.ls) := (sm_iT fun n m => by have := h.ls n m; omega).le (Nat.le_refl _) (by omega)
  have s2 : Sm 1 3 (iT t.ln) := (sm_iT fun n m => by have := hw.zs n (h.ln n m); omega).le (Nat.le_refl _) (by omega)
  have i1 : Sm 0 0 (.int t.wt) := sm_int (by omega)
  exact (sm_tuple (sl_cons s1 (sl_cons s2 (sl_cons (i1.le (Nat.zero_le 1) (Nat.zero_le 0)) sl_nil)))).le (by decide) (by decide)
theorem sm_behind {w : Wh} {t : Sd} (b : Bool) {most : Int} (hw : GoodWh most w) (hg : GoodSd w t) : Sm 3 100 (.tuple ((behindL w t b).map Sd.d)) :=
  sm_tuple ((sl_all (k := 2) (b := 12) _ fun d hd => by
    obtain ⟨t', ht', rfl⟩ := List.mem_map.mp hd
    exact sm_sd hw (behind_good w t b hw hg t' ht')).le (Nat.le_refl _) (by have := behind_len w t b hw; rw [List.length_map]; omega))
theorem GoodSd.ne {w : Wh} {t : Sd} {most : Int} (hw : GoodWh most w) (h : GoodSd w t) : t.ls ≠ [] ∧ t.ln ≠ [] ∧ t.ls.length ≤ 6 ∧ t.ln.length ≤ 3 := by
  have h1 := hw.n
  have h2 := hw.look
  have h3 := h.n
  have h4 := h.look
  refine ⟨fun e => ?_, fun e => ?_, by omega, by omega⟩
  · rw [e] at h3; simp at h3; omega
  · rw [e] at h4; simp at h4; omega
def afterL (t : Sd) (b : Bool) (z : Int) : Sd := if b then ⟨boardL t.ls t.ln, t.ln.drop 1 ++ [z], 0⟩ else ⟨turnL t.ls, t.ln, t.wt + 1⟩
theorem after_eq (w : Wh) (t : Sd) (b : Bool) (y : Int) (hl : t.ls.length ≤ 1000) (hl2 : t.ln.length ≤ 1000) (h0 : t.ls ≠ []) (h1 : t.ln ≠ []) (s : Dk) : m_after [.d w.d, .d t.d, .d (.str (deedS b)), .d (.int y)] s = .ok (.d (afterL t b y).d) s := by
  obtain ⟨ls, ln, wt⟩ := t
  cases ls with
  | nil => exact absurd rfl h0
  | cons l r =>
  cases ln with
  | nil => exact absurd rfl h1
  | cons z zs =>
  have hr : r.length ≤ 1000 := by simp at hl; omega
  have hzs : zs.length ≤ 1000 := by simp at hl2; omega
  have e3 : cutL (PyData.int z :: zs.map PyData.int) (some 1) none = zs.map PyData.int := by
    rw [show (1 : Int) = ((1 : Nat) : Int) from rfl, cut_drop _ _ (by simp)]; rfl
  refine w_eq ?_
  unfold m_after b_after
  dsimp only [Sd.d, iT, List.map]
  repeat wtm_at "z"
  refine w_unp ?_
  repeat wtm_at "z"
  refine ⟨_, _, rfl, rfl, ?_⟩
  simp only [List.set_cons_succ, List.set_cons_zero]
  repeat wtm_at "z"
  refine bv_eqS ?_ (by rw [strOk_deed]; decide +kernel)
  repeat wtm_at "z"
  rw [deed_board]
  cases b with
  | true =>
    repeat wtm_at "z"
    refine w_of (boarded_loads_eq l z r zs hr _) ?_
    repeat wtm_at "z"
    · rw [e3]
      refine ⟨?_, rfl⟩
      show _ = Val.d (Sd.d ⟨(l + z) :: r, zs ++ [y], 0⟩)
      unfold Sd.d iT
      simp
    · rw [e3]
      have := sizeLine_big
      simp
      omega
  | false =>
    repeat wtm_at "z"
    refine w_of (turned_loads_eq _ hl _) ?_
    repeat wtm_at "z"
    exact ⟨rfl, rfl⟩
/-- an integer within bounds, of any data -/
def isIntD (lo hi : Int) : PyData → Bool
  | .int i => decide (lo ≤ i) && decide (i ≤ hi)
  | _ => false
theorem is_integer_eq (d : PyData) (lo hi : Int) (hd : d.canLay0 = true) (s : Dk) : m_is_integer [.d d, .d (.int lo), .d (.int hi)] s = .ok (.d (.bool (isIntD lo hi d))) s := by
  refine w_eq ?_
  unfold m_is_integer b_is_integer
  repeat wtm_at "z"
  refine w_isi ?_
  repeat wtm_at "z"
  cases d with
  | dict _ => simp only [PyData.canLay0] at hd; cases hd
  | int i =>
    refine uv (r := .bool true) rfl ?_
    repeat wtm_at "z"
    refine w_isi ?_
    repeat wtm_at "z"
    refine uv (r := .bool false) rfl ?_
    repeat wtm_at "z"
    refine br_t ?_
    repeat wtm_at "z"
    refine br_dec (fun h => ?_) fun h => ?_
    · repeat wtm_at "z"
      refine ⟨?_, rfl⟩
      rw [show isIntD lo hi (.int i) = (decide (lo ≤ i) && decide (i ≤ hi)) from rfl, decide_eq_true h]
      rfl
    · repeat wtm_at "z"
      refine ⟨?_, rfl⟩
      rw [show isIntD lo hi (.int i) = (decide (lo ≤ i) && decide (i ≤ hi)) from rfl, decide_eq_false h]
      rfl
  | bool i =>
    refine uv (r := .bool true) rfl ?_
    repeat wtm_at "z"
    refine w_isi ?_
    repeat wtm_at "z"
    refine uv (r := .bool true) rfl ?_
    repeat wtm_at "z"
    refine br_f ?_
    exact ⟨rfl, rfl⟩
  | none =>
    refine uv (r := .bool false) rfl ?_
    repeat wtm_at "z"
    exact ⟨rfl, rfl⟩
  | str _ =>
    refine uv (r := .bool false) rfl ?_
    repeat wtm_at "z"
    exact ⟨rfl, rfl⟩
  | list _ =>
    refine uv (r := .bool false) rfl ?_
    repeat wtm_at "z"
    exact ⟨rfl, rfl⟩
  | tuple _ =>
    refine uv (r := .bool false) rfl ?_
    repeat wtm_at "z"
    exact ⟨rfl, rfl⟩
def areIntD (lo hi : Int) : PyData → Bool
  | .tuple ds => ds.all (isIntD lo hi)
  | _ => false
theorem canLayAll_mem : ∀ {ds : List PyData}, PyData.canLayAll0 ds = true → ∀ d ∈ ds, d.canLay0 = true
  | [], _, d, m => by cases m
  | x :: xs, h, d, m => by
    have h' : x.canLay0 = true ∧ PyData.canLayAll0 xs = true := by simpa only [PyData.canLayAll0, Bool.and_eq_true] using h
    rcases List.mem_cons.mp m with rfl | m
    · exact h'.1
    · exact canLayAll_mem h'.2 d m
theorem are_integers_eq (d : PyData) (lo hi : Int) (hd : d.canLay0 = true) (hl : ∀ ds, d = .tuple ds → ds.length ≤ 1000000) (s : Dk) : m_are_integers [.d d, .d (.int lo), .d (.int hi)] s = .ok (.d (.bool (areIntD lo hi d))) s := by
  refine w_eq ?_
  unfold m_are_integers b_are_integers
  repeat wtm_at "z"
  refine w_isi ?_
  repeat wtm_at "z"
  cases d with
  | dict _ => simp only [PyData.canLay0] at hd; cases hd
  | tuple ds =>
    have hds := canLayAll_mem (ds := ds) (by simpa only [PyData.canLay0] using hd)
    have hle := hl ds rfl
    refine uv (r := .bool true) rfl ?_
    repeat wtm_at "z"
    refine ⟨by have := sizeLine_big; omega, ?_⟩
    refine lc_map (fun d => .bool (isIntD lo hi d)) ds (fun d hd => item1 rfl ?_) ?_
    · repeat wtm_at "z"
      refine w_of (is_integer_eq d lo hi (hds d hd) _) ?_
      exact ⟨_, rfl, rfl, rfl⟩
    · repeat wtm_at "z"
      refine cv_all ?_
      repeat wtm_at "z"
      exact ⟨rfl, rfl⟩
  | int i =>
    refine uv (r := .bool false) rfl ?_
    repeat wtm_at "z"
    exact ⟨rfl, rfl⟩
  | bool i =>
    refine uv (r := .bool false) rfl ?_
    repeat wtm_at "z"
    exact ⟨rfl, rfl⟩
  | none =>
    refine uv (r := .bool false) rfl ?_
    repeat wtm_at "z"
    exact ⟨rfl, rfl⟩
  | str _ =>
    refine uv (r := .bool false) rfl ?_
    repeat wtm_at "z"
    exact ⟨rfl, rfl⟩
  | list _ =>
    refine uv (r := .bool false) rfl ?_
    repeat wtm_at "z"
    exact ⟨rfl, rfl⟩
def intsOf : PyData → Option (List Int)
  | .tuple ds => intsD ds
  | _ => none
theorem intsD_some : ∀ {ds : List PyData} {ns : List Int}, intsD ds = some ns → ds = ns.map .int := fun h => intsD_eq h
theorem all_intsD (lo hi : Int) : ∀ ds : List PyData, ds.all (isIntD lo hi) = true → ∃ ns : List Int, ds = ns.map .int ∧ ∀ n ∈ ns, lo ≤ n ∧ n ≤ hi
  | [], _ => ⟨[], rfl, fun n hn => by cases hn⟩
  | d :: ds, h => by
    rw [List.all_cons, Bool.and_eq_true] at h
    obtain ⟨ns, rfl, hns⟩ := all_intsD lo hi ds h.2
    have h1 := h.1
    unfold isIntD at h1
    split at h1
    · rename_i i
      rw [Bool.and_eq_true] at h1
      refine ⟨i :: ns, rfl, fun n hn => ?_⟩
      rcases List.mem_cons.mp hn with rfl | hn
      · exact ⟨of_decide_eq_true h1.1, of_decide_eq_true h1.2⟩
      · exact hns n hn
    · cases h1
theorem areInt_some {lo hi : Int} {d : PyData} (h : areIntD lo hi d = true) : ∃ ns, d = iT ns ∧ ∀ n ∈ ns, lo ≤ n ∧ n ≤ hi := by
  cases d with
  | tuple ds =>
    obtain ⟨ns, e, hn⟩ := all_intsD lo hi ds h
    exact ⟨ns, by rw [e], hn⟩
  | _ => cases h
theorem areInt_of {lo hi : Int} {ns : List Int} (h : ∀ n ∈ ns, lo ≤ n ∧ n ≤ hi) : areIntD lo hi (iT ns) = true := by
  show (ns.map PyData.int).all (isIntD lo hi) = true
  rw [List.all_map]
  exact List.all_eq_true.mpr fun n hn => by
    show (decide (lo ≤ n) && decide (n ≤ hi)) = true
    rw [decide_eq_true (h n hn).1, decide_eq_true (h n hn).2]
    rfl
/-- what a stand is -/
structure IsSd (w : Wh) (t : Sd) : Prop where
  ls : ∀ n ∈ t.ls, 0 ≤ n ∧ n ≤ w.room
  n : t.ls.length = w.ws.length
  up : w.up t.ls = true
  ln : ∀ n ∈ t.ln, 1 ≤ n ∧ n ≤ w.room
  look : (t.ln.length : Int) = w.look
  zs : ∀ n ∈ t.ln, n ∈ w.sizes
  wt : 0 ≤ t.wt ∧ t.wt ≤ w.pat
/-- a text of what is_stand looks at, step by step -/
def isSdD (w : Wh) : PyData → Bool
  | .tuple [a, b, c] => areIntD 0 w.room a && (match intsOf a with
    | some ls => decide (ls.length = w.ws.length) && w.up ls
    | none => false) && areIntD 1 w.room b && (match intsOf b with
    | some ln => decide ((ln.length : Int) = w.look) && ln.all (fun n => decide (n ∈ w.sizes))
    | none => false) && isIntD 0 w.pat c
  | _ => false
theorem intsOf_iT (ns : List Int) : intsOf (iT ns) = some ns := intsD_map ns
theorem is_stand_eq (w : Wh) (v : PyData) (hw : SmallL w.ws) (hz : w.sizes.length ≤ 1000) (hv : v.canLay0 = true) (hl : ∀ ds, v = .tuple ds → ds.length ≤ 1000 ∧ ∀ d ∈ ds, ∀ es, d = .tuple es → es.length ≤ 1000) (s : Dk) :
    m_is_stand [.d w.d, .d v] s = .ok (.d (.bool (isSdD w v))) s := by
  refine w_eq ?_
  unfold m_is_stand b_is_stand
  repeat wtm_at "z"
  refine w_unp ?_
  repeat wtm_at "z"
  refine ⟨_, _, rfl, rfl, ?_⟩
  simp only [List.set_cons_succ, List.set_cons_zero]
  repeat wtm_at "z"
  refine w_isi ?_
  repeat wtm_at "z"
  have other : (∀ ds, v ≠ .tuple ds) → isSdD w v = false := fun h => by
    cases v with
    | tuple ds => exact absurd rfl (h ds)
    | _ => rfl
  cases v with
  | dict _ => simp only [PyData.canLay0] at hv; cases hv
  | tuple ds =>
    have hds := canLayAll_mem (ds := ds) (by simpa only [PyData.canLay0] using hv)
    have hdl := hl ds rfl
    refine uv (r := .bool true) rfl ?_
    repeat wtm_at "z"
    refine br_f ?_
    repeat wtm_at "z"
    refine br_ndec (fun h3 => ?_) fun h3 => ?_
    · repeat wtm_at "z"
      refine ⟨?_, rfl⟩
      have e : isSdD w (.tuple ds) = false := by
        unfold isSdD
        split
        · rename_i he
          injection he with he
          rw [he] at h3
          exact absurd rfl h3
        · rfl
      rw [e]
    · have h3 : ds.length = 3 := by omega
      obtain ⟨a, b, c, rfl⟩ : ∃ a b c, ds = [a, b, c] := by
        match ds, h3 with
        | [a, b, c], _ => exact ⟨a, b, c, rfl⟩
      have ha := hds a (by simp)
      have hb := hds b (by simp)
      have hc := hds c (by simp)
      have la := hdl.2 a (by simp)
      have lb := hdl.2 b (by simp)
      clear other hdl hds h3 hl
      repeat wtm_at "z"
      refine w_unp ?_
      repeat wtm_at "z"
      refine ⟨_, _, rfl, rfl, ?_⟩
      simp only [List.set_cons_succ, List.set_cons_zero]
      repeat wtm_at "z"
      refine w_of (are_integers_eq a 0 w.room ha (fun ds e => Nat.le_trans (la ds e) (by decide)) _) ?_
      repeat wtm_at "z"
      have e0 : isSdD w (.tuple [a, b, c]) = (areIntD 0 w.room a && (match intsOf a with
        | some ls => decide (ls.length = w.ws.length) && w.up ls
        | none => false) && areIntD 1 w.room b && (match intsOf b with
        | some ln => decide ((ln.length : Int) = w.look) && ln.all (fun n => decide (n ∈ w.sizes))
        | none => false) && isIntD 0 w.pat c) := rfl
      rw [e0]
      cases ea : areIntD 0 w.room a with
      | false =>
        simp only [Bool.not_false]
        repeat wtm_at "z"
        exact ⟨rfl, rfl⟩
      | true =>
        obtain ⟨ls, rfl, hls⟩ := areInt_some ea
        have hll : ls.length ≤ 1000 := by have := la _ rfl; simpa using this
        simp only [Bool.not_true]
        rw [intsOf_iT]
        repeat wtm_at "z"
        refine br_ndec (fun hn => ?_) fun hn => ?_
        · repeat wtm_at "z"
          refine ⟨?_, rfl⟩
          simp only [List.length_map] at hn
          have hn : ¬ ls.length = w.ws.length := fun e => hn (by rw [e])
          simp [hn]
        · simp only [List.length_map] at hn
          have hn : ls.length = w.ws.length := by omega
          repeat wtm_at "z"
          refine w_of (is_upright_eq w ls hw _) ?_
          repeat wtm_at "z"
          cases eu : w.up ls with
          | false =>
            simp only [Bool.not_false]
            repeat wtm_at "z"
            refine ⟨?_, rfl⟩
            simp [eu]
          | true =>
            simp only [Bool.not_true]
            repeat wtm_at "z"
            refine w_of (are_integers_eq b 1 w.room hb (fun ds e => Nat.le_trans (lb ds e) (by decide)) _) ?_
            repeat wtm_at "z"
            cases eb : areIntD 1 w.room b with
            | false =>
              simp only [Bool.not_false]
              repeat wtm_at "z"
              refine ⟨?_, rfl⟩
              simp [eb]
            | true =>
              obtain ⟨ln, rfl, hln⟩ := areInt_some eb
              have hlb : ln.length ≤ 1000 := by have := lb _ rfl; simpa using this
              simp only [Bool.not_true]
              rw [intsOf_iT]
              repeat wtm_at "z"
              refine br_ndec (fun hk => ?_) fun hk => ?_
              · repeat wtm_at "z"
                refine ⟨?_, rfl⟩
                simp only [List.length_map] at hk
                simp [hk]
              · simp only [List.length_map] at hk
                repeat wtm_at "z"
                refine ⟨by rw [List.length_map]; have := sizeLine_big; omega, ?_⟩
                refine lc_mapOf PyData.int (fun n => .bool (decide (n ∈ w.sizes))) ln (fun n _ => item1 rfl ?_) ?_
                · repeat wtm_at "z"
                  refine bv_inI ?_
                  exact ⟨_, rfl, rfl, rfl⟩
                · repeat wtm_at "z"
                  refine cv_all ?_
                  repeat wtm_at "z"
                  cases es : ln.all (fun n => decide (n ∈ w.sizes)) with
                  | false =>
                    simp only [Bool.not_false]
                    repeat wtm_at "z"
                    refine ⟨?_, rfl⟩
                    simp [es]
                  | true =>
                    simp only [Bool.not_true]
                    repeat wtm_at "z"
                    refine w_of (is_integer_eq c 0 w.pat hc _) ?_
                    repeat wtm_at "z"
                    refine ⟨?_, rfl⟩
                    simp [hn, hk, eu, es, ea, eb]
  | int _ =>
    refine uv (r := .bool false) rfl ?_
    repeat wtm_at "z"
    refine br_t ?_
    repeat wtm_at "z"
    exact ⟨rfl, rfl⟩
  | bool _ =>
    refine uv (r := .bool false) rfl ?_
    repeat wtm_at "z"
    refine br_t ?_
    repeat wtm_at "z"
    exact ⟨rfl, rfl⟩
  | none =>
    refine uv (r := .bool false) rfl ?_
    repeat wtm_at "z"
    refine br_t ?_
    repeat wtm_at "z"
    exact ⟨rfl, rfl⟩
  | str _ =>
    refine uv (r := .bool false) rfl ?_
    repeat wtm_at "z"
    refine br_t ?_
    repeat wtm_at "z"
    exact ⟨rfl, rfl⟩
  | list _ =>
    refine uv (r := .bool false) rfl ?_
    repeat wtm_at "z"
    refine br_t ?_
    repeat wtm_at "z"
    exact ⟨rfl, rfl⟩
/-- all stands to which a deed can lead -/
def allL (w : Wh) (t : Sd) (b : Bool) : List Sd := if b then w.sizes.map (afterL t true) else [afterL t false 0]
theorem after_all_eq (w : Wh) (t : Sd) (b : Bool) (hz : w.sizes.length ≤ 1000) (hl : t.ls.length ≤ 1000) (hl2 : t.ln.length ≤ 1000) (h0 : t.ls ≠ []) (h1 : t.ln ≠ []) (s : Dk) : m_after_all [.d w.d, .d t.d, .d (.str (deedS b))] s = .ok (.d (.tuple ((allL w t b).map Sd.d))) s := by
  refine w_eq ?_
  unfold m_after_all b_after_all
  repeat wtm_at "z"
  refine bv_eqS ?_ (by rw [strOk_deed]; decide +kernel)
  repeat wtm_at "z"
  rw [deed_turn]
  cases b with
  | false =>
    simp only [Bool.not_false]
    repeat wtm_at "z"
    refine w_of (after_eq w t false 0 hl hl2 h0 h1 _) ?_
    repeat wtm_at "z"
    exact ⟨rfl, rfl⟩
  | true =>
    simp only [Bool.not_true]
    repeat wtm_at "z"
    refine ⟨by rw [List.length_map]; have := sizeLine_big; omega, ?_⟩
    refine lc_mapOf _ (fun z => Sd.d (afterL t true z)) _ (fun z _ => item1 rfl ?_) ?_
    · repeat wtm_at "z"
      refine w_of (after_eq w t true z hl hl2 h0 h1 _) ?_
      exact ⟨_, rfl, rfl, rfl⟩
    · repeat wtm_at "z"
      refine ⟨?_, rfl⟩
      show _ = Val.d (.tuple ((w.sizes.map (afterL t true)).map Sd.d))
      rw [List.map_map]
      rfl
theorem behind_all {w : Wh} {t : Sd} {b : Bool} (h : behindL w t b ≠ []) : behindL w t b = allL w t b := by
  unfold behindL at h ⊢
  unfold allL
  cases b with
  | true =>
    simp only [if_true] at h ⊢
    split
    · rfl
    · rename_i hf
      rw [if_neg hf] at h
      exact absurd rfl h
  | false =>
    simp only [Bool.false_eq_true, if_false] at h ⊢
    split
    · rfl
    · rename_i hf
      rw [if_neg hf] at h
      exact absurd rfl h
theorem dot_zero : ∀ (ws : List Int) (n : Nat), dotL ws (List.replicate n 0) = 0
  | [], _ => rfl
  | w :: ws, 0 => by simp [dotL]
  | w :: ws, n + 1 => by
    have ih := dot_zero ws n
    unfold dotL at ih ⊢
    rw [List.replicate_succ, List.zip_cons_cons, List.map_cons, List.sum_cons, ih]
    simp
theorem starts_up (w : Wh) {most : Int} (hw : GoodWh most w) : ∀ t ∈ startsL w, w.up t.ls = true := by
  intro t ht
  obtain ⟨r, hr, rfl⟩ := List.mem_map.mp ht
  show (decide (w.lo ≤ dotL w.ws (List.replicate w.ws.length 0)) && decide (dotL w.ws (List.replicate w.ws.length 0) ≤ w.hi)) = true
  rw [dot_zero, decide_eq_true hw.lo.2, decide_eq_true hw.hi.1]
  rfl
mutual
/-- the numbers in it are at most so great -/
def intsB (M : Nat) : PyData → Bool
  | .int i => decide (i.natAbs ≤ M)
  | .list xs => intsBAll M xs
  | .tuple xs => intsBAll M xs
  | .dict _ => false
  | _ => true
def intsBAll (M : Nat) : List PyData → Bool
  | [] => true
  | x :: xs => intsB M x && intsBAll M xs
end
/-- data: numbers at most M, nesting at most k, bulk at most b -/
structure Fit (M k b : Nat) (d : PyData) : Prop where
  lay : d.canLay0 = true
  ib : intsB M d = true
  dp : d.depth ≤ k
  bk : d.bulk ≤ b
structure FitL (M k b : Nat) (d : List PyData) : Prop where
  lay : PyData.canLayAll0 d = true
  ib : intsBAll M d = true
  dp : PyData.depthAll d ≤ k
  bk : PyData.bulkAll d ≤ b
mutual
theorem intsB_short {M : Nat} (hM : M < 10 ^ 58) : ∀ d : PyData, intsB M d = true → d.intsShort 60 = true ∧ d.showable = true
  | .none, _ => ⟨rfl, rfl⟩
  | .bool _, _ => ⟨rfl, rfl⟩
  | .str _, _ => ⟨rfl, rfl⟩
  | .int i, h => by
    have h : i.natAbs ≤ M := of_decide_eq_true (by simpa only [intsB] using h)
    have s := sm_intB (i := i) (Nat.lt_of_le_of_lt h hM)
    exact ⟨s.short, s.sh⟩
  | .list xs, h => by
    have s := intsBAll_short hM xs (by simpa only [intsB] using h)
    exact ⟨by simp only [PyData.intsShort]; exact s.1, by simp only [PyData.showable]; exact s.2⟩
  | .tuple xs, h => by
    have s := intsBAll_short hM xs (by simpa only [intsB] using h)
    exact ⟨by simp only [PyData.intsShort]; exact s.1, by simp only [PyData.showable]; exact s.2⟩
  | .dict _, h => by simp only [intsB] at h; cases h
theorem intsBAll_short {M : Nat} (hM : M < 10 ^ 58) : ∀ d : List PyData, intsBAll M d = true → PyData.intsShortAll 60 d = true ∧ PyData.showableAll d = true
  | [], _ => ⟨rfl, rfl⟩
  | x :: xs, h => by
    have h' : intsB M x = true ∧ intsBAll M xs = true := by simpa only [intsBAll, Bool.and_eq_true] using h
    have s := intsB_short hM x h'.1
    have t := intsBAll_short hM xs h'.2
    exact ⟨by simp only [PyData.intsShortAll, s.1, t.1, Bool.and_self], by simp only [PyData.showableAll, s.2, t.2, Bool.and_self]⟩
end
mutual
theorem intsB_mono {M M' : Nat} (hM : M ≤ M') : ∀ d : PyData, intsB M d = true → intsB M' d = true
  | .none, _ => rfl
  | .bool _, _ => rfl
  | .str _, _ => rfl
  | .int i, h => by
    have h : i.natAbs ≤ M := of_decide_eq_true (by simpa only [intsB] using h)
    simp only [intsB]
    exact decide_eq_true (Nat.le_trans h hM)
  | .list xs, h => by
    simp only [intsB]
    exact intsBAll_mono hM xs (by simpa only [intsB] using h)
  | .tuple xs, h => by
    simp only [intsB]
    exact intsBAll_mono hM xs (by simpa only [intsB] using h)
  | .dict _, h => by simp only [intsB] at h; cases h
theorem intsBAll_mono {M M' : Nat} (hM : M ≤ M') : ∀ d : List PyData, intsBAll M d = true → intsBAll M' d = true
  | [], _ => rfl
  | x :: xs, h => by
    have h' : intsB M x = true ∧ intsBAll M xs = true := by simpa only [intsBAll, Bool.and_eq_true] using h
    simp only [intsBAll, intsB_mono hM x h'.1, intsBAll_mono hM xs h'.2, Bool.and_self]
end
theorem Fit.sm {M k b : Nat} {d : PyData} (h : Fit M k b d) (hM : M < 10 ^ 58) : Sm k b d := ⟨h.lay, (intsB_short hM d h.ib).1, (intsB_short hM d h.ib).2, h.dp, h.bk⟩
theorem Fit.le {M k b M' k' b' : Nat} {d : PyData} (h : Fit M k b d) (hM : M ≤ M') (hk : k ≤ k') (hb : b ≤ b') : Fit M' k' b' d := ⟨h.lay, intsB_mono hM d h.ib, Nat.le_trans h.dp hk, Nat.le_trans h.bk hb⟩
theorem FitL.le {M k b M' k' b' : Nat} {d : List PyData} (h : FitL M k b d) (hM : M ≤ M') (hk : k ≤ k') (hb : b ≤ b') : FitL M' k' b' d := ⟨h.lay, intsBAll_mono hM d h.ib, Nat.le_trans h.dp hk, Nat.le_trans h.bk hb⟩
theorem fit_int {M k b : Nat} {i : Int} (h : i.natAbs ≤ M) : Fit M k b (.int i) := ⟨rfl, by simp only [intsB]; exact decide_eq_true h, Nat.zero_le _, Nat.zero_le _⟩
theorem fit_tuple {M k b : Nat} {ds : List PyData} (h : FitL M k b ds) : Fit M (k + 1) b (.tuple ds) :=
  ⟨by simp only [PyData.canLay0]; exact h.lay, by simp only [intsB]; exact h.ib, by simp only [PyData.depth]; exact Nat.succ_le_succ h.dp, by simp only [PyData.bulk]; exact h.bk⟩
theorem fit_list {M k b : Nat} {ds : List PyData} (h : FitL M k b ds) : Fit M (k + 1) b (.list ds) :=
  ⟨by simp only [PyData.canLay0]; exact h.lay, by simp only [intsB]; exact h.ib, by simp only [PyData.depth]; exact Nat.succ_le_succ h.dp, by simp only [PyData.bulk]; exact h.bk⟩
theorem Fit.tup {M k b : Nat} {ds : List PyData} (h : Fit M k b (.tuple ds)) : ∃ j, k = j + 1 ∧ FitL M j b ds := by
  have h1 := h.dp
  simp only [PyData.depth] at h1
  exact ⟨k - 1, by omega, by simpa only [PyData.canLay0] using h.lay, by simpa only [intsB] using h.ib, by omega, by simpa only [PyData.bulk] using h.bk⟩
theorem fl_nil {M k b : Nat} : FitL M k b [] := ⟨rfl, rfl, Nat.zero_le _, Nat.zero_le _⟩
theorem fl_cons {M k b b' : Nat} {d : PyData} {ds : List PyData} (h : Fit M k b d) (t : FitL M k b' ds) : FitL M k (b + 1 + b') (d :: ds) :=
  ⟨by simp only [PyData.canLayAll0, h.lay, t.lay, Bool.and_self], by simp only [intsBAll, h.ib, t.ib, Bool.and_self],
    by simp only [PyData.depthAll]; exact Nat.max_le.mpr ⟨h.dp, t.dp⟩, by simp only [PyData.bulkAll]; have := h.bk; have := t.bk; omega⟩
theorem FitL.head {M k b : Nat} {d : PyData} {ds : List PyData} (h : FitL M k b (d :: ds)) : ∃ b1 b2, b1 + 1 + b2 ≤ b ∧ Fit M k b1 d ∧ FitL M k b2 ds := by
  obtain ⟨h1, h2, h3, h4⟩ := h
  simp only [PyData.canLayAll0, Bool.and_eq_true] at h1
  simp only [intsBAll, Bool.and_eq_true] at h2
  simp only [PyData.depthAll] at h3
  simp only [PyData.bulkAll] at h4
  have h3 := Nat.max_le.mp h3
  exact ⟨d.bulk, PyData.bulkAll ds, by omega, ⟨h1.1, h2.1, h3.1, Nat.le_refl _⟩, ⟨h1.2, h2.2, h3.2, Nat.le_refl _⟩⟩
theorem fl_app {M k : Nat} : ∀ {b b' : Nat} {xs ys : List PyData}, FitL M k b xs → FitL M k b' ys → FitL M k (b + b') (xs ++ ys)
  | b, b', [], ys, _, h => h.le (Nat.le_refl _) (Nat.le_refl _) (by omega)
  | b, b', x :: xs, ys, h, g => by
    obtain ⟨b1, b2, e, h1, h2⟩ := h.head
    exact (fl_cons h1 (fl_app h2 g)).le (Nat.le_refl _) (Nat.le_refl _) (by omega)
theorem FitL.split {M k : Nat} : ∀ {b : Nat} {xs ys : List PyData}, FitL M k b (xs ++ ys) → ∃ b1 b2, b1 + b2 ≤ b ∧ FitL M k b1 xs ∧ FitL M k b2 ys
  | b, [], ys, h => ⟨0, b, by omega, fl_nil, h⟩
  | b, x :: xs, ys, h => by
    obtain ⟨b1, b2, e, h1, h2⟩ := FitL.head (ds := xs ++ ys) h
    obtain ⟨b3, b4, e2, h3, h4⟩ := h2.split
    exact ⟨b1 + 1 + b3, b4, by omega, fl_cons h1 h3, h4⟩
theorem FitL.len {M k : Nat} : ∀ {b : Nat} {xs : List PyData}, FitL M k b xs → xs.length ≤ b
  | b, [], _ => Nat.zero_le _
  | b, x :: xs, h => by
    obtain ⟨b1, b2, e, _, h2⟩ := h.head
    have := h2.len
    rw [List.length_cons]
    omega
theorem FitL.mem {M k : Nat} : ∀ {b : Nat} {xs : List PyData}, FitL M k b xs → ∀ d ∈ xs, Fit M k b d
  | b, [], _, d, m => by cases m
  | b, x :: xs, h, d, m => by
    obtain ⟨b1, b2, e, h1, h2⟩ := h.head
    rcases List.mem_cons.mp m with rfl | m
    · exact h1.le (Nat.le_refl _) (Nat.le_refl _) (by omega)
    · exact (h2.mem d m).le (Nat.le_refl _) (Nat.le_refl _) (by omega)
theorem fl_rev {M k : Nat} : ∀ {b : Nat} {xs : List PyData}, FitL M k b xs → FitL M k b xs.reverse
  | b, [], h => h
  | b, x :: xs, h => by
    obtain ⟨b1, b2, e, h1, h2⟩ := h.head
    rw [List.reverse_cons]
    exact (fl_app (fl_rev h2) (fl_cons h1 (fl_nil (b := 0)))).le (Nat.le_refl _) (Nat.le_refl _) (by omega)
theorem fl_all {M k b : Nat} : ∀ ds : List PyData, (∀ d ∈ ds, Fit M k b d) → FitL M k (ds.length * (b + 1)) ds
  | [], _ => fl_nil
  | d :: ds, h => by
    have := fl_cons (h d (.head _)) (fl_all ds fun e m => h e (.tail _ m))
    refine this.le (Nat.le_refl _) (Nat.le_refl _) ?_
    rw [List.length_cons, Nat.succ_mul]
    omega
/-- the parts around a place -/
theorem FitL.at {M k b : Nat} {ds : List PyData} {m : Nat} (h : FitL M k b ds) (hm : m < ds.length) : ∃ b1 b2 b3, b1 + b2 + 1 + b3 ≤ b ∧ FitL M k b1 (ds.take m) ∧ Fit M k b2 ds[m] ∧ FitL M k b3 (ds.drop (m + 1)) := by
  have e : ds = ds.take m ++ ds.drop m := (List.take_append_drop m ds).symm
  rw [e] at h
  obtain ⟨b1, b2, e1, h1, h2⟩ := h.split
  rw [List.drop_eq_getElem_cons hm] at h2
  obtain ⟨b3, b4, e2, h3, h4⟩ := h2.head
  exact ⟨b1, b3, b4, by omega, h1, h3, h4⟩
def fitB' (M k b : Nat) (d : PyData) : Bool := d.canLay0 && intsB M d && decide (d.depth ≤ k) && decide (d.bulk ≤ b)
theorem fit_of {M k b : Nat} {d : PyData} (h : fitB' M k b d = true) : Fit M k b d := by
  unfold fitB' at h
  rw [Bool.and_eq_true, Bool.and_eq_true, Bool.and_eq_true] at h
  exact ⟨h.1.1.1, h.1.1.2, of_decide_eq_true h.1.2, of_decide_eq_true h.2⟩
theorem cut_take' {α : Type} (xs : List α) (i : Int) (h0 : 0 ≤ i) (h : i ≤ xs.length) : cutL xs none (some i) = xs.take i.toNat := by
  obtain ⟨n, rfl⟩ := Int.eq_ofNat_of_zero_le h0
  rw [cut_take _ _ (by omega)]
  rfl
theorem cut_drop' {α : Type} (xs : List α) (i : Int) (h0 : 0 ≤ i) (h : i ≤ xs.length) : cutL xs (some i) none = xs.drop i.toNat := by
  obtain ⟨n, rfl⟩ := Int.eq_ofNat_of_zero_le h0
  rw [cut_drop _ _ (by omega)]
  rfl
/-- isinstance, of any data -/
theorem uv_isi {S : Type} {s : S} {Q : Val → S → Prop} {T : String} {d : PyData} (h : d.canLay0 = true) (q : Q (.d (.bool (isT T d))) s) : UV (fun d => match d with | .dict _ => none | d => some (.bool (isT T d))) (.d d) s Q := by
  refine uv (r := .bool (isT T d)) ?_ q
  cases d with
  | dict _ => simp only [PyData.canLay0] at h; cases h
  | _ => rfl
theorem isT_tuple {d : PyData} (h : isT "tuple" d = true) : ∃ ds, d = .tuple ds := by
  cases d with
  | tuple ds => exact ⟨ds, rfl⟩
  | _ => simp [isT, tyD] at h
theorem isT_int {d : PyData} (h : isT "int" d = true) : (∃ i, d = .int i) ∨ ∃ b, d = .bool b := by
  cases d with
  | int i => exact .inl ⟨i, rfl⟩
  | bool b => exact .inr ⟨b, rfl⟩
  | _ => simp [isT, tyD] at h
theorem eqv_emptyT {d : PyData} : PyData.eqv d (.tuple []) = (match d with | .tuple [] => true | _ => false) := by
  cases d with
  | tuple ds => cases ds <;> simp only [PyData.eqv, PyData.eqvAll]
  | _ => simp only [PyData.eqv]
theorem bv_eqD {S : Type} {s : S} {Q : Val → S → Prop} {k b k' b' : Nat} {d e : PyData} (h : Sm k b d) (h' : Sm k' b' e) (q : Q (.d (.bool (PyData.eqv d e))) s) (hk : k ≤ 64 := by decide) (hk' : k' ≤ 64 := by decide) : BV opEq (.d d) (.d e) s Q :=
  bv_eq q (by rw [h.shaped hk, h'.shaped hk']; rfl)
theorem all_mem {M k b : Nat} {d : PyData} (L : List PyData) (m : d ∈ L) (h : L.all (fitB' M k b) = true) : Fit M k b d := fit_of (List.all_eq_true.mp h d m)
theorem odd_ok {a : Addr} {s : Dk} {n : Int} (hs : Dks a n s) (hn : n < 900000000) {Q : Val → Dk → Prop} (q : ∀ d s', Fit (10 ^ 40) 2 20 d → Dks a (n + 1) s' → Q (.d d) s') : W (m__law_odd [.r (.ref a)] s) Q := by
  unfold m__law_odd b__law_odd
  repeat wtm_at "z"
  all_goals first
    | (have := sizeLine_big; simp; done)
    | (have := sizeLine_big; simp; omega)
    | (exact ⟨by decide, by decide, by decide⟩)
    | skip
  · refine one_a hs (by omega) (by constructor <;> decide) fun d s1 hd hs1 => ?_
    have h := all_mem (M := 10 ^ 40) (k := 2) (b := 20) _ hd (by decide +kernel)
    repeat wtm_at "z"
    exact q d s1 h hs1
theorem bent_ok {a : Addr} {M : Nat} (hM : 10 ^ 40 ≤ M) (hM2 : M < 10 ^ 57) : ∀ (i : Nat) {d : PyData} {deep : Int} {k b : Nat} {s : Dk} {n : Int} {Q : Val → Dk → Prop}, Fit M k b d → k ≤ 50 → 0 ≤ deep → deep < i → i ≤ 100 → b ≤ 100000 → Dks a n s → n + 4 * i < 800000000 →
    (∀ d' s', Fit (M + 2) (k + 2) (2 * b + 20) d' → Dks a (n + 4 * i) s' → Q (.d d') s') → W (r__law_bent i [.r (.ref a), .d d, .d (.int deep)] s) Q
  | 0, _, _, _, _, _, _, _, _, _, h0, h1, _, _, _, _, _ => by omega
  | i + 1, d, deep, k, b, s, n, Q, hd, hk, h0, h1, hi, hb, hs, hn, q => by
    have hM57 : M + 2 < 10 ^ 58 := Nat.lt_of_lt_of_le (Nat.add_lt_add_right hM2 2) (by decide +kernel)
    have hsm := hd.sm (Nat.lt_trans hM2 (by decide +kernel))
    have sz := sizeLine_big
    have hodd : ∀ d', Fit (10 ^ 40) 2 20 d' → Fit (M + 2) (k + 2) (2 * b + 20) d' := fun d' h => h.le (Nat.le_trans hM (Nat.le_add_right _ _)) (by omega) (by omega)
    show W (runF 2 (b__law_bent (r__law_bent i)) [.r (.ref a), .d d, .d (.int deep)] s) Q
    unfold b__law_bent
    refine w_run ?_
    dsimp only [List.map, List.replicate, List.append, HAppend.hAppend, Append.append]
    refine w_sq ?_
    refine w_if ?_
    refine w_then (P := fun c s' => Dks a (n + 1) s' ∧ (c = false → ∃ ds, d = .tuple ds ∧ ds ≠ [] ∧ deep ≠ 0)) ?_ ?_
    · repeat wtm_at "z"
      refine w_isi ?_
      repeat wtm_at "z"
      refine uv_isi hd.lay ?_
      repeat wtm_at "z"
      refine br (fun e => ⟨hs.le (by omega), fun h => by cases h⟩) fun e => ?_
      have e : isT "tuple" d = true := by simpa using e
      obtain ⟨ds, rfl⟩ := isT_tuple e
      repeat wtm_at "z"
      refine bv_eqD (k := k) (k' := 1) (b' := 0) hsm (sm_tuple sl_nil) ?_ (by omega)
      repeat wtm_at "z"
      rw [eqv_emptyT]
      cases ds with
      | nil => exact br_t ⟨hs.le (by omega), fun h => by cases h⟩
      | cons x xs =>
        refine br_f ?_
        repeat wtm_at "z"
        refine br_dec (fun e => ⟨hs.le (by omega), fun h => by cases h⟩) fun e0 => ?_
        repeat wtm_at "z"
        refine draw_a hs (by omega) (by omega) fun r s1 r0 r1 hs1 => ?_
        repeat wtm_at "z"
        exact ⟨hs1, fun _ => ⟨_, rfl, by simp, e0⟩⟩
    · rintro c s1 ⟨hs1, hf⟩
      cases c with
      | true =>
        repeat wtm_at "z"
        refine w_isi ?_
        repeat wtm_at "z"
        refine uv_isi hd.lay ?_
        repeat wtm_at "z"
        refine br (fun e1 => ?_) fun e1 => ?_
        · repeat wtm_at "z"
          refine w_isi ?_
          repeat wtm_at "z"
          refine uv_isi hd.lay ?_
          repeat wtm_at "z"
          refine br (fun e2 => ?_) fun e2 => ?_
          · have e2 : isT "bool" d = false := by simpa using e2
            have e3 : ∃ z, d = .int z := by
              rcases isT_int e1 with ⟨z, rfl⟩ | ⟨z, rfl⟩
              · exact ⟨z, rfl⟩
              · simp [isT, tyD] at e2
            obtain ⟨z, rfl⟩ := e3
            have hz : z.natAbs ≤ M := of_decide_eq_true (by simpa only [intsB] using hd.ib)
            repeat wtm_at "z"
            refine draw_a hs1 (by omega) (by omega) fun r s2 r0 r1 hs2 => ?_
            repeat wtm_at "z"
            refine br_dec (fun e3 => ?_) fun e3 => ?_
            · repeat wtm_at "z"
              refine one_n [1, -1, 2, 0 - z] hs2 (by omega) (by simp) fun y s3 hy hs3 => ?_
              repeat wtm_at "z"
              refine q _ _ (fit_int ?_) (hs3.le (by omega))
              simp only [List.mem_cons, List.not_mem_nil, or_false] at hy
              rcases hy with rfl | rfl | rfl | rfl <;> omega
            · repeat wtm_at "z"
              refine odd_ok hs2 (by omega) fun y s3 hy hs3 => ?_
              repeat wtm_at "z"
              exact q _ _ (hodd _ hy) (hs3.le (by omega))
          · repeat wtm_at "z"
            refine odd_ok hs1 (by omega) fun y s3 hy hs3 => ?_
            repeat wtm_at "z"
            exact q _ _ (hodd _ hy) (hs3.le (by omega))
        · repeat wtm_at "z"
          refine odd_ok hs1 (by omega) fun y s3 hy hs3 => ?_
          repeat wtm_at "z"
          exact q _ _ (hodd _ hy) (hs3.le (by omega))
      | false =>
        obtain ⟨ds, rfl, hne, hdeep⟩ := hf rfl
        obtain ⟨j, rfl, hfl⟩ := hd.tup
        have hlen := hfl.len
        have hpos : 0 < ds.length := List.length_pos_iff.mpr hne
        repeat wtm_at "z"
        refine draw_a hs1 (by omega) (by omega) fun at_ s2 at0 at1 hs2 => ?_
        repeat wtm_at "z"
        refine draw_a hs2 (by omega) (by omega) fun way s3 w0 w1 hs3 => ?_
        repeat wtm_at "z"
        have hm : at_.toNat < ds.length := by omega
        obtain ⟨b1, b2, b3, eb, f1, f2, f3⟩ := hfl.at hm
        have l1 := f1.len
        have l3 := f3.len
        have ec1 : cutL ds none (some at_) = ds.take at_.toNat := cut_take' _ _ at0 (by omega)
        have ec2 : cutL ds (some at_) none = ds.drop at_.toNat := cut_drop' _ _ at0 (by omega)
        have ec3 : cutL ds (some (at_ + 1)) none = ds.drop (at_.toNat + 1) := by
          rw [cut_drop' _ _ (by omega) (by omega)]
          congr 1
          omega
        have f4 : FitL M j (b2 + 1 + b3) (ds.drop at_.toNat) := by
          rw [List.drop_eq_getElem_cons hm]
          exact fl_cons f2 f3
        have l4 := f4.len
        obtain ⟨_, eix⟩ := atI_get (xs := ds) at0 (by omega)
        refine br_dec (fun e => ?_) fun e => ?_
        · repeat wtm_at "z"
          · rw [ec1, ec3]
            exact q _ _ ((fit_tuple (fl_app f1 f3)).le (by omega) (by omega) (by omega)) (hs3.le (by omega))
          · rw [ec1, ec3]; omega
        · repeat wtm_at "z"
          refine br_dec (fun e => ?_) fun e => ?_
          · repeat wtm_at "z"
            refine bv (op := opIx) eix ?_
            repeat wtm_at "z"
            · rw [ec1, ec2]
              refine q _ _ ((fit_tuple (fl_app (fl_app f1 (fl_cons f2 (fl_nil (b := 0)))) f4)).le (by omega) (by omega) (by omega)) (hs3.le (by omega))
            · rw [ec1, ec2]; simp only [List.length_append, List.length_cons, List.length_nil]; omega
            · rw [ec1]; simp only [List.length_append, List.length_cons, List.length_nil]; omega
          · repeat wtm_at "z"
            refine br_dec (fun e => ?_) fun e => ?_
            · repeat wtm_at "z"
              refine uv (op := opRev) rfl ?_
              repeat wtm_at "z"
              exact q _ _ ((fit_tuple (fl_rev hfl)).le (by omega) (by omega) (by omega)) (hs3.le (by omega))
            · repeat wtm_at "z"
              refine br_dec (fun e => ?_) fun e => ?_
              · repeat wtm_at "z"
                exact q _ _ ((fit_list hfl).le (by omega) (by omega) (by omega)) (hs3.le (by omega))
              · repeat wtm_at "z"
                refine bv (op := opIx) eix ?_
                repeat wtm_at "z"
                · refine bent_ok hM hM2 i f2 (by omega) (by omega) (by omega) (by omega) (by omega) hs3 (by omega) fun d' s4 hd' hs4 => ?_
                  repeat wtm_at "z"
                  · rw [ec1, ec3]
                    refine q _ _ ((fit_tuple (fl_app (fl_app (f1.le (Nat.le_add_right M 2) (by omega : j ≤ j + 2) (Nat.le_refl _)) (fl_cons hd' (fl_nil (b := 0)))) (f3.le (Nat.le_add_right M 2) (by omega : j ≤ j + 2) (Nat.le_refl _)))).le (by omega) (by omega) (by omega)) (hs4.le (by omega))
                  · rw [ec1, ec3]; simp only [List.length_append, List.length_cons, List.length_nil]; omega
                  · rw [ec1]; simp only [List.length_append, List.length_cons, List.length_nil]; omega
theorem _root_.DL.Sm.tup {k b : Nat} {ds : List PyData} (h : Sm k b (.tuple ds)) : SmL k b ds ∧ ds.length ≤ b := by
  have hl : ∀ ds : List PyData, ds.length ≤ PyData.bulkAll ds := by
    intro ds
    induction ds with
    | nil => exact Nat.le_refl _
    | cons d ds ih => simp only [PyData.bulkAll, List.length_cons]; omega
  have h1 := h.dp
  have h2 := h.bk
  simp only [PyData.depth] at h1
  simp only [PyData.bulk] at h2
  exact ⟨⟨by simpa only [PyData.canLay0] using h.lay, by simpa only [PyData.intsShort] using h.short, by simpa only [PyData.showable] using h.sh, by omega, h2⟩, Nat.le_trans (hl ds) h2⟩
theorem sml_mem {k : Nat} : ∀ {b : Nat} {ds : List PyData}, SmL k b ds → ∀ d ∈ ds, Sm k b d
  | b, [], _, d, m => by cases m
  | b, x :: xs, h, d, m => by
    obtain ⟨h1, h2, h3, h4, h5⟩ := h
    simp only [PyData.canLayAll0, Bool.and_eq_true] at h1
    simp only [PyData.intsShortAll, Bool.and_eq_true] at h2
    simp only [PyData.showableAll, Bool.and_eq_true] at h3
    simp only [PyData.depthAll] at h4
    simp only [PyData.bulkAll] at h5
    have h4 := Nat.max_le.mp h4
    rcases List.mem_cons.mp m with rfl | m
    · exact ⟨h1.1, h2.1, h3.1, h4.1, by omega⟩
    · exact sml_mem (b := b) (ds := xs) ⟨h1.2, h2.2, h3.2, h4.2, by omega⟩ d m
theorem _root_.DL.SmL.mem {k b : Nat} {ds : List PyData} (h : SmL k b ds) : ∀ d ∈ ds, Sm k b d := sml_mem h
theorem filt_empty {α : Type} (p : α → Bool) : ∀ ln : List α, (ln.filter fun n => !p n).isEmpty = ln.all p
  | [] => rfl
  | n :: ns => by
    have ih := filt_empty p ns
    cases hp : p n with
    | true => rw [List.filter_cons_of_neg (by simp [hp]), List.all_cons, hp, ih]; rfl
    | false => rw [List.filter_cons_of_pos (by simp [hp]), List.all_cons, hp]; rfl
theorem is_stand_sm (w : Wh) (v : PyData) (hw : SmallL w.ws) (hz : w.sizes.length ≤ 1000) {k b : Nat} (hv : Sm k b v) (hb : b ≤ 1000) (s : Dk) : m_is_stand [.d w.d, .d v] s = .ok (.d (.bool (isSdD w v))) s :=
  is_stand_eq w v hw hz hv.lay (fun ds e => by
    subst e
    obtain ⟨h1, h2⟩ := hv.tup
    exact ⟨by omega, fun d hd es he => by
      subst he
      have := (h1.mem _ hd).tup.2
      omega⟩) s
structure OkT (t : Sd) : Prop where
  l0 : 0 < t.ls.length ∧ t.ls.length ≤ 6
  n0 : 0 < t.ln.length ∧ t.ln.length ≤ 3
  ls : ∀ x ∈ t.ls, -100 ≤ x ∧ x ≤ 100
  ln : ∀ x ∈ t.ln, -100 ≤ x ∧ x ≤ 100
  wt : -100 ≤ t.wt ∧ t.wt ≤ 100
theorem OkT.sm {t : Sd} (h : OkT t) : Sm 2 12 t.d := by
  have h1 := h.l0
  have h2 := h.n0
  have h3 := h.wt
  have s1 : Sm 1 6 (iT t.ls) := (sm_iT fun n m => by have := h.ls n m; omega).le (Nat.le_refl _) (by omega)
  have s2 : Sm 1 3 (iT t.ln) := (sm_iT fun n m => by have := h.ln n m; omega).le (Nat.le_refl _) (by omega)
  have i1 : Sm 0 0 (.int t.wt) := sm_int (by omega)
  exact (sm_tuple (sl_cons s1 (sl_cons s2 (sl_cons (i1.le (Nat.zero_le 1) (Nat.zero_le 0)) sl_nil)))).le (by decide) (by decide)
theorem okT_good {w : Wh} {t : Sd} {most : Int} (hw : GoodWh most w) (h : GoodSd w t) : OkT t := by
  have h1 := hw.n
  have h2 := hw.look
  have h3 := h.n
  have h4 := h.look
  have h5 := hw.room
  have h6 := hw.pat
  have h7 := h.wt
  exact ⟨by omega, by omega, fun x m => by have := h.ls x m; omega, fun x m => by have := hw.zs x (h.ln x m); omega, by omega⟩
theorem app_cps (x y : Str) : (x ++ y).cps.toList = x.cps.toList ++ y.cps.toList := by
  show (x.cps ++ y.cps).toList = _
  simp
theorem reprText_cps (x : Str) : (PySem.reprText x).cps.toList = reprQuote x :: (x.cps.toList.flatMap (Builtin.Str.reprChar (reprQuote x))) ++ [reprQuote x] := by
  unfold PySem.reprText
  simp only [Array.toList_push]
  rw [← Array.foldl_toList]
  have h : ∀ (l : List Nat) (acc : Array Nat), (l.foldl (fun out c => out ++ (Builtin.Str.reprChar (reprQuote x) c).toArray) acc).toList = acc.toList ++ l.flatMap (Builtin.Str.reprChar (reprQuote x)) := by
    intro l
    induction l with
    | nil => intro acc; simp
    | cons c l ih => intro acc; rw [List.foldl_cons, ih, List.flatMap_cons]; simp
  rw [h]
  simp
theorem int_head (i : Int) : ∃ c r, (PyData.int i).shown.cps.toList = c :: r ∧ c ≠ 39 := by
  have e : (PyData.int i).shown = Str.ofString (toString i) := by simp only [PyData.shown]
  rw [e, Str.ofString_eq_toList]
  have hd : ∀ n : Nat, ∃ c r, (toString n).toList = c :: r ∧ c.toNat ≠ 39 := by
    intro n
    have hne : (toString n).toList ≠ [] := by
      show (Nat.repr n).toList ≠ []
      simp [Nat.toList_repr, Nat.toDigits_ne_nil]
    obtain ⟨c, r, e⟩ := List.exists_cons_of_ne_nil hne
    refine ⟨c, r, e, fun h => ?_⟩
    have hm : c ∈ (Nat.toDigits 10 n) := by
      have : c ∈ (toString n).toList := by rw [e]; simp
      rw [show (toString n).toList = Nat.toDigits 10 n from Nat.toList_repr] at this
      exact this
    have := Nat.isDigit_of_mem_toDigits (by decide) (by decide) hm
    have h2 : c = Char.ofNat 39 := Char.toNat_inj.mp (by rw [h]; rfl)
    rw [h2] at this
    revert this
    decide
  cases i with
  | ofNat n =>
    obtain ⟨c, r, e, h⟩ := hd n
    refine ⟨c.toNat, r.map Char.toNat, ?_, h⟩
    show ((toString n).toList.map Char.toNat) = _
    rw [e]; rfl
  | negSucc n =>
    refine ⟨45, (toString (n + 1)).toList.map Char.toNat, ?_, by decide⟩
    show (("-" ++ toString (n + 1) : String).toList.map Char.toNat) = _
    rw [String.toList_append]
    rfl
def whatsL : List Str := ["load", "head", "waited", "lean", "ahead"]
/-- a test, a line of a rule -/
structure Tst where
  what : Str
  lo : Int
  hi : Int
structure Ln where
  ts : List Tst
  act : Bool
def Tst.d (t : Tst) : PyData := .tuple [.str t.what, .int t.lo, .int t.hi]
def Ln.d (l : Ln) : PyData := .tuple [.tuple (l.ts.map Tst.d), .str (deedS l.act)]
def ruD (r : List Ln) : PyData := .tuple (r.map Ln.d)
def big31 : Int := 10000000000000000000000000000000
structure GoodTst (t : Tst) : Prop where
  w : t.what ∈ whatsL
  lo : -big31 ≤ t.lo
  le : t.lo ≤ t.hi
  hi : t.hi ≤ big31
structure GoodRu (L T : Nat) (r : List Ln) : Prop where
  n : r.length ≤ L
  ts : ∀ l ∈ r, l.ts.length ≤ T ∧ ∀ t ∈ l.ts, GoodTst t
theorem fit_str {M k : Nat} {x : Str} (h : PyData.strOk x = true) : Fit M k x.length (.str x) := ⟨by simp only [PyData.canLay0]; exact h, rfl, Nat.zero_le _, Nat.le_refl _⟩
theorem whats_ok {x : Str} (h : x ∈ whatsL) : PyData.strOk x = true ∧ x.length ≤ 6 := by
  refine ⟨List.all_eq_true.mp (by decide +kernel : whatsL.all PyData.strOk = true) x h, ?_⟩
  exact of_decide_eq_true (List.all_eq_true.mp (by decide +kernel : whatsL.all (fun x : Str => decide (x.length ≤ 6)) = true) x h)
theorem fit_tst {t : Tst} (h : GoodTst t) : Fit (10 ^ 40) 1 9 t.d := by
  obtain ⟨h1, h2⟩ := whats_ok h.w
  have hl := h.lo
  have hle := h.le
  have hh := h.hi
  unfold big31 at hl hh
  have e40 : (10 : Nat) ^ 40 = 10000000000000000000000000000000000000000 := by decide +kernel
  exact (fit_tuple (fl_cons (fit_str (M := 10 ^ 40) (k := 0) h1) (fl_cons (fit_int (M := 10 ^ 40) (k := 0) (b := 0) (i := t.lo) (by rw [e40]; omega)) (fl_cons (fit_int (M := 10 ^ 40) (k := 0) (b := 0) (i := t.hi) (by rw [e40]; omega)) (fl_nil (b := 0)))))).le (Nat.le_refl _) (by decide) (by omega)
theorem deed_len (b : Bool) : (deedS b).length ≤ 5 := by cases b <;> decide +kernel
theorem fit_ln {T : Nat} {l : Ln} (hl : l.ts.length ≤ T) (h : ∀ t ∈ l.ts, GoodTst t) : Fit (10 ^ 40) 3 (10 * T + 7) l.d := by
  have h1 : FitL (10 ^ 40) 1 (10 * T) (l.ts.map Tst.d) := (fl_all (b := 9) _ fun d hd => by
    obtain ⟨t, ht, rfl⟩ := List.mem_map.mp hd
    exact fit_tst (h t ht)).le (Nat.le_refl _) (Nat.le_refl _) (by rw [List.length_map]; omega)
  have := deed_len l.act
  exact (fit_tuple (fl_cons (fit_tuple h1) (fl_cons ((fit_str (M := 10 ^ 40) (k := 2) (strOk_deed l.act))) (fl_nil (b := 0))))).le (Nat.le_refl _) (by decide) (by omega)
theorem fit_ru {L T : Nat} {r : List Ln} (h : GoodRu L T r) : Fit (10 ^ 40) 4 (L * (10 * T + 8)) (ruD r) :=
  fit_tuple ((fl_all (b := 10 * T + 7) _ fun d hd => by
    obtain ⟨l, hl, rfl⟩ := List.mem_map.mp hd
    exact fit_ln (h.ts l hl).1 (h.ts l hl).2).le (Nat.le_refl _) (Nat.le_refl _) (by
      rw [List.length_map]
      exact Nat.mul_le_mul_right _ h.n))
theorem gr_snoc {L T : Nat} {r : List Ln} {l : Ln} (h : GoodRu L T r) (h1 : l.ts.length ≤ T) (h2 : ∀ t ∈ l.ts, GoodTst t) : GoodRu (L + 1) T (r ++ [l]) :=
  ⟨by simp; exact h.n, fun x hx => by
    rcases List.mem_append.mp hx with m | m
    · exact h.ts x m
    · rw [List.mem_singleton.mp m]; exact ⟨h1, h2⟩⟩
theorem gr_app {L L' T : Nat} {r r' : List Ln} (h : GoodRu L T r) (h' : GoodRu L' T r') : GoodRu (L + L') T (r ++ r') :=
  ⟨by simp; have := h.n; have := h'.n; omega, fun x hx => by
    rcases List.mem_append.mp hx with m | m
    · exact h.ts x m
    · exact h'.ts x m⟩
theorem GoodRu.le {L L' T T' : Nat} {r : List Ln} (h : GoodRu L T r) (hL : L ≤ L') (hT : T ≤ T') : GoodRu L' T' r := ⟨Nat.le_trans h.n hL, fun x hx => ⟨Nat.le_trans (h.ts x hx).1 hT, (h.ts x hx).2⟩⟩
theorem one_s {a : Addr} (ws : List Str) {s : Dk} {k : Int} (hs : Dks a k s) (hk : k < 1000000000) (h : 0 < ws.length ∧ ws.length < 1000000) {Q : Val → Dk → Prop} (q : ∀ w s', w ∈ ws → Dks a (k + 1) s' → Q (.d (.str w)) s') :
    W (m__law_one [.r (.ref a), .d (.list (ws.map .str))] s) Q :=
  one_a hs hk (by simpa using h) fun d s' m o => by
    obtain ⟨n, hn, rfl⟩ := List.mem_map.mp m
    exact q n s' hn o
theorem one_deed {a : Addr} (bs : List Bool) {s : Dk} {k : Int} (hs : Dks a k s) (hk : k < 1000000000) (h : 0 < bs.length ∧ bs.length < 1000000) {Q : Val → Dk → Prop} (q : ∀ b s', b ∈ bs → Dks a (k + 1) s' → Q (.d (.str (deedS b))) s') :
    W (m__law_one [.r (.ref a), .d (.list (bs.map fun b => .str (deedS b)))] s) Q :=
  one_a hs hk (by simpa using h) fun d s' m o => by
    obtain ⟨n, hn, rfl⟩ := List.mem_map.mp m
    exact q n s' hn o
def endsL : List (List Ln) := [[], [⟨[], true⟩], [⟨[], true⟩, ⟨[], false⟩], [⟨[], false⟩, ⟨[], true⟩], [⟨[], true⟩, ⟨[], false⟩], [⟨[], false⟩, ⟨[], true⟩]]
theorem ends_good {T : Nat} : ∀ r ∈ endsL, GoodRu 2 T r := by
  intro r hr
  have h := List.all_eq_true.mp (rfl : (endsL.all fun r => decide (r.length ≤ 2) && r.all fun l => l.ts.isEmpty) = true) r hr
  rw [Bool.and_eq_true] at h
  refine ⟨of_decide_eq_true h.1, fun l hl => ?_⟩
  have e := List.isEmpty_iff.mp (List.all_eq_true.mp h.2 l hl)
  rw [e]
  exact ⟨Nat.zero_le _, fun t ht => by cases ht⟩
theorem e30 : (10 : Int) ^ (30 : Int).toNat = 1000000000000000000000000000000 := by decide +kernel
theorem rule_ok {a : Addr} {w : Wh} {s : Dk} {n : Int} (hs : Dks a n s) (hn : n < 800000000) {Q : Val → Dk → Prop}
    (q : ∀ r s', GoodRu 5 2 r → Dks a (n + 60) s' → Q (.d (ruD r)) s') : W (m__law_rule [.r (.ref a), .d w.d] s) Q := by
  have sz := sizeLine_big
  unfold m__law_rule b__law_rule
  repeat wtm_at "z"
  refine draw_a hs (by omega) (by omega) fun many s1 m0 m1 hs1 => ?_
  repeat wtm_at "z"
  · refine for_inv (fun j ρ s => Dks a (n + 1 + 15 * j) s ∧ ∃ r x3 x4 x5 x6 x7 x8 x9, GoodRu j 2 r ∧ ρ = [.v (.r (.ref a)), .v (.d w.d), .l (r.map Ln.d), x3, x4, x5, x6, x7, x8, x9]) (rngD 0 many.toNat) 0 ⟨hs1.le (by omega), [], _, _, _, _, _, _, _, ⟨Nat.le_refl _, fun _ h => by cases h⟩, rfl⟩ ?_ ?_
    · rintro j d hd ρ s ⟨hs, r, x3, x4, x5, x6, x7, x8, x9, hr, rfl⟩
      have hj := (rng_at hd).1
      rw [Nat.zero_add] at hr hs ⊢
      refine ⟨_, rfl, ?_⟩
      simp only [List.set_cons_succ, List.set_cons_zero]
      repeat wtm_at "z"
      refine draw_a hs (by omega) (by omega) fun more s2 o0 o1 hs2 => ?_
      repeat wtm_at "z"
      · refine for_inv (fun i ρ s => Dks a (n + 1 + 15 * j + 1 + 6 * i) s ∧ ∃ (ts : List Tst) (x5 x6 x7 x8 : Sl), (ts.length ≤ i ∧ ∀ t ∈ ts, GoodTst t) ∧ ρ = [.v (.r (.ref a)), .v (.d w.d), .l (r.map Ln.d), .v (.d d), .l (ts.map Tst.d), x5, x6, x7, x8, x9]) (rngD 0 more.toNat) 0 ⟨hs2.le (by omega), [], _, _, _, _, ⟨Nat.le_refl _, fun _ h => by cases h⟩, rfl⟩ ?_ ?_
        · rintro i d2 hd2 ρ s ⟨hs, ts, x5, x6, x7, x8, ⟨hl, ht⟩, rfl⟩
          have hi := (rng_at hd2).1
          rw [Nat.zero_add] at hl hs ⊢
          refine ⟨_, rfl, ?_⟩
          simp only [List.set_cons_succ, List.set_cons_zero]
          repeat wtm_at "z"
          refine one_s whatsL hs (by omega) (by decide) fun what s3 hwh hs3 => ?_
          repeat wtm_at "z"
          refine draw_a hs3 (by omega) (by omega) fun lo1 s4 l0 l1 hs4 => ?_
          repeat wtm_at "z"
          · refine one_n [0, 0, 0, 2, 9, -40, 60, 10 ^ (30 : Int).toNat] hs4 (by omega) (by constructor <;> decide) fun y s5 hy hs5 => ?_
            rw [e30] at hy
            repeat wtm_at "z"
            refine draw_a hs5 (by omega) (by omega) fun w1 s6 v0 v1 hs6 => ?_
            repeat wtm_at "z"
            refine draw_a hs6 (by omega) (by omega) fun w2 s7 u0 u1 hs7 => ?_
            repeat wtm_at "z"
            · refine one_n [w1, w2, 10, 130, 2 * 10 ^ (30 : Int).toNat] hs7 (by omega) (by constructor <;> simp) fun wi s8 hwi hs8 => ?_
              rw [e30] at hwi
              repeat wtm_at "z"
              refine ⟨_, rfl, by rw [List.length_map]; omega, ?_⟩
              repeat wtm_at "z"
              refine ⟨hs8.le (by omega), ts ++ [⟨what, lo1 - y, lo1 - y + wi⟩], _, _, _, _, ⟨by simp; omega, fun t m => ?_⟩, by rw [List.map_append]; rfl⟩
              rcases List.mem_append.mp m with m | m
              · exact ht t m
              · rw [List.mem_singleton.mp m]
                simp only [List.mem_cons, List.not_mem_nil, or_false] at hy hwi
                refine ⟨hwh, ?_, ?_, ?_⟩ <;> simp only [big31]
                · rcases hy with rfl | rfl | rfl | rfl | rfl | rfl | rfl | rfl <;> omega
                · rcases hwi with rfl | rfl | rfl | rfl | rfl <;> omega
                · rcases hy with rfl | rfl | rfl | rfl | rfl | rfl | rfl | rfl <;> rcases hwi with rfl | rfl | rfl | rfl | rfl <;> omega
            · exact .inl ⟨by decide, by decide⟩
            · exact ⟨by decide, by decide, by decide⟩
          · exact ⟨by decide, by decide, by decide⟩
        · rintro ρ s ⟨hs, ts, x5, x6, x7, x8, ⟨hl, ht⟩, rfl⟩
          rw [rng_len, Nat.zero_add] at hl hs
          repeat wtm_at "z"
          refine one_deed [true, false] hs (by omega) (by decide) fun b s3 hb hs3 => ?_
          have := hr.n
          repeat wtm_at "z"
          refine ⟨_, rfl, by rw [List.length_map]; omega, ?_⟩
          repeat wtm_at "z"
          refine ⟨hs3.le (by omega), r ++ [⟨ts, b⟩], _, _, _, _, _, _, _, gr_snoc hr (by show ts.length ≤ 2; omega) ht, by rw [List.map_append]; rfl⟩
      · omega
    · rintro ρ s ⟨hs, r, x3, x4, x5, x6, x7, x8, x9, hr, rfl⟩
      rw [rng_len, Nat.zero_add] at hr hs
      have hrn := hr.n
      repeat wtm_at "z"
      · refine one_a (ds := endsL.map fun r => .list (r.map Ln.d)) hs (by omega) (by constructor <;> decide) fun d s2 hd hs2 => ?_
        obtain ⟨r', hr', rfl⟩ := List.mem_map.mp hd
        have hg := ends_good (T := 2) r' hr'
        have hgn := hg.n
        repeat wtm_at "z"
        · have e : r.map Ln.d ++ r'.map Ln.d = (r ++ r').map Ln.d := by rw [List.map_append]
          rw [e]
          exact q (r ++ r') s2 ((gr_app hr hg).le (by omega) (Nat.le_refl _)) (hs2.le (by omega))
        · simp only [List.length_map]; omega
      · exact Nat.le_trans (by decide : _ ≤ 1000) (by omega)
  · omega
/-- what tests look at -/
def numsD (w : Wh) (t : Sd) : List (PyData × PyData) :=
  [(.str "load", .int (t.ls.headD 0)), (.str "head", .int (t.ln.headD 0)), (.str "waited", .int t.wt), (.str "lean", .int (dotL w.ws t.ls)), (.str "ahead", .int (dotL w.ws (turnL t.ls)))]
def numOf (w : Wh) (t : Sd) (x : Str) : Int :=
  if x = "load" then t.ls.headD 0 else if x = "head" then t.ln.headD 0 else if x = "waited" then t.wt else if x = "lean" then dotL w.ws t.ls else dotL w.ws (turnL t.ls)
theorem get_num (w : Wh) (t : Sd) {x : Str} (hx : x ∈ whatsL) : opDIx (.dict (numsD w t)) (.str x) = some (.int (numOf w t x)) := by
  unfold whatsL at hx
  simp only [List.mem_cons, List.not_mem_nil, or_false] at hx
  rcases hx with rfl | rfl | rfl | rfl | rfl
  · rfl
  · rfl
  · rfl
  · rfl
  · rfl
def fitsT (w : Wh) (t : Sd) (c : Tst) : Bool := decide (c.lo ≤ numOf w t c.what) && decide (numOf w t c.what ≤ c.hi)
def lineB (w : Wh) (t : Sd) (l : Ln) : Bool := l.ts.all (fitsT w t) && mayB w t l.act
def deedR (w : Wh) (t : Sd) (r : List Ln) : Option Bool := (r.find? (lineB w t)).map (·.act)
def actD : Option Bool → PyData
  | none => .none
  | some b => .str (deedS b)
theorem w_newDisp {S : Type} {s : S} {ρ : DL.Env} {ks : List Str} {g : Exs S} {Q : Sl → S → Prop} (h : W (g ρ s) fun ys s1 => DV_ ys s1 fun ds s2 => (ks.Nodup ∧ ds.length = ks.length ∧ ks.length ≤ 15) ∧ Q (.m ((ks.map PyData.str).zip ds)) s2) : W (nDisp ks g ρ s) Q :=
  w_bind (h.mono fun ys s1 ⟨ds, e, hl, z⟩ => by show W (match datas ys with | some ds => _ | none => _) Q; rw [e]; show W (if _ then _ else _) Q; rw [if_pos hl]; exact ⟨z⟩)
theorem w_putS {S : Type} {s : S} {ρ : DL.Env} {i : Nat} {fi f : Ex S} {kvs : List (PyData × PyData)} {Q : Fl → S → Prop} (e : ρ[i]? = some (.m kvs)) (h : W (f ρ s) fun y s1 => W (fi ρ s1) fun k s2 => ∃ z kd kk, y = .d z ∧ k = .d kd ∧ scK kd = some kk ∧ (kvs.length < sizeLine ∧ (kvs.all fun p => (scK p.1).isSome) = true) ∧ Stt (ρ.set i (.m (dPutS kvs kd z kk))) fun ρ1 => Q (.nx ρ1) s2) : W (sPutS i fi f ρ s) Q := by
  unfold sPutS
  refine w_bind (h.mono fun y s1 h => ?_)
  rw [e]
  refine w_bind (h.mono fun k s2 ⟨z, kd, kk, hy, hk, hs, hc, q⟩ => ?_)
  subst hy hk
  show W (match scK kd with | some kk => _ | none => _) Q
  rw [hs]
  show W (if _ then _ else _) Q
  rw [if_pos hc]
  exact ⟨q⟩
theorem numbers_eq (w : Wh) (t : Sd) (hw : SmallL w.ws) (hl : t.ls.length ≤ 1000) (h0 : t.ls ≠ []) (h1 : t.ln ≠ []) (s : Dk) : m_numbers_of [.d w.d, .d t.d] s = .ok (.d (.dict (numsD w t))) s := by
  obtain ⟨ls, ln, wt⟩ := t
  cases ls with
  | nil => exact absurd rfl h0
  | cons l r =>
  cases ln with
  | nil => exact absurd rfl h1
  | cons z zs =>
  have sz := sizeLine_big
  refine w_eq ?_
  unfold m_numbers_of b_numbers_of
  dsimp only [Sd.d, iT, List.map, exsOf]
  repeat wtm_at "z"
  refine w_unp ?_
  repeat wtm_at "z"
  refine ⟨_, _, rfl, rfl, ?_⟩
  simp only [List.set_cons_succ, List.set_cons_zero]
  repeat wtm_at "z"
  refine w_newDisp ?_
  repeat wtm_at "z"
  refine w_of (lean_eq w (l :: r) hw _) ?_
  repeat wtm_at "z"
  refine ⟨⟨by decide +kernel, rfl, by decide⟩, ?_⟩
  repeat wtm_at "z"
  refine w_putS rfl ?_
  repeat wtm_at "z"
  refine w_of (turned_loads_eq (l :: r) hl _) ?_
  repeat wtm_at "z"
  refine w_of (lean_eq w _ hw _) ?_
  repeat wtm_at "z"
  refine ⟨_, _, _, rfl, rfl, rfl, ⟨by simp; omega, rfl⟩, ?_⟩
  repeat wtm_at "z"
  try refine w_bvarM rfl ?_
  repeat wtm_at "z"
  exact ⟨rfl, rfl⟩
theorem deed_eq (w : Wh) (r : List Ln) (t : Sd) (hw : SmallL w.ws) (hr : ∀ l ∈ r, l.ts.length ≤ 1000 ∧ ∀ c ∈ l.ts, c.what ∈ whatsL) (hl : t.ls.length ≤ 1000) (h0 : t.ls ≠ []) (h1 : t.ln ≠ []) (s : Dk) : m_deed [.d w.d, .d (ruD r), .d t.d] s = .ok (.d (actD (deedR w t r))) s := by
  refine w_eq ?_
  have sz := sizeLine_big
  unfold m_deed b_deed ruD
  repeat wtm_at "z"
  refine w_of (numbers_eq w t hw hl h0 h1 _) ?_
  repeat wtm_at "z"
  refine for_pre Ln.d (fun p ρ s' => s' = s ∧ p.find? (lineB w t) = none ∧ ∃ x4 x5 x6 x7 x8, ρ = [.v (.d w.d), .v (.d (.tuple (r.map Ln.d))), .v (.d t.d), .v (.d (.dict (numsD w t))), x4, x5, x6, x7, x8]) r ⟨rfl, rfl, _, _, _, _, _, rfl⟩ ?_ ?_
  · rintro p l post ep ρ s' ⟨rfl, hp, x4, x5, x6, x7, x8, rfl⟩
    obtain ⟨hlt, hlc⟩ := hr l (by rw [ep]; simp)
    have hend : lineB w t l = true → deedR w t r = some l.act := fun e => by
      unfold deedR
      rw [ep, List.find?_append, hp, List.find?_cons, e]
      rfl
    have hgo : lineB w t l = false → (p ++ [l]).find? (lineB w t) = none := fun e => by
      rw [List.find?_append, hp, List.find?_cons, e]
      rfl
    refine ⟨_, rfl, ?_⟩
    simp only [List.set_cons_succ, List.set_cons_zero]
    repeat wtm_at "z"
    refine ⟨by rw [List.length_map]; omega, ?_⟩
    refine lc_mapOf Tst.d (fun c => .bool (fitsT w t c)) l.ts (fun c hc => item1 rfl ?_) ?_
    · have hg := get_num w t (hlc c hc)
      repeat wtm_at "z"
      refine bv (op := opDIx) hg ?_
      repeat wtm_at "z"
      refine br_dec (fun h => ?_) fun h => ?_
      · repeat wtm_at "z"
        refine bv (op := opDIx) hg ?_
        repeat wtm_at "z"
        refine ⟨_, rfl, ?_, rfl⟩
        unfold fitsT
        rw [decide_eq_true h]
        rfl
      · refine ⟨_, rfl, ?_, rfl⟩
        unfold fitsT
        rw [decide_eq_false h]
        rfl
    · repeat wtm_at "z"
      refine cv_all ?_
      repeat wtm_at "z"
      refine br (fun h => ?_) fun h => ?_
      · repeat wtm_at "z"
        refine w_of (may_eq w t l.act hw hl h0 h1 _) ?_
        repeat wtm_at "z"
        refine br (fun h2 => ?_) fun h2 => ?_
        · repeat wtm_at "z"
          rw [hend (by unfold lineB; rw [h, h2]; rfl)]
          exact ⟨rfl, rfl⟩
        · repeat wtm_at "z"
          exact ⟨rfl, hgo (by unfold lineB; rw [h2, Bool.and_false]), _, _, _, _, _, rfl⟩
      · repeat wtm_at "z"
        exact ⟨rfl, hgo (by unfold lineB; rw [h, Bool.false_and]), _, _, _, _, _, rfl⟩
  · rintro ρ s' ⟨rfl, hp, x4, x5, x6, x7, x8, rfl⟩
    repeat wtm_at "z"
    refine ⟨?_, rfl⟩
    unfold deedR
    rw [hp]
    rfl
theorem ldeed_eq (w : Wh) (r : List Ln) (t : Sd) {most : Int} (hw : GoodWh most w) (hg : GoodSd w t) (hr : ∀ l ∈ r, l.ts.length ≤ 1000 ∧ ∀ c ∈ l.ts, c.what ∈ whatsL ∧ Sm 0 10 (.str c.what)) (s : Dk) : m__law_deed_of [.d w.d, .d (ruD r), .d t.d] s = .ok (.d (actD (deedR w t r))) s := by
  obtain ⟨h0, h1, hl, hl2⟩ := hg.ne hw
  have hzl := hw.zl
  have sz := sizeLine_big
  refine w_eq ?_
  unfold m__law_deed_of b__law_deed_of ruD
  dsimp only [exsOf]
  obtain ⟨ls, ln, wt⟩ := t
  cases ls with
  | nil => exact absurd rfl h0
  | cons l0 r0 =>
  cases ln with
  | nil => exact absurd rfl h1
  | cons z zs =>
  have e1 : cutL (PyData.int l0 :: r0.map PyData.int) none (some (-1)) = (l0 :: r0).dropLast.map PyData.int := by
    rw [cut_init, List.map_dropLast]; rfl
  generalize hd : Sl.v (Val.d (Sd.d ⟨l0 :: r0, z :: zs, wt⟩)) = zt
  rw [show ([Val.d w.d, Val.d (.tuple (r.map Ln.d)), Val.d (Sd.d ⟨l0 :: r0, z :: zs, wt⟩)] : List Val) = [Val.d w.d, Val.d (.tuple (r.map Ln.d)), Val.d (.tuple [iT (l0 :: r0), iT (z :: zs), .int wt])] from rfl]
  dsimp only [iT, List.map]
  repeat wtm_at "z"
  refine w_unp ?_
  repeat wtm_at "z"
  refine ⟨_, _, rfl, rfl, ?_⟩
  simp only [List.set_cons_succ, List.set_cons_zero]
  repeat wtm_at "z"
  refine w_newDisp ?_
  repeat wtm_at "z"
  refine w_of (llean_eq w (l0 :: r0) hw.small _) ?_
  repeat wtm_at "z"
  refine ⟨⟨by decide +kernel, rfl, by decide⟩, ?_⟩
  repeat wtm_at "z"
  refine w_putS rfl ?_
  repeat wtm_at "z"
  · rw [e1]
    repeat wtm_at "z"
    refine w_of (llean_eq w (turnL (l0 :: r0)) hw.small _) ?_
    repeat wtm_at "z"
    refine ⟨_, _, _, rfl, rfl, rfl, ⟨by simp; omega, rfl⟩, ?_⟩
    repeat wtm_at "z"
    have ht : Sd.d ⟨l0 :: r0, z :: zs, wt⟩ = .tuple [.tuple (.int l0 :: r0.map .int), .tuple (.int z :: zs.map .int), .int wt] := rfl
    rw [← ht]
    have hm : dPutS ((List.map PyData.str ["load", "head", "waited", "lean"]).zip [PyData.int l0, PyData.int z, PyData.int wt, PyData.int (dotL w.ws (l0 :: r0))]) (.str "ahead") (.int (dotL w.ws (turnL (l0 :: r0)))) (Sum.inr "ahead") = numsD w ⟨l0 :: r0, z :: zs, wt⟩ := rfl
    rw [hm]
    generalize hT : (⟨l0 :: r0, z :: zs, wt⟩ : Sd) = t at *
    refine for_pre Ln.d (fun p ρ s' => s' = s ∧ p.find? (lineB w t) = none ∧ ∃ x3 x4 x5 x7 x8 x9 x10 x11 x12, ρ = [.v (.d w.d), .v (.d (.tuple (r.map Ln.d))), .v (.d t.d), x3, x4, x5, .m (numsD w t), x7, x8, x9, x10, x11, x12]) r ⟨rfl, rfl, _, _, _, _, _, _, _, _, _, rfl⟩ ?_ ?_
    · rintro p l post ep ρ s' ⟨rfl, hp, x3, x4, x5, x7, x8, x9, x10, x11, x12, rfl⟩
      obtain ⟨hlt, hlc⟩ := hr l (by rw [ep]; simp)
      have hend : lineB w t l = true → deedR w t r = some l.act := fun e => by
        unfold deedR
        rw [ep, List.find?_append, hp, List.find?_cons, e]
        rfl
      have hgo : lineB w t l = false → (p ++ [l]).find? (lineB w t) = none := fun e => by
        rw [List.find?_append, hp, List.find?_cons, e]
        rfl
      refine ⟨_, rfl, ?_⟩
      simp only [List.set_cons_succ, List.set_cons_zero]
      repeat wtm_at "z"
      refine ⟨by rw [List.length_map]; omega, ?_⟩
      refine lc_someOf Tst.d (fun c => !fitsT w t c) (fun c => .str c.what) l.ts (fun c hc => item rfl ?_) ?_
      · have hg := get_num w t (hlc c hc).1
        repeat wtm_at "z"
        try refine w_bvarM rfl ?_
        repeat wtm_at "z"
        refine bv (op := opDIx) hg ?_
        repeat wtm_at "z"
        refine br_dec (fun h => ?_) fun h => ?_
        · repeat wtm_at "z"
          unfold fitsT
          rw [decide_eq_true h, Bool.true_and]
          refine br (fun h => ?_) fun h => ?_
          · repeat wtm_at "z"
            exact ⟨_, rfl, by rw [if_pos h], rfl⟩
          · exact ⟨by rw [if_neg (by rw [h]; decide)], rfl⟩
        · repeat wtm_at "z"
          unfold fitsT
          rw [decide_eq_false h]
          refine br_t ?_
          repeat wtm_at "z"
          exact ⟨_, rfl, rfl, rfl⟩
      · repeat wtm_at "z"
        have hss : Sm 1 11000 (.list ((l.ts.filter fun c => !fitsT w t c).map fun c => .str c.what)) := sm_list ((sl_all (k := 0) (b := 10) _ fun d hd => by
          obtain ⟨c, hc, rfl⟩ := List.mem_map.mp hd
          exact (hlc c (List.mem_filter.mp hc).1).2).le (Nat.le_refl _) (by
            rw [List.length_map]
            have := List.length_filter_le (fun c => !fitsT w t c) l.ts
            omega))
        refine bv_eqD hss (k' := 1) (b' := 0) (sm_list sl_nil) ?_
        have ee : PyData.eqv (.list ((l.ts.filter fun c => !fitsT w t c).map fun c => .str c.what)) (.list []) = l.ts.all (fitsT w t) := by
          rw [← filt_empty (fitsT w t), ← List.isEmpty_map (f := fun c : Tst => PyData.str c.what)]
          generalize (l.ts.filter fun c => !fitsT w t c).map (fun c => PyData.str c.what) = q
          cases q <;> simp [PyData.eqv, PyData.eqvAll]
        rw [ee]
        repeat wtm_at "z"
        refine br (fun h => ?_) fun h => ?_
        · repeat wtm_at "z"
          refine w_of (behind_eq w t l.act hw.small (by omega) (by omega) (by omega) h0 h1 _) ?_
          repeat wtm_at "z"
          refine bv_neNil (.inr rfl) (sm_behind l.act hw hg) ?_
          have eb : (!((behindL w t l.act).map Sd.d).isEmpty) = mayB w t l.act := by
            rw [List.isEmpty_map, behind_may w t l.act hw hg, Bool.not_not]
          rw [eb]
          repeat wtm_at "z"
          refine br (fun h2 => ?_) fun h2 => ?_
          · repeat wtm_at "z"
            rw [hend (by unfold lineB; rw [h, h2]; rfl)]
            exact ⟨rfl, rfl⟩
          · repeat wtm_at "z"
            exact ⟨rfl, hgo (by unfold lineB; rw [h2, Bool.and_false]), _, _, _, _, _, _, _, _, _, rfl⟩
        · repeat wtm_at "z"
          exact ⟨rfl, hgo (by unfold lineB; rw [h, Bool.false_and]), _, _, _, _, _, _, _, _, _, rfl⟩
    · rintro ρ s' ⟨rfl, hp, x3, x4, x5, x7, x8, x9, x10, x11, x12, rfl⟩
      repeat wtm_at "z"
      refine ⟨?_, rfl⟩
      unfold deedR
      rw [hp]
      rfl
  · rw [e1]
    simp at hl ⊢
    omega
theorem deed_may {w : Wh} {t : Sd} {r : List Ln} {b : Bool} (h : deedR w t r = some b) : mayB w t b = true := by
  unfold deedR at h
  cases hf : r.find? (lineB w t) with
  | none => rw [hf] at h; cases h
  | some l =>
    rw [hf] at h
    cases h
    have := List.find?_some hf
    unfold lineB at this
    rw [Bool.and_eq_true] at this
    exact this.2
theorem whats_sm {x : Str} (h : x ∈ whatsL) : Sm 0 10 (.str x) := by
  obtain ⟨h1, h2⟩ := whats_ok h
  exact (sm_str (cp_of h1)).le (Nat.le_refl _) (by omega)
theorem deed_behind {w : Wh} {t : Sd} {most : Int} (hw : GoodWh most w) (hg : GoodSd w t) {r : List Ln} {b : Bool} (h : deedR w t r = some b) : behindL w t b = allL w t b := by
  refine behind_all fun e => ?_
  have := behind_may w t b hw hg
  rw [e, deed_may h] at this
  cases this
/-- a text as those that are met -/
structure Ok (z : Str) : Prop where
  cp : CpOk z
  len : z.length ≤ 100000
theorem ok_lit (x : String) (h : (Str.ofString x).length ≤ 100000 := by decide) : Ok (Str.ofString x) := ⟨cp_ofString x, h⟩
/-- what the text lines have told so far -/
structure Pt where
  ws : List Int
  room : Int
  zs : List Int
  b : List Int
  pat : Int
  look : Int
def Pt.all (p : Pt) : List PyData := [iT p.ws, .int p.room, iT p.zs, iT p.b, .int p.pat, .int p.look]
def p0 : Pt := ⟨[], 1, [], [], 1, 1⟩
/-- a text of at most n signs -/
structure Okn (n : Nat) (z : Str) : Prop where
  cp : CpOk z
  len : z.length ≤ n
theorem Okn.ok {n : Nat} {z : Str} (h : Okn n z) (hn : n ≤ 100000 := by decide) : Ok z := ⟨h.cp, Nat.le_trans h.len hn⟩
theorem rowsL_small5 {items : List Int} {n : Nat} (hz : items.length ≤ 5) (hn : n ≤ 6) : (rowsL items n).length ≤ 15625 := by
  rw [rowsL_len]
  exact Nat.le_trans (Nat.pow_le_pow_left hz n) (Nat.le_trans (Nat.pow_le_pow_right (by decide) hn) (by decide))
theorem lrows5_eq (items : List Int) (many : Nat) (hz : items.length ≤ 5) (hn : many ≤ 6) (s : Dk) : m__law_rows [.d (iT items), .d (.int many)] s = .ok (.d (.list ((rowsL items many).map iT))) s := by
  refine w_eq ?_
  unfold m__law_rows b__law_rows
  repeat wtm_at "z"
  · refine for_inv (fun n ρ s' => s' = s ∧ ∃ x3 x4 x5 x6, ρ = [.v (.d (iT items)), .v (.d (.int many)), .l ((rowsL items n).map iT), x3, x4, x5, x6]) (rngD 0 (many : Int).toNat) 0 ⟨rfl, .no, .no, .no, .no, rfl⟩ ?_ ?_
    · rintro n d hd ρ s' ⟨rfl, x3, x4, x5, x6, rfl⟩
      have hn' : n < (many : Int).toNat := (rng_at hd).1
      rw [Nat.zero_add]
      refine ⟨_, rfl, ?_⟩
      simp only [List.set_cons_succ, List.set_cons_zero]
      repeat wtm_at "z"
      have hlen : ∀ p post : List (List Int), rowsL items n = p ++ post → (p.flatMap fun row => items.map fun i => row ++ [i]).length ≤ 78125 := fun p post e => by
        have h1 : p.length ≤ 15625 := Nat.le_trans (by rw [e]; simp) (rowsL_small5 (n := n) hz (by omega))
        rw [List.length_flatMap, List.map_congr_left (g := fun _ => items.length) (fun a _ => by simp), List.map_const', List.sum_replicate_nat]
        exact Nat.le_trans (Nat.mul_le_mul h1 hz) (by decide)
      refine for_pre iT (fun p ρ s1 => s1 = s' ∧ ∃ x5 x6, ρ = [.v (.d (iT items)), .v (.d (.int many)), .v (.d (.list ((rowsL items n).map iT))), .v (.d d), .l ((p.flatMap fun row => items.map fun i => row ++ [i]).map iT), x5, x6]) (rowsL items n) ⟨rfl, x5, x6, rfl⟩ ?_ ?_
      · rintro p row post ep ρ s1 ⟨rfl, x5, x6, rfl⟩
        refine ⟨_, rfl, ?_⟩
        simp only [List.set_cons_succ, List.set_cons_zero]
        have hrow : row.length ≤ 6 := by
          have := (rowsL_mem items n row (by rw [ep]; simp)).1
          omega
        repeat wtm_at "z"
        refine ⟨by rw [List.length_map]; have := sizeLine_big; omega, ?_⟩
        refine lc_mapOf _ (fun i => iT (row ++ [i])) _ (fun i _ => item1 rfl ?_) ?_
        · repeat wtm_at "z"
          · exact ⟨_, rfl, by unfold iT; rw [List.map_append]; rfl, rfl⟩
          · have := sizeLine_big
            simp
            omega
        · repeat wtm_at "z"
          refine ⟨_, rfl, ?_, ?_⟩
          · have := hlen p (row :: post) ep
            have := sizeLine_big
            simp only [List.length_map] at *
            omega
          · repeat wtm_at "z"
            refine ⟨rfl, .v (.d (iT row)), x6, ?_⟩
            rw [List.flatMap_append, List.map_append, List.flatMap_singleton, List.map_map]
            rfl
      · rintro ρ s1 ⟨rfl, x5, x6, rfl⟩
        repeat wtm_at "z"
        exact ⟨rfl, _, _, _, _, rfl⟩
    · rintro ρ s1 ⟨rfl, x3, x4, x5, x6, rfl⟩
      rw [rng_len]
      repeat wtm_at "z"
      refine ⟨?_, rfl⟩
      rw [Nat.zero_add]
      rfl
  · omega
theorem lrowsl_eq (items : List Int) (many : Nat) (hz : items.length ≤ 5) (hn : many ≤ 6) (s : Dk) : m__law_rows [.d (.list (items.map .int)), .d (.int many)] s = .ok (.d (.list ((rowsL items many).map iT))) s := by
  refine w_eq ?_
  unfold m__law_rows b__law_rows
  repeat wtm_at "z"
  · refine for_inv (fun n ρ s' => s' = s ∧ ∃ x3 x4 x5 x6, ρ = [.v (.d (.list (items.map .int))), .v (.d (.int many)), .l ((rowsL items n).map iT), x3, x4, x5, x6]) (rngD 0 (many : Int).toNat) 0 ⟨rfl, .no, .no, .no, .no, rfl⟩ ?_ ?_
    · rintro n d hd ρ s' ⟨rfl, x3, x4, x5, x6, rfl⟩
      have hn' : n < (many : Int).toNat := (rng_at hd).1
      rw [Nat.zero_add]
      refine ⟨_, rfl, ?_⟩
      simp only [List.set_cons_succ, List.set_cons_zero]
      repeat wtm_at "z"
      have hlen : ∀ p post : List (List Int), rowsL items n = p ++ post → (p.flatMap fun row => items.map fun i => row ++ [i]).length ≤ 78125 := fun p post e => by
        have h1 : p.length ≤ 15625 := Nat.le_trans (by rw [e]; simp) (rowsL_small5 (n := n) hz (by omega))
        rw [List.length_flatMap, List.map_congr_left (g := fun _ => items.length) (fun a _ => by simp), List.map_const', List.sum_replicate_nat]
        exact Nat.le_trans (Nat.mul_le_mul h1 hz) (by decide)
      refine for_pre iT (fun p ρ s1 => s1 = s' ∧ ∃ x5 x6, ρ = [.v (.d (.list (items.map .int))), .v (.d (.int many)), .v (.d (.list ((rowsL items n).map iT))), .v (.d d), .l ((p.flatMap fun row => items.map fun i => row ++ [i]).map iT), x5, x6]) (rowsL items n) ⟨rfl, x5, x6, rfl⟩ ?_ ?_
      · rintro p row post ep ρ s1 ⟨rfl, x5, x6, rfl⟩
        refine ⟨_, rfl, ?_⟩
        simp only [List.set_cons_succ, List.set_cons_zero]
        have hrow : row.length ≤ 6 := by
          have := (rowsL_mem items n row (by rw [ep]; simp)).1
          omega
        repeat wtm_at "z"
        refine ⟨by rw [List.length_map]; have := sizeLine_big; omega, ?_⟩
        refine lc_mapOf _ (fun i => iT (row ++ [i])) _ (fun i _ => item1 rfl ?_) ?_
        · repeat wtm_at "z"
          · exact ⟨_, rfl, by unfold iT; rw [List.map_append]; rfl, rfl⟩
          · have := sizeLine_big
            simp
            omega
        · repeat wtm_at "z"
          refine ⟨_, rfl, ?_, ?_⟩
          · have := hlen p (row :: post) ep
            have := sizeLine_big
            simp only [List.length_map] at *
            omega
          · repeat wtm_at "z"
            refine ⟨rfl, .v (.d (iT row)), x6, ?_⟩
            rw [List.flatMap_append, List.map_append, List.flatMap_singleton, List.map_map]
            rfl
      · rintro ρ s1 ⟨rfl, x5, x6, rfl⟩
        repeat wtm_at "z"
        exact ⟨rfl, _, _, _, _, rfl⟩
    · rintro ρ s1 ⟨rfl, x3, x4, x5, x6, rfl⟩
      rw [rng_len]
      repeat wtm_at "z"
      refine ⟨?_, rfl⟩
      rw [Nat.zero_add]
      rfl
  · omega
theorem w_lRg1 {S : Type} {T : Exn → S → Prop} {ρ : DL.Env} {s : S} {f : Ex S} {Q : List PyData → S → Prop} (h : WT T (f ρ s) fun y s1 => ∃ n : Int, y = .d (.int n) ∧ (0 ≤ n ∧ n ≤ 16777216) ∧ Q (rngD 0 n.toNat) s1) : WT T (lRg1 f ρ s) Q :=
  w_bind (h.mono fun y s1 ⟨n, hy, hn, q⟩ => by
    subst hy
    show WT T (if 0 ≤ n ∧ n ≤ 16777216 then _ else _) Q
    rw [if_pos hn]
    exact ⟨q⟩)
def irng (n : Nat) : List Int := (List.range n).map fun (i : Nat) => (i : Int)
theorem irng_len (n : Nat) : (irng n).length = n := by unfold irng; simp
theorem irng_mem {n : Nat} {x : Int} (h : x ∈ irng n) : 0 ≤ x ∧ x < n := by
  unfold irng at h
  obtain ⟨i, hi, rfl⟩ := List.mem_map.mp h
  have := List.mem_range.mp hi
  omega
theorem rng0_eq (n : Nat) : rngD 0 n = (irng n).map PyData.int := by
  unfold rngD irng
  rw [List.map_map]
  refine List.map_congr_left fun i _ => ?_
  show PyData.int (0 + (i : Int)) = PyData.int (i : Int)
  rw [Int.zero_add]
def stI (m : Nat) (ls : List Int) (q : List (List Int)) : List Sd := q.flatMap fun ln => (irng m).map fun i => ⟨ls, ln, i⟩
def stO (w : Wh) (m : Nat) (lines : List (List Int)) (p : List (List Int)) : List Sd := (p.filter (fitB w)).flatMap fun ls => stI m ls lines
def standsL (w : Wh) : List Sd := stO w (w.pat.toNat + 1) (rowsL w.sizes w.look.toNat) (rowsL (irng (w.room.toNat + 1)) w.ws.length)
theorem stI_len (m : Nat) (ls : List Int) (q : List (List Int)) : (stI m ls q).length = q.length * m := by
  unfold stI
  rw [List.length_flatMap, List.map_congr_left (g := fun _ => m) (fun a _ => by rw [List.length_map, irng_len]), List.map_const', List.sum_replicate_nat]
theorem stO_len (w : Wh) (m : Nat) (lines p : List (List Int)) : (stO w m lines p).length ≤ p.length * (lines.length * m) := by
  unfold stO
  rw [List.length_flatMap, List.map_congr_left (g := fun _ => lines.length * m) (fun a _ => stI_len m a lines), List.map_const', List.sum_replicate_nat]
  exact Nat.mul_le_mul_right _ (List.length_filter_le _ _)
theorem lstands_eq (w : Wh) {most : Int} (hw : GoodWh most w) (s : Dk) : m__law_stands [.d w.d] s = .ok (.d (.list ((standsL w).map Sd.d))) s := by
  refine w_eq ?_
  have hlk := hw.look
  have hn := hw.n
  have hr := hw.room
  have hp := hw.pat
  have hz := hw.zl
  have sz : sizeLine = 16777216 := rfl
  unfold m__law_stands b__law_stands
  repeat wtm_at "z"
  have e := lrows5_eq w.sizes w.look.toNat (by omega) (by omega) s
  rw [show ((w.look.toNat : Nat) : Int) = w.look by omega] at e
  refine w_of e ?_
  have hL := rowsL_small (n := w.look.toNat) hz (by omega)
  have hLm := fun x h => rowsL_mem w.sizes w.look.toNat x h
  repeat wtm_at "z"
  refine w_lRg1 ?_
  repeat wtm_at "z"
  refine ⟨_, rfl, by omega, ?_⟩
  rw [show (w.room + 1).toNat = w.room.toNat + 1 by omega, rng0_eq]
  repeat wtm_at "z"
  have e2 := lrowsl_eq (irng (w.room.toNat + 1)) w.ws.length (by rw [irng_len]; omega) (by omega) s
  rw [List.length_map]
  refine w_of e2 ?_
  have hR := rowsL_small5 (items := irng (w.room.toNat + 1)) (n := w.ws.length) (by rw [irng_len]; omega) (by omega)
  have hRm := fun x h => rowsL_mem (irng (w.room.toNat + 1)) w.ws.length x h
  have hdef : standsL w = stO w (w.pat.toNat + 1) (rowsL w.sizes w.look.toNat) (rowsL (irng (w.room.toNat + 1)) w.ws.length) := rfl
  generalize rowsL w.sizes w.look.toNat = lines at hL hLm hdef ⊢
  generalize rowsL (irng (w.room.toNat + 1)) w.ws.length = rows at hR hRm hdef ⊢
  rw [hdef]
  have hm7 : lines.length * (w.pat.toNat + 1) ≤ 448 := Nat.le_trans (Nat.mul_le_mul hL (show w.pat.toNat + 1 ≤ 7 by omega)) (by decide)
  repeat wtm_at "z"
  refine for_pre iT (fun p ρ s1 => s1 = s ∧ ∃ x3 x4 x5, ρ = [.v (.d w.d), .l ((stO w (w.pat.toNat + 1) lines p).map Sd.d), .v (.d (.list (lines.map iT))), x3, x4, x5]) rows ⟨rfl, _, _, _, rfl⟩ ?_ ?_
  · rintro p row post ep ρ s1 ⟨rfl, x3, x4, x5, rfl⟩
    have hrow := hRm row (by rw [ep]; simp)
    have hpl : p.length ≤ 15624 := by
      have := congrArg List.length ep
      rw [List.length_append, List.length_cons] at this
      omega
    have hO : (stO w (w.pat.toNat + 1) lines p).length ≤ 15624 * 448 := Nat.le_trans (stO_len w _ lines p) (Nat.mul_le_mul hpl hm7)
    refine ⟨_, rfl, ?_⟩
    simp only [List.set_cons_succ, List.set_cons_zero]
    repeat wtm_at "z"
    refine w_of (fits_eq w row hw.small (by omega) (by intro e; rw [e] at hrow; have := hrow.1; simp at this; omega) _) ?_
    repeat wtm_at "z"
    have eS : stO w (w.pat.toNat + 1) lines (p ++ [row]) = stO w (w.pat.toNat + 1) lines p ++ (if fitB w row then stI (w.pat.toNat + 1) row lines else []) := by
      unfold stO
      have e : ([row].filter (fitB w)).flatMap (fun ls => stI (w.pat.toNat + 1) ls lines) = if fitB w row then stI (w.pat.toNat + 1) row lines else [] := by
        rw [List.filter_cons]
        split <;> simp
      rw [List.filter_append, List.flatMap_append, e]
    refine br (fun hf => ?_) fun hf => ?_
    · rw [hf, if_pos rfl] at eS
      repeat wtm_at "z"
      refine for_pre iT (fun q ρ s2 => s2 = s1 ∧ ∃ x4 x5, ρ = [.v (.d w.d), .l ((stO w (w.pat.toNat + 1) lines p ++ stI (w.pat.toNat + 1) row q).map Sd.d), .v (.d (.list (lines.map iT))), .v (.d (iT row)), x4, x5]) lines ⟨rfl, x4, x5, by simp [stI]⟩ ?_ ?_
      · rintro q ln post2 eq ρ s2 ⟨rfl, x4, x5, rfl⟩
        have hq : q.length ≤ 63 := by
          have := congrArg List.length eq
          rw [List.length_append, List.length_cons] at this
          omega
        have hI : (stI (w.pat.toNat + 1) row q).length ≤ 448 := by
          rw [stI_len]
          exact Nat.le_trans (Nat.mul_le_mul hq (show w.pat.toNat + 1 ≤ 7 by omega)) (by decide)
        refine ⟨_, rfl, ?_⟩
        simp only [List.set_cons_succ, List.set_cons_zero]
        repeat wtm_at "z"
        · rw [show (w.pat + 1).toNat = w.pat.toNat + 1 by omega, rng0_eq]
          refine ⟨by rw [List.length_map, irng_len]; omega, ?_⟩
          refine lc_mapOf PyData.int (fun i => Sd.d ⟨row, ln, i⟩) _ (fun i _ => item1 rfl ?_) ?_
          · repeat wtm_at "z"
            exact ⟨_, rfl, rfl, rfl⟩
          repeat wtm_at "z"
          refine ⟨_, rfl, ?_, ?_⟩
          · rw [List.length_map, List.length_map, List.length_append, irng_len]; omega
          repeat wtm_at "z"
          refine ⟨rfl, .v (.d (iT ln)), x5, ?_⟩
          have : stI (w.pat.toNat + 1) row (q ++ [ln]) = stI (w.pat.toNat + 1) row q ++ (irng (w.pat.toNat + 1)).map fun i => ⟨row, ln, i⟩ := by
            unfold stI
            rw [List.flatMap_append]
            simp
          rw [this, ← List.append_assoc, List.map_append (l₁ := stO w (w.pat.toNat + 1) lines p ++ stI (w.pat.toNat + 1) row q), List.map_map]
          rfl
        · omega
      · rintro ρ s2 ⟨rfl, x4, x5, rfl⟩
        rw [← eS]
        repeat wtm_at "z"
        exact ⟨rfl, _, _, _, rfl⟩
    · rw [hf] at eS
      repeat wtm_at "z"
      refine ⟨rfl, .v (.d (iT row)), x4, x5, ?_⟩
      rw [eS]
      simp
  · rintro ρ s1 ⟨rfl, x3, x4, x5, rfl⟩
    repeat wtm_at "z"
    exact ⟨rfl, rfl⟩
theorem standsL_mem {w : Wh} {most : Int} (hw : GoodWh most w) : ∀ t ∈ standsL w, GoodSd w t := by
  intro t ht
  unfold standsL stO stI at ht
  obtain ⟨ls, hls, ht⟩ := List.mem_flatMap.mp ht
  obtain ⟨ln, hln, ht⟩ := List.mem_flatMap.mp ht
  obtain ⟨i, hi, rfl⟩ := List.mem_map.mp ht
  have h1 := rowsL_mem _ _ _ (List.mem_filter.mp hls).1
  have h2 := rowsL_mem _ _ _ hln
  have h3 := irng_mem hi
  have hr := hw.room
  have hp := hw.pat
  have hlk := hw.look
  refine ⟨h1.1, fun x hx => ?_, ?_, h2.2, ?_⟩
  · have := irng_mem (h1.2 x hx); omega
  · have := h2.1
    show (ln.length : Int) = w.look
    omega
  · show 0 ≤ i ∧ i ≤ w.pat
    omega
theorem nk_ints : ∀ ns : List Int, keyD.keyDs (ns.map .int) = some (ns.map NestedKey.num)
  | [] => rfl
  | n :: ns => by
    show (match keyD (.int n), keyD.keyDs (ns.map .int) with | some k, some ks => some (k :: ks) | _, _ => none) = _
    rw [nk_ints ns]
    rfl
theorem nk_iT (ns : List Int) : keyD (iT ns) = some (.tup (ns.map NestedKey.num)) := by
  show (keyD.keyDs (ns.map .int)).map NestedKey.tup = _
  rw [nk_ints]
  rfl
theorem nd_ints : ∀ ns : List Int, NestedKey.depthAll (ns.map NestedKey.num) = 0
  | [] => rfl
  | n :: ns => by
    show max (NestedKey.depth (.num n)) (NestedKey.depthAll (ns.map NestedKey.num)) = 0
    rw [nd_ints ns]
    rfl
theorem num_inj : ∀ {a b : List Int}, a.map NestedKey.num = b.map NestedKey.num → a = b
  | [], [], _ => rfl
  | [], _ :: _, h => by simp at h
  | _ :: _, [], h => by simp at h
  | x :: xs, y :: ys, h => by
    rw [List.map_cons, List.map_cons] at h
    injection h with h1 h2
    injection h1 with h1
    rw [h1, num_inj h2]
def sdKey (t : Sd) : NestedKey := .tup [.tup (t.ls.map NestedKey.num), .tup (t.ln.map NestedKey.num), .num t.wt]
theorem sd_keyD (t : Sd) : keyD t.d = some (sdKey t) := by
  show (match keyD (iT t.ls), keyD.keyDs [iT t.ln, .int t.wt] with | some k, some ks => some (k :: ks) | _, _ => none).map NestedKey.tup = _
  have e : keyD.keyDs [iT t.ln, .int t.wt] = some [.tup (t.ln.map NestedKey.num), .num t.wt] := by
    show (match keyD (iT t.ln), keyD.keyDs [.int t.wt] with | some k, some ks => some (k :: ks) | _, _ => none) = _
    rw [nk_iT]
    rfl
  rw [nk_iT, e]
  rfl
theorem sd_kdepth (t : Sd) : (sdKey t).depth = 2 := by
  unfold sdKey
  simp only [NestedKey.depth, NestedKey.depthAll, nd_ints]
  rfl
theorem sdKey_inj {a b : Sd} (h : sdKey a = sdKey b) : a = b := by
  unfold sdKey at h
  injection h with h
  injection h with h1 h
  injection h with h2 h
  injection h with h3 _
  injection h1 with h1
  injection h2 with h2
  injection h3 with h3
  have h1 := num_inj h1
  have h2 := num_inj h2
  obtain ⟨a1, a2, a3⟩ := a
  obtain ⟨b1, b2, b3⟩ := b
  simp only at h1 h2 h3
  rw [h1, h2, h3]
theorem sdE : KEnc Sd.d sdKey := ⟨fun t => by
  show (match keyD t.d with | some k => if k.depth ≤ 8 then some k else none | none => none) = _
  rw [sd_keyD]
  show (if (sdKey t).depth ≤ 8 then some (sdKey t) else none) = _
  rw [if_pos (by rw [sd_kdepth]; decide)], fun _ _ h => sdKey_inj h⟩
def irg (n : Nat) : List Int := (List.range n).map fun (i : Nat) => (i : Int)
theorem irg_len (n : Nat) : (irg n).length = n := by unfold irg; simp
theorem irg_mem {n : Nat} {x : Int} (h0 : 0 ≤ x) (h1 : x < n) : x ∈ irg n := List.mem_map.mpr ⟨x.toNat, List.mem_range.mpr (by omega), by omega⟩
theorem rowsL_all (items : List Int) : ∀ n (row : List Int), row.length = n → (∀ x ∈ row, x ∈ items) → row ∈ rowsL items n
  | 0, row, h, _ => by rw [List.length_eq_zero_iff.mp h]; exact List.mem_singleton.mpr rfl
  | n + 1, row, h, hm => by
    have hne : row ≠ [] := fun e => by rw [e] at h; cases h
    rw [rowsL]
    refine List.mem_flatMap.mpr ⟨row.dropLast, rowsL_all items n _ (by rw [List.length_dropLast]; omega) (fun x hx => hm x (List.dropLast_subset row hx)), List.mem_map.mpr ⟨row.getLast hne, hm _ (List.getLast_mem hne), List.dropLast_concat_getLast hne⟩⟩
def boxL (w : Wh) : List Sd := (irg (w.pat.toNat + 1)).flatMap fun i => (rowsL (irg (w.room.toNat + 1)) w.ws.length).flatMap fun ls => (rowsL w.sizes w.look.toNat).map fun ln => ⟨ls, ln, i⟩
theorem box_len {w : Wh} {most : Int} (hw : GoodWh most w) : ((boxL w).length : Int) ≤ most := by
  have hr := hw.room
  have hp := hw.pat
  have e : (boxL w).length = (w.pat.toNat + 1) * ((w.room.toNat + 1) ^ w.ws.length * w.sizes.length ^ w.look.toNat) := by
    unfold boxL
    rw [List.length_flatMap, List.map_congr_left (g := fun _ => (w.room.toNat + 1) ^ w.ws.length * w.sizes.length ^ w.look.toNat) (fun i _ => by
      rw [List.length_flatMap, List.map_congr_left (g := fun _ => w.sizes.length ^ w.look.toNat) (fun ls _ => by rw [List.length_map, rowsL_len]), List.map_const', List.sum_replicate_nat, rowsL_len, irg_len]), List.map_const', List.sum_replicate_nat, irg_len]
  have h := hw.cnt
  unfold cntL at h
  rw [e]
  refine Int.le_trans (Int.le_of_eq ?_) h
  rw [Int.natCast_mul, Int.natCast_mul, Int.natCast_pow, Int.natCast_pow, Int.mul_assoc, show ((w.pat.toNat + 1 : Nat) : Int) = w.pat + 1 by omega, show ((w.room.toNat + 1 : Nat) : Int) = w.room + 1 by omega]
theorem box_mem {w : Wh} {most : Int} (hw : GoodWh most w) {t : Sd} (h : GoodSd w t) : t ∈ boxL w := by
  have hr := hw.room
  have hp := hw.pat
  have hk := h.look
  have ht := h.wt
  refine List.mem_flatMap.mpr ⟨t.wt, irg_mem ht.1 (by omega), List.mem_flatMap.mpr ⟨t.ls, rowsL_all _ _ _ h.n (fun x hx => ?_), List.mem_map.mpr ⟨t.ln, rowsL_all _ _ _ (by omega) h.ln, rfl⟩⟩⟩
  have := h.ls x hx
  exact irg_mem this.1 (by omega)
theorem good_len {w : Wh} {most : Int} (hw : GoodWh most w) {l : List Sd} (hn : l.Nodup) (h : ∀ t ∈ l, GoodSd w t) : (l.length : Int) ≤ most := by
  have h1 := nodup_len hn fun t ht => box_mem hw (h t ht)
  have h2 := box_len hw
  omega
/-- stands in their order -/
def sortSd (ts : List Sd) : List Sd := ts.mergeSort fun t u => PySem.W.dataLe false id t.d u.d
theorem sortSd_data (ts : List Sd) : sortD (ts.map Sd.d) = (sortSd ts).map Sd.d := by
  unfold sortD sortSd
  exact (List.map_mergeSort (r := fun t u : Sd => PySem.W.dataLe false id t.d u.d) (s := PySem.W.dataLe false id) (f := Sd.d) (l := ts) (fun a _ b _ => rfl)).symm
theorem sortSd_perm (ts : List Sd) : (sortSd ts).Perm ts := List.mergeSort_perm ts _
theorem sortSd_mem {ts : List Sd} {t : Sd} : t ∈ sortSd ts ↔ t ∈ ts := (sortSd_perm ts).mem_iff
theorem sd_all {w : Wh} {most : Int} (hw : GoodWh most w) {ts : List Sd} (h : ∀ t ∈ ts, GoodSd w t) : SmL 2 (ts.length * 13) (ts.map Sd.d) := by
  have := sl_all (k := 2) (b := 12) (ts.map Sd.d) fun d hd => by
    obtain ⟨t, ht, rfl⟩ := List.mem_map.mp hd
    exact sm_sd hw (h t ht)
  rwa [List.length_map] at this
abbrev Pk := Sd × Int
abbrev Sk := List (Pk × Unit)
theorem putS_of {f : Sk} {r : Pk} {p : Pk × Unit} (h : p ∈ putK f r ()) : p.1 = r ∨ p ∈ f := by
  rcases mem_putK h with h | h
  · exact .inl (by rw [h])
  · exact .inr h.1
/-- keys in bounds -/
structure SeeOk (w : Wh) (j : Int) (f : Sk) : Prop where
  nod : (f.map (·.1)).Nodup
  good : ∀ p ∈ f, GoodSd w p.1.1 ∧ 0 ≤ p.1.2 ∧ p.1.2 ≤ j
theorem SeeOk.put {w : Wh} {j : Int} {f : Sk} (h : SeeOk w j f) {r : Pk} (hr : GoodSd w r.1 ∧ 0 ≤ r.2 ∧ r.2 ≤ j) : SeeOk w j (putK f r ()) := ⟨putK_nodup r () h.nod, fun p hp => by
  rcases putS_of hp with e | e
  · rw [e]; exact hr
  · exact h.good p e⟩
theorem SeeOk.len {w : Wh} {most j : Int} (hw : GoodWh most w) (hm : most ≤ 2000) (hj : j ≤ 200) {f : Sk} (h : SeeOk w j f) : f.length ≤ 402000 := by
  have h1 := nodup_len h.nod (m := (boxL w).flatMap fun t => (irg 201).map fun u => (t, u)) fun x hx => by
    obtain ⟨p, hp, rfl⟩ := List.mem_map.mp hx
    obtain ⟨g1, g2, g3⟩ := h.good p hp
    exact List.mem_flatMap.mpr ⟨p.1.1, box_mem hw g1, List.mem_map.mpr ⟨p.1.2, irg_mem g2 (by omega), rfl⟩⟩
  have h2 := box_len hw
  have e : ((boxL w).flatMap fun t => (irg 201).map fun u => (t, u)).length = (boxL w).length * 201 := by
    rw [List.length_flatMap, List.map_congr_left (g := fun _ => 201) (fun t _ => by rw [List.length_map, irg_len]), List.map_const', List.sum_replicate_nat]
  rw [e, List.length_map] at h1
  have : (boxL w).length ≤ 2000 := by omega
  have := Nat.mul_le_mul_right 201 this
  omega
def lostB (w : Wh) : Nat → Sd → Bool
  | 0, _ => false
  | n + 1, t => (deedsB w t).all fun b => (allL w t b).any fun u => lostB w n u
theorem lost_mono {w : Wh} : ∀ {n : Nat} {t : Sd}, lostB w n t = true → lostB w (n + 1) t = true
  | 0, _, h => by cases h
  | n + 1, t, h => by
    rw [lostB, List.all_eq_true] at h ⊢
    intro b hb
    obtain ⟨u, hu, e⟩ := List.any_eq_true.mp (h b hb)
    exact List.any_eq_true.mpr ⟨u, hu, lost_mono e⟩
theorem lost_le {w : Wh} {n m : Nat} {t : Sd} (h : lostB w n t = true) (hm : n ≤ m) : lostB w m t = true := by
  induction hm with
  | refl => exact h
  | step _ ih => exact lost_mono ih
theorem lost_at {w : Wh} {t : Sd} : ∀ {n : Nat}, lostB w n t = true → ∃ k, k < n ∧ lostB w (k + 1) t = true ∧ lostB w k t = false
  | 0, h => by cases h
  | n + 1, h => by
    cases e : lostB w n t with
    | false => exact ⟨n, Nat.lt_succ_self _, h, e⟩
    | true =>
      obtain ⟨k, hk, z⟩ := lost_at e
      exact ⟨k, Nat.lt_succ_of_lt hk, z⟩
/-- the ranks told so far -/
structure RkI (w : Wh) (n : Nat) (f : List (Sd × Nat)) : Prop where
  nod : (f.map (·.1)).Nodup
  sound : ∀ p ∈ f, p.1 ∈ standsL w ∧ p.2 < n ∧ lostB w (p.2 + 1) p.1 = true ∧ lostB w p.2 p.1 = false
  full : ∀ t ∈ standsL w, ∀ k, k < n → lostB w (k + 1) t = true → lostB w k t = false → (t, k) ∈ f
theorem RkI.mem {w : Wh} {n : Nat} {f : List (Sd × Nat)} (h : RkI w n f) {t : Sd} (ht : t ∈ standsL w) : (getK f t).isSome = lostB w n t := by
  cases e : lostB w n t with
  | true =>
    obtain ⟨k, hk, h1, h2⟩ := lost_at e
    rw [getK_of h.nod (h.full t ht k hk h1 h2)]
    rfl
  | false =>
    cases e2 : getK f t with
    | none => rfl
    | some k =>
      obtain ⟨_, hk, h1, _⟩ := h.sound _ (getK_mem e2)
      rw [lost_le h1 hk] at e; cases e
theorem getK_put {κ β : Type} [DecidableEq κ] (l : List (κ × β)) (k k' : κ) (v : β) : getK (putK l k v) k' = if k' = k then some v else getK l k' := by
  unfold putK
  split
  · rename_i hs
    have e1 : ((fun p : κ × β => decide (p.1 = k')) ∘ fun p : κ × β => if p.1 = k then (p.1, v) else p) = fun p => decide (p.1 = k') := by
      funext p
      show decide ((if p.1 = k then (p.1, v) else p).1 = k') = _
      by_cases h : p.1 = k
      · rw [if_pos h]
      · rw [if_neg h]
    unfold getK
    rw [List.find?_map, e1]
    cases e : l.find? fun p => decide (p.1 = k') with
    | none =>
      split
      · rename_i h
        subst h
        unfold getK at hs
        rw [e] at hs; cases hs
      · rfl
    | some p =>
      have h2 := List.find?_some e
      have h2 : p.1 = k' := of_decide_eq_true h2
      show some (if p.1 = k then (p.1, v) else p).2 = _
      by_cases h : k' = k
      · rw [if_pos h, if_pos (h2.trans h)]
      · rw [if_neg h, if_neg fun z => h (h2.symm.trans z)]
        rfl
  · rename_i hs
    unfold getK at hs ⊢
    rw [List.find?_append]
    cases e : l.find? fun p => decide (p.1 = k') with
    | none =>
      rw [Option.none_or]
      by_cases h : k' = k
      · rw [if_pos h, List.find?_cons_of_pos (by simpa using h.symm)]; rfl
      · rw [if_neg h, List.find?_cons_of_neg (by simpa using fun z => h z.symm)]; rfl
    | some p =>
      rw [if_neg fun z => by subst z; rw [e] at hs; exact hs rfl]
      rfl
structure GoodWhS (w : Wh) : Prop where
  all : ∀ t ∈ standsL w, ∀ b ∈ deedsB w t, ∀ u ∈ allL w t b, u ∈ standsL w
theorem nod_filter {α : Type} {l : List α} (p : α → Bool) (h : l.Nodup) : (l.filter p).Nodup := List.Pairwise.filter p h
theorem irng_pw (n : Nat) : (irng n).Pairwise (· < ·) := by
  unfold irng
  rw [List.pairwise_map]
  exact List.pairwise_lt_range.imp fun h => by omega
theorem irng_has {n : Nat} {x : Int} (h0 : 0 ≤ x) (h1 : x < n) : x ∈ irng n := List.mem_map.mpr ⟨x.toNat, List.mem_range.mpr (by omega), by omega⟩
theorem rowsL_nod {items : List Int} (h : items.Pairwise (· < ·)) (n : Nat) : (rowsL items n).Nodup := (rows_asc h n).imp fun h e => by
  subst e
  exact List.lt_irrefl _ h
theorem nod_flat {α β : Type} {f : α → List β} : ∀ {l : List α}, l.Nodup → (∀ a ∈ l, (f a).Nodup) → (∀ a ∈ l, ∀ b ∈ l, ∀ x, x ∈ f a → x ∈ f b → a = b) → (l.flatMap f).Nodup
  | [], _, _, _ => List.nodup_nil
  | a :: l, hn, h1, h2 => by
    rw [List.nodup_cons] at hn
    rw [List.flatMap_cons, List.nodup_append]
    refine ⟨h1 a (.head _), nod_flat hn.2 (fun b hb => h1 b (.tail _ hb)) (fun b hb c hc => h2 b (.tail _ hb) c (.tail _ hc)), fun x hx y hy e => ?_⟩
    subst e
    obtain ⟨b, hb, hy⟩ := List.mem_flatMap.mp hy
    have := h2 a (.head _) b (.tail _ hb) x hx hy
    exact hn.1 (this ▸ hb)
theorem nod_map {α β : Type} {f : α → β} (hi : ∀ a b, f a = f b → a = b) {l : List α} (h : l.Nodup) : (l.map f).Nodup := by
  unfold List.Nodup
  rw [List.pairwise_map]
  exact List.Pairwise.imp (fun h e => h (hi _ _ e)) h
theorem standsL_iff {w : Wh} {t : Sd} : t ∈ standsL w ↔ (t.ls ∈ rowsL (irng (w.room.toNat + 1)) w.ws.length ∧ fitB w t.ls = true) ∧ t.ln ∈ rowsL w.sizes w.look.toNat ∧ t.wt ∈ irng (w.pat.toNat + 1) := by
  unfold standsL stO stI
  rw [List.mem_flatMap]
  constructor
  · rintro ⟨ls, h1, h⟩
    obtain ⟨ln, h2, h⟩ := List.mem_flatMap.mp h
    obtain ⟨i, h3, rfl⟩ := List.mem_map.mp h
    exact ⟨List.mem_filter.mp h1, h2, h3⟩
  · rintro ⟨h1, h2, h3⟩
    exact ⟨t.ls, List.mem_filter.mpr h1, List.mem_flatMap.mpr ⟨t.ln, h2, List.mem_map.mpr ⟨t.wt, h3, rfl⟩⟩⟩
theorem standsL_nod {w : Wh} {most : Int} (hw : GoodWh most w) : (standsL w).Nodup := by
  unfold standsL stO
  refine nod_flat (nod_filter _ (rowsL_nod (irng_pw _) _)) (fun ls _ => ?_) fun a _ b _ x hx hy => ?_
  · unfold stI
    refine nod_flat (rowsL_nod hw.asc _) (fun ln _ => nod_map (fun a b e => by injection e) ((irng_pw _).imp fun h e => by omega)) fun a _ b _ x hx hy => ?_
    obtain ⟨i, _, rfl⟩ := List.mem_map.mp hx
    obtain ⟨j, _, e⟩ := List.mem_map.mp hy
    injection e with _ e
    exact e.symm
  · unfold stI at hx hy
    obtain ⟨_, _, hx⟩ := List.mem_flatMap.mp hx
    obtain ⟨_, _, hy⟩ := List.mem_flatMap.mp hy
    obtain ⟨i, _, rfl⟩ := List.mem_map.mp hx
    obtain ⟨j, _, e⟩ := List.mem_map.mp hy
    injection e with e
    exact e.symm
theorem standsL_ok {w : Wh} {most : Int} (hw : GoodWh most w) {t : Sd} (h : GoodSd w t) (hf : fitB w t.ls = true) : t ∈ standsL w := by
  have hr := hw.room
  have hp := hw.pat
  have hk := h.look
  have ht := h.wt
  refine standsL_iff.mpr ⟨⟨rowsL_all _ _ _ h.n (fun x hx => ?_), hf⟩, rowsL_all _ _ _ (by omega) h.ln, irng_has ht.1 (by omega)⟩
  have := h.ls x hx
  exact irng_has this.1 (by omega)
theorem standsL_cnt {w : Wh} {most : Int} (hw : GoodWh most w) : ((standsL w).length : Int) ≤ most := good_len hw (standsL_nod hw) (standsL_mem hw)
theorem behind_fit {w : Wh} {t u : Sd} {b : Bool} (h : u ∈ behindL w t b) : fitB w u.ls = true := by
  unfold behindL at h
  cases b with
  | true =>
    simp only [if_true] at h
    split at h
    · obtain ⟨z, _, rfl⟩ := List.mem_map.mp h
      assumption
    · cases h
  | false =>
    simp only [Bool.false_eq_true, if_false] at h
    split at h
    · rename_i hc
      rw [List.mem_singleton.mp h]
      first
        | exact hc.2
        | exact (Bool.and_eq_true _ _ ▸ hc).2
        | simp_all
    · cases h
theorem deeds_behind {w : Wh} {most : Int} (hw : GoodWh most w) {t : Sd} (ht : GoodSd w t) {b : Bool} (hb : b ∈ deedsB w t) : behindL w t b = allL w t b := by
  refine behind_all fun e => ?_
  have h1 := behind_may w t b hw ht
  rw [e, (List.mem_filter.mp hb).2] at h1
  cases h1
theorem goodS {w : Wh} {most : Int} (hw : GoodWh most w) : GoodWhS w := ⟨fun t ht b hb u hu => by
  have hg := standsL_mem hw t ht
  rw [← deeds_behind hw hg hb] at hu
  exact standsL_ok hw (behind_good w t b hw hg u hu) (behind_fit hu)⟩
theorem bv_eqNil {S : Type} {s : S} {Q : Val → S → Prop} {mk : List PyData → PyData} {k b : Nat} {ds : List PyData} (hm : mk = .list ∨ mk = .tuple) (h : Sm k b (mk ds)) (q : Q (.d (.bool ds.isEmpty)) s) (hk : k ≤ 64 := by decide) : BV opEq (.d (mk ds)) (.d (mk [])) s Q := by
  refine bv_eq ?_ ?_
  · have e : PyData.eqv (mk ds) (mk []) = ds.isEmpty := by
      rcases hm with rfl | rfl <;> cases ds <;> simp [PyData.eqv, PyData.eqvAll]
    rw [e]; exact q
  · rw [h.shaped hk]
    rcases hm with rfl | rfl <;> rfl
theorem good_ne {w : Wh} {most : Int} (hw : GoodWh most w) {t : Sd} (h : GoodSd w t) : t.ls.length ≤ 1000 ∧ t.ln.length ≤ 1000 ∧ t.ls ≠ [] ∧ t.ln ≠ [] := by
  have h1 := h.n
  have h2 := h.look
  have h3 := hw.n
  have h4 := hw.look
  refine ⟨by omega, by omega, fun e => ?_, fun e => ?_⟩
  · rw [e] at h1; simp at h1; omega
  · rw [e] at h2; simp at h2; omega
theorem allL_len {w : Wh} {most : Int} (hw : GoodWh most w) (t : Sd) (b : Bool) : (allL w t b).length ≤ 4 := by
  have := hw.zl
  unfold allL
  cases b
  · simp
  · simp; omega
theorem putK_new {κ β : Type} [DecidableEq κ] {l : List (κ × β)} {k : κ} (v : β) (h : getK l k = none) : putK l k v = l ++ [(k, v)] := by
  unfold putK
  rw [h]
  rfl
theorem start_stand {w : Wh} {most : Int} (hw : GoodWh most w) {t : Sd} (h : t ∈ startsL w) : t ∈ standsL w := by
  have hg := starts_good w hw t h
  refine standsL_ok hw hg ?_
  unfold fitB
  rw [starts_up w hw t h, Bool.and_true]
  exact decide_eq_true ((maxL_le t.ls w.room (good_ne hw hg).2.2.1).mpr fun x hx => (hg.ls x hx).2)
theorem cut_mapG {α β : Type} (f : α → β) (T : List α) (lo hi : Option Int) : ∃ ys : List α, cutL (T.map f) lo hi = ys.map f ∧ (∀ y ∈ ys, y ∈ T) ∧ ys.length ≤ T.length := by
  unfold cutL
  rw [List.length_map]
  refine ⟨(T.drop (HT.sIx T.length 0 lo)).take (HT.sIx T.length T.length hi - HT.sIx T.length 0 lo), ?_, fun y hy => List.mem_of_mem_drop (List.mem_of_mem_take hy), ?_⟩
  · rw [List.map_take, List.map_drop]
  · rw [List.length_take, List.length_drop]; omega
theorem sm_sdT {w : Wh} {most : Int} (hw : GoodWh most w) {ts : List Sd} (h : ∀ t ∈ ts, GoodSd w t) : Sm 3 (ts.length * 13) (.tuple (ts.map Sd.d)) := (sm_tuple (sl_all (b := 12) _ fun d hd => by
  obtain ⟨t, ht, rfl⟩ := List.mem_map.mp hd
  exact sm_sd hw (h t ht))).le (Nat.le_refl _) (by rw [List.length_map]; omega)
theorem enu_at {ds : List PyData} {k : Nat} {x : PyData} (h : ((List.range ds.length).zipWith (fun i d => PyData.tuple [.int (i : Nat), d]) ds)[k]? = some x) : ∃ d, ds[k]? = some d ∧ x = .tuple [.int (k : Nat), d] ∧ k < ds.length := by
  rw [List.getElem?_zipWith] at h
  by_cases hk : k < ds.length
  · rw [List.getElem?_range hk] at h
    rw [List.getElem?_eq_getElem hk] at h ⊢
    exact ⟨_, rfl, (Option.some.inj h).symm, hk⟩
  · rw [List.getElem?_eq_none (l := ds) (by omega)] at h
    cases e : (List.range ds.length)[k]? <;> rw [e] at h <;> cases h
theorem enu_len (ds : List PyData) : ((List.range ds.length).zipWith (fun i d => PyData.tuple [.int (i : Nat), d]) ds).length = ds.length := by simp
/-- a stand, read from data -/
def sdR (w : Wh) (d : PyData) : Option Sd := match d with
  | .tuple [a, b, .int k] => match intsOf a, intsOf b with
    | some ls, some ln => if isSdD w d = true then some ⟨ls, ln, k⟩ else none
    | _, _ => none
  | _ => none
theorem intsOf_some {d : PyData} {ns : List Int} (h : intsOf d = some ns) : d = iT ns := by
  cases d with
  | tuple ds => rw [intsD_some (ns := ns) h]
  | _ => cases h
theorem isSdD_d {w : Wh} {t : Sd} : isSdD w t.d = true ↔ IsSd w t := by
  show (areIntD 0 w.room (iT t.ls) && (match intsOf (iT t.ls) with
    | some ls => decide (ls.length = w.ws.length) && w.up ls
    | none => false) && areIntD 1 w.room (iT t.ln) && (match intsOf (iT t.ln) with
    | some ln => decide ((ln.length : Int) = w.look) && ln.all (fun n => decide (n ∈ w.sizes))
    | none => false) && isIntD 0 w.pat (.int t.wt)) = true ↔ _
  rw [intsOf_iT, intsOf_iT]
  simp only [Bool.and_eq_true, decide_eq_true_eq, List.all_eq_true]
  constructor
  · rintro ⟨⟨⟨⟨h1, h2, h3⟩, h4⟩, h5, h6⟩, h7⟩
    have fromA : ∀ {lo hi : Int} {ns : List Int}, areIntD lo hi (iT ns) = true → ∀ n ∈ ns, lo ≤ n ∧ n ≤ hi := fun {lo hi ns} h => by
      obtain ⟨ms, e, hm⟩ := areInt_some h
      have : some ns = some ms := by rw [← intsOf_iT ns, e, intsOf_iT]
      rw [Option.some.inj this]
      exact hm
    have h7 : (decide (0 ≤ t.wt) && decide (t.wt ≤ w.pat)) = true := h7
    rw [Bool.and_eq_true, decide_eq_true_eq, decide_eq_true_eq] at h7
    exact ⟨fromA h1, h2, h3, fromA h4, h5, h6, h7⟩
  · intro h
    refine ⟨⟨⟨⟨areInt_of h.ls, h.n, h.up⟩, areInt_of h.ln⟩, h.look, h.zs⟩, ?_⟩
    show (decide (0 ≤ t.wt) && decide (t.wt ≤ w.pat)) = true
    rw [decide_eq_true h.wt.1, decide_eq_true h.wt.2]
    rfl
theorem sdR_some {w : Wh} {d : PyData} {t : Sd} (h : sdR w d = some t) : d = t.d ∧ IsSd w t := by
  unfold sdR at h
  split at h
  · rename_i a b k
    split at h
    · rename_i ls ln e1 e2
      split at h
      · rename_i hs
        cases h
        have e : PyData.tuple [a, b, .int k] = Sd.d ⟨ls, ln, k⟩ := by
          rw [intsOf_some e1, intsOf_some e2]; rfl
        exact ⟨e, isSdD_d.mp (e ▸ hs)⟩
      · cases h
    · cases h
  · cases h
theorem sdR_d {w : Wh} {t : Sd} (h : IsSd w t) : sdR w t.d = some t := by
  have h2 := isSdD_d.mpr h
  show (match intsOf (iT t.ls), intsOf (iT t.ln) with
    | some ls, some ln => if isSdD w t.d = true then some (Sd.mk ls ln t.wt) else none
    | _, _ => none) = _
  rw [intsOf_iT, intsOf_iT]
  dsimp only
  rw [if_pos h2]
theorem sdR_isSome (w : Wh) (d : PyData) : isSdD w d = (sdR w d).isSome := by
  cases e : sdR w d with
  | some t =>
    obtain ⟨rfl, h⟩ := sdR_some e
    exact isSdD_d.mpr h
  | none =>
    cases e2 : isSdD w d with
    | false => rfl
    | true =>
      have e3 := e2
      unfold isSdD at e2
      split at e2
      · rename_i a b c
        simp only [Bool.and_eq_true] at e2
        obtain ⟨⟨⟨⟨h1, _⟩, h4⟩, _⟩, h7⟩ := e2
        obtain ⟨ls, rfl, _⟩ := areInt_some h1
        obtain ⟨ln, rfl, _⟩ := areInt_some h4
        unfold isIntD at h7
        split at h7
        · rename_i k
          have : sdR w (.tuple [iT ls, iT ln, .int k]) = some ⟨ls, ln, k⟩ := sdR_d (t := ⟨ls, ln, k⟩) (isSdD_d.mp e3)
          rw [this] at e; cases e
        · cases h7
      · cases e2
theorem IsSd.good {w : Wh} {t : Sd} (h : IsSd w t) : GoodSd w t := ⟨h.n, h.ls, h.look, h.zs, h.wt⟩
theorem IsSd.mem {w : Wh} {most : Int} (hw : GoodWh most w) {t : Sd} (h : IsSd w t) : t ∈ standsL w := by
  refine standsL_ok hw h.good ?_
  unfold fitB
  rw [h.up, Bool.and_true]
  exact decide_eq_true ((maxL_le t.ls w.room (good_ne hw h.good).2.2.1).mpr fun x hx => (h.ls x hx).2)
theorem isSd_of {w : Wh} {most : Int} (hw : GoodWh most w) {t : Sd} (h : t ∈ standsL w) : IsSd w t := by
  have hg := standsL_mem hw t h
  have hf := (standsL_iff.mp h).1.2
  unfold fitB at hf
  rw [Bool.and_eq_true] at hf
  exact ⟨hg.ls, hg.n, hf.2, fun n hn => hw.zs n (hg.ln n hn), hg.look, hg.ln, hg.wt⟩
def sdLt (t u : Sd) : Bool := PySem.W.dataLt t.d u.d
theorem leads_on_eq {w : Wh} {most : Int} (hw : GoodWh most w) {t : Sd} (hg : GoodSd w t) (b : Bool) {β : Type} (ve : β → PyData) (f : List (Sd × β)) (s : Dk) : m_leads_on [.d w.d, .d t.d, .d (.str (deedS b)), .d (.dict (encM Sd.d ve f))] s = .ok (.d (.bool ((allL w t b).all fun u => (getK f u).isSome))) s := by
  refine w_eq ?_
  have sz : sizeLine = 16777216 := rfl
  obtain ⟨n1, n2, n3, n4⟩ := good_ne hw hg
  have hzl := hw.zl
  have hal := allL_len hw t b
  unfold m_leads_on b_leads_on
  repeat wtm_at "z"
  refine w_of (after_all_eq w t b (by omega) n1 n2 n3 n4 _) ?_
  repeat wtm_at "z"
  refine ⟨by rw [List.length_map]; omega, ?_⟩
  refine lc_mapOf Sd.d (fun u => .bool (getK f u).isSome) (allL w t b) (fun u hu => item1 rfl ?_) ?_
  · repeat wtm_at "z"
    refine bv_inN sdE f u ?_
    repeat wtm_at "z"
    exact ⟨_, rfl, rfl, rfl⟩
  repeat wtm_at "z"
  refine cv_all ?_
  repeat wtm_at "z"
  exact ⟨rfl, rfl⟩
theorem are_started_eq {w : Wh} {most : Int} (hw : GoodWh most w) {β : Type} (ve : β → PyData) (f : List (Sd × β)) (s : Dk) : m_are_started [.d w.d, .d (.dict (encM Sd.d ve f))] s = .ok (.d (.bool ((startsL w).all fun u => (getK f u).isSome))) s := by
  refine w_eq ?_
  have sz : sizeLine = 16777216 := rfl
  have hne := starts_ne w hw
  unfold m_are_started b_are_started
  repeat wtm_at "z"
  refine w_of (starts_eq w hw _) ?_
  repeat wtm_at "z"
  refine ⟨by rw [List.length_map]; omega, ?_⟩
  refine lc_mapOf Sd.d (fun t => .bool (getK f t).isSome) (startsL w) (fun t ht => item1 rfl ?_) ?_
  · repeat wtm_at "z"
    refine bv_inN sdE f t ?_
    repeat wtm_at "z"
    exact ⟨_, rfl, rfl, rfl⟩
  repeat wtm_at "z"
  refine cv_all ?_
  repeat wtm_at "z"
  exact ⟨rfl, rfl⟩
def fltX (c x : Str) (n : Int) : Exn := ⟨c, [("word", .str x), ("number", .int n)]⟩
def abvB (us : List Sd) (t : Sd) : Bool := match us.getLast? with
  | none => true
  | some u => sdLt u t
theorem sd_ord {w : Wh} {most : Int} (hw : GoodWh most w) {t u : Sd} (ht : GoodSd w t) (hu : GoodSd w u) : opOrdD PySem.W.dataLt t.d u.d = some (.bool (sdLt t u)) := by
  have h1 := sm_sd hw ht
  have h2 := sm_sd hw hu
  have e : (PySem.W.alike t.d u.d && t.d.canLay0 && u.d.canLay0 && decide (t.d.depth ≤ 60)) = true := by
    rw [alike_sd, h1.lay, h2.lay, decide_eq_true (Nat.le_trans h1.dp (by decide))]
    rfl
  show (if _ then _ else none) = _
  exact if_pos e
def knT (ts : List Sd) : List (Sd × Unit) := ts.foldl (fun f t => putK f t ()) []
theorem knT_get : ∀ (ts : List Sd) (f : List (Sd × Unit)) (u : Sd), (getK (ts.foldl (fun f t => putK f t ()) f) u).isSome = (decide (u ∈ ts) || (getK f u).isSome)
  | [], f, u => by simp
  | t :: ts, f, u => by
    rw [List.foldl_cons, knT_get ts, getK_put]
    by_cases h : u = t
    · simp [h]
    · simp [h]
theorem knT_has (ts : List Sd) (u : Sd) : (getK (knT ts) u).isSome = decide (u ∈ ts) := by
  unfold knT
  rw [knT_get]
  simp [getK]
def yesD : Unit → PyData := fun _ => .bool true
theorem eqv_sd (t u : Sd) : PyData.eqv t.d u.d = decide (t = u) := by
  obtain ⟨a, b, c⟩ := t
  obtain ⟨a', b', c'⟩ := u
  unfold Sd.d
  simp only [PyData.eqv, PyData.eqvAll]
  rw [eqvAll_ints, eqvAll_ints]
  by_cases h1 : a = a'
  · by_cases h2 : b = b'
    · by_cases h3 : c = c'
      · simp [h1, h2, h3]
      · simp [h1, h2, h3]
    · simp [h1, h2]
  · simp [h1]
theorem any_sdD (t : Sd) : ∀ ts : List Sd, ((ts.map Sd.d).any fun z => PyData.eqv z t.d) = decide (t ∈ ts)
  | [] => rfl
  | u :: ts => by
    rw [List.map_cons, List.any_cons, any_sdD t ts, eqv_sd]
    by_cases h : u = t
    · simp [h]
    · rw [decide_eq_false h, Bool.false_or]
      exact decide_eq_decide.mpr (by rw [List.mem_cons, or_iff_right fun e => h e.symm])
theorem bv_notInSd {S : Type} {s : S} {Q : Val → S → Prop} {mk : List PyData → PyData} {k b k' b' : Nat} {t : Sd} {ts : List Sd} (hm : mk = .list ∨ mk = .tuple) (h : Sm k b t.d) (h' : Sm k' b' (mk (ts.map Sd.d))) (q : Q (.d (.bool (!decide (t ∈ ts)))) s) (hk : k ≤ 64 := by decide) (hk' : k' ≤ 64 := by decide) : BV opNotIn (.d t.d) (.d (mk (ts.map Sd.d))) s Q :=
  bv (by
    have e : opIn t.d (mk (ts.map Sd.d)) = some (.bool ((ts.map Sd.d).any fun z => PyData.eqv z t.d)) := by
      have h1 := h.shaped hk
      have h2 := h'.shaped hk'
      rcases hm with rfl | rfl
      · unfold opIn
        show (if SeqAt.shaped t.d && SeqAt.shaped (.list (ts.map Sd.d)) then _ else _) = _
        rw [h1, h2]; rfl
      · unfold opIn
        show (if SeqAt.shaped t.d && SeqAt.shaped (.tuple (ts.map Sd.d)) then _ else _) = _
        rw [h1, h2]; rfl
    unfold opNotIn
    rw [e, any_sdD]) q
theorem sm_sdL {w : Wh} {most : Int} (hw : GoodWh most w) {ts : List Sd} (h : ∀ t ∈ ts, GoodSd w t) : Sm 3 (ts.length * 13) (.list (ts.map Sd.d)) := (sm_list (sl_all (b := 12) _ fun d hd => by
  obtain ⟨t, ht, rfl⟩ := List.mem_map.mp hd
  exact sm_sd hw (h t ht))).le (Nat.le_refl _) (by rw [List.length_map]; omega)
theorem lt3 (a b : List Int) : a < b ∨ a = b ∨ b < a := by
  by_cases h1 : a < b
  · exact .inl h1
  · by_cases h2 : b < a
    · exact .inr (.inr h2)
    · exact .inr (.inl (List.le_antisymm (List.not_lt.mp h2) (List.not_lt.mp h1)))
structure LtS (t u : Sd) : Prop where
  h : t.ls < u.ls ∨ (t.ls = u.ls ∧ (t.ln < u.ln ∨ (t.ln = u.ln ∧ t.wt < u.wt)))
theorem sdLt_iff {t u : Sd} : sdLt t u = true ↔ LtS t u := by
  unfold sdLt
  rw [sd_lt]
  constructor
  · intro h
    by_cases h1 : t.ls = u.ls
    · rw [if_pos h1] at h
      by_cases h2 : t.ln = u.ln
      · rw [if_pos h2] at h
        exact ⟨.inr ⟨h1, .inr ⟨h2, of_decide_eq_true h⟩⟩⟩
      · rw [if_neg h2] at h
        exact ⟨.inr ⟨h1, .inl (of_decide_eq_true h)⟩⟩
    · rw [if_neg h1] at h
      exact ⟨.inl (of_decide_eq_true h)⟩
  · rintro ⟨h | ⟨h1, h | ⟨h2, h⟩⟩⟩
    · rw [if_neg (fun e => by rw [e] at h; exact List.lt_irrefl _ h)]
      exact decide_eq_true h
    · rw [if_pos h1, if_neg (fun e => by rw [e] at h; exact List.lt_irrefl _ h)]
      exact decide_eq_true h
    · rw [if_pos h1, if_pos h2]
      exact decide_eq_true h
theorem ltS_trans {t u v : Sd} (h : LtS t u) (k : LtS u v) : LtS t v := by
  obtain ⟨h⟩ := h
  obtain ⟨k⟩ := k
  rcases h with h | ⟨h1, h⟩
  · rcases k with k | ⟨k1, _⟩
    · exact ⟨.inl (List.lt_trans h k)⟩
    · exact ⟨.inl (k1 ▸ h)⟩
  · rcases k with k | ⟨k1, k⟩
    · exact ⟨.inl (h1 ▸ k)⟩
    · refine ⟨.inr ⟨h1.trans k1, ?_⟩⟩
      rcases h with h | ⟨h2, h⟩
      · rcases k with k | ⟨k2, _⟩
        · exact .inl (List.lt_trans h k)
        · exact .inl (k2 ▸ h)
      · rcases k with k | ⟨k2, k⟩
        · exact .inl (h2 ▸ k)
        · exact .inr ⟨h2.trans k2, Int.lt_trans h k⟩
theorem ltS_3 (t u : Sd) : LtS t u ∨ t = u ∨ LtS u t := by
  rcases lt3 t.ls u.ls with h | h | h
  · exact .inl ⟨.inl h⟩
  · rcases lt3 t.ln u.ln with k | k | k
    · exact .inl ⟨.inr ⟨h, .inl k⟩⟩
    · rcases Int.lt_trichotomy t.wt u.wt with l | l | l
      · exact .inl ⟨.inr ⟨h, .inr ⟨k, l⟩⟩⟩
      · obtain ⟨a, b, c⟩ := t
        obtain ⟨a', b', c'⟩ := u
        dsimp only at h k l
        rw [h, k, l]
        exact .inr (.inl rfl)
      · exact .inr (.inr ⟨.inr ⟨h.symm, .inr ⟨k.symm, l⟩⟩⟩)
    · exact .inr (.inr ⟨.inr ⟨h.symm, .inl k⟩⟩)
  · exact .inr (.inr ⟨.inl h⟩)
theorem ltS_irr {t : Sd} (h : LtS t t) : False := by
  obtain ⟨h⟩ := h
  rcases h with h | ⟨_, h | ⟨_, h⟩⟩
  · exact List.lt_irrefl _ h
  · exact List.lt_irrefl _ h
  · omega
theorem knT_len : ∀ (ts : List Sd), (knT ts).length ≤ ts.length := fun ts => by
  have go : ∀ (ts : List Sd) (f : List (Sd × Unit)), (ts.foldl (fun f t => putK f t ()) f).length ≤ f.length + ts.length := fun ts => by
    induction ts with
    | nil => intro f; exact Nat.le_refl _
    | cons t ts ih =>
      intro f
      rw [List.foldl_cons, List.length_cons]
      have h1 := ih (putK f t ())
      have h2 : (putK f t ()).length ≤ f.length + 1 := by
        unfold putK
        split
        · rw [List.length_map]; omega
        · rw [List.length_append]; simp
      omega
  have := go ts []
  simpa [knT] using this
theorem knT_app (ts : List Sd) (t : Sd) : knT (ts ++ [t]) = putK (knT ts) t () := by
  unfold knT
  rw [List.foldl_append]
  rfl
/-- the same game -/
structure SameW (w w' : Wh) : Prop where
  room : w'.room = w.room
  sizes : w'.sizes = w.sizes
  look : w'.look = w.look
  pat : w'.pat = w.pat
  n : w'.ws.length = w.ws.length
  up : ∀ ls, w'.up ls = w.up ls
theorem SameW.symm {w w' : Wh} (h : SameW w w') : SameW w' w := ⟨h.room.symm, h.sizes.symm, h.look.symm, h.pat.symm, h.n.symm, fun ls => (h.up ls).symm⟩
def faultD : Option (Str × Int) → PyData
  | none => .none
  | some (x, n) => .tuple [.str x, .int n]
def toldD : Option (Str × Int) → PyData
  | none => .bool true
  | some (x, n) => .tuple [.str x, .int n]
theorem Fit.both {M k b k' b' : Nat} {d : PyData} (h : Fit M k b d) (h' : Fit M k' b' d) : Fit M (min k k') (min b b') d :=
  ⟨h.lay, h.ib, by have := h.dp; have := h'.dp; omega, by have := h.bk; have := h'.bk; omega⟩
theorem odd_elems {c kk M : Nat} (hM : 10 ^ 40 ≤ M) {d : PyData} (h : Fit (10 ^ 40) 2 20 d) : ∀ ds, d = .tuple ds → ∀ e ∈ ds, Fit (M + 2) (kk + 2) (2 * c + 20) e := fun ds e x hx => by
  subst e
  obtain ⟨j, hj, hf⟩ := h.tup
  exact (hf.mem x hx).le (Nat.le_trans hM (Nat.le_add_right _ _)) (by omega) (by omega)
/-- a tuple bent: what its items are then -/
theorem bent_top {a : Addr} {M : Nat} (hM : 10 ^ 40 ≤ M) (hM2 : M < 10 ^ 57) (i : Nat) {ds : List PyData} {deep : Int} {k b c kk : Nat} {s : Dk} {n : Int} {Q : Val → Dk → Prop} (hd : Fit M k b (.tuple ds)) (he : ∀ e ∈ ds, Fit M kk c e) (hk : k ≤ 50) (hkk : kk ≤ 50) (h0 : 0 ≤ deep) (h1 : deep < (i : Int) + 1) (hi : i + 1 ≤ 100) (hb : b ≤ 100000) (hs : Dks a n s) (hn : n + 4 * ((i : Int) + 1) < 800000000)
    (q : ∀ d' s', Fit (M + 2) (k + 2) (2 * b + 20) d' → (∀ ds', d' = .tuple ds' → ∀ e ∈ ds', Fit (M + 2) (kk + 2) (2 * c + 20) e) → Dks a (n + 4 * ((i : Int) + 1)) s' → Q (.d d') s') : W (r__law_bent (i + 1) [.r (.ref a), .d (.tuple ds), .d (.int deep)] s) Q := by
  have hM57 : M + 2 < 10 ^ 58 := Nat.lt_of_lt_of_le (Nat.add_lt_add_right hM2 2) (by decide +kernel)
  have hsm := hd.sm (Nat.lt_trans hM2 (by decide +kernel))
  have sz := sizeLine_big
  have up : ∀ {e}, Fit M kk c e → Fit (M + 2) (kk + 2) (2 * c + 20) e := fun h => h.le (Nat.le_add_right _ _) (by omega) (by omega)
  have hodd : ∀ d', Fit (10 ^ 40) 2 20 d' → Fit (M + 2) (k + 2) (2 * b + 20) d' := fun d' h => h.le (Nat.le_trans hM (Nat.le_add_right _ _)) (by omega) (by omega)
  show W (runF 2 (b__law_bent (r__law_bent i)) [.r (.ref a), .d (.tuple ds), .d (.int deep)] s) Q
  unfold b__law_bent
  refine w_run ?_
  dsimp only [List.map, List.replicate, List.append, HAppend.hAppend, Append.append]
  refine w_sq ?_
  refine w_if ?_
  refine w_then (P := fun c s' => Dks a (n + 1) s' ∧ (c = false → ds ≠ [] ∧ deep ≠ 0)) ?_ ?_
  · repeat wtm_at "z"
    refine w_isi ?_
    repeat wtm_at "z"
    refine uv_isi hd.lay ?_
    repeat wtm_at "z"
    refine br_f ?_
    repeat wtm_at "z"
    refine bv_eqD (k := k) (k' := 1) (b' := 0) hsm (sm_tuple sl_nil) ?_ (by omega)
    repeat wtm_at "z"
    rw [eqv_emptyT]
    cases ds with
    | nil => exact br_t ⟨hs.le (by omega), fun h => by cases h⟩
    | cons x xs =>
      refine br_f ?_
      repeat wtm_at "z"
      refine br_dec (fun e => ⟨hs.le (by omega), fun h => by cases h⟩) fun e0 => ?_
      repeat wtm_at "z"
      refine draw_a hs (by omega) (by omega) fun r s1 r0 r1 hs1 => ?_
      repeat wtm_at "z"
      exact ⟨hs1, fun _ => ⟨by simp, e0⟩⟩
  · rintro c1 s1 ⟨hs1, hf⟩
    cases c1 with
    | true =>
      repeat wtm_at "z"
      refine w_isi ?_
      repeat wtm_at "z"
      refine uv_isi hd.lay ?_
      repeat wtm_at "z"
      refine br_f ?_
      repeat wtm_at "z"
      refine odd_ok hs1 (by omega) fun y s3 hy hs3 => ?_
      repeat wtm_at "z"
      exact q _ _ (hodd _ hy) (odd_elems hM hy) (hs3.le (by omega))
    | false =>
      obtain ⟨hne, hdeep⟩ := hf rfl
      obtain ⟨j, rfl, hfl⟩ := hd.tup
      have hlen := hfl.len
      have hpos : 0 < ds.length := List.length_pos_iff.mpr hne
      repeat wtm_at "z"
      refine draw_a hs1 (by omega) (by omega) fun at_ s2 at0 at1 hs2 => ?_
      repeat wtm_at "z"
      refine draw_a hs2 (by omega) (by omega) fun way s3 w0 w1 hs3 => ?_
      repeat wtm_at "z"
      have hm : at_.toNat < ds.length := by omega
      obtain ⟨b1, b2, b3, eb, f1, f2, f3⟩ := hfl.at hm
      have l1 := f1.len
      have l3 := f3.len
      have ec1 : cutL ds none (some at_) = ds.take at_.toNat := cut_take' _ _ at0 (by omega)
      have ec2 : cutL ds (some at_) none = ds.drop at_.toNat := cut_drop' _ _ at0 (by omega)
      have ec3 : cutL ds (some (at_ + 1)) none = ds.drop (at_.toNat + 1) := by
        rw [cut_drop' _ _ (by omega) (by omega)]
        congr 1
        omega
      have f4 : FitL M j (b2 + 1 + b3) (ds.drop at_.toNat) := by
        rw [List.drop_eq_getElem_cons hm]
        exact fl_cons f2 f3
      have l4 := f4.len
      have hx := he _ (List.getElem_mem hm)
      have ht : ∀ e ∈ ds.take at_.toNat, Fit (M + 2) (kk + 2) (2 * c + 20) e := fun e m => up (he e (List.mem_of_mem_take m))
      have hdr : ∀ n, ∀ e ∈ ds.drop n, Fit (M + 2) (kk + 2) (2 * c + 20) e := fun n e m => up (he e (List.mem_of_mem_drop m))
      have one : ∀ {P : PyData → Prop} {x : PyData}, P x → ∀ e ∈ [x], P e := fun h e m => by rw [List.mem_singleton.mp m]; exact h
      have app : ∀ {P : PyData → Prop} {xs ys : List PyData}, (∀ e ∈ xs, P e) → (∀ e ∈ ys, P e) → ∀ e ∈ xs ++ ys, P e := fun h1 h2 e m => (List.mem_append.mp m).elim (h1 e) (h2 e)
      have tl : ∀ {P : PyData → Prop} {xs : List PyData}, (∀ e ∈ xs, P e) → ∀ ds', PyData.tuple xs = .tuple ds' → ∀ e ∈ ds', P e := fun h ds' e => by injection e with e; subst e; exact h
      obtain ⟨_, eix⟩ := atI_get (xs := ds) at0 (by omega)
      refine br_dec (fun e => ?_) fun e => ?_
      · repeat wtm_at "z"
        · rw [ec1, ec3]
          exact q _ _ ((fit_tuple (fl_app f1 f3)).le (by omega) (by omega) (by omega)) (tl (app ht (hdr _))) (hs3.le (by omega))
        · rw [ec1, ec3]; omega
      · repeat wtm_at "z"
        refine br_dec (fun e => ?_) fun e => ?_
        · repeat wtm_at "z"
          refine bv (op := opIx) eix ?_
          repeat wtm_at "z"
          · rw [ec1, ec2]
            exact q _ _ ((fit_tuple (fl_app (fl_app f1 (fl_cons f2 (fl_nil (b := 0)))) f4)).le (by omega) (by omega) (by omega)) (tl (app (app ht (one (up hx))) (hdr _))) (hs3.le (by omega))
          · rw [ec1, ec2]; simp only [List.length_append, List.length_cons, List.length_nil]; omega
          · rw [ec1]; simp only [List.length_append, List.length_cons, List.length_nil]; omega
        · repeat wtm_at "z"
          refine br_dec (fun e => ?_) fun e => ?_
          · repeat wtm_at "z"
            refine uv (op := opRev) rfl ?_
            repeat wtm_at "z"
            exact q _ _ ((fit_tuple (fl_rev hfl)).le (by omega) (by omega) (by omega)) (tl fun e m => up (he e (List.mem_reverse.mp m))) (hs3.le (by omega))
          · repeat wtm_at "z"
            refine br_dec (fun e => ?_) fun e => ?_
            · repeat wtm_at "z"
              exact q _ _ ((fit_list hfl).le (by omega) (by omega) (by omega)) (fun ds' e => by cases e) (hs3.le (by omega))
            · repeat wtm_at "z"
              refine bv (op := opIx) eix ?_
              repeat wtm_at "z"
              · refine bent_ok hM hM2 i (f2.both hx) (by omega) (by omega) (by omega) (by omega) (by omega) hs3 (by omega) fun d' s4 hd' hs4 => ?_
                have hd1 : Fit (M + 2) (j + 2) (2 * b2 + 20) d' := hd'.le (Nat.le_refl _) (by omega) (by omega)
                have hd2 : Fit (M + 2) (kk + 2) (2 * c + 20) d' := hd'.le (Nat.le_refl _) (by omega) (by omega)
                repeat wtm_at "z"
                · rw [ec1, ec3]
                  exact q _ _ ((fit_tuple (fl_app (fl_app (f1.le (Nat.le_add_right M 2) (by omega : j ≤ j + 2) (Nat.le_refl _)) (fl_cons hd1 (fl_nil (b := 0)))) (f3.le (Nat.le_add_right M 2) (by omega : j ≤ j + 2) (Nat.le_refl _)))).le (by omega) (by omega) (by omega)) (tl (app (app ht (one hd2)) (hdr _))) (hs4.le (by omega))
                · rw [ec1, ec3]; simp only [List.length_append, List.length_cons, List.length_nil]; omega
                · rw [ec1]; simp only [List.length_append, List.length_cons, List.length_nil]; omega
theorem fit_iT {M n : Nat} {ns : List Int} (h : ∀ x ∈ ns, x.natAbs ≤ M) (hn : ns.length ≤ n) : Fit M 1 n (iT ns) := by
  have e : FitL M 0 (ns.map PyData.int).length (ns.map PyData.int) := (fl_all (b := 0) _ fun d hd => by
    obtain ⟨x, hx, rfl⟩ := List.mem_map.mp hd
    exact fit_int (h x hx)).le (Nat.le_refl _) (Nat.le_refl _) (by omega)
  exact (fit_tuple e).le (Nat.le_refl _) (Nat.le_refl _) (by rw [List.length_map]; exact hn)
theorem sdLt_irr (t : Sd) : sdLt t t = false := by
  unfold sdLt
  rw [sd_lt, if_pos rfl]
  split
  · exact decide_eq_false (Int.lt_irrefl _)
  · exact decide_eq_false (List.lt_irrefl _)
theorem asc_nod {ts : List Sd} (h : ts.Pairwise fun t u => sdLt t u = true) : ts.Nodup := h.imp fun {a b} h e => by
  rw [e, sdLt_irr] at h; cases h
def hd0 (t : Sd) : Int := t.ls.headD 0
/-- a stand to which a rule leads -/
inductive Rch (w : Wh) (r : List Ln) : Sd → Prop
  | st {t : Sd} (h : t ∈ startsL w) : Rch w r t
  | go {t u : Sd} {b : Bool} (h : Rch w r t) (hd : deedR w t r = some b) (hu : u ∈ allL w t b) : Rch w r u
theorem deed_deeds {w : Wh} {r : List Ln} {t : Sd} {b : Bool} (h : deedR w t r = some b) : b ∈ deedsB w t := List.mem_filter.mpr ⟨by cases b <;> simp, deed_may h⟩
theorem rch_stand {w : Wh} {most : Int} (hw : GoodWh most w) {r : List Ln} {t : Sd} (h : Rch w r t) : t ∈ standsL w := by
  induction h with
  | st h => exact start_stand hw h
  | go h hd hu ih => exact (goodS hw).all _ ih _ (deed_deeds hd) _ hu
/-- what the search of all stands met holds -/
structure MetI (w : Wh) (r : List Ln) (ks wt : List Sd) : Prop where
  nod : ks.Nodup
  ok : ∀ t, t ∈ ks ∨ t ∈ wt → Rch w r t
  go : ∀ t ∈ ks, ∀ b, deedR w t r = some b → ∀ u ∈ allL w t b, u ∈ ks ∨ u ∈ wt
  st : ∀ t ∈ startsL w, t ∈ ks ∨ t ∈ wt
theorem met_start {w : Wh} {r : List Ln} : MetI w r [] (startsL w) := ⟨List.nodup_nil, fun t h => h.elim (fun h => by cases h) .st, fun t h => (by cases h), fun t h => .inr h⟩
theorem met_old {w : Wh} {r : List Ln} {ks wt : List Sd} {t : Sd} (h : MetI w r ks (wt ++ [t])) (ht : t ∈ ks) : MetI w r ks wt := by
  have out : ∀ {u : Sd}, u ∈ ks ∨ u ∈ wt ++ [t] → u ∈ ks ∨ u ∈ wt := fun {u} z => by
    rcases z with z | z
    · exact .inl z
    · rcases List.mem_append.mp z with z | z
      · exact .inr z
      · exact .inl (by rw [List.mem_singleton.mp z]; exact ht)
  exact ⟨h.nod, fun u z => h.ok u (z.imp id fun z => List.mem_append_left _ z), fun u hu b hb v hv => out (h.go u hu b hb v hv), fun u hu => out (h.st u hu)⟩
theorem met_new {w : Wh} {r : List Ln} {ks wt : List Sd} {t : Sd} (h : MetI w r ks (wt ++ [t])) (ht : t ∉ ks) {more : List Sd} (hm : ∀ b, deedR w t r = some b → more = allL w t b) (hn : deedR w t r = none → more = []) : MetI w r (ks ++ [t]) (wt ++ more) := by
  have out : ∀ {u : Sd}, u ∈ ks ∨ u ∈ wt ++ [t] → u ∈ ks ++ [t] ∨ u ∈ wt ++ more := fun {u} z => by
    rcases z with z | z
    · exact .inl (List.mem_append_left _ z)
    · rcases List.mem_append.mp z with z | z
      · exact .inr (List.mem_append_left _ z)
      · exact .inl (List.mem_append_right _ z)
  have htr : Rch w r t := h.ok t (.inr (by simp))
  refine ⟨List.nodup_append.mpr ⟨h.nod, by simp, fun a h9 b hb e => ht (by rw [← List.mem_singleton.mp hb, ← e]; exact h9)⟩, fun u z => ?_, fun u hu b hb v hv => ?_, fun u hu => out (h.st u hu)⟩
  · rcases z with z | z
    · rcases List.mem_append.mp z with z | z
      · exact h.ok u (.inl z)
      · rw [List.mem_singleton.mp z]; exact htr
    · rcases List.mem_append.mp z with z | z
      · exact h.ok u (.inr (List.mem_append_left _ z))
      · cases e : deedR w t r with
        | none => rw [hn e] at z; cases z
        | some b => rw [hm b e] at z; exact .go htr e z
  · rcases List.mem_append.mp hu with hu | hu
    · exact out (h.go u hu b hb v hv)
    · have e := List.mem_singleton.mp hu
      subst e
      exact .inr (List.mem_append_right _ (by rw [hm b hb]; exact hv))
theorem met_end {w : Wh} {r : List Ln} {ks : List Sd} (h : MetI w r ks []) : ∀ t, t ∈ ks ↔ Rch w r t := by
  intro t
  refine ⟨fun ht => h.ok t (.inl ht), fun ht => ?_⟩
  induction ht with
  | st hs => exact (h.st _ hs).elim id fun z => by cases z
  | go _ hd hu ih => exact (h.go _ ih _ hd _ hu).elim id fun z => by cases z
theorem met_len {w : Wh} {most : Int} (hw : GoodWh most w) {r : List Ln} {ks wt : List Sd} (h : MetI w r ks wt) : ks.length ≤ (standsL w).length := nodup_len h.nod fun t ht => rch_stand hw (h.ok t (.inl ht))
def mtL (w : Wh) (r : List Ln) (ks : List Sd) : List (Sd × Option Bool) := ks.map fun t => (t, deedR w t r)
theorem mt_has {w : Wh} {r : List Ln} (t : Sd) : ∀ ks : List Sd, (getK (mtL w r ks) t).isSome = decide (t ∈ ks)
  | [] => rfl
  | u :: ks => by
    have ih := mt_has (w := w) (r := r) t ks
    unfold mtL getK at ih ⊢
    rw [List.map_cons, List.find?_cons]
    by_cases e : u = t
    · subst e
      simp
    · have e1 : decide (((u, deedR w u r) : Sd × Option Bool).1 = t) = false := decide_eq_false e
      rw [e1]
      dsimp only
      rw [ih]
      refine decide_eq_decide.mpr ⟨fun h => List.mem_cons_of_mem _ h, fun h => ?_⟩
      rcases List.mem_cons.mp h with h | h
      · exact absurd h.symm e
      · exact h
theorem mt_put {w : Wh} {r : List Ln} {t : Sd} {ks : List Sd} (h : t ∉ ks) : putK (mtL w r ks) t (deedR w t r) = mtL w r (ks ++ [t]) := by
  have hn : getK (mtL w r ks) t = none := by
    have := mt_has (w := w) (r := r) t ks
    rw [decide_eq_false h] at this
    cases e : getK (mtL w r ks) t with
    | none => rfl
    | some _ => rw [e] at this; cases this
  rw [putK_new _ hn]
  unfold mtL
  rw [List.map_append]
  rfl
/-- all stands met, in some order -/
def Mets (w : Wh) (r : List Ln) (ks : List Sd) : Prop := ks.Nodup ∧ ∀ t, t ∈ ks ↔ Rch w r t
def leS (t u : Sd) : Bool := PySem.W.dataLe false id t.d u.d
theorem leS_iff {t u : Sd} : leS t u = true ↔ ¬ LtS u t := by
  unfold leS
  have e : PySem.W.dataLe false id t.d u.d = !sdLt u t := rfl
  rw [e, Bool.not_eq_true', ← sdLt_iff, Bool.not_eq_true]
theorem sortSd_asc {ts : List Sd} (hn : ts.Nodup) : (sortSd ts).Pairwise fun t u => sdLt t u = true := by
  have hp : (sortSd ts).Pairwise fun t u => leS t u = true := by
    refine List.pairwise_mergeSort (fun a b c h k => ?_) (fun a b => ?_) ts
    · have h : leS a b = true := h
      have k : leS b c = true := k
      show leS a c = true
      rw [leS_iff] at h k ⊢
      intro z
      rcases ltS_3 c b with l | l | l
      · exact k l
      · subst l; exact h z
      · exact h (ltS_trans l z)
    · show (leS a b || leS b a) = true
      rw [Bool.or_eq_true, leS_iff, leS_iff]
      rcases ltS_3 a b with l | l | l
      · exact .inl fun z => ltS_irr (ltS_trans l z)
      · subst l; exact .inl ltS_irr
      · exact .inr fun z => ltS_irr (ltS_trans l z)
  have hn2 : (sortSd ts).Nodup := (sortSd_perm ts).nodup_iff.mpr hn
  refine (hp.and hn2).imp fun {a b} ⟨h1, h2⟩ => ?_
  rw [sdLt_iff]
  rcases ltS_3 a b with l | l | l
  · exact l
  · exact absurd l h2
  · exact absurd l (leS_iff.mp h1)
theorem sorted_keysG {w : Wh} {most : Int} (hw : GoodWh most w) {β : Type} (ve : β → PyData) {f : List (Sd × β)} (hl : f.length ≤ 100000) (hne : f ≠ []) (hg : ∀ p ∈ f, GoodSd w p.1) : oSortedN [.dict (encM Sd.d ve f)] = some (.list ((sortSd (f.map (·.1))).map Sd.d)) := by
  have sz := sizeLine_big
  have e1 : (encM Sd.d ve f).map (·.1) = (f.map (·.1)).map Sd.d := by unfold encM; rw [List.map_map, List.map_map]; rfl
  have hg' : ∀ t ∈ f.map (·.1), GoodSd w t := fun t ht => by
    obtain ⟨p, hp, rfl⟩ := List.mem_map.mp ht
    exact hg p hp
  have hs := sd_all hw hg'
  have h1 : alikeL ((f.map (·.1)).map Sd.d) = true := List.all_eq_true.mpr fun d hd => List.all_eq_true.mpr fun e he => by
    obtain ⟨t, _, rfl⟩ := List.mem_map.mp hd
    obtain ⟨u, _, rfl⟩ := List.mem_map.mp he
    exact alike_sd t u
  have h2 : sortable ((f.map (·.1)).map Sd.d) = true := by
    unfold sortable
    rw [Bool.or_eq_true]
    exact .inl (List.all_eq_true.mpr fun d hd => by
      obtain ⟨t, _, rfl⟩ := List.mem_map.mp hd
      rfl)
  have h3 := hs.dp
  have hne2 : encM Sd.d ve f ≠ [] := fun e => hne (by simpa [encM] using e)
  have hc : (alikeL ((encM Sd.d ve f).map (·.1)) && sortable ((encM Sd.d ve f).map (·.1)) && PyData.canLayAll0 ((encM Sd.d ve f).map (·.1)) && decide (PyData.depthAll ((encM Sd.d ve f).map (·.1)) ≤ 60) && decide (((encM Sd.d ve f).map (·.1)).length ≤ sizeLine)) = true := by
    rw [e1, h1, h2, hs.lay, decide_eq_true (by omega), decide_eq_true (by rw [List.length_map, List.length_map]; omega)]
    rfl
  show (if allN (encM Sd.d ve f) = true ∧ encM Sd.d ve f ≠ [] ∧ _ then some (PyData.list (sortD ((encM Sd.d ve f).map (·.1)))) else none) = _
  rw [if_pos ⟨encM_all sdE _ _, hne2, hc⟩, e1, sortSd_data]
theorem knT_keysA : ∀ (ts : List Sd) (f : List (Sd × Unit)), (f.map (·.1) ++ ts).Nodup → (ts.foldl (fun f t => putK f t ()) f).map (·.1) = f.map (·.1) ++ ts
  | [], f, _ => by simp
  | t :: ts, f, h => by
    have hn : getK f t = none := by
      cases e : getK f t with
      | none => rfl
      | some v =>
        have h1 : t ∈ f.map (·.1) := List.mem_map.mpr ⟨_, getK_mem e, rfl⟩
        exact absurd rfl ((List.nodup_append.mp h).2.2 t h1 t (List.mem_cons_self ..))
    rw [List.foldl_cons, putK_new _ hn, knT_keysA ts _ (by simpa using h)]
    simp
theorem knT_keys {ts : List Sd} (h : ts.Nodup) : (knT ts).map (·.1) = ts := by
  have := knT_keysA ts [] (by simpa using h)
  simpa [knT] using this
def AscM (w : Wh) (r : List Ln) (L : List Sd) : Prop := L.Pairwise (fun t u => sdLt t u = true) ∧ ∀ t, t ∈ L ↔ Rch w r t
theorem ascM_of {w : Wh} {r : List Ln} {ks : List Sd} (h : Mets w r ks) : AscM w r (sortSd ks) := ⟨sortSd_asc h.1, fun t => by rw [sortSd_mem]; exact h.2 t⟩
theorem mets_ne {w : Wh} {most : Int} (hw : GoodWh most w) {r : List Ln} {ks : List Sd} (h : Mets w r ks) : ks ≠ [] := fun e => by
  obtain ⟨t, ht⟩ := List.exists_mem_of_ne_nil (startsL w) (List.length_pos_iff.mp (starts_ne w hw).1)
  have := (h.2 t).mpr (.st ht)
  rw [e] at this
  cases this
theorem mt_get {w : Wh} {r : List Ln} {t : Sd} {ks : List Sd} (h : t ∈ ks) : getK (mtL w r ks) t = some (deedR w t r) := by
  have h1 := mt_has (w := w) (r := r) t ks
  rw [decide_eq_true h] at h1
  cases e : getK (mtL w r ks) t with
  | none => rw [e] at h1; cases h1
  | some v =>
    obtain ⟨u, _, e2⟩ := List.mem_map.mp (getK_mem e)
    injection e2 with e3 e4
    rw [← e4, e3]
theorem num_sd (t : Sd) : numD t.d = true ∧ t.d.depth ≤ 8 := by
  have hi : ∀ ns : List Int, numD.numDs (ns.map .int) = true := fun ns => by
    induction ns with
    | nil => rfl
    | cons n ns ih => show (numD (.int n) && numD.numDs _) = true; rw [ih]; rfl
  constructor
  · show (numD (.tuple (t.ls.map .int)) && (numD (.tuple (t.ln.map .int)) && (numD (.int t.wt) && true))) = true
    rw [show numD (.tuple (t.ls.map .int)) = true from hi _, show numD (.tuple (t.ln.map .int)) = true from hi _]
    rfl
  · unfold Sd.d
    simp only [PyData.depth, PyData.depthAll, DL.depthAll_ints]
    decide
theorem setS_sd {ts us : List Sd} (hn : ts.Nodup) (hl : ts.length ≤ 1227) (hm : ∀ t, t ∈ ts ↔ t ∈ us) : SetS (us.map Sd.d) ((sortSd ts).map Sd.d) := by
  have lt : ∀ t u : Sd, PySem.W.dataLt t.d u.d = sdLt t u := fun t u => rfl
  refine ⟨fun x => ?_, ?_, fun x hx y hy h => ?_, ?_, fun x hx => ?_, fun x hx y hy => ?_⟩
  · rw [List.mem_map, List.mem_map]
    constructor
    · rintro ⟨t, ht, rfl⟩
      exact ⟨t, (hm t).mp (sortSd_mem.mp ht), rfl⟩
    · rintro ⟨t, ht, rfl⟩
      exact ⟨t, sortSd_mem.mpr ((hm t).mpr ht), rfl⟩
  · exact List.pairwise_map.mpr (sortSd_asc hn)
  · obtain ⟨t, _, rfl⟩ := List.mem_map.mp hx
    obtain ⟨u, _, rfl⟩ := List.mem_map.mp hy
    rw [lt] at h ⊢
    cases e : sdLt u t with
    | false => rfl
    | true => exact absurd (ltS_trans (sdLt_iff.mp h) (sdLt_iff.mp e)) ltS_irr
  · rw [List.length_map, (sortSd_perm ts).length_eq]
    exact hl
  · obtain ⟨t, _, rfl⟩ := List.mem_map.mp hx
    exact ⟨(num_sd t).1, (num_sd t).2, _, _, rfl⟩
  · obtain ⟨t, _, rfl⟩ := List.mem_map.mp hx
    obtain ⟨u, _, rfl⟩ := List.mem_map.mp hy
    exact alike_sd t u
def ldGo (w : Wh) (r : List Ln) : List Sd → List PyData → Except (Str × Int) (List Sd)
  | acc, [] => .ok acc
  | acc, d :: ds => match sdR w d with
    | none => .error ("stand", acc.length)
    | some t => if abvB acc t = false then .error ("stand", acc.length) else if deedR w t r = none then .error ("stuck", acc.length) else ldGo w r (acc ++ [t]) ds
/-- all that a stand's deed leads to is in L -/
def clsdB (w : Wh) (r : List Ln) (L : List Sd) (t : Sd) : Bool := match deedR w t r with
  | some b => (allL w t b).all fun u => decide (u ∈ L)
  | none => true
def opGo (w : Wh) (r : List Ln) (L : List Sd) : Nat → List Sd → Option Nat
  | _, [] => none
  | n, t :: ts => if clsdB w r L t = false then some n else opGo w r L (n + 1) ts
def ldgE (w : Wh) (r : List Ln) (ds : List PyData) : Option (Str × Int) := match ldGo w r [] ds with
  | .error e => some e
  | .ok L => match opGo w r L 0 L with
    | some n => some ("open", (n : Nat))
    | none => if (startsL w).all (fun u => decide (u ∈ L)) = false then some ("start", -1) else none
def ldgF (w : Wh) (r : List Ln) : PyData → Option (Str × Int)
  | .tuple ds => ldgE w r ds
  | _ => some ("shape", -1)
theorem abv_all {L : List Sd} {t : Sd} (hp : L.Pairwise fun t u => sdLt t u = true) (h : abvB L t = true) : (L ++ [t]).Pairwise fun t u => sdLt t u = true := by
  rcases List.eq_nil_or_concat L with rfl | ⟨us, u, rfl⟩
  · simp
  · rw [List.concat_eq_append] at *
    unfold abvB at h
    rw [List.getLast?_concat] at h
    dsimp only at h
    rw [List.pairwise_append] at hp ⊢
    refine ⟨List.pairwise_append.mpr hp, by simp, fun a ha b hb => ?_⟩
    rw [List.mem_singleton.mp hb]
    rcases List.mem_append.mp ha with ha | ha
    · exact sdLt_iff.mpr (ltS_trans (sdLt_iff.mp (hp.2.2 a ha u (by simp))) (sdLt_iff.mp h))
    · rw [List.mem_singleton.mp ha]; exact h
theorem is_above_at {w : Wh} {most : Int} (hw : GoodWh most w) {us : List Sd} (hu : ∀ u ∈ us, GoodSd w u) {t : Sd} (ht : GoodSd w t) {ds : List PyData} (htk : ds.take us.length = us.map Sd.d) (hd : ds[us.length]? = some t.d) (s : Dk) : m_is_above [.d (.tuple ds), .d (.int (us.length : Nat))] s = .ok (.d (.bool (abvB us t))) s := by
  refine w_eq ?_
  unfold m_is_above b_is_above
  repeat wtm_at "z"
  rcases List.eq_nil_or_concat us with rfl | ⟨us, u, rfl⟩
  · refine br_dec (fun h => ?_) fun h => absurd rfl h
    exact ⟨rfl, rfl⟩
  · rw [List.concat_eq_append] at *
    refine br_dec (fun h => ?_) fun h => ?_
    · rw [List.length_append] at h
      simp at h
      omega
    · repeat wtm_at "z"
      have e1 : (((us ++ [u]).length : Nat) : Int) - 1 = (us.length : Nat) := by rw [List.length_append]; simp
      rw [e1]
      have a1 : L2.atI ds ((us.length : Nat) : Int) = some u.d := by
        rw [DL.atI_nat]
        have h2 : (ds.take (us ++ [u]).length)[us.length]? = ds[us.length]? := by rw [List.getElem?_take]; simp
        rw [← h2, htk, List.map_append, List.getElem?_append_right (by simp)]
        simp
      have a2 : L2.atI ds (((us ++ [u]).length : Nat) : Int) = some t.d := by
        rw [DL.atI_nat]
        exact hd
      refine bv (op := opIx) (r := u.d) a1 ?_
      repeat wtm_at "z"
      refine bv (op := opIx) (r := t.d) a2 ?_
      refine bv (sd_ord hw (hu u (by simp)) ht) ?_
      refine ⟨?_, rfl⟩
      unfold abvB
      rw [List.getLast?_concat]
theorem is_ledger_w {w : Wh} {most : Int} (hw : GoodWh most w) (hm : most ≤ 2000) {r : List Ln} (hr : GoodRu 5 2 r) {T : Exn → Dk → Prop} {Q : Val → Dk → Prop} (v : PyData) {k b : Nat} (hv : Sm k b v) (hd : ∀ ds, v = .tuple ds → ds.length ≤ 1000000 ∧ ∀ d ∈ ds, ∃ k b, Sm k b d ∧ b ≤ 1000) (s : Dk)
    (h1 : ldgF w r v = none → Q (.d (.bool true)) s) (h2 : ∀ e, ldgF w r v = some e → T (fltX "NoLedger" e.1 e.2) s) : WT T (m_is_ledger [.d w.d, .d (ruD r), .d v] s) Q := by
  have sz := sizeLine_big
  have hzl := hw.zl
  unfold m_is_ledger b_is_ledger
  repeat wtm_at "z"
  refine w_isi ?_
  repeat wtm_at "z"
  refine uv_isi hv.lay ?_
  repeat wtm_at "z"
  cases ht : isT "tuple" v with
  | false =>
    simp only [Bool.not_false]
    repeat wtm_at "z"
    refine h2 ("shape", -1) ?_
    cases v with
    | tuple ds => cases ht
    | _ => rfl
  | true =>
    obtain ⟨ds, rfl⟩ := isT_tuple ht
    simp only [Bool.not_true]
    obtain ⟨hl, hd⟩ := hd ds rfl
    have hE : ldgF w r (.tuple ds) = ldgE w r ds := rfl
    rw [hE] at h1 h2
    unfold ldgE at h1 h2
    repeat wtm_at "z"
    refine ⟨_, rfl, ?_⟩
    refine for_inv (fun n ρ s' => s' = s ∧ ∃ (acc : List Sd) (x4 x5 : Sl), acc.length = n ∧ ldGo w r [] ds = ldGo w r acc (ds.drop n) ∧ ds.take n = acc.map Sd.d ∧ (∀ t ∈ acc, IsSd w t ∧ deedR w t r ≠ none) ∧ acc.Pairwise (fun t u => sdLt t u = true) ∧ ρ = [.v (.d w.d), .v (.d (ruD r)), .v (.d (.tuple ds)), .m (encM Sd.d actD (mtL w r acc)), x4, x5]) _ 0 ⟨rfl, [], _, _, rfl, rfl, by simp, fun p h => (by cases h), .nil, rfl⟩ ?_ ?_
    · rintro n x hx ρ s' ⟨rfl, acc, x4, x5, hn, hg, htk, ha, hp, rfl⟩
      rw [Nat.zero_add] at hn hg htk ⊢
      obtain ⟨d, hxd, rfl, hlt⟩ := enu_at hx
      obtain ⟨kk, bb, hsm, hb⟩ := hd d (List.mem_of_getElem? hxd)
      have hdr : ds.drop n = d :: ds.drop (n + 1) := by
        obtain ⟨h1, h2⟩ := List.getElem?_eq_some_iff.mp hxd
        rw [List.drop_eq_getElem_cons h1, h2]
      rw [hdr, ldGo] at hg
      refine ⟨_, rfl, ?_⟩
      simp only [List.set_cons_succ, List.set_cons_zero]
      repeat wtm_at "z"
      refine w_of (is_stand_sm w d hw.small (by omega) hsm hb _) ?_
      rw [sdR_isSome]
      cases es : sdR w d with
      | none =>
        rw [es] at hg
        simp only [Option.isSome_none, Bool.not_false]
        repeat wtm_at "z"
        simp only [Bool.not_false]
        repeat wtm_at "z"
        have := h2 _ (by rw [hg])
        rw [hn] at this
        exact this
      | some t =>
        rw [es] at hg
        dsimp only at hg
        obtain ⟨rfl, hst⟩ := sdR_some es
        have hgd := hst.good
        obtain ⟨h0, h1', hl1, hl2⟩ := hgd.ne hw
        repeat wtm_at "z"
        simp only [Option.isSome_some, Bool.not_true]
        repeat wtm_at "z"
        have hab := is_above_at hw (us := acc) (fun u hu => (ha u hu).1.good) hgd (ds := ds) (by rw [hn]; exact htk) (by rw [hn]; exact hxd) s'
        rw [hn] at hab
        refine w_of hab ?_
        repeat wtm_at "z"
        cases eb : abvB acc t with
        | false =>
          rw [if_pos eb] at hg
          simp only [Bool.not_false]
          repeat wtm_at "z"
          have := h2 _ (by rw [hg])
          rw [hn] at this
          exact this
        | true =>
          rw [if_neg (by rw [eb]; decide)] at hg
          simp only [Bool.not_true]
          repeat wtm_at "z"
          refine w_of (deed_eq w r t hw.small (fun l hl => ⟨by have := (hr.ts l hl).1; omega, fun c hc => ((hr.ts l hl).2 c hc).w⟩) (by omega) h0 h1' _) ?_
          repeat wtm_at "z"
          have hp2 := abv_all hp eb
          have hni : t ∉ acc := fun h => (List.nodup_append.mp (asc_nod hp2)).2.2 t h t (List.mem_singleton.mpr rfl) rfl
          refine ⟨_, _, _, rfl, rfl, sdE.tk _, ⟨by unfold encM mtL; rw [List.length_map, List.length_map]; omega, encM_all sdE _ _⟩, ?_⟩
          have ep := encM_put sdE actD (mtL w r acc) t (deedR w t r)
          have ep : dPutN (encM Sd.d actD (mtL w r acc)) t.d (actD (deedR w t r)) (sdKey t) = encM Sd.d actD (putK (mtL w r acc) t (deedR w t r)) := ep
          rw [ep, mt_put hni]
          repeat wtm_at "z"
          refine bv_dixN sdE (mt_get (t := t) (by simp)) ?_
          repeat wtm_at "z"
          cases ed : deedR w t r with
          | none =>
            rw [if_pos ed] at hg
            refine bv (op := opIs) (r := .bool true) rfl ?_
            repeat wtm_at "z"
            have := h2 _ (by rw [hg])
            rw [hn] at this
            exact this
          | some b =>
            rw [if_neg (by rw [ed]; simp)] at hg
            refine bv (op := opIs) (r := .bool false) (by cases b <;> rfl) ?_
            repeat wtm_at "z"
            refine ⟨rfl, acc ++ [t], _, _, by simp; omega, hg, ?_, fun q hq => ?_, hp2, rfl⟩
            · rw [List.take_succ, htk, hxd, List.map_append]
              rfl
            · rcases List.mem_append.mp hq with hq | hq
              · exact ha q hq
              · rw [List.mem_singleton.mp hq]; exact ⟨hst, by rw [ed]; simp⟩
    · rintro ρ s' ⟨rfl, L, x4, x5, hn, hg, htk, ha, hp, rfl⟩
      rw [enu_len, Nat.zero_add] at hg hn htk
      rw [List.drop_length, ldGo] at hg
      rw [List.take_length] at htk
      subst htk
      rw [hg] at h1 h2
      dsimp only at h1 h2
      repeat wtm_at "z"
      refine ⟨_, rfl, ?_⟩
      refine for_inv (fun n ρ s'' => s'' = s' ∧ opGo w r L 0 L = opGo w r L n (L.drop n) ∧ ∃ x4 x5, ρ = [.v (.d w.d), .v (.d (ruD r)), .v (.d (.tuple (L.map Sd.d))), .m (encM Sd.d actD (mtL w r L)), x4, x5]) _ 0 ⟨rfl, rfl, _, _, rfl⟩ ?_ ?_
      · rintro n x hx ρ s' ⟨rfl, hgo, x4, x5, rfl⟩
        obtain ⟨d, hxd, rfl, hlt⟩ := enu_at hx
        rw [List.getElem?_map] at hxd
        obtain ⟨t, ht, rfl⟩ := Option.map_eq_some_iff.mp hxd
        have htm := List.mem_of_getElem? ht
        obtain ⟨hst, hde⟩ := ha t htm
        have hgd := hst.good
        have hdr : L.drop n = t :: L.drop (n + 1) := by
          obtain ⟨h1, h2⟩ := List.getElem?_eq_some_iff.mp ht
          rw [List.drop_eq_getElem_cons h1, h2]
        rw [Nat.zero_add, hdr, opGo] at hgo
        refine ⟨_, rfl, ?_⟩
        simp only [List.set_cons_succ, List.set_cons_zero]
        repeat wtm_at "z"
        refine w_fnB ?_
        repeat wtm_at "z"
        refine bv_dixN sdE (mt_get htm) ?_
        repeat wtm_at "z"
        cases ed : deedR w t r with
        | none => exact absurd ed hde
        | some b =>
          have eg : ((allL w t b).all fun u => (getK (mtL w r L) u).isSome) = clsdB w r L t := by
            unfold clsdB
            rw [ed]
            dsimp only
            congr 1
            funext u
            exact mt_has u L
          have hh := leads_on_eq hw hgd b actD (mtL w r L) s'
          rw [eg] at hh
          refine w_of hh ?_
          refine DL.hv rfl ?_
          repeat wtm_at "z"
          cases ec : clsdB w r L t with
          | false =>
            rw [if_pos ec] at hgo
            simp only [Bool.not_false]
            repeat wtm_at "z"
            exact h2 _ (by rw [hgo])
          | true =>
            rw [if_neg (by rw [ec]; decide)] at hgo
            simp only [Bool.not_true]
            repeat wtm_at "z"
            exact ⟨rfl, by rw [Nat.zero_add]; exact hgo, _, _, rfl⟩
      · rintro ρ s' ⟨rfl, hgo, x4, x5, rfl⟩
        rw [enu_len, Nat.zero_add, List.length_map, List.drop_length, opGo] at hgo
        rw [hgo] at h1 h2
        dsimp only at h1 h2
        repeat wtm_at "z"
        refine w_fnB ?_
        repeat wtm_at "z"
        have eg : ((startsL w).all fun u => (getK (mtL w r L) u).isSome) = (startsL w).all fun u => decide (u ∈ L) := by
          congr 1
          funext u
          exact mt_has u L
        have hh := are_started_eq hw actD (mtL w r L) s'
        rw [eg] at hh
        refine w_of hh ?_
        refine DL.hv rfl ?_
        repeat wtm_at "z"
        cases ec : (startsL w).all fun u => decide (u ∈ L) with
        | false =>
          rw [if_pos ec] at h2
          simp only [Bool.not_false]
          repeat wtm_at "z"
          exact h2 _ rfl
        | true =>
          rw [if_neg (by rw [ec]; decide)] at h1
          simp only [Bool.not_true]
          repeat wtm_at "z"
          exact h1 rfl
def sgD (d : PyData) : List Nat := d.shown.cps.toList
def lg (s : Str) : List Nat := s.cps.toList
theorem lg_lit (s : String) : lg (Str.ofString s) = s.toList.map Char.toNat := by unfold lg; rw [Str.ofString_eq_toList]
/-- what stands behind the pieces of a shown tuple -/
def tlG : List PyData → List Nat
  | [] => [41]
  | d :: ds => 44 :: 32 :: (sgD d ++ tlG ds)
def bdG : List PyData → List Nat
  | [] => [41]
  | [d] => sgD d ++ [44, 41]
  | d :: e :: ds => sgD d ++ tlG (e :: ds)
theorem join_tl : ∀ (d : PyData) (ds : List PyData), lg (Str.join ", " (PyData.shownAll (d :: ds))) ++ [41] = sgD d ++ tlG ds
  | d, [] => by simp only [PyData.shownAll]; rfl
  | d, e :: ds => by
    have ih := join_tl e ds
    simp only [PyData.shownAll] at ih ⊢
    show lg (d.shown ++ (", " : Str) ++ Str.join ", " (e.shown :: PyData.shownAll ds)) ++ [41] = _
    have h1 : lg (d.shown ++ (", " : Str) ++ Str.join ", " (e.shown :: PyData.shownAll ds)) = sgD d ++ [44, 32] ++ lg (Str.join ", " (e.shown :: PyData.shownAll ds)) := by
      unfold lg sgD
      rw [app_cps, app_cps]
      congr 2
    rw [h1, List.append_assoc, ih]
    simp [tlG]
theorem sg_tuple (ds : List PyData) : sgD (.tuple ds) = 40 :: bdG ds := by
  unfold sgD
  rw [PyData.shown_tuple, app_cps, app_cps]
  have h0 : (("(" : Str)).cps.toList = [40] := lg_lit "("
  rw [h0]
  match ds with
  | [] => simp only [PyData.shownAll]; rfl
  | [d] =>
    simp only [PyData.shownAll]
    rfl
  | d :: e :: ds =>
    have h1 : ((d :: e :: ds).length == 1) = false := by
      simp only [List.length_cons]
      rw [beq_eq_false_iff_ne]
      omega
    rw [h1]
    have h2 := join_tl d (e :: ds)
    have h3 : ((if false = true then (",)" : String) else (")" : String) : String) : Str).cps.toList = [41] := lg_lit ")"
    rw [h3]
    show 40 :: (lg _ ++ [41]) = _
    rw [h2]
    rfl
def isDg (c : Nat) : Bool := decide (48 ≤ c ∧ c ≤ 57) || decide (c = 45)
theorem dg_nat (n : Nat) : ∀ c ∈ (toString n).toList, isDg c.toNat = true := fun c h => by
  rw [show (toString n).toList = Nat.toDigits 10 n from Nat.toList_repr] at h
  have := Nat.isDigit_of_mem_toDigits (by decide) (by decide) h
  unfold Char.isDigit at this
  rw [Bool.and_eq_true, decide_eq_true_eq, decide_eq_true_eq] at this
  unfold isDg
  rw [Bool.or_eq_true, decide_eq_true_eq]
  left
  exact ⟨this.1, this.2⟩
theorem sg_int (i : Int) : sgD (.int i) = (toString i).toList.map Char.toNat := by
  unfold sgD
  rw [show (PyData.int i).shown = Str.ofString (toString i) by simp only [PyData.shown]]
  exact lg_lit _
theorem dg_int (i : Int) : ∀ c ∈ sgD (.int i), isDg c = true := by
  rw [sg_int]
  intro c hc
  obtain ⟨x, hx, rfl⟩ := List.mem_map.mp hc
  cases i with
  | ofNat n => exact dg_nat n x hx
  | negSucc n =>
    have e : toString (Int.negSucc n) = "-" ++ toString (n + 1) := rfl
    rw [e, String.toList_append] at hx
    rcases List.mem_append.mp hx with h | h
    · rw [List.mem_singleton.mp (show x ∈ ['-'] from h)]; rfl
    · exact dg_nat _ x h
theorem int_ne (i : Int) : sgD (.int i) ≠ [] := by
  obtain ⟨c, r, e, _⟩ := int_head i
  unfold sgD
  rw [e]
  simp
theorem nat_inj {n m : Nat} (h : (toString n).toList = (toString m).toList) : n = m := by
  have h : toString n = toString m := String.toList_inj.mp h
  have h2 := congrArg String.toNat? h
  rw [show toString n = Nat.repr n from rfl, show toString m = Nat.repr m from rfl, Nat.toNat?_repr, Nat.toNat?_repr] at h2
  exact Option.some.inj h2
theorem toN_inj {xs ys : List Char} (h : xs.map Char.toNat = ys.map Char.toNat) : xs = ys := by
  refine (List.map_inj_right fun a b e => Char.toNat_inj.mp e).mp h
theorem nat_head (n : Nat) : ∀ c ∈ (toString n).toList, c ≠ '-' := fun c h e => by
  rw [show (toString n).toList = Nat.toDigits 10 n from Nat.toList_repr] at h
  have := Nat.isDigit_of_mem_toDigits (by decide) (by decide) h
  rw [e] at this
  revert this
  decide
theorem int_inj {i j : Int} (h : sgD (.int i) = sgD (.int j)) : i = j := by
  rw [sg_int, sg_int] at h
  have h := toN_inj h
  cases i with
  | ofNat n =>
    cases j with
    | ofNat m => rw [nat_inj h]
    | negSucc m =>
      have e : (toString (Int.negSucc m)).toList = '-' :: (toString (m + 1)).toList := by
        rw [show toString (Int.negSucc m) = "-" ++ toString (m + 1) from rfl, String.toList_append]; rfl
      rw [e] at h
      exact absurd rfl (nat_head n '-' (by rw [show (toString n).toList = _ from h]; exact .head _))
  | negSucc n =>
    have e : ∀ m : Nat, (toString (Int.negSucc m)).toList = '-' :: (toString (m + 1)).toList := fun m => by
      rw [show toString (Int.negSucc m) = "-" ++ toString (m + 1) from rfl, String.toList_append]; rfl
    cases j with
    | ofNat m =>
      rw [e] at h
      exact absurd rfl (nat_head m '-' (by rw [show (toString m).toList = _ from h.symm]; exact .head _))
    | negSucc m =>
      rw [e, e] at h
      have := nat_inj (List.cons.inj h).2
      have : n = m := by omega
      rw [this]
/-- nothing of a number stands at the front -/
def Tm (r : List Nat) : Prop := ∀ c ∈ r.head?, isDg c = false
theorem dg_cut {r r' : List Nat} (h : Tm r) (h' : Tm r') : ∀ {a b : List Nat}, (∀ c ∈ a, isDg c = true) → (∀ c ∈ b, isDg c = true) → a ++ r = b ++ r' → a = b ∧ r = r'
  | [], [], _, _, e => ⟨rfl, e⟩
  | [], c :: b, _, hb, e => by
    have := h c (by rw [show r = _ from e]; rfl)
    rw [hb c (.head _)] at this
    cases this
  | c :: a, [], ha, _, e => by
    have := h' c (by rw [show r' = _ from e.symm]; rfl)
    rw [ha c (.head _)] at this
    cases this
  | c :: a, c' :: b, ha, hb, e => by
    injection e with e1 e2
    obtain ⟨rfl, rfl⟩ := dg_cut h h' (fun x hx => ha x (.tail _ hx)) (fun x hx => hb x (.tail _ hx)) e2
    exact ⟨by rw [e1], rfl⟩
/-- how a shown value begins -/
theorem sg_head (d : PyData) (hd : d.canLay0 = true) : ∃ c r, sgD d = c :: r ∧ c ≠ 41 ∧ (isDg c = true → ∃ i : Int, d = PyData.int i) ∧ (c = 40 → ∃ ds, d = .tuple ds) := by
  cases d with
  | dict _ => simp only [PyData.canLay0] at hd; cases hd
  | none => exact ⟨78, [111, 110, 101], by unfold sgD; simp only [PyData.shown]; exact lg_lit "None", by decide, (fun h => by cases h), (fun h => by cases h)⟩
  | bool b =>
    cases b with
    | true => exact ⟨84, [114, 117, 101], by unfold sgD; simp only [PyData.shown]; exact lg_lit "True", by decide, (fun h => by cases h), (fun h => by cases h)⟩
    | false => exact ⟨70, [97, 108, 115, 101], by unfold sgD; simp only [PyData.shown]; exact lg_lit "False", by decide, (fun h => by cases h), (fun h => by cases h)⟩
  | int i =>
    obtain ⟨c, r, e⟩ := List.exists_cons_of_ne_nil (int_ne i)
    have hc := dg_int i c (by rw [e]; exact .head _)
    refine ⟨c, r, e, fun h => ?_, fun _ => ⟨i, rfl⟩, fun h => ?_⟩
    · rw [h] at hc; cases hc
    · rw [h] at hc; cases hc
  | str x =>
    refine ⟨reprQuote x, _, by unfold sgD; rw [show (PyData.str x).shown = PySem.reprText x by simp only [PyData.shown], reprText_cps, List.cons_append], ?_, ?_, ?_⟩
    all_goals
      have hq : reprQuote x = 39 ∨ reprQuote x = 34 := by
        unfold reprQuote
        split
        · right; rfl
        · left; rfl
      rcases hq with h | h <;> rw [h]
      all_goals first
        | decide
        | (intro h; cases h)
  | list xs =>
    refine ⟨91, _, by unfold sgD; rw [PyData.shown_list, app_cps, app_cps, show (("[" : Str)).cps.toList = [91] from lg_lit "["]; rfl, by decide, (fun h => by cases h), (fun h => by cases h)⟩
  | tuple ds => exact ⟨40, _, sg_tuple ds, by decide, (fun h => by cases h), (fun _ => ⟨ds, rfl⟩)⟩
/-- x is read back from how it is shown, whatever stands behind -/
structure Pf (x : PyData) : Prop where
  z : ∃ c r, sgD x = c :: r ∧ c ≠ 41
  h : ∀ (d : PyData) (r r' : List Nat), d.canLay0 = true → Tm r → Tm r' → sgD d ++ r = sgD x ++ r' → d = x ∧ r = r'
theorem pf_int (i : Int) : Pf (.int i) := ⟨let ⟨c, r, e, h, _⟩ := sg_head (.int i) rfl; ⟨c, r, e, h⟩, fun d r r' hd hr hr' e => by
  obtain ⟨c, t, e1, _, h2, _⟩ := sg_head d hd
  obtain ⟨c', t', e1'⟩ := List.exists_cons_of_ne_nil (int_ne i)
  have hc := dg_int i c' (by rw [e1']; exact .head _)
  have ec : c = c' := by
    rw [e1, e1'] at e
    injection e
  obtain ⟨j, rfl⟩ := h2 (ec ▸ hc)
  obtain ⟨e2, e3⟩ := dg_cut hr hr' (dg_int j) (dg_int i) e
  exact ⟨by rw [int_inj e2], e3⟩⟩
theorem tm_c {c : Nat} {r : List Nat} (h : isDg c = false) : Tm (c :: r) := fun x hx => by
  have : c = x := by simpa using hx
  rw [← this]; exact h
theorem tmTl (ds : List PyData) (r : List Nat) : Tm (tlG ds ++ r) := by
  cases ds with
  | nil => exact tm_c rfl
  | cons d ds => exact tm_c rfl
theorem pf_tl : ∀ {xs : List PyData}, (∀ x ∈ xs, Pf x) → ∀ {ds : List PyData} {r r' : List Nat}, PyData.canLayAll0 ds = true → tlG ds ++ r = tlG xs ++ r' → ds = xs ∧ r = r'
  | [], _, [], _, _, _, e => ⟨rfl, (List.cons.inj e).2⟩
  | [], _, d :: ds, _, _, _, e => by injection e with e _; cases e
  | x :: xs, _, [], _, _, _, e => by injection e with e _; cases e
  | x :: xs, hx, d :: ds, r, r', hd, e => by
    have hd : d.canLay0 = true ∧ PyData.canLayAll0 ds = true := by simpa only [PyData.canLayAll0, Bool.and_eq_true] using hd
    have e : sgD d ++ (tlG ds ++ r) = sgD x ++ (tlG xs ++ r') := by
      simp only [tlG, List.cons_append, List.append_assoc] at e
      injection e with _ e
      injection e
    obtain ⟨rfl, e8⟩ := (hx x (.head _)).h d _ _ hd.1 (tmTl _ _) (tmTl _ _) e
    obtain ⟨rfl, e9⟩ := pf_tl (fun y hy => hx y (.tail _ hy)) hd.2 e8
    exact ⟨rfl, e9⟩
theorem pf_tuple {xs : List PyData} (hx : ∀ x ∈ xs, Pf x) : Pf (.tuple xs) := ⟨⟨40, _, sg_tuple xs, by decide⟩, fun d r r' hd hr hr' e => by
  obtain ⟨c, t, e1, _, _, h3⟩ := sg_head d hd
  rw [sg_tuple, e1] at e
  obtain ⟨ds, rfl⟩ := h3 (by injection e)
  rw [sg_tuple] at e1
  injection e1 with _ e1
  have e : bdG ds ++ r = bdG xs ++ r' := by
    rw [e1]
    injection e
  clear e1
  have hd : PyData.canLayAll0 ds = true := by simpa only [PyData.canLay0] using hd
  have nh : ∀ (d : PyData) (R : List Nat), d.canLay0 = true → ∃ c t, sgD d ++ R = c :: t ∧ c ≠ 41 := fun d R h => by
    obtain ⟨c, t, e, hc, _⟩ := sg_head d h
    exact ⟨c, t ++ R, by rw [e]; rfl, hc⟩
  have bd : ∀ (d : PyData) (ds : List PyData) (r : List Nat), ∃ R, bdG (d :: ds) ++ r = sgD d ++ R ∧ Tm R ∧ ((ds = [] ∧ R = 44 :: 41 :: r) ∨ (∃ t, ds ≠ [] ∧ R = 44 :: 32 :: t) ∧ R = tlG ds ++ r) := fun d ds r => by
    cases ds with
    | nil => exact ⟨_, by simp only [bdG, List.append_assoc]; rfl, tm_c rfl, .inl ⟨rfl, rfl⟩⟩
    | cons e ds => exact ⟨_, by simp only [bdG, List.append_assoc], tmTl _ _, .inr ⟨⟨_, by simp, rfl⟩, rfl⟩⟩
  have cl : ∀ (d : PyData) (ds : List PyData), PyData.canLayAll0 (d :: ds) = true → d.canLay0 = true ∧ PyData.canLayAll0 ds = true := fun d ds h => by simpa only [PyData.canLayAll0, Bool.and_eq_true] using h
  cases xs with
  | nil =>
    cases ds with
    | nil => exact ⟨rfl, (List.cons.inj e).2⟩
    | cons d ds =>
      obtain ⟨R, eR, _⟩ := bd d ds r
      rw [eR] at e
      obtain ⟨c, t, e2, hc⟩ := nh d R (cl d ds hd).1
      rw [e2] at e
      injection e with e _
      exact absurd e hc
  | cons x xs =>
    cases ds with
    | nil =>
      obtain ⟨R, eR, _⟩ := bd x xs r'
      rw [eR] at e
      have hx := (hx x (.head _)).z
      obtain ⟨c, t, e2, hc⟩ := hx
      rw [e2] at e
      injection e with e _
      exact absurd e.symm hc
    | cons d ds =>
      obtain ⟨R, eR, tR, hR⟩ := bd d ds r
      obtain ⟨R', eR', tR', hR'⟩ := bd x xs r'
      rw [eR, eR'] at e
      obtain ⟨rfl, rfl⟩ := (hx x (.head _)).h d _ _ (cl d ds hd).1 tR tR' e
      rcases hR with ⟨rfl, e1⟩ | ⟨⟨t, hne, e1⟩, e2⟩
      · rcases hR' with ⟨rfl, e2⟩ | ⟨⟨t', _, e2⟩, _⟩
        · rw [e1] at e2
          injection e2 with _ e2
          injection e2 with _ e2
          exact ⟨rfl, e2⟩
        · rw [e1] at e2
          injection e2 with _ e2
          injection e2 with e2 _
          cases e2
      · rcases hR' with ⟨rfl, e3⟩ | ⟨_, e3⟩
        · rw [e1] at e3
          injection e3 with _ e3
          injection e3 with e3 _
          cases e3
        · rw [e2] at e3
          obtain ⟨rfl, e9⟩ := pf_tl (fun y hy => hx y (.tail _ hy)) (cl d ds hd).2 e3
          exact ⟨rfl, e9⟩⟩
theorem pf_iT (ns : List Int) : Pf (iT ns) := pf_tuple fun x hx => by
  obtain ⟨i, _, rfl⟩ := List.mem_map.mp hx
  exact pf_int i
theorem sd_shown (t : Sd) {d : PyData} (hd : d.canLay0 = true) (h : d.shown = t.d.shown) : d = t.d := by
  have hp : Pf t.d := pf_tuple fun x hx => by
    simp only [List.mem_cons, List.not_mem_nil, or_false] at hx
    rcases hx with rfl | rfl | rfl
    · exact pf_iT _
    · exact pf_iT _
    · exact pf_int _
  refine (hp.h d [] [] hd (fun c hc => by cases hc) (fun c hc => by cases hc) ?_).1
  unfold sgD
  rw [h]
def evP (t : Sd) : PyData × PyData := (.str t.d.shown, .bool true)
/-- the dict of all shown stands -/
def evD (L : List Sd) : PyData := .dict (dAllS [] (L.map evP))
theorem pairs_ev : ∀ L : List Sd, pairsS (L.map fun t => .tuple [.str t.d.shown, .bool true]) = some (L.map evP)
  | [] => rfl
  | t :: L => by
    have ih := pairs_ev L
    show (pairsS _).map _ = _
    rw [ih]
    rfl
theorem oDictS_ev {L : List Sd} (h : L ≠ []) : oDictS [.list (L.map fun t => .tuple [.str t.d.shown, .bool true])] = some (evD L) := by
  unfold oDictS
  dsimp only
  rw [if_pos (by simpa using h), pairs_ev]
  rfl
theorem ev_has : ∀ (L : List Sd) (kvs : List (PyData × PyData)) (k : Key), (dGetS (dAllS kvs (L.map evP)) k).isSome = ((dGetS kvs k).isSome || L.any fun t => decide (scK (evP t).1 = some k))
  | [], kvs, k => by simp [dAllS]
  | t :: L, kvs, k => by
    rw [List.map_cons, dAllS]
    show (dGetS (dAllS (dPutS kvs (evP t).1 (evP t).2 (.inr t.d.shown)) _) k).isSome = _
    rw [ev_has L, List.any_cons, ← Bool.or_assoc]
    congr 1
    have hs : ∀ (kvs : List (PyData × PyData)), (dGetS kvs k).isSome = kvs.any fun p => decide (scK p.1 = some k) := fun kvs => by
      unfold dGetS
      rw [Option.isSome_map]
      induction kvs with
      | nil => rfl
      | cons p ps ih =>
        rw [List.find?_cons, List.any_cons]
        cases decide (scK p.1 = some k) with
        | true => rfl
        | false => rw [Bool.false_or]; exact ih
    rw [hs, hs]
    unfold dPutS
    have e1 : scK (evP t).1 = some (.inr t.d.shown) := rfl
    by_cases h : (kvs.any fun p => decide (scK p.1 = some (.inr t.d.shown))) = true
    · rw [if_pos h, List.any_map]
      have e2 : ((fun p : PyData × PyData => decide (scK p.1 = some k)) ∘ fun p => if scK p.1 = some (.inr t.d.shown) then (p.1, (evP t).2) else p) = fun p => decide (scK p.1 = some k) := by
        funext p
        show decide (scK (if scK p.1 = some (.inr t.d.shown) then (p.1, (evP t).2) else p).1 = some k) = _
        split <;> rfl
      rw [e2, e1]
      by_cases hk : k = .inr t.d.shown
      · rw [hk, h]; rfl
      · rw [decide_eq_false (fun e => hk (Option.some.inj e).symm), Bool.or_false]
    · rw [if_neg h, List.any_append]
      simp
theorem ev_sc : ∀ (L : List Sd) (kvs : List (PyData × PyData)), (kvs.any fun p => (scK p.1).isSome) = true ∨ L ≠ [] → ((dAllS kvs (L.map evP)).any fun p => (scK p.1).isSome) = true
  | [], kvs, h => h.elim id fun h => absurd rfl h
  | t :: L, kvs, _ => by
    rw [List.map_cons, dAllS]
    refine ev_sc L _ (.inl ?_)
    show ((dPutS kvs (evP t).1 (evP t).2 (.inr t.d.shown)).any _) = true
    unfold dPutS
    split
    · rename_i h
      obtain ⟨p, hp, e⟩ := List.any_eq_true.mp h
      refine List.any_eq_true.mpr ⟨_, List.mem_map.mpr ⟨p, hp, rfl⟩, ?_⟩
      rw [if_pos (of_decide_eq_true e)]
      show (scK p.1).isSome = true
      rw [of_decide_eq_true e]
      rfl
    · rw [List.any_append]
      simp [evP, scK]
theorem bv_ev {S : Type} {s : S} {Q : Val → S → Prop} {w : Wh} {most : Int} (hw : GoodWh most w) {d : PyData} (hd : d.canLay0 = true) (q : Q (.d (.bool (!(sdR w d).isSome))) s) : BV opNotInS (.d (.str d.shown)) (.d (evD (standsL w))) s Q :=
  bv (by
    have hne : standsL w ≠ [] := fun e => by
      obtain ⟨t, ht⟩ := List.exists_mem_of_ne_nil (startsL w) (List.length_pos_iff.mp (starts_ne w hw).1)
      have := start_stand hw ht
      rw [e] at this
      cases this
    show (if ((dAllS [] ((standsL w).map evP)).any fun p => (scK p.1).isSome) = true then some (PyData.bool (!(dGetS (dAllS [] ((standsL w).map evP)) (.inr d.shown)).isSome)) else none) = _
    rw [if_pos (ev_sc _ _ (.inr hne)), ev_has]
    have e : ((dGetS ([] : List (PyData × PyData)) (.inr d.shown)).isSome || (standsL w).any fun t => decide (scK (evP t).1 = some (.inr d.shown))) = (sdR w d).isSome := by
      show (false || _) = _
      rw [Bool.false_or]
      cases es : sdR w d with
      | some t =>
        obtain ⟨rfl, hst⟩ := sdR_some es
        exact List.any_eq_true.mpr ⟨t, hst.mem hw, decide_eq_true rfl⟩
      | none =>
        refine List.any_eq_false.mpr fun t ht h => ?_
        have h : some (Sum.inr t.d.shown : Key) = some (.inr d.shown) := of_decide_eq_true h
        injection h with h
        injection h with h
        have := sd_shown t hd h.symm
        rw [this, sdR_d (isSd_of hw ht)] at es
        cases es
    rw [e]) q
theorem lfault_ok {w : Wh} {most : Int} (hw : GoodWh most w) (hm : most ≤ 2000) {r : List Ln} (hr : GoodRu 5 2 r) (v : PyData) {k b : Nat} (hv : Sm k b v) (hk : k ≤ 60) (hd : ∀ ds, v = .tuple ds → ds.length ≤ 1000000 ∧ ∀ d ∈ ds, ∃ k b, Sm k b d ∧ b ≤ 1000 ∧ k ≤ 60) (s : Dk) :
    W (m__law_fault [.d w.d, .d (ruD r), .d (evD (standsL w)), .d v] s) fun y s' => s' = s ∧ y = .d (faultD (ldgF w r v)) := by
  have sz := sizeLine_big
  have hzl := hw.zl
  have hst := starts_ne w hw
  unfold m__law_fault b__law_fault
  repeat wtm_at "z"
  refine w_isi ?_
  repeat wtm_at "z"
  refine uv_isi hv.lay ?_
  repeat wtm_at "z"
  cases ht : isT "tuple" v with
  | false =>
    simp only [Bool.not_false]
    repeat wtm_at "z"
    refine ⟨rfl, ?_⟩
    cases v with
    | tuple ds => cases ht
    | _ => rfl
  | true =>
    obtain ⟨ds, rfl⟩ := isT_tuple ht
    simp only [Bool.not_true]
    obtain ⟨hl, hd⟩ := hd ds rfl
    have hE : ldgF w r (.tuple ds) = ldgE w r ds := rfl
    rw [hE]
    unfold ldgE
    repeat wtm_at "z"
    refine ⟨_, rfl, ?_⟩
    refine for_inv (fun n ρ s' => s' = s ∧ ∃ (acc : List Sd) (x4 x5 x6 x7 : Sl), acc.length = n ∧ ldGo w r [] ds = ldGo w r acc (ds.drop n) ∧ ds.take n = acc.map Sd.d ∧ (∀ t ∈ acc, IsSd w t ∧ deedR w t r ≠ none) ∧ acc.Pairwise (fun t u => sdLt t u = true) ∧ ρ = [.v (.d w.d), .v (.d (ruD r)), .v (.d (evD (standsL w))), .v (.d (.tuple ds)), x4, x5, x6, x7]) _ 0 ⟨rfl, [], _, _, _, _, rfl, rfl, by simp, fun p h => (by cases h), .nil, rfl⟩ ?_ ?_
    · rintro n x hx ρ s' ⟨rfl, acc, x4, x5, x6, x7, hn, hg, htk, ha, hp, rfl⟩
      rw [Nat.zero_add] at hn hg htk ⊢
      obtain ⟨d, hxd, rfl, hlt⟩ := enu_at hx
      obtain ⟨kk, bb, hsm, hb, hkk⟩ := hd d (List.mem_of_getElem? hxd)
      have hdr : ds.drop n = d :: ds.drop (n + 1) := by
        obtain ⟨h1, h2⟩ := List.getElem?_eq_some_iff.mp hxd
        rw [List.drop_eq_getElem_cons h1, h2]
      rw [hdr, ldGo] at hg
      refine ⟨_, rfl, ?_⟩
      simp only [List.set_cons_succ, List.set_cons_zero]
      repeat wtm_at "z"
      refine cv_repr' hsm ?_ hkk
      repeat wtm_at "z"
      refine bv_ev hw hsm.lay ?_
      repeat wtm_at "z"
      cases es : sdR w d with
      | none =>
        rw [es] at hg
        simp only [Option.isSome_none, Bool.not_false]
        repeat wtm_at "z"
        refine ⟨rfl, ?_⟩
        rw [hg, ← hn]
        rfl
      | some t =>
        rw [es] at hg
        dsimp only at hg
        obtain ⟨rfl, hst⟩ := sdR_some es
        have hgd := hst.good
        obtain ⟨h0, h1', hl1, hl2⟩ := hgd.ne hw
        simp only [Option.isSome_some, Bool.not_true]
        repeat wtm_at "z"
        refine br_joinA (fun b s2 => s2 = s' ∧ b = !abvB acc t) (fun hc => ?_) (fun hc => ?_) ?_
        · have hc : (0 : Int) < (n : Int) := of_decide_eq_true hc
          rcases List.eq_nil_or_concat acc with rfl | ⟨us, u, rfl⟩
          · simp at hn; omega
          · rw [List.concat_eq_append] at *
            have hul : n = us.length + 1 := by rw [← hn]; simp
            have e1 : (n : Int) - 1 = (us.length : Nat) := by omega
            have a1 : L2.atI ds ((us.length : Nat) : Int) = some u.d := by
              rw [DL.atI_nat]
              have h2 : (ds.take n)[us.length]? = ds[us.length]? := by rw [List.getElem?_take, if_pos (by omega)]
              rw [← h2, htk, List.map_append, List.getElem?_append_right (by simp)]
              simp
            repeat wtm_at "z"
            rw [e1]
            refine bv (op := opIx) (r := u.d) a1 ?_
            repeat wtm_at "z"
            refine bv (sd_ord hw (ha u (by simp)).1.good hgd) ?_
            repeat wtm_at "z"
            refine ⟨rfl, ?_⟩
            unfold abvB
            rw [List.getLast?_concat]
        · have hc : ¬ (0 : Int) < (n : Int) := of_decide_eq_false hc
          have : acc = [] := List.length_eq_zero_iff.mp (by omega)
          subst this
          exact ⟨rfl, rfl⟩
        rintro b1 s1 ⟨rfl, rfl⟩
        cases eb : abvB acc t with
        | false =>
          rw [if_pos eb] at hg
          simp only [Bool.not_false]
          repeat wtm_at "z"
          refine ⟨rfl, ?_⟩
          rw [hg, ← hn]
          rfl
        | true =>
          rw [if_neg (by rw [eb]; decide)] at hg
          simp only [Bool.not_true]
          repeat wtm_at "z"
          refine w_of (ldeed_eq w r t hw hgd (fun l hl => ⟨by have := (hr.ts l hl).1; omega, fun c hc => ⟨((hr.ts l hl).2 c hc).w, whats_sm ((hr.ts l hl).2 c hc).w⟩⟩) _) ?_
          have hp2 := abv_all hp eb
          cases ed : deedR w t r with
          | none =>
            rw [if_pos ed] at hg
            repeat wtm_at "z"
            refine bv (op := opIs) (r := .bool true) rfl ?_
            repeat wtm_at "z"
            refine ⟨rfl, ?_⟩
            rw [hg, ← hn]
            rfl
          | some b =>
            rw [if_neg (by rw [ed]; simp)] at hg
            repeat wtm_at "z"
            refine bv (op := opIs) (r := .bool false) (by cases b <;> rfl) ?_
            repeat wtm_at "z"
            refine ⟨rfl, acc ++ [t], _, _, _, _, by simp; omega, hg, ?_, fun q hq => ?_, hp2, rfl⟩
            · rw [List.take_succ, htk, hxd, List.map_append]
              rfl
            · rcases List.mem_append.mp hq with hq | hq
              · exact ha q hq
              · rw [List.mem_singleton.mp hq]; exact ⟨hst, by rw [ed]; simp⟩
    · rintro ρ s' ⟨rfl, L, x4, x5, x6, x7, hn, hg, htk, ha, hp, rfl⟩
      rw [enu_len, Nat.zero_add] at hg hn htk
      rw [List.drop_length, ldGo] at hg
      rw [List.take_length] at htk
      subst htk
      rw [hg]
      dsimp only
      have hLg : ∀ u ∈ L, GoodSd w u := fun u hu => (ha u hu).1.good
      have smL := sm_sdT hw hLg
      repeat wtm_at "z"
      refine ⟨_, rfl, ?_⟩
      refine for_inv (fun n ρ s'' => s'' = s' ∧ opGo w r L 0 L = opGo w r L n (L.drop n) ∧ ∃ x4 x5 x6 x7, ρ = [.v (.d w.d), .v (.d (ruD r)), .v (.d (evD (standsL w))), .v (.d (.tuple (L.map Sd.d))), x4, x5, x6, x7]) _ 0 ⟨rfl, rfl, _, _, _, _, rfl⟩ ?_ ?_
      · rintro n x hx ρ s' ⟨rfl, hgo, x4, x5, x6, x7, rfl⟩
        obtain ⟨d, hxd, rfl, hlt⟩ := enu_at hx
        rw [List.getElem?_map] at hxd
        obtain ⟨t, ht, rfl⟩ := Option.map_eq_some_iff.mp hxd
        have htm := List.mem_of_getElem? ht
        obtain ⟨hsd, hde⟩ := ha t htm
        have hgd := hsd.good
        obtain ⟨h0, h1', hl1, hl2⟩ := hgd.ne hw
        have hdr : L.drop n = t :: L.drop (n + 1) := by
          obtain ⟨h1, h2⟩ := List.getElem?_eq_some_iff.mp ht
          rw [List.drop_eq_getElem_cons h1, h2]
        rw [Nat.zero_add, hdr, opGo] at hgo
        refine ⟨_, rfl, ?_⟩
        simp only [List.set_cons_succ, List.set_cons_zero]
        repeat wtm_at "z"
        refine w_of (ldeed_eq w r t hw hgd (fun l hl => ⟨by have := (hr.ts l hl).1; omega, fun c hc => ⟨((hr.ts l hl).2 c hc).w, whats_sm ((hr.ts l hl).2 c hc).w⟩⟩) _) ?_
        cases ed : deedR w t r with
        | none => exact absurd ed hde
        | some b =>
          repeat wtm_at "z"
          refine w_of (behind_eq w t b hw.small (by omega) (by omega) (by omega) h0 h1' _) ?_
          rw [deed_behind hw hgd ed]
          have hcb : clsdB w r L t = (allL w t b).all fun u => decide (u ∈ L) := by unfold clsdB; rw [ed]
          have hgu : ∀ u ∈ allL w t b, GoodSd w u := fun u hu => behind_good w t b hw hgd u (by rw [deed_behind hw hgd ed]; exact hu)
          repeat wtm_at "z"
          refine for_inv (fun j ρ s'' => s'' = s' ∧ (∀ u ∈ (allL w t b).take j, u ∈ L) ∧ ∃ x5 x6 x7, ρ = [.v (.d w.d), .v (.d (ruD r)), .v (.d (evD (standsL w))), .v (.d (.tuple (L.map Sd.d))), .v (.d (.int (n : Nat))), x5, x6, x7]) _ 0 ⟨rfl, fun u hu => by simp at hu, _, _, _, rfl⟩ ?_ ?_
          · rintro j x hx ρ s2 ⟨rfl, hin, x5, x6, x7, rfl⟩
            rw [List.getElem?_map] at hx
            obtain ⟨u, hu, rfl⟩ := Option.map_eq_some_iff.mp hx
            rw [Nat.zero_add] at *
            refine ⟨_, rfl, ?_⟩
            simp only [List.set_cons_succ, List.set_cons_zero]
            repeat wtm_at "z"
            refine bv_notInSd (.inr rfl) (sm_sd hw (hgu u (List.mem_of_getElem? hu))) smL ?_
            repeat wtm_at "z"
            refine br_ndec (fun h => ?_) fun h => ?_
            · have : clsdB w r L t = false := by
                rw [hcb]
                exact List.all_eq_false.mpr ⟨u, List.mem_of_getElem? hu, by simpa using h⟩
              rw [if_pos this] at hgo
              repeat wtm_at "z"
              rw [hgo]
              exact ⟨rfl, rfl⟩
            · repeat wtm_at "z"
              refine ⟨rfl, fun z hz => ?_, _, _, _, rfl⟩
              rw [List.take_succ, hu] at hz
              rcases List.mem_append.mp hz with hz | hz
              · exact hin z hz
              · rw [List.mem_singleton.mp (show z ∈ [u] from hz)]; exact h
          · rintro ρ s2 ⟨rfl, hin, x5, x6, x7, rfl⟩
            rw [List.length_map, Nat.zero_add, List.take_length] at hin
            have : clsdB w r L t = true := by
              rw [hcb]
              exact List.all_eq_true.mpr fun u hu => decide_eq_true (hin u hu)
            rw [if_neg (by rw [this]; decide)] at hgo
            exact ⟨rfl, by rw [Nat.zero_add]; exact hgo, _, _, _, _, rfl⟩
      · rintro ρ s' ⟨rfl, hgo, x4, x5, x6, x7, rfl⟩
        rw [enu_len, Nat.zero_add, List.length_map, List.drop_length, opGo] at hgo
        rw [hgo]
        dsimp only
        repeat wtm_at "z"
        refine w_of (lstarts_eq w hw _) ?_
        repeat wtm_at "z"
        refine ⟨by rw [List.length_map]; omega, ?_⟩
        refine lc_someOf Sd.d (fun u => !decide (u ∈ L)) Sd.d (startsL w) (fun u hu => item rfl ?_) ?_
        · repeat wtm_at "z"
          refine bv_notInSd (.inr rfl) (sm_sd hw (starts_good w hw u hu)) smL ?_
          repeat wtm_at "z"
          refine br (fun hc => ?_) fun hc => ?_
          · repeat wtm_at "z"
            refine ⟨_, rfl, ?_, rfl⟩
            rw [if_pos hc]
          · refine ⟨?_, rfl⟩
            rw [hc]
            rfl
        repeat wtm_at "z"
        refine bv_eqNil (.inl rfl) (sm_sdL hw fun u hu => starts_good w hw u (List.mem_filter.mp hu).1) ?_
        repeat wtm_at "z"
        rw [List.isEmpty_map]
        cases ec : (startsL w).all fun u => decide (u ∈ L) with
        | true =>
          have : ((startsL w).filter fun u => !decide (u ∈ L)).isEmpty = true := List.isEmpty_iff.mpr (List.filter_eq_nil_iff.mpr fun u hu => by
            have := List.all_eq_true.mp ec u hu
            rw [this]; decide)
          rw [this]
          repeat wtm_at "z"
          rw [if_neg (by decide)]
          exact ⟨rfl, rfl⟩
        | false =>
          have : ((startsL w).filter fun u => !decide (u ∈ L)).isEmpty = false := by
            obtain ⟨u, hu, h⟩ := List.all_eq_false.mp ec
            cases e : ((startsL w).filter fun u => !decide (u ∈ L)).isEmpty with
            | false => rfl
            | true =>
              have := List.filter_eq_nil_iff.mp (List.isEmpty_iff.mp e) u hu
              rw [show decide (u ∈ L) = false by simpa using h] at this
              exact absurd rfl this
          rw [this]
          repeat wtm_at "z"
          rw [if_pos rfl]
          exact ⟨rfl, rfl⟩
theorem lstartsL_eq (w : Wh) {most : Int} (hw : GoodWh most w) (s : Dk) : l__law_starts [.d w.d] s = .ok ((startsL w).map Sd.d) s := runN_of (lstarts_eq w hw s)
theorem lled31_ok (w : Wh) {most : Int} (hw : GoodWh most w) (hm : most ≤ 2000) {r : List Ln} (hr : GoodRu 5 2 r) (s : Dk) : W (m__law_led [.d w.d, .d (ruD r)] s) fun y s' => s' = s ∧ ∃ L, AscM w r L ∧ y = .d (.tuple (L.map Sd.d)) := by
  have sz := sizeLine_big
  have hN := standsL_cnt hw
  have hzl := hw.zl
  have hst := starts_ne w hw
  unfold m__law_led b__law_led
  repeat wtm_at "z"
  refine ⟨rfl, _, _, lstartsL_eq w hw _, ?_⟩
  repeat wtm_at "z"
  refine w_while (fun m ρ s' => s' = s ∧ ∃ ks wt x4 x5, m ≤ 5 * (standsL w).length + (startsL w).length ∧ m + 5 * ks.length = 5 * (standsL w).length + wt.length ∧ MetI w r ks wt ∧ ρ = [.v (.d w.d), .v (.d (ruD r)), .m (encM Sd.d yesD (knT ks)), .l (wt.map Sd.d), x4, x5])
    (m := 5 * (standsL w).length + (startsL w).length) (by omega) ⟨rfl, [], startsL w, _, _, Nat.le_refl _, by simp, met_start, rfl⟩ ?_
  rintro m ρ s' ⟨rfl, ks, wt, x4, x5, hmb, hmm, hI, rfl⟩
  have hkl := met_len hw hI
  have hkn := knT_len ks
  repeat wtm_at "z"
  refine bv_neNil (.inl rfl) (sm_sdL hw fun t ht => standsL_mem hw t (rch_stand hw (hI.ok t (.inr ht)))) ?_
  rw [List.isEmpty_map]
  repeat wtm_at "z"
  rcases List.eq_nil_or_concat wt with rfl | ⟨wt, t, rfl⟩
  · refine br_f ?_
    have hM : Mets w r ks := ⟨hI.nod, met_end hI⟩
    have ek : (knT ks).map (·.1) = ks := knT_keys hI.nod
    repeat wtm_at "z"
    refine cv1 (op := oSortedN) (sorted_keysG hw yesD (by omega) (fun e => mets_ne hw hM (by rw [← ek, e]; rfl)) fun p hp => ?_) ?_
    · exact standsL_mem hw _ (rch_stand hw (hI.ok p.1 (.inl (by rw [← ek]; exact List.mem_map.mpr ⟨p, hp, rfl⟩))))
    rw [ek]
    repeat wtm_at "z"
    exact ⟨rfl, sortSd ks, ascM_of hM, rfl⟩
  · rw [List.concat_eq_append] at *
    have htr := hI.ok t (.inr (by simp))
    have ht := rch_stand hw htr
    have hg := standsL_mem hw t ht
    obtain ⟨h0, h1, hl, hl2⟩ := hg.ne hw
    rw [show (!(wt ++ [t]).isEmpty) = true by cases wt <;> rfl]
    refine br_t ?_
    repeat wtm_at "z"
    refine w_pop (d := t.d) rfl (by rw [List.map_append]; simp) (by decide) ?_
    simp only [List.set_cons_succ, List.set_cons_zero]
    rw [List.map_append, List.map_singleton, List.dropLast_concat]
    repeat wtm_at "z"
    refine bv_notInN sdE (ve := yesD) (knT ks) t ?_
    rw [knT_has]
    repeat wtm_at "z"
    refine br_ndec (fun hin => ?_) fun hin => ?_
    · have hkt : (ks ++ [t]).length ≤ (standsL w).length := nodup_len (List.nodup_append.mpr ⟨hI.nod, by simp, fun a h9 b hb e => hin (by rw [← List.mem_singleton.mp hb, ← e]; exact h9)⟩) fun x hx => by
        rcases List.mem_append.mp hx with hx | hx
        · exact rch_stand hw (hI.ok x (.inl hx))
        · rw [List.mem_singleton.mp hx]; exact ht
      rw [List.length_append, List.length_singleton] at hkt hmm
      repeat wtm_at "z"
      refine ⟨_, _, _, rfl, rfl, sdE.tk _, ⟨by unfold encM; rw [List.length_map]; omega, encM_all sdE _ _⟩, ?_⟩
      have ep := encM_put sdE yesD (knT ks) t ()
      have ep : dPutN (encM Sd.d yesD (knT ks)) t.d (.bool true) (sdKey t) = encM Sd.d yesD (putK (knT ks) t ()) := ep
      rw [ep, ← knT_app]
      repeat wtm_at "z"
      refine w_of (ldeed_eq w r t hw hg (fun l hl => ⟨by have := (hr.ts l hl).1; omega, fun c hc => ⟨((hr.ts l hl).2 c hc).w, whats_sm ((hr.ts l hl).2 c hc).w⟩⟩) _) ?_
      cases ed : deedR w t r with
      | none =>
        repeat wtm_at "z"
        refine bv (op := opIs) (r := .bool true) rfl ?_
        repeat wtm_at "z"
        refine ⟨_, rfl, by simp; omega, ?_⟩
        rw [List.append_nil]
        repeat wtm_at "z"
        have h9 := met_new (more := []) hI hin (fun b' e => by rw [ed] at e; cases e) (fun e => rfl)
        rw [List.append_nil] at h9
        exact ⟨5 * (standsL w).length + wt.length - 5 * (ks.length + 1), by omega, rfl, ks ++ [t], wt, _, _, by omega, by rw [List.length_append, List.length_singleton]; omega, h9, rfl⟩
      | some b =>
        repeat wtm_at "z"
        refine bv (op := opIs) (r := .bool false) (by cases b <;> rfl) ?_
        repeat wtm_at "z"
        refine w_of (behind_eq w t b hw.small (by omega) (by omega) (by omega) h0 h1 _) ?_
        rw [deed_behind hw hg ed]
        have hal : (allL w t b).length ≤ 4 := by
          unfold allL
          cases b with
          | true => rw [if_pos rfl, List.length_map]; omega
          | false => rw [if_neg (by decide)]; simp
        refine ⟨_, .inr rfl, ?_⟩
        repeat wtm_at "z"
        refine ⟨_, rfl, by rw [List.length_map, List.length_map]; omega, ?_⟩
        rw [← List.map_append]
        repeat wtm_at "z"
        exact ⟨5 * (standsL w).length + wt.length + (allL w t b).length - 5 * (ks.length + 1), by omega, rfl, ks ++ [t], wt ++ allL w t b, _, _, by omega, by rw [List.length_append, List.length_singleton, List.length_append]; omega, met_new hI hin (fun b' e => by rw [ed] at e; cases e; rfl) (fun e => by rw [ed] at e; cases e), rfl⟩
    · repeat wtm_at "z"
      rw [List.length_append, List.length_singleton] at hmm
      exact ⟨m - 1, by omega, rfl, ks, wt, _, _, by omega, by omega, met_old hI hin, rfl⟩
theorem ltold_eq {w : Wh} {most : Int} (hw : GoodWh most w) (hm : most ≤ 2000) {r : List Ln} (hr : GoodRu 5 2 r) (v : PyData) {k b : Nat} (hv : Sm k b v) (hd : ∀ ds, v = .tuple ds → ds.length ≤ 1000000 ∧ ∀ d ∈ ds, ∃ k b, Sm k b d ∧ b ≤ 1000) (s : Dk) :
    m__law_told [.d w.d, .d (ruD r), .d v] s = .ok (.d (toldD (ldgF w r v))) s := by
  refine w_eq ?_
  unfold m__law_told b__law_told
  repeat wtm_at "z"
  refine w_try ?_
  repeat wtm_at "z"
  refine ⟨⟨rfl, by simp⟩, ?_⟩
  refine is_ledger_w hw hm hr v hv hd s (fun h => ?_) fun e he => ?_
  · rw [h]
    exact ⟨rfl, rfl⟩
  · obtain ⟨x, n⟩ := e
    rw [he]
    exact ⟨_, rfl, rfl, rfl⟩
def wordsL31 : List Str := ["shape", "stand", "stuck", "open", "start"]
theorem ldGo_err {w : Wh} {r : List Ln} : ∀ (ds : List PyData) (acc : List Sd) (e : Str × Int), ldGo w r acc ds = .error e → e.1 ∈ wordsL31 ∧ 0 ≤ e.2 ∧ e.2 ≤ acc.length + ds.length
  | [], acc, e, h => by rw [ldGo] at h; cases h
  | d :: ds, acc, e, h => by
    rw [ldGo] at h
    have fin : ∀ x : Str, x ∈ wordsL31 → ((x, (acc.length : Int)) : Str × Int) = e → e.1 ∈ wordsL31 ∧ 0 ≤ e.2 ∧ e.2 ≤ acc.length + (d :: ds).length := fun x hx he => by
      rw [← he]
      exact ⟨hx, by show (0 : Int) ≤ (acc.length : Int); omega, by show (acc.length : Int) ≤ _; omega⟩
    split at h
    · injection h with h
      exact fin _ (by simp [wordsL31]) h
    · split at h
      · injection h with h
        exact fin _ (by simp [wordsL31]) h
      · split at h
        · injection h with h
          exact fin _ (by simp [wordsL31]) h
        · obtain ⟨h1, h2, h3⟩ := ldGo_err ds _ e h
          rw [List.length_append, List.length_singleton] at h3
          exact ⟨h1, h2, by rw [List.length_cons]; omega⟩
theorem ldGo_len {w : Wh} {r : List Ln} : ∀ (ds : List PyData) (acc L : List Sd), ldGo w r acc ds = .ok L → L.length = acc.length + ds.length
  | [], acc, L, h => by rw [ldGo] at h; cases h; rfl
  | d :: ds, acc, L, h => by
    rw [ldGo] at h
    split at h
    · cases h
    · split at h
      · cases h
      · split at h
        · cases h
        · rw [ldGo_len ds _ L h, List.length_append, List.length_singleton, List.length_cons]; omega
theorem opGo_bd {w : Wh} {r : List Ln} {L : List Sd} : ∀ (ts : List Sd) (n m : Nat), opGo w r L n ts = some m → m < n + ts.length
  | [], n, m, h => by cases h
  | t :: ts, n, m, h => by
    rw [opGo] at h
    rw [List.length_cons]
    split at h
    · cases h; omega
    · have := opGo_bd ts _ m h; omega
theorem ldgF_bd {w : Wh} {r : List Ln} {v : PyData} (hv : ∀ ds, v = .tuple ds → ds.length ≤ 1000000) {e : Str × Int} (h : ldgF w r v = some e) : e.1 ∈ wordsL31 ∧ -1 ≤ e.2 ∧ e.2 ≤ 1000000 := by
  cases v with
  | tuple ds =>
    have hl := hv ds rfl
    have h : ldgE w r ds = some e := h
    unfold ldgE at h
    split at h
    · rename_i e' he
      cases h
      obtain ⟨h1, h2, h3⟩ := ldGo_err ds [] e he
      simp at h3
      exact ⟨h1, by omega, by omega⟩
    · rename_i L he
      have hL := ldGo_len ds [] L he
      simp at hL
      split at h
      · rename_i n hn
        have := opGo_bd L 0 n hn
        cases h
        exact ⟨by simp [wordsL31], by show (-1 : Int) ≤ (n : Int); omega, by show (n : Int) ≤ _; omega⟩
      · split at h
        · cases h
          exact ⟨by simp [wordsL31], by decide, by decide⟩
        · cases h
  | _ =>
    cases h
    exact ⟨by simp [wordsL31], by decide, by decide⟩
theorem sm_w31 {x : Str} (h : x ∈ wordsL31) : Sm 0 5 (.str x) := by
  simp only [wordsL31, List.mem_cons, List.not_mem_nil, or_false] at h
  rcases h with rfl | rfl | rfl | rfl | rfl
  all_goals exact (sm_str (ok_lit _).cp).le (Nat.le_refl _) (by decide +kernel)
theorem sm_told31 {w : Wh} {r : List Ln} {v : PyData} (hv : ∀ ds, v = .tuple ds → ds.length ≤ 1000000) : Sm 1 20 (toldD (ldgF w r v)) := by
  cases h : ldgF w r v with
  | none => exact sm_bool.le (Nat.zero_le _) (Nat.zero_le _)
  | some e =>
    obtain ⟨x, n⟩ := e
    obtain ⟨h1, h2, h3⟩ := ldgF_bd hv h
    exact (sm_tuple (sl_cons (sm_w31 h1) (sl_cons ((sm_int (by omega)).le (Nat.le_refl _) (Nat.zero_le 0)) sl_nil))).le (Nat.le_refl _) (by decide)
/-- what is no tuple, bent -/
theorem bent_non {a : Addr} {M : Nat} (hM : 10 ^ 40 ≤ M) (hM2 : M < 10 ^ 57) (i : Nat) {d : PyData} {deep : Int} {k b : Nat} {s : Dk} {n : Int} {Q : Val → Dk → Prop} (hd : Fit M k b d) (hnt : isT "tuple" d = false) (h0 : 0 ≤ deep) (h1 : deep < (i : Int) + 1) (hi : i + 1 ≤ 100) (hs : Dks a n s) (hn : n + 4 * ((i : Int) + 1) < 800000000)
    (q : ∀ d' s', (Fit (10 ^ 40) 2 20 d' ∨ ∃ z : Int, d' = .int z ∧ z.natAbs ≤ M + 2) → Dks a (n + 4 * ((i : Int) + 1)) s' → Q (.d d') s') : W (r__law_bent (i + 1) [.r (.ref a), .d d, .d (.int deep)] s) Q := by
  show W (runF 2 (b__law_bent (r__law_bent i)) [.r (.ref a), .d d, .d (.int deep)] s) Q
  unfold b__law_bent
  refine w_run ?_
  dsimp only [List.map, List.replicate, List.append, HAppend.hAppend, Append.append]
  refine w_sq ?_
  refine w_if ?_
  refine w_then (P := fun c s' => Dks a (n + 1) s' ∧ c = true) ?_ ?_
  · repeat wtm_at "z"
    refine w_isi ?_
    repeat wtm_at "z"
    refine uv_isi hd.lay ?_
    repeat wtm_at "z"
    rw [hnt]
    refine br_t ?_
    exact ⟨hs.le (by omega), rfl⟩
  · rintro c s1 ⟨hs1, rfl⟩
    repeat wtm_at "z"
    refine w_isi ?_
    repeat wtm_at "z"
    refine uv_isi hd.lay ?_
    repeat wtm_at "z"
    refine br (fun e1 => ?_) fun e1 => ?_
    · repeat wtm_at "z"
      refine w_isi ?_
      repeat wtm_at "z"
      refine uv_isi hd.lay ?_
      repeat wtm_at "z"
      refine br (fun e2 => ?_) fun e2 => ?_
      · have e2 : isT "bool" d = false := by simpa using e2
        have e3 : ∃ z, d = .int z := by
          rcases isT_int e1 with ⟨z, rfl⟩ | ⟨z, rfl⟩
          · exact ⟨z, rfl⟩
          · simp [isT, tyD] at e2
        obtain ⟨z, rfl⟩ := e3
        have hz : z.natAbs ≤ M := of_decide_eq_true (by simpa only [intsB] using hd.ib)
        repeat wtm_at "z"
        refine draw_a hs1 (by omega) (by omega) fun r s2 r0 r1 hs2 => ?_
        repeat wtm_at "z"
        refine br_dec (fun e3 => ?_) fun e3 => ?_
        · repeat wtm_at "z"
          refine one_n [1, -1, 2, 0 - z] hs2 (by omega) (by simp) fun y s3 hy hs3 => ?_
          repeat wtm_at "z"
          refine q _ _ (.inr ⟨_, rfl, ?_⟩) (hs3.le (by omega))
          simp only [List.mem_cons, List.not_mem_nil, or_false] at hy
          rcases hy with rfl | rfl | rfl | rfl <;> omega
        · repeat wtm_at "z"
          refine odd_ok hs2 (by omega) fun y s3 hy hs3 => ?_
          repeat wtm_at "z"
          exact q _ _ (.inl hy) (hs3.le (by omega))
      · repeat wtm_at "z"
        refine odd_ok hs1 (by omega) fun y s3 hy hs3 => ?_
        repeat wtm_at "z"
        exact q _ _ (.inl hy) (hs3.le (by omega))
    · repeat wtm_at "z"
      refine odd_ok hs1 (by omega) fun y s3 hy hs3 => ?_
      repeat wtm_at "z"
      exact q _ _ (.inl hy) (hs3.le (by omega))
def bN : Nat → Nat
  | 0 => 6000
  | j + 1 => 2 * bN j + 20
def cN : Nat → Nat
  | 0 => 20
  | j + 1 => 2 * cN j + 20
/-- what is asked about, bent j times -/
structure ThN (j : Nat) (d : PyData) : Prop where
  fit : Fit (10 ^ 40 + 2 * j) (4 + 2 * j) (bN j) d
  it : ∀ ds, d = .tuple ds → ∀ e ∈ ds, Fit (10 ^ 40 + 2 * j) (3 + 2 * j) (cN j) e
theorem bN_ge : ∀ j, 6000 ≤ bN j
  | 0 => Nat.le_refl _
  | j + 1 => by have := bN_ge j; show 6000 ≤ 2 * bN j + 20; omega
theorem cN_ge : ∀ j, 20 ≤ cN j
  | 0 => Nat.le_refl _
  | j + 1 => by have := cN_ge j; show 20 ≤ 2 * cN j + 20; omega
theorem thN_odd {j : Nat} {d : PyData} (h : Fit (10 ^ 40) 2 20 d) : ThN j d := ⟨h.le (Nat.le_add_right _ _) (by omega) (by have := bN_ge j; omega), fun ds e x hx => by
  subst e
  obtain ⟨i, hi, hf⟩ := h.tup
  exact (hf.mem x hx).le (Nat.le_add_right _ _) (by omega) (cN_ge j)⟩
theorem ThN.up {j : Nat} {d : PyData} (h : ThN j d) : ThN (j + 1) d := ⟨h.fit.le (by omega) (by omega) (by show bN j ≤ 2 * bN j + 20; omega), fun ds e x hx => (h.it ds e x hx).le (by omega) (by omega) (by show cN j ≤ 2 * cN j + 20; omega)⟩
theorem ThN.le {j k : Nat} {d : PyData} (h : ThN j d) (hk : j ≤ k) : ThN k d := by
  induction hk with
  | refl => exact h
  | step _ ih => exact ih.up
theorem bent_th {a : Addr} {j : Nat} (hj : j ≤ 2) (i : Nat) {d : PyData} (h : ThN j d) {deep : Int} {s : Dk} {n : Int} {Q : Val → Dk → Prop} (h0 : 0 ≤ deep) (h1 : deep < (i : Int) + 1) (hi : i + 1 ≤ 100) (hs : Dks a n s) (hn : n + 4 * ((i : Int) + 1) < 800000000)
    (q : ∀ d' s', ThN (j + 1) d' → Dks a (n + 4 * ((i : Int) + 1)) s' → Q (.d d') s') : W (r__law_bent (i + 1) [.r (.ref a), .d d, .d (.int deep)] s) Q := by
  have hM2 : 10 ^ 40 + 2 * j < 10 ^ 57 := Nat.lt_of_le_of_lt (Nat.add_le_add_left (by omega : 2 * j ≤ 4) _) (by decide +kernel)
  have hM : 10 ^ 40 ≤ 10 ^ 40 + 2 * j := Nat.le_add_right _ _
  have hb : bN j ≤ 100000 := by
    have : j = 0 ∨ j = 1 ∨ j = 2 := by omega
    rcases this with rfl | rfl | rfl <;> decide
  cases ht : isT "tuple" d with
  | true =>
    obtain ⟨ds, rfl⟩ := isT_tuple ht
    refine bent_top hM hM2 i h.fit (h.it ds rfl) (by omega) (by omega) h0 h1 hi hb hs hn fun d' s' hd1 hd2 hs' => ?_
    exact q d' s' ⟨hd1, hd2⟩ hs'
  | false =>
    refine bent_non hM hM2 i h.fit ht h0 h1 hi hs hn fun d' s' hd' hs' => ?_
    rcases hd' with hd' | ⟨z, rfl, hz⟩
    · exact q d' s' (thN_odd hd') hs'
    · exact q _ s' ⟨fit_int hz, fun ds e => by cases e⟩ hs'
theorem fit_sd {w : Wh} {most : Int} (hw : GoodWh most w) {t : Sd} (h : GoodSd w t) : Fit 100 2 15 t.d := by
  have ho := okT_good hw h
  have h1 := ho.l0
  have h2 := ho.n0
  have h3 := ho.wt
  have f1 : Fit 100 1 6 (iT t.ls) := fit_iT (fun x hx => by have := ho.ls x hx; omega) h1.2
  have f2 : Fit 100 1 3 (iT t.ln) := fit_iT (fun x hx => by have := ho.ln x hx; omega) h2.2
  exact (fit_tuple (fl_cons f1 (fl_cons (f2.le (Nat.le_refl _) (Nat.le_refl _) (Nat.le_refl _)) (fl_cons ((fit_int (M := 100) (k := 1) (b := 0) (i := t.wt) (by omega))) (fl_nil (b := 0)))))).le (Nat.le_refl _) (Nat.le_refl _) (by decide)
theorem fit_sdv {w : Wh} {most : Int} (hw : GoodWh most w) {L : List Sd} (hL : ∀ t ∈ L, GoodSd w t) (hl : L.length ≤ 280) : FitL (10 ^ 40) 3 6000 (L.map Sd.d) := (fl_all (b := 20) _ fun d hd => by
  obtain ⟨t, ht, rfl⟩ := List.mem_map.mp hd
  exact (fit_sd hw (hL t ht)).le (by decide +kernel) (by decide) (by decide)).le (Nat.le_refl _) (Nat.le_refl _) (by rw [List.length_map]; omega)
theorem thN_sd {w : Wh} {most : Int} (hw : GoodWh most w) {L : List Sd} (hL : ∀ t ∈ L, GoodSd w t) (hl : L.length ≤ 280) : ThN 0 (.tuple (L.map Sd.d)) := ⟨fit_tuple (fit_sdv hw hL hl), fun ds e x hx => by
  injection e with e
  subst e
  obtain ⟨t, ht, rfl⟩ := List.mem_map.mp hx
  exact (fit_sd hw (hL t ht)).le (by decide +kernel) (by decide) (by decide)⟩
theorem thN_lst {w : Wh} {most : Int} (hw : GoodWh most w) {L : List Sd} (hL : ∀ t ∈ L, GoodSd w t) (hl : L.length ≤ 280) : ThN 0 (.list (L.map Sd.d)) := ⟨fit_list (fit_sdv hw hL hl), fun ds e => by cases e⟩
theorem m31 : 10 ^ 40 + 2 * 3 < 10 ^ 58 := by decide +kernel
theorem law_true : LawTrue 15 b_law := by
  intro ns p p0 ne hn
  suffices h : W (b_law (.no :: .v (.r (.ref p)) :: List.replicate 15 .no) ⟨p, p0, ns, 0, 0, 0, ne⟩) (fun fl _ => fl = .rt (.d (.bool true))) by
    obtain ⟨fl, s, e, rfl⟩ := h.ok
    exact ⟨s, e⟩
  have hs : Dks p 0 ⟨p, p0, ns, 0, 0, 0, ne⟩ := ⟨⟨Int.le_refl _, Int.le_refl _, Int.le_refl _⟩, rfl⟩
  generalize (⟨p, p0, ns, 0, 0, 0, ne⟩ : Dk) = s at *
  have sz : sizeLine = 16777216 := rfl
  simp only [List.replicate]
  unfold b_law
  repeat wtm_at "z"
  · refine for_inv (fun n ρ s => Dks p (2000 * n) s ∧ ∃ x2 x3 x4 x5 x6 x7 x8 x9 x10 x11 x12 x13 x14 x15 x16, ρ = [.no, .v (.r (.ref p)), x2, x3, x4, x5, x6, x7, x8, x9, x10, x11, x12, x13, x14, x15, x16]) (rngD 0 (4 : Int).toNat) 0 ⟨hs.le (by omega), _, _, _, _, _, _, _, _, _, _, _, _, _, _, _, rfl⟩ ?_ ?_
    · rintro n d hd ρ s ⟨hs, x2, x3, x4, x5, x6, x7, x8, x9, x10, x11, x12, x13, x14, x15, x16, rfl⟩
      obtain ⟨hn8, rfl⟩ := rng_at hd
      have hn8 : n < 4 := hn8
      refine ⟨_, rfl, ?_⟩
      simp only [List.set_cons_succ, List.set_cons_zero]
      repeat wtm_at "z"
      refine wheel_ok (by decide) hs (by omega) fun w s1 hw hs1 => ?_
      have hC := standsL_cnt hw
      have hzl := hw.zl
      have hst := starts_ne w hw
      have hSg := standsL_mem hw
      have hSne : standsL w ≠ [] := fun e => by
        obtain ⟨t, ht⟩ := List.exists_mem_of_ne_nil (startsL w) (List.length_pos_iff.mp hst.1)
        have := start_stand hw ht
        rw [e] at this
        cases this
      repeat wtm_at "z"
      refine rule_ok hs1 (by omega) fun r s2 hr hs2 => ?_
      repeat wtm_at "z"
      refine w_of (lstands_eq w hw _) ?_
      repeat wtm_at "z"
      refine ⟨by rw [List.length_map]; omega, ?_⟩
      refine lc_mapOf Sd.d (fun t => .tuple [.str t.d.shown, .bool true]) (standsL w) (fun t ht => item1 rfl ?_) ?_
      · repeat wtm_at "z"
        refine cv_repr' (sm_sd hw (hSg t ht)) ?_
        repeat wtm_at "z"
        exact ⟨_, rfl, rfl, rfl⟩
      repeat wtm_at "z"
      refine cv1 (op := oDictS) (oDictS_ev hSne) ?_
      repeat wtm_at "z"
      refine (lled31_ok w hw (by decide) hr _).mono ?_
      rintro y s3 ⟨rfl, L, hA, rfl⟩
      have hLS : ∀ t ∈ L, t ∈ standsL w := fun t ht => rch_stand hw ((hA.2 t).mp ht)
      have hLg : ∀ t ∈ L, GoodSd w t := fun t ht => hSg t (hLS t ht)
      have hLn : L.Nodup := asc_nod hA.1
      have hLl : L.length ≤ (standsL w).length := nodup_len hLn hLS
      have hLne : L ≠ [] := mets_ne hw (r := r) ⟨hLn, hA.2⟩
      have hLp : 0 < L.length := List.length_pos_iff.mpr hLne
      repeat wtm_at "z"
      refine for_inv (fun j ρ s' => s' = s3 ∧ ∃ (A : List Sd) (z7 : Sl), (∀ t ∈ A, t ∈ L) ∧ A.length ≤ j ∧ ρ = [.no, .v (.r (.ref p)), .v (.d (.int (0 + (n : Int)))), .v (.d w.d), .v (.d (ruD r)), .v (.d (.list ((standsL w).map Sd.d))), .v (.d (evD (standsL w))), z7, .v (.d (.tuple (L.map Sd.d))), .l (A.map Sd.d), x10, x11, x12, x13, x14, x15, x16]) (L.map Sd.d) 0 ⟨rfl, [], _, fun t h => (by cases h), Nat.le_refl _, rfl⟩ ?_ ?_
      · rintro j d hd ρ s' ⟨rfl, A, z7, hAL, hAl, rfl⟩
        have hj := (List.getElem?_eq_some_iff.mp hd).1
        rw [List.length_map] at hj
        rw [List.getElem?_map] at hd
        obtain ⟨t, ht, rfl⟩ := Option.map_eq_some_iff.mp hd
        have htm := List.mem_of_getElem? ht
        refine ⟨_, rfl, ?_⟩
        simp only [List.set_cons_succ, List.set_cons_zero]
        repeat wtm_at "z"
        refine w_of (ldeed_eq w r t hw (hLg t htm) (fun l hl => ⟨by have := (hr.ts l hl).1; omega, fun c hc => ⟨((hr.ts l hl).2 c hc).w, whats_sm ((hr.ts l hl).2 c hc).w⟩⟩) _) ?_
        cases ed : deedR w t r with
        | none =>
          repeat wtm_at "z"
          refine bv (op := opIsNot) (r := .bool false) rfl ?_
          repeat wtm_at "z"
          exact ⟨rfl, A, _, hAL, by omega, rfl⟩
        | some b =>
          repeat wtm_at "z"
          refine bv (op := opIsNot) (r := .bool true) (by cases b <;> rfl) ?_
          repeat wtm_at "z"
          refine ⟨_, rfl, by rw [List.length_map]; omega, ?_⟩
          repeat wtm_at "z"
          refine ⟨rfl, A ++ [t], _, fun x hx => ?_, by simp; omega, by rw [List.map_append]; rfl⟩
          rcases List.mem_append.mp hx with hx | hx
          · exact hAL x hx
          · rw [List.mem_singleton.mp hx]; exact htm
      · rintro ρ s' ⟨rfl, A, z7, hAL, hAl, rfl⟩
        rw [List.length_map, Nat.zero_add] at hAl
        repeat wtm_at "z"
        refine draw_a hs2 (by omega) (by rw [List.length_map]; omega) fun sp s4 sp0 sp1 hs4 => ?_
        repeat wtm_at "z"
        refine one_a hs4 (by omega) ⟨by rw [List.length_map]; exact List.length_pos_iff.mpr hSne, by rw [List.length_map]; omega⟩ fun d s5 hd hs5 => ?_
        obtain ⟨z, hz, rfl⟩ := List.mem_map.mp hd
        obtain ⟨M, hMn, hMm, hMl⟩ : ∃ M : List Sd, M.Nodup ∧ (∀ t, t ∈ M ↔ t ∈ L ++ [z]) ∧ M.length ≤ L.length + 1 := by
          by_cases hzL : z ∈ L
          · exact ⟨L, hLn, fun t => by simp only [List.mem_append, List.mem_singleton]; exact ⟨.inl, fun h => h.elim id fun e => e ▸ hzL⟩, by omega⟩
          · exact ⟨L ++ [z], List.nodup_append.mpr ⟨hLn, by simp, fun a ha b hb e => hzL (by rw [← List.mem_singleton.mp hb, ← e]; exact ha)⟩, fun t => Iff.rfl, by simp⟩
        have hMg : ∀ t ∈ sortSd M, GoodSd w t := fun t ht => by
          rcases List.mem_append.mp ((hMm t).mp (sortSd_mem.mp ht)) with h | h
          · exact hLg t h
          · rw [List.mem_singleton.mp h]; exact hSg z hz
        have hMl2 : (sortSd M).length ≤ 280 := by rw [(sortSd_perm M).length_eq]; omega
        repeat wtm_at "z"
        rotate_left
        · rw [List.length_map]; simp; omega
        refine ⟨_, (sortSd M).map Sd.d, rfl, ?_, ?_⟩
        · rw [show L.map Sd.d ++ [z.d] = (L ++ [z]).map Sd.d by rw [List.map_append]; rfl]
          exact setS_sd hMn (by omega) hMm
        obtain ⟨L1, eL1, mL1, lL1⟩ := cut_mapG Sd.d L none (some sp)
        obtain ⟨L2, eL2, mL2, lL2⟩ := cut_mapG Sd.d L (some (sp + 1)) none
        rw [List.length_map] at sp1
        have l1 : L1.length ≤ sp.toNat := by
          have h := congrArg List.length eL1
          rw [cut_take' _ _ sp0 (by rw [List.length_map]; omega), List.length_take, List.length_map, List.length_map] at h
          omega
        have l2 : L2.length ≤ L.length - (sp + 1).toNat := by
          have h := congrArg List.length eL2
          rw [cut_drop' _ _ (by omega) (by rw [List.length_map]; omega), List.length_drop, List.length_map, List.length_map] at h
          omega
        repeat wtm_at "z"
        rotate_left
        · rw [eL1, eL2, List.length_map, List.length_map]; omega
        rw [eL1, eL2]
        refine w_lcat ?_
        repeat wtm_at "z"
        refine uv (op := opRev) rfl ?_
        repeat wtm_at "z"
        refine odd_ok hs5 (by omega) fun od s6 hod hs6 => ?_
        repeat wtm_at "z"
        refine ⟨_, _, rfl, rfl, by simp; omega, ?_⟩
        rw [← List.map_append, ← List.map_reverse]
        have hbeg4 : ∀ d ∈ [PyData.tuple (L.map Sd.d), .tuple (A.map Sd.d), .tuple ((sortSd M).map Sd.d), .tuple ((L1 ++ L2).map Sd.d)], ThN 0 d := fun d hd => by
          simp only [List.mem_cons, List.not_mem_nil, or_false] at hd
          rcases hd with rfl | rfl | rfl | rfl
          · exact thN_sd hw hLg (by omega)
          · exact thN_sd hw (fun t ht => hLg t (hAL t ht)) (by omega)
          · exact thN_sd hw hMg hMl2
          · exact thN_sd hw (fun t ht => (List.mem_append.mp ht).elim (fun h => hLg t (mL1 t h)) fun h => hLg t (mL2 t h)) (by rw [List.length_append]; omega)
        have hbeg : ∀ d ∈ [PyData.tuple (L.map Sd.d), .tuple (A.map Sd.d), .tuple ((sortSd M).map Sd.d), .tuple ((L1 ++ L2).map Sd.d)] ++ [.tuple (L.reverse.map Sd.d), .list (L.map Sd.d), od, .tuple []], ThN 3 d := fun d hd => by
          rcases List.mem_append.mp hd with hd | hd
          · exact (hbeg4 d hd).le (by decide)
          · simp only [List.mem_cons, List.not_mem_nil, or_false] at hd
            rcases hd with rfl | rfl | rfl | rfl
            · exact (thN_sd hw (fun t ht => hLg t (List.mem_reverse.mp ht)) (by rw [List.length_reverse]; omega)).le (by decide)
            · exact (thN_lst hw hLg (by omega)).le (by decide)
            · exact thN_odd hod
            · exact (thN_sd hw (L := []) (fun x hx => by cases hx) (by simp)).le (by decide)
        generalize hb4 : [PyData.tuple (L.map Sd.d), .tuple (A.map Sd.d), .tuple ((sortSd M).map Sd.d), .tuple ((L1 ++ L2).map Sd.d)] = b4 at *
        have hl4 : b4.length = 4 := by rw [← hb4]; rfl
        generalize hb8 : b4 ++ [.tuple (L.reverse.map Sd.d), .list (L.map Sd.d), od, .tuple []] = beg at *
        have hl8 : beg.length = 8 := by rw [← hb8, List.length_append, hl4]; rfl
        have ht4 : ∀ d ∈ beg.take 4, ThN 0 d := fun d hd => by
          rw [← hb8, List.take_append_of_le_length (by omega), List.take_of_length_le (by omega)] at hd
          exact hbeg4 d hd
        clear hb4 hb8
        repeat wtm_at "z"
        · refine for_inv (fun m ρ s' => Dks p (2000 * n + 110 + 100 * m) s' ∧ ∃ (ds : List PyData) (z12 z13 z14 : Sl), (∀ d ∈ ds, ThN 3 d) ∧ (∀ d ∈ ds.take 4, ThN 0 d) ∧ ds.length = 8 + m ∧ ρ = [.no, .v (.r (.ref p)), .v (.d (.int (0 + (n : Int)))), .v (.d w.d), .v (.d (ruD r)), .v (.d (.list ((standsL w).map Sd.d))), .v (.d (evD (standsL w))), z7, .v (.d (.tuple (L.map Sd.d))), .l ds, .v (.d (.int sp)), .v (.d (.tuple ((sortSd M).map Sd.d))), z12, z13, z14, x15, x16]) (rngD 0 (4 : Int).toNat) 0 ⟨hs6.le (by omega), beg, _, _, _, hbeg, ht4, by omega, rfl⟩ ?_ ?_
          · rintro m d hd ρ s7 ⟨hs7, ds, z12, z13, z14, hds, hd4, hdl, rfl⟩
            obtain ⟨hm4, rfl⟩ := rng_at hd
            have hm4 : m < 4 := hm4
            have ec : cutL ds none (some 4) = ds.take 4 := cut_take' ds 4 (by omega) (by omega)
            have hl4' : (ds.take 4).length = 4 := by rw [List.length_take]; omega
            refine ⟨_, rfl, ?_⟩
            simp only [List.set_cons_succ, List.set_cons_zero]
            repeat wtm_at "z"
            rw [ec]
            refine one_a hs7 (by omega) (by omega) fun d0 s8 hd0 hs8 => ?_
            have hT0 := hd4 d0 hd0
            repeat wtm_at "z"
            refine draw_a hs8 (by omega) (by omega) fun q s9 q0 q1 hs9 => ?_
            repeat wtm_at "z"
            · refine for_inv (fun j ρ s' => Dks p (2000 * n + 120 + 100 * m + 30 * j) s' ∧ ∃ (d : PyData) (z14 : Sl), ThN j d ∧ ρ = [.no, .v (.r (.ref p)), .v (.d (.int (0 + (n : Int)))), .v (.d w.d), .v (.d (ruD r)), .v (.d (.list ((standsL w).map Sd.d))), .v (.d (evD (standsL w))), z7, .v (.d (.tuple (L.map Sd.d))), .l ds, .v (.d (.int sp)), .v (.d (.tuple ((sortSd M).map Sd.d))), .v (.d (.int (0 + (m : Int)))), .v (.d d), z14, x15, x16]) (rngD 0 (1 + q).toNat) 0 ⟨hs9.le (by omega), d0, _, hT0, rfl⟩ ?_ ?_
              · rintro j d hd ρ s10 ⟨hs10, d1, z14', hT1, rfl⟩
                obtain ⟨hj3, rfl⟩ := rng_at hd
                have hj3 : j < 3 := by omega
                rw [Nat.zero_add] at hs10 hT1 ⊢
                refine ⟨_, rfl, ?_⟩
                simp only [List.set_cons_succ, List.set_cons_zero]
                repeat wtm_at "z"
                refine draw_a hs10 (by omega) (by omega) fun dp s11 dp0 dp1 hs11 => ?_
                repeat wtm_at "z"
                refine bent_th (j := j) (by omega) 6 hT1 (by omega) (by omega) (by decide) hs11 (by omega) fun d' s12 hT' hs12 => ?_
                repeat wtm_at "z"
                exact ⟨hs12.le (by omega), d', _, hT', rfl⟩
              · rintro ρ s10 ⟨hs10, d1, z14', hT1, rfl⟩
                rw [rng_len, Nat.zero_add] at hs10 hT1
                have hT3 : ThN 3 d1 := hT1.le (by omega)
                repeat wtm_at "z"
                refine ⟨_, rfl, by rw [sz]; omega, ?_⟩
                repeat wtm_at "z"
                refine ⟨hs10.le (by omega), ds ++ [d1], _, _, _, fun x hx => ?_, fun x hx => ?_, by rw [List.length_append, List.length_singleton]; omega, rfl⟩
                · rcases List.mem_append.mp hx with hx | hx
                  · exact hds x hx
                  · rw [List.mem_singleton.mp hx]; exact hT3
                · rw [List.take_append_of_le_length (by omega)] at hx
                  exact hd4 x hx
            · omega
          · rintro ρ s7 ⟨hs7, ds, z12, z13, z14, hds, hd4, hdl, rfl⟩
            rw [rng_len] at hs7
            repeat wtm_at "z"
            refine for_inv (fun _ ρ s' => s' = s7 ∧ ∃ z13 z15 z16 : Sl, ρ = [.no, .v (.r (.ref p)), .v (.d (.int (0 + (n : Int)))), .v (.d w.d), .v (.d (ruD r)), .v (.d (.list ((standsL w).map Sd.d))), .v (.d (evD (standsL w))), z7, .v (.d (.tuple (L.map Sd.d))), .v (.d (.list ds)), .v (.d (.int sp)), .v (.d (.tuple ((sortSd M).map Sd.d))), z12, z13, z14, z15, z16]) ds 0 ⟨rfl, _, _, _, rfl⟩ ?_ ?_
            · rintro m d hd ρ s8 ⟨rfl, z13', z15, z16, rfl⟩
              have hT := hds d (List.mem_of_getElem? hd)
              have hsm := hT.fit.sm m31
              have hlen : ∀ es, d = .tuple es → es.length ≤ 1000000 := fun es e => by
                subst e
                have h1 := hsm.tup.2
                have h2 : bN 3 = 48140 := rfl
                omega
              have hit : ∀ es, d = .tuple es → es.length ≤ 1000000 ∧ ∀ x ∈ es, ∃ k b, Sm k b x ∧ b ≤ 1000 ∧ k ≤ 60 := fun es e => ⟨hlen es e, fun x hx => ⟨_, _, (hT.it es e x hx).sm m31, by decide, by decide⟩⟩
              have hit2 : ∀ es, d = .tuple es → es.length ≤ 1000000 ∧ ∀ x ∈ es, ∃ k b, Sm k b x ∧ b ≤ 1000 := fun es e => ⟨hlen es e, fun x hx => ⟨_, _, (hT.it es e x hx).sm m31, by decide⟩⟩
              have smt := sm_told31 (w := w) (r := r) hlen
              have hru := (fit_ru hr).sm (by decide +kernel)
              have hs3 : Sm 11 60000 (.list [w.d, ruD r, d]) := (sm_list (sl_cons ((sm_wh hw).le (by decide) (Nat.le_refl _)) (sl_cons (hru.le (by decide) (Nat.le_refl _)) (sl_cons (hsm.le (k' := 10) (by decide) (Nat.le_refl _)) sl_nil)))).le (Nat.le_refl _) (by decide)
              have eT : (if (ldgF w r d).isNone = true then PyData.bool true else faultD (ldgF w r d)) = toldD (ldgF w r d) := by
                cases ldgF w r d with
                | none => rfl
                | some e => obtain ⟨x, n⟩ := e; rfl
              refine ⟨_, rfl, ?_⟩
              simp only [List.set_cons_succ, List.set_cons_zero]
              repeat wtm_at "z"
              refine cv_repr' hs3 ?_
              repeat wtm_at "z"
              refine (lfault_ok hw (by decide) hr d hsm (by decide) hit _).mono ?_
              rintro y s9 ⟨rfl, rfl⟩
              repeat wtm_at "z"
              refine w_of (ltold_eq hw (by decide) hr d hsm hit2 _) ?_
              repeat wtm_at "z"
              refine cv_repr' smt ?_
              repeat wtm_at "z"
              refine bv (op := opIs) (r := .bool (ldgF w r d).isNone) (by cases ldgF w r d with
                | none => rfl
                | some e => obtain ⟨x, n⟩ := e; rfl) ?_
              repeat wtm_at "z"
              refine br_join (fun y s' => s' = s9 ∧ y = .d (toldD (ldgF w r d))) (fun h => ?_) (fun h => ?_) ?_
              · repeat wtm_at "z"
                rw [if_pos h] at eT
                rw [← eT]
                exact ⟨rfl, rfl⟩
              · repeat wtm_at "z"
                rw [if_neg (by rw [h]; decide)] at eT
                rw [← eT]
                exact ⟨rfl, rfl⟩
              rintro y s10 ⟨rfl, rfl⟩
              repeat wtm_at "z"
              refine cv_repr' smt ?_
              repeat wtm_at "z"
              refine bv_neSame smt ?_
              repeat wtm_at "z"
              refine cv_repr' hs3 ?_
              repeat wtm_at "z"
              refine bv_neSame hs3 ?_
              repeat wtm_at "z"
              exact ⟨rfl, _, _, _, rfl⟩
            · rintro ρ s8 ⟨rfl, z13', z15, z16, rfl⟩
              repeat wtm_at "z"
              exact ⟨hs7.le (by omega), _, _, _, _, _, _, _, _, _, _, _, _, _, _, _, rfl⟩
        · decide
    · rintro ρ s ⟨hs, x2, x3, x4, x5, x6, x7, x8, x9, x10, x11, x12, x13, x14, x15, x16, rfl⟩
      repeat wtm_at "z"
      rfl
  · decide
theorem df_then {G : Prop} {K : PySem.W.Frag} {h : Heap} {mg : Str → Option Value} {nm : Str} {st : Stmt} {f : Addr} {oc : Value} {od an : Option Addr} {sl : Array (Option Value)} {kV dc pm cd ct : Value} (X : K.In h) (N : h.Ns mainGlobals mg)
    (a : PySem.W.nsIn K mainGlobals nm = some (some (.ref f))) (l : K.lookup f = some ⟨oc, od, .func (PySem.W.fnOf nm nm (defArgs st) (defBody st) (defScope st) .none kV dc pm an cd ct), sl⟩)
    (c : PySem.W.codeIn K cd nm = true) (k : PySem.W.keepIn K (.ref f) = true) (z : Df K mg nm st → G) : G := z ⟨f, _, fun_mk l c k, PySem.W.mg_of X N a⟩
theorem nb_then {G : Prop} {K : PySem.W.Frag} {h : Heap} {mg : Str → Option Value} {nm : Str} (X : K.In h) (N : h.Ns mainGlobals mg) (a : PySem.W.nsIn K mainGlobals nm = some none) (z : mg nm = none → G) : G := z (PySem.W.mg_none_of X N a)
theorem ct_then {G : Prop} {K : PySem.W.Frag} {h : Heap} {mg : Str → Option Value} {nm : Str} {v : Value} (X : K.In h) (N : h.Ns mainGlobals mg) (a : PySem.W.nsIn K mainGlobals nm = some (some v)) (z : mg nm = some v → G) : G := z (PySem.W.mg_of X N a)
theorem law_binds {K : PySem.W.Frag} {f : Addr} {fd : FuncData} (F : Fun K "law" "law" s_law f fd) : ∀ (s : Shared) (u : Value), BindsTo s fd ⟨[u], []⟩ [("_law_script", u)] := by
  obtain ⟨oc, od, kV, doc, pm, an, cdv, ct, osl, rfl, lk, hcd⟩ := F.ex
  exact fun s u => .of_eq rfl
theorem fin {l : PySem.W.OpenLaw} {w : World} {K : PySem.W.Frag} {mg : Str → Option Value} {fa : Addr} (ht : LawTrue 15 b_law) (hmg : mg "law" = some (.ref fa)) (T : Nonempty (Tx K mg)) :
    ∃ fd : FuncData, (∀ (s : Shared) (u : Value), BindsTo s fd ⟨[u], []⟩ [("_law_script", u)]) ∧ ∀ base : Heap, K.In base → base.Ns mainGlobals mg → FnG l.prog w K mg base CX0 12 fa fd ["_law_script"] (spLaw K) := by
  obtain ⟨T⟩ := T
  have e := T.d_law.g
  rw [hmg] at e
  have e2 : fa = T.d_law.f := by injection e with e; injection e
  subst e2
  exact ⟨T.d_law.fd, law_binds T.d_law.F, fun base _ _ => ok_law (B := ⟨l.prog, K, w, clsT T⟩) rfl rfl rfl T rfl ht⟩
theorem walk {l : PySem.W.OpenLaw} {q : Program} {loose : List Str} {XP : (Str → Option Value) → Heap → Prop} {YP : World → Heap → Prop} {d : DefRec} {K : Params → PySem.W.Frag} (hn : l.most = some 63) (hdf : d.params.defaults = [])
    (hY : ∀ (w : World) (h : Heap), YP w h → (K w.params).In h)
    (F : ∀ (w : World) (mg : Str → Option Value) (fa : Addr) (h : Heap), (K w.params).In h → h.Ns mainGlobals mg → mg d.name = some (.ref fa) →
      ∃ fd : FuncData, (∀ (s : Shared) (u : Value), BindsTo s fd ⟨[u], []⟩ [("_law_script", u)]) ∧ ∀ base : Heap, (K w.params).In base → base.Ns mainGlobals mg → FnG l.prog w (K w.params) mg base CX0 12 fa fd ["_law_script"] (spLaw (K w.params))) :
    PySem.W.WalkO q loose XP YP l.row.toRowW d [] (fun f vs => PySem.call f vs) :=
  walk_ofG (n := 63) (k := 12) (x := "_law_script") (sp := fun w => spLaw (K w.params)) hn (by decide) hdf ⟨rfl, by decide, by decide⟩ hY F (fun _ _ a ns hl _ hS => ⟨a, ns, rfl, hS, hl, fun p hp => absurd hp List.not_mem_nil, fun _ => rfl⟩)
end LK
open PySem PySem.W PyProof.Rows
set_option maxRecDepth 100000 in
set_option maxHeartbeats 0 in
theorem PySem.Challenge.cw_wheelfill_k31_ledgers_judged_holds : PySem.Challenge.rw_wheelfill_k31_ledgers_judged.Holds := by
  w_on; o_law; k_head; (case hw => w_witness2)
  k_fill
  refine LK.walk (l := PySem.Challenge.rw_wheelfill_k31_ledgers_judged) rfl rfl (fun w h Y => PySem.W.kIn_of Y) ?F
  case F =>
    intro w mg fa h KX G hmg
    refine LK.fin LK.law_true hmg ?T
    refine' LK.df_then (nm := "is_integer") (st := LK.s_is_integer) KX G ?a ?l ?c ?k ?_
    (case a => k_is); (case l => k_is); (case c => k_is); (case k => k_is)
    intro d_is_integer
    refine' LK.df_then (nm := "are_integers") (st := LK.s_are_integers) KX G ?a ?l ?c ?k ?_
    (case a => k_is); (case l => k_is); (case c => k_is); (case k => k_is)
    intro d_are_integers
    refine' LK.df_then (nm := "lean") (st := LK.s_lean) KX G ?a ?l ?c ?k ?_
    (case a => k_is); (case l => k_is); (case c => k_is); (case k => k_is)
    intro d_lean
    refine' LK.df_then (nm := "is_upright") (st := LK.s_is_upright) KX G ?a ?l ?c ?k ?_
    (case a => k_is); (case l => k_is); (case c => k_is); (case k => k_is)
    intro d_is_upright
    refine' LK.df_then (nm := "is_stand") (st := LK.s_is_stand) KX G ?a ?l ?c ?k ?_
    (case a => k_is); (case l => k_is); (case c => k_is); (case k => k_is)
    intro d_is_stand
    refine' LK.df_then (nm := "rows_of") (st := LK.s_rows_of) KX G ?a ?l ?c ?k ?_
    (case a => k_is); (case l => k_is); (case c => k_is); (case k => k_is)
    intro d_rows_of
    refine' LK.df_then (nm := "lines") (st := LK.s_lines) KX G ?a ?l ?c ?k ?_
    (case a => k_is); (case l => k_is); (case c => k_is); (case k => k_is)
    intro d_lines
    refine' LK.df_then (nm := "starts") (st := LK.s_starts) KX G ?a ?l ?c ?k ?_
    (case a => k_is); (case l => k_is); (case c => k_is); (case k => k_is)
    intro d_starts
    refine' LK.df_then (nm := "boarded_loads") (st := LK.s_boarded_loads) KX G ?a ?l ?c ?k ?_
    (case a => k_is); (case l => k_is); (case c => k_is); (case k => k_is)
    intro d_boarded_loads
    refine' LK.df_then (nm := "turned_loads") (st := LK.s_turned_loads) KX G ?a ?l ?c ?k ?_
    (case a => k_is); (case l => k_is); (case c => k_is); (case k => k_is)
    intro d_turned_loads
    refine' LK.df_then (nm := "may") (st := LK.s_may) KX G ?a ?l ?c ?k ?_
    (case a => k_is); (case l => k_is); (case c => k_is); (case k => k_is)
    intro d_may
    refine' LK.df_then (nm := "after") (st := LK.s_after) KX G ?a ?l ?c ?k ?_
    (case a => k_is); (case l => k_is); (case c => k_is); (case k => k_is)
    intro d_after
    refine' LK.df_then (nm := "after_all") (st := LK.s_after_all) KX G ?a ?l ?c ?k ?_
    (case a => k_is); (case l => k_is); (case c => k_is); (case k => k_is)
    intro d_after_all
    refine' LK.df_then (nm := "numbers_of") (st := LK.s_numbers_of) KX G ?a ?l ?c ?k ?_
    (case a => k_is); (case l => k_is); (case c => k_is); (case k => k_is)
    intro d_numbers_of
    refine' LK.df_then (nm := "deed") (st := LK.s_deed) KX G ?a ?l ?c ?k ?_
    (case a => k_is); (case l => k_is); (case c => k_is); (case k => k_is)
    intro d_deed
    refine' LK.df_then (nm := "is_above") (st := LK.s_is_above) KX G ?a ?l ?c ?k ?_
    (case a => k_is); (case l => k_is); (case c => k_is); (case k => k_is)
    intro d_is_above
    refine' LK.df_then (nm := "leads_on") (st := LK.s_leads_on) KX G ?a ?l ?c ?k ?_
    (case a => k_is); (case l => k_is); (case c => k_is); (case k => k_is)
    intro d_leads_on
    refine' LK.df_then (nm := "are_started") (st := LK.s_are_started) KX G ?a ?l ?c ?k ?_
    (case a => k_is); (case l => k_is); (case c => k_is); (case k => k_is)
    intro d_are_started
    refine' LK.df_then (nm := "is_ledger") (st := LK.s_is_ledger) KX G ?a ?l ?c ?k ?_
    (case a => k_is); (case l => k_is); (case c => k_is); (case k => k_is)
    intro d_is_ledger
    refine' LK.df_then (nm := "_law_draw") (st := LK.s__law_draw) KX G ?a ?l ?c ?k ?_
    (case a => k_is); (case l => k_is); (case c => k_is); (case k => k_is)
    intro d__law_draw
    refine' LK.df_then (nm := "_law_one") (st := LK.s__law_one) KX G ?a ?l ?c ?k ?_
    (case a => k_is); (case l => k_is); (case c => k_is); (case k => k_is)
    intro d__law_one
    refine' LK.df_then (nm := "_law_count") (st := LK.s__law_count) KX G ?a ?l ?c ?k ?_
    (case a => k_is); (case l => k_is); (case c => k_is); (case k => k_is)
    intro d__law_count
    refine' LK.df_then (nm := "_law_wheel") (st := LK.s__law_wheel) KX G ?a ?l ?c ?k ?_
    (case a => k_is); (case l => k_is); (case c => k_is); (case k => k_is)
    intro d__law_wheel
    refine' LK.df_then (nm := "_law_lean") (st := LK.s__law_lean) KX G ?a ?l ?c ?k ?_
    (case a => k_is); (case l => k_is); (case c => k_is); (case k => k_is)
    intro d__law_lean
    refine' LK.df_then (nm := "_law_fits") (st := LK.s__law_fits) KX G ?a ?l ?c ?k ?_
    (case a => k_is); (case l => k_is); (case c => k_is); (case k => k_is)
    intro d__law_fits
    refine' LK.df_then (nm := "_law_rows") (st := LK.s__law_rows) KX G ?a ?l ?c ?k ?_
    (case a => k_is); (case l => k_is); (case c => k_is); (case k => k_is)
    intro d__law_rows
    refine' LK.df_then (nm := "_law_starts") (st := LK.s__law_starts) KX G ?a ?l ?c ?k ?_
    (case a => k_is); (case l => k_is); (case c => k_is); (case k => k_is)
    intro d__law_starts
    refine' LK.df_then (nm := "_law_stands") (st := LK.s__law_stands) KX G ?a ?l ?c ?k ?_
    (case a => k_is); (case l => k_is); (case c => k_is); (case k => k_is)
    intro d__law_stands
    refine' LK.df_then (nm := "_law_behind") (st := LK.s__law_behind) KX G ?a ?l ?c ?k ?_
    (case a => k_is); (case l => k_is); (case c => k_is); (case k => k_is)
    intro d__law_behind
    refine' LK.df_then (nm := "_law_rule") (st := LK.s__law_rule) KX G ?a ?l ?c ?k ?_
    (case a => k_is); (case l => k_is); (case c => k_is); (case k => k_is)
    intro d__law_rule
    refine' LK.df_then (nm := "_law_deed_of") (st := LK.s__law_deed_of) KX G ?a ?l ?c ?k ?_
    (case a => k_is); (case l => k_is); (case c => k_is); (case k => k_is)
    intro d__law_deed_of
    refine' LK.df_then (nm := "_law_odd") (st := LK.s__law_odd) KX G ?a ?l ?c ?k ?_
    (case a => k_is); (case l => k_is); (case c => k_is); (case k => k_is)
    intro d__law_odd
    refine' LK.df_then (nm := "_law_bent") (st := LK.s__law_bent) KX G ?a ?l ?c ?k ?_
    (case a => k_is); (case l => k_is); (case c => k_is); (case k => k_is)
    intro d__law_bent
    refine' LK.df_then (nm := "_law_fault") (st := LK.s__law_fault) KX G ?a ?l ?c ?k ?_
    (case a => k_is); (case l => k_is); (case c => k_is); (case k => k_is)
    intro d__law_fault
    refine' LK.df_then (nm := "_law_led") (st := LK.s__law_led) KX G ?a ?l ?c ?k ?_
    (case a => k_is); (case l => k_is); (case c => k_is); (case k => k_is)
    intro d__law_led
    refine' LK.df_then (nm := "_law_told") (st := LK.s__law_told) KX G ?a ?l ?c ?k ?_
    (case a => k_is); (case l => k_is); (case c => k_is); (case k => k_is)
    intro d__law_told
    refine' LK.df_then (nm := "_law_deck") (st := LK.s__law_deck) KX G ?a ?l ?c ?k ?_
    (case a => k_is); (case l => k_is); (case c => k_is); (case k => k_is)
    intro d__law_deck
    refine' LK.df_then (nm := "law") (st := LK.s_law) KX G ?a ?l ?c ?k ?_
    (case a => k_is); (case l => k_is); (case c => k_is); (case k => k_is)
    intro d_law
    refine' LK.nb_then (nm := "ValueError") KX G ?a ?_; (case a => k_is)
    intro z_ValueError
    refine' LK.nb_then (nm := "abs") KX G ?a ?_; (case a => k_is)
    intro z_abs
    refine' LK.nb_then (nm := "all") KX G ?a ?_; (case a => k_is)
    intro z_all
    refine' LK.nb_then (nm := "bool") KX G ?a ?_; (case a => k_is)
    intro z_bool
    refine' LK.nb_then (nm := "dict") KX G ?a ?_; (case a => k_is)
    intro z_dict
    refine' LK.nb_then (nm := "enumerate") KX G ?a ?_; (case a => k_is)
    intro z_enumerate
    refine' LK.nb_then (nm := "int") KX G ?a ?_; (case a => k_is)
    intro z_int
    refine' LK.nb_then (nm := "isinstance") KX G ?a ?_; (case a => k_is)
    intro z_isinstance
    refine' LK.nb_then (nm := "len") KX G ?a ?_; (case a => k_is)
    intro z_len
    refine' LK.nb_then (nm := "list") KX G ?a ?_; (case a => k_is)
    intro z_list
    refine' LK.nb_then (nm := "max") KX G ?a ?_; (case a => k_is)
    intro z_max
    refine' LK.nb_then (nm := "range") KX G ?a ?_; (case a => k_is)
    intro z_range
    refine' LK.nb_then (nm := "repr") KX G ?a ?_; (case a => k_is)
    intro z_repr
    refine' LK.nb_then (nm := "set") KX G ?a ?_; (case a => k_is)
    intro z_set
    refine' LK.nb_then (nm := "sorted") KX G ?a ?_; (case a => k_is)
    intro z_sorted
    refine' LK.nb_then (nm := "sum") KX G ?a ?_; (case a => k_is)
    intro z_sum
    refine' LK.nb_then (nm := "tuple") KX G ?a ?_; (case a => k_is)
    intro z_tuple
    refine' LK.nb_then (nm := "zip") KX G ?a ?_; (case a => k_is)
    intro z_zip
    refine' LK.ct_then (nm := "BOARD") KX G ?a ?_; (case a => k_is)
    intro c_BOARD
    refine' LK.ct_then (nm := "TURN") KX G ?a ?_; (case a => k_is)
    intro c_TURN
    refine' DL.xc_then (nm := "NoLedger") (qual := "NoLedger.__init__") (st := LK.i_NoLedger) (ks := ["word", "number"]) KX G ?aC ?xL ?hbm ?sa ?ga ?gg ?a1 ?t1 ?l1 ?c1 ?kf ?kC ?eC ?tC ?hC ?ha ?hn ?ht ?hm ?no ?_
    (case aC => k_is); (case xL => k_is); (case hbm => decide +kernel); (case sa => k_is); (case ga => k_is); (case gg => k_is); (case a1 => k_is); (case t1 => k_is); (case l1 => k_is); (case c1 => k_is); (case kf => k_is); (case kC => k_is); (case eC => k_is); (case tC => k_is); (case hC => k_is); (case ha => k_is); (case hn => k_is); (case ht => k_is); (case hm => k_is)
    (case no => exact DL.no2 (by k_is) (by k_is))
    intro x_NoLedger xe_NoLedger
    refine' LK.ct_then (nm := "WheelError") KX G ?a ?_; (case a => k_is)
    intro z_WheelError
    exact ⟨⟨z_ValueError, z_abs, z_all, z_bool, z_dict, z_enumerate, z_int, z_isinstance, z_len, z_list, z_max, z_range, z_repr, z_set, z_sorted, z_sum, z_tuple, z_zip, ⟨_, c_BOARD⟩, ⟨_, c_TURN⟩, x_NoLedger, ⟨_, z_WheelError⟩, by rw [xe_NoLedger]; (try dsimp only); exact DL.kit_own (by k_is) (by k_is) (by k_is), by rw [xe_NoLedger]; (try dsimp only); exact DL.kit_VE (by k_is), by rw [xe_NoLedger]; (try dsimp only); exact PySem.W.exm_ref (by k_is) (by k_is) (by k_is) (by k_is), by rw [xe_NoLedger]; (try dsimp only); exact DL.kit_own (by k_is) (by k_is) (by k_is), by rw [xe_NoLedger]; (try dsimp only); exact PySem.W.exm_ref (by k_is) (by k_is) (by k_is) (by k_is), d_is_integer, d_are_integers, d_lean, d_is_upright, d_is_stand, d_rows_of, d_lines, d_starts, d_boarded_loads, d_turned_loads, d_may, d_after, d_after_all, d_numbers_of, d_deed, d_is_above, d_leads_on, d_are_started, d_is_ledger, d__law_draw, d__law_one, d__law_count, d__law_wheel, d__law_lean, d__law_fits, d__law_rows, d__law_starts, d__law_stands, d__law_behind, d__law_rule, d__law_deed_of, d__law_odd, d__law_bent, d__law_fault, d__law_led, d__law_told, d__law_deck, d_law⟩⟩
