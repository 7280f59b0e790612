import PyProof.Rows.All
import Wide.All
import OpenK.AllK
import Wide.FinOn
import HandS.Words
import KE.KLam
import HandS.ForMost
import HandS.ForExc
import HandS.IsInst
import HandS.Deep
import HandS.TupAny
import HandS.TupMul
import HandS.Conv
import HandS.Wide
import KE.KDictKeyed
import HandS.Zip
import HandS.Style
import KE.SortData
import HandS.ExcValue
import PyProof.TupleOfSeq
import HandS.More
import KE.DataCmp
import KE.KDictPairs
import HandS.DictEq
import HandS.DictSubView
import KE.KDictSum
import KE.GoesMore
import PyProof.EnumMake
import HandS.Iter
import PyProof.StrOps2
import HandS.Text
import HandS.Exc
import HandS.ExcInit
import HandS.ExcOwn
import HandS.ExcIs
import KE.KExcIs
import PyProof.ReprBulk
import PySem.Challenge.RW_wheelfill_k56_wrong_words_of_texts
set_option Elab.async false
set_option linter.all false
set_option maxRecDepth 100000
set_option maxHeartbeats 4000000
namespace DL
open PySem PySem.Spec PyProof.Rows L2
structure LamD where
  q : Str
  ps : Arguments
  body : Expr
  sc : Scope
abbrev tabs : List (Addr × Str) := []
def lamD : Nat → Option LamD := fun _ => none
end DL
namespace DL
open PySem PySem.Spec PyProof.Rows L2
abbrev D := PyData
/-- a text's key, a tuple's -/
def keyD : D → Option NestedKey
  | .none => some .none
  | .bool b => some (.num (if b then 1 else 0))
  | .int i => some (.num i)
  | .str x => some (.text x)
  | .tuple ds => (keyDs ds).map .tup
  | .list _ => none
  | .dict _ => none
where keyDs : List D → Option (List NestedKey)
  | [] => some []
  | d :: ds => match keyD d, keyDs ds with
    | some k, some ks => some (k :: ks)
    | _, _ => none
/-- the fixed things: the written part, the world, the classes by name -/
structure Bs where
  P : Program
  K : PySem.W.Frag
  w : World
  cls : Str → Option Addr
/-- a dict with tuple keys, by its own object alone -/
abbrev NL := Obj × List (NestedKey × Addr × V)
def RawN (B : Bs) (a : Addr) (ks : NL) (h : Heap) : Prop :=
  (a == sysModules) = false ∧ ks.2.length ≤ sizeLine ∧ ∃ xs : List (NestedKey × Addr × Value), Paired (fun p q => p.1 = q.1 ∧ p.2.1 = q.2.1 ∧ RelV p.2.2 q.2.2) ks.2 xs ∧
    ∃ o es ep, o = ks.1 ∧ h.get? a = some o ∧ o.ExactDict ∧ o.data = .dict es ep ∧ es.toList = xs.map (entryOfKey (nestedKind B.P B.w)) ∧ (xs.map (·.1)).Nodup
def dN (B : Bs) (a : Addr) (ks : NL) : HO := .ext (RawN B a ks)
/-- what is a tuple -/
def isTu : HO → Bool
  | .tup _ => true
  | .frz _ (.tup _) => true
  | .frz _ (.own _) => true
  | _ => false
/-- what stands at a: a tuple, a tuple whose object is known, a written one -/
def Tp (K : PySem.W.Frag) (H : Hp) (a : Addr) (xs : List V) : Prop :=
  (H a = some (.tup xs) ∨ ∃ o, H a = some (.frz o (.tup xs))) ∨
    ∃ (o : Obj) (its : Array Value) (n : Nat), K.lookup a = some o ∧ o.cls = .type "tuple" ∧ o.data = .seq its n ∧ its.size ≤ sizeLine ∧ Vals xs its.toList
theorem Tp.of {K : PySem.W.Frag} {H : Hp} {a : Addr} {xs : List V} (h : H a = some (.tup xs)) : Tp K H a xs := .inl (.inl h)
theorem Tp.sq {K : PySem.W.Frag} {H : Hp} {a : Addr} {xs : List V} (h : Tp K H a xs) : SqT K H a xs := by
  rcases h with h | h
  · exact .inl h
  · exact .inr h
/-- a tuple whose own object is plain -/
def Pl (H : Hp) (a : Addr) (xs : List V) : Prop := ∃ o, H a = some (.frz o (.tup xs)) ∧ o.dict = none
theorem Pl.tp {K : PySem.W.Frag} {H : Hp} {a : Addr} {xs : List V} (h : Pl H a xs) : Tp K H a xs := let ⟨o, e, _⟩ := h; .inl (.inr ⟨o, e⟩)
/-- a dict with plain keys, not empty -/
def KD (H : Hp) (a : Addr) (ks : List (Key × V)) : Prop := H a = some (.dK ks) ∧ ks ≠ []
mutual
/-- the value v stands for the data d; no list or dict of it stands where Av says -/
inductive Rp (B : Bs) (Av : Addr → Prop) (H : Hp) : V → D → Prop
  | non : Rp B Av H .non .none
  | bl (b : Bool) : Rp B Av H (.bl b) (.bool b)
  | int (i : Int) : Rp B Av H (.int i) (.int i)
  | str (x : Str) : Rp B Av H (.str x) (.str x)
  | lst {a : Addr} {xs : List V} {ds : List D} (h : H a = some (.lst xs)) (n : ¬ Av a) (r : RpL B Av H xs ds) : Rp B Av H (.ref a) (.list ds)
  | tup {a : Addr} {xs : List V} {ds : List D} (h : Tp B.K H a xs) (r : RpL B Av H xs ds) : Rp B Av H (.ref a) (.tuple ds)
  | dic {a : Addr} {ks : List (Key × V)} {kvs : List (D × D)} (h : KD H a ks) (n : ¬ Av a) (r : RpM B Av H (ks.map fun p => (kV p.1, p.2)) kvs) : Rp B Av H (.ref a) (.dict kvs)
  | dct {a : Addr} {ks : NL} {kvs : List (D × D)} (h : H a = some (dN B a ks)) (n : ¬ Av a) (e : kvs.map (fun p => keyD p.1) = ks.2.map (fun p => some p.1))
      (r : RpM B Av H (ks.2.map fun p => (.ref p.2.1, p.2.2)) kvs) : Rp B Av H (.ref a) (.dict kvs)
inductive RpL (B : Bs) (Av : Addr → Prop) (H : Hp) : List V → List D → Prop
  | nil : RpL B Av H [] []
  | cons {v : V} {d : D} {vs : List V} {ds : List D} (h : Rp B Av H v d) (t : RpL B Av H vs ds) : RpL B Av H (v :: vs) (d :: ds)
inductive RpM (B : Bs) (Av : Addr → Prop) (H : Hp) : List (V × V) → List (D × D) → Prop
  | nil : RpM B Av H [] []
  | cons {k v : V} {kd d : D} {vs : List (V × V)} {ds : List (D × D)} (h1 : Rp B Av H k kd) (h2 : Rp B Av H v d) (t : RpM B Av H vs ds) : RpM B Av H ((k, v) :: vs) ((kd, d) :: ds)
end
/-- tuples stay, and what is not in Av -/
structure Kp (Av : Addr → Prop) (H H' : Hp) : Prop where
  tup : ∀ a u, isTu u = true → H a = some u → H' a = some u
  all : ∀ a o, H a = some o → ¬ Av a → H' a = some o
section
variable {B : Bs} {Av Av' : Addr → Prop} {H H' : Hp}
theorem Tp.kp {K : PySem.W.Frag} (k : Kp Av H H') {a : Addr} {xs : List V} (h : Tp K H a xs) : Tp K H' a xs := by
  rcases h with (h | ⟨o, h⟩) | h
  · exact .inl (.inl (k.tup _ _ rfl h))
  · exact .inl (.inr ⟨o, k.tup _ _ rfl h⟩)
  · exact .inr h
mutual
theorem Rp.kp (k : Kp Av H H') : ∀ {v : V} {d : D}, Rp B Av H v d → Rp B Av H' v d
  | _, _, .non => .non
  | _, _, .bl b => .bl b
  | _, _, .int i => .int i
  | _, _, .str x => .str x
  | _, _, .lst h n r => .lst (k.all _ _ h n) n (RpL.kp k r)
  | _, _, .tup h r => .tup (h.kp k) (RpL.kp k r)
  | _, _, .dic h n r => .dic ⟨k.all _ _ h.1 n, h.2⟩ n (RpM.kp k r)
  | _, _, .dct h n e r => .dct (k.all _ _ h n) n e (RpM.kp k r)
theorem RpL.kp (k : Kp Av H H') : ∀ {v : List V} {d : List D}, RpL B Av H v d → RpL B Av H' v d
  | _, _, .nil => .nil
  | _, _, .cons h t => .cons (Rp.kp k h) (RpL.kp k t)
theorem RpM.kp (k : Kp Av H H') : ∀ {v : List (V × V)} {d : List (D × D)}, RpM B Av H v d → RpM B Av H' v d
  | _, _, .nil => .nil
  | _, _, .cons h g t => .cons (Rp.kp k h) (Rp.kp k g) (RpM.kp k t)
end
mutual
theorem Rp.mono (k : ∀ a, Av' a → Av a) : ∀ {v : V} {d : D}, Rp B Av H v d → Rp B Av' H v d
  | _, _, .non => .non
  | _, _, .bl b => .bl b
  | _, _, .int i => .int i
  | _, _, .str x => .str x
  | _, _, .lst h n r => .lst h (fun z => n (k _ z)) (RpL.mono k r)
  | _, _, .tup h r => .tup h (RpL.mono k r)
  | _, _, .dic h n r => .dic h (fun z => n (k _ z)) (RpM.mono k r)
  | _, _, .dct h n e r => .dct h (fun z => n (k _ z)) e (RpM.mono k r)
theorem RpL.mono (k : ∀ a, Av' a → Av a) : ∀ {v : List V} {d : List D}, RpL B Av H v d → RpL B Av' H v d
  | _, _, .nil => .nil
  | _, _, .cons h t => .cons (Rp.mono k h) (RpL.mono k t)
theorem RpM.mono (k : ∀ a, Av' a → Av a) : ∀ {v : List (V × V)} {d : List (D × D)}, RpM B Av H v d → RpM B Av' H v d
  | _, _, .nil => .nil
  | _, _, .cons h g t => .cons (Rp.mono k h) (Rp.mono k g) (RpM.mono k t)
end
end
/-- nothing in it that could change -/
def hard : D → Bool
  | .none | .bool _ | .int _ | .str _ => true
  | .list _ => false
  | .tuple ds => hardL ds
  | .dict _ => false
where hardL : List D → Bool
  | [] => true
  | d :: ds => hard d && hardL ds
section
variable {B : Bs} {Av Av' : Addr → Prop} {H H' : Hp}
mutual
theorem Rp.hard : ∀ {v : V} {d : D}, Rp B Av H v d → hard d = true → Rp B Av' H v d
  | _, _, .non, _ => .non
  | _, _, .bl b, _ => .bl b
  | _, _, .int i, _ => .int i
  | _, _, .str x, _ => .str x
  | _, _, .lst _ _ _, h => by simp [DL.hard] at h
  | _, _, .tup h r, q => .tup h (RpL.hard r (by simpa [DL.hard] using q))
  | _, _, .dic _ _ _, h => by simp [DL.hard] at h
  | _, _, .dct _ _ _ _, h => by simp [DL.hard] at h
theorem RpL.hard : ∀ {v : List V} {d : List D}, RpL B Av H v d → hard.hardL d = true → RpL B Av' H v d
  | _, _, .nil, _ => .nil
  | _, _, .cons h t, q => by
    simp only [DL.hard.hardL, Bool.and_eq_true] at q
    exact .cons (Rp.hard h q.1) (RpL.hard t q.2)
end
theorem RpL.len : ∀ {v : List V} {d : List D}, RpL B Av H v d → v.length = d.length
  | _, _, .nil => rfl
  | _, _, .cons _ t => by simp [RpL.len t]
theorem RpL.app : ∀ {v v' : List V} {d d' : List D}, RpL B Av H v d → RpL B Av H v' d' → RpL B Av H (v ++ v') (d ++ d')
  | _, _, _, _, .nil, h => h
  | _, _, _, _, .cons a t, h => .cons a (RpL.app t h)
theorem RpL.get : ∀ {v : List V} {d : List D} {i : Nat} {x : V}, RpL B Av H v d → v[i]? = some x → ∃ y, d[i]? = some y ∧ Rp B Av H x y
  | _, _, _, _, .nil, h => by simp at h
  | _, _, 0, _, .cons a t, h => by simp at h; subst h; exact ⟨_, rfl, a⟩
  | _, _, i + 1, x, .cons a t, h => by
    obtain ⟨y, e, r⟩ := RpL.get (i := i) (x := x) t (by simpa using h)
    exact ⟨y, by simpa using e, r⟩
theorem RpL.get' : ∀ {v : List V} {d : List D} {i : Nat} {y : D}, RpL B Av H v d → d[i]? = some y → ∃ x, v[i]? = some x ∧ Rp B Av H x y
  | _, _, _, _, .nil, h => by simp at h
  | _, _, 0, _, .cons a t, h => by simp at h; subst h; exact ⟨_, rfl, a⟩
  | _, _, i + 1, x, .cons a t, h => by
    obtain ⟨y, e, r⟩ := RpL.get' (i := i) (y := x) t (by simpa using h)
    exact ⟨y, by simpa using e, r⟩
theorem RpL.take : ∀ {v : List V} {d : List D} (n : Nat), RpL B Av H v d → RpL B Av H (v.take n) (d.take n)
  | _, _, 0, _ => by simpa using RpL.nil
  | _, _, _ + 1, .nil => by simpa using RpL.nil
  | _, _, n + 1, .cons a t => by simpa using RpL.cons a (RpL.take n t)
theorem RpL.drop : ∀ {v : List V} {d : List D} (n : Nat), RpL B Av H v d → RpL B Av H (v.drop n) (d.drop n)
  | _, _, 0, h => by simpa using h
  | _, _, _ + 1, .nil => by simpa using RpL.nil
  | _, _, n + 1, .cons a t => by simpa using RpL.drop n t
theorem RpL.ints : ∀ {v : List V} {ns : List Int}, RpL B Av H v (ns.map .int) → v = ns.map V.int
  | _, [], .nil => rfl
  | _, n :: ns, .cons a t => by
    cases a
    rw [RpL.ints (ns := ns) t]
    rfl
theorem RpL.bools : ∀ {v : List V} {ns : List Bool}, RpL B Av H v (ns.map .bool) → v = ns.map V.bl
  | _, [], .nil => rfl
  | _, n :: ns, .cons a t => by
    cases a
    rw [RpL.bools (ns := ns) t]
    rfl
mutual
theorem Rp.dp : ∀ {v : V} {d : D}, Rp B Av H v d → d.canLay0 = true → Dp B.K H v d
  | _, _, .non, _ => .non
  | _, _, .bl b, _ => .bl b
  | _, _, .int i, _ => .int i
  | _, _, .str x, _ => .str x
  | _, _, .lst h n r, q => .lst (SqL.of h) (RpL.dp r (by simpa [PyData.canLay0] using q))
  | _, _, .tup h r, q => .tup h.sq (RpL.dp r (by simpa [PyData.canLay0] using q))
  | _, _, .dic _ _ _, h => by simp [PyData.canLay0] at h
  | _, _, .dct _ _ _ _, h => by simp [PyData.canLay0] at h
theorem RpL.dp : ∀ {v : List V} {d : List D}, RpL B Av H v d → PyData.canLayAll0 d = true → DpAll B.K H v d
  | _, _, .nil, _ => .nil
  | _, _, .cons h t, q => by
    simp only [PyData.canLayAll0, Bool.and_eq_true] at q
    exact .cons (Rp.dp h q.1) (RpL.dp t q.2)
end
end
/-- values -/
inductive Val where
  | d (x : D)
  | r (v : V)
  | o (c : Str) (fs : List (Str × D))
  | p (x : D)
  | f (n : Nat)
/-- attributes of an object of one's own: data, a dict of its own, a dict of its own lists -/
inductive GF where
  | d (x : D)
  | m (kvs : List (D × D))
  | ll (kvs : List (D × List D))
/-- slots: unset, a value, a list, a dict or an object of one's own that may change -/
inductive Sl where
  | no
  | v (x : Val)
  | l (ds : List D)
  | m (kvs : List (D × D))
  | g (c : Str) (a : Addr) (fs : List (Str × GF))
  | q (c : Str) (fs : List (Str × D))
abbrev Env := List Sl
/-- an exception: its class, its fields -/
structure Exn where
  c : Str
  fs : List (Str × D)
inductive Out (S : Type) (α : Type) where
  | bad
  | ok (a : α) (s : S)
  | ex (e : Exn) (s : S)
@[reducible] def Out.bind {S α β : Type} (o : Out S α) (k : α → S → Out S β) : Out S β := match o with
  | .ok a s => k a s
  | .ex e s => .ex e s
  | .bad => .bad
/-- a state that calls change (the deck): where it stands, what stands there -/
class SI (S : Type) where
  dks : S → List Addr
  rep : S → Hp → Prop
  there : ∀ (s : S) (H : Hp) (a : Addr), rep s H → a ∈ dks s → ∃ o, H a = some o ∧ isTu o = false
  keep : ∀ (s : S) (H H' : Hp), rep s H → (∀ a ∈ dks s, H' a = H a) → (∀ a u, isTu u = true → H a = some u → H' a = some u) → rep s H'
/-- a tuple whose object is plain, a dict whose object is known -/
def PlR (B : Bs) (Av : Addr → Prop) (H : Hp) (v : V) : D → Prop
  | .tuple ds => ∃ a xs, v = .ref a ∧ Pl H a xs ∧ RpL B Av H xs ds
  | .dict kvs => ∃ a ks, v = .ref a ∧ H a = some (dN B a ks) ∧ ¬ Av a ∧ kvs.map (fun p => keyD p.1) = ks.2.map (fun p => some p.1) ∧ RpM B Av H (ks.2.map fun p => (.ref p.2.1, p.2.2)) kvs
  | _ => False
theorem PlR.kp {B : Bs} {Av : Addr → Prop} {H H' : Hp} (k : Kp Av H H') {v : V} {d : D} (h : PlR B Av H v d) : PlR B Av H' v d := by
  cases d with
  | tuple ds => obtain ⟨a, xs, e, ⟨o, h, d⟩, r⟩ := h; exact ⟨a, xs, e, ⟨o, k.tup _ _ rfl h, d⟩, RpL.kp k r⟩
  | dict kvs => obtain ⟨a, ks, e, h, n, d, r⟩ := h; exact ⟨a, ks, e, k.all _ _ h n, n, d, RpM.kp k r⟩
  | _ => exact h.elim
theorem PlR.mono {B : Bs} {Av Av' : Addr → Prop} {H : Hp} (k : ∀ a, Av' a → Av a) {v : V} {d : D} (h : PlR B Av H v d) : PlR B Av' H v d := by
  cases d with
  | tuple ds => obtain ⟨a, xs, e, h, r⟩ := h; exact ⟨a, xs, e, h, RpL.mono k r⟩
  | dict kvs => obtain ⟨a, ks, e, h, n, d, r⟩ := h; exact ⟨a, ks, e, h, fun z => n (k _ z), d, RpM.mono k r⟩
  | _ => exact h.elim
theorem PlR.rp {B : Bs} {Av : Addr → Prop} {H : Hp} {v : V} {d : D} (h : PlR B Av H v d) : Rp B Av H v d := by
  cases d with
  | tuple ds => obtain ⟨a, xs, rfl, h, r⟩ := h; exact .tup h.tp r
  | dict kvs => obtain ⟨a, ks, rfl, h, n, d, r⟩ := h; exact .dct h n d r
  | _ => exact h.elim
/-- a thing that never changes, by its own object -/
def fxO (ob : Obj) : HO := .frz ob (.own 0)
/-- a code object of the name q -/
def CdAt (H : Hp) (c : Addr) (q : Str) : Prop := ∃ (oc : Obj) (vs : Array Value) (t : Tok), H c = some (fxO oc) ∧ oc.data = .fields vs ∧ vs[1]? = some (.str q t)
theorem CdAt.kp {H H' : Hp} (k : ∀ a u, isTu u = true → H a = some u → H' a = some u) {c : Addr} {q : Str} : CdAt H c q → CdAt H' c q := fun ⟨oc, vs, t, e, r⟩ => ⟨oc, vs, t, k _ _ rfl e, r⟩
/-- a lambda of the program -/
def LamAt (H : Hp) (v : V) (n : Nat) : Prop := ∃ (a c : Addr) (pm ctv : Value) (L : LamD), v = .ref a ∧ lamD n = some L ∧ H a = some (fxO (PySem.W.kla_obj "<lambda>" L.q L.ps L.body L.sc [] pm c ctv)) ∧ CdAt H c L.q
theorem LamAt.kp {H H' : Hp} (k : ∀ a u, isTu u = true → H a = some u → H' a = some u) {v : V} {n : Nat} : LamAt H v n → LamAt H' v n := fun ⟨a, c, pm, ctv, L, e, l, h, d⟩ => ⟨a, c, pm, ctv, L, e, l, k _ _ rfl h, d.kp k⟩
/-- a table of code objects: each of them bears the name q -/
def TabO (H : Hp) (P : Addr) (q : Str) : Prop := ∃ ps : Array Value, H P = some (.tbl ps) ∧ TriplesOk ps.toList ∧ ∀ (pos : Pos) (cv : Value), codeAmong pos ps.toList = some cv → ∃ c, cv = .ref c ∧ CdAt H c q
theorem TabO.kp {H H' : Hp} {P : Addr} {q : Str} (e : H' P = H P) (k : ∀ a u, isTu u = true → H a = some u → H' a = some u) : TabO H P q → TabO H' P q := fun ⟨ps, h, t, r⟩ => ⟨ps, e.trans h, t, fun pos cv hc => let ⟨c, e1, e2⟩ := r pos cv hc; ⟨c, e1, e2.kp k⟩⟩
/-- values in the heap -/
def RvV (B : Bs) (Av : Addr → Prop) (H : Hp) (v : V) : Val → Prop
  | .d x => Rp B Av H v x
  | .r u => v = u
  | .o c fs => ∃ a C dx fs', v = .ref a ∧ B.cls c = some C ∧ H a = some (.ins C dx fs') ∧ ¬ Av a ∧ ∀ p ∈ fs, ∃ u, fs'.lookup p.1 = some u ∧ Rp B Av H u p.2
  | .p x => PlR B Av H v x
  | .f n => LamAt H v n
/-- .. a list or a dict of one's own, too -/
inductive RtV (B : Bs) (Av : Addr → Prop) (N : Addr → Prop) (H : Hp) : V → Val → Prop
  | of {v : V} {y : Val} (h : RvV B Av H v y) : RtV B Av N H v y
  | lst {a : Addr} {xs : List V} {ds : List D} (h : H a = some (.lst xs)) (n : ¬ N a) (r : RpL B Av H xs ds) : RtV B Av N H (.ref a) (.d (.list ds))
  | dic {a : Addr} {ks : List (Key × V)} {kvs : List (D × D)} (h : KD H a ks) (n : ¬ N a) (r : RpM B Av H (ks.map fun p => (kV p.1, p.2)) kvs) : RtV B Av N H (.ref a) (.d (.dict kvs))
  | dct {a : Addr} {ks : NL} {kvs : List (D × D)} (h : H a = some (dN B a ks)) (n : ¬ N a) (e : kvs.map (fun p => keyD p.1) = ks.2.map (fun p => some p.1))
      (r : RpM B Av H (ks.2.map fun p => (.ref p.2.1, p.2.2)) kvs) : RtV B Av N H (.ref a) (.d (.dict kvs))
theorem RvV.kp {B : Bs} {Av : Addr → Prop} {H H' : Hp} (k : Kp Av H H') {v : V} : ∀ {y : Val}, RvV B Av H v y → RvV B Av H' v y
  | .d _, h => Rp.kp k h
  | .r _, h => h
  | .o _ _, ⟨a, C, dx, fs', e, c, h, n, l⟩ => ⟨a, C, dx, fs', e, c, k.all _ _ h n, n, fun p hp => let ⟨u, e, r⟩ := l p hp; ⟨u, e, r.kp k⟩⟩
  | .p _, h => PlR.kp k h
  | .f _, h => LamAt.kp k.tup h
theorem RvV.mono {B : Bs} {Av Av' : Addr → Prop} {H : Hp} (k : ∀ a, Av' a → Av a) {v : V} : ∀ {y : Val}, RvV B Av H v y → RvV B Av' H v y
  | .d _, h => Rp.mono k h
  | .r _, h => h
  | .o _ _, ⟨a, C, dx, fs', e, c, h, n, l⟩ => ⟨a, C, dx, fs', e, c, h, fun z => n (k _ z), fun p hp => let ⟨u, e, r⟩ := l p hp; ⟨u, e, r.mono k⟩⟩
  | .p _, h => PlR.mono k h
  | .f _, h => h
end DL
namespace DL
open PySem PySem.Spec PyProof.Rows L2
/-- what stands around: the heap at the entry, what the caller keeps for itself, where the changing state stands -/
structure Gh where
  H0 : Hp
  A0 : Addr → Prop
  dks : List Addr
abbrev Sg := L2.St
abbrev Own := Nat → Option Addr
def Av (G : Gh) (own : Own) (a : Addr) : Prop := G.A0 a ∨ ∃ i, own i = some a
/-- a slot of one's own -/
def OwnAt (B : Bs) (A : Addr → Prop) (H : Hp) (a : Addr) : Sl → Prop
  | .l ds => ∃ xs, H a = some (.lst xs) ∧ RpL B A H xs ds
  | .m kvs => (∃ ks : List (Key × V), KD H a ks ∧ RpM B A H (ks.map fun p => (kV p.1, p.2)) kvs) ∨
      ∃ ks : NL, H a = some (dN B a ks) ∧ kvs.map (fun p => keyD p.1) = ks.2.map (fun p => some p.1) ∧ RpM B A H (ks.2.map fun p => (V.ref p.2.1, p.2.2)) kvs
  | .q c fs => ∃ (C dx : Addr) (vs : List (Str × V)), B.cls c = some C ∧ H a = some (.ins C dx vs) ∧ vs.map (·.1) = fs.map (·.1) ∧ RpL B A H (vs.map (·.2)) (fs.map (·.2))
  | _ => False
/-- a dict's own lists -/
inductive LLr (B : Bs) (A : Addr → Prop) (H : Hp) : List (NestedKey × Addr × V) → List (D × List D) → List Addr → Prop
  | nil : LLr B A H [] [] []
  | cons {k : NestedKey} {ka l : Addr} {xs : List V} {kd : D} {ds : List D} {ks : List (NestedKey × Addr × V)} {kvs : List (D × List D)} {ls : List Addr} (ek : keyD kd = some k) (rk : Rp B A H (.ref ka) kd) (hl : H l = some (.lst xs)) (r : RpL B A H xs ds) (t : LLr B A H ks kvs ls) :
      LLr B A H ((k, ka, .ref l) :: ks) ((kd, ds) :: kvs) (l :: ls)
/-- an attribute, and what stands behind it of its own -/
inductive GfAt (B : Bs) (A : Addr → Prop) (H : Hp) : V → GF → List Addr → Prop
  | d {v : V} {x : D} (h : Rp B A H v x) : GfAt B A H v (.d x) []
  | m {b : Addr} {kvs : List (D × D)} (h : OwnAt B A H b (.m kvs)) : GfAt B A H (.ref b) (.m kvs) [b]
  | l0 {b : Addr} (h : ∃ o, H b = some (dN B b (o, []))) : GfAt B A H (.ref b) (.ll []) [b]
  | ll {b : Addr} {ks : NL} {kvs : List (D × List D)} {ls : List Addr} (h : H b = some (dN B b ks)) (nd : (ks.2.map (·.1)).Nodup) (r : LLr B A H ks.2 kvs ls) : GfAt B A H (.ref b) (.ll kvs) (b :: ls)
inductive GsAt (B : Bs) (A : Addr → Prop) (H : Hp) : List (Str × V) → List (Str × GF) → List Addr → Prop
  | nil : GsAt B A H [] [] []
  | cons {x : Str} {v : V} {f : GF} {vs : List (Str × V)} {fs : List (Str × GF)} {g1 g2 : List Addr} (h : GfAt B A H v f g1) (t : GsAt B A H vs fs g2) : GsAt B A H ((x, v) :: vs) ((x, f) :: fs) (g1 ++ g2)
/-- an object of one's own -/
def GmAt (B : Bs) (A : Addr → Prop) (H : Hp) (a : Addr) (c : Str) (fs : List (Str × GF)) (gs : List Addr) : Prop :=
  ∃ C dx vs, B.cls c = some C ∧ H a = some (.ins C dx vs) ∧ GsAt B A H vs fs gs
section
variable {B : Bs} {A A' : Addr → Prop} {H H' : Hp}
theorem LLr.imp (f : ∀ {v : V} {d : D}, Rp B A H v d → Rp B A' H' v d) (g : ∀ {v : List V} {d : List D}, RpL B A H v d → RpL B A' H' v d) : ∀ {ks : List (NestedKey × Addr × V)} {kvs : List (D × List D)} {ls : List Addr}, (∀ l ∈ ls, ∀ o, H l = some o → H' l = some o) → LLr B A H ks kvs ls → LLr B A' H' ks kvs ls
  | _, _, _, _, .nil => .nil
  | _, _, _, k, .cons ek rk hl r t => .cons ek (f rk) (k _ (.head _) _ hl) (g r) (LLr.imp f g (fun l h => k l (.tail _ h)) t)
theorem GfAt.imp (f : ∀ {v : V} {d : D}, Rp B A H v d → Rp B A' H' v d) (g : ∀ {v : List V} {d : List D}, RpL B A H v d → RpL B A' H' v d) (m : ∀ {b : Addr} {kvs : List (D × D)}, (∀ o, H b = some o → H' b = some o) → OwnAt B A H b (.m kvs) → OwnAt B A' H' b (.m kvs)) {v : V} {x : GF} {ls : List Addr} (k : ∀ l ∈ ls, ∀ o, H l = some o → H' l = some o) (h : GfAt B A H v x ls) : GfAt B A' H' v x ls := by
  cases h with
  | d h => exact .d (f h)
  | m h => exact .m (m (k _ (.head _)) h)
  | l0 h => obtain ⟨o, h⟩ := h; exact .l0 ⟨o, k _ (.head _) _ h⟩
  | ll h nd r => exact .ll (k _ (.head _) _ h) nd (r.imp f g fun l h => k l (.tail _ h))
theorem GsAt.imp (f : ∀ {v : V} {d : D}, Rp B A H v d → Rp B A' H' v d) (g : ∀ {v : List V} {d : List D}, RpL B A H v d → RpL B A' H' v d) (m : ∀ {b : Addr} {kvs : List (D × D)}, (∀ o, H b = some o → H' b = some o) → OwnAt B A H b (.m kvs) → OwnAt B A' H' b (.m kvs)) : ∀ {vs : List (Str × V)} {fs : List (Str × GF)} {ls : List Addr}, (∀ l ∈ ls, ∀ o, H l = some o → H' l = some o) → GsAt B A H vs fs ls → GsAt B A' H' vs fs ls
  | _, _, _, _, .nil => .nil
  | _, _, _, k, .cons h t => .cons (h.imp f g m fun l z => k l (List.mem_append_left _ z)) (GsAt.imp f g m (fun l z => k l (List.mem_append_right _ z)) t)
theorem GmAt.imp (f : ∀ {v : V} {d : D}, Rp B A H v d → Rp B A' H' v d) (g : ∀ {v : List V} {d : List D}, RpL B A H v d → RpL B A' H' v d) (m : ∀ {b : Addr} {kvs : List (D × D)}, (∀ o, H b = some o → H' b = some o) → OwnAt B A H b (.m kvs) → OwnAt B A' H' b (.m kvs)) {a : Addr} {c : Str} {fs : List (Str × GF)} {ls : List Addr} (k : ∀ l, l = a ∨ l ∈ ls → ∀ o, H l = some o → H' l = some o) (h : GmAt B A H a c fs ls) : GmAt B A' H' a c fs ls := by
  obtain ⟨C, dx, vs, e, h, t⟩ := h
  exact ⟨C, dx, vs, e, k a (.inl rfl) _ h, t.imp f g m fun l z => k l (.inr z)⟩
end
/-- where slot i's object keeps its own things: the n slots' own come first -/
def gix (n i j : Nat) : Nat := n * (j + 1) + i
theorem gix_ge {n i j : Nat} : n ≤ gix n i j := by unfold gix; rw [Nat.mul_succ]; omega
def SlR (B : Bs) (A : Addr → Prop) (own : Own) (H : Hp) (σ : Sg) (i : Nat) : Sl → Prop
  | .no => True
  | .v y => ∃ u, σ[i]? = some (some u) ∧ RvV B A H u y
  | .g c a fs => ∃ gs, own i = some a ∧ σ[i]? = some (some (.ref a)) ∧ (∀ j g, gs[j]? = some g → own (gix σ.length i j) = some g) ∧ GmAt B A H a c fs gs
  | x => ∃ a, own i = some a ∧ σ[i]? = some (some (.ref a)) ∧ OwnAt B A H a x
variable {S : Type} [SI S]
structure Rel (B : Bs) (G : Gh) (own : Own) (ρ : Env) (s : S) (σ : Sg) (H : Hp) : Prop where
  wf1 : ∀ a ∈ G.dks, G.A0 a
  wf2 : ∀ a, G.A0 a → H a ≠ none
  fr : ∀ a o, G.H0 a = some o → a ∉ G.dks → H a = some o
  dk : SI.dks s = G.dks
  rs : SI.rep s H
  inj : ∀ i j a, own i = some a → own j = some a → i = j
  fre : ∀ i a, own i = some a → G.H0 a = none ∧ ¬ G.A0 a
  ont : ∀ i a, own i = some a → ∃ o, H a = some o ∧ isTu o = false
  len : ρ.length = σ.length
  sl : ∀ i x, ρ[i]? = some x → SlR B (Av G own) own H σ i x
/-- from H to H' an expression has changed nothing but the state -/
structure Stp (G : Gh) (s' : S) (H H' : Hp) : Prop where
  fr : ∀ a o, H a = some o → a ∉ G.dks → H' a = some o
  dk : SI.dks s' = G.dks
  rs : SI.rep s' H'
section
variable {B : Bs} {G : Gh} {own : Own} {ρ : Env} {s s' s'' : S} {σ : Sg} {H H' H'' : Hp}
theorem OwnAt.kp {A : Addr → Prop} (k : Kp A H H') {a : Addr} (ha : ∀ o, H a = some o → H' a = some o) : ∀ {x : Sl}, OwnAt B A H a x → OwnAt B A H' a x
  | .l _, ⟨xs, h, r⟩ => ⟨xs, ha _ h, RpL.kp k r⟩
  | .m _, .inl ⟨ks, h, r⟩ => .inl ⟨ks, ⟨ha _ h.1, h.2⟩, RpM.kp k r⟩
  | .m _, .inr ⟨ks, h, e, r⟩ => .inr ⟨ks, ha _ h, e, RpM.kp k r⟩
  | .no, h => h
  | .v _, h => h
  | .g _ _ _, h => h
  | .q _ _, ⟨C, dx, vs, hc, h, hn, r⟩ => ⟨C, dx, vs, hc, ha _ h, hn, RpL.kp k r⟩
theorem OwnAt.mono {A A' : Addr → Prop} (k : ∀ a, A' a → A a) {a : Addr} : ∀ {x : Sl}, OwnAt B A H a x → OwnAt B A' H a x
  | .l _, ⟨xs, h, r⟩ => ⟨xs, h, RpL.mono k r⟩
  | .m _, .inl ⟨ks, h, r⟩ => .inl ⟨ks, h, RpM.mono k r⟩
  | .m _, .inr ⟨ks, h, e, r⟩ => .inr ⟨ks, h, e, RpM.mono k r⟩
  | .no, h => h
  | .v _, h => h
  | .g _ _ _, h => h
  | .q _ _, ⟨C, dx, vs, hc, h, hn, r⟩ => ⟨C, dx, vs, hc, h, hn, RpL.mono k r⟩
theorem GmAt.kp {A : Addr → Prop} (k : Kp A H H') {a : Addr} {c : Str} {fs : List (Str × GF)} {gs : List Addr} (ha : ∀ l, l = a ∨ l ∈ gs → ∀ o, H l = some o → H' l = some o) (h : GmAt B A H a c fs gs) : GmAt B A H' a c fs gs :=
  h.imp (fun r => Rp.kp k r) (fun r => RpL.kp k r) (fun z r => OwnAt.kp k z r) ha
theorem GmAt.mono {A A' : Addr → Prop} (k : ∀ a, A' a → A a) {a : Addr} {c : Str} {fs : List (Str × GF)} {gs : List Addr} (h : GmAt B A H a c fs gs) : GmAt B A' H a c fs gs :=
  h.imp (fun r => Rp.mono k r) (fun r => RpL.mono k r) (fun _ r => OwnAt.mono k r) fun _ _ _ z => z
theorem gm_own {n i : Nat} {a : Addr} {gs : List Addr} (ho : own i = some a) (hg : ∀ j g, gs[j]? = some g → own (gix n i j) = some g) (l : Addr) (h : l = a ∨ l ∈ gs) : ∃ j, own j = some l := by
  rcases h with rfl | h
  · exact ⟨i, ho⟩
  · obtain ⟨j, hj, e⟩ := List.mem_iff_getElem.mp h
    exact ⟨_, hg j l (by rw [List.getElem?_eq_getElem hj, e])⟩
theorem Rel.dkA (R : Rel B G own ρ s σ H) : ∀ a ∈ G.dks, Av G own a := fun a h => .inl (R.wf1 a h)
theorem Rel.avT (R : Rel B G own ρ s σ H) {a : Addr} (h : Av G own a) : ∃ o, H a = some o := by
  rcases h with h | ⟨i, h⟩
  · have := R.wf2 a h
    cases q : H a with
    | none => exact absurd q this
    | some o => exact ⟨o, rfl⟩
  · obtain ⟨o, e, _⟩ := R.ont i a h
    exact ⟨o, e⟩
theorem Rel.fresh (R : Rel B G own ρ s σ H) {p : Addr} (h : H p = none) : ¬ Av G own p := fun z => by
  obtain ⟨o, e⟩ := R.avT z
  rw [h] at e; cases e
theorem Rel.dkT (R : Rel B G own ρ s σ H) {a : Addr} (h : a ∈ G.dks) : ∃ o, H a = some o ∧ isTu o = false := SI.there s H a R.rs (by rw [R.dk]; exact h)
theorem Rel.kp (R : Rel B G own ρ s σ H) (k : Stp G s' H H') : Kp (Av G own) H H' where
  tup := fun a u t h => k.fr a _ h fun z => by
    obtain ⟨o, e, n⟩ := R.dkT z
    rw [h] at e; cases e; rw [t] at n; cases n
  all := fun a o h n => k.fr a o h fun z => n (R.dkA a z)
theorem Rel.stp (R : Rel B G own ρ s σ H) (k : Stp G s' H H') : Rel B G own ρ s' σ H' := by
  have kp := R.kp k
  have hn : ∀ a o, H a = some o → H' a ≠ none := fun a o h => by
    by_cases z : a ∈ G.dks
    · obtain ⟨o', e, _⟩ := SI.there s' H' a k.rs (by rw [k.dk]; exact z)
      rw [e]; simp
    · rw [k.fr a o h z]; simp
  refine ⟨R.wf1, fun a h => ?_, fun a o h n => k.fr a o (R.fr a o h n) n, k.dk, k.rs, R.inj, R.fre, fun i a h => ?_, R.len, fun i x h => ?_⟩
  · obtain ⟨o, e⟩ := R.avT (.inl h : Av G own a)
    exact hn a o e
  · obtain ⟨o, e, n⟩ := R.ont i a h
    exact ⟨o, k.fr a o e fun z => (R.fre i a h).2 (R.wf1 a z), n⟩
  · have q := R.sl i x h
    have own' : ∀ {x : Sl}, (∃ a, own i = some a ∧ σ[i]? = some (some (V.ref a)) ∧ OwnAt B (Av G own) H a x) → ∃ a, own i = some a ∧ σ[i]? = some (some (V.ref a)) ∧ OwnAt B (Av G own) H' a x := fun {x} ⟨a, ho, hs, hx⟩ =>
      ⟨a, ho, hs, hx.kp kp fun o e => k.fr a o e fun z => (R.fre i a ho).2 (R.wf1 a z)⟩
    cases x with
    | no => trivial
    | v y => obtain ⟨u, e, r⟩ := q; exact ⟨u, e, r.kp kp⟩
    | l ds => exact own' q
    | m kvs => exact own' q
    | g c a fs =>
      obtain ⟨gs, ho, hs, hg, r⟩ := q
      refine ⟨gs, ho, hs, hg, r.kp kp fun l hl o e => k.fr l o e fun z => ?_⟩
      obtain ⟨j, e'⟩ := gm_own ho hg l hl
      exact (R.fre j l e').2 (R.wf1 l z)
    | q _ _ => exact own' q
theorem Stp.trans (a : Stp G s' H H') (b : Stp G s'' H' H'') : Stp G s'' H H'' := ⟨fun c o h n => b.fr c o (a.fr c o h n) n, b.dk, b.rs⟩
theorem Rel.refl (R : Rel B G own ρ s σ H) : Stp G s H H := ⟨fun _ _ h _ => h, R.dk, R.rs⟩
/-- the heap has only grown -/
theorem Rel.same (R : Rel B G own ρ s σ H) (k : Same H H') : Stp G s H H' := by
  refine ⟨fun a o h _ => k a o h, R.dk, SI.keep s H H' R.rs (fun a h => ?_) fun a u _ h => k a u h⟩
  obtain ⟨o, e, _⟩ := SI.there s H a R.rs h
  rw [e]; exact k a o e
theorem same_upd {p : Addr} {o : HO} (h : H p = none) : Same H (upd H p o) := fun b u e => by
  rw [upd_ne (ne_of_none e h)]; exact e
theorem Rel.put (R : Rel B G own ρ s σ H) {p : Addr} {o : HO} (h : H p = none) : Stp G s H (L2.upd H p o) := R.same (same_upd h)
theorem RtV.kp (R : Rel B G own ρ s σ H) (k : Stp G s' H H') {v : V} {y : Val} (h : RtV B (Av G own) G.A0 H v y) : RtV B (Av G own) G.A0 H' v y := by
  have kp := R.kp k
  cases h with
  | of h => exact .of (h.kp kp)
  | lst h n r => exact .lst (k.fr _ _ h fun z => n (R.wf1 _ z)) n (RpL.kp kp r)
  | dic h n r => exact .dic ⟨k.fr _ _ h.1 fun z => n (R.wf1 _ z), h.2⟩ n (RpM.kp kp r)
  | dct h n e r => exact .dct (k.fr _ _ h fun z => n (R.wf1 _ z)) n e (RpM.kp kp r)
end
/-- an exception as it lies: its own dict's address, its fields -/
def ExR (B : Bs) (A : Addr → Prop) (e : Exn) (C : Addr) (od : Option Addr) (H : Hp) : Prop :=
  B.cls e.c = some C ∧ ((e.fs = [] ∧ od = none) ∨ ∃ dx fs', od = some dx ∧ H dx = some (.xd fs') ∧ ∀ p ∈ e.fs, ∃ u, fs'.lookup p.1 = some u ∧ Rp B A H u p.2)
def ExW (B : Bs) (G : Gh) (E : XK) (e : Exn) (s' : S) : Prop :=
  ∀ C od H', (∀ a o, G.H0 a = some o → a ∉ G.dks → H' a = some o) → SI.dks s' = G.dks → SI.rep s' H' → ExR B G.A0 e C od H' → E (.ref C) od H'
/-- how a function ended -/
def Out.sat {α : Type} (o : Out S α) (P : α → S → Prop) (T : Exn → S → Prop) : Prop := match o with
  | .ok y s => P y s
  | .ex e s => T e s
  | .bad => False
theorem Out.sat.bnd {α β : Type} {o : Out S α} {k : α → S → Out S β} {P : β → S → Prop} {T : Exn → S → Prop} (h : (o.bind k).sat P T) : o.sat (fun y s => (k y s).sat P T) T := by
  cases o with
  | bad => exact h
  | ex e s' => exact h
  | ok y s' => exact h
theorem Out.sat.mono {α : Type} {o : Out S α} {P P' : α → S → Prop} {T : Exn → S → Prop} (h : o.sat P T) (i : ∀ y s, P y s → P' y s) : o.sat P' T := by
  cases o with
  | bad => exact h
  | ex e s' => exact h
  | ok y s' => exact i _ _ h
abbrev Ex (S : Type) := Env → S → Out S Val
abbrev Tx (S : Type) := Env → S → Out S Bool
abbrev Exs (S : Type) := Env → S → Out S (List Val)
def tD (B : Bs) (E : XK) (f : Ex S) : TE := fun σ H Q => ∃ G own ρ s, Rel B G own ρ s σ H ∧ (f ρ s).sat (fun y s' => ∀ v H', Stp G s' H H' → RvV B (Av G own) H' v y → Q v H') fun e s' => ExW B G E e s'
def tB (B : Bs) (E : XK) (f : Ex S) : TE := fun σ H Q => ∃ G own ρ s, Rel B G own ρ s σ H ∧ (f ρ s).sat (fun y s' => ∀ v H', Stp G s' H H' → RtV B (Av G own) G.A0 H' v y → Q v H') fun e s' => ExW B G E e s'
def tT (B : Bs) (E : XK) (f : Tx S) : TT := fun σ H Q => ∃ G own ρ s, Rel B G own ρ s σ H ∧ (f ρ s).sat (fun y s' => ∀ H', Stp G s' H H' → Q y H') fun e s' => ExW B G E e s'
/-- argument lists: bb, whether lists of one's own are lent -/
inductive RtL (B : Bs) (A : Addr → Prop) (N : Addr → Prop) (H : Hp) : List V → List Val → Prop
  | nil : RtL B A N H [] []
  | cons {v : V} {y : Val} {vs : List V} {ys : List Val} (h : RtV B A N H v y) (t : RtL B A N H vs ys) : RtL B A N H (v :: vs) (y :: ys)
def tAs (B : Bs) (E : XK) (f : Exs S) : TA := fun σ H Q => ∃ G own ρ s, Rel B G own ρ s σ H ∧ (f ρ s).sat (fun y s' => ∀ v H', Stp G s' H H' → RtL B (Av G own) G.A0 H' v y → Q v H') fun e s' => ExW B G E e s'
abbrev DE (X : Cx) (B : Bs) (E : XK) (e : Expr) (f : Ex S) : Prop := PE X e (tD B E f)
abbrev DB (X : Cx) (B : Bs) (E : XK) (e : Expr) (f : Ex S) : Prop := PE X e (tB B E f)
abbrev DT (X : Cx) (B : Bs) (E : XK) (e : Expr) (f : Tx S) : Prop := PT X e (tT B E f)
abbrev DA (X : Cx) (B : Bs) (E : XK) (es : List Expr) (f : Exs S) : Prop := PA X es (tAs B E f)
theorem pe_imp {X : Cx} {e : Expr} {t t' : TE} (h : PE X e t) (i : ∀ σ H Q, t' σ H Q → t σ H Q) : PE X e t' := ⟨fun pins s σ H Q I q => h.run pins s σ H Q I (i σ H Q q)⟩
theorem pt_imp {X : Cx} {e : Expr} {t t' : TT} (h : PT X e t) (i : ∀ σ H Q, t' σ H Q → t σ H Q) : PT X e t' := ⟨fun pins s σ H Q I q => h.run pins s σ H Q I (i σ H Q q)⟩
theorem pw_imp {X : Cx} {e : Expr} {t t' : TT} (h : PW X e t) (i : ∀ σ H Q, t' σ H Q → t σ H Q) : PW X e t' := ⟨fun wh pins s σ H Q I q => h.run wh pins s σ H Q I (i σ H Q q)⟩
theorem pa_imp {X : Cx} {e : List Expr} {t t' : TA} (h : PA X e t) (i : ∀ σ H Q, t' σ H Q → t σ H Q) : PA X e t' := ⟨fun pos pins s σ H Q I q => h.run pos pins s σ H Q I (i σ H Q q)⟩
theorem ps_imp {X : Cx} {e : Stmt} {t t' : TS} (h : PS X e t) (i : ∀ D σ H, t' D σ H → t D σ H) : PS X e t' := ⟨fun pins s σ H D I q => h.run pins s σ H D I (i D σ H q)⟩
theorem pss_imp {X : Cx} {e : List Stmt} {t t' : TS} (h : PSs X e t) (i : ∀ D σ H, t' D σ H → t D σ H) : PSs X e t' := ⟨fun pins s σ H D I q => h.run pins s σ H D I (i D σ H q)⟩
theorem pi_imp {X : Cx} {tg e : Expr} {t t' : TI} (h : PI X tg e t) (i : ∀ σ H R, t' σ H R → t σ H R) : PI X tg e t' := ⟨fun pins s σ H R I q => h.run pins s σ H R I (i σ H R q)⟩
theorem pi_or {X : Cx} {tg e : Expr} {t t' : TI} (h : PI X tg e t) (h' : PI X tg e t') : PI X tg e (fun σ H R => t σ H R ∨ t' σ H R) := ⟨fun pins s σ H R I q => q.elim (h.run pins s σ H R I) (h'.run pins s σ H R I)⟩
section
variable {X : Cx} {B : Bs} {E : XK} {e a b c : Expr} {f fa fb fc : Ex S} {pos : Pos}
/-- a value as a lent one -/
theorem DE.lent (h : DE X B E e f) : DB X B E e f := pe_imp h fun σ H Q ⟨G, own, ρ, s, R, q⟩ => ⟨G, own, ρ, s, R, q.mono fun y s' q v H' k r => q v H' k (.of r)⟩
/-- one step of a reading -/
theorem tD.run {G : Gh} {own : Own} {ρ : Env} {s : S} {σ : Sg} {H : Hp} {Q : VK} (R : Rel B G own ρ s σ H) (k : Val → S → Prop)
    (h : (f ρ s).sat k fun e s' => ExW B G E e s')
    (hk : ∀ y s' v H', k y s' → Stp G s' H H' → RvV B (Av G own) H' v y → Rel B G own ρ s' σ H' → Q v H') : tD B E f σ H Q := ⟨G, own, ρ, s, R, h.mono fun y s' h => fun v H' st r => hk y s' v H' h st r (R.stp st)⟩
theorem tB.run {G : Gh} {own : Own} {ρ : Env} {s : S} {σ : Sg} {H : Hp} {Q : VK} (R : Rel B G own ρ s σ H) (k : Val → S → Prop)
    (h : (f ρ s).sat k fun e s' => ExW B G E e s')
    (hk : ∀ y s' v H', k y s' → Stp G s' H H' → RtV B (Av G own) G.A0 H' v y → Rel B G own ρ s' σ H' → Q v H') : tB B E f σ H Q := ⟨G, own, ρ, s, R, h.mono fun y s' h => fun v H' st r => hk y s' v H' h st r (R.stp st)⟩
theorem tT.run {f : Tx S} {G : Gh} {own : Own} {ρ : Env} {s : S} {σ : Sg} {H : Hp} {Q : Bool → Hp → Prop} (R : Rel B G own ρ s σ H) (k : Bool → S → Prop)
    (h : (f ρ s).sat k fun e s' => ExW B G E e s')
    (hk : ∀ y s' H', k y s' → Stp G s' H H' → Rel B G own ρ s' σ H' → Q y H') : tT B E f σ H Q := ⟨G, own, ρ, s, R, h.mono fun y s' h => fun H' st => hk y s' H' h st (R.stp st)⟩
theorem tAs.run {f : Exs S} {G : Gh} {own : Own} {ρ : Env} {s : S} {σ : Sg} {H : Hp} {Q : List V → Hp → Prop} (R : Rel B G own ρ s σ H) (k : List Val → S → Prop)
    (h : (f ρ s).sat k fun e s' => ExW B G E e s')
    (hk : ∀ y s' v H', k y s' → Stp G s' H H' → RtL B (Av G own) G.A0 H' v y → Rel B G own ρ s' σ H' → Q v H') : tAs B E f σ H Q := ⟨G, own, ρ, s, R, h.mono fun y s' h => fun v H' st r => hk y s' v H' h st r (R.stp st)⟩
def eVar (i : Nat) : Ex S := fun ρ s => match ρ[i]? with
  | some (.v y) => .ok y s
  | _ => .bad
def bVar (i : Nat) : Ex S := fun ρ s => match ρ[i]? with
  | some (.v y) => .ok y s
  | some (.l ds) => .ok (.d (.list ds)) s
  | some (.m ds) => .ok (.d (.dict ds)) s
  | _ => .bad
def eC (d : D) : Ex S := fun _ s => .ok (.d d) s
theorem de_var (i : Nat) (h : PE X e (tVar i)) : DE X B E e (eVar i : Ex S) := by
  refine pe_imp h fun σ H Q ⟨G, own, ρ, s, R, q⟩ => ?_
  unfold eVar at q
  cases z : ρ[i]? with
  | none => rw [z] at q; exact q.elim
  | some x =>
    rw [z] at q
    have p := R.sl i x z
    cases x with
    | v y =>
      obtain ⟨u, e, r⟩ := p
      exact ⟨u, e, q u H R.refl r⟩
    | no => exact q.elim
    | l _ => exact q.elim
    | m _ => exact q.elim
    | g _ _ _ => exact q.elim
    | q _ _ => exact q.elim
theorem db_var (i : Nat) (h : PE X e (tVar i)) : DB X B E e (bVar i : Ex S) := by
  refine pe_imp h fun σ H Q ⟨G, own, ρ, s, R, q⟩ => ?_
  unfold bVar at q
  cases z : ρ[i]? with
  | none => rw [z] at q; exact q.elim
  | some x =>
    rw [z] at q
    have p := R.sl i x z
    have nd : ∀ a, own i = some a → ¬ G.A0 a := fun a ho => (R.fre i a ho).2
    cases x with
    | v y =>
      obtain ⟨u, e, r⟩ := p
      exact ⟨u, e, q u H R.refl (.of r)⟩
    | no => exact q.elim
    | l ds =>
      obtain ⟨a, ho, hs, xs, hx, r⟩ := p
      exact ⟨_, hs, q _ H R.refl (.lst hx (nd a ho) r)⟩
    | m kvs =>
      obtain ⟨a, ho, hs, p⟩ := p
      rcases p with ⟨ks, hx, r⟩ | ⟨ks, hx, e, r⟩
      · exact ⟨_, hs, q _ H R.refl (.dic hx (nd a ho) r)⟩
      · exact ⟨_, hs, q _ H R.refl (.dct hx (nd a ho) e r)⟩
    | g _ _ _ => exact q.elim
    | q _ _ => exact q.elim
theorem de_c {v : V} {d : D} (h : PE X e (tC v)) (r : ∀ A H, Rp B A H v d) : DE X B E e (eC d : Ex S) := by
  refine pe_imp h fun σ H Q ⟨G, own, ρ, s, R, q⟩ => ?_
  exact q v H R.refl (r _ H)
theorem de_int {i : Int} {j : Nat} : DE X B E (.Constant (.int i) j pos) (eC (.int i) : Ex S) := de_c pe_int fun _ _ => .int i
theorem de_bl {i : Bool} {j : Nat} : DE X B E (.Constant (.bool i) j pos) (eC (.bool i) : Ex S) := de_c pe_bl fun _ _ => .bl i
theorem de_non {j : Nat} : DE X B E (.Constant .none j pos) (eC .none : Ex S) := de_c pe_non fun _ _ => .non
theorem de_str {x : Str} {j : Nat} : DE X B E (.Constant (.str x) j pos) (eC (.str x) : Ex S) := de_c pe_str fun _ _ => .str x
def eBin (op : D → D → Option D) (fa fb : Ex S) : Ex S := fun ρ s => (fa ρ s).bind fun x s1 => (fb ρ s1).bind fun y s2 => match x, y with
  | .d p, .d q => (match op p q with
    | some r => .ok (.d r) s2
    | none => .bad)
  | _, _ => .bad
/-- what an operation by values must do: the heap grows, the result stands for its data -/
def OpD (B : Bs) (r : R2) (op : D → D → Option D) : Prop := ∀ (A : Addr → Prop) (N : Addr → Prop) (H : Hp) (x y : V) (p q z : D) (Q : VK),
  (∀ p, H p = none → ¬ A p) → op p q = some z → RtV B A N H x (.d p) → RtV B A N H y (.d q) → (∀ v H', Same H H' → Rp B A H' v z → Q v H') → r x y H Q
theorem de_bin {op : D → D → Option D} {r : R2} (hr : OpD B r op) (h : PE X e (tOp r (tB B E fa) (tB B E fb))) : DE X B E e (eBin op fa fb) := by
  refine pe_imp h fun σ H Q ⟨G, own, ρ, s, R, q⟩ => ?_
  refine tB.run R _ q.bnd fun y s1 v H1 q1 k1 r1 R1 => ?_
  refine tB.run R1 _ q1.bnd fun z s2 w H2 q2 k2 r2 R2 => ?_
  cases y with
  | r _ => exact q2.elim
  | o _ _ => exact q2.elim
  | p _ => exact q2.elim
  | f _ => exact q2.elim
  | d p =>
    cases z with
    | r _ => exact q2.elim
    | o _ _ => exact q2.elim
    | p _ => exact q2.elim
    | f _ => exact q2.elim
    | d q =>
      cases hz : op p q with
      | none => simp only [hz] at q2; exact q2.elim
      | some d =>
        simp only [hz] at q2
        exact hr _ G.A0 H2 v w p q d Q (fun _ hp => R2.fresh hp) hz (r1.kp R1 k2) r2 fun u H3 sm rp => q2 u H3 ((k1.trans k2).trans (R2.same sm)) rp
/-- one part, and an operation by values -/
def eUn (op : D → Option D) (fa : Ex S) : Ex S := fun ρ s => (fa ρ s).bind fun x s1 => match x with
  | .d p => (match op p with
    | some r => .ok (.d r) s1
    | none => .bad)
  | _ => .bad
def UnD (B : Bs) (r : V → Hp → VK → Prop) (op : D → Option D) : Prop := ∀ (A : Addr → Prop) (N : Addr → Prop) (H : Hp) (x : V) (p z : D) (Q : VK),
  (∀ p, H p = none → ¬ A p) → op p = some z → RtV B A N H x (.d p) → (∀ v H', Same H H' → Rp B A H' v z → Q v H') → r x H Q
theorem de_un {op : D → Option D} {r : V → Hp → VK → Prop} (hr : UnD B r op) (h : PE X e (tUn r (tB B E fa))) : DE X B E e (eUn op fa) := by
  refine pe_imp h fun σ H Q ⟨G, own, ρ, s, R, q⟩ => ?_
  refine tB.run R _ q.bnd fun y s1 v H1 q1 k1 r1 R1 => ?_
  cases y with
  | r _ => exact q1.elim
  | o _ _ => exact q1.elim
  | p _ => exact q1.elim
  | f _ => exact q1.elim
  | d p =>
    cases hz : op p with
    | none => simp only [hz] at q1; exact q1.elim
    | some d =>
      simp only [hz] at q1
      exact hr _ G.A0 H1 v p d Q (fun _ hp => R1.fresh hp) hz r1 fun u H3 sm rp => q1 u H3 (k1.trans (R1.same sm)) rp
def aNil : Exs S := fun _ s => .ok [] s
def aCons (f : Ex S) (g : Exs S) : Exs S := fun ρ s => (f ρ s).bind fun x s1 => (g ρ s1).bind fun xs s2 => .ok (x :: xs) s2
theorem da_nil : DA X B E [] (aNil : Exs S) := by
  refine pa_imp pa_nil fun σ H Q ⟨G, own, ρ, s, R, q⟩ => ?_
  exact q [] H R.refl .nil
theorem da_cons {es : List Expr} {g : Exs S} (h : DB X B E e f) (hs : DA X B E es g) (hst : starEach (e :: es) X.env = (false, eval e X.env) :: starEach es X.env := by rfl) : DA X B E (e :: es) (aCons f g) := by
  refine pa_imp (pa_cons h hs hst) fun σ H Q ⟨G, own, ρ, s, R, q⟩ => ?_
  refine tB.run R _ q.bnd fun y s1 v H1 q1 k1 r1 R1 => ?_
  refine tAs.run R1 _ q1.bnd fun z s2 w H2 q2 k2 r2 R2 => ?_
  exact q2 _ _ (k1.trans k2) (.cons (r1.kp R1 k2) r2)
end
end DL
namespace DL
open PySem PySem.Spec PyProof.Rows L2
variable {S : Type} [SI S]
section
variable {B : Bs} {A : Addr → Prop} {N : Addr → Prop} {H : Hp} {x : V}
theorem rt_int {i : Int} (h : RtV B A N H x (.d (.int i))) : x = .int i := by
  cases h with
  | of h => cases h; rfl
theorem rt_bl {i : Bool} (h : RtV B A N H x (.d (.bool i))) : x = .bl i := by
  cases h with
  | of h => cases h; rfl
theorem rt_non (h : RtV B A N H x (.d .none)) : x = .non := by
  cases h with
  | of h => cases h; rfl
theorem rt_str {i : Str} (h : RtV B A N H x (.d (.str i))) : x = .str i := by
  cases h with
  | of h => cases h; rfl
theorem rt_tup {ds : List D} (h : RtV B A N H x (.d (.tuple ds))) : ∃ a xs, x = .ref a ∧ Tp B.K H a xs ∧ RpL B A H xs ds := by
  cases h with
  | of h => cases h with
    | tup h r => exact ⟨_, _, rfl, h, r⟩
theorem rt_lst {ds : List D} (h : RtV B A N H x (.d (.list ds))) : ∃ a xs, x = .ref a ∧ H a = some (.lst xs) ∧ RpL B A H xs ds := by
  cases h with
  | of h => cases h with
    | lst h n r => exact ⟨_, _, rfl, h, r⟩
  | lst h n r => exact ⟨_, _, rfl, h, r⟩
theorem rt_dp {d : D} (h : RtV B A N H x (.d d)) (c : d.canLay0 = true) : Dp B.K H x d := by
  cases h with
  | of h => exact Rp.dp h c
  | lst h n r => exact .lst (SqL.of h) (RpL.dp r (by simpa [PyData.canLay0] using c))
  | dic _ _ _ => simp [PyData.canLay0] at c
  | dct _ _ _ _ => simp [PyData.canLay0] at c
/-- a heap that has grown -/
theorem kp_same {H' : Hp} (k : Same H H') : Kp A H H' := ⟨fun a u _ h => k a u h, fun a o h _ => k a o h⟩
theorem new_tup {p : Addr} {xs : List V} {ds : List D} (hp : H p = none) (r : RpL B A H xs ds) : Rp B A (upd H p (.tup xs)) (.ref p) (.tuple ds) :=
  .tup (Tp.of upd_same) (RpL.kp (kp_same (same_upd hp)) r)
theorem new_lst {p : Addr} {xs : List V} {ds : List D} (hp : H p = none) (n : ¬ A p) (r : RpL B A H xs ds) : Rp B A (upd H p (.lst xs)) (.ref p) (.list ds) :=
  .lst upd_same n (RpL.kp (kp_same (same_upd hp)) r)
end
def opAdd : D → D → Option D
  | .int a, .int b => some (.int (a + b))
  | .tuple a, .tuple b => if a.length + b.length ≤ sizeLine then some (.tuple (a ++ b)) else none
  | .list a, .list b => if a.length + b.length ≤ sizeLine then some (.list (a ++ b)) else none
  | .str a, .str b => if a.length + b.length ≤ sizeLine then some (.str (a ++ b)) else none
  | _, _ => none
abbrev rAddA (K : PySem.W.Frag) : R2 := fun x y H Q => (rI0 fun i j => .int (i + j)) x y H Q ∨ (fun x y H Q => rCatA K x y H Q ∨ (fun x y H Q => rCat x y H Q ∨
  (fun x y H Q => ∃ i j, x = .str i ∧ y = .str j ∧ i.length + j.length ≤ sizeLine ∧ Q (.str (i ++ j)) H : R2) x y H Q) x y H Q) x y H Q
theorem op_addA {X : Cx} : OpR X (binaryOp .Add) (rAddA X.K) := op_add.or (op_catA.or (op_cat.or op_add_str))
theorem od_add {B : Bs} : OpD B (rAddA B.K) opAdd := by
  intro A N H x y p q z Q fr hz hx hy k
  unfold opAdd at hz
  split at hz
  · cases hz
    exact .inl ⟨_, _, rt_int hx, rt_int hy, k _ H (Same.refl H) (.int _)⟩
  · split at hz
    · rename_i a b hl
      cases hz
      obtain ⟨u, xs, rfl, tx, rx⟩ := rt_tup hx
      obtain ⟨w, ys, rfl, ty, ry⟩ := rt_tup hy
      refine .inr (.inl ⟨u, w, xs, ys, rfl, rfl, tx.sq, ty.sq, by rw [rx.len, ry.len]; exact hl, fun e => ?_, fun _ e => ?_, fun _ _ p hp => ?_⟩)
      · subst e
        cases rx
        exact k _ H (Same.refl H) (.tup ty ry)
      · subst e
        cases ry
        exact k _ H (Same.refl H) (.tup tx (by rw [List.append_nil]; exact rx))
      · exact k _ _ (same_upd hp) (new_tup hp (rx.app ry))
    · cases hz
  · split at hz
    · rename_i a b hl
      cases hz
      obtain ⟨u, xs, rfl, tx, rx⟩ := rt_lst hx
      obtain ⟨w, ys, rfl, ty, ry⟩ := rt_lst hy
      exact .inr (.inr (.inl ⟨u, w, xs, ys, rfl, rfl, tx, ty, by rw [rx.len, ry.len]; exact hl, fun p hp => k _ _ (same_upd hp) (new_lst hp (fr p hp) (rx.app ry))⟩))
    · cases hz
  · split at hz
    · rename_i a b hl
      cases hz
      exact .inr (.inr (.inr ⟨_, _, rt_str hx, rt_str hy, hl, k _ H (Same.refl H) (.str _)⟩))
    · cases hz
  · cases hz
def opSub : D → D → Option D
  | .int a, .int b => some (.int (a - b))
  | _, _ => none
theorem od_sub {B : Bs} : OpD B (rI0 fun i j => .int (i - j)) opSub := by
  intro A N H x y p q z Q fr hz hx hy k
  unfold opSub at hz
  split at hz
  · cases hz
    exact ⟨_, _, rt_int hx, rt_int hy, k _ H (Same.refl H) (.int _)⟩
  · cases hz
/-- both factors bounded together -/
def mulOk (a b : Int) : Bool := decide ((-(2 ^ 64) < a ∧ a < 2 ^ 64) ∨ (-(2 ^ 64) < b ∧ b < 2 ^ 64))
theorem tmul_none (l : Addr) (items : Array Value) (n : Nat) (dd : Option Addr) (sl : Array (Option Value)) (x : Int) (u : Tok) (c0 : (decide (x < -(2 ^ 63)) || decide (x ≥ 2 ^ 63)) = false) (c1 : (items.isEmpty || x == 1) = false) (c2 : (decide (x ≤ 0) || items.isEmpty) = true) :
    Meets (Builtin.«tuple.__mul__» ⟨[.ref l, .int x u], []⟩) (fun _ R s => s.heap.get? l = some { cls := .type "tuple", dict := dd, data := .seq items n, slots := sl } ∧
      R (.ok (.ret (Value.ref s.heap.objs.size))) { s with heap := s.heap.push { cls := Value.type "tuple", data := Data.seq #[] }, toks := s.toks }) :=
  .of_wp fun prog w A R s h => by
    obtain ⟨hp, g, d, tk, os⟩ := s
    obtain ⟨hl, h⟩ := h
    have f1 := AutoSeq1.idx_int
    wp_walk using wpAny_loadPart' hl
    repeat (first
      | (refine wpAny_ite_false (decide_eq_false (by rw [c0]; exact Bool.false_ne_true)) ?_; wp_walk using wpAny_loadPart' hl)
      | (refine wpAny_ite_false (decide_eq_false (by rw [c1]; exact Bool.false_ne_true)) ?_; wp_walk using wpAny_loadPart' hl)
      | (refine wpAny_ite_true (decide_eq_true c2) ?_; wp_walk using wpAny_loadPart' hl))
    exact ⟨_, rfl, h⟩
theorem tmul_same (l : Addr) (items : Array Value) (n : Nat) (dd : Option Addr) (sl : Array (Option Value)) (x : Int) (u : Tok) (c0 : (decide (x < -(2 ^ 63)) || decide (x ≥ 2 ^ 63)) = false) (c1 : (items.isEmpty || x == 1) = true) :
    Meets (Builtin.«tuple.__mul__» ⟨[.ref l, .int x u], []⟩) (fun _ R s => s.heap.get? l = some { cls := .type "tuple", dict := dd, data := .seq items n, slots := sl } ∧
      R (.ok (.ret (Value.ref l))) s) :=
  .of_wp fun prog w A R s h => by
    obtain ⟨hp, g, d, tk, os⟩ := s
    obtain ⟨hl, h⟩ := h
    have f1 := AutoSeq1.idx_int
    wp_walk using wpAny_loadPart' hl
    repeat (first
      | (refine wpAny_ite_false (decide_eq_false (by rw [c0]; exact Bool.false_ne_true)) ?_; wp_walk using wpAny_loadPart' hl)
      | (refine wpAny_ite_true (decide_eq_true c1) ?_; wp_walk using wpAny_loadPart' hl))
    exact ⟨_, rfl, h⟩
/-- a tuple not at all, or once -/
def rRepZ (K : PySem.W.Frag) : R2 := fun x y H Q => ∃ l k xs, x = .ref l ∧ y = .int k ∧ SqT K H l xs ∧ xs ≠ [] ∧ -1000 ≤ k ∧ k ≤ 0 ∧ ∀ p, H p = none → Q (.ref p) (upd H p (.tup []))
def rRepS (K : PySem.W.Frag) : R2 := fun x y H Q => ∃ l k xs, x = .ref l ∧ y = .int k ∧ SqT K H l xs ∧ -1000 ≤ k ∧ k ≤ 4000 ∧ (xs = [] ∨ k = 1) ∧ Q (.ref l) H
theorem op_repZ {X : Cx} : OpR X (binaryOp .Mult) (rRepZ X.K) := by
  intro pins s σ H x y v u Q I rx ry h
  obtain ⟨l, k, xs, rfl, rfl, hT, hne, h1, h2, q⟩ := h
  cases rx
  obtain ⟨t, rfl⟩ := ry
  obtain ⟨its, r, ⟨⟨cls, dd, data, sl⟩, ho, hc, n, hd⟩, hs⟩ := I.tuple hT
  simp only at hc hd
  subst hc hd
  have hle : its.length = xs.length := r.length.symm
  have hn : its ≠ [] := fun e => hne (by
    rw [e] at hle
    exact List.eq_nil_of_length_eq_zero hle.symm)
  have hi : its.toArray.isEmpty = false := by
    cases its with
    | nil => exact absurd rfl hn
    | cons a b => rfl
  have c0 : (decide (k < -(2 ^ 63)) || decide (k ≥ 2 ^ 63)) = false := by
    rw [decide_eq_false (by omega), decide_eq_false (by omega)] <;> rfl
  have c1 : (its.toArray.isEmpty || k == 1) = false := by
    rw [hi, Bool.false_or]
    exact beq_eq_false_iff_ne.mpr (by omega)
  have c2 : (decide (k ≤ 0) || its.toArray.isEmpty) = true := by
    rw [decide_eq_true h2]; rfl
  refine wpAny_binaryOp_repeat_ref (T := "tuple") (U := "int") (by decide) ⟨_, ho, rfl⟩ (fun s' => typeIs_int s' k t) noFill_tuple_mul F.fills_int_mul F.slot_int_rmul repeat_tuple F.slot_int_index.lookup
    (call_meets F.slot_int_rmul (typeIs_int s k t) F.entry_int_rmul (F.args_int_rmul_2 _ _) (int_rmul_tuple k t l its.toArray n dd sl)
      ⟨ho, rfl, ⟨_, ho, rfl⟩, call_meets F.slot_tuple_mul ⟨_, ho, rfl⟩ F.entry_tuple_mul (F.args_tuple_mul_2 _ _) (tmul_none l its.toArray n dd sl k t c0 c1 c2) ⟨ho, ?_⟩⟩)
  refine ⟨.ref s.heap.objs.size, _, I.laid (t' := s.toks) (o := .tup []) (fun b ob q => Heap.get?_push_of_some _ q) (Nat.le_refl _) ?_, rfl, q _ (I.hok.fresh (Nat.le_refl _))⟩
  exact ⟨Nat.zero_le _, [], .nil, IsTup.new _ _⟩
theorem op_repS {X : Cx} : OpR X (binaryOp .Mult) (rRepS X.K) := by
  intro pins s σ H x y v u Q I rx ry h
  obtain ⟨l, k, xs, rfl, rfl, hT, h1, h2, hx, q⟩ := h
  cases rx
  obtain ⟨t, rfl⟩ := ry
  obtain ⟨its, r, ⟨⟨cls, dd, data, sl⟩, ho, hc, n, hd⟩, hs⟩ := I.tuple hT
  simp only at hc hd
  subst hc hd
  have hle : its.length = xs.length := r.length.symm
  have c0 : (decide (k < -(2 ^ 63)) || decide (k ≥ 2 ^ 63)) = false := by
    rw [decide_eq_false (by omega), decide_eq_false (by omega)] <;> rfl
  have c1 : (its.toArray.isEmpty || k == 1) = true := by
    rcases hx with rfl | rfl
    · rw [List.eq_nil_of_length_eq_zero hle]; rfl
    · exact Bool.or_true _
  refine wpAny_binaryOp_repeat_ref (T := "tuple") (U := "int") (by decide) ⟨_, ho, rfl⟩ (fun s' => typeIs_int s' k t) noFill_tuple_mul F.fills_int_mul F.slot_int_rmul repeat_tuple F.slot_int_index.lookup
    (call_meets F.slot_int_rmul (typeIs_int s k t) F.entry_int_rmul (F.args_int_rmul_2 _ _) (int_rmul_tuple k t l its.toArray n dd sl)
      ⟨ho, rfl, ⟨_, ho, rfl⟩, call_meets F.slot_tuple_mul ⟨_, ho, rfl⟩ F.entry_tuple_mul (F.args_tuple_mul_2 _ _) (tmul_same l its.toArray n dd sl k t c0 c1) ⟨ho, ?_⟩⟩)
  exact ⟨.ref l, _, I, rfl, q⟩
/-- what a product of a length and a number of times must be -/
theorem rep_side {n : Nat} {k : Int} (h0 : 0 < n) (h1 : 2 ≤ k ∧ k ≤ 4000) (hn : n ≤ 1000) :
    (n : Int) * k ≤ 4000000 ∧ k.toNat * n ≤ 4000000 ∧ (decide (k < -(2 ^ 63)) || decide (k ≥ 2 ^ 63)) = false ∧ (k == 1) = false ∧ decide (k ≤ 0) = false := by
  have a := Int.mul_le_mul (show (n : Int) ≤ 1000 by omega) h1.2 (by omega) (by decide)
  have b := Nat.mul_le_mul (show k.toNat ≤ 4000 by omega) hn
  refine ⟨by omega, by omega, ?_, beq_eq_false_iff_ne.mpr (by omega), decide_eq_false (by omega)⟩
  rw [decide_eq_false (show ¬ k < -(2 ^ 63) by omega), decide_eq_false (show ¬ k ≥ 2 ^ 63 by omega)]
  rfl
/-- a tuple some times, up to 4000 -/
def rRepT4 (K : PySem.W.Frag) : R2 := fun x y H Q => ∃ l k xs, x = .ref l ∧ y = .int k ∧ SqT K H l xs ∧ 0 < xs.length ∧ (2 ≤ k ∧ k ≤ 4000) ∧ xs.length ≤ 1000 ∧ ∀ p, H p = none → Q (.ref p) (upd H p (.tup (List.replicate k.toNat xs).flatten))
theorem op_repT4 {X : Cx} : OpR X (binaryOp .Mult) (rRepT4 X.K) := by
  intro pins s σ H _ _ _ _ Q I rx ry ⟨l, k, xs, ex, ey, hT, hp, hk, hz, q⟩
  subst ex ey
  obtain rfl := show _ = Value.ref l from rx
  obtain ⟨tk, rfl⟩ := ry
  obtain ⟨its, r, ht, _⟩ := I.tuple hT
  obtain ⟨⟨c, dd, da, sl⟩, ho, e1, n, e2⟩ := id ht
  dsimp only at e1 e2
  subst e1 e2
  have hlen := r.length
  have hsz : its.toArray.size = xs.length := by simp [hlen]
  obtain ⟨b1, b2, b3, b4, b5⟩ := rep_side hp hk hz
  have hem : its.toArray.isEmpty = false := by
    rw [Array.isEmpty_eq_false_iff]
    intro e
    rw [e] at hsz
    simp at hsz
    omega
  have hfl : (List.replicate k.toNat its).flatten.length ≤ 4000000 := by
    rw [PyProof.Rows.lm_len_rep_flat, ← hlen]
    exact b2
  have big : 4000000 < sizeLine := by rw [sizeLine_eq]; decide
  have mu := tuple_mulW l its.toArray n dd sl k tk b3 (by rw [hem, b4]; rfl) (by rw [b5, hem]; rfl) (by rw [hsz]; omega)
    (by unfold Builtin.Tuple.tupleTooMany; rw [hsz]; exact decide_eq_false (by rw [sizeLine_eq]; omega)) (by rw [size_rep, List.size_toArray]; omega)
  have goal := I.laid (t' := s.toks) (h' := s.heap.push { cls := .type "tuple", data := .seq (List.replicate k.toNat its).flatten.toArray }) (o := .tup (List.replicate k.toNat xs).flatten)
    (fun _ _ z => Heap.get?_push_of_some _ z) (Nat.le_refl _) ⟨by rw [PyProof.Rows.lm_len_rep_flat]; omega, _, r.rep k.toNat, IsTup.new _ _⟩
  refine wpAny_binaryOp_repeat_ref (T := "tuple") (U := "int") (by decide) ⟨_, ho, rfl⟩ (fun s' => typeIs_int s' k tk) noFill_tuple_mul F.fills_int_mul F.slot_int_rmul
    repeat_tuple F.slot_int_index.lookup ?_
  refine call_meets F.slot_int_rmul (typeIs_int s k tk) F.entry_int_rmul (F.args_int_rmul_2 _ _) (int_rmul_tuple k tk l its.toArray n dd sl) ⟨ho, rfl, ⟨_, ho, rfl⟩, ?_⟩
  refine call_meets F.slot_tuple_mul ⟨_, ho, rfl⟩ F.entry_tuple_mul (F.args_tuple_mul_2 _ _) mu ⟨ho, ?_⟩
  rw [size_rep]
  exact ⟨.ref s.heap.objs.size, _, goal, rfl, q _ (I.hok.fresh (Nat.le_refl _))⟩
/-- a tuple, a list times a number -/
def opMul : D → D → Option D
  | .int a, .int b => if mulOk a b then some (.int (a * b)) else none
  | .tuple a, .int k => if -1000 ≤ k ∧ k ≤ 4000 ∧ a.length ≤ 1000 then some (.tuple (List.replicate k.toNat a).flatten) else none
  | .list a, .int k => if -(2 ^ 63) ≤ k ∧ k < 2 ^ 63 ∧ a.length * k.toNat ≤ sizeLine then some (.list (List.replicate k.toNat a).flatten) else none
  | _, _ => none
theorem RpL.rep {B : Bs} {A : Addr → Prop} {H : Hp} {xs : List V} {ds : List D} (r : RpL B A H xs ds) : ∀ k : Nat, RpL B A H (List.replicate k xs).flatten (List.replicate k ds).flatten
  | 0 => by simpa using RpL.nil
  | k + 1 => by
    rw [List.replicate_succ, List.replicate_succ, List.flatten_cons, List.flatten_cons]
    exact r.app (RpL.rep r k)
abbrev rMulA (K : PySem.W.Frag) : R2 := fun x y H Q => (rI CMul fun i j => .int (i * j)) x y H Q ∨ (fun x y H Q => rRepT4 K x y H Q ∨ (fun x y H Q => rRep x y H Q ∨ (fun x y H Q => rRepZ K x y H Q ∨ rRepS K x y H Q : R2) x y H Q : R2) x y H Q : R2) x y H Q
theorem op_mulA {X : Cx} : OpR X (binaryOp .Mult) (rMulA X.K) := op_mul.or (op_repT4.or (op_rep.or (op_repZ.or op_repS)))
theorem od_mul {B : Bs} : OpD B (rMulA B.K) opMul := by
  intro A N H x y p q z Q fr hz hx hy k
  unfold opMul at hz
  split at hz
  · split at hz
    · rename_i a b hm
      cases hz
      exact .inl ⟨_, _, rt_int hx, rt_int hy, (by unfold mulOk at hm; rw [decide_eq_true_eq] at hm; exact hm), k _ H (Same.refl H) (.int _)⟩
    · cases hz
  · split at hz
    · rename_i a n hm
      cases hz
      obtain ⟨u, xs, rfl, tx, rx⟩ := rt_tup hx
      by_cases h1 : xs = [] ∨ n = 1
      · refine .inr (.inr (.inr (.inr ⟨u, n, xs, rfl, rt_int hy, tx.sq, hm.1, hm.2.1, h1, k _ H (Same.refl H) ?_⟩)))
        rcases h1 with rfl | rfl
        · cases rx
          have e : (List.replicate n.toNat ([] : List D)).flatten = [] := by simp
          rw [e]
          exact .tup tx .nil
        · have e : (List.replicate (1 : Int).toNat a).flatten = a := by
            show (List.replicate 1 a).flatten = a
            simp
          rw [e]
          exact .tup tx rx
      · by_cases h2 : n ≤ 0
        · refine .inr (.inr (.inr (.inl ⟨u, n, xs, rfl, rt_int hy, tx.sq, fun e => h1 (.inl e), hm.1, h2, fun p hp => k _ _ (same_upd hp) ?_⟩)))
          have e : n.toNat = 0 := by omega
          rw [e]
          exact new_tup hp .nil
        · exact .inr (.inl ⟨u, n, xs, rfl, rt_int hy, tx.sq, List.length_pos_iff.mpr fun e => h1 (.inl e), ⟨(by have := fun e => h1 (.inr e); omega), hm.2.1⟩, by rw [rx.len]; exact hm.2.2, fun p hp => k _ _ (same_upd hp) (new_tup hp (rx.rep _))⟩)
    · cases hz
  · split at hz
    · rename_i a n hm
      cases hz
      obtain ⟨u, xs, rfl, tx, rx⟩ := rt_lst hx
      exact .inr (.inr (.inl ⟨u, n, xs, rfl, rt_int hy, tx, hm.1, hm.2.1, by rw [rx.len]; exact hm.2.2, fun p hp => k _ _ (same_upd hp) (new_lst hp (fr p hp) (rx.rep _))⟩))
    · cases hz
  · cases hz
/-- of small positive divisors -/
def opDiv : D → D → Option D
  | .int a, .int b => if 0 < b ∧ b < 1073741824 then some (.int (a / b)) else none
  | _, _ => none
theorem od_div {B : Bs} : OpD B (rI CDiv fun i j => .int (i / j)) opDiv := by
  intro A N H x y p q z Q fr hz hx hy k
  unfold opDiv at hz
  split at hz
  · split at hz
    · rename_i a b hm
      cases hz
      exact ⟨_, _, rt_int hx, rt_int hy, hm, k _ H (Same.refl H) (.int _)⟩
    · cases hz
  · cases hz
def opMod : D → D → Option D
  | .int a, .int b => if 0 < b then some (.int (a % b)) else none
  | _, _ => none
theorem od_mod {B : Bs} : OpD B (rI (fun _ j => 0 < j) fun i j => .int (i % j)) opMod := by
  intro A N H x y p q z Q fr hz hx hy k
  unfold opMod at hz
  split at hz
  · split at hz
    · rename_i a b hm
      cases hz
      exact ⟨_, _, rt_int hx, rt_int hy, hm, k _ H (Same.refl H) (.int _)⟩
    · cases hz
  · cases hz
def opPow : D → D → Option D
  | .int a, .int b => if 0 ≤ b ∧ b ≤ 1000000 ∧ a.natAbs < 2 ^ 64 then some (.int (a ^ b.toNat)) else none
  | _, _ => none
theorem od_pow {B : Bs} : OpD B (rI CPow fun i j => .int (i ^ j.toNat)) opPow := by
  intro A N H x y p q z Q fr hz hx hy k
  unfold opPow at hz
  split at hz
  · split at hz
    · rename_i a b hm
      cases hz
      exact ⟨_, _, rt_int hx, rt_int hy, hm, k _ H (Same.refl H) (.int _)⟩
    · cases hz
  · cases hz
def opNeg : D → Option D
  | .int a => some (.int (-a))
  | _ => none
theorem ud_neg {B : Bs} : UnD B (rU fun i => .int (-i)) opNeg := by
  intro A N H x p z Q fr hz hx k
  unfold opNeg at hz
  split at hz
  · cases hz
    exact ⟨_, rt_int hx, k _ H (Same.refl H) (.int _)⟩
  · cases hz
def opRel (f : Int → Int → Bool) : D → D → Option D
  | .int a, .int b => some (.bool (f a b))
  | _, _ => none
theorem od_rel {B : Bs} {f : Int → Int → Bool} : OpD B (rI0 fun i j => .bl (f i j)) (opRel f) := by
  intro A N H x y p q z Q fr hz hx hy k
  unfold opRel at hz
  split at hz
  · cases hz
    exact ⟨_, _, rt_int hx, rt_int hy, k _ H (Same.refl H) (.bl _)⟩
  · cases hz
def opEq : D → D → Option D := fun d e => if SeqAt.shaped d && SeqAt.shaped e then some (.bool (PyData.eqv d e)) else none
theorem od_eq {B : Bs} : OpD B (rEqD B.K) opEq := by
  intro A N H x y p q z Q fr hz hx hy k
  unfold opEq at hz
  split at hz
  · rename_i h
    cases hz
    rw [Bool.and_eq_true] at h
    exact ⟨p, q, rt_dp hx (SeqAt.canLay_of_shaped h.1), rt_dp hy (SeqAt.canLay_of_shaped h.2), h.1, h.2, k _ H (Same.refl H) (.bl _)⟩
  · cases hz
def opNe : D → D → Option D := fun d e => if SeqAt.shaped d && SeqAt.shaped e then some (.bool (!PyData.eqv d e)) else none
theorem od_ne {B : Bs} : OpD B (rNeD B.K) opNe := by
  intro A N H x y p q z Q fr hz hx hy k
  unfold opNe at hz
  split at hz
  · rename_i h
    cases hz
    rw [Bool.and_eq_true] at h
    exact ⟨p, q, rt_dp hx (SeqAt.canLay_of_shaped h.1), rt_dp hy (SeqAt.canLay_of_shaped h.2), h.1, h.2, k _ H (Same.refl H) (.bl _)⟩
  · cases hz
def isNone : D → Bool
  | .none => true
  | _ => false
theorem rt_isNone {B : Bs} {A : Addr → Prop} {N : Addr → Prop} {H : Hp} {x : V} {d : D} (h : RtV B A N H x (.d d)) : decide (x = .non) = isNone d := by
  cases h with
  | of h => cases h <;> simp [isNone]
  | lst _ _ _ => simp [isNone]
  | dic _ _ _ => simp [isNone]
  | dct _ _ _ _ => simp [isNone]
def opIs : D → D → Option D
  | d, .none => some (.bool (isNone d))
  | .bool a, .bool b => some (.bool (a == b))
  | _, _ => none
def opIsNot : D → D → Option D
  | d, .none => some (.bool (!isNone d))
  | .bool a, .bool b => some (.bool (!(a == b)))
  | _, _ => none
theorem bl_beq (a b : Bool) : (Value.bool a == Value.bool b) = (a == b) := by cases a <;> cases b <;> decide
abbrev rIsA : R2 := fun x y H Q => (y = .non ∧ Q (.bl (decide (x = .non))) H) ∨ ∃ a b, x = .bl a ∧ y = .bl b ∧ Q (.bl (a == b)) H
abbrev rIsNotA : R2 := fun x y H Q => (y = .non ∧ Q (.bl (!decide (x = .non))) H) ∨ ∃ a b, x = .bl a ∧ y = .bl b ∧ Q (.bl (!(a == b))) H
theorem op_isA {X : Cx} : OpR X (compareOp .Is) rIsA := by
  intro pins s σ H x y v u Q I rx ry h
  rcases h with h | h
  · exact op_isN pins s σ H x y v u Q I rx ry h
  · obtain ⟨a, b, rfl, rfl, q⟩ := h
    cases (show v = Value.bool a from rx)
    cases (show u = Value.bool b from ry)
    exact wpAny_is_plain rfl (fin_bl I q (bl_beq a b).symm)
theorem op_isnotA {X : Cx} : OpR X (compareOp .IsNot) rIsNotA := by
  intro pins s σ H x y v u Q I rx ry h
  rcases h with h | h
  · exact op_notN pins s σ H x y v u Q I rx ry h
  · obtain ⟨a, b, rfl, rfl, q⟩ := h
    cases (show v = Value.bool a from rx)
    cases (show u = Value.bool b from ry)
    exact wpAny_isNot_plain rfl (fin_bl I q (congrArg not (bl_beq a b).symm))
theorem od_is {B : Bs} : OpD B rIsA opIs := by
  intro A N H x y p q z Q fr hz hx hy k
  unfold opIs at hz
  split at hz
  · cases hz
    exact .inl ⟨rt_non hy, by rw [rt_isNone hx]; exact k _ H (Same.refl H) (.bl _)⟩
  · cases hz
    exact .inr ⟨_, _, rt_bl hx, rt_bl hy, k _ H (Same.refl H) (.bl _)⟩
  · cases hz
theorem od_isnot {B : Bs} : OpD B rIsNotA opIsNot := by
  intro A N H x y p q z Q fr hz hx hy k
  unfold opIsNot at hz
  split at hz
  · cases hz
    exact .inl ⟨rt_non hy, by rw [rt_isNone hx]; exact k _ H (Same.refl H) (.bl _)⟩
  · cases hz
    exact .inr ⟨_, _, rt_bl hx, rt_bl hy, k _ H (Same.refl H) (.bl _)⟩
  · cases hz
section
variable {X : Cx} {E : XK} {e a b c : Expr} {f fa fb fc : Ex S} {pos : Pos} {B : Bs}
theorem de_add (hB : B.K = X.K) (ha : DB X B E a fa) (hb : DB X B E b fb) : DE X B E (.BinOp a .Add b pos) (eBin opAdd fa fb) := de_bin od_add (by rw [hB]; exact pe_op op_addA ha hb)
theorem de_sub (ha : DB X B E a fa) (hb : DB X B E b fb) : DE X B E (.BinOp a .Sub b pos) (eBin opSub fa fb) := de_bin od_sub (pe_op op_sub ha hb)
theorem de_mul (hB : B.K = X.K) (ha : DB X B E a fa) (hb : DB X B E b fb) : DE X B E (.BinOp a .Mult b pos) (eBin opMul fa fb) := de_bin od_mul (by rw [hB]; exact pe_op op_mulA ha hb)
theorem de_div (ha : DB X B E a fa) (hb : DB X B E b fb) : DE X B E (.BinOp a .FloorDiv b pos) (eBin opDiv fa fb) := de_bin od_div (pe_op op_fdiv ha hb)
theorem de_mod (ha : DB X B E a fa) (hb : DB X B E b fb) : DE X B E (.BinOp a .Mod b pos) (eBin opMod fa fb) := de_bin od_mod (pe_op op_mod ha hb)
theorem de_pow (ha : DB X B E a fa) (hb : DB X B E b fb) : DE X B E (.BinOp a .Pow b pos) (eBin opPow fa fb) := de_bin od_pow (pe_op op_pow ha hb)
theorem de_neg (ha : DB X B E a fa) : DE X B E (.UnaryOp .USub a pos) (eUn opNeg fa) := de_un ud_neg (pe_un un_neg ha)
structure CmpD (X : Cx) (B : Bs) (op : CmpOp) (f : D → D → Option D) : Prop where
  ex : ∃ r : R2, OpR X (compareOp op) r ∧ OpD B r f
theorem cd_lt : CmpD X B .Lt (opRel fun i j => decide (i < j)) := ⟨_, op_lt, od_rel⟩
theorem cd_le : CmpD X B .LtE (opRel fun i j => decide (i ≤ j)) := ⟨_, op_le, od_rel⟩
theorem cd_gt : CmpD X B .Gt (opRel fun i j => decide (j < i)) := ⟨_, op_gt, od_rel⟩
theorem cd_ge : CmpD X B .GtE (opRel fun i j => decide (j ≤ i)) := ⟨_, op_ge, od_rel⟩
theorem cd_eq (hB : B.K = X.K) (hu : X.A.units + 64 < cLine) : CmpD X B .Eq opEq := ⟨_, op_eqD hu, by rw [← hB]; exact od_eq⟩
theorem cd_ne (hB : B.K = X.K) (hu : X.A.units + 64 < cLine) : CmpD X B .NotEq opNe := ⟨_, op_neD hu, by rw [← hB]; exact od_ne⟩
theorem cd_is : CmpD X B .Is opIs := ⟨_, op_isA, od_is⟩
theorem cd_isnot : CmpD X B .IsNot opIsNot := ⟨_, op_isnotA, od_isnot⟩
theorem de_cmp {op : CmpOp} {g : D → D → Option D} (hc : CmpD X B op g) (ha : DB X B E a fa) (hb : DB X B E b fb) (hm : behindInMarks op b = false := by first | exact nomark _ | rfl) : DE X B E (.Compare a [op] [b] pos) (eBin g fa fb) := by
  obtain ⟨r, h1, h2⟩ := hc
  exact de_bin h2 (pe_cmpR h1 ha hb hm)
/-- an expression whose value is a truth -/
def tOf (f : Ex S) : Tx S := fun ρ s => (f ρ s).bind fun y s1 => match y with
  | .d (.bool b) => .ok b s1
  | _ => .bad
/-- from a value's reading to a test's -/
theorem tT_of (f : Ex S) {σ : Sg} {H : Hp} {Q : Bool → Hp → Prop} (h : tT B E (tOf f) σ H Q) : tB B E f σ H fun x H' => ∃ k, x = .bl k ∧ Q k H' := by
  obtain ⟨G, own, ρ, s, R, q⟩ := h
  refine tB.run R _ q.bnd fun y s1 v H1 q1 k1 r1 R1 => ?_
  cases y with
  | r _ => exact q1.elim
  | o _ _ => exact q1.elim
  | p _ => exact q1.elim
  | f _ => exact q1.elim
  | d p =>
    cases p with
    | bool b => exact ⟨b, rt_bl r1, q1 H1 k1⟩
    | _ => exact q1.elim
theorem dt_cmp {op : CmpOp} {g : D → D → Option D} (hc : CmpD X B op g) (ha : DB X B E a fa) (hb : DB X B E b fb) (hm : behindInMarks op b = false := by first | exact nomark _ | rfl) : DT X B E (.Compare a [op] [b] pos) (tOf (eBin g fa fb)) := by
  obtain ⟨r, h1, h2⟩ := hc
  refine pt_imp (pt_cmpR h1 ha hb hm) fun σ H Q h => ?_
  obtain ⟨G, own, ρ, s, R, q⟩ := h
  refine tB.run R _ q.bnd.bnd fun y s1 v H1 q1 k1 r1 R1 => ?_
  refine tB.run R1 _ q1.bnd fun z s2 w H2 q2 k2 r2 R2 => ?_
  cases y with
  | r _ => exact q2.elim
  | o _ _ => exact q2.elim
  | p _ => exact q2.elim
  | f _ => exact q2.elim
  | d p =>
    cases z with
    | r _ => exact q2.elim
    | o _ _ => exact q2.elim
    | p _ => exact q2.elim
    | f _ => exact q2.elim
    | d q =>
      cases hz : g p q with
      | none => simp only [hz] at q2; exact q2.elim
      | some d =>
        simp only [hz] at q2
        refine h2 _ G.A0 H2 v w p q d _ (fun _ hp => R2.fresh hp) hz (r1.kp R1 k2) r2 fun u H3 sm rp => ?_
        cases d with
        | bool b =>
          cases rp
          exact ⟨b, rfl, q2 H3 ((k1.trans k2).trans (R2.same sm))⟩
        | _ => exact q2.elim
theorem dt_val (h : DB X B E e f) (he : ∀ whole, isTrue e X.env whole = (do let v ← whole; standAt e.pos; holding [v] (truthy v)) := by intro _; rfl) : DT X B E e (tOf f) :=
  pt_imp (pt_val h he) fun σ H Q q => tT_of f q
def xNot (f : Tx S) : Tx S := fun ρ s => (f ρ s).bind fun b s1 => .ok (!b) s1
def xAnd (f g : Tx S) : Tx S := fun ρ s => (f ρ s).bind fun b s1 => if b then g ρ s1 else .ok false s1
def xOr (f g : Tx S) : Tx S := fun ρ s => (f ρ s).bind fun b s1 => if b then .ok true s1 else g ρ s1
theorem dt_not {f : Tx S} (h : DT X B E a f) : DT X B E (.UnaryOp .Not a pos) (xNot f) := by
  refine pt_imp (pt_not h) fun σ H Q ⟨G, own, ρ, s, R, q⟩ => ?_
  refine tT.run R _ q.bnd fun y s1 H1 q1 k1 R1 => ?_
  exact q1 H1 k1
abbrev DW (X : Cx) (B : Bs) (E : XK) (e : Expr) (f : Tx S) : Prop := PW X e (tT B E f)
theorem dw_and1 {f : Tx S} (h : DT X B E a f) : DW X B E (.BoolOp .And [a] pos) f := pw_and1 h
theorem dw_or1 {f : Tx S} (h : DT X B E a f) : DW X B E (.BoolOp .Or [a] pos) f := pw_or1 h
theorem dw_and {f g : Tx S} {rest : List Expr} (h : DT X B E a f) (hb : DW X B E (.BoolOp .And (b :: rest) pos) g) : DW X B E (.BoolOp .And (a :: b :: rest) pos) (xAnd f g) := by
  refine pw_imp (pw_and h hb) fun σ H Q ⟨G, own, ρ, s, R, q⟩ => ?_
  refine tT.run R _ q.bnd fun y s1 H1 q1 k1 R1 => ?_
  cases y with
  | true =>
    rw [if_pos rfl] at q1 ⊢
    exact tT.run R1 _ q1 fun z s2 H2 q2 k2 R2 => q2 H2 (k1.trans k2)
  | false => exact q1 H1 k1
theorem dw_or {f g : Tx S} {rest : List Expr} (h : DT X B E a f) (hb : DW X B E (.BoolOp .Or (b :: rest) pos) g) : DW X B E (.BoolOp .Or (a :: b :: rest) pos) (xOr f g) := by
  refine pw_imp (pw_or h hb) fun σ H Q ⟨G, own, ρ, s, R, q⟩ => ?_
  refine tT.run R _ q.bnd fun y s1 H1 q1 k1 R1 => ?_
  cases y with
  | false =>
    rw [if_neg Bool.false_ne_true] at q1 ⊢
    exact tT.run R1 _ q1 fun z s2 H2 q2 k2 R2 => q2 H2 (k1.trans k2)
  | true => exact q1 H1 k1
theorem dt_bool {op : BoolOp} {es : List Expr} {f : Tx S} (h : DW X B E (.BoolOp op es pos) f) : DT X B E (.BoolOp op es pos) f := h.pt
def eNot (f : Ex S) : Ex S := fun ρ s => (f ρ s).bind fun y s1 => match y with
  | .d (.bool b) => .ok (.d (.bool (!b))) s1
  | _ => .bad
def eAnd (f g : Ex S) : Ex S := fun ρ s => (f ρ s).bind fun y s1 => match y with
  | .d (.bool b) => if b then g ρ s1 else .ok (.d (.bool false)) s1
  | _ => .bad
def eOr (f g : Ex S) : Ex S := fun ρ s => (f ρ s).bind fun y s1 => match y with
  | .d (.bool b) => if b then .ok (.d (.bool true)) s1 else g ρ s1
  | _ => .bad
theorem de_one {op : BoolOp} (h : DE X B E a fa) : DE X B E (.BoolOp op [a] pos) fa := pe_one h
theorem de_and {rest : List Expr} (h : DB X B E a fa) (hb : DE X B E (.BoolOp .And (b :: rest) pos) fb) : DE X B E (.BoolOp .And (a :: b :: rest) pos) (eAnd fa fb) := by
  refine pe_imp (pe_and h hb) fun σ H Q ⟨G, own, ρ, s, R, q⟩ => ?_
  refine tB.run R _ q.bnd fun y s1 v H1 q1 k1 r1 R1 => ?_
  cases y with
  | r _ => exact q1.elim
  | o _ _ => exact q1.elim
  | p _ => exact q1.elim
  | f _ => exact q1.elim
  | d p =>
    cases p with
    | bool b =>
      refine ⟨b, rt_bl r1, ?_⟩
      cases b with
      | true =>
        simp only [if_true] at q1 ⊢
        exact tD.run R1 _ q1 fun z s2 w H2 q2 k2 r2 R2 => q2 w H2 (k1.trans k2) r2
      | false => exact q1 _ H1 k1 (.bl _)
    | _ => exact q1.elim
/-- a if c else b -/
def eIf (c : Tx S) (fa fb : Ex S) : Ex S := fun ρ s => (c ρ s).bind fun k s1 => if k then fa ρ s1 else fb ρ s1
theorem de_if {fc : Tx S} (hc : DT X B E c fc) (ha : DE X B E a fa) (hb : DE X B E b fb) : DE X B E (.IfExp c a b pos) (eIf fc fa fb) := by
  refine pe_imp (pe_ifExp hc ha hb) fun σ H Q ⟨G, own, ρ, s, R, q⟩ => ?_
  refine tT.run R _ q.bnd fun y s1 H1 q1 k1 R1 => ?_
  cases y with
  | true => exact tD.run R1 _ q1 fun z s2 w H2 q2 k2 r2 R2 => q2 w H2 (k1.trans k2) r2
  | false => exact tD.run R1 _ q1 fun z s2 w H2 q2 k2 r2 R2 => q2 w H2 (k1.trans k2) r2
/-- a <= b <= c -/
def eChain (g g' : D → D → Option D) (fa fb fc : Ex S) : Ex S := fun ρ s => (fa ρ s).bind fun x s1 => (fb ρ s1).bind fun y s2 => match x, y with
  | .d p, .d q => (match g p q with
    | some (.bool true) => (fc ρ s2).bind fun z s3 => (match z with
      | .d r => (match g' q r with
        | some d => .ok (.d d) s3
        | none => .bad)
      | _ => .bad)
    | some (.bool false) => .ok (.d (.bool false)) s2
    | _ => .bad)
  | _, _ => .bad
theorem chain_of {r r' : R2} {g g' : D → D → Option D} (h2 : OpD B r g) (h2' : OpD B r' g') {σ : Sg} {H : Hp} {Q : VK} (h : tD B E (eChain g g' fa fb fc) σ H Q) : tChain r r' (tB B E fa) (tB B E fb) (tB B E fc) σ H Q := by
  obtain ⟨G, own, ρ, s, R, q⟩ := h
  refine tB.run R _ q.bnd fun y s1 v H1 q1 k1 r1 R1 => ?_
  refine tB.run R1 _ q1.bnd fun z s2 w H2 q2 k2 r2 R2 => ?_
  cases y with
  | r _ => exact q2.elim
  | o _ _ => exact q2.elim
  | p _ => exact q2.elim
  | f _ => exact q2.elim
  | d p =>
    cases z with
    | r _ => exact q2.elim
    | o _ _ => exact q2.elim
    | p _ => exact q2.elim
    | f _ => exact q2.elim
    | d q =>
      cases hz : g p q with
      | none => simp only [hz] at q2; exact q2.elim
      | some d =>
        simp only [hz] at q2
        refine h2 _ G.A0 H2 v w p q d _ (fun _ hp => R2.fresh hp) hz (r1.kp R1 k2) r2 fun u H3 sm rp => ?_
        have st3 := R2.same sm
        cases d with
        | bool b =>
          cases rp
          refine ⟨b, rfl, ?_⟩
          cases b with
          | false => exact q2 _ H3 ((k1.trans k2).trans st3) (.bl _)
          | true =>
            rw [if_pos rfl]
            refine tB.run (R2.stp st3) _ q2.bnd fun z s4 w4 H4 q4 k4 r4 R4 => ?_
            cases z with
            | r _ => exact q4.elim
            | o _ _ => exact q4.elim
            | p _ => exact q4.elim
            | f _ => exact q4.elim
            | d t =>
              cases hz' : g' q t with
              | none => simp only [hz'] at q4; exact q4.elim
              | some d =>
                simp only [hz'] at q4
                exact h2' _ G.A0 H4 w w4 q t d _ (fun _ hp => R4.fresh hp) hz' ((r2.kp R2 st3).kp (R2.stp st3) k4) r4 fun u H5 sm rp => q4 u H5 ((((k1.trans k2).trans st3).trans k4).trans (R4.same sm)) rp
        | _ => exact q2.elim
theorem dt_chain {op op' : CmpOp} {g g' : D → D → Option D} (hc : CmpD X B op g) (hc' : CmpD X B op' g') (ha : DB X B E a fa) (hb : DB X B E b fb) (hcc : DB X B E c fc) (hm : lastMarks [op, op'] [b, c] = false := by with_unfolding_all rfl) : DT X B E (.Compare a [op, op'] [b, c] pos) (tOf (eChain g g' fa fb fc)) := by
  obtain ⟨r, h1, h2⟩ := hc
  obtain ⟨r', h1', h2'⟩ := hc'
  refine pt_imp (pt_chain h1 h1' ha hb hcc (hm := hm)) fun σ H Q h => ?_
  obtain ⟨G, own, ρ, s, R, q⟩ := h
  refine chain_of h2 h2' ⟨G, own, ρ, s, R, q.bnd.mono fun y s' q v H' k r => ?_⟩
  cases y with
  | r _ => exact q.elim
  | o _ _ => exact q.elim
  | p _ => exact q.elim
  | f _ => exact q.elim
  | d p =>
    cases p with
    | bool b => cases r; exact ⟨b, rfl, q H' k⟩
    | _ => exact q.elim
/-- data of values -/
def datas : List Val → Option (List D)
  | [] => some []
  | .d x :: r => (datas r).map (x :: ·)
  | _ :: _ => none
inductive RvL (B : Bs) (A : Addr → Prop) (H : Hp) : List V → List Val → Prop
  | nil : RvL B A H [] []
  | cons {v : V} {y : Val} {vs : List V} {ys : List Val} (h : RvV B A H v y) (t : RvL B A H vs ys) : RvL B A H (v :: vs) (y :: ys)
theorem RvL.datas {A : Addr → Prop} {H : Hp} : ∀ {vs : List V} {ys : List Val} {ds : List D}, RvL B A H vs ys → datas ys = some ds → RpL B A H vs ds
  | _, _, _, .nil, e => by cases e; exact .nil
  | _, _, _, .cons (y := y) h t, e => by
    cases y with
    | r _ => cases e
    | o _ _ => cases e
    | p _ => cases e
    | f _ => cases e
    | d x =>
      simp only [DL.datas, Option.map_eq_some_iff] at e
      obtain ⟨r, e1, rfl⟩ := e
      exact .cons h (RvL.datas t e1)
theorem RtL.datas {A : Addr → Prop} {N : Addr → Prop} {H : Hp} : ∀ {vs : List V} {ys : List Val} {ds : List D}, RtL B A N H vs ys → datas ys = some ds → RtL B A N H vs (ds.map .d)
  | _, _, _, .nil, e => by cases e; exact .nil
  | _, _, _, .cons (y := y) h t, e => by
    cases y with
    | r _ => cases e
    | o _ _ => cases e
    | p _ => cases e
    | f _ => cases e
    | d x =>
      simp only [DL.datas, Option.map_eq_some_iff] at e
      obtain ⟨r, e1, rfl⟩ := e
      exact .cons h (RtL.datas t e1)
def tVs (B : Bs) (E : XK) (f : Exs S) : TA := fun σ H Q => ∃ G own ρ s, Rel B G own ρ s σ H ∧ (f ρ s).sat (fun y s' => ∀ v H', Stp G s' H H' → RvL B (Av G own) H' v y → Q v H') fun e s' => ExW B G E e s'
abbrev DV (X : Cx) (B : Bs) (E : XK) (es : List Expr) (f : Exs S) : Prop := PA X es (tVs B E f)
theorem dv_nil : DV X B E [] (aNil : Exs S) := by
  refine pa_imp pa_nil fun σ H Q ⟨G, own, ρ, s, R, q⟩ => ?_
  exact q [] H R.refl .nil
theorem dv_cons {es : List Expr} {g : Exs S} (h : DE X B E e f) (hs : DV X B E es g) (hst : starEach (e :: es) X.env = (false, eval e X.env) :: starEach es X.env := by rfl) : DV X B E (e :: es) (aCons f g) := by
  refine pa_imp (pa_cons h hs hst) fun σ H Q ⟨G, own, ρ, s, R, q⟩ => ?_
  refine tD.run R _ q.bnd fun y s1 v H1 q1 k1 r1 R1 => ?_
  refine ⟨G, own, ρ, s1, R1, q1.bnd.mono fun z s2 q2 w H2 k2 r2 => ?_⟩
  exact q2 _ _ (k1.trans k2) (.cons (r1.kp (R1.kp k2)) r2)
def eSeq (mk : List D → D) (g : Exs S) : Ex S := fun ρ s => (g ρ s).bind fun ys s1 => match datas ys with
  | some ds => if ds.length ≤ sizeLine then .ok (.d (mk ds)) s1 else .bad
  | none => .bad
theorem de_tup {es : List Expr} {g : Exs S} {k : Nat} (h : DV X B E es g) : DE X B E (.Tuple es k pos) (eSeq .tuple g) := by
  refine pe_imp (pe_tup h) fun σ H Q ⟨G, own, ρ, s, R, q⟩ => ?_
  refine ⟨G, own, ρ, s, R, q.bnd.mono fun z s2 q2 w H2 k2 r2 => ?_⟩
  cases e : datas z with
  | none => simp only [e] at q2; exact q2.elim
  | some ds =>
    have rl := r2.datas e
    simp only [e] at q2
    split at q2
    · rename_i hl
      exact ⟨by rw [rl.len]; exact hl, fun p hp => q2 _ _ (k2.trans ((R.stp k2).put hp)) (new_tup hp rl)⟩
    · exact q2.elim
def opIx : D → D → Option D
  | .list ds, .int i => atI ds i
  | .tuple ds, .int i => atI ds i
  | .str z, .int i => if z.length ≤ sizeLine then (atI z.cps.toList i).map fun c => .str ⟨#[c]⟩ else none
  | _, _ => none
theorem RpL.atI {A : Addr → Prop} {H : Hp} {xs : List V} {ds : List D} (r : RpL B A H xs ds) {i : Int} {d : D} (h : atI ds i = some d) : ∃ x, L2.atI xs i = some x ∧ Rp B A H x d := by
  unfold L2.atI at h ⊢
  rw [r.len]
  cases e : ixN ds.length i with
  | none => rw [e] at h; cases h
  | some j =>
    rw [e] at h
    exact r.get' (show ds[j]? = some d from h)
theorem od_ix : OpD B (rIx B.K) opIx := by
  intro A N H x y p q z Q fr hz hx hy k
  unfold opIx at hz
  split at hz
  · obtain ⟨u, xs, rfl, tx, rx⟩ := rt_lst hx
    obtain ⟨v, e, r⟩ := rx.atI hz
    exact .inl ⟨u, xs, _, v, rfl, rt_int hy, SqL.of tx, e, k _ H (Same.refl H) r⟩
  · obtain ⟨u, xs, rfl, tx, rx⟩ := rt_tup hx
    obtain ⟨v, e, r⟩ := rx.atI hz
    exact .inr (.inl ⟨u, xs, _, v, rfl, rt_int hy, tx.sq, e, k _ H (Same.refl H) r⟩)
  · split at hz
    · rename_i hl
      obtain ⟨c, e, rfl⟩ := Option.map_eq_some_iff.mp hz
      exact .inr (.inr ⟨_, _, c, rt_str hx, rt_int hy, hl, e, k _ H (Same.refl H) (.str _)⟩)
    · cases hz
  · cases hz
theorem de_ix (hB : B.K = X.K) (ha : DB X B E a fa) (hb : DB X B E b fb) (hs : PlainIx b := by first | exact fun _ _ => rfl) : DE X B E (.Subscript a b pos) (eBin opIx fa fb) := de_bin od_ix (by rw [hB]; exact pe_ix ix_seq ha hb hs)
def cutL {α : Type} (xs : List α) (lo hi : Option Int) : List α := (xs.drop (HT.sIx xs.length 0 lo)).take (HT.sIx xs.length xs.length hi - HT.sIx xs.length 0 lo)
theorem RpL.cut {A : Addr → Prop} {H : Hp} {xs : List V} {ds : List D} (r : RpL B A H xs ds) (lo hi : Option Int) : RpL B A H (cutV xs lo hi) (cutL ds lo hi) := by
  unfold cutV cutL
  rw [r.len]
  exact (r.drop _).take _
/-- a part of a slice -/
abbrev Ox (S : Type) := Env → S → Out S (Option Int)
def oNone : Ox S := fun _ s => .ok none s
def oSome (f : Ex S) : Ox S := fun ρ s => (f ρ s).bind fun y s1 => match y with
  | .d (.int i) => .ok (some i) s1
  | _ => .bad
def tO (B : Bs) (E : XK) (f : Ox S) : TO := fun σ H Q => ∃ G own ρ s, Rel B G own ρ s σ H ∧ (f ρ s).sat (fun y s' => ∀ H', Stp G s' H H' → Q y H') fun e s' => ExW B G E e s'
abbrev DO (X : Cx) (B : Bs) (E : XK) (e : Option Expr) (f : Ox S) : Prop := PO X e (tO B E f)
theorem po_imp {e : Option Expr} {t t' : TO} (h : PO X e t) (i : ∀ σ H Q, t' σ H Q → t σ H Q) : PO X e t' := ⟨fun pins s σ H Q I q => h.run pins s σ H Q I (i σ H Q q)⟩
theorem do_none : DO X B E none (oNone : Ox S) := po_imp po_none fun σ H Q ⟨G, own, ρ, s, R, q⟩ => q H R.refl
theorem do_some (h : DB X B E e f) : DO X B E (some e) (oSome f) := by
  refine po_imp (po_some h) fun σ H Q ⟨G, own, ρ, s, R, q⟩ => ?_
  refine tB.run R _ q.bnd fun y s1 v H1 q1 k1 r1 R1 => ?_
  cases y with
  | r _ => exact q1.elim
  | o _ _ => exact q1.elim
  | p _ => exact q1.elim
  | f _ => exact q1.elim
  | d p =>
    cases p with
    | int i => exact ⟨i, rt_int r1, q1 H1 k1⟩
    | _ => exact q1.elim
def opSl : D → Option Int → Option Int → Option D
  | .list ds, lo, hi => some (.list (cutL ds lo hi))
  | .tuple ds, lo, hi => some (.tuple (cutL ds lo hi))
  | _, _, _ => none
def eSl (fa : Ex S) (fl fh : Ox S) : Ex S := fun ρ s => (fa ρ s).bind fun x s1 => (fl ρ s1).bind fun l s2 => (fh ρ s2).bind fun h s3 => match x with
  | .d p => (match opSl p l h with
    | some d => .ok (.d d) s3
    | none => .bad)
  | _ => .bad
theorem de_sl {lo hi : Option Expr} {p2 : Pos} {fl fh : Ox S} (hB : B.K = X.K) (ha : DB X B E a fa) (hl : DO X B E lo fl) (hh : DO X B E hi fh) : DE X B E (.Subscript a (.Slice lo hi none p2) pos) (eSl fa fl fh) := by
  refine pe_imp (pe_slice (sl_tupA.or sl_list) ha hl hh) fun σ H Q ⟨G, own, ρ, s, R, q⟩ => ?_
  refine tB.run R _ q.bnd fun y s1 v H1 q1 k1 r1 R1 => ?_
  refine ⟨G, own, ρ, s1, R1, q1.bnd.mono fun l s2 q2 H2 k2 => ?_⟩
  have R2 := R1.stp k2
  refine ⟨G, own, ρ, s2, R2, q2.bnd.mono fun h s3 q3 H3 k3 => ?_⟩
  have R3 := R2.stp k3
  have r3 := (r1.kp R1 k2).kp R2 k3
  have k13 := (k1.trans k2).trans k3
  cases y with
  | r _ => exact q3.elim
  | o _ _ => exact q3.elim
  | p _ => exact q3.elim
  | f _ => exact q3.elim
  | d p =>
    cases p with
    | tuple ds =>
      obtain ⟨u, xs, rfl, tx, rx⟩ := rt_tup r3
      refine .inl ⟨u, xs, rfl, by rw [← hB]; exact tx.sq, fun hw => ?_, fun _ p hp => ?_⟩
      · refine q3 _ H3 k13 (.tup tx ?_)
        have e : cutV xs l h = xs := by
          unfold cutV
          rw [hw.1, hw.2]
          simp
        have := rx.cut l h
        rw [e] at this
        exact this
      · exact q3 _ _ (k13.trans (R3.put hp)) (new_tup hp (rx.cut l h))
    | list ds =>
      obtain ⟨u, xs, rfl, tx, rx⟩ := rt_lst r3
      exact .inr ⟨u, xs, rfl, SqL.of tx, fun p hp => q3 _ _ (k13.trans (R3.put hp)) (new_lst hp (R3.fresh hp) (rx.cut l h))⟩
    | _ => exact q3.elim
def eCall (op : List D → Option D) (g : Exs S) : Ex S := fun ρ s => (g ρ s).bind fun ys s1 => match datas ys with
  | some ds => (match op ds with
    | some z => .ok (.d z) s1
    | none => .bad)
  | none => .bad
def CallD (B : Bs) (r : List V → Hp → VK → Prop) (op : List D → Option D) : Prop := ∀ (A : Addr → Prop) (N : Addr → Prop) (H : Hp) (vs : List V) (ds : List D) (z : D) (Q : VK),
  (∀ p, H p = none → ¬ A p) → op ds = some z → RtL B A N H vs (ds.map .d) → (∀ v H', Same H H' → Rp B A H' v z → Q v H') → r vs H Q
theorem de_of_tCB {g : Exs S} {r : List V → Hp → VK → Prop} {op : List D → Option D} (hr : CallD B r op) {es : List Expr} (h : PE X e (tCB r (tAs B E g))) : DE X B E e (eCall op g) := by
  refine pe_imp h fun σ H Q ⟨G, own, ρ, s, R, q⟩ => ?_
  refine tAs.run R _ q.bnd fun z s2 w H2 q2 k2 r2 R2 => ?_
  cases e : datas z with
  | none => simp only [e] at q2; exact q2.elim
  | some ds =>
    simp only [e] at q2
    cases e2 : op ds with
    | none => simp only [e2] at q2; exact q2.elim
    | some d =>
      simp only [e2] at q2
      exact hr _ G.A0 H2 w ds d Q (fun _ hp => R2.fresh hp) e2 (r2.datas e) fun v H' sm rp => q2 v H' (k2.trans (R2.same sm)) rp
/-- f(e, ..), f a built-in function; T(e, ..), T a built-in type: hc the rule, hr what it is on data -/
theorem de_fun {id : String} {x : Str} {p : Pos} {es : List Expr} {g : Exs S} {r : List V → Hp → VK → Prop} {op : List D → Option D} (hc : CallR X (.builtin id) r) (hr : CallD B r op) (hg : Gl X x) (hm : X.mg x = none) (hv : bootBuiltins x = some (.builtin id))
    (ha : DA X B E (e :: es) g) (hn : x ≠ "__name__" := by decide) (hdb : (x == ("__debug__" : Str)) = false := by decide)
    (he : starEach (e :: es) X.env = (false, eval e X.env) :: starEach es X.env := by rfl) (hpl : (backTo pos (starEach es X.env)).any (·.1) = false := by rfl) : DE X B E (.Call (.Name x p) (e :: es) [] pos) (eCall op g) :=
  de_of_tCB (es := es) hr (pe_callB hc hg hm hv ha hn hdb he hpl)
theorem de_typ {T : String} {x : Str} {p : Pos} {es : List Expr} {g : Exs S} {r : List V → Hp → VK → Prop} {op : List D → Option D} (hc : CallR X (.type T) r) (hr : CallD B r op) (hg : Gl X x) (hm : X.mg x = none) (hv : bootBuiltins x = some (.type T))
    (ha : DA X B E (e :: es) g) (hn : x ≠ "__name__" := by decide) (hdb : (x == ("__debug__" : Str)) = false := by decide)
    (he : starEach (e :: es) X.env = (false, eval e X.env) :: starEach es X.env := by rfl) (hpl : (backTo pos (starEach es X.env)).any (·.1) = false := by rfl) : DE X B E (.Call (.Name x p) (e :: es) [] pos) (eCall op g) :=
  de_of_tCB (es := es) hr (pe_callTy hc hg hm hv ha hn hdb he hpl)
end
end DL
namespace DL
open PySem PySem.Spec PyProof.Rows L2
variable {S : Type} [SI S]
/-- what the context must be -/
structure Ctx (X : Cx) (B : Bs) : Prop where
  hP : B.P = X.prog
  hK : B.K = X.K
  hw : B.w = X.w
  calm : X.calm = true
  nd : X.N.Nodup
  un : X.A.units + 100 < cLine
  gd : X.A.guards = some []
theorem Ctx.blk {X : Cx} {B : Bs} (c : Ctx X B) (s : Shared) (H : Hp) (sc : Scope) (en : PySem.Env) (fp : List Addr) : Ctx (X.blk s H sc en fp) B := ⟨c.hP, c.hK, c.hw, c.calm, c.nd, c.un, c.gd⟩
theorem Ctx.u64 {X : Cx} {B : Bs} (c : Ctx X B) : X.A.units + 64 < cLine := by have := c.un; omega
theorem Ctx.u65 {X : Cx} {B : Bs} (c : Ctx X B) : X.A.units + 65 < cLine := by have := c.un; omega
inductive Fl where
  | nx (ρ : Env)
  | rt (y : Val)
  | rg (y : Val) (ρ : Env)
  | bk (ρ : Env)
  | ct (ρ : Env)
abbrev Sx (S : Type) := Env → S → Out S Fl
/-- from H to H' a statement has changed nothing but the state and what was its own -/
structure Gone (G : Gh) (own own' : Own) (H H' : Hp) : Prop where
  keep : ∀ a o, H a = some o → a ∉ G.dks → (∀ i, own i ≠ some a) → H' a = some o
  news : ∀ i a, own' i = some a → (∃ j, own j = some a) ∨ H a = none
structure FrG (G : Gh) (s' : S) (H' : Hp) : Prop where
  fr : ∀ a o, G.H0 a = some o → a ∉ G.dks → H' a = some o
  dk : SI.dks s' = G.dks
  rs : SI.rep s' H'
def Post (B : Bs) (G : Gh) (own : Own) (H : Hp) (Dd : Ends) (fl : Fl) (s' : S) : Prop := match fl with
  | .nx ρ' => ∀ own' σ' H', Rel B G own' ρ' s' σ' H' → Gone G own own' H H' → Dd.nx σ' H'
  | .bk ρ' => ∀ own' σ' H', Rel B G own' ρ' s' σ' H' → Gone G own own' H H' → Dd.bk σ' H'
  | .ct ρ' => ∀ own' σ' H', Rel B G own' ρ' s' σ' H' → Gone G own own' H H' → Dd.ct σ' H'
  | .rt y => ∀ v H', FrG G s' H' → RvV B G.A0 H' v y → Dd.rt v H'
  | .rg y ρ' => ∀ v own' σ' H', Rel B G own' ρ' s' σ' H' → Gone G own own' H H' → RvV B (Av G own') H' v y → Dd.rt v H'
def tS (B : Bs) (E : XK) (g : Sx S) : TS := fun Dd σ H => ∃ G own ρ s, Rel B G own ρ s σ H ∧ (g ρ s).sat (Post B G own H Dd) fun e s' => ExW B G E e s'
abbrev DS (X : Cx) (B : Bs) (E : XK) (st : Stmt) (g : Sx S) : Prop := PS X st (tS B E g)
abbrev DSs (X : Cx) (B : Bs) (E : XK) (st : List Stmt) (g : Sx S) : Prop := PSs X st (tS B E g)
section
variable {B : Bs} {G : Gh} {own own' own'' : Own} {ρ ρ' : Env} {s s' s'' : S} {σ σ' : Sg} {H H' H'' : Hp}
theorem Gone.refl : Gone G own own H H := ⟨fun _ _ h _ _ => h, fun i a h => .inl ⟨i, h⟩⟩
theorem Gone.of_stp (k : Stp G s' H H') : Gone G own own H H' := ⟨fun a o h n _ => k.fr a o h n, fun i a h => .inl ⟨i, h⟩⟩
theorem Gone.trans (R : Rel B G own' ρ s σ H') (x : Gone G own own' H H') (y : Gone G own' own'' H' H'') : Gone G own own'' H H'' := by
  refine ⟨fun a o h n m => y.keep a o (x.keep a o h n m) n fun i z => ?_, fun i a h => ?_⟩
  · rcases x.news i a z with ⟨j, q⟩ | q
    · exact m j q
    · rw [h] at q; cases q
  · rcases y.news i a h with ⟨j, q⟩ | q
    · exact x.news j a q
    · cases z : H a with
      | none => exact .inr rfl
      | some o =>
        by_cases hd : a ∈ G.dks
        · obtain ⟨o', e, _⟩ := R.dkT hd
          rw [q] at e; cases e
        · by_cases ho : ∃ j, own j = some a
          · exact .inl ho
          · rw [x.keep a o z hd fun i e => ho ⟨i, e⟩] at q; cases q
theorem Rel.frG (R : Rel B G own ρ s σ H) : FrG G s H := ⟨R.fr, R.dk, R.rs⟩
theorem FrG.stp (x : FrG G s H) (k : Stp G s' H H') : FrG G s' H' := ⟨fun a o h n => k.fr a o (x.fr a o h n) n, k.dk, k.rs⟩
/-- the ends of a statement, a step later -/
theorem Post.later {Dd : Ends} {fl : Fl} (R : Rel B G own' ρ s σ H') (x : Gone G own own' H H') (h : Post B G own H Dd fl s') : Post B G own' H' Dd fl s' := by
  cases fl with
  | nx ρ' => exact fun own2 σ2 H2 R2 y => h own2 σ2 H2 R2 (x.trans R y)
  | bk ρ' => exact fun own2 σ2 H2 R2 y => h own2 σ2 H2 R2 (x.trans R y)
  | ct ρ' => exact fun own2 σ2 H2 R2 y => h own2 σ2 H2 R2 (x.trans R y)
  | rt y => exact h
  | rg y ρ' => exact fun v own2 σ2 H2 R2 y => h v own2 σ2 H2 R2 (x.trans R y)
/-- all that stands for data stands where something is -/
theorem Tp.ne {K : PySem.W.Frag} {H : Hp} {a p : Addr} {xs : List V} : True := trivial
end
section
variable {B : Bs} {A : Addr → Prop} {H : Hp} {p : Addr}
mutual
theorem Rp.grow (hp : H p = none) : ∀ {v : V} {d : D}, Rp B A H v d → Rp B (fun a => A a ∨ a = p) H v d
  | _, _, .non => .non
  | _, _, .bl b => .bl b
  | _, _, .int i => .int i
  | _, _, .str x => .str x
  | _, _, .lst h n r => .lst h (fun z => Or.elim z n fun e => by rw [e, hp] at h; cases h) (RpL.grow hp r)
  | _, _, .tup h r => .tup h (RpL.grow hp r)
  | _, _, .dic h n r => .dic h (fun z => Or.elim z n fun e => by have h := h.1; rw [e, hp] at h; cases h) (RpM.grow hp r)
  | _, _, .dct h n e r => .dct h (fun z => Or.elim z n fun e => by rw [e, hp] at h; cases h) e (RpM.grow hp r)
theorem RpL.grow (hp : H p = none) : ∀ {v : List V} {d : List D}, RpL B A H v d → RpL B (fun a => A a ∨ a = p) H v d
  | _, _, .nil => .nil
  | _, _, .cons h t => .cons (Rp.grow hp h) (RpL.grow hp t)
theorem RpM.grow (hp : H p = none) : ∀ {v : List (V × V)} {d : List (D × D)}, RpM B A H v d → RpM B (fun a => A a ∨ a = p) H v d
  | _, _, .nil => .nil
  | _, _, .cons h g t => .cons (Rp.grow hp h) (Rp.grow hp g) (RpM.grow hp t)
end
theorem PlR.grow {B : Bs} {A : Addr → Prop} {H : Hp} {p : Addr} (hp : H p = none) {v : V} {d : D} (h : PlR B A H v d) : PlR B (fun a => A a ∨ a = p) H v d := by
  cases d with
  | tuple ds => obtain ⟨a, xs, e, h, r⟩ := h; exact ⟨a, xs, e, h, RpL.grow hp r⟩
  | dict kvs => obtain ⟨a, ks, e, h, n, d, r⟩ := h; exact ⟨a, ks, e, h, (fun z => Or.elim z n fun e => by rw [e, hp] at h; cases h), d, RpM.grow hp r⟩
  | _ => exact h.elim
theorem RvV.grow (hp : H p = none) {v : V} : ∀ {y : Val}, RvV B A H v y → RvV B (fun a => A a ∨ a = p) H v y
  | .d _, h => Rp.grow hp h
  | .r _, h => h
  | .o _ _, ⟨a, C, dx, fs', e, c, h, n, l⟩ => ⟨a, C, dx, fs', e, c, h, (fun z => Or.elim z n fun e => by rw [e, hp] at h; cases h), fun q hq => let ⟨u, e, r⟩ := l q hq; ⟨u, e, r.grow hp⟩⟩
  | .p _, h => PlR.grow hp h
  | .f _, h => h
theorem OwnAt.grow (hp : H p = none) {a : Addr} : ∀ {x : Sl}, OwnAt B A H a x → OwnAt B (fun a => A a ∨ a = p) H a x
  | .l _, ⟨xs, h, r⟩ => ⟨xs, h, r.grow hp⟩
  | .m _, .inl ⟨ks, h, r⟩ => .inl ⟨ks, h, r.grow hp⟩
  | .m _, .inr ⟨ks, h, e, r⟩ => .inr ⟨ks, h, e, r.grow hp⟩
  | .no, h => h
  | .v _, h => h
  | .g _ _ _, h => h
  | .q _ _, ⟨C, dx, vs, hc, h, hn, r⟩ => ⟨C, dx, vs, hc, h, hn, r.grow hp⟩
theorem GmAt.grow (hp : H p = none) {a : Addr} {c : Str} {fs : List (Str × GF)} {gs : List Addr} (h : GmAt B A H a c fs gs) : GmAt B (fun a => A a ∨ a = p) H a c fs gs :=
  h.imp (fun r => Rp.grow hp r) (fun r => RpL.grow hp r) (fun _ r => OwnAt.grow hp r) fun _ _ _ z => z
end
section
variable {B : Bs} {G : Gh} {own : Own} {ρ : Env} {s s' : S} {σ : Sg} {H H' : Hp}
/-- a slot gets a value -/
theorem Rel.set (R : Rel B G own ρ s σ H) {i : Nat} {v : V} {y : Val} (h : RvV B (Av G own) H v y) : Rel B G own (ρ.set i (.v y)) s (σ.set i (some v)) H := by
  refine ⟨R.wf1, R.wf2, R.fr, R.dk, R.rs, R.inj, R.fre, R.ont, by simp [R.len], fun j x e => ?_⟩
  by_cases hj : j = i
  · subst hj
    obtain ⟨hl, e'⟩ := List.getElem?_eq_some_iff.mp e
    have hl' : j < ρ.length := by simpa using hl
    have : (ρ.set j (.v y))[j]? = some (.v y) := by simp [hl']
    rw [this] at e; cases e
    exact ⟨v, by simp [← R.len, hl'], h⟩
  · rw [List.getElem?_set_ne (Ne.symm hj)] at e
    have q := R.sl j x e
    have e2 : (σ.set i (some v))[j]? = σ[j]? := List.getElem?_set_ne (Ne.symm hj)
    cases x with
    | no => trivial
    | v z => obtain ⟨u, e1, r⟩ := q; exact ⟨u, by rw [e2]; exact e1, r⟩
    | l ds => obtain ⟨a, ho, hs, r⟩ := q; exact ⟨a, ho, by rw [e2]; exact hs, r⟩
    | m ds => obtain ⟨a, ho, hs, r⟩ := q; exact ⟨a, ho, by rw [e2]; exact hs, r⟩
    | g c a fs => obtain ⟨gs, ho, hs, hg, r⟩ := q; exact ⟨gs, ho, by rw [e2]; exact hs, by simpa using hg, r⟩
    | q _ _ => obtain ⟨a, ho, hs, r⟩ := q; exact ⟨a, ho, by rw [e2]; exact hs, r⟩
/-- a slot becomes one's own: a new object stands at p -/
theorem Rel.mine0 (R : Rel B G own ρ s σ H) {i : Nat} {p : Addr} {x : Sl} (hil : i < σ.length) (hp : H p = none) (k : Stp G s' H H') (hx : OwnAt B (fun a => Av G own a ∨ a = p) H' p x) :
    Rel B G (fun j => if j = i then some p else own j) (ρ.set i x) s' (σ.set i (some (.ref p))) H' ∧ Gone G own (fun j => if j = i then some p else own j) H H' := by
  have R' := R.stp k
  have kp := R.kp k
  have kp' : Kp (fun a => Av G own a ∨ a = p) H H' := ⟨kp.tup, fun a o h n => kp.all a o h fun z => n (.inl z)⟩
  have av : ∀ a, Av G (fun j => if j = i then some p else own j) a → Av G own a ∨ a = p := fun a h => by
    rcases h with h | ⟨j, h⟩
    · exact .inl (.inl h)
    · by_cases hj : j = i
      · simp only [hj, if_true] at h; cases h; exact .inr rfl
      · simp only [hj, if_false] at h; exact .inl (.inr ⟨j, h⟩)
  have hnot : H' p ≠ none ∧ ∃ o, H' p = some o ∧ isTu o = false := by
    cases x with
    | no => exact hx.elim
    | v _ => exact hx.elim
    | g _ _ _ => exact hx.elim
    | q _ _ => obtain ⟨_, _, _, _, e, _⟩ := hx; exact ⟨by rw [e]; simp, _, e, rfl⟩
    | l ds => obtain ⟨xs, e, _⟩ := hx; exact ⟨by rw [e]; simp, _, e, rfl⟩
    | m ds =>
      rcases hx with ⟨ks, ⟨e, _⟩, _⟩ | ⟨ks, e, _⟩
      · exact ⟨by rw [e]; simp, _, e, rfl⟩
      · exact ⟨by rw [e]; simp, _, e, rfl⟩
  have hH0 : G.H0 p = none := by
    cases q : G.H0 p with
    | none => rfl
    | some o =>
      by_cases hd : p ∈ G.dks
      · obtain ⟨o', e, _⟩ := R.dkT hd
        rw [hp] at e; cases e
      · rw [R.fr p o q hd] at hp; cases hp
  have hA0 : ¬ G.A0 p := fun z => R.wf2 p z hp
  have hown : ∀ j, own j ≠ some p := fun j z => by
    obtain ⟨o, e, _⟩ := R.ont j p z
    rw [hp] at e; cases e
  refine ⟨⟨R.wf1, R'.wf2, R'.fr, R'.dk, R'.rs, fun a b c h1 h2 => ?_, fun j a h => ?_, fun j a h => ?_, by simp [R.len], fun j z e => ?_⟩, ⟨fun a o h n _ => k.fr a o h n, fun j a h => ?_⟩⟩
  · by_cases ha : a = i
    · by_cases hb : b = i
      · rw [ha, hb]
      · simp only [ha, if_true] at h1; simp only [hb, if_false] at h2; cases h1; exact absurd h2 (hown b)
    · by_cases hb : b = i
      · simp only [ha, if_false] at h1; simp only [hb, if_true] at h2; cases h2; exact absurd h1 (hown a)
      · simp only [ha, if_false] at h1; simp only [hb, if_false] at h2; exact R.inj a b c h1 h2
  · by_cases hj : j = i
    · simp only [hj, if_true] at h; cases h; exact ⟨hH0, hA0⟩
    · simp only [hj, if_false] at h; exact R.fre j a h
  · by_cases hj : j = i
    · simp only [hj, if_true] at h; cases h; exact hnot.2
    · simp only [hj, if_false] at h; exact R'.ont j a h
  · by_cases hj : j = i
    · subst hj
      obtain ⟨hl, e'⟩ := List.getElem?_eq_some_iff.mp e
      have hl' : j < ρ.length := by simpa using hl
      have : (ρ.set j x)[j]? = some x := by simp [hl']
      rw [this] at e; cases e
      have hs : (σ.set j (some (V.ref p)))[j]? = some (some (V.ref p)) := by simp [← R.len, hl']
      cases x with
      | no => exact hx.elim
      | v _ => exact hx.elim
      | g _ _ _ => exact hx.elim
      | q _ _ => exact ⟨p, by simp, hs, hx.mono av⟩
      | l ds => exact ⟨p, by simp, hs, hx.mono av⟩
      | m ds => exact ⟨p, by simp, hs, hx.mono av⟩
    · rw [List.getElem?_set_ne (Ne.symm hj)] at e
      have q := R.sl j z e
      have e2 : (σ.set i (some (V.ref p)))[j]? = σ[j]? := List.getElem?_set_ne (Ne.symm hj)
      cases z with
      | no => trivial
      | v z => obtain ⟨u, e1, r⟩ := q; exact ⟨u, by rw [e2]; exact e1, ((r.grow hp).kp kp').mono av⟩
      | l ds => obtain ⟨a, ho, hs, r⟩ := q; exact ⟨a, by simp only [hj, if_false]; exact ho, by rw [e2]; exact hs, ((r.grow hp).kp kp' fun o e => k.fr a o e fun z => (R.fre j a ho).2 (R.wf1 a z)).mono av⟩
      | m ds => obtain ⟨a, ho, hs, r⟩ := q; exact ⟨a, by simp only [hj, if_false]; exact ho, by rw [e2]; exact hs, ((r.grow hp).kp kp' fun o e => k.fr a o e fun z => (R.fre j a ho).2 (R.wf1 a z)).mono av⟩
      | g c a fs =>
        obtain ⟨gs, ho, hs, hg, r⟩ := q
        refine ⟨gs, by simp only [hj, if_false]; exact ho, by rw [e2]; exact hs, fun l g hl => ?_, ((r.grow hp).kp kp' fun l hl o e => k.fr l o e fun z => ?_).mono av⟩
        · rw [List.length_set]
          have := gix_ge (n := σ.length) (i := j) (j := l)
          show (if gix σ.length j l = i then some p else own (gix σ.length j l)) = some g
          rw [if_neg (by omega)]
          exact hg l g hl
        · obtain ⟨j', e'⟩ := gm_own ho hg l hl
          exact (R.fre j' l e').2 (R.wf1 l z)
      | q _ _ => obtain ⟨a, ho, hs, r⟩ := q; exact ⟨a, by simp only [hj, if_false]; exact ho, by rw [e2]; exact hs, ((r.grow hp).kp kp' fun o e => k.fr a o e fun z => (R.fre j a ho).2 (R.wf1 a z)).mono av⟩
  · by_cases hj : j = i
    · simp only [hj, if_true] at h; cases h; exact .inr hp
    · simp only [hj, if_false] at h; exact .inl ⟨j, h⟩
theorem Rel.mine (R : Rel B G own ρ s σ H) {i : Nat} {p : Addr} {x : Sl} (hp : H p = none) (k : Stp G s' H H') (hx : OwnAt B (fun a => Av G own a ∨ a = p) H' p x) :
    ∃ own', Rel B G own' (ρ.set i x) s' (σ.set i (some (.ref p))) H' ∧ Gone G own own' H H' := by
  by_cases h : i < σ.length
  · exact ⟨_, R.mine0 h hp k hx⟩
  · refine ⟨own, ?_, .of_stp k⟩
    rw [List.set_eq_of_length_le (by rw [R.len]; omega), List.set_eq_of_length_le (by omega)]
    exact R.stp k
/-- what is one's own is changed in place -/
theorem Rel.chg (R : Rel B G own ρ s σ H) {i : Nat} {a : Addr} {x : Sl} {o : HO} (hi : own i = some a) (hs : σ[i]? = some (some (.ref a))) (ho : isTu o = false) (hx : OwnAt B (Av G own) (upd H a o) a x) :
    Rel B G own (ρ.set i x) s σ (upd H a o) ∧ Gone G own own H (upd H a o) := by
  have nd : a ∉ G.dks := fun z => (R.fre i a hi).2 (R.wf1 a z)
  have kp : Kp (Av G own) H (upd H a o) := by
    refine ⟨fun b xs ht h => ?_, fun b u h n => ?_⟩
    · by_cases hb : b = a
      · subst hb
        obtain ⟨o', e, n⟩ := R.ont i b hi
        rw [h] at e; cases e; rw [ht] at n; cases n
      · rw [upd_ne hb]; exact h
    · rw [upd_ne]
      · exact h
      · rintro rfl; exact n (.inr ⟨i, hi⟩)
  refine ⟨⟨R.wf1, fun b h => ?_, fun b u h n => ?_, R.dk, SI.keep s H _ R.rs (fun b h => ?_) kp.tup, R.inj, R.fre, fun j b h => ?_, by simp [R.len], fun j z e => ?_⟩, ⟨fun b u h n m => ?_, fun j b h => .inl ⟨j, h⟩⟩⟩
  · by_cases hb : b = a
    · rw [hb, upd_same]; simp
    · rw [upd_ne hb]; exact R.wf2 b h
  · by_cases hb : b = a
    · subst hb
      rw [(R.fre i b hi).1] at h; cases h
    · rw [upd_ne hb]; exact R.fr b u h n
  · rw [upd_ne]
    rintro rfl
    exact nd (by rw [← R.dk]; exact h)
  · by_cases hb : b = a
    · exact ⟨o, by rw [hb, upd_same], ho⟩
    · rw [upd_ne hb]; exact R.ont j b h
  · by_cases hj : j = i
    · subst hj
      obtain ⟨hl, e'⟩ := List.getElem?_eq_some_iff.mp e
      have hl' : j < ρ.length := by simpa using hl
      have : (ρ.set j x)[j]? = some x := by simp [hl']
      rw [this] at e; cases e
      cases x with
      | no => exact hx.elim
      | v _ => exact hx.elim
      | g _ _ _ => exact hx.elim
      | q _ _ => exact ⟨a, hi, hs, hx⟩
      | l ds => exact ⟨a, hi, hs, hx⟩
      | m ds => exact ⟨a, hi, hs, hx⟩
    · rw [List.getElem?_set_ne (Ne.symm hj)] at e
      have q := R.sl j z e
      have nb : ∀ b, own j = some b → ∀ u, H b = some u → upd H a o b = some u := fun b hb u hu => by
        rw [upd_ne]
        · exact hu
        · rintro rfl; exact hj (R.inj _ _ _ hb hi)
      cases z with
      | no => trivial
      | v z => obtain ⟨u, e1, r⟩ := q; exact ⟨u, e1, r.kp kp⟩
      | l ds => obtain ⟨b, hb, hs, r⟩ := q; exact ⟨b, hb, hs, r.kp kp (nb b hb)⟩
      | m ds => obtain ⟨b, hb, hs, r⟩ := q; exact ⟨b, hb, hs, r.kp kp (nb b hb)⟩
      | g c b fs =>
        obtain ⟨gs, hb, hs', hg, r⟩ := q
        refine ⟨gs, hb, hs', hg, r.kp kp fun l hl u hu => ?_⟩
        rw [upd_ne]
        · exact hu
        · rintro rfl
          rcases hl with rfl | hl
          · exact hj (R.inj _ _ _ hb hi)
          · obtain ⟨n, hn, e'⟩ := List.mem_iff_getElem.mp hl
            have e1 := hg n l (by rw [List.getElem?_eq_getElem hn, e'])
            have e2 := R.inj _ _ _ e1 hi
            have e3 := gix_ge (n := σ.length) (i := j) (j := n)
            have e4 := (List.getElem?_eq_some_iff.mp hs).1
            omega
      | q _ _ => obtain ⟨b, hb, hs, r⟩ := q; exact ⟨b, hb, hs, r.kp kp (nb b hb)⟩
  · rw [upd_ne]
    · exact h
    · rintro rfl; exact m i hi
end
section
variable {X : Cx} {B : Bs} {E : XK} {e : Expr} {f : Ex S} {g g' : Sx S} {st : Stmt} {sts : List Stmt} {pos : Pos}
def sNil : Sx S := fun ρ s => .ok (.nx ρ) s
def sSeq (g g' : Sx S) : Sx S := fun ρ s => (g ρ s).bind fun fl s1 => match fl with
  | .nx ρ1 => g' ρ1 s1
  | x => .ok x s1
theorem ds_nil : DSs X B E [] (sNil : Sx S) := pss_imp pss_nil fun Dd σ H ⟨G, own, ρ, s, R, q⟩ => q own σ H R .refl
theorem ds_one (h : DS X B E st g) : DSs X B E [st] g := pss_one h
theorem ds_cons (h : DS X B E st g) (h' : DSs X B E sts g') : DSs X B E (st :: sts) (sSeq g g') := by
  refine pss_imp (pss_cons h h') fun Dd σ H ⟨G, own, ρ, s, R, q⟩ => ⟨G, own, ρ, s, R, q.bnd.mono fun fl s1 q1 => ?_⟩
  cases fl with
  | nx ρ1 => exact fun own1 σ1 H1 R1 x => ⟨G, own1, ρ1, s1, R1, q1.mono fun fl s2 q2 => q2.later R1 x⟩
  | bk _ => exact q1
  | ct _ => exact q1
  | rt _ => exact q1
  | rg _ _ => exact q1
def sBrk : Sx S := fun ρ s => .ok (.bk ρ) s
def sCnt : Sx S := fun ρ s => .ok (.ct ρ) s
def sDrop (f : Ex S) : Sx S := fun ρ s => (f ρ s).bind fun _ s1 => .ok (.nx ρ) s1
def sRet (f : Ex S) : Sx S := fun ρ s => (f ρ s).bind fun y s1 => .ok (.rt y) s1
theorem RtV.ret {A N : Addr → Prop} {H : Hp} {v : V} {y : Val} (h : RtV B A N H v y) (k : ∀ a, N a → A a) : RvV B N H v y := by
  cases h with
  | of h => exact h.mono k
  | lst h n r => exact .lst h n (r.mono k)
  | dic h n r => exact .dic h n (r.mono k)
  | dct h n e r => exact .dct h n e (r.mono k)
theorem ds_ret (h : DB X B E e f) : DS X B E (.Return (some e) pos) (sRet f) := by
  refine ps_imp (ps_ret h) fun Dd σ H ⟨G, own, ρ, s, R, q⟩ => ?_
  refine tB.run R _ q.bnd fun y s1 v H1 q1 k1 r1 R1 => ?_
  exact q1 v H1 R1.frG (r1.ret fun a z => .inl z)
def sRetN : Sx S := fun ρ s => .ok (.rt (.d .none)) s
def sIf (c : Tx S) (g g' : Sx S) : Sx S := fun ρ s => (c ρ s).bind fun b s1 => if b then g ρ s1 else g' ρ s1
theorem ds_if {c : Expr} {fc : Tx S} {a b : List Stmt} (hc : DT X B E c fc) (ha : DSs X B E a g) (hb : DSs X B E b g') : DS X B E (.If c a b pos) (sIf fc g g') := by
  refine ps_imp (ps_if hc ha hb) fun Dd σ H ⟨G, own, ρ, s, R, q⟩ => ?_
  refine tT.run R _ q.bnd fun y s1 H1 q1 k1 R1 => ?_
  cases y with
  | true => exact ⟨G, own, ρ, s1, R1, q1.mono fun fl s2 q2 => q2.later R1 (.of_stp k1)⟩
  | false => exact ⟨G, own, ρ, s1, R1, q1.mono fun fl s2 q2 => q2.later R1 (.of_stp k1)⟩
/-- name = value -/
def sSet (i : Nat) (f : Ex S) : Sx S := fun ρ s => (f ρ s).bind fun y s1 => .ok (.nx (ρ.set i (.v y))) s1
theorem ds_set (c : Ctx X B) (i : Nat) {x : Str} {pos' : Pos} (h : DE X B E e f) (hi : X.N[i]? = some x := by rfl) (hx : Loc X.env.scope x := by first | exact .inl rfl | exact .inr rfl) (hs : swapsWith e (some (.Name x pos')) pos.line X.env = pure false := by rfl)
    (hf : X.fn x = true ∨ X.env.scope.names.lookup x = some .local := by first | exact .inl rfl | exact .inr rfl) : DS X B E (.Assign [.Name x pos'] e pos) (sSet i f) := by
  refine ps_imp (ps_set c.nd hi hx h hs hf) fun Dd σ H ⟨G, own, ρ, s, R, q⟩ => ?_
  refine tD.run R _ q.bnd fun y s1 v H1 q1 k1 r1 R1 => ?_
  exact q1 own _ H1 (R1.set r1) (.of_stp k1)
/-- name = another name's list, which is not asked any more -/
def sMove (i j : Nat) : Sx S := fun ρ s => match ρ[j]? with
  | some (.v y) => .ok (.nx (ρ.set i (.v y))) s
  | some (.l ds) => if i = j then .bad else .ok (.nx ((ρ.set j .no).set i (.l ds))) s
  | some (.m ds) => if i = j then .bad else .ok (.nx ((ρ.set j .no).set i (.m ds))) s
  | _ => .bad
end
end DL
namespace DL
open PySem PySem.Spec PyProof.Rows L2
variable {S : Type} [SI S]
section
variable {B : Bs} {A A' : Addr → Prop} {H : Hp}
mutual
theorem Rp.wk (k : ∀ a, A' a → A a ∨ H a = none) : ∀ {v : V} {d : D}, Rp B A H v d → Rp B A' H v d
  | _, _, .non => .non
  | _, _, .bl b => .bl b
  | _, _, .int i => .int i
  | _, _, .str x => .str x
  | _, _, .lst h n r => .lst h (fun z => (k _ z).elim n fun e => by rw [e] at h; cases h) (RpL.wk k r)
  | _, _, .tup h r => .tup h (RpL.wk k r)
  | _, _, .dic h n r => .dic h (fun z => (k _ z).elim n fun e => by have h := h.1; rw [e] at h; cases h) (RpM.wk k r)
  | _, _, .dct h n e r => .dct h (fun z => (k _ z).elim n fun e => by rw [e] at h; cases h) e (RpM.wk k r)
theorem RpL.wk (k : ∀ a, A' a → A a ∨ H a = none) : ∀ {v : List V} {d : List D}, RpL B A H v d → RpL B A' H v d
  | _, _, .nil => .nil
  | _, _, .cons h t => .cons (Rp.wk k h) (RpL.wk k t)
theorem RpM.wk (k : ∀ a, A' a → A a ∨ H a = none) : ∀ {v : List (V × V)} {d : List (D × D)}, RpM B A H v d → RpM B A' H v d
  | _, _, .nil => .nil
  | _, _, .cons h g t => .cons (Rp.wk k h) (Rp.wk k g) (RpM.wk k t)
end
end
def wipeE (vs : List Nat) (ρ : Env) : Env := match vs with
  | [] => ρ
  | v :: vs => (wipeE vs ρ).set v .no
theorem wipe_set {σ : Sg} {i : Nat} {x : Option V} : ∀ {vs : List Nat}, i ∈ vs → wipe (σ.set i x) vs = wipe σ vs
  | [], h => by simp at h
  | v :: vs, h => by
    unfold wipe
    by_cases hm : i ∈ vs
    · rw [wipe_set hm]
    · have e : i = v := by simpa [hm] using h
      subst e
      have : ∀ vs : List Nat, i ∉ vs → wipe (σ.set i x) vs = (wipe σ vs).set i x := by
        intro vs
        induction vs with
        | nil => intro _; rfl
        | cons w ws ih =>
          intro hw
          simp only [List.mem_cons, not_or] at hw
          unfold wipe
          rw [ih hw.2, List.set_comm _ _ (fun e => hw.1 e)]
      rw [this vs hm]
      simp
section
variable {B : Bs} {G : Gh} {own : Own} {ρ : Env} {s : S} {σ : Sg} {H : Hp}
theorem Rel.unset (R : Rel B G own ρ s σ H) (i : Nat) : Rel B G own (ρ.set i .no) s (σ.set i none) H := by
  refine ⟨R.wf1, R.wf2, R.fr, R.dk, R.rs, R.inj, R.fre, R.ont, by simp [R.len], fun j x e => ?_⟩
  by_cases hj : j = i
  · subst hj
    obtain ⟨hl, e'⟩ := List.getElem?_eq_some_iff.mp e
    have hl' : j < ρ.length := by simpa using hl
    have : (ρ.set j .no)[j]? = some .no := by simp [hl']
    rw [this] at e; cases e
    trivial
  · rw [List.getElem?_set_ne (Ne.symm hj)] at e
    have q := R.sl j x e
    have e2 : (σ.set i none)[j]? = σ[j]? := List.getElem?_set_ne (Ne.symm hj)
    cases x with
    | no => trivial
    | v z => obtain ⟨u, e1, r⟩ := q; exact ⟨u, by rw [e2]; exact e1, r⟩
    | l ds => obtain ⟨a, ho, hs, r⟩ := q; exact ⟨a, ho, by rw [e2]; exact hs, r⟩
    | m ds => obtain ⟨a, ho, hs, r⟩ := q; exact ⟨a, ho, by rw [e2]; exact hs, r⟩
    | g c a fs => obtain ⟨gs, ho, hs, hg, r⟩ := q; exact ⟨gs, ho, by rw [e2]; exact hs, by simpa using hg, r⟩
    | q _ _ => obtain ⟨a, ho, hs, r⟩ := q; exact ⟨a, ho, by rw [e2]; exact hs, r⟩
theorem Rel.wiped (R : Rel B G own ρ s σ H) : ∀ vs : List Nat, Rel B G own (wipeE vs ρ) s (wipe σ vs) H
  | [] => R
  | v :: vs => by unfold wipe wipeE; exact (R.wiped vs).unset v
end
abbrev Bt := D → Env → Option Env
abbrev Bts := List D → Env → Option Env
def tG (S : Type) [SI S] (B : Bs) (bt : Bt) (vs : List Nat) : TG := fun v σ H Q => ∃ G own ρ, ∃ s : S, ∃ d ρ', Rel B G own ρ s σ H ∧ Rp B (Av G own) H v d ∧ bt d ρ = some ρ' ∧ ∀ σ', Rel B G own ρ' s σ' H → wipe σ' vs = wipe σ vs → Q σ' H
def tGs (S : Type) [SI S] (B : Bs) (bt : Bts) (vs : List Nat) : TGs := fun v σ H Q => ∃ G own ρ, ∃ s : S, ∃ d ρ', Rel B G own ρ s σ H ∧ RpL B (Av G own) H v d ∧ bt d ρ = some ρ' ∧ ∀ σ', Rel B G own ρ' s σ' H → wipe σ' vs = wipe σ vs → Q σ' H
abbrev DG (S : Type) [SI S] (X : Cx) (B : Bs) (tg : Expr) (bt : Bt) (vs : List Nat) : Prop := PG X tg (tG S B bt vs)
abbrev DGs (S : Type) [SI S] (X : Cx) (B : Bs) (tg : List Expr) (bt : Bts) (vs : List Nat) : Prop := PGs X tg (tGs S B bt vs)
theorem pg_imp {X : Cx} {tg : Expr} {t t' : TG} (h : PG X tg t) (i : ∀ v σ H Q, t' v σ H Q → t v σ H Q) : PG X tg t' := ⟨fun pins s σ H v u Q I r q => h.run pins s σ H v u Q I r (i v σ H Q q)⟩
theorem pgs_imp {X : Cx} {tg : List Expr} {t t' : TGs} (h : PGs X tg t) (i : ∀ v σ H Q, t' v σ H Q → t v σ H Q) : PGs X tg t' := ⟨fun pins s σ H v u Q I r q => h.run pins s σ H v u Q I r (i v σ H Q q)⟩
def btN (i : Nat) : Bt := fun d ρ => some (ρ.set i (.v (.d d)))
def btsN : Bts := fun ds ρ => match ds with
  | [] => some ρ
  | _ => none
def btsC (b : Bt) (bs : Bts) : Bts := fun ds ρ => match ds with
  | [] => none
  | d :: r => (b d ρ).bind fun ρ1 => bs r ρ1
def btT (bs : Bts) : Bt := fun d ρ => match d with
  | .tuple ds => bs ds ρ
  | _ => none
section
variable {X : Cx} {B : Bs} {pos : Pos} {vs : List Nat}
theorem dg_name (nd : X.N.Nodup) (i : Nat) {x : Str} (hi : X.N[i]? = some x := by rfl) (hx : Loc X.env.scope x := by first | exact .inl rfl | exact .inr rfl) (hf : X.fn x = true ∨ X.env.scope.names.lookup x = some .local := by first | exact .inl rfl | exact .inr rfl) (hv : i ∈ vs := by decide) :
    DG S X B (.Name x pos) (btN i) vs := by
  refine pg_imp (pg_name nd hi hx hf) fun v σ H Q ⟨G, own, ρ, s, d, ρ', R, r, e, q⟩ => ?_
  cases e
  exact q _ (R.set (y := .d d) r) (wipe_set hv)
theorem dgs_nil : DGs S X B [] btsN vs := by
  refine pgs_imp pgs_nil fun v σ H Q ⟨G, own, ρ, s, d, ρ', R, r, e, q⟩ => ?_
  cases r with
  | nil => cases e; exact ⟨rfl, q σ R rfl⟩
  | cons _ _ => cases e
theorem dgs_cons {t : Expr} {ts : List Expr} {b : Bt} {bs : Bts} (h : DG S X B t b vs) (hs : DGs S X B ts bs vs) (hst : (assignEach (t :: ts) X.env).map (·.2) = assign t X.env :: (assignEach ts X.env).map (·.2) := by rfl) : DGs S X B (t :: ts) (btsC b bs) vs := by
  refine pgs_imp (pgs_cons h hs hst) fun v σ H Q ⟨G, own, ρ, s, d, ρ', R, r, e, q⟩ => ?_
  cases r with
  | nil => cases e
  | cons h t =>
    obtain ⟨ρ1, e1, e2⟩ := Option.bind_eq_some_iff.mp e
    exact ⟨_, _, rfl, G, own, ρ, s, _, ρ1, R, h, e1, fun σ1 R1 w1 => ⟨G, own, ρ1, s, _, ρ', R1, t, e2, fun σ2 R2 w2 => q σ2 R2 (w2.trans w1)⟩⟩
theorem btsC_len {n : Nat} {bs : Bts} (h : ∀ ds ρ ρ', bs ds ρ = some ρ' → ds.length = n) (b : Bt) : ∀ ds ρ ρ', btsC b bs ds ρ = some ρ' → ds.length = n + 1
  | [], _, _, e => by cases e
  | d :: r, ρ, ρ', e => by
    obtain ⟨ρ1, _, e2⟩ := Option.bind_eq_some_iff.mp e
    rw [List.length_cons, h _ _ _ e2]
theorem btsN_len : ∀ ds ρ ρ', btsN ds ρ = some ρ' → ds.length = 0
  | [], _, _, _ => rfl
  | _ :: _, _, _, e => by cases e
theorem dg_tup (c : Ctx X B) {es : List Expr} {k n : Nat} {bs : Bts} (h : DGs S X B es bs vs) (hl : ∀ ds ρ ρ', bs ds ρ = some ρ' → ds.length = n)
    (hn : (assignEach es X.env).length = n := by rfl) (hst : (assignEach es X.env).findIdx? (·.1) = none := by rfl) : DG S X B (.Tuple es k pos) (btT bs) vs := by
  refine pg_imp (pg_tup c.calm h hn hst) fun v σ H Q ⟨G, own, ρ, s, d, ρ', R, r, e, q⟩ => ?_
  cases r with
  | tup h r =>
    exact ⟨_, _, rfl, by rw [← c.hK]; exact h.sq, by rw [r.len]; exact hl _ _ _ e, G, own, ρ, s, _, ρ', R, r, e, q⟩
  | _ => cases e
end
section
variable {X : Cx} {B : Bs} {E : XK} {e : Expr} {f : Ex S} {g g' : Sx S} {st : Stmt} {sts : List Stmt} {pos : Pos}
def sUnp (bt : Bt) (f : Ex S) : Sx S := fun ρ s => (f ρ s).bind fun y s1 => match y with
  | .d d => (match bt d ρ with
    | some ρ' => .ok (.nx ρ') s1
    | none => .bad)
  | _ => .bad
theorem ds_unp {tg : Expr} {bt : Bt} {vs : List Nat} (h : DE X B E e f) (ht : DG S X B tg bt vs) (hs : swapsWithSole [tg] e pos.line X.env = pure false := by rfl) (hw : swappedStores [tg] e X.env = pure none := by rfl)
    (h1 : (assignEach [tg] X.env).map (·.2) = [assign tg X.env] := by rfl) : DS X B E (.Assign [tg] e pos) (sUnp bt f) := by
  refine ps_imp (ps_asg h ht hs hw h1) fun Dd σ H ⟨G, own, ρ, s, R, q⟩ => ?_
  refine tD.run R _ q.bnd fun y s1 v H1 q1 k1 r1 R1 => ?_
  cases y with
  | r _ => exact q1.elim
  | o _ _ => exact q1.elim
  | p _ => exact q1.elim
  | f _ => exact q1.elim
  | d d =>
    cases hz : bt d ρ with
    | none => simp only [hz] at q1; exact q1.elim
    | some ρ' =>
      simp only [hz] at q1
      exact ⟨G, own, ρ, s1, d, ρ', R1, r1, hz, fun σ' R' _ => q1 own σ' H1 R' (.of_stp k1)⟩
theorem Rel.frz1 {G : Gh} {own : Own} {ρ : Env} {s : S} {σ : Sg} {H : Hp} (R : Rel B G own ρ s σ H) {i : Nat} {a : Addr} {y : Val} (hi : own i = some a) (hs : σ[i]? = some (some (.ref a)))
    (hy : RvV B (Av G fun k => if k = i then none else own k) H (.ref a) y) : Rel B G (fun k => if k = i then none else own k) (ρ.set i (.v y)) s σ H := by
  have av : ∀ b, Av G (fun k => if k = i then none else own k) b → Av G own b := fun b h => by
    rcases h with h | ⟨j, h⟩
    · exact .inl h
    · by_cases hj : j = i
      · simp only [hj, if_true] at h; cases h
      · simp only [hj, if_false] at h; exact .inr ⟨j, h⟩
  have un : ∀ {j b}, (if j = i then none else own j) = some b → j ≠ i ∧ own j = some b := fun {j b} h => by
    by_cases hj : j = i
    · simp only [hj, if_true] at h; cases h
    · simp only [hj, if_false] at h; exact ⟨hj, h⟩
  refine ⟨R.wf1, R.wf2, R.fr, R.dk, R.rs, fun j k b h1 h2 => R.inj j k b (un h1).2 (un h2).2, fun j b h => R.fre j b (un h).2, fun j b h => R.ont j b (un h).2, by simp [R.len], fun j x e => ?_⟩
  by_cases hj : j = i
  · subst hj
    obtain ⟨hl, e'⟩ := List.getElem?_eq_some_iff.mp e
    have hl' : j < ρ.length := by simpa using hl
    have : (ρ.set j (.v y))[j]? = some (.v y) := by simp [hl']
    rw [this] at e; cases e
    exact ⟨_, hs, hy⟩
  · rw [List.getElem?_set_ne (Ne.symm hj)] at e
    have q := R.sl j x e
    cases x with
    | no => trivial
    | v z => obtain ⟨u, e1, r⟩ := q; exact ⟨u, e1, r.mono av⟩
    | l ds => obtain ⟨b, ho, hs, r⟩ := q; exact ⟨b, by simp only [hj, if_false]; exact ho, hs, r.mono av⟩
    | m ds => obtain ⟨b, ho, hs, r⟩ := q; exact ⟨b, by simp only [hj, if_false]; exact ho, hs, r.mono av⟩
    | g c b fs =>
      obtain ⟨gs, ho, hs', hg, r⟩ := q
      refine ⟨gs, by simp only [hj, if_false]; exact ho, hs', fun l g hl => ?_, r.mono av⟩
      have := gix_ge (n := σ.length) (i := j) (j := l)
      have := (List.getElem?_eq_some_iff.mp hs).1
      show (if gix σ.length j l = i then none else own (gix σ.length j l)) = some g
      rw [if_neg (by omega)]
      exact hg l g hl
    | q _ _ => obtain ⟨b, ho, hs, r⟩ := q; exact ⟨b, by simp only [hj, if_false]; exact ho, hs, r.mono av⟩
def frz (i : Nat) (ρ : Env) : Env := match ρ[i]? with
  | some (.l ds) => ρ.set i (.v (.d (.list ds)))
  | some (.m ds) => ρ.set i (.v (.d (.dict ds)))
  | _ => ρ
theorem Rel.frz {G : Gh} {own : Own} {ρ : Env} {s : S} {σ : Sg} {H : Hp} (R : Rel B G own ρ s σ H) (i : Nat) : ∃ own', Rel B G own' (frz i ρ) s σ H ∧ ∀ j a, own' j = some a → own j = some a := by
  unfold DL.frz
  cases z : ρ[i]? with
  | none => exact ⟨own, R, fun _ _ h => h⟩
  | some x =>
    have q := R.sl i x z
    have na : ∀ a, own i = some a → ¬ Av G (fun k => if k = i then none else own k) a := fun a h z => by
      rcases z with z | ⟨j, z⟩
      · exact (R.fre i a h).2 z
      · by_cases hj : j = i
        · simp only [hj, if_true] at z; cases z
        · simp only [hj, if_false] at z; exact hj (R.inj _ _ _ z h)
    have av : ∀ b, Av G (fun k => if k = i then none else own k) b → Av G own b := fun b h => by
      rcases h with h | ⟨j, h⟩
      · exact .inl h
      · by_cases hj : j = i
        · simp only [hj, if_true] at h; cases h
        · simp only [hj, if_false] at h; exact .inr ⟨j, h⟩
    have un : ∀ j a, (if j = i then none else own j) = some a → own j = some a := fun j a h => by
      by_cases hj : j = i
      · simp only [hj, if_true] at h; cases h
      · simp only [hj, if_false] at h; exact h
    cases x with
    | no => exact ⟨own, R, fun _ _ h => h⟩
    | v y => exact ⟨own, R, fun _ _ h => h⟩
    | g _ _ _ => exact ⟨own, R, fun _ _ h => h⟩
    | q _ _ => exact ⟨own, R, fun _ _ h => h⟩
    | l ds =>
      obtain ⟨a, ho, hs, xs, e, r⟩ := q
      exact ⟨_, R.frz1 ho hs (.lst e (na a ho) (r.mono av)), un⟩
    | m ds =>
      obtain ⟨a, ho, hs, q⟩ := q
      rcases q with ⟨ks, e, r⟩ | ⟨ks, e, e2, r⟩
      · exact ⟨_, R.frz1 ho hs (.dic e (na a ho) (r.mono av)), un⟩
      · exact ⟨_, R.frz1 ho hs (.dct e (na a ho) e2 (r.mono av)), un⟩
def sFrz (i : Nat) (g : Sx S) : Sx S := fun ρ s => g (frz i ρ) s
abbrev Lx (S : Type) := Env → S → Out S (List D)
def tF (B : Bs) (E : XK) (f : Lx S) : TE := fun σ H Q => ∃ G own ρ s, Rel B G own ρ s σ H ∧ (f ρ s).sat (fun ds s' => ∀ p H' xs, Stp G s' H H' → H p = none → H' p = some (.lst xs) → RpL B (fun a => Av G own a ∨ a = p) H' xs ds → Q (.ref p) H') fun e s' => ExW B G E e s'
abbrev DF (X : Cx) (B : Bs) (E : XK) (e : Expr) (f : Lx S) : Prop := PE X e (tF B E f)
def eL (f : Lx S) : Ex S := fun ρ s => (f ρ s).bind fun ds s1 => .ok (.d (.list ds)) s1
theorem DF.de {f : Lx S} (h : DF X B E e f) : DE X B E e (eL f) := by
  refine pe_imp h fun σ H Q ⟨G, own, ρ, s, R, q⟩ => ?_
  refine ⟨G, own, ρ, s, R, q.bnd.mono fun ds s1 q1 p H1 xs k hp e r => ?_⟩
  exact q1 _ H1 k (.lst e (R.fresh hp) (r.mono fun a z => .inl z))
def lSeq (g : Exs S) : Lx S := fun ρ s => (g ρ s).bind fun ys s1 => match datas ys with
  | some ds => if ds.length ≤ sizeLine then .ok ds s1 else .bad
  | none => .bad
theorem df_lst {es : List Expr} {g : Exs S} (h : DV X B E es g) : DF X B E (.List es pos) (lSeq g) := by
  refine pe_imp (pe_lst h) fun σ H Q ⟨G, own, ρ, s, R, q⟩ => ?_
  refine ⟨G, own, ρ, s, R, q.bnd.mono fun z s2 q2 w H2 k2 r2 => ?_⟩
  cases e : datas z with
  | none => simp only [e] at q2; exact q2.elim
  | some ds =>
    have rl := r2.datas e
    simp only [e] at q2
    split at q2
    · rename_i hl
      refine ⟨by rw [rl.len]; exact hl, fun p hp => q2 p _ w (k2.trans ((R.stp k2).put hp)) ?_ upd_same ((rl.grow hp).kp (kp_same (same_upd hp)))⟩
      cases z : H p with
      | none => rfl
      | some o =>
        by_cases hd : p ∈ G.dks
        · obtain ⟨o', e, _⟩ := (R.stp k2).dkT hd
          rw [hp] at e; cases e
        · rw [k2.fr p o z hd] at hp; cases hp
    · exact q2.elim
theorem Stp.none {G : Gh} {own : Own} {ρ : Env} {s' : S} {σ : Sg} {H H' : Hp} (R' : Rel B G own ρ s' σ H') (k : Stp G s' H H') {p : Addr} (hp : H' p = none) : H p = none := by
  cases z : H p with
  | none => rfl
  | some o =>
    by_cases hd : p ∈ G.dks
    · obtain ⟨o', e, _⟩ := R'.dkT hd
      rw [hp] at e; cases e
    · rw [k.fr p o z hd] at hp; cases hp
/-- name = a new list, one's own -/
def sNew (i : Nat) (f : Lx S) : Sx S := fun ρ s => (f ρ s).bind fun ds s1 => .ok (.nx (ρ.set i (.l ds))) s1
theorem ds_new (c : Ctx X B) (i : Nat) {x : Str} {pos' : Pos} {f : Lx S} (h : DF X B E e f) (hi : X.N[i]? = some x := by rfl) (hx : Loc X.env.scope x := by first | exact .inl rfl | exact .inr rfl) (hs : swapsWith e (some (.Name x pos')) pos.line X.env = pure false := by rfl)
    (hf : X.fn x = true ∨ X.env.scope.names.lookup x = some .local := by first | exact .inl rfl | exact .inr rfl) : DS X B E (.Assign [.Name x pos'] e pos) (sNew i f) := by
  refine ps_imp (ps_set c.nd hi hx h hs hf) fun Dd σ H ⟨G, own, ρ, s, R, q⟩ => ?_
  refine ⟨G, own, ρ, s, R, q.bnd.mono fun ds s1 q1 p H1 xs k hp e r => ?_⟩
  obtain ⟨_, R', g⟩ := R.mine (i := i) (x := .l ds) hp k ⟨xs, e, r⟩
  exact q1 _ _ H1 R' g
theorem ty_list {K : PySem.W.Frag} {H : Hp} {a : Addr} {xs : List V} (h : H a = some (.lst xs)) : tyV K "list" (.ref a) H := .inl ⟨rfl, _, SqL.of h⟩
def sApp (i : Nat) (f : Ex S) : Sx S := fun ρ s => match ρ[i]? with
  | some (.l ds) => (f ρ s).bind fun y s1 => (match y with
    | .d z => if ds.length < sizeLine then .ok (.nx (ρ.set i (.l (ds ++ [z])))) s1 else .bad
    | _ => .bad)
  | _ => .bad
theorem ds_app (c : Ctx X B) (i : Nat) (hp : PE X e (tBM X.K "list" rAppend (tVar i) (tCons (tD B E f) tNil))) (hs : swapsWith e none pos.line X.env = pure false := by rfl) : DS X B E (.Expr e pos) (sApp i f) := by
  refine ps_imp (ps_expr hp hs) fun Dd σ H ⟨G, own, ρ, s, R, q⟩ => ?_
  unfold sApp at q
  cases z : ρ[i]? with
  | none => rw [z] at q; exact q.elim
  | some x =>
    rw [z] at q
    have p := R.sl i x z
    cases x with
    | l ds =>
      obtain ⟨a, ho, hs, xs, hx, r⟩ := p
      refine ⟨_, hs, ty_list hx, ?_⟩
      refine tD.run R _ q.bnd fun y s1 v H1 q1 k1 r1 R1 => ?_
      have hd : a ∉ G.dks := fun z => (R.fre i a ho).2 (R.wf1 a z)
      have hx1 := k1.fr a _ hx hd
      have r' := RpL.kp (R.kp k1) r
      cases y with
      | r _ => exact q1.elim
      | o _ _ => exact q1.elim
      | p _ => exact q1.elim
      | f _ => exact q1.elim
      | d d =>
        dsimp only at q1
        split at q1
        · rename_i hl
          have kp : Kp (Av G own) H1 (upd H1 a (.lst (xs ++ [v]))) := by
            refine ⟨fun b ys ht h => ?_, fun b u h n => ?_⟩
            · rw [upd_ne]
              · exact h
              · rintro rfl; rw [hx1] at h; cases h; cases ht
            · rw [upd_ne]
              · exact h
              · rintro rfl; exact n (.inr ⟨i, ho⟩)
          obtain ⟨R2, g2⟩ := R1.chg (x := .l (ds ++ [d])) (o := .lst (xs ++ [v])) ho hs rfl ⟨_, upd_same, RpL.kp kp (r'.app (.cons r1 .nil))⟩
          exact ⟨a, xs, v, rfl, rfl, hx1, by rw [r.len]; exact hl, q1 own σ _ R2 ((Gone.of_stp k1).trans R1 g2)⟩
        · exact q1.elim
    | _ => exact q.elim
def sExt (i : Nat) (f : Ex S) : Sx S := fun ρ s => match ρ[i]? with
  | some (.l ds) => (f ρ s).bind fun y s1 => (match y with
    | .d (.list zs) => if ds.length + zs.length ≤ sizeLine then .ok (.nx (ρ.set i (.l (ds ++ zs)))) s1 else .bad
    | _ => .bad)
  | _ => .bad
end
end DL
namespace DL
open PySem PySem.Spec PyProof.Rows L2
variable {S : Type} [SI S]
/-- J walks ds, whatever is changed where U says -/
def ItOk (B : Bs) (A U : Addr → Prop) (J : It) (ds : List D) (H1 : Hp) : Prop := ∀ H2, (∀ a o, H1 a = some o → ¬ U a → H2 a = some o) →
  (∀ i d, ds[i]? = some d → J.go i H2 ∧ ∀ x H3, J.yld i H2 x H3 → Same H2 H3 ∧ ∀ A', (∀ a, A' a → A a ∨ H1 a = none) → Rp B A' H3 x d) ∧ J.stop ds.length H2
/-- cmp: in a comprehension (nothing of one's own changes) -/
def Chg (G : Gh) (own : Own) (cmp : Bool) (a : Addr) : Prop := a ∈ G.dks ∨ (cmp = false ∧ ∃ i, own i = some a)
def tI (B : Bs) (E : XK) (cmp : Bool) (f : Lx S) : TI := fun σ H R => ∃ G own ρ s, Rel B G own ρ s σ H ∧ (f ρ s).sat (fun ds s' => ∀ J H1, Stp G s' H H1 → ItOk B (Av G own) (Chg G own cmp) J ds H1 → R J H1) fun e s' => ExW B G E e s'
abbrev DI (X : Cx) (B : Bs) (E : XK) (cmp : Bool) (tg e : Expr) (f : Lx S) : Prop := PI X tg e (tI B E cmp f)
section
variable {B : Bs} {G : Gh} {own : Own} {ρ : Env} {s s' : S} {σ : Sg} {H H1 : Hp}
theorem Chg.av (R : Rel B G own ρ s σ H) {cmp : Bool} {a : Addr} (h : Chg G own cmp a) : Av G own a := h.elim (fun z => R.dkA a z) fun z => .inr z.2
theorem Rel.noT (R : Rel B G own ρ s σ H) {cmp : Bool} {a : Addr} {u : HO} (ht : isTu u = true) (h : H a = some u) : ¬ Chg G own cmp a := fun z => by
  rcases z with z | ⟨_, i, z⟩
  · obtain ⟨o, e, n⟩ := R.dkT z
    rw [h] at e; cases e; rw [ht] at n; cases n
  · obtain ⟨o, e, n⟩ := R.ont i a z
    rw [h] at e; cases e; rw [ht] at n; cases n
/-- what stands for data still does -/
theorem ItOk.item (R : Rel B G own ρ s σ H1) {cmp : Bool} {H2 H3 : Hp} (k : ∀ a o, H1 a = some o → ¬ Chg G own cmp a → H2 a = some o) (sm : Same H2 H3) {x : V} {d : D} (h : Rp B (Av G own) H1 x d) :
    ∀ A', (∀ a, A' a → Av G own a ∨ H1 a = none) → Rp B A' H3 x d := fun A' hA => by
  have h2 : Rp B (fun a => A' a ∨ Av G own a) H1 x d := Rp.wk (fun a z => z.elim (hA a) .inl) h
  have kp : Kp (fun a => A' a ∨ Av G own a) H1 H3 := ⟨fun a u ht e => sm a _ (k a _ e (R.noT ht e)), fun a o e n => sm a _ (k a o e fun z => n (.inr (Chg.av R z)))⟩
  exact (h2.kp kp).mono fun _ z => .inl z
theorem tp_kept (R : Rel B G own ρ s σ H1) {cmp : Bool} {H2 : Hp} (k : ∀ a o, H1 a = some o → ¬ Chg G own cmp a → H2 a = some o) {K : PySem.W.Frag} {a : Addr} {xs : List V} (h : Tp K H1 a xs) : Tp K H2 a xs := by
  rcases h with (h | ⟨o, h⟩) | h
  · exact .inl (.inl (k a _ h (R.noT rfl h)))
  · exact .inl (.inr ⟨o, k a _ h (R.noT rfl h)⟩)
  · exact .inr h
theorem it_tup {K : PySem.W.Frag} (R : Rel B G own ρ s σ H1) {cmp : Bool} {a : Addr} {xs : List V} {ds : List D} (h : Tp K H1 a xs) (r : RpL B (Av G own) H1 xs ds) : ItOk B (Av G own) (Chg G own cmp) (Itt K a) ds H1 := by
  intro H2 k
  have h2 := tp_kept R k h
  refine ⟨fun i d e => ?_, xs, h2.sq, by rw [r.len]; exact Nat.le_refl _⟩
  obtain ⟨x, ex, rx⟩ := r.get' e
  refine ⟨⟨xs, x, h2.sq, ex⟩, ?_⟩
  rintro y H3 ⟨rfl, hy⟩
  have := hy xs h2.sq
  rw [ex] at this; cases this
  exact ⟨Same.refl _, ItOk.item R k (Same.refl _) rx⟩
theorem it_lst {K : PySem.W.Frag} (R : Rel B G own ρ s σ H1) {cmp : Bool} {a : Addr} {xs : List V} {ds : List D} (h : H1 a = some (.lst xs)) (n : ¬ Chg G own cmp a) (r : RpL B (Av G own) H1 xs ds) : ItOk B (Av G own) (Chg G own cmp) (Itl K a) ds H1 := by
  intro H2 k
  have h2 := SqL.of (K := K) (k a _ h n)
  refine ⟨fun i d e => ?_, xs, h2, by rw [r.len]; exact Nat.le_refl _⟩
  obtain ⟨x, ex, rx⟩ := r.get' e
  refine ⟨⟨xs, x, h2, ex⟩, ?_⟩
  rintro y H3 ⟨rfl, hy⟩
  have := hy xs h2
  rw [ex] at this; cases this
  exact ⟨Same.refl _, ItOk.item R k (Same.refl _) rx⟩
theorem it_rng (R : Rel B G own ρ s σ H1) {cmp : Bool} {lo : Int} {n : Nat} : ItOk B (Av G own) (Chg G own cmp) (Itr lo n) ((List.range n).map fun i => .int (lo + (i : Nat))) H1 := by
  intro H2 k
  refine ⟨fun i d e => ?_, by show n ≤ _; simp⟩
  rw [List.getElem?_map] at e
  by_cases hi : i < n
  · rw [List.getElem?_range hi] at e
    cases e
    refine ⟨hi, ?_⟩
    rintro y H3 ⟨rfl, rfl⟩
    exact ⟨Same.refl _, fun _ _ => .int _⟩
  · rw [List.getElem?_eq_none (by simpa using hi)] at e; cases e
end
section
variable {X : Cx} {B : Bs} {E : XK} {e a b c tg : Expr} {f fa fb : Ex S} {g : Exs S} {pos p : Pos}
def iSeq (f : Ex S) : Lx S := fun ρ s => (f ρ s).bind fun y s1 => match y with
  | .d (.list ds) => .ok ds s1
  | .d (.tuple ds) => .ok ds s1
  | _ => .bad
theorem sat_eq {α : Type} {o : Out S α} {P : α → S → Prop} {T : Exn → S → Prop} (h : o.sat P T) : (∃ y s', o = .ok y s' ∧ P y s') ∨ ∃ e s', o = .ex e s' ∧ T e s' := by
  cases o with
  | bad => exact h.elim
  | ok y s' => exact .inl ⟨y, s', rfl, h⟩
  | ex e s' => exact .inr ⟨e, s', rfl, h⟩
theorem di_seq (hB : B.K = X.K) {cmp : Bool} (h : DE X B E e f) : DI X B E cmp tg e (iSeq f) := by
  refine pi_imp (pi_or (pi_list h) (pi_tup h)) fun σ H R' ⟨G, own, ρ, s, R, q⟩ => ?_
  have q1 := Out.sat.bnd q
  rcases sat_eq q1 with ⟨y, s1, e1, q2⟩ | ⟨y, s1, e1, q2⟩
  · have go : ∀ (P : Val → S → Prop), P y s1 → (f ρ s).sat P fun e s' => ExW B G E e s' := fun P hP => by rw [e1]; exact hP
    cases y with
    | r _ => exact q2.elim
    | o _ _ => exact q2.elim
    | p _ => exact q2.elim
    | f _ => exact q2.elim
    | d d =>
      cases d with
      | list ds =>
        refine .inl ⟨G, own, ρ, s, R, go _ fun v H1 k r => ?_⟩
        cases r with
        | lst h n r => 
          exact ⟨_, rfl, ⟨_, SqL.of h⟩, q2 _ H1 k (it_lst (R.stp k) h (fun z => n (Chg.av (R.stp k) z)) r)⟩
      | tuple ds =>
        refine .inr ⟨G, own, ρ, s, R, go _ fun v H1 k r => ?_⟩
        cases r with
        | tup h r => 
          refine ⟨_, rfl, ⟨_, by rw [← hB]; exact h.sq⟩, q2 _ H1 k (by rw [← hB]; exact it_tup (R.stp k) h r)⟩
      | _ => exact q2.elim
  · exact .inl ⟨G, own, ρ, s, R, by rw [e1]; exact q2⟩
theorem di_seqB (hB : B.K = X.K) (h : DB X B E e f) : DI X B E true tg e (iSeq f) := by
  refine pi_imp (pi_or (pi_list h) (pi_tup h)) fun σ H R' ⟨G, own, ρ, s, R, q⟩ => ?_
  have q1 := Out.sat.bnd q
  rcases sat_eq q1 with ⟨y, s1, e1, q2⟩ | ⟨y, s1, e1, q2⟩
  · have go : ∀ (P : Val → S → Prop), P y s1 → (f ρ s).sat P fun e s' => ExW B G E e s' := fun P hP => by rw [e1]; exact hP
    have nc : ∀ a, ¬ G.A0 a → ¬ Chg G own true a := fun a n z => z.elim (fun z => n (R.wf1 a z)) fun z => by cases z.1
    cases y with
    | r _ => exact q2.elim
    | o _ _ => exact q2.elim
    | p _ => exact q2.elim
    | f _ => exact q2.elim
    | d d =>
      cases d with
      | list ds =>
        refine .inl ⟨G, own, ρ, s, R, go _ fun v H1 k r => ?_⟩
        cases r with
        | lst h n r => exact ⟨_, rfl, ⟨_, SqL.of h⟩, q2 _ H1 k (it_lst (R.stp k) h (nc _ n) r)⟩
        | of r =>
          cases r with
          | lst h n r => exact ⟨_, rfl, ⟨_, SqL.of h⟩, q2 _ H1 k (it_lst (R.stp k) h (fun z => n (Chg.av (R.stp k) z)) r)⟩
      | tuple ds =>
        refine .inr ⟨G, own, ρ, s, R, go _ fun v H1 k r => ?_⟩
        cases r with
        | of r =>
          cases r with
          | tup h r => exact ⟨_, rfl, ⟨_, by rw [← hB]; exact h.sq⟩, q2 _ H1 k (by rw [← hB]; exact it_tup (R.stp k) h r)⟩
      | _ => exact q2.elim
  · exact .inl ⟨G, own, ρ, s, R, by rw [e1]; exact q2⟩
/-- the ints lo, lo + 1, .. -/
def rngD (lo : Int) (n : Nat) : List D := (List.range n).map fun i => .int (lo + (i : Nat))
def rngC (lo c : Int) (n : Nat) : List D := (List.range n).map fun i => .int (lo + (i : Nat) * c)
def small62 (i : Int) : Bool := decide (-(2 ^ 62) ≤ i ∧ i < 2 ^ 62)
def iRg1 (g : Exs S) : Lx S := fun ρ s => (g ρ s).bind fun ys s1 => match ys with
  | [.d (.int j)] => if small62 j then .ok (rngD 0 j.toNat) s1 else .bad
  | _ => .bad
def iRg2 (g : Exs S) : Lx S := fun ρ s => (g ρ s).bind fun ys s1 => match ys with
  | [.d (.int i), .d (.int j)] => if small62 i && small62 j then .ok (rngD i (j - i).toNat) s1 else .bad
  | _ => .bad
/-- range(i, j, -1) -/
def iRg3 (g : Exs S) : Lx S := fun ρ s => (g ρ s).bind fun ys s1 => match ys with
  | [.d (.int i), .d (.int j), .d (.int (-1))] => if small62 i && small62 j then .ok (rngC i (-1) (i - j).toNat) s1 else .bad
  | _ => .bad
theorem rtl1 {A N : Addr → Prop} {H : Hp} {vs : List V} {y : Val} (h : RtL B A N H vs [y]) : ∃ v, vs = [v] ∧ RtV B A N H v y := by
  cases h with
  | cons h t => cases t; exact ⟨_, rfl, h⟩
theorem rtl2 {A N : Addr → Prop} {H : Hp} {vs : List V} {y z : Val} (h : RtL B A N H vs [y, z]) : ∃ v w, vs = [v, w] ∧ RtV B A N H v y ∧ RtV B A N H w z := by
  cases h with
  | cons h t =>
    obtain ⟨w, rfl, r⟩ := rtl1 t
    exact ⟨_, _, rfl, h, r⟩
theorem di_range1 {cmp : Bool} (hm : X.mg "range" = none) (ha : DA X B E [a] g) (hg : Gl X "range" := by rfl) (hs : starEach [a] X.env = [(false, eval a X.env)] := by rfl) : DI X B E cmp tg (.Call (.Name "range" p) [a] [] pos) (iRg1 g) := by
  refine pi_imp (pi_range1 hg hm ha hs) fun σ H R' ⟨G, own, ρ, s, R, q⟩ => ?_
  refine tAs.run R _ q.bnd fun ys s1 vs H1 q1 k1 r1 R1 => ?_
  split at q1
  · rename_i j
    obtain ⟨v, rfl, r⟩ := rtl1 r1
    split at q1
    · rename_i hj
      unfold small62 at hj
      rw [decide_eq_true_eq] at hj
      refine ⟨j, by rw [rt_int r], hj.1, hj.2, q1 _ H1 k1 (it_rng R1)⟩
    · exact q1.elim
  · exact q1.elim
theorem di_range2 {cmp : Bool} (hm : X.mg "range" = none) (ha : DA X B E [a, b] g) (hg : Gl X "range" := by rfl) (hs : starEach [a, b] X.env = [(false, eval a X.env), (false, eval b X.env)] := by rfl) (hs2 : starEach [b] X.env = [(false, eval b X.env)] := by rfl) :
    DI X B E cmp tg (.Call (.Name "range" p) [a, b] [] pos) (iRg2 g) := by
  refine pi_imp (pi_range2 hg hm ha hs hs2) fun σ H R' ⟨G, own, ρ, s, R, q⟩ => ?_
  refine tAs.run R _ q.bnd fun ys s1 vs H1 q1 k1 r1 R1 => ?_
  split at q1
  · rename_i i j
    obtain ⟨v, w, rfl, r, r'⟩ := rtl2 r1
    split at q1
    · rename_i hj
      unfold small62 at hj
      rw [Bool.and_eq_true, decide_eq_true_eq, decide_eq_true_eq] at hj
      refine ⟨i, j, by rw [rt_int r, rt_int r'], ⟨hj.1.1, hj.1.2, hj.2.1, hj.2.2⟩, q1 _ H1 k1 (it_rng R1)⟩
    · exact q1.elim
  · exact q1.elim
/-- zip(xs, ys): both lists, or both tuples -/
def zipD (a b : List D) : List D := (a.zip b).map fun p => .tuple [p.1, p.2]
def iZip (g : Exs S) : Lx S := fun ρ s => (g ρ s).bind fun ys s1 => match ys with
  | [.d (.list a), .d (.list b)] => .ok (zipD a b) s1
  | [.d (.tuple a), .d (.tuple b)] => .ok (zipD a b) s1
  | _ => .bad
end
def forL (bt : Bt) (g : Sx S) : List D → Sx S
  | [], ρ, s => .ok (.nx ρ) s
  | d :: ds, ρ, s => match bt d ρ with
    | none => .bad
    | some ρ1 => (g ρ1 s).bind fun fl s1 => match fl with
      | .nx ρ2 => forL bt g ds ρ2 s1
      | .ct ρ2 => forL bt g ds ρ2 s1
      | .bk ρ2 => .ok (.nx ρ2) s1
      | .rt y => .ok (.rt y) s1
      | .rg y ρ2 => .ok (.rg y ρ2) s1
def sFor (it : Lx S) (bt : Bt) (g : Sx S) : Sx S := fun ρ s => (it ρ s).bind fun ds s1 => forL bt g ds ρ s1
section
variable {X : Cx} {B : Bs} {E : XK} {tg iter c : Expr} {body : List Stmt} {it : Lx S} {bt : Bt} {g : Sx S} {vs : List Nat} {pos : Pos}
/-- fresh in the course of a statement: Av grows by what was not there -/
theorem Gone.av {G : Gh} {own own' : Own} {H H' : Hp} (x : Gone G own own' H H') {a : Addr} (h : Av G own' a) : Av G own a ∨ H a = none := by
  rcases h with h | ⟨i, h⟩
  · exact .inl (.inl h)
  · exact (x.news i a h).elim (fun ⟨j, z⟩ => .inl (.inr ⟨j, z⟩)) .inr
theorem Gone.same {G : Gh} {own : Own} {H H' : Hp} (k : Same H H') : Gone G own own H H' := ⟨fun a o h _ _ => k a o h, fun i a h => .inl ⟨i, h⟩⟩
theorem ds_for (hc : Ctx X B) (hp : PassesOwn (model X.prog X.w) X.A X.env X.xe) (hi : DI X B E false tg iter it) (hg : DG S X B tg bt vs) (hb : DSs X B E body g) (hs : ∀ x, foldedSetIterable iter X.env x = pure x := by intro _; rfl) :
    DS X B E (.For tg iter body [] pos) (sFor it bt g) := by
  refine ps_imp (ps_for hp hc.calm hi hg hb hs) fun Dd σ H ⟨G, own, ρ, s, R, q⟩ => ?_
  refine ⟨G, own, ρ, s, R, q.bnd.mono fun ds s1 q1 J H1 k1 ok => ?_⟩
  have R1 := R.stp k1
  refine ⟨fun i m σ2 H2 => m = ds.length - i ∧ i ≤ ds.length ∧ ∃ own2 ρ2 s2, Rel B G own2 ρ2 s2 σ2 H2 ∧ Gone G own own2 H1 H2 ∧ (forL bt g (ds.drop i) ρ2 s2).sat (Post B G own H Dd) fun e s' => ExW B G E e s',
    ⟨ds.length, by simp, Nat.zero_le _, own, ρ, s1, R1, .refl, by simpa using q1⟩, ?_⟩
  rintro i m σ2 H2 ⟨rfl, hi, own2, ρ2, s2, R2, g2, q2⟩
  have kept : ∀ a o, H1 a = some o → ¬ Chg G own false a → H2 a = some o := fun a o h n => g2.keep a o h (fun z => n (.inl z)) fun j z => n (.inr ⟨rfl, j, z⟩)
  obtain ⟨go, stop⟩ := ok H2 kept
  by_cases hlt : i < ds.length
  · have hd : ds[i]? = some ds[i] := by simp [hlt]
    obtain ⟨g1, gy⟩ := go i _ hd
    rw [List.drop_eq_getElem_cons hlt] at q2
    refine .inr ⟨g1, fun σ' H' => ∃ own3 ρ3 s3, Rel B G own3 ρ3 s3 σ' H' ∧ Gone G own own3 H1 H' ∧ (forL bt g (ds.drop (i + 1)) ρ3 s3).sat (Post B G own H Dd) fun e s' => ExW B G E e s', fun σ' H' ⟨own3, ρ3, s3, R3, g3, q3⟩ => ⟨ds.length - (i + 1), by omega, rfl, hlt, own3, ρ3, s3, R3, g3, q3⟩, fun x H3 hy => ?_⟩
    obtain ⟨sm, rp⟩ := gy x H3 hy
    have R3 := R2.stp (R2.same sm)
    have g3 : Gone G own own2 H1 H3 := g2.trans R2 (.same sm)
    have q3 : (forL bt g (ds[i] :: ds.drop (i + 1)) ρ2 s2).sat (Post B G own H Dd) fun e s' => ExW B G E e s' := q2
    unfold forL at q3
    cases hz : bt ds[i] ρ2 with
    | none => simp only [hz] at q3; exact q3.elim
    | some ρ' =>
      simp only [hz] at q3
      refine ⟨G, own2, ρ2, s2, _, ρ', R3, rp _ fun a z => g2.av z, hz, fun σ4 R4 _ => ?_⟩
      refine ⟨G, own2, ρ', s2, R4, q3.bnd.mono fun fl s5 q5 => ?_⟩
      cases fl with
      | nx ρ5 => exact fun own5 σ5 H5 R5 g5 => ⟨own5, ρ5, s5, R5, g3.trans R3 g5, q5⟩
      | ct ρ5 => exact fun own5 σ5 H5 R5 g5 => ⟨own5, ρ5, s5, R5, g3.trans R3 g5, q5⟩
      | bk ρ5 => exact fun own5 σ5 H5 R5 g5 => q5 own5 σ5 H5 R5 ((Gone.of_stp k1).trans R1 (g3.trans R3 g5))
      | rt y => exact q5
      | rg y ρ5 => exact fun v own5 σ5 H5 R5 g5 => q5 v own5 σ5 H5 R5 ((Gone.of_stp k1).trans R1 (g3.trans R3 g5))
  · have e : i = ds.length := by omega
    subst e
    rw [List.drop_length] at q2
    exact .inl ⟨stop, q2 own2 σ2 H2 R2 ((Gone.of_stp k1).trans R1 g2)⟩
def whL (c : Tx S) (g : Sx S) : Nat → Sx S
  | 0, _, _ => .bad
  | n + 1, ρ, s => (c ρ s).bind fun b s1 => if b then (g ρ s1).bind fun fl s2 => match fl with
      | .nx ρ2 => whL c g n ρ2 s2
      | .ct ρ2 => whL c g n ρ2 s2
      | .bk ρ2 => .ok (.nx ρ2) s2
      | .rt y => .ok (.rt y) s2
      | .rg y ρ2 => .ok (.rg y ρ2) s2
    else .ok (.nx ρ) s1
/-- turns enough -/
@[irreducible] def FU : Nat := 1000000000
def sWh (n : Nat) (c : Tx S) (g : Sx S) : Sx S := fun ρ s => whL c g n ρ s
theorem ds_while (n : Nat) {fc : Tx S} (hp : PassesOwn (model X.prog X.w) X.A X.env X.xe) (hc : DT X B E c fc) (hb : DSs X B E body g) : DS X B E (.While c body [] pos) (sWh n fc g) := by
  refine ps_imp (ps_while hp hc hb) fun Dd σ H ⟨G, own, ρ, s, R, q⟩ => ?_
  refine ⟨fun m σ2 H2 => ∃ own2 ρ2 s2, Rel B G own2 ρ2 s2 σ2 H2 ∧ Gone G own own2 H H2 ∧ (whL fc g m ρ2 s2).sat (Post B G own H Dd) fun e s' => ExW B G E e s', ⟨n, own, ρ, s, R, .refl, q⟩, ?_⟩
  rintro m σ2 H2 ⟨own2, ρ2, s2, R2, g2, q2⟩
  cases m with
  | zero => exact q2.elim
  | succ m =>
    unfold whL at q2
    refine tT.run R2 _ q2.bnd fun b s3 H3 q3 k3 R3 => ?_
    have g3 : Gone G own own2 H H3 := g2.trans R2 (.of_stp k3)
    cases b with
    | true =>
      refine ⟨fun σ' H' => ∃ own3 ρ3 s3, Rel B G own3 ρ3 s3 σ' H' ∧ Gone G own own3 H H' ∧ (whL fc g m ρ3 s3).sat (Post B G own H Dd) fun e s' => ExW B G E e s', fun σ' H' h => ⟨m, by omega, h⟩, ?_⟩
      simp only [if_true] at q3
      refine ⟨G, own2, ρ2, s3, R3, q3.bnd.mono fun fl s5 q5 => ?_⟩
      cases fl with
      | nx ρ5 => exact fun own5 σ5 H5 R5 g5 => ⟨own5, ρ5, s5, R5, g3.trans R3 g5, q5⟩
      | ct ρ5 => exact fun own5 σ5 H5 R5 g5 => ⟨own5, ρ5, s5, R5, g3.trans R3 g5, q5⟩
      | bk ρ5 => exact fun own5 σ5 H5 R5 g5 => q5 own5 σ5 H5 R5 (g3.trans R3 g5)
      | rt y => exact q5
      | rg y ρ5 => exact fun v own5 σ5 H5 R5 g5 => q5 v own5 σ5 H5 R5 (g3.trans R3 g5)
    | false =>
      simp only [Bool.false_eq_true, if_false] at q3
      exact q3 own2 σ2 H3 R3 g3
end
theorem wipe_at (σ : Sg) (j : Nat) : ∀ vs : List Nat, (wipe σ vs)[j]? = if j ∈ vs then σ[j]?.map (fun _ => none) else σ[j]?
  | [] => by simp [wipe]
  | v :: vs => by
    unfold wipe
    by_cases h : v = j
    · subst h
      rw [List.getElem?_set]
      simp only [List.mem_cons, true_or, if_true]
      rw [wipe_length]
      by_cases hl : v < σ.length
      · simp [hl]
      · simp [hl]
    · rw [List.getElem?_set_ne h, wipe_at σ j vs]
      have : (j ∈ v :: vs) ↔ j ∈ vs := by simp [Ne.symm h, fun e => h (Eq.symm e)]
      simp only [this]
theorem wipe_idem (σ : Sg) (vs : List Nat) : wipe (wipe σ vs) vs = wipe σ vs := by
  apply List.ext_getElem?
  intro j
  rw [wipe_at, wipe_at]
  split
  · simp [Option.map_map, Function.comp_def]
  · rfl
def noex {α : Type} (o : Out S α) : Out S α := match o with
  | .ok a s => .ok a s
  | _ => .bad
theorem noex_sat {α : Type} {o : Out S α} {P : α → S → Prop} {T T' : Exn → S → Prop} (h : (noex o).sat P T) : o.sat P T' := by
  cases o with
  | bad => exact h
  | ex _ _ => exact h.elim
  | ok _ _ => exact h
def lcL (bt : Bt) (c : Tx S) (f : Ex S) (ρ : Env) : List D → S → Out S (List D)
  | [], s => .ok [] s
  | d :: ds, s => match bt d ρ with
    | none => .bad
    | some ρ1 => (noex (c ρ1 s)).bind fun b s1 => if b then (noex (f ρ1 s1)).bind fun y s2 => (match y with
        | .d z => (lcL bt c f ρ ds s2).bind fun r s3 => .ok (z :: r) s3
        | _ => .bad)
      else lcL bt c f ρ ds s1
def lLc (it : Lx S) (bt : Bt) (c : Tx S) (f : Ex S) (vs : List Nat) : Lx S := fun ρ s => (it ρ s).bind fun ds s1 => if ds.length ≤ sizeLine then lcL bt c f (wipeE vs ρ) ds s1 else .bad
def xYes : Tx S := fun _ s => .ok true s
abbrev DTs (X : Cx) (B : Bs) (E : XK) (es : List Expr) (f : Tx S) : Prop := PTs X es (tT B E f)
theorem dts_nil {X : Cx} {B : Bs} {E : XK} : DTs X B E [] (xYes : Tx S) := ⟨fun pins s σ H Q I q => pts_nil.run pins s σ H Q I (let ⟨G, own, ρ, s, R, q⟩ := q; q H R.refl)⟩
theorem dts_one {X : Cx} {B : Bs} {E : XK} {c : Expr} {f : Tx S} (h : DT X B E c f) : DTs X B E [c] f := pts_one h
abbrev E00 : XK := fun _ _ _ => False
section
variable {X : Cx} {B : Bs} {E : XK} {tg iter elt : Expr} {ifs : List Expr} {it : Lx S} {bt : Bt} {f : Ex S} {fc : Tx S} {own : List (Str × Nat)} {scope : Scope} {pos : Pos}
theorem tLc_of {σ : Sg} {H : Hp} {Q : VK} (h : tF B E (lLc it bt fc f (own.map (·.2))) σ H Q) : tLc (tI B E true it) (tG S B bt (own.map (·.2))) (tT B E00 fc) (tD B E00 f) (own.map (·.2)) σ H Q := by
  obtain ⟨G, ow, ρ, s, R, q⟩ := h
  refine ⟨G, ow, ρ, s, R, q.bnd.mono fun ds s1 q1 J H1 k1 ok => ?_⟩
  intro p hp
  have R1 := R.stp k1
  generalize hvs : own.map (·.2) = vs at q1 ⊢
  split at q1
  · rename_i hsz
    let G' : Gh := { H0 := fun _ => none, A0 := fun a => G.A0 a ∨ a = p, dks := G.dks }
    have npo : ∀ i, ow i ≠ some p := fun i z => by
      obtain ⟨o, e, _⟩ := R1.ont i p z
      rw [hp] at e; cases e
    have npd : p ∉ G.dks := fun z => by
      obtain ⟨o, e, _⟩ := R1.dkT z
      rw [hp] at e; cases e
    have av' : ∀ a, Av G' ow a ↔ Av G ow a ∨ a = p := fun a => ⟨fun z => z.elim (fun z => z.elim (fun z => .inl (.inl z)) .inr) fun z => .inl (.inr z), fun z => z.elim (fun z => z.elim (fun z => .inl (.inl z)) .inr) fun z => .inl (.inr z)⟩
    have RG : ∀ {s2 : S} {H2 : Hp}, (∀ a o, H1 a = some o → a ∉ G.dks → H2 a = some o) → H2 p ≠ none → SI.dks s2 = G.dks → SI.rep s2 H2 → Rel B G' ow (wipeE vs ρ) s2 (wipe σ vs) H2 := fun {s2 H2} k hpn hd hr => by
      have Rw := R1.wiped vs
      have stp : Stp G s2 H1 H2 := ⟨k, hd, hr⟩
      have Rz := Rw.stp stp
      have kp := Rw.kp stp
      refine ⟨fun a z => .inl (R.wf1 a z), fun a z => z.elim (Rz.wf2 a) (fun e => by rw [e]; exact hpn), (fun a o z => by cases z), hd, hr, R.inj, fun i a z => ⟨rfl, fun y => y.elim (R.fre i a z).2 fun e => npo i (by rw [← e]; exact z)⟩, Rz.ont, Rz.len, fun i x e => ?_⟩
      have qs := Rw.sl i x e
      have wkv : ∀ {v : V} {y : Val}, RvV B (Av G ow) H1 v y → RvV B (Av G' ow) H2 v y := fun {v y} h => ((h.grow hp).mono fun a z => (av' a).mp z).kp ⟨fun a xs h => kp.tup a xs h, fun a o h n => kp.all a o h fun z => n ((av' a).mpr (.inl z))⟩
      have wko : ∀ {a : Addr} {x : Sl}, (∀ o, H1 a = some o → H2 a = some o) → OwnAt B (Av G ow) H1 a x → OwnAt B (Av G' ow) H2 a x := fun {a x} ha h => ((h.grow hp).mono fun a z => (av' a).mp z).kp ⟨fun a xs h => kp.tup a xs h, fun a o h n => kp.all a o h fun z => n ((av' a).mpr (.inl z))⟩ ha
      have nd : ∀ a, ow i = some a → a ∉ G.dks := fun a ho z => (R.fre i a ho).2 (R.wf1 a z)
      cases x with
      | no => trivial
      | v y => obtain ⟨u, e, r⟩ := qs; exact ⟨u, e, wkv r⟩
      | l ds => obtain ⟨a, ho, hs, r⟩ := qs; exact ⟨a, ho, hs, wko (fun o h => k a o h (nd a ho)) r⟩
      | m ds => obtain ⟨a, ho, hs, r⟩ := qs; exact ⟨a, ho, hs, wko (fun o h => k a o h (nd a ho)) r⟩
      | g c a fs =>
        obtain ⟨gs, ho, hs, hg, r⟩ := qs
        refine ⟨gs, ho, hs, hg, ((r.grow hp).mono fun a z => (av' a).mp z).kp ⟨fun a xs h => kp.tup a xs h, fun a o h n => kp.all a o h fun z => n ((av' a).mpr (.inl z))⟩ fun l hl o e => k l o e fun z => ?_⟩
        obtain ⟨j, e'⟩ := gm_own ho hg l hl
        exact (R.fre j l e').2 (R.wf1 l z)
      | q _ _ => obtain ⟨a, ho, hs, r⟩ := qs; exact ⟨a, ho, hs, wko (fun o h => k a o h (nd a ho)) r⟩
    let Pend : List D → S → Prop := fun ds s' => ∀ p H' xs, Stp G s' H H' → H p = none → H' p = some (.lst xs) → RpL B (fun a => Av G ow a ∨ a = p) H' xs ds → Q (.ref p) H'
    have hp0 : H p = none := Stp.none R1 k1 hp
    refine ⟨fun i m H2 => m = ds.length - i ∧ i ≤ ds.length ∧ ∃ s2 acc da, H2 p = some (.lst acc) ∧ acc.length ≤ i ∧ RpL B (Av G' ow) H2 acc da ∧ (∀ a o, H1 a = some o → a ∉ G.dks → H2 a = some o) ∧ SI.dks s2 = G.dks ∧ SI.rep s2 H2 ∧
      (lcL bt fc f (wipeE vs ρ) (ds.drop i) s2).sat (fun r s' => Pend (da ++ r) s') fun e s' => ExW B G E e s', ⟨ds.length, by simp, Nat.zero_le _, s1, [], [], upd_same, Nat.le_refl _, .nil, fun a o h n => by rw [upd_ne (ne_of_none h hp)]; exact h, R1.dk, (R1.put hp).rs, by simpa using q1⟩, ?_⟩
    rintro i m H2 ⟨rfl, hi, s2, acc, da, hacc, hal, racc, keep, hd2, hr2, q2⟩
    have R2 := RG keep (by rw [hacc]; simp) hd2 hr2
    obtain ⟨go, stop⟩ := ok H2 fun a o h n => keep a o h fun z => n (.inl z)
    by_cases hlt : i < ds.length
    · obtain ⟨g1, gy⟩ := go i ds[i] (by simp [hlt])
      rw [List.drop_eq_getElem_cons hlt] at q2
      refine .inr ⟨g1, fun H' => ∃ s2 acc da, H' p = some (.lst acc) ∧ acc.length ≤ i + 1 ∧ RpL B (Av G' ow) H' acc da ∧ (∀ a o, H1 a = some o → a ∉ G.dks → H' a = some o) ∧ SI.dks s2 = G.dks ∧ SI.rep s2 H' ∧
        (lcL bt fc f (wipeE vs ρ) (ds.drop (i + 1)) s2).sat (fun r s' => Pend (da ++ r) s') fun e s' => ExW B G E e s', fun H' h => ⟨ds.length - (i + 1), by omega, rfl, hlt, h⟩, fun x H3 hy => ?_⟩
      obtain ⟨sm, rp⟩ := gy x H3 hy
      have R3 := R2.stp (R2.same sm)
      unfold lcL at q2
      cases hz : bt ds[i] (wipeE vs ρ) with
      | none => simp only [hz] at q2; exact q2.elim
      | some ρ' =>
        simp only [hz] at q2
        refine ⟨G', ow, _, s2, _, ρ', R3, rp _ fun a z => ((av' a).mp z).elim .inl fun e => .inr (by rw [e]; exact hp), hz, fun σ4 R4 w4 => ⟨w4.trans (wipe_idem σ vs), ?_⟩⟩
        refine tT.run R4 _ (noex_sat q2.bnd) fun b s5 H5 q5 k5 R5 => ?_
        have keep5 : ∀ a o, H1 a = some o → a ∉ G.dks → H5 a = some o := fun a o h n => k5.fr a o (sm a _ (keep a o h n)) n
        have hacc5 : H5 p = some (.lst acc) := k5.fr p _ (sm p _ hacc) npd
        have kp5 : Kp (Av G' ow) H2 H5 := ⟨fun a u ht h => (R4.kp k5).tup a u ht (sm a _ h), fun a o h n => (R4.kp k5).all a o (sm a o h) n⟩
        have racc5 := RpL.kp kp5 racc
        cases b with
        | false =>
          simp only [Bool.false_eq_true, if_false] at q5 ⊢
          exact ⟨s5, acc, da, hacc5, by omega, racc5, keep5, k5.dk, k5.rs, q5⟩
        | true =>
          simp only [if_true] at q5 ⊢
          refine tD.run R5 _ (noex_sat q5.bnd) fun y s6 v H6 q6 k6 r6 R6 => ?_
          have keep6 : ∀ a o, H1 a = some o → a ∉ G.dks → H6 a = some o := fun a o h n => k6.fr a o (keep5 a o h n) n
          have hacc6 : H6 p = some (.lst acc) := k6.fr p _ hacc5 npd
          have racc6 := RpL.kp (R5.kp k6) racc5
          cases y with
          | r _ => exact q6.elim
          | o _ _ => exact q6.elim
          | p _ => exact q6.elim
          | f _ => exact q6.elim
          | d z =>
            refine ⟨acc, hacc6, by omega, s6, acc ++ [v], da ++ [z], upd_same, by simp; omega, ?_, fun a o h n => ?_, k6.dk, ?_, ?_⟩
            · have kp : Kp (Av G' ow) H6 (upd H6 p (.lst (acc ++ [v]))) := by
                refine ⟨fun b ys ht h => ?_, fun b u h n => ?_⟩
                · rw [upd_ne]
                  · exact h
                  · rintro rfl; rw [hacc6] at h; cases h; cases ht
                · rw [upd_ne]
                  · exact h
                  · rintro rfl; exact n ((av' _).mpr (.inr rfl))
              exact RpL.kp kp (racc6.app (.cons r6 .nil))
            · rw [upd_ne (ne_of_none h hp)]; exact keep6 a o h n
            · refine SI.keep s6 H6 _ k6.rs (fun a h => ?_) fun b ys ht h => ?_
              · rw [upd_ne]
                rintro rfl
                exact npd (by rw [← k6.dk]; exact h)
              · rw [upd_ne]
                · exact h
                · rintro rfl; rw [hacc6] at h; cases h; cases ht
            · refine q6.bnd.mono fun r s7 q7 => ?_
              rw [List.append_assoc]
              exact q7
    · have e : i = ds.length := by omega
      subst e
      rw [List.drop_length] at q2
      refine .inl ⟨stop, ?_⟩
      have q3 : Pend (da ++ []) s2 := q2
      rw [List.append_nil] at q3
      refine q3 p H2 acc ⟨fun a o h n => ?_, hd2, hr2⟩ hp0 hacc (racc.mono fun a z => (av' a).mpr z)
      exact keep a o (k1.fr a o h n) n
  · exact q1.elim
theorem df_lc (c : Ctx X B) (hi : DI X B E true tg iter it) (ok : BlkOk X.N X.env.scope scope own)
    (hg : ∀ (s : Shared) (H : Hp) (C : Addr) (cl : List (Str × Addr)) (fp : List Addr), DG S (X.blk s H scope (compEnvC scope cl C X.env) fp) B tg bt (own.map (·.2)))
    (ht : ∀ (s : Shared) (H : Hp) (C : Addr) (cl : List (Str × Addr)) (fp : List Addr), DTs (X.blk s H scope (compEnvC scope cl C X.env) fp) B E00 ifs fc)
    (he : ∀ (s : Shared) (H : Hp) (C : Addr) (cl : List (Str × Addr)) (fp : List Addr), DE (X.blk s H scope (compEnvC scope cl C X.env) fp) B E00 elt f)
    (hs : ∀ x, foldedSetIterable iter X.env x = pure x := by intro _; rfl) : DF X B E (.ListComp elt [⟨tg, iter, ifs, 0⟩] scope pos) (lLc it bt fc f (own.map (·.2))) :=
  pe_imp (pe_lc c.calm c.nd hi ok hg ht he hs) fun σ H Q h => tLc_of h
end
end DL
namespace DL
open PySem PySem.Spec PyProof.Rows L2
variable {S : Type} [SI S]
section
variable {B : Bs}
def oLen : List D → Option D
  | [.list ds] => some (.int ds.length)
  | [.tuple ds] => some (.int ds.length)
  | [.str x] => if x.length ≤ sizeLine then some (.int x.length) else none
  | _ => none
theorem cl_len : CallD B (fun xs H Q => ∃ x n, xs = [x] ∧ LenV B.K x H n ∧ Q (.int n) H) oLen := by
  intro A N H vs ds z Q fr hz hv k
  unfold oLen at hz
  split at hz
  · cases hz
    obtain ⟨v, rfl, r⟩ := rtl1 hv
    obtain ⟨a, xs, rfl, h, rl⟩ := rt_lst r
    exact ⟨_, _, rfl, .inl ⟨xs, SqL.of h, rl.len.symm⟩, k _ H (Same.refl H) (.int _)⟩
  · cases hz
    obtain ⟨v, rfl, r⟩ := rtl1 hv
    obtain ⟨a, xs, rfl, h, rl⟩ := rt_tup r
    exact ⟨_, _, rfl, .inr ⟨xs, h.sq, rl.len.symm⟩, k _ H (Same.refl H) (.int _)⟩
  · split at hz
    · rename_i hl
      cases hz
      obtain ⟨v, rfl, r⟩ := rtl1 hv
      exact ⟨_, _, rfl, by rw [rt_str r]; exact ⟨hl, rfl⟩, k _ H (Same.refl H) (.int _)⟩
    · cases hz
  · cases hz
def oAbs : List D → Option D
  | [.int i] => some (.int (if i < 0 then -i else i))
  | _ => none
theorem cl_abs : CallD B (fun xs H Q => ∃ i, xs = [.int i] ∧ Q (.int (if i < 0 then -i else i)) H) oAbs := by
  intro A N H vs ds z Q fr hz hv k
  unfold oAbs at hz
  split at hz
  · cases hz
    obtain ⟨v, rfl, r⟩ := rtl1 hv
    exact ⟨_, by rw [rt_int r], k _ H (Same.refl H) (.int _)⟩
  · cases hz
def oInt : List D → Option D
  | [.int i] => some (.int i)
  | [.bool b] => some (.int (if b then 1 else 0))
  | _ => none
theorem cl_int : CallD B (fun xs H Q => (∃ i, xs = [.int i] ∧ Q (.int i) H) ∨ ∃ k, xs = [.bl k] ∧ Q (.int (if k then 1 else 0)) H) oInt := by
  intro A N H vs ds z Q fr hz hv k
  unfold oInt at hz
  split at hz
  · cases hz
    obtain ⟨v, rfl, r⟩ := rtl1 hv
    exact .inl ⟨_, by rw [rt_int r], k _ H (Same.refl H) (.int _)⟩
  · cases hz
    obtain ⟨v, rfl, r⟩ := rtl1 hv
    exact .inr ⟨_, by rw [rt_bl r], k _ H (Same.refl H) (.int _)⟩
  · cases hz
def oTuple : List D → Option D
  | [.list ds] => some (.tuple ds)
  | [.tuple ds] => some (.tuple ds)
  | _ => none
theorem cl_tuple : CallD B (fun xs H Q => ∃ p ys, xs = [.ref p] ∧ ((SqL B.K H p ys ∧ ∀ l, H l = none → Q (.ref l) (upd H l (.tup ys))) ∨ (SqT B.K H p ys ∧ Q (.ref p) H))) oTuple := by
  intro A N H vs ds z Q fr hz hv k
  unfold oTuple at hz
  split at hz
  · cases hz
    obtain ⟨v, rfl, r⟩ := rtl1 hv
    obtain ⟨a, xs, rfl, h, rl⟩ := rt_lst r
    exact ⟨a, xs, rfl, .inl ⟨SqL.of h, fun l hl => k _ _ (same_upd hl) (new_tup hl rl)⟩⟩
  · cases hz
    obtain ⟨v, rfl, r⟩ := rtl1 hv
    obtain ⟨a, xs, rfl, h, rl⟩ := rt_tup r
    exact ⟨a, xs, rfl, .inr ⟨h.sq, k _ H (Same.refl H) (.tup h rl)⟩⟩
  · cases hz
def oList : List D → Option D
  | [.list ds] => some (.list ds)
  | [.tuple ds] => some (.list ds)
  | _ => none
/-- the intsD of data -/
def intsD : List D → Option (List Int)
  | [] => some []
  | .int i :: r => (intsD r).map (i :: ·)
  | _ :: _ => none
theorem intsD_eq : ∀ {ds : List D} {ns : List Int}, intsD ds = some ns → ds = ns.map .int
  | [], _, h => by cases h; rfl
  | .int i :: r, _, h => by
    simp only [intsD, Option.map_eq_some_iff] at h
    obtain ⟨m, e, rfl⟩ := h
    rw [intsD_eq e]; rfl
  | .none :: _, _, h => by cases h
  | .bool _ :: _, _, h => by cases h
  | .str _ :: _, _, h => by cases h
  | .list _ :: _, _, h => by cases h
  | .tuple _ :: _, _, h => by cases h
  | .dict _ :: _, _, h => by cases h
def boolsD : List D → Option (List Bool)
  | [] => some []
  | .bool i :: r => (boolsD r).map (i :: ·)
  | _ :: _ => none
theorem bools_eq : ∀ {ds : List D} {ns : List Bool}, boolsD ds = some ns → ds = ns.map .bool
  | [], _, h => by cases h; rfl
  | .bool i :: r, _, h => by
    simp only [boolsD, Option.map_eq_some_iff] at h
    obtain ⟨m, e, rfl⟩ := h
    rw [bools_eq e]; rfl
  | .none :: _, _, h => by cases h
  | .int _ :: _, _, h => by cases h
  | .str _ :: _, _, h => by cases h
  | .list _ :: _, _, h => by cases h
  | .tuple _ :: _, _, h => by cases h
  | .dict _ :: _, _, h => by cases h
def maxL : List Int → Int
  | [] => 0
  | [a] => a
  | a :: r => max a (maxL r)
def minL : List Int → Int
  | [] => 0
  | [a] => a
  | a :: r => min a (minL r)
theorem maxL_of : ∀ {ns : List Int} {m : Int}, m ∈ ns → (∀ y, y ∈ ns → y ≤ m) → m = maxL ns
  | [], m, h, _ => by simp at h
  | [a], m, h, _ => by simpa [maxL] using h
  | a :: b :: r, m, h, k => by
    show m = max a (maxL (b :: r))
    have ha := k a (by simp)
    by_cases hm : m ∈ b :: r
    · have e := maxL_of hm (fun y hy => k y (List.mem_cons_of_mem _ hy))
      rw [← e]; omega
    · have e : m = a := by
        rcases List.mem_cons.mp h with z | z
        · exact z
        · exact absurd z hm
      have : maxL (b :: r) ≤ a := by
        have hmem : ∀ l : List Int, l ≠ [] → maxL l ∈ l := by
          intro l
          induction l with
          | nil => intro h; exact absurd rfl h
          | cons x t ih =>
            intro _
            cases t with
            | nil => simp [maxL]
            | cons y t' =>
              show max x (maxL (y :: t')) ∈ x :: y :: t'
              have := ih (by simp)
              by_cases hx : x ≤ maxL (y :: t')
              · rw [Int.max_eq_right hx]; exact List.mem_cons_of_mem _ this
              · rw [Int.max_eq_left (by omega)]; exact List.mem_cons_self
        have := k _ (List.mem_cons_of_mem a (hmem (b :: r) (by simp)))
        omega
      rw [e, Int.max_eq_left this]
theorem minL_of : ∀ {ns : List Int} {m : Int}, m ∈ ns → (∀ y, y ∈ ns → m ≤ y) → m = minL ns
  | [], m, h, _ => by simp at h
  | [a], m, h, _ => by simpa [minL] using h
  | a :: b :: r, m, h, k => by
    show m = min a (minL (b :: r))
    have ha := k a (by simp)
    by_cases hm : m ∈ b :: r
    · have e := minL_of hm (fun y hy => k y (List.mem_cons_of_mem _ hy))
      rw [← e]; omega
    · have e : m = a := by
        rcases List.mem_cons.mp h with z | z
        · exact z
        · exact absurd z hm
      have : a ≤ minL (b :: r) := by
        have hmem : ∀ l : List Int, l ≠ [] → minL l ∈ l := by
          intro l
          induction l with
          | nil => intro h; exact absurd rfl h
          | cons x t ih =>
            intro _
            cases t with
            | nil => simp [minL]
            | cons y t' =>
              show min x (minL (y :: t')) ∈ x :: y :: t'
              have := ih (by simp)
              by_cases hx : minL (y :: t') ≤ x
              · rw [Int.min_eq_right hx]; exact List.mem_cons_of_mem _ this
              · rw [Int.min_eq_left (by omega)]; exact List.mem_cons_self
        have := k _ (List.mem_cons_of_mem a (hmem (b :: r) (by simp)))
        omega
      rw [e, Int.min_eq_left this]
def oMax : List D → Option D
  | [.list ds] => (intsD ds).bind fun ns => if ns = [] then none else some (.int (maxL ns))
  | [.int i, .int j] => some (.int (if j > i then j else i))
  | _ => none
def oMin : List D → Option D
  | [.list ds] => (intsD ds).bind fun ns => if ns = [] then none else some (.int (minL ns))
  | [.int i, .int j] => some (.int (if j < i then j else i))
  | _ => none
theorem cl_max : CallD B (fun xs H Q => rMax B.K xs H Q ∨ (fun xs H Q => ∃ i j, xs = [.int i, .int j] ∧ Q (.int (if j > i then j else i)) H : List V → Hp → VK → Prop) xs H Q) oMax := by
  intro A N H vs ds z Q fr hz hv k
  unfold oMax at hz
  split at hz
  · obtain ⟨ns, e, hz⟩ := Option.bind_eq_some_iff.mp hz
    split at hz
    · cases hz
    · rename_i hne
      cases hz
      obtain ⟨v, rfl, r⟩ := rtl1 hv
      obtain ⟨a, xs, rfl, h, rl⟩ := rt_lst r
      rw [intsD_eq e] at rl
      rw [rl.ints] at h
      exact .inl ⟨a, ns, rfl, SqL.of h, List.length_pos_iff.mpr hne, fun m h1 h2 => by rw [maxL_of h1 h2]; exact k _ H (Same.refl H) (.int _)⟩
  · cases hz
    obtain ⟨v, w, rfl, r, r'⟩ := rtl2 hv
    exact .inr ⟨_, _, by rw [rt_int r, rt_int r'], k _ H (Same.refl H) (.int _)⟩
  · cases hz
theorem cl_min : CallD B (fun xs H Q => rMin B.K xs H Q ∨ (fun xs H Q => ∃ i j, xs = [.int i, .int j] ∧ Q (.int (if j < i then j else i)) H : List V → Hp → VK → Prop) xs H Q) oMin := by
  intro A N H vs ds z Q fr hz hv k
  unfold oMin at hz
  split at hz
  · obtain ⟨ns, e, hz⟩ := Option.bind_eq_some_iff.mp hz
    split at hz
    · cases hz
    · rename_i hne
      cases hz
      obtain ⟨v, rfl, r⟩ := rtl1 hv
      obtain ⟨a, xs, rfl, h, rl⟩ := rt_lst r
      rw [intsD_eq e] at rl
      rw [rl.ints] at h
      exact .inl ⟨a, ns, rfl, SqL.of h, List.length_pos_iff.mpr hne, fun m h1 h2 => by rw [minL_of h1 h2]; exact k _ H (Same.refl H) (.int _)⟩
  · cases hz
    obtain ⟨v, w, rfl, r, r'⟩ := rtl2 hv
    exact .inr ⟨_, _, by rw [rt_int r, rt_int r'], k _ H (Same.refl H) (.int _)⟩
  · cases hz
def oAll : List D → Option D
  | [.list ds] => (boolsD ds).map fun bs => .bool (bs.all id)
  | _ => none
theorem cl_all : CallD B (rAll B.K) oAll := by
  intro A N H vs ds z Q fr hz hv k
  unfold oAll at hz
  split at hz
  · obtain ⟨ns, e, rfl⟩ := Option.map_eq_some_iff.mp hz
    obtain ⟨v, rfl, r⟩ := rtl1 hv
    obtain ⟨a, xs, rfl, h, rl⟩ := rt_lst r
    rw [bools_eq e] at rl
    rw [rl.bools] at h
    exact ⟨a, ns, rfl, SqL.of h, k _ H (Same.refl H) (.bl _)⟩
  · cases hz
/-- repr of data -/
def oRepr : List D → Option D
  | [d] => if d.canLay0 && d.showable && decide (d.shown.length ≤ sizeLine) && decide (d.depth ≤ 60) then some (.str d.shown) else none
  | _ => none
def rRepr (K : PySem.W.Frag) : List V → Hp → VK → Prop := fun xs H Q => ∃ x d, xs = [x] ∧ Dp K H x d ∧ d.canLay0 = true ∧ d.showable = true ∧ d.shown.length ≤ sizeLine ∧ d.depth ≤ 60 ∧ Q (.str d.shown) H
theorem cl_repr : CallD B (rRepr B.K) oRepr := by
  intro A N H vs ds z Q fr hz hv k
  unfold oRepr at hz
  split at hz
  · split at hz
    · rename_i d h
      cases hz
      simp only [Bool.and_eq_true, decide_eq_true_eq] at h
      obtain ⟨v, rfl, r⟩ := rtl1 hv
      exact ⟨v, d, rfl, rt_dp r h.1.1.1, h.1.1.1, h.1.1.2, h.1.2, h.2, k _ H (Same.refl H) (.str _)⟩
    · cases hz
  · cases hz
theorem call_repr {X : Cx} (hg : X.A.guards = some []) (hu : X.A.units + 64 < cLine) : CallR X (.builtin "repr") (rRepr X.K) := by
  intro pins s σ H xs us Q I rs h
  obtain ⟨x, d, rfl, dp, lay, sh, sz, dep, q⟩ := h
  obtain ⟨u, rfl, r⟩ := vals1 rs
  obtain ⟨as, rd⟩ := Dp.reads I d x u dp r
  cases rd with
  | none => exact PySem.P.repr_of_none ⟨.str _, H, I.tok _, ⟨_, rfl⟩, q⟩
  | bool b => exact PySem.P.repr_of_bool ⟨.str _, H, I.tok _, ⟨_, by simp only [PyData.shown]; cases b <;> rfl⟩, q⟩
  | int i t => exact PySem.P.repr_of_int (by simpa [PyData.showable] using sh) ⟨.str _, H, I.tok _, ⟨s.toks, by simp only [PyData.shown]⟩, q⟩
  | str z t => exact PySem.P.repr_of_str ⟨.str _, H, I.tok _, ⟨s.toks, by simp only [PyData.shown]⟩, q⟩ (by simpa only [PyData.shown] using sz)
  | list h1 h2 h3 h4 =>
    exact PySem.repr_of_reads' (h₀ := s.heap) (.list h1 h2 h3 h4) sh (PyData.noDict_hsm (PyData.hasDict_of_canLay _ lay)) hg (by omega) (fun _ _ e => e) (fun h' u tk hk => ⟨.str _, H, I.kept hk, ⟨_, rfl⟩, q⟩) sz
  | tuple h1 h2 h3 h4 =>
    exact PySem.repr_of_reads' (h₀ := s.heap) (.tuple h1 h2 h3 h4) sh (PyData.noDict_hsm (PyData.hasDict_of_canLay _ lay)) hg (by omega) (fun _ _ e => e) (fun h' u tk hk => ⟨.str _, H, I.kept hk, ⟨_, rfl⟩, q⟩) sz
  | dict h1 h2 h3 h4 h5 => simp [PyData.canLay0] at lay
def tyD : D → String
  | .none => "NoneType"
  | .bool _ => "bool"
  | .int _ => "int"
  | .str _ => "str"
  | .list _ => "list"
  | .tuple _ => "tuple"
  | .dict _ => "dict"
/-- whether an object of this kind is one of T, T among int, bool, str, tuple, list -/
def isT (T : String) (d : D) : Bool := tyD d == T || (T == "int" && tyD d == "bool")
def kinds : List String := ["NoneType", "bool", "int", "str", "list", "tuple", "dict"]
def kitOk (T : String) : Bool := kinds.all fun k => kitB k T == some (k == T || (T == "int" && k == "bool"))
theorem kit_int : kitOk "int" = true := by decide +kernel
def eIsi (T : String) (f : Ex S) : Ex S := fun ρ s => (f ρ s).bind fun y s1 => match y with
  | .d (.dict _) => .bad
  | .d d => .ok (.d (.bool (isT T d))) s1
  | _ => .bad
theorem ty_of {A N : Addr → Prop} {H : Hp} {x : V} {d : D} (h : RtV B A N H x (.d d)) (nd : ∀ kvs, d ≠ .dict kvs) : TyX B.K H x (.type (tyD d)) := by
  cases d with
  | none => rw [rt_non h]; exact .base .non
  | bool b => rw [rt_bl h]; exact .base (.bl _)
  | int i => rw [rt_int h]; exact .base (.int _)
  | str z => rw [rt_str h]; exact .base (.str _)
  | list ds => obtain ⟨a, xs, rfl, e, _⟩ := rt_lst h; exact .base (.lst e)
  | tuple ds =>
    obtain ⟨a, xs, rfl, e, _⟩ := rt_tup h
    rcases e with (e | ⟨o, e⟩) | ⟨o, its, n, lk, c, _⟩
    · exact .base (.tup e)
    · exact .fTuple e
    · exact .kTuple lk c
  | dict kvs => exact absurd rfl (nd kvs)
theorem de_isi {X : Cx} {E : XK} {a : Expr} {f : Ex S} {T : String} {p p2 pos : Pos} (hB : B.K = X.K) (hk : kitOk T = true) (hm : X.mg "isinstance" = none) (ha : DB X B E a f) (hT : PE X (.Name (Str.ofString T) p2) (tC (.ty T))) (hg : Gl X "isinstance" := by rfl)
    (hs : starEach [a, .Name (Str.ofString T) p2] X.env = (false, eval a X.env) :: starEach [.Name (Str.ofString T) p2] X.env := by rfl) (hs2 : starEach [.Name (Str.ofString T) p2] X.env = (false, eval (.Name (Str.ofString T) p2) X.env) :: starEach [] X.env := by rfl) (hpl : (backTo pos (starEach [.Name (Str.ofString T) p2] X.env)).any (·.1) = false := by rfl) :
    DE X B E (.Call (.Name "isinstance" p) [a, .Name (Str.ofString T) p2] [] pos) (eIsi T f) := by
  refine pe_imp (pe_callB call_isi hg hm (by decide +kernel) (pa_cons ha (pa_cons hT pa_nil hs2) hs) (he := hs) (hpl := hpl)) fun σ H Q ⟨G, own, ρ, s, R, q⟩ => ?_
  refine tB.run R _ q.bnd fun y s1 v H1 q1 k1 r1 R1 => ?_
  cases y with
  | r _ => exact q1.elim
  | o _ _ => exact q1.elim
  | p _ => exact q1.elim
  | f _ => exact q1.elim
  | d d =>
    by_cases hd : ∃ kvs, d = .dict kvs
    · obtain ⟨kvs, rfl⟩ := hd
      exact q1.elim
    · have nd : ∀ kvs, d ≠ .dict kvs := fun kvs e => hd ⟨kvs, e⟩
      have q2 : ∀ v H', Stp G s1 H H' → RvV B (Av G own) H' v (.d (.bool (isT T d))) → Q v H' := by
        cases d with
        | dict kvs => exact absurd rfl (nd kvs)
        | _ => exact q1
      have hmem : tyD d ∈ kinds := by cases d <;> simp [tyD, kinds]
      have hkit : kitB (tyD d) T = some (isT T d) := by
        have := List.all_eq_true.mp hk _ hmem
        simpa [isT] using this
      exact ⟨v, .ty T, .type (tyD d), .type T, isT T d, rfl, .ty T, by rw [← hB]; exact ty_of r1 nd, kit_ty hkit, q2 _ H1 k1 (.bl _)⟩
def opIn : D → D → Option D
  | d, .list ds => if SeqAt.shaped d && SeqAt.shaped (.list ds) then some (.bool (ds.any fun z => PyData.eqv z d)) else none
  | d, .tuple ds => if SeqAt.shaped d && SeqAt.shaped (.tuple ds) then some (.bool (ds.any fun z => PyData.eqv z d)) else none
  | .str c, .str z => some (.bool (!(Builtin.Str.occurrences z c 0 z.length 1).isEmpty))
  | _, _ => none
def opNotIn : D → D → Option D := fun a b => match opIn a b with
  | some (.bool k) => some (.bool (!k))
  | _ => none
def rInT (K : PySem.W.Frag) (neg : Bool) : R2 := fun x y H Q => ∃ d ds, Dp K H x d ∧ Dp K H y (.tuple ds) ∧ SeqAt.shaped d = true ∧ SeqAt.shaped (.tuple ds) = true ∧ Q (.bl (if neg then !ds.any fun z => PyData.eqv z d else ds.any fun z => PyData.eqv z d)) H
theorem op_inT {X : Cx} (hu : X.A.units + 65 < cLine) : OpR X (compareOp .In) (rInT X.K false) := by
  intro pins s σ H x y v u Q I rx ry h
  obtain ⟨d, ds, hd, he, sd, se, q⟩ := h
  obtain ⟨as, r1⟩ := Dp.reads I d x v hd rx
  obtain ⟨bs, r2⟩ := Dp.reads I (.tuple ds) y u he ry
  refine SeqAt.in_tuple_reads r2 r1 (SeqAt.canLay_of_shaped se) (SeqAt.canLay_of_shaped sd) (room_in_shaped sd hu) ?_
  exact ⟨.bl _, H, I, rfl, q⟩
theorem op_notInT {X : Cx} (hu : X.A.units + 65 < cLine) : OpR X (compareOp .NotIn) (rInT X.K true) := by
  intro pins s σ H x y v u Q I rx ry h
  obtain ⟨d, ds, hd, he, sd, se, q⟩ := h
  obtain ⟨as, r1⟩ := Dp.reads I d x v hd rx
  obtain ⟨bs, r2⟩ := Dp.reads I (.tuple ds) y u he ry
  refine SeqAt.notIn_tuple_reads r2 r1 (SeqAt.canLay_of_shaped se) (SeqAt.canLay_of_shaped sd) (room_in_shaped sd hu) ?_
  exact ⟨.bl _, H, I, rfl, q⟩
abbrev rInA (K : PySem.W.Frag) : R2 := fun x y H Q => rInD K x y H Q ∨ (fun x y H Q => rInT K false x y H Q ∨ (fun x y H Q => ∃ i j, x = .str i ∧ y = .str j ∧ Q (.bl (!(Builtin.Str.occurrences j i 0 j.length 1).isEmpty)) H : R2) x y H Q : R2) x y H Q
abbrev rNotInA (K : PySem.W.Frag) : R2 := fun x y H Q => rNotInD K x y H Q ∨ (fun x y H Q => rInT K true x y H Q ∨ (fun x y H Q => ∃ i j, x = .str i ∧ y = .str j ∧ Q (.bl (!(!(Builtin.Str.occurrences j i 0 j.length 1).isEmpty))) H : R2) x y H Q : R2) x y H Q
theorem od_in : OpD B (rInA B.K) opIn := by
  intro A N H x y p q z Q fr hz hx hy k
  unfold opIn at hz
  split at hz
  · split at hz
    · rename_i h
      cases hz
      rw [Bool.and_eq_true] at h
      exact .inl ⟨_, _, rt_dp hx (SeqAt.canLay_of_shaped h.1), rt_dp hy (SeqAt.canLay_of_shaped h.2), h.1, h.2, k _ H (Same.refl H) (.bl _)⟩
    · cases hz
  · split at hz
    · rename_i h
      cases hz
      rw [Bool.and_eq_true] at h
      exact .inr (.inl ⟨_, _, rt_dp hx (SeqAt.canLay_of_shaped h.1), rt_dp hy (SeqAt.canLay_of_shaped h.2), h.1, h.2, k _ H (Same.refl H) (.bl _)⟩)
    · cases hz
  · cases hz
    exact .inr (.inr ⟨_, _, rt_str hx, rt_str hy, k _ H (Same.refl H) (.bl _)⟩)
  · cases hz
theorem od_notIn : OpD B (rNotInA B.K) opNotIn := by
  intro A N H x y p q z Q fr hz hx hy k
  unfold opNotIn opIn at hz
  split at hz
  · rename_i b hz2
    cases hz
    split at hz2
    · split at hz2
      · rename_i h
        cases hz2
        rw [Bool.and_eq_true] at h
        exact .inl ⟨_, _, rt_dp hx (SeqAt.canLay_of_shaped h.1), rt_dp hy (SeqAt.canLay_of_shaped h.2), h.1, h.2, k _ H (Same.refl H) (.bl _)⟩
      · cases hz2
    · split at hz2
      · rename_i h
        cases hz2
        rw [Bool.and_eq_true] at h
        exact .inr (.inl ⟨_, _, rt_dp hx (SeqAt.canLay_of_shaped h.1), rt_dp hy (SeqAt.canLay_of_shaped h.2), h.1, h.2, k _ H (Same.refl H) (.bl _)⟩)
      · cases hz2
    · cases hz2
      exact .inr (.inr ⟨_, _, rt_str hx, rt_str hy, k _ H (Same.refl H) (.bl _)⟩)
    · cases hz2
  · cases hz
theorem cd_in {X : Cx} (c : Ctx X B) : CmpD X B .In opIn := ⟨_, (op_inD c.u65).or ((op_inT c.u65).or op_in_str), by rw [← c.hK]; exact od_in⟩
theorem cd_notin {X : Cx} (c : Ctx X B) : CmpD X B .NotIn opNotIn := ⟨_, (op_notInD c.u65).or ((op_notInT c.u65).or L2.op_notin_str), by rw [← c.hK]; exact od_notIn⟩
section
variable {X : Cx} {E : XK} {a b e : Expr} {f fa fb : Ex S} {g : Exs S} {p p2 pos pos2 : Pos}
def lOf (f : Ex S) : Lx S := iSeq f
theorem df_list (hB : B.K = X.K) (hm : X.mg "list" = none) (ha : DB X B E a f) (hg : Gl X "list" := by rfl) (he : starEach [a] X.env = (false, eval a X.env) :: starEach [] X.env := by rfl) (hpl : (backTo pos (starEach [] X.env)).any (·.1) = false := by rfl) :
    DF X B E (.Call (.Name "list" p) [a] [] pos) (lOf f) := by
  refine pe_imp (pe_callTy call_list_of hg hm boot_list (pa_cons ha pa_nil he) (he := he) (hpl := hpl)) fun σ H Q ⟨G, own, ρ, s, R, q⟩ => ?_
  refine tB.run R _ q.bnd fun y s1 v H1 q1 k1 r1 R1 => ?_
  cases y with
  | r _ => exact q1.elim
  | o _ _ => exact q1.elim
  | p _ => exact q1.elim
  | f _ => exact q1.elim
  | d d =>
    cases d with
    | list ds =>
      obtain ⟨u, xs, rfl, h, rl⟩ := rt_lst r1
      exact ⟨u, xs, rfl, .inl (SqL.of h), fun l hl => q1 l _ xs (k1.trans (R1.put hl)) (Stp.none R1 k1 hl) upd_same ((rl.grow hl).kp (kp_same (same_upd hl)))⟩
    | tuple ds =>
      obtain ⟨u, xs, rfl, h, rl⟩ := rt_tup r1
      exact ⟨u, xs, rfl, .inr (by rw [← hB]; exact h.sq), fun l hl => q1 l _ xs (k1.trans (R1.put hl)) (Stp.none R1 k1 hl) upd_same ((rl.grow hl).kp (kp_same (same_upd hl)))⟩
    | _ => exact q1.elim
/-- str(n) -/
def oStr : List D → Option D
  | [.int i] => if i.natAbs.log2 < 1920 then some (.str (toString i)) else none
  | _ => none
theorem cl_str : CallD B (fun xs H Q => ∃ i, xs = [.int i] ∧ i.natAbs.log2 < 1920 ∧ Q (.str (toString i)) H) oStr := by
  intro A N H vs ds z Q fr hz hv k
  unfold oStr at hz
  split at hz
  · split at hz
    · rename_i h
      cases hz
      obtain ⟨v, rfl, r⟩ := rtl1 hv
      exact ⟨_, by rw [rt_int r], h, k _ H (Same.refl H) (.str _)⟩
    · cases hz
  · cases hz
end
end
end DL
namespace DL
open PySem PySem.Spec PyProof.Rows L2
variable {S : Type} [SI S]
/-- a def's promise, called where no guard stands -/
structure FnG (P : Program) (w : World) (K : PySem.W.Frag) (mg : Str → Option Value) (base : Heap) (CX : CXT) (k : Nat) (f : Addr) (fd : FuncData) (ps : List Str) (sp : Sp) : Prop where
  len : ∀ vs H Q E, sp vs H Q E → vs.length = ps.length
  run : ∀ (A : Around) (outer : List PySem.Env) (s : Shared) (H : Hp) (args : Args) (us : List Value) (vs : List V) (Q : VK) (E : XK),
    Room k A → A.guards = some [] → Env0 P w K mg base A outer s H → BindsTo s fd args (ps.zip us) → Vals vs us → sp vs H Q E →
      codeAny (model P w) A (.call (.ref f) args) (CR CX outer P w H s Q E) s
section
variable {P : Program} {w : World} {K : PySem.W.Frag} {mg : Str → Option Value} {base : Heap} {CX : CXT} {j k : Nat} {f : Addr} {fd : FuncData} {ps : List Str} {sp : Sp}
theorem FnG.mono (F : FnG P w K mg base CX j f fd ps sp) (h : j ≤ k) : FnG P w K mg base CX k f fd ps sp where
  len := F.len
  run := fun A outer s H args us vs Q E hr => F.run A outer s H args us vs Q E (hr.mono h)
/-- the rule of a def by its body -/
theorem fg_of {name qual : Str} {params : Arguments} {body : List Stmt} {scope : Scope} {dV kV doc pm cdv ct oc : Value} {an od : Option Addr} {osl : Array (Option Value)} {N : List Str}
    (lk : K.lookup f = some ⟨oc, od, .func (PySem.W.fnOf name qual params body scope dV kV doc pm an cdv ct), osl⟩) (hcd : PySem.W.codeIn K cdv qual = true) (Sc : FnScope N ps scope)
    (len : ∀ vs H Q E, sp vs H Q E → vs.length = ps.length)
    (hbody : ∀ (A : Around) (outer : List PySem.Env) (s : Shared) (H : Hp) (vs : List V) (Q : VK) (E : XK), Room k (A.deeper (envOfC qual scope s.heap.objs.size f cdv)) → A.guards = some [] → sp vs H Q E →
      ∃ t, PSs (cxOf CX P w K mg base N qual scope f cdv A outer s H E) body t ∧ t { nx := fun _ H' => Q .non H', rt := Q } (L2.start N vs) H) :
    FnG P w K mg base CX (k + 1) f (PySem.W.fnOf name qual params body scope dV kV doc pm an cdv ct) ps sp where
  len := len
  run := fun A outer s H args us vs Q E hr gd e0 hb r hsp => by
    have KX : K.In s.heap := e0.mod.kin.keeps (fun b o e => (e0.bs b o e).1)
    have lim : s.heap.NoLimit := e0.mod.nolimit.keeps (fun b o e => (e0.bs b o e).1)
    have hkind : ∀ y ∈ ps.zip us, scope.names.lookup y.1 = some .local ∨
        (scope.names.lookup y.1 = some .cell ∧ ((cellsFrom (s.heap.objs.size + 1) scope.names []).lookup y.1).isSome = true) := by
      rintro ⟨n, v⟩ hy
      exact (Sc.par n (List.of_mem_zip hy).1).imp id (fun q => ⟨q, PySem.W.cellsFrom_some _ _ _ (.inl q)⟩)
    refine codeAny_call_function hr.depth (KX _ _ lk) rfl Sc.co Sc.gen rfl (PySem.W.codeRec_of KX hcd)
      (hb _ _ _ _ (wpAny_newFunctionEnv_cells Sc.kind hkind (fun env he s1 x => ?_)))
    subst he
    refine ⟨lim.keeps x.toInCall.keep, codeAny_func ?_⟩
    obtain ⟨t, ht, hq⟩ := hbody A outer s H vs Q E (hr.deeper _) gd hsp
    have I := inv_start (CX := CX) (E := E) Sc hr.hd e0 (len _ _ _ _ hsp) r x
    refine wpAny_mono (ht.run [] s1 (L2.start N vs) H _ I hq) (fun fl s' hs => ?_) (fun _ _ hs => hs)
    cases fl with
    | ret u => obtain ⟨v, σ', H', J, rv, q⟩ := hs; exact ⟨v, H', J.os, J.bare, J.base, J.hok, rv, q⟩
    | next => obtain ⟨σ', H', J, q⟩ := hs; exact ⟨V.non, H', J.os, J.bare, J.base, J.hok, rfl, q⟩
    | brk => exact (let ⟨_, _, _, q⟩ := hs; False.elim q)
    | cont => exact (let ⟨_, _, _, q⟩ := hs; False.elim q)
end
/-- what a call's arguments and heap must be -/
structure Call0 (B : Bs) (A0 : Addr → Prop) (s : S) (H : Hp) (vs : List V) (ys : List Val) : Prop where
  dk : ∀ a ∈ SI.dks s, A0 a
  th : ∀ a, A0 a → H a ≠ none
  rs : SI.rep s H
  av : RvL B A0 H vs ys
/-- what a call leaves -/
structure Call1 (s s' : S) (H H' : Hp) : Prop where
  fr : ∀ a o, H a = some o → a ∉ SI.dks s → H' a = some o
  dk : SI.dks s' = SI.dks s
  rs : SI.rep s' H'
/-- the promise of a def that raises nothing: F tells what it gives -/
def spP (B : Bs) (n : Nat) (F : List Val → S → Out S Val) : Sp := fun vs H Q _ => ∃ A0 ys, ∃ s : S, ys.length = n ∧ Call0 B A0 s H vs ys ∧
  (noex (F ys s)).sat (fun y s' => ∀ v H', Call1 s s' H H' → RvV B A0 H' v y → Q v H') fun _ _ => False
/-- .. that may raise -/
def spX (B : Bs) (n : Nat) (F : List Val → S → Out S Val) : Sp := fun vs H Q E => ∃ A0 ys, ∃ s : S, ys.length = n ∧ Call0 B A0 s H vs ys ∧
  (F ys s).sat (fun y s' => ∀ v H', Call1 s s' H H' → RvV B A0 H' v y → Q v H') fun e s' => ∀ C od H', Call1 s s' H H' → ExR B A0 e C od H' → E (.ref C) od H'
theorem Out.sat.both {α : Type} {o : Out S α} {P P' : α → S → Prop} {T' : Exn → S → Prop} (h : o.sat P fun _ _ => False) (k : ∀ y s, P y s → P' y s) : o.sat P' T' := by
  cases o with
  | bad => exact h
  | ex _ _ => exact h.elim
  | ok y s => exact k y s h
/-- a body as a function: n further slots -/
def runF (n : Nat) (body : Sx S) (ys : List Val) (s : S) : Out S Val := (body (ys.map .v ++ List.replicate n .no) s).bind fun fl s' => match fl with
  | .rt y => .ok y s'
  | .nx _ => .ok (.d .none) s'
  | _ => .bad
theorem RvL.len {B : Bs} {A : Addr → Prop} {H : Hp} : ∀ {vs : List V} {ys : List Val}, RvL B A H vs ys → vs.length = ys.length
  | _, _, .nil => rfl
  | _, _, .cons _ t => by simp [RvL.len t]
theorem RvL.get {B : Bs} {A : Addr → Prop} {H : Hp} : ∀ {vs : List V} {ys : List Val} {i : Nat} {y : Val}, RvL B A H vs ys → ys[i]? = some y → ∃ v, vs[i]? = some v ∧ RvV B A H v y
  | _, _, _, _, .nil, h => by simp at h
  | _, _, 0, _, .cons a t, h => by simp at h; subst h; exact ⟨_, rfl, a⟩
  | _, _, i + 1, x, .cons a t, h => by
    obtain ⟨y, e, r⟩ := RvL.get (i := i) (y := x) t (by simpa using h)
    exact ⟨y, by simpa using e, r⟩
theorem rel_start {B : Bs} {A0 : Addr → Prop} {s : S} {H : Hp} {vs : List V} {ys : List Val} {N : List Str} {n : Nat} (c : Call0 B A0 s H vs ys) (hn : N.length = vs.length + n) :
    Rel B ⟨H, A0, SI.dks s⟩ (fun _ => none) (ys.map .v ++ List.replicate n .no) s (L2.start N vs) H := by
  have hl := c.av.len
  refine ⟨c.dk, c.th, fun _ _ h _ => h, rfl, c.rs, fun _ _ _ h => (nomatch h), fun _ _ h => (nomatch h), fun _ _ h => (nomatch h), ?_, fun i x e => ?_⟩
  · unfold L2.start
    simp only [List.length_append, List.length_map, List.length_replicate]
    omega
  · by_cases hi : i < ys.length
    · rw [List.getElem?_append_left (by simpa using hi), List.getElem?_map] at e
      obtain ⟨y, e1, e2⟩ := Option.map_eq_some_iff.mp e
      subst e2
      obtain ⟨v, e3, r⟩ := c.av.get e1
      refine ⟨v, ?_, r.mono fun a z => z.elim id fun ⟨_, z⟩ => nomatch z⟩
      unfold L2.start
      rw [List.getElem?_append_left (by simpa [hl] using hi), List.getElem?_map, e3]
      rfl
    · rw [List.getElem?_append_right (by simpa using hi), List.getElem?_replicate] at e
      split at e
      · cases e; trivial
      · cases e
section
variable {P : Program} {w : World} {K : PySem.W.Frag} {mg : Str → Option Value} {base : Heap} {B : Bs} {k n : Nat} {f : Addr} {fd : FuncData} {ps N : List Str} {x qual : Str} {st : Stmt}
theorem ctx_of (hP : B.P = P) (hK : B.K = K) (hw : B.w = w) (Sc : FnScope N ps (defScope st)) {CX : CXT} {cdv : Value} {A : Around} {outer : List PySem.Env} {s : Shared} {H : Hp} {E : XK} (hr : Room k (A.deeper (envOfC qual (defScope st) s.heap.objs.size f cdv))) (hg : A.guards = some []) :
    Ctx (cxOf CX P w K mg base N qual (defScope st) f cdv A outer s H E) B :=
  ⟨hP, hK, hw, rfl, Sc.nd, by have := hr.un; show (A.deeper (envOfC qual (defScope st) s.heap.objs.size f cdv)).units + 100 < cLine; omega, hg⟩
theorem Ctx.nox {X : Cx} (c : Ctx X B) : Ctx X.nox B := ⟨c.hP, c.hK, c.hw, c.calm, c.nd, c.un, c.gd⟩
abbrev cxP (P : Program) (w : World) (K : PySem.W.Frag) (mg : Str → Option Value) (base : Heap) (N : List Str) (qual : Str) (st : Stmt) (f : Addr) (cdv : Value) (A : Around) (outer : List PySem.Env) (s : Shared) (H : Hp) (E : XK) : Cx :=
  (cxOf CX0 P w K mg base N qual (defScope st) f cdv A outer s H E).nox
/-- THE RULE for a def that raises nothing -/
theorem fg_pure (hP : B.P = P) (hK : B.K = K) (hw : B.w = w) (F : Fun K x qual st f fd) (Sc : FnScope N ps (defScope st)) (body : Sx S) (hn : N.length = ps.length + n)
    (h : ∀ (cdv : Value) (A : Around) (outer : List PySem.Env) (s : Shared) (H : Hp) (E : XK), Ctx (cxP P w K mg base N qual st f cdv A outer s H E) B → Room k (cxP P w K mg base N qual st f cdv A outer s H E).A →
      DSs (cxP P w K mg base N qual st f cdv A outer s H E) B E00 (defBody st) body) : FnG P w K mg base CX0 (k + 1) f fd ps (spP B ps.length (runF n body)) := by
  obtain ⟨oc, od, kV, doc, pm, an, cdv, ct, osl, rfl, lk, hcd⟩ := F.ex
  refine fg_of lk hcd Sc (fun vs H Q E h => ?_) fun A outer s H vs Q E hr hg hsp => ?_
  · obtain ⟨A0, ys, _, hl, c, _⟩ := h
    rw [c.av.len, hl]
  · obtain ⟨A0, ys, s0, hl, c, q⟩ := hsp
    refine ⟨_, (h cdv A outer s H E (ctx_of hP hK hw Sc hr hg).nox hr).nox, ?_⟩
    refine ⟨⟨H, A0, SI.dks s0⟩, _, _, s0, rel_start (n := n) c (by rw [hn, c.av.len, hl]), ?_⟩
    have q2 := noex_sat (T' := fun _ _ => False) q
    unfold runF at q2
    refine Out.sat.both (q2.bnd) fun fl s1 q3 => ?_
    cases fl with
    | nx ρ' => exact fun own' σ' H' R' _ => q3 .non H' ⟨R'.fr, R'.dk, R'.rs⟩ .non
    | bk _ => exact q3.elim
    | ct _ => exact q3.elim
    | rg _ _ => exact q3.elim
    | rt y => exact fun v H' fr r => q3 v H' ⟨fr.fr, fr.dk, fr.rs⟩ r
end
section
variable {X : Cx} {CX : CXT} {k n : Nat} {f C : Addr} {fd : FuncData} {ps : List Str} {sp : Sp} {E E' : XK} {x m : Str} {p pos apos : Pos} {e o : Expr} {es : List Expr} {ta : TE} {t : TA} {B : Bs} {F : List Val → S → Out S Val} {g : Exs S}
theorem run_fg {pins : List (Addr × Obj)} {σ : Sg} {H : Hp} {s : Shared} {Q : VK} {us : List Value} {vs : List V} (Fn : FnG X.prog X.w X.K X.mg X.base CX k f fd ps sp) (hr : Room k X.A) (hg : X.A.guards = some []) (hb : Binds X.K fd ps []) (hx : Passes CX X E)
    (I : L2.Inv X pins σ H s) (r : Vals vs us) (h : sp vs H Q E) : wpAny (model X.prog X.w) X.A (call (.ref f) us) (EP X pins σ Q) X.xe s := by
  have hl : us.length = ps.length := by rw [← r.length]; exact Fn.len _ _ _ _ h
  have hbi := hb s us I.kIn (by rw [List.append_nil]; exact hl)
  rw [List.append_nil] at hbi
  refine wpAny_call (codeAny_mono (Fn.run X.A X.stack s H ⟨us, []⟩ us vs Q E hr hg I.env0 hbi r h) (fun r s' hq => ?_))
  cases r with
  | error e => exact hx pins σ H s e s' I hq
  | ok fl => cases fl with
    | ret u => exact I.after hq
    | next => exact hq.elim
    | brk => exact hq.elim
    | cont => exact hq.elim
theorem pe_callG (Fn : FnG X.prog X.w X.K X.mg X.base CX k f fd ps sp) (hr : Room k X.A) (hgd : X.A.guards = some []) (hg : Gl X x) (hm : X.mg x = some (.ref f)) (hk : PySem.W.keepIn X.K (.ref f) = true) (hb : Binds X.K fd ps []) (hx : Passes CX X E)
    (ha : PA X (e :: es) t) (hdb : (x == ("__debug__" : Str)) = false := by decide) (he : starEach (e :: es) X.env = (false, eval e X.env) :: starEach es X.env := by rfl) (hpl : (backTo pos (starEach es X.env)).any (·.1) = false := by rfl) :
    PE X (.Call (.Name x p) (e :: es) [] pos) (fun σ H Q => t σ H fun vs H1 => sp vs H1 Q E) := by
  constructor
  intro pins s σ H Q I h
  refine wpAny_Call_Name_kw (ld_glob I hg hm ?_ hdb)
  exact PySem.W.callWith_K (h₀ := X.base) I.ok.mod.kin hk (thn (ha.run pos pins s σ H _ I h) (fun us s1 ⟨vs, H1, I1, r, q⟩ => ⟨I1.kIn, run_fg Fn hr hgd hb hx I1 r q⟩)) he hpl
/-- f(e, ..) -/
def eFn (n : Nat) (F : List Val → S → Out S Val) (g : Exs S) : Ex S := fun ρ s => (g ρ s).bind fun ys s1 => if ys.length = n then noex (F ys s1) else .bad
theorem call0_of {G : Gh} {own : Own} {ρ : Env} {s : S} {σ : Sg} {H : Hp} {vs : List V} {ys : List Val} (R : Rel B G own ρ s σ H) (r : RvL B (Av G own) H vs ys) : Call0 B (Av G own) s H vs ys :=
  ⟨fun a h => R.dkA a (by rw [← R.dk]; exact h), fun a h => by obtain ⟨o, e⟩ := R.avT h; rw [e]; simp, R.rs, r⟩
theorem stp_of {G : Gh} {own : Own} {ρ : Env} {s s' : S} {σ : Sg} {H H' : Hp} (R : Rel B G own ρ s σ H) (c : Call1 s s' H H') : Stp G s' H H' := ⟨fun a o h n => c.fr a o h (by rw [R.dk]; exact n), c.dk.trans R.dk, c.rs⟩
theorem de_call (c : Ctx X B) (Fn : FnG X.prog X.w X.K X.mg X.base CX0 k f fd ps (spP B n F)) (hr : Room k X.A) (hm : X.mg x = some (.ref f)) (hk : PySem.W.keepIn X.K (.ref f) = true) (hb : Binds X.K fd ps [])
    (ha : DV X B E (e :: es) g) (hg : Gl X x := by rfl) (hdb : (x == ("__debug__" : Str)) = false := by decide) (he : starEach (e :: es) X.env = (false, eval e X.env) :: starEach es X.env := by rfl) (hpl : (backTo pos (starEach es X.env)).any (·.1) = false := by rfl) :
    DE X B E (.Call (.Name x p) (e :: es) [] pos) (eFn n F g) := by
  refine pe_imp (pe_callG Fn hr c.gd hg hm hk hb pass0 ha hdb he hpl) fun σ H Q ⟨G, own, ρ, s, R, q⟩ => ?_
  refine ⟨G, own, ρ, s, R, q.bnd.mono fun ys s1 q1 vs H1 k1 r1 => ?_⟩
  have R1 := R.stp k1
  split at q1
  · rename_i hl
    refine ⟨Av G own, ys, s1, hl, call0_of R1 r1, ?_⟩
    generalize hz : noex (F ys s1) = z at q1
    cases z with
    | bad => exact q1.elim
    | ok y s2 => exact fun v H' c1 rv => q1 v H' (k1.trans (stp_of R1 c1)) rv
    | ex e s2 =>
      exfalso
      cases hF : F ys s1 <;> rw [hF] at hz <;> cases hz
  · exact q1.elim
/-- .. lists of one's own are lent: what comes back holds none -/
def eFnB (n : Nat) (F : List Val → S → Out S Val) (g : Exs S) : Ex S := fun ρ s => (g ρ s).bind fun ys s1 => if ys.length = n then (noex (F ys s1)).bind fun y s2 => (match y with
    | .d d => if hard d then .ok (.d d) s2 else .bad
    | _ => .bad)
  else .bad
theorem RtL.lend {A N : Addr → Prop} {H : Hp} (k : ∀ a, N a → A a) : ∀ {vs : List V} {ys : List Val}, RtL B A N H vs ys → RvL B N H vs ys
  | _, _, .nil => .nil
  | _, _, .cons h t => .cons (h.ret k) (RtL.lend k t)
theorem de_callB (c : Ctx X B) (Fn : FnG X.prog X.w X.K X.mg X.base CX0 k f fd ps (spP B n F)) (hr : Room k X.A) (hm : X.mg x = some (.ref f)) (hk : PySem.W.keepIn X.K (.ref f) = true) (hb : Binds X.K fd ps [])
    (ha : DA X B E (e :: es) g) (hg : Gl X x := by rfl) (hdb : (x == ("__debug__" : Str)) = false := by decide) (he : starEach (e :: es) X.env = (false, eval e X.env) :: starEach es X.env := by rfl) (hpl : (backTo pos (starEach es X.env)).any (·.1) = false := by rfl) :
    DE X B E (.Call (.Name x p) (e :: es) [] pos) (eFnB n F g) := by
  refine pe_imp (pe_callG Fn hr c.gd hg hm hk hb pass0 ha hdb he hpl) fun σ H Q ⟨G, own, ρ, s, R, q⟩ => ?_
  refine ⟨G, own, ρ, s, R, q.bnd.mono fun ys s1 q1 vs H1 k1 r1 => ?_⟩
  have R1 := R.stp k1
  split at q1
  · rename_i hl
    refine ⟨G.A0, ys, s1, hl, ⟨fun a h => R1.wf1 a (by rw [← R1.dk]; exact h), R1.wf2, R1.rs, r1.lend fun a z => .inl z⟩, ?_⟩
    generalize hz : noex (F ys s1) = z at q1
    cases z with
    | bad => exact q1.elim
    | ok y s2 =>
      intro v H' c1 rv
      have q2 := q1.bnd
      cases y with
      | r _ => exact q2.elim
      | o _ _ => exact q2.elim
      | p _ => exact q2.elim
      | f _ => exact q2.elim
      | d d =>
        have q3 : (if hard d = true then Out.ok (Val.d d) s2 else Out.bad).sat (fun y s' => ∀ v H', Stp G s' H H' → RvV B (Av G own) H' v y → Q v H') (fun e s' => ExW B G E e s') := q2
        by_cases hd : hard d = true
        · rw [if_pos hd] at q3
          exact q3 v H' (k1.trans (stp_of R1 c1)) (Rp.hard rv hd)
        · rw [if_neg hd] at q3; exact q3.elim
    | ex e s2 =>
      exfalso
      cases hF : F ys s1 <;> rw [hF] at hz <;> cases hz
  · exact q1.elim
end
theorem callerA_gd : callerA.guards = some [] := rfl
theorem law_callG {P : Program} {w : World} {K : PySem.W.Frag} {mg mb : Str → Option Value} {k : Nat} {fa a : Addr} {fd : FuncData} {x : Str} {sp : Sp} {s1 : Shared} {vs : List Value} {ns : List Int}
    (KX : K.In s1.heap) (hns : s1.heap.Ns mainGlobals mg) (hb : s1.heap.Ns builtinsNs mb) (hbb : ∀ x : Str, x ≠ "__name__" → mb x = bootBuiltins x) (hlim : s1.heap.NoLimit) (hg : s1.gens = #[])
    (ha : s1.heap.get? a = some { cls := .type "list", data := .seq vs.toArray }) (hi : IntsAre vs ns) (hl : ns.length ≤ sizeLine) (hr : Room k callerA)
    (F : ∀ base : Heap, K.In base → base.Ns mainGlobals mg → FnG P w K mg base CX0 k fa fd [x] sp) (hbind : ∀ (s : Shared) (u : Value), BindsTo s fd ⟨[u], []⟩ [(x, u)])
    (hsp : ∀ H : Hp, Only H → SqL K H a (ns.map V.int) → sp [.ref a] H (fun v _ => v = .bl true) fun _ _ _ => False) :
    codeAny (model P w) callerA (.call (.ref fa) ⟨[.ref a], []⟩) (fun r s' => r = .ok (.ret (.bool true)) ∧ OldK s1.heap s'.heap ∧ s'.os = s1.os ∧ AllBare s'.gens) s1 := by
  have rv := vals_ints hi
  have core : ∀ H : Hp, Only H → SqL K H a (ns.map V.int) → HOk P w H s1.heap → (∀ b, H b ≠ none → b = a) → (H a ≠ none → K.lookup a = none) →
      codeAny (model P w) callerA (.call (.ref fa) ⟨[.ref a], []⟩) (fun r s' => r = .ok (.ret (.bool true)) ∧ OldK s1.heap s'.heap ∧ s'.os = s1.os ∧ AllBare s'.gens) s1 := by
    intro H hO hS hok hA hK
    have notA : ∀ {b : Addr} {o : Obj}, s1.heap.get? b = some o → b ≠ a → (hidT s1.heap H).get? b = some o := fun {b o} e n => hidT_get e (by
      cases q : H b with
      | none => rfl
      | some u => exact absurd (hA b (by rw [q]; simp)) n)
    have nsK : ∀ {b : Addr} {m : Str → Option Value}, s1.heap.Ns b m → (hidT s1.heap H).Ns b m := by
      rintro b m ⟨o, es, ep, e, d, r⟩
      refine ⟨o, es, ep, notA e ?_, d, r⟩
      rintro rfl
      rw [ha] at e
      cases e
      cases (show Data.seq vs.toArray _ = Data.dict es ep from d)
    have hKb : K.In (hidT s1.heap H) := fun b o e => hidT_get (KX b o e) (by
      cases q : H b with
      | none => rfl
      | some u =>
        obtain rfl := hA b (by rw [q]; simp)
        rw [hK (by rw [q]; simp)] at e
        cases e)
    have hM : Mod K mg (hidT s1.heap H) := ⟨hKb, nsK hns, ⟨mb, nsK hb, hbb⟩, let ⟨mc, h1, h2⟩ := hlim; ⟨mc, nsK h1, h2⟩⟩
    have e0 : Env0 P w K mg (hidT s1.heap H) callerA [] s1 H := by
      refine ⟨rfl, hM, fun b o e => of_hidT e, Nat.le_of_eq (hidT_size _ _), trivial, fun b hb => ?_, hok, .of_eq hg⟩
      exact absurd (show b ∈ ([] : List Addr) from hb) (by simp)
    refine codeAny_mono ((F _ hKb (nsK hns)).run callerA [] s1 H ⟨[.ref a], []⟩ [.ref a] [.ref a] _ _ hr callerA_gd e0 (hbind s1 (.ref a)) (.cons rfl .nil) (hsp H hO hS)) (fun r s' h => ?_)
    cases r with
    | error e => exact h.elim
    | ok fl => cases fl with
      | next => exact h.elim
      | brk => exact h.elim
      | cont => exact h.elim
      | ret u =>
        obtain ⟨v, H', os, bare, un, hok', r', q⟩ := h
        obtain rfl : v = .bl true := q
        obtain rfl : u = Value.bool true := r'
        refine ⟨rfl, OldK.of_keep fun b o e => ?_, os, bare⟩
        rcases hO b with z | ⟨ob, xs, z⟩
        · exact un.keep b o e z (fun z => absurd (show b ∈ ([] : List Addr) from z) (by simp)) (by simp)
        · obtain ⟨e1, _⟩ := hok b _ z
          obtain ⟨e2, _⟩ := hok' b _ (un.frzs b ob _ z)
          rw [e] at e1
          cases e1
          exact e2
  cases hk : K.lookup a with
  | some o =>
    have e := KX a o hk
    rw [ha] at e
    cases e
    exact core (fun _ => none) (fun _ => .inl rfl) (.inr ⟨_, vs.toArray, _, hk, rfl, rfl, rfl, by rw [List.size_toArray, hi.length]; exact hl, by simpa using rv⟩)
      (fun b u z => by cases (show (none : Option HO) = some u from z)) (fun b z => absurd rfl z) (fun z => absurd rfl z)
  | none =>
    let H1 : Hp := fun b => if b = a then some (.frz { cls := .type "list", data := .seq vs.toArray } (.lst (ns.map V.int))) else none
    have at_ : H1 a = some (.frz { cls := .type "list", data := .seq vs.toArray } (.lst (ns.map V.int))) := if_pos rfl
    have off : ∀ {b}, b ≠ a → H1 b = none := fun h => if_neg h
    have only : ∀ b, H1 b ≠ none → b = a := fun b z => Classical.byContradiction fun n => z (off n)
    refine core H1 (fun b => ?_) (.inl (.inr ⟨_, at_⟩)) (fun b u z => ?_) only (fun _ => hk)
    · by_cases hb : b = a
      · rw [hb]; exact .inr ⟨_, _, at_⟩
      · exact .inl (off hb)
    · obtain rfl := only b (by rw [z]; simp)
      rw [at_] at z
      cases z
      exact ⟨ha, by rw [List.length_map]; exact hl, vs, _, rv, ha⟩
/-- the goal that k_head leaves, from the law's promise -/
theorem walk_ofG {l : PySem.W.OpenLaw} {n k : Nat} {q : Program} {loose : List Str} {XP : (Str → Option Value) → Heap → Prop} {YP : World → Heap → Prop} {d : DefRec} {K : Params → PySem.W.Frag} {sp : World → Sp} {x : Str}
    (hn : l.most = some n) (hn2 : n ≤ sizeLine) (hdf : d.params.defaults = []) (hr : Room k callerA) (hY : ∀ (w : World) (h : Heap), YP w h → (K w.params).In h)
    (F : ∀ (w : World) (mg : Str → Option Value) (fa : Addr) (h : Heap), (K w.params).In h → h.Ns mainGlobals mg → mg d.name = some (.ref fa) →
      ∃ fd : FuncData, (∀ (s : Shared) (u : Value), BindsTo s fd ⟨[u], []⟩ [(x, u)]) ∧ ∀ base : Heap, (K w.params).In base → base.Ns mainGlobals mg → FnG l.prog w (K w.params) mg base CX0 k fa fd [x] (sp w))
    (hsp : ∀ (w : World) (H : Hp) (a : Addr) (ns : List Int), ns.length ≤ n → Only H → SqL (K w.params) H a (ns.map V.int) → sp w [.ref a] H (fun v _ => v = .bl true) fun _ _ _ => False) :
    PySem.W.WalkO q loose XP YP l.row.toRowW d [] (fun f vs => PySem.call f vs) := by
  refine Att.attach_call hn hdf (fun w s0 s1 mg mb fa o pm cd doc a vs ns G Y ho hd hcd hmg hobj hints hlen hg => ?_)
  obtain ⟨fd, hb, hF⟩ := F w mg fa _ (hY w _ Y) G.T.g hmg
  exact law_callG (hY w _ Y) G.T.g G.T.b G.T.builtins G.T.nolimit hg hobj hints (Nat.le_trans hlen hn2) hr hF hb (fun H hO hS => hsp w H a ns hlen hO hS)
end DL
namespace DL
open PySem PySem.Spec PyProof.Rows L2
variable {S : Type} [SI S]
/-- what is new, and no slot's yet -/
def Gh.hide (G : Gh) (ps : List Addr) : Gh := { G with A0 := fun a => G.A0 a ∨ a ∈ ps }
section
variable {B : Bs} {G : Gh} {own : Own} {ρ : Env} {s s' : S} {σ : Sg} {H H' : Hp}
theorem av_hide {ps : List Addr} (a : Addr) : Av (G.hide ps) own a ↔ Av G own a ∨ a ∈ ps :=
  ⟨fun z => z.elim (fun z => z.elim (fun z => .inl (.inl z)) .inr) fun z => .inl (.inr z), fun z => z.elim (fun z => z.elim (fun z => .inl (.inl z)) .inr) fun z => .inl (.inr z)⟩
/-- behind a step that made p: p is hidden -/
theorem Rel.hid (R : Rel B G own ρ s σ H) (k : Stp G s' H H') {p : Addr} (hp : H p = none) (hp' : H' p ≠ none) : Rel B (G.hide [p]) own ρ s' σ H' := by
  have R' := R.stp k
  have kp := R.kp k
  have kp' : Kp (fun a => Av G own a ∨ a = p) H H' := ⟨kp.tup, fun a o h n => kp.all a o h fun z => n (.inl z)⟩
  have av : ∀ a, Av (G.hide [p]) own a → Av G own a ∨ a = p := fun a h => ((av_hide a).mp h).imp id fun z => List.mem_singleton.mp z
  have hown : ∀ j, own j ≠ some p := fun j z => by
    obtain ⟨o, e, _⟩ := R.ont j p z
    rw [hp] at e; cases e
  refine ⟨fun a h => .inl (R.wf1 a h), fun a h => h.elim (R'.wf2 a) fun z => by rw [List.mem_singleton.mp z]; exact hp', R'.fr, R'.dk, R'.rs, R.inj, fun i a h => ⟨(R.fre i a h).1, fun z => z.elim (R.fre i a h).2 fun z => hown i (by rw [← List.mem_singleton.mp z]; exact h)⟩, R'.ont, R'.len, fun i x e => ?_⟩
  have q := R.sl i x e
  have nd : ∀ a, own i = some a → a ∉ G.dks := fun a ho z => (R.fre i a ho).2 (R.wf1 a z)
  cases x with
  | no => trivial
  | v z => obtain ⟨u, e1, r⟩ := q; exact ⟨u, e1, ((r.grow hp).kp kp').mono av⟩
  | l ds => obtain ⟨a, ho, hs, r⟩ := q; exact ⟨a, ho, hs, ((r.grow hp).kp kp' fun o e => k.fr a o e (nd a ho)).mono av⟩
  | m ds => obtain ⟨a, ho, hs, r⟩ := q; exact ⟨a, ho, hs, ((r.grow hp).kp kp' fun o e => k.fr a o e (nd a ho)).mono av⟩
  | g c a fs =>
    obtain ⟨gs, ho, hs, hg, r⟩ := q
    refine ⟨gs, ho, hs, hg, ((r.grow hp).kp kp' fun l hl o e => k.fr l o e fun z => ?_).mono av⟩
    obtain ⟨j, e'⟩ := gm_own ho hg l hl
    exact (R.fre j l e').2 (R.wf1 l z)
  | q _ _ => obtain ⟨a, ho, hs, r⟩ := q; exact ⟨a, ho, hs, ((r.grow hp).kp kp' fun o e => k.fr a o e (nd a ho)).mono av⟩
/-- a hidden one becomes slot i's own -/
theorem Rel.adopt0 {p : Addr} {ps : List Addr} (R : Rel B (G.hide (p :: ps)) own ρ s σ H) (h0 : G.H0 p = none) (hA : ¬ G.A0 p) (hn : p ∉ ps) (hw : ∀ a ∈ G.dks, G.A0 a) {i : Nat} (hil : i < σ.length) {x : Sl} (hx : OwnAt B (Av (G.hide (p :: ps)) own) H p x) :
    Rel B (G.hide ps) (fun j => if j = i then some p else own j) (ρ.set i x) s (σ.set i (some (.ref p))) H := by
  have hdk : (G.hide (p :: ps)).dks = G.dks := rfl
  have hnp : ∀ j, own j ≠ some p := fun j z => (R.fre j p z).2 (.inr List.mem_cons_self)
  have av : ∀ a, Av (G.hide ps) (fun j => if j = i then some p else own j) a → Av (G.hide (p :: ps)) own a := fun a h => by
    rcases h with (h | h) | ⟨j, h⟩
    · exact .inl (.inl h)
    · exact .inl (.inr (List.mem_cons_of_mem _ h))
    · by_cases hj : j = i
      · simp only [hj, if_true] at h; cases h; exact .inl (.inr List.mem_cons_self)
      · simp only [hj, if_false] at h; exact .inr ⟨j, h⟩
  have hot : ∃ o, H p = some o ∧ isTu o = false := by
    cases x with
    | no => exact hx.elim
    | v _ => exact hx.elim
    | g _ _ _ => exact hx.elim
    | q _ _ => obtain ⟨_, _, _, _, e, _⟩ := hx; exact ⟨_, e, rfl⟩
    | l ds => obtain ⟨xs, e, _⟩ := hx; exact ⟨_, e, rfl⟩
    | m ds =>
      rcases hx with ⟨ks, ⟨e, _⟩, _⟩ | ⟨ks, e, _⟩
      · exact ⟨_, e, rfl⟩
      · exact ⟨_, e, rfl⟩
  refine ⟨fun a h => .inl (hw a h), fun a h => ?_, R.fr, R.dk, R.rs, fun a b c h1 h2 => ?_, fun j a h => ?_, fun j a h => ?_, by simp [R.len], fun j z e => ?_⟩
  · exact R.wf2 a (h.imp id fun z => List.mem_cons_of_mem _ z)
  · by_cases ha : a = i
    · by_cases hb : b = i
      · rw [ha, hb]
      · simp only [ha, if_true] at h1; simp only [hb, if_false] at h2; cases h1; exact absurd h2 (hnp b)
    · by_cases hb : b = i
      · simp only [ha, if_false] at h1; simp only [hb, if_true] at h2; cases h2; exact absurd h1 (hnp a)
      · simp only [ha, if_false] at h1; simp only [hb, if_false] at h2; exact R.inj a b c h1 h2
  · by_cases hj : j = i
    · simp only [hj, if_true] at h; cases h; exact ⟨h0, fun z => z.elim hA hn⟩
    · simp only [hj, if_false] at h; exact ⟨(R.fre j a h).1, fun z => (R.fre j a h).2 (z.imp id fun z => List.mem_cons_of_mem _ z)⟩
  · by_cases hj : j = i
    · simp only [hj, if_true] at h; cases h; exact hot
    · simp only [hj, if_false] at h; exact R.ont j a h
  · by_cases hj : j = i
    · subst hj
      obtain ⟨hl, e'⟩ := List.getElem?_eq_some_iff.mp e
      have hl' : j < ρ.length := by simpa using hl
      have : (ρ.set j x)[j]? = some x := by simp [hl']
      rw [this] at e; cases e
      have hs : (σ.set j (some (V.ref p)))[j]? = some (some (V.ref p)) := by simp [← R.len, hl']
      cases x with
      | no => exact hx.elim
      | v _ => exact hx.elim
      | g _ _ _ => exact hx.elim
      | q _ _ => exact ⟨p, by simp, hs, hx.mono av⟩
      | l ds => exact ⟨p, by simp, hs, hx.mono av⟩
      | m ds => exact ⟨p, by simp, hs, hx.mono av⟩
    · rw [List.getElem?_set_ne (Ne.symm hj)] at e
      have q := R.sl j z e
      have e2 : (σ.set i (some (V.ref p)))[j]? = σ[j]? := List.getElem?_set_ne (Ne.symm hj)
      cases z with
      | no => trivial
      | v z => obtain ⟨u, e1, r⟩ := q; exact ⟨u, by rw [e2]; exact e1, r.mono av⟩
      | l ds => obtain ⟨a, ho, hs, r⟩ := q; exact ⟨a, by simp only [hj, if_false]; exact ho, by rw [e2]; exact hs, r.mono av⟩
      | m ds => obtain ⟨a, ho, hs, r⟩ := q; exact ⟨a, by simp only [hj, if_false]; exact ho, by rw [e2]; exact hs, r.mono av⟩
      | g c a fs =>
        obtain ⟨gs, ho, hs, hg, r⟩ := q
        refine ⟨gs, by simp only [hj, if_false]; exact ho, by rw [e2]; exact hs, fun l g hl => ?_, r.mono av⟩
        rw [List.length_set]
        have := gix_ge (n := σ.length) (i := j) (j := l)
        show (if gix σ.length j l = i then some p else own (gix σ.length j l)) = some g
        rw [if_neg (by omega)]
        exact hg l g hl
      | q _ _ => obtain ⟨a, ho, hs, r⟩ := q; exact ⟨a, by simp only [hj, if_false]; exact ho, by rw [e2]; exact hs, r.mono av⟩
theorem Rel.adopt {p : Addr} {ps : List Addr} (R : Rel B (G.hide (p :: ps)) own ρ s σ H) (h0 : G.H0 p = none) (hA : ¬ G.A0 p) (hn : p ∉ ps) (hw : ∀ a ∈ G.dks, G.A0 a) {i : Nat} {x : Sl} (hx : OwnAt B (Av (G.hide (p :: ps)) own) H p x) :
    ∃ own', Rel B (G.hide ps) own' (ρ.set i x) s (σ.set i (some (.ref p))) H ∧ (∀ a, Av (G.hide ps) own' a → Av (G.hide (p :: ps)) own a) ∧ ∀ j a, own' j = some a → own j = some a ∨ a = p := by
  by_cases h : i < σ.length
  · refine ⟨_, R.adopt0 h0 hA hn hw h hx, fun a h => ?_, fun j a h => ?_⟩
    · rcases h with (h | h) | ⟨j, h⟩
      · exact .inl (.inl h)
      · exact .inl (.inr (List.mem_cons_of_mem _ h))
      · by_cases hj : j = i
        · simp only [hj, if_true] at h; cases h; exact .inl (.inr List.mem_cons_self)
        · simp only [hj, if_false] at h; exact .inr ⟨j, h⟩
    · by_cases hj : j = i
      · simp only [hj, if_true] at h; cases h; exact .inr rfl
      · simp only [hj, if_false] at h; exact .inl h
  · have av : ∀ a, Av (G.hide ps) own a → Av (G.hide (p :: ps)) own a := fun a h => by
      rcases h with (h | h) | ⟨j, h⟩
      · exact .inl (.inl h)
      · exact .inl (.inr (List.mem_cons_of_mem _ h))
      · exact .inr ⟨j, h⟩
    refine ⟨own, ?_, av, fun j a h => .inl h⟩
    rw [List.set_eq_of_length_le (by rw [R.len]; omega), List.set_eq_of_length_le (by omega)]
    refine ⟨fun a h => .inl (hw a h), fun a h => R.wf2 a (h.imp id fun z => List.mem_cons_of_mem _ z), R.fr, R.dk, R.rs, R.inj, fun j a h => ⟨(R.fre j a h).1, fun z => (R.fre j a h).2 (z.imp id fun z => List.mem_cons_of_mem _ z)⟩, R.ont, R.len, fun j z e => ?_⟩
    have q := R.sl j z e
    cases z with
    | no => trivial
    | v z => obtain ⟨u, e1, r⟩ := q; exact ⟨u, e1, r.mono av⟩
    | l ds => obtain ⟨a, ho, hs, r⟩ := q; exact ⟨a, ho, hs, r.mono av⟩
    | m ds => obtain ⟨a, ho, hs, r⟩ := q; exact ⟨a, ho, hs, r.mono av⟩
    | g c a fs => obtain ⟨gs, ho, hs, hg, r⟩ := q; exact ⟨gs, ho, hs, hg, r.mono av⟩
    | q _ _ => obtain ⟨a, ho, hs, r⟩ := q; exact ⟨a, ho, hs, r.mono av⟩
end
abbrev Nx (S : Type) := Env → S → Out S Sl
def tN (B : Bs) (E : XK) (f : Nx S) : TE := fun σ H Q => ∃ G own ρ s, Rel B G own ρ s σ H ∧ (f ρ s).sat (fun x s' => ∀ p H', Stp G s' H H' → H p = none → OwnAt B (fun a => Av G own a ∨ a = p) H' p x → Q (.ref p) H') fun e s' => ExW B G E e s'
abbrev DN (X : Cx) (B : Bs) (E : XK) (e : Expr) (f : Nx S) : Prop := PE X e (tN B E f)
def nL (f : Lx S) : Nx S := fun ρ s => (f ρ s).bind fun ds s1 => .ok (.l ds) s1
def nD : Nx S := fun _ s => .ok (.m []) s
section
variable {X : Cx} {B : Bs} {E : XK} {e : Expr} {f : Ex S} {pos : Pos}
theorem DF.dn {f : Lx S} (h : DF X B E e f) : DN X B E e (nL f) := by
  refine pe_imp h fun σ H Q ⟨G, own, ρ, s, R, q⟩ => ?_
  exact ⟨G, own, ρ, s, R, q.bnd.mono fun ds s1 q1 p H1 xs k hp e r => q1 p H1 k hp ⟨xs, e, r⟩⟩
/-- name = a new object, one's own -/
def sNewN (i : Nat) (f : Nx S) : Sx S := fun ρ s => (f ρ s).bind fun x s1 => .ok (.nx (ρ.set i x)) s1
/-- [..] handed to a name on one line -/
theorem ds_setLc (c : Ctx X B) (i : Nat) {y : Str} {py spos : Pos} {tg iter elt : Expr} {ifs : List Expr} {it : Lx S} {bt : Bt} {fc : Tx S} {own : List (Str × Nat)} {scope : Scope} (hi : DI X B E true tg iter it) (ok : BlkOk X.N X.env.scope scope own)
    (hg : ∀ (s : Shared) (H : Hp) (C : Addr) (cl : List (Str × Addr)) (fp : List Addr), DG S (X.blk s H scope (compEnvC scope cl C X.env) fp) B tg bt (own.map (·.2)))
    (ht : ∀ (s : Shared) (H : Hp) (C : Addr) (cl : List (Str × Addr)) (fp : List Addr), DTs (X.blk s H scope (compEnvC scope cl C X.env) fp) B E00 ifs fc)
    (he : ∀ (s : Shared) (H : Hp) (C : Addr) (cl : List (Str × Addr)) (fp : List Addr), DE (X.blk s H scope (compEnvC scope cl C X.env) fp) B E00 elt f)
    (hy : X.N[i]? = some y := by rfl) (hyl : X.env.scope.names.lookup y = some .local := by rfl)
    (hsw : swapsWith (.ListComp elt [⟨tg, iter, ifs, 0⟩] scope pos) (some (.Name y py)) spos.line X.env = pure true := by exact sw_true rfl rfl rfl (by decide +kernel)) (hs : ∀ x, foldedSetIterable iter X.env x = pure x := by intro _; rfl) :
    DS X B E (.Assign [.Name y py] (.ListComp elt [⟨tg, iter, ifs, 0⟩] scope pos) spos) (sSet i (eL (lLc it bt fc f (own.map (·.2))))) := by
  refine ps_imp (ps_setLc c.calm c.nd hy hyl hsw hi ok hg ht he hs) fun Dd σ H ⟨G, ow, ρ, s, R, q⟩ => tLc_of ⟨G, ow, ρ, s, R, q.bnd.bnd.mono fun ds s1 q1 p H1 xs k hp e r => ?_⟩
  exact q1 ow _ H1 ((R.stp k).set (y := .d (.list ds)) (.lst e (R.fresh hp) (r.mono fun a z => .inl z))) (.of_stp k)
inductive CmR (B : Bs) (A : Addr → Prop) (H0 H : Hp) : List V → List Sl → List Addr → Prop
  | nil : CmR B A H0 H [] [] []
  | val {v : V} {y : Val} {vs : List V} {cs : List Sl} {ps : List Addr} (h : RvV B A H v y) (t : CmR B A H0 H vs cs ps) : CmR B A H0 H (v :: vs) (.v y :: cs) ps
  | new {p : Addr} {x : Sl} {vs : List V} {cs : List Sl} {ps : List Addr} (h0 : H0 p = none) (h : OwnAt B A H p x) (n : p ∉ ps) (t : CmR B A H0 H vs cs ps) : CmR B A H0 H (.ref p :: vs) (x :: cs) (p :: ps)
abbrev Ms (S : Type) := Env → S → Out S (List Sl)
def tM (B : Bs) (E : XK) (f : Ms S) : TA := fun σ H Q => ∃ G own ρ s, Rel B G own ρ s σ H ∧ (f ρ s).sat (fun cs s' => ∀ vs ps H', Stp G s' H H' → CmR B (Av (G.hide ps) own) H H' vs cs ps → Rel B (G.hide ps) own ρ s' σ H' → Q vs H') fun e s' => ExW B G E e s'
abbrev DM (X : Cx) (B : Bs) (E : XK) (es : List Expr) (f : Ms S) : Prop := PA X es (tM B E f)
def mNil : Ms S := fun _ s => .ok [] s
def mVal (f : Ex S) (g : Ms S) : Ms S := fun ρ s => (f ρ s).bind fun y s1 => (g ρ s1).bind fun cs s2 => .ok (.v y :: cs) s2
def mNew (f : Nx S) (g : Ms S) : Ms S := fun ρ s => (f ρ s).bind fun x s1 => (g ρ s1).bind fun cs s2 => .ok (x :: cs) s2
theorem Rel.hide0 {G : Gh} {own : Own} {ρ : Env} {s : S} {σ : Sg} {H : Hp} (R : Rel B G own ρ s σ H) : Rel B (G.hide []) own ρ s σ H := by
  have av : ∀ a, Av (G.hide []) own a → Av G own a := fun a h => ((av_hide a).mp h).elim id fun z => by cases z
  refine ⟨fun a h => .inl (R.wf1 a h), fun a h => h.elim (R.wf2 a) (fun z => by cases z), R.fr, R.dk, R.rs, R.inj, fun i a h => ⟨(R.fre i a h).1, fun z => z.elim (R.fre i a h).2 fun z => by cases z⟩, R.ont, R.len, fun i x e => ?_⟩
  have q := R.sl i x e
  cases x with
  | no => trivial
  | v z => obtain ⟨u, e1, r⟩ := q; exact ⟨u, e1, r.mono av⟩
  | l ds => obtain ⟨a, ho, hs, r⟩ := q; exact ⟨a, ho, hs, r.mono av⟩
  | m ds => obtain ⟨a, ho, hs, r⟩ := q; exact ⟨a, ho, hs, r.mono av⟩
  | g c a fs => obtain ⟨gs, ho, hs, hg, r⟩ := q; exact ⟨gs, ho, hs, hg, r.mono av⟩
  | q _ _ => obtain ⟨a, ho, hs, r⟩ := q; exact ⟨a, ho, hs, r.mono av⟩
theorem dm_nil : DM X B E [] (mNil : Ms S) := by
  refine pa_imp pa_nil fun σ H Q ⟨G, own, ρ, s, R, q⟩ => ?_
  exact q [] [] H R.refl .nil R.hide0
theorem CmR.fresh {A : Addr → Prop} {H0 H : Hp} : ∀ {vs : List V} {cs : List Sl} {ps : List Addr}, CmR B A H0 H vs cs ps → ∀ p ∈ ps, H0 p = none
  | _, _, _, .nil, _, h => by cases h
  | _, _, _, .val _ t, p, h => CmR.fresh t p h
  | _, _, _, .new h0 _ _ t, p, h => (List.mem_cons.mp h).elim (fun e => by rw [e]; exact h0) (CmR.fresh t p)
theorem CmR.base {A : Addr → Prop} {H0 H0' H : Hp} (k : ∀ p, H0 p = none → H0' p = none) : ∀ {vs : List V} {cs : List Sl} {ps : List Addr}, CmR B A H0 H vs cs ps → CmR B A H0' H vs cs ps
  | _, _, _, .nil => .nil
  | _, _, _, .val h t => .val h (CmR.base k t)
  | _, _, _, .new h0 h n t => .new (k _ h0) h n (CmR.base k t)
theorem CmR.mono {A A' : Addr → Prop} {H0 H : Hp} (k : ∀ a, A' a → A a) : ∀ {vs : List V} {cs : List Sl} {ps : List Addr}, CmR B A H0 H vs cs ps → CmR B A' H0 H vs cs ps
  | _, _, _, .nil => .nil
  | _, _, _, .val h t => .val (h.mono k) (CmR.mono k t)
  | _, _, _, .new h0 h n t => .new h0 (h.mono k) n (CmR.mono k t)
theorem PlR.wk {B : Bs} {A A' : Addr → Prop} {H : Hp} (k : ∀ a, A' a → A a ∨ H a = none) {v : V} {d : D} (h : PlR B A H v d) : PlR B A' H v d := by
  cases d with
  | tuple ds => obtain ⟨a, xs, e, h, r⟩ := h; exact ⟨a, xs, e, h, RpL.wk k r⟩
  | dict kvs => obtain ⟨a, ks, e, h, n, d, r⟩ := h; exact ⟨a, ks, e, h, (fun z => (k a z).elim n fun e => by rw [e] at h; cases h), d, RpM.wk k r⟩
  | _ => exact h.elim
theorem RvV.wk {A A' : Addr → Prop} {H : Hp} (k : ∀ a, A' a → A a ∨ H a = none) {v : V} : ∀ {y : Val}, RvV B A H v y → RvV B A' H v y
  | .d _, h => Rp.wk k h
  | .r _, h => h
  | .o _ _, ⟨a, C, dx, fs', e, c, h, n, l⟩ => ⟨a, C, dx, fs', e, c, h, (fun z => (k a z).elim n fun e => by rw [e] at h; cases h), fun q hq => let ⟨u, e, r⟩ := l q hq; ⟨u, e, r.wk k⟩⟩
  | .p _, h => PlR.wk k h
  | .f _, h => h
theorem OwnAt.wk {A A' : Addr → Prop} {H : Hp} (k : ∀ a, A' a → A a ∨ H a = none) {a : Addr} : ∀ {x : Sl}, OwnAt B A H a x → OwnAt B A' H a x
  | .l _, ⟨xs, h, r⟩ => ⟨xs, h, r.wk k⟩
  | .m _, .inl ⟨ks, h, r⟩ => .inl ⟨ks, h, r.wk k⟩
  | .m _, .inr ⟨ks, h, e, r⟩ => .inr ⟨ks, h, e, r.wk k⟩
  | .no, h => h
  | .v _, h => h
  | .g _ _ _, h => h
  | .q _ _, ⟨C, dx, vs, hc, h, hn, r⟩ => ⟨C, dx, vs, hc, h, hn, r.wk k⟩
theorem hide_kp {G : Gh} {own : Own} {ρ : Env} {s s' : S} {σ : Sg} {H H' : Hp} (R : Rel B G own ρ s σ H) (k : Stp G s' H H') (ps : List Addr) : Kp (Av (G.hide ps) own) H H' :=
  ⟨(R.kp k).tup, fun a o h n => (R.kp k).all a o h fun z => n ((av_hide a).mpr (.inl z))⟩
theorem ExW.hide {G : Gh} {ps : List Addr} {e : Exn} {s' : S} (h : ExW B G E e s') : ExW B (G.hide ps) E e s' := fun C od H' h1 h2 h3 h4 => h C od H' h1 h2 h3 (by
  obtain ⟨c, d⟩ := h4
  refine ⟨c, d.imp id fun ⟨dx, fs', e1, e2, l⟩ => ⟨dx, fs', e1, e2, fun q hq => let ⟨u, e, r⟩ := l q hq; ⟨u, e, r.mono fun a z => .inl z⟩⟩⟩)
theorem sat_ex {α : Type} {o : Out S α} {P : α → S → Prop} {T T' : Exn → S → Prop} (h : o.sat P T) (k : ∀ e s, T e s → T' e s) : o.sat P T' := by
  cases o with
  | bad => exact h
  | ok _ _ => exact h
  | ex e s => exact k e s h
theorem dm_val {es : List Expr} {g : Ms S} (h : DE X B E e f) (hs : DM X B E es g) (hst : starEach (e :: es) X.env = (false, eval e X.env) :: starEach es X.env := by rfl) : DM X B E (e :: es) (mVal f g) := by
  refine pa_imp (pa_cons h hs hst) fun σ H Q ⟨G, own, ρ, s, R, q⟩ => ?_
  refine tD.run R _ q.bnd fun y s1 v H1 q1 k1 r1 R1 => ?_
  refine ⟨G, own, ρ, s1, R1, q1.bnd.mono fun cs s2 q2 vs ps H2 k2 c2 R2 => ?_⟩
  refine q2 _ ps H2 (k1.trans k2) (.val ?_ (c2.base fun p hp => Stp.none R1 k1 hp)) R2
  exact (r1.wk fun a z => ((av_hide a).mp z).imp id fun z => c2.fresh a z).kp (hide_kp R1 k2 ps)
theorem dm_new {es : List Expr} {f : Nx S} {g : Ms S} (h : DN X B E e f) (hs : DM X B E es g) (hst : starEach (e :: es) X.env = (false, eval e X.env) :: starEach es X.env := by rfl) : DM X B E (e :: es) (mNew f g) := by
  refine pa_imp (pa_cons h hs hst) fun σ H Q ⟨G, own, ρ, s, R, q⟩ => ?_
  refine ⟨G, own, ρ, s, R, q.bnd.mono fun x s1 q1 p H1 k1 hp r1 => ?_⟩
  have hp1 : H1 p ≠ none := by
    cases x with
    | no => exact r1.elim
    | v _ => exact r1.elim
    | g _ _ _ => exact r1.elim
    | q _ _ => obtain ⟨_, _, _, _, e, _⟩ := r1; rw [e]; simp
    | l ds => obtain ⟨xs, e, _⟩ := r1; rw [e]; simp
    | m ds => rcases r1 with ⟨ks, ⟨e, _⟩, _⟩ | ⟨ks, e, _⟩ <;> (rw [e]; simp)
  have R1 := R.stp k1
  have Rh := R.hid k1 hp hp1
  refine ⟨G.hide [p], own, ρ, s1, Rh, (sat_ex (T' := fun e s' => ExW B (G.hide [p]) E e s') q1.bnd fun _ _ z => z.hide).mono fun cs s2 q2 vs ps H2 k2 c2 R2 => ?_⟩
  have e1 : ∀ a, Av (G.hide (p :: ps)) own a ↔ Av ((G.hide [p]).hide ps) own a := fun a => by
    rw [av_hide, av_hide, av_hide, List.mem_cons, List.mem_singleton, or_assoc]
  have npq : p ∉ ps := fun z => hp1 (c2.fresh p z)
  have k2' : Stp G s2 H1 H2 := ⟨k2.fr, k2.dk, k2.rs⟩
  have R3 : Rel B (G.hide (p :: ps)) own ρ s2 σ H2 := by
    have e2 : (G.hide [p]).hide ps = G.hide (p :: ps) := by
      unfold Gh.hide
      congr 1
      funext a
      show ((G.A0 a ∨ a ∈ [p]) ∨ a ∈ ps) = (G.A0 a ∨ a ∈ p :: ps)
      rw [or_assoc, List.mem_singleton, List.mem_cons]
    rw [← e2]; exact R2
  refine q2 _ (p :: ps) H2 (k1.trans k2') (.new hp ?_ npq ((c2.mono fun a z => (e1 a).mp z).base fun q hq => Stp.none R1 k1 hq)) R3
  have w : OwnAt B (Av (G.hide (p :: ps)) own) H1 p x := r1.wk fun a z => by
    rcases (av_hide a).mp z with z | z
    · exact .inl (.inl z)
    · exact (List.mem_cons.mp z).elim (fun e => .inl (.inr e)) fun z => .inr (c2.fresh a z)
  refine w.kp (hide_kp R1 k2' _) fun o ho => k2'.fr p o ho fun z => ?_
  obtain ⟨o, e, _⟩ := R.dkT z
  rw [hp] at e; cases e
/-- the slots is get the components cs -/
def setAll : List Nat → List Sl → Env → Env
  | i :: is, c :: cs, ρ => setAll is cs (ρ.set i c)
  | _, _, ρ => ρ
def setVs : List Nat → List V → Sg → Sg
  | i :: is, v :: vs, σ => setVs is vs (σ.set i (some v))
  | _, _, σ => σ
theorem Rel.all {G : Gh} {ρ : Env} {s : S} {σ : Sg} {H H0 : Hp} (hw : ∀ a ∈ G.dks, G.A0 a) (hf : ∀ p, H0 p = none → G.H0 p = none ∧ ¬ G.A0 p) : ∀ {is : List Nat} {vs : List V} {cs : List Sl} {ps : List Addr} {own : Own} {ρ : Env} {σ : Sg},
    CmR B (Av (G.hide ps) own) H0 H vs cs ps → Rel B (G.hide ps) own ρ s σ H → vs.length = is.length → ∃ own', Rel B G own' (setAll is cs ρ) s (setVs is vs σ) H ∧ ∀ i a, own' i = some a → (∃ j, own j = some a) ∨ H0 a = none := by
  intro is
  induction is with
  | nil =>
    intro vs cs ps own ρ σ c R hl
    cases vs with
    | cons _ _ => cases hl
    | nil =>
      cases c with
      | nil =>
        refine ⟨own, ?_, fun i a h => .inl ⟨i, h⟩⟩
        have e : G.hide [] = G := by unfold Gh.hide; congr 1; funext a; simp
        rw [← e]; exact R
  | cons i is ih =>
    intro vs cs ps own ρ σ c R hl
    cases c with
    | nil => cases hl
    | val h t =>
      obtain ⟨own', R', k⟩ := ih t (R.set h) (by simpa using hl)
      exact ⟨own', R', k⟩
    | @new p x vs cs ps h0 h n t =>
      obtain ⟨f1, f2⟩ := hf _ h0
      obtain ⟨own1, R1, av1, ow1⟩ := R.adopt (i := i) f1 f2 n hw h
      have t1 := t.mono (A' := Av (G.hide ps) own1) av1
      obtain ⟨own', R', k⟩ := ih t1 R1 (by simpa using hl)
      refine ⟨own', R', fun j a e => ?_⟩
      rcases k j a e with ⟨l, e⟩ | e
      · rcases ow1 l a e with e | e
        · exact .inl ⟨l, e⟩
        · exact .inr (by rw [e]; exact h0)
      · exact .inr e
/-- a, b = x, y -/
def sPar (is : List Nat) (g : Ms S) : Sx S := fun ρ s => (g ρ s).bind fun cs s1 => if cs.length = is.length then .ok (.nx (setAll is cs ρ)) s1 else .bad
theorem CmR.len {A : Addr → Prop} {H0 H : Hp} : ∀ {vs : List V} {cs : List Sl} {ps : List Addr}, CmR B A H0 H vs cs ps → vs.length = cs.length
  | _, _, _, .nil => rfl
  | _, _, _, .val _ t => by simp [CmR.len t]
  | _, _, _, .new _ _ _ t => by simp [CmR.len t]
theorem par_end {G : Gh} {own : Own} {ρ : Env} {s s1 : S} {σ : Sg} {H H1 : Hp} (R : Rel B G own ρ s σ H) {vs : List V} {cs : List Sl} {ps : List Addr} (k : Stp G s1 H H1) (c : CmR B (Av (G.hide ps) own) H H1 vs cs ps) (Rh : Rel B (G.hide ps) own ρ s1 σ H1) {is : List Nat} (hl : cs.length = is.length)
    {Dd : Ends} (q : ∀ own' σ' H', Rel B G own' (setAll is cs ρ) s1 σ' H' → Gone G own own' H H' → Dd.nx σ' H') : Dd.nx (setVs is vs σ) H1 := by
  obtain ⟨own', R', k'⟩ := Rel.all (is := is) (ρ := ρ) (σ := σ) R.wf1 (fun p hp => ⟨(by
    cases z : G.H0 p with
    | none => rfl
    | some o =>
      by_cases hd : p ∈ G.dks
      · obtain ⟨o', e, _⟩ := R.dkT hd
        rw [hp] at e; cases e
      · rw [R.fr p o z hd] at hp; cases hp), fun z => R.wf2 p z hp⟩) c Rh (by rw [c.len, hl])
  exact q own' _ H1 R' ⟨fun a o h n _ => k.fr a o h n, k'⟩
theorem ds_par2 (c : Ctx X B) {i j : Nat} {x y : Str} {a b : Expr} {px py pt : Pos} {kt k2 : Nat} {pt2 : Pos} {g : Ms S} (ha : DM X B E [a, b] g) (hi : X.N[i]? = some x := by rfl) (hj : X.N[j]? = some y := by rfl) (hij : i ≠ j := by decide)
    (hx : X.env.scope.names.lookup x = some .local := by rfl) (hy : X.env.scope.names.lookup y = some .local := by rfl)
    (hw : swappedStores [.Tuple [.Name x px, .Name y py] kt pt] (.Tuple [a, b] k2 pt2) X.env = pure (some [x, y]) := by rfl) (hs : swapsWithSole [.Tuple [.Name x px, .Name y py] kt pt] (.Tuple [a, b] k2 pt2) pos.line X.env = pure false := by rfl) :
    DS X B E (.Assign [.Tuple [.Name x px, .Name y py] kt pt] (.Tuple [a, b] k2 pt2) pos) (sPar [i, j] g) := by
  refine ps_imp (ps_par c.calm c.nd hi hj hij hx hy ha hw hs) fun Dd σ H ⟨G, own, ρ, s, R, q⟩ => ?_
  refine ⟨G, own, ρ, s, R, q.bnd.mono fun cs s1 q1 vs ps H1 k1 c1 R1 => ?_⟩
  split at q1
  · rename_i hl
    have hv := c1.len
    rw [hl] at hv
    obtain ⟨v, w, rfl⟩ : ∃ v w, vs = [v, w] := by
      cases vs with
      | nil => cases hv
      | cons v r => cases r with
        | nil => cases hv
        | cons w r => cases r with
          | nil => exact ⟨v, w, rfl⟩
          | cons _ _ => cases hv
    exact ⟨v, w, rfl, par_end R k1 c1 R1 hl q1⟩
  · exact q1.elim
theorem ds_par3 (c : Ctx X B) {i j l : Nat} {x y z : Str} {a b d : Expr} {px py pz pt : Pos} {kt k2 : Nat} {pt2 : Pos} {g : Ms S} (ha : DM X B E [a, b, d] g) (hi : X.N[i]? = some x := by rfl) (hj : X.N[j]? = some y := by rfl) (hl : X.N[l]? = some z := by rfl)
    (hij : i ≠ j := by decide) (hil : i ≠ l := by decide) (hjl : j ≠ l := by decide)
    (hx : X.env.scope.names.lookup x = some .local := by rfl) (hy : X.env.scope.names.lookup y = some .local := by rfl) (hz : X.env.scope.names.lookup z = some .local := by rfl)
    (hw : swappedStores [.Tuple [.Name x px, .Name y py, .Name z pz] kt pt] (.Tuple [a, b, d] k2 pt2) X.env = pure (some [x, y, z]) := by rfl) (hs : swapsWithSole [.Tuple [.Name x px, .Name y py, .Name z pz] kt pt] (.Tuple [a, b, d] k2 pt2) pos.line X.env = pure false := by rfl) :
    DS X B E (.Assign [.Tuple [.Name x px, .Name y py, .Name z pz] kt pt] (.Tuple [a, b, d] k2 pt2) pos) (sPar [i, j, l] g) := by
  refine ps_imp (L2.ps_par3 c.calm c.nd hi hj hl hij hil hjl hx hy hz ha hw hs) fun Dd σ H ⟨G, own, ρ, s, R, q⟩ => ?_
  refine ⟨G, own, ρ, s, R, q.bnd.mono fun cs s1 q1 vs ps H1 k1 c1 R1 => ?_⟩
  split at q1
  · rename_i hl
    have hv := c1.len
    rw [hl] at hv
    obtain ⟨u, v, w, rfl⟩ : ∃ u v w, vs = [u, v, w] := by
      cases vs with
      | nil => cases hv
      | cons u r => cases r with
        | nil => cases hv
        | cons v r => cases r with
          | nil => cases hv
          | cons w r => cases r with
            | nil => exact ⟨u, v, w, rfl⟩
            | cons _ _ => cases hv
    exact ⟨u, v, w, rfl, par_end R k1 c1 R1 hl q1⟩
  · exact q1.elim
def gsIx : List Nat → TGs
  | [] => gNil
  | i :: is => gCons (gName i) (gsIx is)
theorem gsIx_of : ∀ (is : List Nat) (vs : List V) (σ : Sg) (H : Hp) (Q : Sg → Hp → Prop), vs.length = is.length → Q (setVs is vs σ) H → gsIx is vs σ H Q
  | [], [], _, _, _, _, q => ⟨rfl, q⟩
  | [], _ :: _, _, _, _, h, _ => by cases h
  | _ :: _, [], _, _, _, h, _ => by cases h
  | i :: is, v :: vs, σ, H, Q, h, q => ⟨v, vs, rfl, gsIx_of is vs _ H Q (by simpa using h) q⟩
theorem CmR.step {A : Addr → Prop} {H0 H H' : Hp} (k : Kp A H H') (kn : ∀ p o, H0 p = none → H p = some o → H' p = some o) : ∀ {vs : List V} {cs : List Sl} {ps : List Addr}, CmR B A H0 H vs cs ps → CmR B A H0 H' vs cs ps
  | _, _, _, .nil => .nil
  | _, _, _, .val h t => .val (h.kp k) (CmR.step k kn t)
  | _, _, _, .new h0 h n t => .new h0 (h.kp k fun o e => kn _ o h0 e) n (CmR.step k kn t)
/-- is: the targets' slots -/
theorem ds_parT (c : Ctx X B) (is : List Nat) {ts es : List Expr} {kt k2 : Nat} {pt pt2 : Pos} {g : Ms S} (ha : DM X B E es g) (ht : PGs X ts (gsIx is)) (hl : ts.length = is.length := by rfl) (hsz : is.length ≤ sizeLine := by decide)
    (hn : (assignEach ts X.env).length = is.length := by rfl) (hst : (assignEach ts X.env).findIdx? (·.1) = none := by rfl)
    (hs : swapsWithSole [.Tuple ts kt pt] (.Tuple es k2 pt2) pos.line X.env = pure false := by rfl) (hw : swappedStores [.Tuple ts kt pt] (.Tuple es k2 pt2) X.env = pure none := by rfl)
    (h1 : (assignEach [.Tuple ts kt pt] X.env).map (·.2) = [assign (.Tuple ts kt pt) X.env] := by rfl) : DS X B E (.Assign [.Tuple ts kt pt] (.Tuple es k2 pt2) pos) (sPar is g) := by
  refine ps_imp (ps_asg (pe_tup ha) (pg_tup c.calm ht hn hst) hs hw h1) fun Dd σ H ⟨G, own, ρ, s, R, q⟩ => ?_
  refine ⟨G, own, ρ, s, R, q.bnd.mono fun cs s1 q1 vs ps H1 k1 c1 R1 => ?_⟩
  split at q1
  · rename_i hc
    refine ⟨by rw [c1.len, hc]; exact hsz, fun p hp => ?_⟩
    refine ⟨p, vs, rfl, SqT.of upd_same, by rw [c1.len, hc], gsIx_of is vs σ _ _ (by rw [c1.len, hc]) ?_⟩
    have sm := same_upd (o := .tup vs) hp
    have st : Stp (G.hide ps) s1 H1 (upd H1 p (.tup vs)) := R1.same sm
    have st' : Stp G s1 H1 (upd H1 p (.tup vs)) := ⟨st.fr, st.dk, st.rs⟩
    exact par_end R (k1.trans st') (c1.step (R1.kp st) fun q o _ e => sm q o e) (R1.stp st) hc q1
  · exact q1.elim
end
end DL
namespace DL
open PySem PySem.Spec PyProof.Rows L2
/-- the deck: the list at dk, the numbers' own list at a0 -/
structure Dk where
  dk : Addr
  a0 : Addr
  cells : List Int
  beg : Int
  lft : Int
  drw : Int
  ne : dk ≠ a0
def Dk.items (s : Dk) : List V := [.ref s.a0, .int s.beg, .int s.lft, .int s.drw]
def Dk.rep (s : Dk) (H : Hp) : Prop := H s.dk = some (.lst s.items) ∧ H s.a0 = some (.lst (s.cells.map V.int)) ∧ ∀ p ∈ tabs, TabO H p.1 p.2
def Dk.as (s : Dk) : List Addr := s.dk :: s.a0 :: tabs.map (·.1)
theorem mem_tabs {a : Addr} (h : a ∈ tabs.map (·.1)) : ∃ q, (a, q) ∈ tabs := let ⟨p, hp, e⟩ := List.mem_map.mp h; ⟨p.2, by rw [← e]; exact hp⟩
instance : SI Dk where
  dks := Dk.as
  rep := Dk.rep
  there := fun s H a h m => by
    rcases List.mem_cons.mp m with rfl | m
    · exact ⟨_, h.1, rfl⟩
    rcases List.mem_cons.mp m with rfl | m
    · exact ⟨_, h.2.1, rfl⟩
    · obtain ⟨q, hq⟩ := mem_tabs m
      obtain ⟨ps, e, _⟩ := h.2.2 _ hq
      exact ⟨_, e, rfl⟩
  keep := fun s H H' h k t => ⟨by rw [k s.dk (List.mem_cons_self ..)]; exact h.1, by rw [k s.a0 (List.mem_cons_of_mem _ (List.mem_cons_self ..))]; exact h.2.1, fun p hp => (h.2.2 p hp).kp (k _ (List.mem_cons_of_mem _ (List.mem_cons_of_mem _ (List.mem_map.mpr ⟨p, hp, rfl⟩)))) t⟩
def Dk.get (s : Dk) : Nat → Option Int
  | 1 => some s.beg
  | 2 => some s.lft
  | 3 => some s.drw
  | _ => none
def Dk.put (s : Dk) (j : Nat) (x : Int) : Dk := match j with
  | 1 => { s with beg := x }
  | 2 => { s with lft := x }
  | _ => { s with drw := x }
/-- the deck is the value of slot i -/
def isDk (i : Nat) (ρ : Env) (s : Dk) : Bool := match ρ[i]? with
  | some (.v (.r (.ref a))) => a == s.dk
  | _ => false
section
variable {X : Cx} {B : Bs} {E : XK} {e a b : Expr} {f : Ex Dk} {pos p p2 p3 : Pos} {G : Gh} {own : Own} {ρ : Env} {s : Dk} {σ : Sg} {H : Hp}
theorem isDk_at (R : Rel B G own ρ s σ H) {i : Nat} (h : isDk i ρ s = true) : σ[i]? = some (some (.ref s.dk)) := by
  unfold isDk at h
  split at h
  · rename_i a hz
    obtain ⟨u, e, r⟩ := R.sl i _ hz
    rw [e, show u = V.ref a from r, beq_iff_eq.mp h]
  · cases h
theorem Dk.at_ {s : Dk} {j : Nat} {x : Int} (h : s.get j = some x) : L2.atI s.items (j : Int) = some (.int x) := by
  refine atI_nat ?_
  unfold Dk.get at h
  split at h <;> cases h <;> rfl
def eDk (i j : Nat) : Ex Dk := fun ρ s => if isDk i ρ s then (match s.get j with
  | some x => .ok (.d (.int x)) s
  | none => .bad) else .bad
theorem de_dk (i j : Nat) {x : Expr} {k : Nat} (hv : PE X x (tVar i)) : DE X B E (.Subscript x (.Constant (.int (j : Int)) k p) pos) (eDk i j) := by
  refine pe_imp (pe_ix ix_list hv pe_int (fun _ _ => rfl)) fun σ H Q ⟨G, own, ρ, s, R, q⟩ => ?_
  unfold eDk at q
  by_cases hd : isDk i ρ s = true
  · rw [if_pos hd] at q
    cases hz : s.get j with
    | none => rw [hz] at q; exact q.elim
    | some x =>
      rw [hz] at q
      exact ⟨_, isDk_at R hd, _, s.items, _, _, rfl, rfl, SqL.of R.rs.1, Dk.at_ hz, q _ H R.refl (.int _)⟩
  · rw [if_neg hd] at q; exact q.elim
/-- deck[0] != [] -/
def xDkNe (i : Nat) : Tx Dk := fun ρ s => if isDk i ρ s then .ok (!s.cells.isEmpty) s else .bad
theorem dp_ints {K : PySem.W.Frag} {H : Hp} : ∀ ns : List Int, DpAll K H (ns.map V.int) (ns.map .int)
  | [] => .nil
  | n :: r => .cons (.int n) (dp_ints r)
theorem lay_ints : ∀ ns : List Int, PyData.canLayAll0 (ns.map .int) = true
  | [] => rfl
  | n :: r => by simp [PyData.canLayAll0, PyData.canLay0, lay_ints r]
theorem dep_ints : ∀ ns : List Int, PyData.depthAll (ns.map .int) = 0
  | [] => rfl
  | n :: r => by simp [PyData.depthAll, PyData.depth, dep_ints r]
theorem shaped_ints (ns : List Int) : SeqAt.shaped (.list (ns.map .int)) = true := by
  unfold SeqAt.shaped
  rw [Bool.and_eq_true]
  exact ⟨by simp [PyData.canLay0, lay_ints], by simp [PyData.depth, dep_ints]⟩
theorem dt_dkne (c : Ctx X B) (i : Nat) {x : Expr} {k : Nat} (hv : PE X x (tVar i)) : DT X B E (.Compare (.Subscript x (.Constant (.int 0) k p) p2) [.NotEq] [.List [] p3] pos) (xDkNe i) := by
  refine pt_imp (pt_cmpR (op_neD c.u64) (pe_ix ix_list hv pe_int (fun _ _ => rfl)) (pe_lst pa_nil) (nomark _)) fun σ H Q ⟨G, own, ρ, s, R, q⟩ => ?_
  unfold xDkNe at q
  by_cases hd : isDk i ρ s = true
  · rw [if_pos hd] at q
    refine ⟨_, isDk_at R hd, _, s.items, 0, .ref s.a0, rfl, rfl, SqL.of R.rs.1, rfl, ?_⟩
    refine ⟨Nat.zero_le _, fun t ht => ⟨.list (s.cells.map .int), .list [], ?_, ?_, shaped_ints _, by decide, _, rfl, ?_⟩⟩
    · have : t ≠ s.a0 := by rintro rfl; rw [R.rs.2.1] at ht; cases ht
      exact .lst (SqL.of (by rw [upd_ne (Ne.symm this)]; exact R.rs.2.1)) (dp_ints _)
    · exact .lst (SqL.of upd_same) .nil
    · have := q _ (R.put (o := .lst []) ht)
      have e : (!PyData.eqv (.list (s.cells.map .int)) (.list [])) = !s.cells.isEmpty := by
        cases s.cells <;> simp [PyData.eqv, PyData.eqvAll]
      rw [e]
      exact this
  · rw [if_neg hd] at q; exact q.elim
/-- deck[0][e] -/
def eDkC (i : Nat) (f : Ex Dk) : Ex Dk := fun ρ s => if isDk i ρ s then (f ρ s).bind fun y s1 => (match y with
  | .d (.int j) => if s1.dk = s.dk ∧ s1.a0 = s.a0 then (match L2.atI s1.cells j with
    | some x => .ok (.d (.int x)) s1
    | none => .bad) else .bad
  | _ => .bad) else .bad
theorem atI_map {α β : Type} (g : α → β) (xs : List α) (i : Int) : L2.atI (xs.map g) i = (L2.atI xs i).map g := by
  unfold L2.atI
  rw [List.length_map]
  cases ixN xs.length i with
  | none => rfl
  | some j => simp
theorem de_dkc (i : Nat) {x : Expr} {k : Nat} (hv : PE X x (tVar i)) (h : DB X B E e f) (hs : PlainIx e := by first | exact fun _ _ => rfl) : DE X B E (.Subscript (.Subscript x (.Constant (.int 0) k p) p2) e pos) (eDkC i f) := by
  refine pe_imp (pe_ix ix_list (pe_ix ix_list hv pe_int (fun _ _ => rfl)) h hs) fun σ H Q ⟨G, own, ρ, s, R, q⟩ => ?_
  unfold eDkC at q
  by_cases hd : isDk i ρ s = true
  · rw [if_pos hd] at q
    refine ⟨_, isDk_at R hd, _, s.items, 0, .ref s.a0, rfl, rfl, SqL.of R.rs.1, rfl, ?_⟩
    refine tB.run R _ q.bnd fun y s1 v H1 q1 k1 r1 R1 => ?_
    cases y with
    | r _ => exact q1.elim
    | o _ _ => exact q1.elim
    | p _ => exact q1.elim
    | f _ => exact q1.elim
    | d d =>
      cases d with
      | int j =>
        dsimp only at q1
        split at q1
        · rename_i hs
          cases hz : L2.atI s1.cells j with
          | none => rw [hz] at q1; exact q1.elim
          | some x =>
            rw [hz] at q1
            refine ⟨s.a0, s1.cells.map V.int, j, .int x, rfl, rt_int r1, SqL.of (by rw [← hs.2]; exact R1.rs.2.1), by rw [atI_map, hz]; rfl, q1 _ H1 k1 (.int _)⟩
        · exact q1.elim
      | _ => exact q1.elim
  · rw [if_neg hd] at q; exact q.elim
/-- len(deck[0]) -/
def eDkL (i : Nat) : Ex Dk := fun ρ s => if isDk i ρ s then .ok (.d (.int s.cells.length)) s else .bad
theorem de_dkl (i : Nat) {x : Expr} {k : Nat} (hv : PE X x (tVar i)) (hm : X.mg "len" = none) (hg : Gl X "len" := by rfl)
    (he : starEach [.Subscript x (.Constant (.int 0) k p) p2] X.env = (false, eval (.Subscript x (.Constant (.int 0) k p) p2) X.env) :: starEach [] X.env := by rfl) (hpl : (backTo pos (starEach [] X.env)).any (·.1) = false := by rfl) :
    DE X B E (.Call (.Name "len" p3) [.Subscript x (.Constant (.int 0) k p) p2] [] pos) (eDkL i) := by
  refine pe_imp (pe_callB call_len hg hm boot_len (pa_cons (pe_ix ix_list hv pe_int (fun _ _ => rfl)) pa_nil he) (he := he) (hpl := hpl)) fun σ H Q ⟨G, own, ρ, s, R, q⟩ => ?_
  unfold eDkL at q
  by_cases hd : isDk i ρ s = true
  · rw [if_pos hd] at q
    refine ⟨_, isDk_at R hd, _, s.items, 0, .ref s.a0, rfl, rfl, SqL.of R.rs.1, rfl, ?_⟩
    exact ⟨_, s.cells.length, rfl, .inl ⟨s.cells.map V.int, SqL.of R.rs.2.1, by simp⟩, q _ H R.refl (.int _)⟩
  · rw [if_neg hd] at q; exact q.elim
/-- deck[j] = e -/
def sDk (i j : Nat) (f : Ex Dk) : Sx Dk := fun ρ s => (f ρ s).bind fun y s1 => if isDk i ρ s1 then (match y with
  | .d (.int x) => if j = 1 ∨ j = 2 ∨ j = 3 then .ok (.nx ρ) (s1.put j x) else .bad
  | _ => .bad) else .bad
theorem ds_dk (i j : Nat) {x : Expr} {k : Nat} (hv : PE X x (tVar i)) (h : DE X B E e f) (hs : swapsWithSole [.Subscript x (.Constant (.int (j : Int)) k p) p2] e pos.line X.env = pure false := by rfl) (hw : swappedStores [.Subscript x (.Constant (.int (j : Int)) k p) p2] e X.env = pure none := by rfl)
    (h1 : (assignEach [.Subscript x (.Constant (.int (j : Int)) k p) p2] X.env).map (·.2) = [assign (.Subscript x (.Constant (.int (j : Int)) k p) p2) X.env] := by rfl) : DS X B E (.Assign [.Subscript x (.Constant (.int (j : Int)) k p) p2] e pos) (sDk i j f) := by
  refine ps_imp (ps_asg h (pg_sub hv pe_int set_list) hs hw h1) fun Dd σ H ⟨G, own, ρ, s, R, q⟩ => ?_
  refine tD.run R _ q.bnd fun y s1 v H1 q1 k1 r1 R1 => ?_
  by_cases hd : isDk i ρ s1 = true
  · rw [if_pos hd] at q1
    cases y with
    | r _ => exact q1.elim
    | o _ _ => exact q1.elim
    | p _ => exact q1.elim
    | f _ => exact q1.elim
    | d d =>
      cases d with
      | int z =>
        dsimp only at q1
        split at q1
        · rename_i hj
          have ev : v = .int z := by cases r1; rfl
          subst ev
          have hij : ixN s1.items.length (j : Int) = some j := by
            rcases hj with rfl | rfl | rfl <;> rfl
          refine ⟨_, isDk_at R1 hd, _, s1.items, (j : Int), j, rfl, rfl, R1.rs.1, hij, ?_⟩
          have hdk : (s1.put j z).dk = s1.dk := by rcases hj with rfl | rfl | rfl <;> rfl
          have ha0 : (s1.put j z).a0 = s1.a0 := by rcases hj with rfl | rfl | rfl <;> rfl
          have hce : (s1.put j z).cells = s1.cells := by rcases hj with rfl | rfl | rfl <;> rfl
          have hit : s1.items.set j (.int z) = (s1.put j z).items := by rcases hj with rfl | rfl | rfl <;> rfl
          have mem : s1.dk ∈ G.dks := by rw [← R1.dk]; exact List.mem_cons_self ..
          have stp : Stp G (s1.put j z) H1 (upd H1 s1.dk (.lst (s1.items.set j (.int z)))) := by
            refine ⟨fun b o hb n => ?_, ?_, ?_, ?_⟩
            · rw [upd_ne]
              · exact hb
              · rintro rfl; exact n mem
            · rw [← R1.dk]
              show (s1.put j z).dk :: (s1.put j z).a0 :: tabs.map (·.1) = s1.dk :: s1.a0 :: tabs.map (·.1)
              rw [hdk, ha0]
            · rw [hdk, hit]; exact upd_same
            · refine ⟨by rw [ha0, hce, upd_ne (Ne.symm s1.ne)]; exact R1.rs.2.1, fun p hp => (R1.rs.2.2 p hp).kp ?_ fun b u hu h => ?_⟩
              · rw [upd_ne]
                intro e9
                obtain ⟨ps, e8, _⟩ := R1.rs.2.2 p hp
                rw [e9, R1.rs.1] at e8
                cases e8
              · rw [upd_ne]
                · exact h
                · rintro rfl
                  rw [R1.rs.1] at h
                  cases h
                  cases hu
          exact q1 own _ _ (R1.stp stp) ((Gone.of_stp k1).trans R1 (.of_stp stp))
        · exact q1.elim
      | _ => exact q1.elim
  · rw [if_neg hd] at q1; exact q1.elim
end
section
variable {P : Program} {w : World} {K : PySem.W.Frag} {mg : Str → Option Value} {base : Heap} {B : Bs} {k n : Nat} {f : Addr} {fd : FuncData} {ps N : List Str} {x qual : Str} {st : Stmt} {sp : Sp}
/-- a def by hand -/
theorem fg_hand (hP : B.P = P) (hK : B.K = K) (hw : B.w = w) (F : Fun K x qual st f fd) (Sc : FnScope N ps (defScope st)) (len : ∀ vs H Q E, sp vs H Q E → vs.length = ps.length)
    (h : ∀ (cdv : Value) (A : Around) (outer : List PySem.Env) (s : Shared) (H : Hp) (vs : List V) (Q : VK) (E : XK), Ctx (cxP P w K mg base N qual st f cdv A outer s H E) B → Room k (cxP P w K mg base N qual st f cdv A outer s H E).A → sp vs H Q E →
      ∃ t, PSs (cxP P w K mg base N qual st f cdv A outer s H E) (defBody st) t ∧ t { nx := fun _ H' => Q .non H', rt := Q } (L2.start N vs) H) : FnG P w K mg base CX0 (k + 1) f fd ps sp := by
  obtain ⟨oc, od, kV, doc, pm, an, cdv, ct, osl, rfl, lk, hcd⟩ := F.ex
  refine fg_of lk hcd Sc len fun A outer s H vs Q E hr hg hsp => ?_
  obtain ⟨t, ht, q⟩ := h cdv A outer s H vs Q E (ctx_of hP hK hw Sc hr hg).nox hr hsp
  exact ⟨t, ht.nox, q⟩
def spDeck (K : PySem.W.Frag) : Sp := fun vs H Q _ => ∃ (a : Addr) (ns : List Int), vs = [.ref a] ∧ SqL K H a (ns.map V.int) ∧ ns.length ≤ 63 ∧
  ∀ H' p p0, Same H H' → H p = none → H p0 = none → p ≠ p0 → H' p = some (.lst [.ref p0, .int 0, .int 0, .int 0]) → H' p0 = some (.lst (ns.map V.int)) → Q (.ref p) H'
def spLaw (K : PySem.W.Frag) : Sp := fun vs H Q _ => ∃ (a : Addr) (ns : List Int), vs = [.ref a] ∧ SqL K H a (ns.map V.int) ∧ ns.length ≤ 63 ∧ (∀ p ∈ tabs, TabO H p.1 p.2) ∧ ∀ H', Q (.bl true) H'
theorem cut63 (ns : List Int) (h : ns.length ≤ 63) : cutV (ns.map V.int) none (some 63) = ns.map V.int := by
  unfold cutV
  have e : HT.sIx (ns.map V.int).length (ns.map V.int).length (some 63) = ns.length := by
    rw [show (63 : Int) = ((63 : Nat) : Int) from rfl, HT.sIx_nat, List.length_map]
    omega
  rw [e, HT.sIx_none]
  simp [List.take_of_length_le]
theorem deck_read {K : PySem.W.Frag} {H : Hp} {a : Addr} {ns : List Int} {Q : VK} (hS : SqL K H a (ns.map V.int)) (hl : ns.length ≤ 63) (q : ∀ H' p p0, Same H H' → H p = none → H p0 = none → p ≠ p0 → H' p = some (.lst [.ref p0, .int 0, .int 0, .int 0]) → H' p0 = some (.lst (ns.map V.int)) → Q (.ref p) H')
    {σ : Sg} (hσ : σ[0]? = some (some (.ref a))) :
    tLst (tCons (tCB (fun xs H Q => ∃ p ys, xs = [.ref p] ∧ (SqL K H p ys ∨ SqT K H p ys) ∧ ∀ l, H l = none → Q (.ref l) (upd H l (.lst ys))) (tCons (tSl (rSlL K) (tVar 0) tNoPart (tPart (tC (.int 63)))) tNil)) (tCons (tC (.int 0)) (tCons (tC (.int 0)) (tCons (tC (.int 0)) tNil)))) σ H Q := by
  refine ⟨_, hσ, 63, rfl, a, _, rfl, hS, fun t ht => ⟨t, _, rfl, .inl (SqL.of upd_same), fun p0 hp0 => ⟨by show 4 ≤ sizeLine; decide, fun p hp => ?_⟩⟩⟩
  have n1 : p0 ≠ t := fun e => by rw [e, upd_same] at hp0; cases hp0
  have n2 : p ≠ p0 := fun e => by rw [e, upd_same] at hp; cases hp
  have h0 : H p0 = none := by rw [upd_ne n1] at hp0; exact hp0
  have n3 : p ≠ t := fun e => by rw [upd_ne n2, e, upd_same] at hp; cases hp
  have hp' : H p = none := by rw [upd_ne n2, upd_ne n3] at hp; exact hp
  refine q _ p p0 (fun b o e => ?_) hp' h0 n2 upd_same ?_
  · rw [upd_ne (ne_of_none e hp'), upd_ne (ne_of_none e h0), upd_ne (ne_of_none e ht)]; exact e
  · rw [upd_ne (Ne.symm n2), upd_same, cut63 ns hl]
/-- the law's further statements give True, whatever stands in the script -/
def LawTrue (n : Nat) (g : Sx Dk) : Prop := ∀ (ns : List Int) (p p0 : Addr) (ne : p ≠ p0), ns.length ≤ 63 → ∃ s', g (.no :: .v (.r (.ref p)) :: List.replicate n .no) ⟨p, p0, ns, 0, 0, 0, ne⟩ = .ok (.rt (.d (.bool true))) s'
theorem law_read {B : Bs} {a : Addr} {ns : List Int} {H : Hp} {Dd : Ends} {g : Sx Dk} (hB : B.K = K) (hS : SqL K H a (ns.map V.int)) (hl : ns.length ≤ 63) (hN : N.length = n + 2) (ht : LawTrue n g) (k : (∀ p ∈ tabs, TabO H p.1 p.2) ∧ ∀ H', Dd.rt (.bl true) H') :
    tSeq (tAsg (fun σ H Q => (tCons (tVar 0) tNil) σ H fun vs H1 => spDeck K vs H1 Q E0) (gName 1)) (tS B E00 g) Dd (L2.start N [.ref a]) H := by
  have hst : L2.start N [.ref a] = some (.ref a) :: none :: List.replicate n none := by
    unfold L2.start
    rw [hN]
    show some (V.ref a) :: List.replicate (n + 1) none = _
    rw [List.replicate_succ]
  rw [hst]
  refine ⟨_, rfl, a, ns, rfl, hS, hl, fun H' p p0 sm hp hp0 ne e1 e2 => ?_⟩
  obtain ⟨s', e⟩ := ht ns p p0 ne hl
  let s0 : Dk := ⟨p, p0, ns, 0, 0, 0, ne⟩
  have hT : ∀ p ∈ tabs, TabO H' p.1 p.2 := fun p hp => by
    obtain ⟨ps, e8, _⟩ := k.1 p hp
    exact (k.1 p hp).kp (by rw [sm _ _ e8, e8]) fun b u _ h => sm b u h
  let G : Gh := ⟨H', fun b => b ∈ s0.as, s0.as⟩
  refine ⟨G, fun _ => none, .no :: .v (.r (.ref p)) :: List.replicate n .no, s0, ⟨fun b hb => hb, fun b hb => ?_, fun _ _ h _ => h, rfl, ⟨e1, e2, hT⟩, fun _ _ _ h => (nomatch h), fun _ _ h => (nomatch h), fun _ _ h => (nomatch h), ?_, fun i x hx => ?_⟩, ?_⟩
  · obtain ⟨o, e9, _⟩ := SI.there s0 H' b (show Dk.rep s0 H' from ⟨e1, e2, hT⟩) hb
    rw [e9]; simp
  · simp
  · match i, hx with
    | 0, hx => cases hx; trivial
    | 1, hx => cases hx; exact ⟨.ref p, rfl, rfl⟩
    | i + 2, hx =>
      have hx : (List.replicate n Sl.no)[i]? = some x := hx
      rw [List.getElem?_replicate] at hx
      split at hx
      · cases hx; trivial
      · cases hx
  · show (g (.no :: .v (.r (.ref p)) :: List.replicate n .no) s0).sat _ _
    rw [e]
    intro v H2 _ r
    cases r
    exact k.2 H2
end
section
variable {X : Cx} {B : Bs} {E : XK} {x : Str} {p : Pos}
theorem de_gint {i : Int} {t : Tok} (hm : X.mg x = some (.int i t)) (hg : Gl X x := by rfl) (hd : (x == ("__debug__" : Str)) = false := by decide) : DE X B E (.Name x p) (eC (.int i) : Ex Dk) :=
  de_c (pe_glob (v := V.int i) hg hm ⟨_, rfl⟩ hd) fun _ _ => .int _
theorem de_gstr {i : Str} {t : Tok} (hm : X.mg x = some (.str i t)) (hg : Gl X x := by rfl) (hd : (x == ("__debug__" : Str)) = false := by decide) : DE X B E (.Name x p) (eC (.str i) : Ex Dk) :=
  de_c (pe_glob (v := V.str i) hg hm ⟨_, rfl⟩ hd) fun _ _ => .str _
end
end DL
namespace DL
open PySem PySem.Spec PyProof.Rows L2
section
variable {S : Type} [SI S] {X : Cx} {B : Bs} {E : XK} {e ei : Expr} {f fi : Ex S} {pos p2 : Pos}
/-- list[i] = e -/
def sSt (i : Nat) (fi f : Ex S) : Sx S := fun ρ s => (f ρ s).bind fun y s1 => match ρ[i]? with
  | some (.l ds) => (fi ρ s1).bind fun k s2 => (match y, k with
    | .d z, .d (.int j) => (match ixN ds.length j with
      | some n => .ok (.nx (ρ.set i (.l (ds.set n z)))) s2
      | none => .bad)
    | _, _ => .bad)
  | _ => .bad
theorem RpL.set {A : Addr → Prop} {H : Hp} : ∀ {xs : List V} {ds : List D} {v : V} {d : D}, RpL B A H xs ds → Rp B A H v d → ∀ n, RpL B A H (xs.set n v) (ds.set n d)
  | _, _, _, _, .nil, _, _ => .nil
  | _, _, _, _, .cons a t, h, 0 => .cons h t
  | _, _, _, _, .cons a t, h, n + 1 => .cons a (RpL.set t h n)
theorem ds_st (i : Nat) {x : Expr} (hv : PE X x (tVar i)) (hi : DB X B E ei fi) (h : DE X B E e f) (hs : swapsWithSole [.Subscript x ei p2] e pos.line X.env = pure false := by rfl) (hw : swappedStores [.Subscript x ei p2] e X.env = pure none := by rfl)
    (h1 : (assignEach [.Subscript x ei p2] X.env).map (·.2) = [assign (.Subscript x ei p2) X.env] := by rfl)
    (ha : ∀ v, assign (.Subscript x ei p2) X.env v = (do
      let ov ← holding [v] (eval x X.env)
      let iv ← holding [v, ov] (eval ei X.env)
      standAt p2
      holding [v, ov, iv] (setItem ov iv v)
      release [v, ov, iv] []) := by intro _; rfl) : DS X B E (.Assign [.Subscript x ei p2] e pos) (sSt i fi f) := by
  refine ps_imp (ps_asg h (pg_sub hv hi set_list ha) hs hw h1) fun Dd σ H ⟨G, own, ρ, s, R, q⟩ => ?_
  unfold sSt at q
  refine tD.run R _ q.bnd fun y s1 v H1 q1 k1 r1 R1 => ?_
  cases z : ρ[i]? with
  | none => rw [z] at q1; exact q1.elim
  | some x =>
    rw [z] at q1
    have p := R1.sl i x z
    cases x with
    | l ds =>
      obtain ⟨a, ho, hs, xs, hx, r⟩ := p
      refine ⟨_, hs, ?_⟩
      refine tB.run R1 _ q1.bnd fun kk s2 u H2 q2 k2 r2 R2 => ?_
      have hd : a ∉ G.dks := fun z => (R.fre i a ho).2 (R.wf1 a z)
      have hx2 := k2.fr a _ hx hd
      have r' := RpL.kp (R1.kp k2) r
      have rv := r1.kp (R1.kp k2)
      cases y with
      | r _ => exact q2.elim
      | o _ _ => exact q2.elim
      | p _ => exact q2.elim
      | f _ => exact q2.elim
      | d d =>
        cases kk with
        | r _ => exact q2.elim
        | o _ _ => exact q2.elim
        | p _ => exact q2.elim
        | f _ => exact q2.elim
        | d kd =>
          cases kd with
          | int j =>
            dsimp only at q2
            cases hj : ixN ds.length j with
            | none => rw [hj] at q2; exact q2.elim
            | some n =>
              rw [hj] at q2
              have eu := rt_int r2
              have kp : Kp (Av G own) H2 (upd H2 a (.lst (xs.set n v))) := by
                refine ⟨fun b ys ht h => ?_, fun b u h n => ?_⟩
                · rw [upd_ne]
                  · exact h
                  · rintro rfl; rw [hx2] at h; cases h; cases ht
                · rw [upd_ne]
                  · exact h
                  · rintro rfl; exact n (.inr ⟨i, ho⟩)
              obtain ⟨R3, g3⟩ := R2.chg (x := .l (ds.set n d)) (o := .lst (xs.set n v)) ho hs rfl ⟨_, upd_same, RpL.kp kp (r'.set rv n)⟩
              exact ⟨a, xs, j, n, rfl, eu, hx2, by rw [r.len]; exact hj, q2 own σ _ R3 ((Gone.of_stp (k1.trans k2)).trans R2 g3)⟩
          | _ => exact q2.elim
    | _ => exact q1.elim
end
end DL
namespace DL
open PySem PySem.Spec PyProof.Rows L2
def scK : D → Option Key
  | .int i => some (.inl i)
  | .str x => some (.inr x)
  | _ => none
def dGetS (kvs : List (D × D)) (k : Key) : Option D := (kvs.find? fun p => decide (scK p.1 = some k)).map (·.2)
section
variable {B : Bs} {A : Addr → Prop} {H : Hp}
theorem sc_of {k : Key} {d : D} (h : Rp B A H (kV k) d) : scK d = some k := by
  cases k with
  | inl i => cases h; rfl
  | inr x => cases h; rfl
theorem sc_val {N : Addr → Prop} {y : V} {d : D} {k : Key} (h : RtV B A N H y (.d d)) (e : scK d = some k) : y = kV k := by
  cases d with
  | int i => cases e; exact rt_int h
  | str x => cases e; exact rt_str h
  | _ => cases e
theorem sc_rp {k : Key} {d : D} (e : scK d = some k) : Rp B A H (kV k) d := by
  cases d with
  | int i => cases e; exact .int i
  | str x => cases e; exact .str x
  | _ => cases e
theorem rpm_get : ∀ {ks : List (Key × V)} {kvs : List (D × D)} {k : Key} {z : D}, RpM B A H (ks.map fun p => (kV p.1, p.2)) kvs → dGetS kvs k = some z → ∃ v, valV ks k = some v ∧ Rp B A H v z
  | [], _, k, z, r, h => by
    rw [List.map_nil] at r
    cases r
    cases h
  | p :: ks, _, k, z, r, h => by
    rw [List.map_cons] at r
    cases r with
    | @cons _ _ kd d vs ds h1 h2 t =>
      have e1 := sc_of h1
      unfold dGetS at h
      rw [List.find?_cons] at h
      by_cases e : p.1 = k
      · have e2 : decide (scK kd = some k) = true := decide_eq_true (by rw [e1, e])
        simp only [e2] at h
        cases h
        exact ⟨_, valV_pos e, h2⟩
      · have e2 : decide (scK kd = some k) = false := decide_eq_false (by rw [e1]; exact fun z => e (Option.some.inj z))
        simp only [e2] at h
        obtain ⟨v, e3, r⟩ := rpm_get (k := k) (z := z) t h
        exact ⟨v, by rw [valV_neg e]; exact e3, r⟩
theorem RpM.app : ∀ {v v' : List (V × V)} {d d' : List (D × D)}, RpM B A H v d → RpM B A H v' d' → RpM B A H (v ++ v') (d ++ d')
  | _, _, _, _, .nil, h => h
  | _, _, _, _, .cons a b t, h => .cons a b (RpM.app t h)
theorem RpM.len : ∀ {v : List (V × V)} {d : List (D × D)}, RpM B A H v d → v.length = d.length
  | _, _, .nil => rfl
  | _, _, .cons _ _ t => by simp [RpM.len t]
/-- a dict with tuple keys has no scalar ones -/
theorem dn_scalar : ∀ {ks : List (NestedKey × Addr × V)} {kvs : List (D × D)}, RpM B A H (ks.map fun p => (V.ref p.2.1, p.2.2)) kvs → ∀ p ∈ kvs, scK p.1 = none
  | [], _, r, p, m => by
    rw [List.map_nil] at r
    cases r
    cases m
  | q :: ks, _, r, p, m => by
    rw [List.map_cons] at r
    cases r with
    | cons h1 h2 t =>
      rcases List.mem_cons.mp m with rfl | m
      · cases h1 <;> rfl
      · exact dn_scalar t p m
end
section
variable {S : Type} [SI S] {X : Cx} {B : Bs} {E : XK} {e ei o value : Expr} {f fi : Ex S} {pos p2 : Pos} {td ty tv : TE}
/-- dict[k] -/
def opDIx : D → D → Option D
  | .dict kvs, kd => (match scK kd with
    | some k => dGetS kvs k
    | none => none)
  | _, _ => none
theorem rt_dic {A N : Addr → Prop} {H : Hp} {x : V} {kvs : List (D × D)} (h : RtV B A N H x (.d (.dict kvs))) : ∃ a, x = .ref a ∧ ((∃ ks : List (Key × V), H a = some (.dK ks) ∧ RpM B A H (ks.map fun p => (kV p.1, p.2)) kvs) ∨
    ∃ ks : NL, H a = some (dN B a ks) ∧ kvs.map (fun p => keyD p.1) = ks.2.map (fun p => some p.1) ∧ RpM B A H (ks.2.map fun p => (V.ref p.2.1, p.2.2)) kvs) := by
  cases h with
  | of h =>
    cases h with
    | dic h n r => exact ⟨_, rfl, .inl ⟨_, h.1, r⟩⟩
    | dct h n e r => exact ⟨_, rfl, .inr ⟨_, h, e, r⟩⟩
  | dic h n r => exact ⟨_, rfl, .inl ⟨_, h.1, r⟩⟩
  | dct h n e r => exact ⟨_, rfl, .inr ⟨_, h, e, r⟩⟩
theorem od_dix : OpD B (fun x y H Q => ∃ a v, x = .ref a ∧ DGet H a y (some v) ∧ Q v H) opDIx := by
  intro A N H x y p q z Q fr hz hx hy k
  cases p with
  | dict kvs =>
    simp only [opDIx] at hz
    cases hk : scK q with
    | none => rw [hk] at hz; cases hz
    | some kk =>
      rw [hk] at hz
      have hz : dGetS kvs kk = some z := hz
      have ey := sc_val hy hk
      obtain ⟨a, rfl, h⟩ := rt_dic hx
      rcases h with ⟨ks, ha, r⟩ | ⟨ks, ha, e, r⟩
      · obtain ⟨v, e1, r1⟩ := rpm_get r hz
        refine ⟨a, v, rfl, ?_, k v H (Same.refl H) r1⟩
        rw [ey, ← e1]
        exact .k ha
      · exfalso
        unfold dGetS at hz
        cases hf : kvs.find? fun p => decide (scK p.1 = some kk) with
        | none => rw [hf] at hz; cases hz
        | some p =>
          have h1 := List.find?_some hf
          have h2 := dn_scalar r p (List.mem_of_find?_eq_some hf)
          rw [h2] at h1
          cases h1
  | _ => simp [opDIx] at hz
theorem de_dix {a b : Expr} {fa fb : Ex S} (c : Ctx X B) (ha : DB X B E a fa) (hb : DB X B E b fb) (hs : NoSl b := by intro _ _; rfl) : DE X B E (.Subscript a b pos) (eBin opDIx fa fb) :=
  de_bin od_dix (pe_dget (by have := c.un; omega) ha hb hs)
def exsOf : List (Ex S) → Exs S
  | [] => aNil
  | f :: fs => aCons f (exsOf fs)
theorem merge_new : ∀ (ks : List (Key × V)) (acc : List (Key × V)), ((acc ++ ks).map (·.1)).Nodup → mergeK acc ks = acc ++ ks
  | [], acc, _ => by simp [mergeK]
  | p :: ks, acc, h => by
    show mergeK (putK acc p.1 p.2) ks = _
    have hn : valV acc p.1 = none := by
      cases e : valV acc p.1 with
      | none => rfl
      | some v =>
        have m := valV_in e
        rw [List.map_append, List.nodup_append] at h
        exact absurd rfl (h.2.2 _ m p.1 (by simp))
    rw [putK_new _ hn, merge_new ks (acc ++ [(p.1, p.2)]) (by simpa using h)]
    simp
end
end DL
namespace DL
open PySem PySem.Spec PySem.Calls PySem.W PyProof.Rows L2
end DL
namespace DL
open PySem PySem.Spec PySem.Calls PySem.W PyProof.Rows L2
mutual
/-- the value v is the key k -/
inductive NK (K : PySem.W.Frag) (H : Hp) : V → NestedKey → Prop
  | non : NK K H .non .none
  | bl (b : Bool) : NK K H (.bl b) (.num (if b then 1 else 0))
  | int (i : Int) : NK K H (.int i) (.num i)
  | str (x : Str) : NK K H (.str x) (.text x)
  | tup {a : Addr} {xs : List V} {ks : List NestedKey} (h : Tp K H a xs) (r : NKs K H xs ks) : NK K H (.ref a) (.tup ks)
inductive NKs (K : PySem.W.Frag) (H : Hp) : List V → List NestedKey → Prop
  | nil : NKs K H [] []
  | cons {v : V} {k : NestedKey} {vs : List V} {ks : List NestedKey} (h : NK K H v k) (t : NKs K H vs ks) : NKs K H (v :: vs) (k :: ks)
end
section
variable {X : Cx} {pins : List (Addr × Obj)} {σ : L2.St} {H : Hp} {s : Shared}
mutual
theorem NK.is (I : Inv X pins σ H s) : ∀ {v : V} {k : NestedKey} {u : Value}, NK X.K H v k → RelV v u → NestedIs s.heap k u
  | _, _, _, .non, r => by cases r; exact .none
  | _, _, _, .bl b, r => by cases r; exact .bool rfl
  | _, _, _, .int i, r => by obtain ⟨t, rfl⟩ := r; exact .int i t
  | _, _, _, .str x, r => by obtain ⟨t, rfl⟩ := r; exact .text x t
  | _, _, _, .tup h t, r => by
    cases r
    obtain ⟨its, rv, ⟨o, ho, hc, n, hd⟩, _⟩ := I.tuple h.sq
    exact .tup ho hc hd (NKs.all I t rv)
theorem NKs.all (I : Inv X pins σ H s) : ∀ {vs : List V} {ks : List NestedKey} {us : List Value}, NKs X.K H vs ks → Vals vs us → NestedAll s.heap ks us
  | _, _, _, .nil, r => by cases r; exact .nil
  | _, _, _, .cons h t, r => by
    cases r with
    | cons r rs => exact .cons (NK.is I h r) (NKs.all I t rs)
end
end
/-- at a stands a dict with these keys and values -/
structure DctN (B : Bs) (H : Hp) (a : Addr) (ks : List (NestedKey × Addr × V)) : Prop where
  at_ : (∃ o, H a = some (dN B a (o, ks))) ∨ (ks = [] ∧ H a = some (.dK []))
  key : ∀ p ∈ ks, NK B.K H (.ref p.2.1) p.1 ∧ p.1.depth ≤ 8
abbrev PV (p : NestedKey × Addr × V) (q : NestedKey × Addr × Value) : Prop := p.1 = q.1 ∧ p.2.1 = q.2.1 ∧ RelV p.2.2 q.2.2
section
variable {X : Cx} {B : Bs} {pins : List (Addr × Obj)} {σ : L2.St} {H : Hp} {s : Shared}
theorem DctN.get (c : Ctx X B) (I : Inv X pins σ H s) {a : Addr} {ks : List (NestedKey × Addr × V)} (h : DctN B H a ks) : ∃ xs, Paired PV ks xs ∧ s.heap.DictOfH (nestedKind X.prog X.w) a xs ∧ (a == sysModules) = false ∧ ks.length ≤ sizeLine := by
  rcases h.at_ with ⟨_, hat⟩ | ⟨rfl, hat⟩
  case inr =>
    obtain ⟨_, z, vs, rel, o, es, ep, ho, hx, hd, _, he, _⟩ := I.hok a _ hat
    cases rel
    have he0 : es.toList = [] := by
      generalize es.toList = l at he
      cases he
      rfl
    exact ⟨[], .nil, ⟨o, es, ep, ho, hx, hd, he0, fun x hx => (by cases hx), List.nodup_nil⟩, z, Nat.zero_le _⟩
  obtain ⟨⟨z, hl, xs, hp, o, es, ep, _, ho, hx, hd, he, hn⟩, _⟩ := I.hok a _ hat
  rw [c.hP, c.hw] at he
  refine ⟨xs, hp, ⟨o, es, ep, ho, hx, hd, he, fun x hx => ?_, hn⟩, z, hl⟩
  have key : ∀ {ks : List (NestedKey × Addr × V)} {xs : List (NestedKey × Addr × Value)}, Paired PV ks xs → (∀ p ∈ ks, NK B.K H (.ref p.2.1) p.1 ∧ p.1.depth ≤ 8) → ∀ x ∈ xs, NestedIs s.heap x.1 (.ref x.2.1) ∧ x.1.depth ≤ 8 := by
    intro ks xs hp
    induction hp with
    | nil => intro _ x hx; cases hx
    | cons h t ih =>
      intro hk x hx
      rcases List.mem_cons.mp hx with rfl | hx
      · obtain ⟨e1, e2, e3⟩ := h
        have := hk _ (.head _)
        rw [e1, e2, c.hK] at this
        exact ⟨NK.is I this.1 rfl, this.2⟩
      · exact ih (fun p m => hk p (.tail _ m)) x hx
  exact key hp h.key x hx
end
def tupKey (d : D) : Option NestedKey := match d with
  | .tuple _ => (match keyD d with
    | some k => if k.depth ≤ 8 then some k else none
    | none => none)
  | _ => none
def allN (kvs : List (D × D)) : Bool := kvs.all fun p => (tupKey p.1).isSome
def dGetN (kvs : List (D × D)) (k : NestedKey) : Option D := (kvs.find? fun p => decide (keyD p.1 = some k)).map (·.2)
def dPutN (kvs : List (D × D)) (kd z : D) (k : NestedKey) : List (D × D) :=
  if (dGetN kvs k).isSome then kvs.map (fun p => if keyD p.1 = some k then (p.1, z) else p) else kvs ++ [(kd, z)]
section
variable {B : Bs} {A : Addr → Prop} {H : Hp}
/-- how a dict with tuple keys stands for pairs of data -/
def RN (B : Bs) (A : Addr → Prop) (H : Hp) (ks : List (NestedKey × Addr × V)) (kvs : List (D × D)) : Prop := kvs.map (fun p => keyD p.1) = ks.map (fun p => some p.1) ∧ RpM B A H (ks.map fun p => (V.ref p.2.1, p.2.2)) kvs
theorem RN.nil : RN B A H [] [] := ⟨rfl, .nil⟩
theorem RN.len {ks : List (NestedKey × Addr × V)} {kvs : List (D × D)} (h : RN B A H ks kvs) : kvs.length = ks.length := by
  have := congrArg List.length h.1
  simpa using this
theorem RN.kp {H' : Hp} (k : Kp A H H') {ks : List (NestedKey × Addr × V)} {kvs : List (D × D)} (h : RN B A H ks kvs) : RN B A H' ks kvs := ⟨h.1, RpM.kp k h.2⟩
end
section
variable {S : Type} [SI S] {X : Cx} {B : Bs} {E : XK} {e ei a b : Expr} {f fi fa fb : Ex S} {pos p2 : Pos}
/-- d[k] = e, d one's own -/
def sPutN (i : Nat) (fi f : Ex S) : Sx S := fun ρ s => (f ρ s).bind fun y s1 => match ρ[i]? with
  | some (.m kvs) => (fi ρ s1).bind fun k s2 => (match y, k with
    | .d z, .d kd => (match tupKey kd with
      | some kk => if kvs.length < sizeLine ∧ allN kvs = true then .ok (.nx (ρ.set i (.m (dPutN kvs kd z kk)))) s2 else .bad
      | none => .bad)
    | _, _ => .bad)
  | _ => .bad
end
/-- the keys of a dict that is not empty -/
def iKeysN {S : Type} (f : Ex S) : Lx S := fun ρ s => (f ρ s).bind fun y s1 => match y with
  | .d (.dict kvs) => if allN kvs = true ∧ kvs ≠ [] then .ok (kvs.map (·.1)) s1 else .bad
  | _ => .bad
end DL
namespace DL
open PySem PySem.Spec PyProof.Rows L2
section
variable {S : Type} [SI S] {X : Cx} {B : Bs} {E : XK} {e ei ea eb : Expr} {f fi fa fb : Ex S} {g : Exs S} {pos p2 : Pos}
theorem seqIx {j : Int} {n : Nat} (h0 : 0 ≤ j) (h1 : j < n) : seqIndex? j n = some j.toNat := (ixN_seq (by unfold ixN; rw [if_pos h0, if_pos h1])).1
theorem RpL.erase {A : Addr → Prop} {H : Hp} {xs : List V} {ds : List D} (r : RpL B A H xs ds) (n : Nat) : RpL B A H (xs.eraseIdx n) (ds.eraseIdx n) := by
  rw [List.eraseIdx_eq_take_drop_succ, List.eraseIdx_eq_take_drop_succ]
  exact (r.take n).app (r.drop (n + 1))
theorem kp_own {G : Gh} {own : Own} {H : Hp} {i : Nat} {a : Addr} {xs ys : List V} (ho : own i = some a) (hx : H a = some (.lst xs)) : Kp (Av G own) H (upd H a (.lst ys)) := by
  constructor
  · intro b zs ht h
    have hb : b ≠ a := fun e => by rw [e, hx] at h; cases h; cases ht
    rw [upd_ne hb]; exact h
  · intro b u h n
    have hb : b ≠ a := fun e => n (e ▸ .inr ⟨i, ho⟩)
    rw [upd_ne hb]; exact h
/-- xs.pop(i) as a statement -/
def sPopAt (i : Nat) (f : Ex S) : Sx S := fun ρ s => match ρ[i]? with
  | some (.l ds) => (f ρ s).bind fun y s1 => (match y with
    | .d (.int j) => if 0 ≤ j ∧ j < ds.length ∧ ds.length < 1000000 then .ok (.nx (ρ.set i (.l (ds.eraseIdx j.toNat)))) s1 else .bad
    | _ => .bad)
  | _ => .bad
theorem ds_popAt (c : Ctx X B) (i : Nat) (hp : PE X e (tBM X.K "list" rPopAt (tVar i) (tCons (tD B E f) tNil))) (hs : swapsWith e none pos.line X.env = pure false := by rfl) : DS X B E (.Expr e pos) (sPopAt i f) := by
  refine ps_imp (ps_expr hp hs) fun Dd σ H ⟨G, own, ρ, s, R, q⟩ => ?_
  unfold sPopAt at q
  cases z : ρ[i]? with
  | none => rw [z] at q; exact q.elim
  | some x =>
    rw [z] at q
    have p := R.sl i x z
    cases x with
    | l ds =>
      obtain ⟨a, ho, hs, xs, hx, r⟩ := p
      refine ⟨_, hs, ty_list hx, ?_⟩
      refine tD.run R _ q.bnd fun y s1 v H1 q1 k1 r1 R1 => ?_
      have hd : a ∉ G.dks := fun w => (R.fre i a ho).2 (R.wf1 a w)
      have hx1 := k1.fr a _ hx hd
      have r' := RpL.kp (R.kp k1) r
      cases y with
      | r _ => exact q1.elim
      | o _ _ => exact q1.elim
      | p _ => exact q1.elim
      | f _ => exact q1.elim
      | d d =>
        cases d with
        | int j =>
          dsimp only at q1
          split at q1
          · rename_i hl
            obtain ⟨h0, h1, h2⟩ := hl
            have ev := rt_int (.of r1 : RtV B (Av G own) G.A0 H1 v (.d (.int j)))
            have hxl : xs.length = ds.length := r.len
            have hk := seqIx h0 (show j < (xs.length : Int) by rw [hxl]; exact h1)
            have hlt : j.toNat < xs.length := by omega
            obtain ⟨R2, g2⟩ := R1.chg (x := .l (ds.eraseIdx j.toNat)) (o := .lst (xs.eraseIdx j.toNat)) ho hs rfl ⟨_, upd_same, RpL.kp (kp_own ho hx1) (r'.erase j.toNat)⟩
            exact ⟨a, xs, j, j.toNat, xs[j.toNat], rfl, by rw [ev], hx1, by omega, by omega, hk, List.getElem?_eq_getElem hlt, q1 own σ _ R2 ((Gone.of_stp k1).trans R1 g2)⟩
          · exact q1.elim
        | _ => exact q1.elim
    | _ => exact q.elim
def rIns : V → List V → Hp → VK → Prop := fun x vs H Q => ∃ (l : Addr) (xs : List V) (i : Int) (y : V), x = .ref l ∧ vs = [.int i, y] ∧ H l = some (.lst xs) ∧ xs.length < sizeLine ∧ 0 ≤ i ∧ i < 2 ^ 63 ∧ Q .non (upd H l (.lst (xs.take i.toNat ++ [y] ++ xs.drop i.toNat)))
theorem mt_ins : MtR X "list.insert" rIns := mt_insert
/-- xs.insert(i, x) as a statement -/
def sIns (i : Nat) (fi f : Ex S) : Sx S := fun ρ s => match ρ[i]? with
  | some (.l ds) => (fi ρ s).bind fun k s1 => (f ρ s1).bind fun y s2 => (match k, y with
    | .d (.int j), .d z => if 0 ≤ j ∧ j < 1000000 ∧ ds.length < 1000000 then .ok (.nx (ρ.set i (.l (ds.take j.toNat ++ [z] ++ ds.drop j.toNat)))) s2 else .bad
    | _, _ => .bad)
  | _ => .bad
theorem ds_ins (c : Ctx X B) (i : Nat) (hp : PE X e (tBM X.K "list" rIns (tVar i) (tCons (tD B E fi) (tCons (tD B E f) tNil)))) (hs : swapsWith e none pos.line X.env = pure false := by rfl) : DS X B E (.Expr e pos) (sIns i fi f) := by
  refine ps_imp (ps_expr hp hs) fun Dd σ H ⟨G, own, ρ, s, R, q⟩ => ?_
  unfold sIns at q
  cases z : ρ[i]? with
  | none => rw [z] at q; exact q.elim
  | some x =>
    rw [z] at q
    have p := R.sl i x z
    cases x with
    | l ds =>
      obtain ⟨a, ho, hs, xs, hx, r⟩ := p
      refine ⟨_, hs, ty_list hx, ?_⟩
      refine tD.run R _ q.bnd fun k s1 u H1 q1 k1 r1 R1 => ?_
      refine tD.run R1 _ q1.bnd fun y s2 v H2 q2 k2 r2 R2 => ?_
      have hd : a ∉ G.dks := fun w => (R.fre i a ho).2 (R.wf1 a w)
      have hx2 := k2.fr a _ (k1.fr a _ hx hd) hd
      have r' := RpL.kp (R1.kp k2) (RpL.kp (R.kp k1) r)
      cases k with
      | r _ => exact q2.elim
      | o _ _ => exact q2.elim
      | p _ => exact q2.elim
      | f _ => exact q2.elim
      | d kd =>
        cases y with
        | r _ => cases kd <;> exact q2.elim
        | o _ _ => cases kd <;> exact q2.elim
        | p _ => cases kd <;> exact q2.elim
        | f _ => cases kd <;> exact q2.elim
        | d d =>
          cases kd with
          | int j =>
            dsimp only at q2
            split at q2
            · rename_i hl
              obtain ⟨h0, h1, h2⟩ := hl
              have ev := rt_int (.of r1 : RtV B (Av G own) G.A0 H1 u (.d (.int j)))
              have hxl : xs.length = ds.length := r.len
              obtain ⟨R3, g3⟩ := R2.chg (x := .l (ds.take j.toNat ++ [d] ++ ds.drop j.toNat)) (o := .lst (xs.take j.toNat ++ [v] ++ xs.drop j.toNat)) ho hs rfl ⟨_, upd_same, RpL.kp (kp_own ho hx2) (((r'.take j.toNat).app (.cons r2 .nil)).app (r'.drop j.toNat))⟩
              exact ⟨a, xs, j, v, rfl, by rw [ev], hx2, by rw [sizeLine_eq]; omega, h0, by omega, q2 own σ _ R3 ((Gone.of_stp (k1.trans k2)).trans R2 g3)⟩
            · exact q2.elim
          | _ => exact q2.elim
    | _ => exact q.elim
/-- one store -/
def stS (i : Nat) (fi : Ex S) (d : D) (ρ : Env) (s : S) : Out S Env := match ρ[i]? with
  | some (.l ds) => (fi ρ s).bind fun kk s2 => (match kk with
    | .d (.int j) => (match ixN ds.length j with
      | some n => .ok (ρ.set i (.l (ds.set n d))) s2
      | none => .bad)
    | _ => .bad)
  | _ => .bad
theorem st_step {G : Gh} {own : Own} {ρ : Env} {s : S} {σ : Sg} {H : Hp} {i : Nat} {v : V} {d : D} {K : Hp → Prop} (R : Rel B G own ρ s σ H) (rv : Rp B (Av G own) H v d)
    (q : (stS i fi d ρ s).sat (fun ρ' s' => ∀ H', Rel B G own ρ' s' σ H' → Gone G own own H H' → Kp (Av G own) H H' → K H') fun e s' => ExW B G E e s') :
    gSub (tVar i) (tB B E fi) rSetL v σ H fun σ' H' => σ' = σ ∧ K H' := by
  unfold stS at q
  cases z : ρ[i]? with
  | none => rw [z] at q; exact q.elim
  | some x =>
    rw [z] at q
    have p := R.sl i x z
    cases x with
    | l ds =>
      obtain ⟨a, ho, hs, xs, hx, r⟩ := p
      refine ⟨_, hs, ?_⟩
      refine tB.run R _ q.bnd fun kk s2 u H2 q2 k2 r2 R2 => ?_
      have hd : a ∉ G.dks := fun w => (R.fre i a ho).2 (R.wf1 a w)
      have hx2 := k2.fr a _ hx hd
      have r' := RpL.kp (R.kp k2) r
      have rv2 := Rp.kp (R.kp k2) rv
      cases kk with
      | r _ => exact q2.elim
      | o _ _ => exact q2.elim
      | p _ => exact q2.elim
      | f _ => exact q2.elim
      | d kd =>
        cases kd with
        | int j =>
          dsimp only at q2
          cases hj : ixN ds.length j with
          | none => rw [hj] at q2; exact q2.elim
          | some n =>
            rw [hj] at q2
            have eu := rt_int r2
            have kp := kp_own (G := G) (ys := xs.set n v) ho hx2
            obtain ⟨R3, g3⟩ := R2.chg (x := .l (ds.set n d)) (o := .lst (xs.set n v)) ho hs rfl ⟨_, upd_same, RpL.kp kp (r'.set rv2 n)⟩
            exact ⟨a, xs, j, n, rfl, eu, hx2, by rw [r.len]; exact hj, rfl, q2 _ R3 ((Gone.of_stp k2).trans R2 g3) ⟨fun b ys t h => kp.tup b ys t ((R.kp k2).tup b ys t h), fun b u h m => kp.all b u ((R.kp k2).all b u h m) m⟩⟩
        | _ => exact q2.elim
    | _ => exact q.elim
theorem gs_mono {i : Nat} {v : V} {σ : Sg} {H : Hp} {Q Q' : Sg → Hp → Prop} (h : gSub (tVar i) (tB B E fi) rSetL v σ H Q) (k : ∀ σ' H', Q σ' H' → Q' σ' H') : gSub (tVar i) (tB B E fi) rSetL v σ H Q' := by
  obtain ⟨w, hs, G, own, ρ, s, R, q⟩ := h
  refine ⟨w, hs, G, own, ρ, s, R, q.mono fun y s' z => fun u H2 st r => ?_⟩
  obtain ⟨p, xs, kk, j, e1, e2, e3, e4, q⟩ := z u H2 st r
  exact ⟨p, xs, kk, j, e1, e2, e3, e4, k _ _ q⟩
/-- xs[a], xs[b] = e1, e2 -/
def sSwp (i : Nat) (fa fb : Ex S) (g : Exs S) : Sx S := fun ρ s => (g ρ s).bind fun ys s1 => (match ys with
  | [.d d1, .d d2] => (stS i fa d1 ρ s1).bind fun ρ1 s2 => (stS i fb d2 ρ1 s2).bind fun ρ2 s3 => .ok (.nx ρ2) s3
  | _ => .bad)
end
end DL
namespace DL
open PySem PySem.Spec PySem.Calls PySem.W PyProof.Rows L2
end DL
namespace DL
open PySem PySem.Spec PySem.Calls PySem.W PyProof.Rows L2
/-- d == {} -/
def eDEmp {S : Type} (f : Ex S) : Ex S := fun ρ s => (f ρ s).bind fun y s1 => match y with
  | .d (.dict kvs) => .ok (.d (.bool kvs.isEmpty)) s1
  | _ => .bad
end DL
namespace DL
open PySem PySem.Spec PySem.Calls PySem.W PyProof.Rows L2
/-- the values of a dict that is not empty -/
def iValsN {S : Type} (f : Ex S) : Lx S := fun ρ s => (f ρ s).bind fun y s1 => match y with
  | .d (.dict kvs) => if allN kvs = true ∧ kvs ≠ [] then .ok (kvs.map (·.2)) s1 else .bad
  | _ => .bad
end DL
namespace DL
open PySem PySem.Spec PySem.Calls PySem.W PyProof.Rows L2
end DL
namespace DL
open PySem PySem.Spec PySem.Calls PySem.W PyProof.Rows L2
/-- enumerate of a tuple -/
def iEnuT {S : Type} (f : Ex S) : Lx S := fun ρ s => (f ρ s).bind fun y s1 => match y with
  | .d (.tuple ds) => .ok ((List.range ds.length).zipWith (fun i d => PyData.tuple [.int (i : Nat), d]) ds) s1
  | _ => .bad
end DL
namespace DL
open PySem PySem.Spec PyProof.Rows L2
end DL
namespace DL
open PySem PySem.Spec PySem.Calls PyProof.Rows L2
end DL
namespace DL
open PySem PySem.Spec PySem.Calls PyProof.Rows L2
section
variable {S : Type} [SI S]
def PostO (B : Bs) (G : Gh) (own : Own) (σ : Sg) (H : Hp) (Dd : Ends) (fl : Fl) (s' : S) : Prop := match fl with
  | .nx ρ' => ∀ H', Rel B G own ρ' s' σ H' → Gone G own own H H' → Dd.nx σ H'
  | _ => False
def tSo (B : Bs) (E : XK) (g : Sx S) : TS := fun Dd σ H => ∃ G own ρ s, Rel B G own ρ s σ H ∧ (g ρ s).sat (PostO B G own σ H Dd) fun e s' => ExW B G E e s'
abbrev DSo (X : Cx) (B : Bs) (E : XK) (st : Stmt) (g : Sx S) : Prop := PS X st (tSo B E g)
end
section
variable {S : Type} [SI S] {X : Cx} {B : Bs} {E : XK} {e ei ea eb : Expr} {f fi fa fb : Ex S} {g : Exs S} {pos p2 : Pos}
theorem so_st (i : Nat) {x : Expr} (hv : PE X x (tVar i)) (hi : DB X B E ei fi) (h : DE X B E e f) (hs : swapsWithSole [.Subscript x ei p2] e pos.line X.env = pure false := by rfl) (hw : swappedStores [.Subscript x ei p2] e X.env = pure none := by rfl)
    (h1 : (assignEach [.Subscript x ei p2] X.env).map (·.2) = [assign (.Subscript x ei p2) X.env] := by rfl)
    (ha : ∀ v, assign (.Subscript x ei p2) X.env v = (do
      let ov ← holding [v] (eval x X.env)
      let iv ← holding [v, ov] (eval ei X.env)
      standAt p2
      holding [v, ov, iv] (setItem ov iv v)
      release [v, ov, iv] []) := by intro _; rfl) : DSo X B E (.Assign [.Subscript x ei p2] e pos) (sSt i fi f) := by
  refine ps_imp (ps_asg h (pg_sub hv hi set_list ha) hs hw h1) fun Dd σ H ⟨G, own, ρ, s, R, q⟩ => ?_
  unfold sSt at q
  refine tD.run R _ q.bnd fun y s1 v H1 q1 k1 r1 R1 => ?_
  cases z : ρ[i]? with
  | none => rw [z] at q1; exact q1.elim
  | some x =>
    rw [z] at q1
    have p := R1.sl i x z
    cases x with
    | l ds =>
      obtain ⟨a, ho, hs, xs, hx, r⟩ := p
      refine ⟨_, hs, ?_⟩
      refine tB.run R1 _ q1.bnd fun kk s2 u H2 q2 k2 r2 R2 => ?_
      have hd : a ∉ G.dks := fun z => (R.fre i a ho).2 (R.wf1 a z)
      have hx2 := k2.fr a _ hx hd
      have r' := RpL.kp (R1.kp k2) r
      have rv := r1.kp (R1.kp k2)
      cases y with
      | r _ => exact q2.elim
      | o _ _ => exact q2.elim
      | p _ => exact q2.elim
      | f _ => exact q2.elim
      | d d =>
        cases kk with
        | r _ => exact q2.elim
        | o _ _ => exact q2.elim
        | p _ => exact q2.elim
        | f _ => exact q2.elim
        | d kd =>
          cases kd with
          | int j =>
            dsimp only at q2
            cases hj : ixN ds.length j with
            | none => rw [hj] at q2; exact q2.elim
            | some n =>
              rw [hj] at q2
              have eu := rt_int r2
              have kp : Kp (Av G own) H2 (upd H2 a (.lst (xs.set n v))) := by
                refine ⟨fun b ys ht h => ?_, fun b u h n => ?_⟩
                · rw [upd_ne]
                  · exact h
                  · rintro rfl; rw [hx2] at h; cases h; cases ht
                · rw [upd_ne]
                  · exact h
                  · rintro rfl; exact n (.inr ⟨i, ho⟩)
              obtain ⟨R3, g3⟩ := R2.chg (x := .l (ds.set n d)) (o := .lst (xs.set n v)) ho hs rfl ⟨_, upd_same, RpL.kp kp (r'.set rv n)⟩
              exact ⟨a, xs, j, n, rfl, eu, hx2, by rw [r.len]; exact hj, q2 _ R3 ((Gone.of_stp (k1.trans k2)).trans R2 g3)⟩
          | _ => exact q2.elim
    | _ => exact q1.elim
theorem so_popAt (c : Ctx X B) (i : Nat) (hp : PE X e (tBM X.K "list" rPopAt (tVar i) (tCons (tD B E f) tNil))) (hs : swapsWith e none pos.line X.env = pure false := by rfl) : DSo X B E (.Expr e pos) (sPopAt i f) := by
  refine ps_imp (ps_expr hp hs) fun Dd σ H ⟨G, own, ρ, s, R, q⟩ => ?_
  unfold sPopAt at q
  cases z : ρ[i]? with
  | none => rw [z] at q; exact q.elim
  | some x =>
    rw [z] at q
    have p := R.sl i x z
    cases x with
    | l ds =>
      obtain ⟨a, ho, hs, xs, hx, r⟩ := p
      refine ⟨_, hs, ty_list hx, ?_⟩
      refine tD.run R _ q.bnd fun y s1 v H1 q1 k1 r1 R1 => ?_
      have hd : a ∉ G.dks := fun w => (R.fre i a ho).2 (R.wf1 a w)
      have hx1 := k1.fr a _ hx hd
      have r' := RpL.kp (R.kp k1) r
      cases y with
      | r _ => exact q1.elim
      | o _ _ => exact q1.elim
      | p _ => exact q1.elim
      | f _ => exact q1.elim
      | d d =>
        cases d with
        | int j =>
          dsimp only at q1
          split at q1
          · rename_i hl
            obtain ⟨h0, h1, h2⟩ := hl
            have ev := rt_int (.of r1 : RtV B (Av G own) G.A0 H1 v (.d (.int j)))
            have hxl : xs.length = ds.length := r.len
            have hk := seqIx h0 (show j < (xs.length : Int) by rw [hxl]; exact h1)
            have hlt : j.toNat < xs.length := by omega
            obtain ⟨R2, g2⟩ := R1.chg (x := .l (ds.eraseIdx j.toNat)) (o := .lst (xs.eraseIdx j.toNat)) ho hs rfl ⟨_, upd_same, RpL.kp (kp_own ho hx1) (r'.erase j.toNat)⟩
            exact ⟨a, xs, j, j.toNat, xs[j.toNat], rfl, by rw [ev], hx1, by omega, by omega, hk, List.getElem?_eq_getElem hlt, q1 _ R2 ((Gone.of_stp k1).trans R1 g2)⟩
          · exact q1.elim
        | _ => exact q1.elim
    | _ => exact q.elim
theorem so_ins (c : Ctx X B) (i : Nat) (hp : PE X e (tBM X.K "list" rIns (tVar i) (tCons (tD B E fi) (tCons (tD B E f) tNil)))) (hs : swapsWith e none pos.line X.env = pure false := by rfl) : DSo X B E (.Expr e pos) (sIns i fi f) := by
  refine ps_imp (ps_expr hp hs) fun Dd σ H ⟨G, own, ρ, s, R, q⟩ => ?_
  unfold sIns at q
  cases z : ρ[i]? with
  | none => rw [z] at q; exact q.elim
  | some x =>
    rw [z] at q
    have p := R.sl i x z
    cases x with
    | l ds =>
      obtain ⟨a, ho, hs, xs, hx, r⟩ := p
      refine ⟨_, hs, ty_list hx, ?_⟩
      refine tD.run R _ q.bnd fun k s1 u H1 q1 k1 r1 R1 => ?_
      refine tD.run R1 _ q1.bnd fun y s2 v H2 q2 k2 r2 R2 => ?_
      have hd : a ∉ G.dks := fun w => (R.fre i a ho).2 (R.wf1 a w)
      have hx2 := k2.fr a _ (k1.fr a _ hx hd) hd
      have r' := RpL.kp (R1.kp k2) (RpL.kp (R.kp k1) r)
      cases k with
      | r _ => exact q2.elim
      | o _ _ => exact q2.elim
      | p _ => exact q2.elim
      | f _ => exact q2.elim
      | d kd =>
        cases y with
        | r _ => cases kd <;> exact q2.elim
        | o _ _ => cases kd <;> exact q2.elim
        | p _ => cases kd <;> exact q2.elim
        | f _ => cases kd <;> exact q2.elim
        | d d =>
          cases kd with
          | int j =>
            dsimp only at q2
            split at q2
            · rename_i hl
              obtain ⟨h0, h1, h2⟩ := hl
              have ev := rt_int (.of r1 : RtV B (Av G own) G.A0 H1 u (.d (.int j)))
              have hxl : xs.length = ds.length := r.len
              obtain ⟨R3, g3⟩ := R2.chg (x := .l (ds.take j.toNat ++ [d] ++ ds.drop j.toNat)) (o := .lst (xs.take j.toNat ++ [v] ++ xs.drop j.toNat)) ho hs rfl ⟨_, upd_same, RpL.kp (kp_own ho hx2) (((r'.take j.toNat).app (.cons r2 .nil)).app (r'.drop j.toNat))⟩
              exact ⟨a, xs, j, v, rfl, by rw [ev], hx2, by rw [sizeLine_eq]; omega, h0, by omega, q2 _ R3 ((Gone.of_stp (k1.trans k2)).trans R2 g3)⟩
            · exact q2.elim
          | _ => exact q2.elim
    | _ => exact q.elim
theorem so_swp (c : Ctx X B) (i : Nat) {x y e1 e2 : Expr} {kt k2 : Nat} {p1 p2 pt pt2 : Pos} (hx : PE X x (tVar i)) (hy : PE X y (tVar i)) (ha : DB X B E ea fa) (hb : DB X B E eb fb) (h : DV X B E [e1, e2] g)
    (ax : ∀ v, assign (.Subscript x ea p1) X.env v = (do
      let ov ← holding [v] (eval x X.env)
      let iv ← holding [v, ov] (eval ea X.env)
      standAt p1
      holding [v, ov, iv] (setItem ov iv v)
      release [v, ov, iv] []) := by intro _; rfl)
    (ay : ∀ v, assign (.Subscript y eb p2) X.env v = (do
      let ov ← holding [v] (eval y X.env)
      let iv ← holding [v, ov] (eval eb X.env)
      standAt p2
      holding [v, ov, iv] (setItem ov iv v)
      release [v, ov, iv] []) := by intro _; rfl)
    (c1 : (assignEach [.Subscript x ea p1, .Subscript y eb p2] X.env).map (·.2) = assign (.Subscript x ea p1) X.env :: (assignEach [.Subscript y eb p2] X.env).map (·.2) := by rfl)
    (c2 : (assignEach [.Subscript y eb p2] X.env).map (·.2) = assign (.Subscript y eb p2) X.env :: (assignEach ([] : List Expr) X.env).map (·.2) := by rfl)
    (hn : (assignEach [.Subscript x ea p1, .Subscript y eb p2] X.env).length = 2 := by rfl) (hst : (assignEach [.Subscript x ea p1, .Subscript y eb p2] X.env).findIdx? (·.1) = none := by rfl)
    (hs : swapsWithSole [.Tuple [.Subscript x ea p1, .Subscript y eb p2] kt pt] (.Tuple [e1, e2] k2 pt2) pos.line X.env = pure false := by rfl) (hw : swappedStores [.Tuple [.Subscript x ea p1, .Subscript y eb p2] kt pt] (.Tuple [e1, e2] k2 pt2) X.env = pure none := by rfl)
    (h1 : (assignEach [.Tuple [.Subscript x ea p1, .Subscript y eb p2] kt pt] X.env).map (·.2) = [assign (.Tuple [.Subscript x ea p1, .Subscript y eb p2] kt pt) X.env] := by rfl) :
    DSo X B E (.Assign [.Tuple [.Subscript x ea p1, .Subscript y eb p2] kt pt] (.Tuple [e1, e2] k2 pt2) pos) (sSwp i fa fb g) := by
  refine ps_imp (ps_asg (pe_tup h) (pg_tup c.calm (pgs_cons (pg_sub hx ha set_list ax) (pgs_cons (pg_sub hy hb set_list ay) pgs_nil c2) c1) hn hst) hs hw h1) fun Dd σ H ⟨G, own, ρ, s, R, q⟩ => ?_
  refine ⟨G, own, ρ, s, R, q.bnd.mono fun ys s1 q1 vs H1 k1 r1 => ?_⟩
  match ys, r1, q1 with
  | [.d d1, .d d2], .cons a1 (.cons a2 .nil), q1 =>
    rename_i v1 v2
    refine ⟨by show 2 ≤ sizeLine; rw [sizeLine_eq]; decide, fun p hp => ⟨p, _, rfl, SqT.of upd_same, rfl, v1, [v2], rfl, ?_⟩⟩
    have R1 := R.stp k1
    have k1' := k1.trans (R1.put (o := .tup [v1, v2]) hp)
    have R2 := R.stp k1'
    have sm := same_upd (o := .tup [v1, v2]) hp
    have a1' := Rp.kp (kp_same (A := Av G own) sm) a1
    have a2' := Rp.kp (kp_same (A := Av G own) sm) a2
    refine gs_mono (st_step (K := fun H' => _) R2 a1' (q1.bnd.mono fun ρ1 s2 q2 H2 R3 g3 kp3 => ?_)) fun σ' H' ⟨e, z⟩ => e ▸ z
    refine ⟨v2, [], rfl, ?_⟩
    refine gs_mono (st_step (K := fun H' => _) R3 (Rp.kp kp3 a2') (q2.bnd.mono fun ρ2 s3 q3 H3 R4 g4 kp4 => ?_)) fun σ' H' ⟨e, z⟩ => e ▸ z
    exact ⟨rfl, q3 _ R4 (((Gone.of_stp k1').trans R2 g3).trans R3 g4)⟩
end
section
variable {S : Type} [SI S]
/-- each item's own new list -/
def lcR (bt : Bt) (fr : Lx S) (ρ : Env) : List D → S → Out S (List D)
  | [], s => .ok [] s
  | d :: ds, s => match bt d ρ with
    | none => .bad
    | some ρ1 => match fr ρ1 s with
      | .ok zs s1 => (lcR bt fr ρ ds s1).bind fun r s2 => .ok (.list zs :: r) s2
      | _ => .bad
def lLr (it : Lx S) (bt : Bt) (fr : Lx S) (vs : List Nat) : Lx S := fun ρ s => (it ρ s).bind fun ds s1 => if ds.length ≤ sizeLine then lcR bt fr (wipeE vs ρ) ds s1 else .bad
/-- a new list of new lists -/
def tFr (B : Bs) (E : XK) (f : Lx S) : TE := fun σ H Q => ∃ G own ρ s, Rel B G own ρ s σ H ∧ (f ρ s).sat (fun ds s' => ∀ (p : Addr) (H' : Hp) (as : List Addr), Stp G s' H H' → H p = none → H' p = some (.lst (as.map V.ref)) → as.Nodup → (∀ a ∈ as, H a = none ∧ a ≠ p) → RpL B (fun a => Av G own a ∨ a = p) H' (as.map V.ref) ds → Q (.ref p) H') fun e s' => ExW B G E e s'
variable {X : Cx} {B : Bs} {E : XK} {tg iter elt : Expr} {it : Lx S} {bt : Bt} {fr : Lx S} {own : List (Str × Nat)} {scope : Scope} {pos : Pos}
theorem tLr_of {σ : Sg} {H : Hp} {Q : VK} (h : tFr B E (lLr it bt fr (own.map (·.2))) σ H Q) : tLc (tI B E true it) (tG S B bt (own.map (·.2))) (tT B E00 (xYes : Tx S)) (tF B E00 fr) (own.map (·.2)) σ H Q := by
  obtain ⟨G, ow, ρ, s, R, q⟩ := h
  refine ⟨G, ow, ρ, s, R, q.bnd.mono fun ds s1 q1 J H1 k1 ok => ?_⟩
  intro p hp
  have R1 := R.stp k1
  generalize hvs : own.map (·.2) = vs at q1 ⊢
  split at q1
  · rename_i hsz
    let G' : Gh := { H0 := fun _ => none, A0 := fun a => G.A0 a ∨ a = p, dks := G.dks }
    have npo : ∀ i, ow i ≠ some p := fun i z => by
      obtain ⟨o, e, _⟩ := R1.ont i p z
      rw [hp] at e; cases e
    have npd : p ∉ G.dks := fun z => by
      obtain ⟨o, e, _⟩ := R1.dkT z
      rw [hp] at e; cases e
    have av' : ∀ a, Av G' ow a ↔ Av G ow a ∨ a = p := fun a => ⟨fun z => z.elim (fun z => z.elim (fun z => .inl (.inl z)) .inr) fun z => .inl (.inr z), fun z => z.elim (fun z => z.elim (fun z => .inl (.inl z)) .inr) fun z => .inl (.inr z)⟩
    have RG : ∀ {s2 : S} {H2 : Hp}, (∀ a o, H1 a = some o → a ∉ G.dks → H2 a = some o) → H2 p ≠ none → SI.dks s2 = G.dks → SI.rep s2 H2 → Rel B G' ow (wipeE vs ρ) s2 (wipe σ vs) H2 := fun {s2 H2} k hpn hd hr => by
      have Rw := R1.wiped vs
      have stp : Stp G s2 H1 H2 := ⟨k, hd, hr⟩
      have Rz := Rw.stp stp
      have kp := Rw.kp stp
      refine ⟨fun a z => .inl (R.wf1 a z), fun a z => z.elim (Rz.wf2 a) (fun e => by rw [e]; exact hpn), (fun a o z => by cases z), hd, hr, R.inj, fun i a z => ⟨rfl, fun y => y.elim (R.fre i a z).2 fun e => npo i (by rw [← e]; exact z)⟩, Rz.ont, Rz.len, fun i x e => ?_⟩
      have qs := Rw.sl i x e
      have wkv : ∀ {v : V} {y : Val}, RvV B (Av G ow) H1 v y → RvV B (Av G' ow) H2 v y := fun {v y} h => ((h.grow hp).mono fun a z => (av' a).mp z).kp ⟨fun a xs h => kp.tup a xs h, fun a o h n => kp.all a o h fun z => n ((av' a).mpr (.inl z))⟩
      have wko : ∀ {a : Addr} {x : Sl}, (∀ o, H1 a = some o → H2 a = some o) → OwnAt B (Av G ow) H1 a x → OwnAt B (Av G' ow) H2 a x := fun {a x} ha h => ((h.grow hp).mono fun a z => (av' a).mp z).kp ⟨fun a xs h => kp.tup a xs h, fun a o h n => kp.all a o h fun z => n ((av' a).mpr (.inl z))⟩ ha
      have nd : ∀ a, ow i = some a → a ∉ G.dks := fun a ho z => (R.fre i a ho).2 (R.wf1 a z)
      cases x with
      | no => trivial
      | v y => obtain ⟨u, e, r⟩ := qs; exact ⟨u, e, wkv r⟩
      | l ds => obtain ⟨a, ho, hs, r⟩ := qs; exact ⟨a, ho, hs, wko (fun o h => k a o h (nd a ho)) r⟩
      | m ds => obtain ⟨a, ho, hs, r⟩ := qs; exact ⟨a, ho, hs, wko (fun o h => k a o h (nd a ho)) r⟩
      | g c a fs =>
        obtain ⟨gs, ho, hs, hg, r⟩ := qs
        refine ⟨gs, ho, hs, hg, ((r.grow hp).mono fun a z => (av' a).mp z).kp ⟨fun a xs h => kp.tup a xs h, fun a o h n => kp.all a o h fun z => n ((av' a).mpr (.inl z))⟩ fun l hl o e => k l o e fun z => ?_⟩
        obtain ⟨j, e'⟩ := gm_own ho hg l hl
        exact (R.fre j l e').2 (R.wf1 l z)
      | q _ _ => obtain ⟨a, ho, hs, r⟩ := qs; exact ⟨a, ho, hs, wko (fun o h => k a o h (nd a ho)) r⟩
    let Pend : List D → S → Prop := fun ds s' => ∀ (p : Addr) (H' : Hp) (as : List Addr), Stp G s' H H' → H p = none → H' p = some (.lst (as.map V.ref)) → as.Nodup → (∀ a ∈ as, H a = none ∧ a ≠ p) → RpL B (fun a => Av G ow a ∨ a = p) H' (as.map V.ref) ds → Q (.ref p) H'
    have hp0 : H p = none := Stp.none R1 k1 hp
    refine ⟨fun i m H2 => m = ds.length - i ∧ i ≤ ds.length ∧ ∃ (s2 : S) (as : List Addr) (da : List D), H2 p = some (.lst (as.map V.ref)) ∧ as.length ≤ i ∧ RpL B (Av G' ow) H2 (as.map V.ref) da ∧ (as.Nodup ∧ ∀ a ∈ as, H1 a = none ∧ a ≠ p ∧ H2 a ≠ none) ∧ (∀ a o, H1 a = some o → a ∉ G.dks → H2 a = some o) ∧ SI.dks s2 = G.dks ∧ SI.rep s2 H2 ∧
      (lcR bt fr (wipeE vs ρ) (ds.drop i) s2).sat (fun r s' => Pend (da ++ r) s') fun e s' => ExW B G E e s', ⟨ds.length, by simp, Nat.zero_le _, s1, [], [], upd_same, Nat.le_refl _, .nil, ⟨.nil, fun a h => by cases h⟩, fun a o h n => by rw [upd_ne (ne_of_none h hp)]; exact h, R1.dk, (R1.put hp).rs, by simpa using q1⟩, ?_⟩
    rintro i m H2 ⟨rfl, hi, s2, as, da, hacc, hal, racc, ⟨hnd, hfr⟩, keep, hd2, hr2, q2⟩
    have R2 := RG keep (by rw [hacc]; simp) hd2 hr2
    obtain ⟨go, stop⟩ := ok H2 fun a o h n => keep a o h fun z => n (.inl z)
    by_cases hlt : i < ds.length
    · obtain ⟨g1, gy⟩ := go i ds[i] (by simp [hlt])
      rw [List.drop_eq_getElem_cons hlt] at q2
      refine .inr ⟨g1, fun H' => ∃ (s2 : S) (as : List Addr) (da : List D), H' p = some (.lst (as.map V.ref)) ∧ as.length ≤ i + 1 ∧ RpL B (Av G' ow) H' (as.map V.ref) da ∧ (as.Nodup ∧ ∀ a ∈ as, H1 a = none ∧ a ≠ p ∧ H' a ≠ none) ∧ (∀ a o, H1 a = some o → a ∉ G.dks → H' a = some o) ∧ SI.dks s2 = G.dks ∧ SI.rep s2 H' ∧
        (lcR bt fr (wipeE vs ρ) (ds.drop (i + 1)) s2).sat (fun r s' => Pend (da ++ r) s') fun e s' => ExW B G E e s', fun H' h => ⟨ds.length - (i + 1), by omega, rfl, hlt, h⟩, fun x H3 hy => ?_⟩
      obtain ⟨sm, rp⟩ := gy x H3 hy
      have R3 := R2.stp (R2.same sm)
      unfold lcR at q2
      cases hz : bt ds[i] (wipeE vs ρ) with
      | none => simp only [hz] at q2; exact q2.elim
      | some ρ' =>
        simp only [hz] at q2
        refine ⟨G', ow, _, s2, _, ρ', R3, rp _ fun a z => ((av' a).mp z).elim .inl fun e => .inr (by rw [e]; exact hp), hz, fun σ4 R4 w4 => ⟨w4.trans (wipe_idem σ vs), ?_⟩⟩
        refine ⟨G', ow, ρ', s2, R4, ?_⟩
        show ∀ H5, Stp G' s2 _ H5 → _
        intro H5 k5
        have R5 := R4.stp k5
        have keep5 : ∀ a o, H1 a = some o → a ∉ G.dks → H5 a = some o := fun a o h n => k5.fr a o (sm a _ (keep a o h n)) n
        have hacc5 : H5 p = some (.lst (as.map V.ref)) := k5.fr p _ (sm p _ hacc) npd
        have kp5 : Kp (Av G' ow) H2 H5 := ⟨fun a u ht h => (R4.kp k5).tup a u ht (sm a _ h), fun a o h n => (R4.kp k5).all a o (sm a o h) n⟩
        have racc5 := RpL.kp kp5 racc
        have nd1 : ∀ {a : Addr}, H1 a = none → a ∉ G.dks := fun {a} e z => by
          obtain ⟨o, e2, _⟩ := R1.dkT z
          rw [e] at e2; cases e2
        have hfr5 : ∀ a ∈ as, H5 a ≠ none := fun a ha => by
          obtain ⟨h1, h2, h3⟩ := hfr a ha
          cases hz : H2 a with
          | none => exact absurd hz h3
          | some o => rw [k5.fr a o (sm a o hz) (nd1 h1)]; simp
        simp only [if_true]
        refine ⟨G', ow, ρ', s2, R5, ?_⟩
        cases hf : fr ρ' s2 with
        | bad => rw [hf] at q2; exact q2.elim
        | ex e s6 => rw [hf] at q2; exact q2.elim
        | ok zs s6 =>
          rw [hf] at q2
          intro p' H6 xs k6 hp5 hp6 rx
          have keep6 : ∀ a o, H1 a = some o → a ∉ G.dks → H6 a = some o := fun a o h n => k6.fr a o (keep5 a o h n) n
          have hacc6 : H6 p = some (.lst (as.map V.ref)) := k6.fr p _ hacc5 npd
          have racc6 := RpL.kp (R5.kp k6) racc5
          have hpp : p' ≠ p := fun e => by rw [e, hacc5] at hp5; cases hp5
          have hp1 : H1 p' = none := by
            cases hz : H1 p' with
            | none => rfl
            | some o =>
              by_cases hd : p' ∈ G.dks
              · obtain ⟨o', e', _⟩ := R5.dkT hd
                rw [hp5] at e'; cases e'
              · rw [keep5 p' o hz hd] at hp5; cases hp5
          have hnav : ¬ Av G' ow p' := fun z => by
            obtain ⟨o, e⟩ := R5.avT z
            rw [hp5] at e; cases e
          have kp : Kp (Av G' ow) H6 (upd H6 p (.lst (as.map V.ref ++ [.ref p']))) := by
            refine ⟨fun b ys ht h => ?_, fun b u h n => ?_⟩
            · rw [upd_ne]
              · exact h
              · rintro rfl; rw [hacc6] at h; cases h; cases ht
            · rw [upd_ne]
              · exact h
              · rintro rfl; exact n ((av' _).mpr (.inr rfl))
          refine ⟨as.map V.ref, hacc6, by rw [List.length_map]; omega, s6, as ++ [p'], da ++ [.list zs], by rw [List.map_append]; exact upd_same, by simp; omega, ?_, ⟨?_, fun a ha => ?_⟩, fun a o h n => ?_, k6.dk, ?_, ?_⟩
          · rw [List.map_append]
            have kp' := kp
            refine RpL.kp kp (racc6.app (.cons (.lst hp6 hnav (rx.mono fun a z => .inl z)) .nil))
          · refine List.nodup_append.mpr ⟨hnd, by simp, fun a ha b hb e => ?_⟩
            rw [List.mem_singleton.mp hb] at e
            exact hfr5 a ha (by rw [e]; exact hp5)
          · rcases List.mem_append.mp ha with ha | ha
            · obtain ⟨h1, h2, h3⟩ := hfr a ha
              refine ⟨h1, h2, ?_⟩
              rw [upd_ne h2]
              cases hz : H5 a with
              | none => exact absurd hz (hfr5 a ha)
              | some o => rw [k6.fr a o hz (nd1 h1)]; simp
            · rw [List.mem_singleton.mp ha]
              refine ⟨hp1, hpp, ?_⟩
              rw [upd_ne hpp, hp6]
              simp
          · rw [upd_ne (ne_of_none h hp)]; exact keep6 a o h n
          · refine SI.keep s6 H6 _ k6.rs (fun a h => ?_) fun b ys ht h => ?_
            · rw [upd_ne]
              rintro rfl
              exact npd (by rw [← k6.dk]; exact h)
            · rw [upd_ne]
              · exact h
              · rintro rfl; rw [hacc6] at h; cases h; cases ht
          · refine q2.bnd.mono fun r s7 q7 => ?_
            rw [List.append_assoc]
            exact q7
    · have e : i = ds.length := by omega
      subst e
      rw [List.drop_length] at q2
      refine .inl ⟨stop, ?_⟩
      have q3 : Pend (da ++ []) s2 := q2
      rw [List.append_nil] at q3
      refine q3 p H2 as ⟨fun a o h n => ?_, hd2, hr2⟩ hp0 hacc hnd (fun a ha => ⟨Stp.none R1 k1 (hfr a ha).1, (hfr a ha).2.1⟩) (racc.mono fun a z => (av' a).mpr z)
      exact keep a o (k1.fr a o h n) n
  · exact q1.elim
theorem ds_setLr (c : Ctx X B) (i : Nat) {y : Str} {py spos : Pos} (hi : DI X B E true tg iter it) (ok : BlkOk X.N X.env.scope scope own)
    (hg : ∀ (s : Shared) (H : Hp) (C : Addr) (cl : List (Str × Addr)) (fp : List Addr), DG S (X.blk s H scope (compEnvC scope cl C X.env) fp) B tg bt (own.map (·.2)))
    (ht : ∀ (s : Shared) (H : Hp) (C : Addr) (cl : List (Str × Addr)) (fp : List Addr), DTs (S := S) (X.blk s H scope (compEnvC scope cl C X.env) fp) B E00 [] xYes)
    (he : ∀ (s : Shared) (H : Hp) (C : Addr) (cl : List (Str × Addr)) (fp : List Addr), DF (X.blk s H scope (compEnvC scope cl C X.env) fp) B E00 elt fr)
    (hy : X.N[i]? = some y := by rfl) (hyl : X.env.scope.names.lookup y = some .local := by rfl)
    (hsw : swapsWith (.ListComp elt [⟨tg, iter, [], 0⟩] scope pos) (some (.Name y py)) spos.line X.env = pure true := by exact sw_true rfl rfl rfl (by decide +kernel)) (hs : ∀ x, foldedSetIterable iter X.env x = pure x := by intro _; rfl) :
    PS X (.Assign [.Name y py] (.ListComp elt [⟨tg, iter, [], 0⟩] scope pos) spos) (tAsg (tFr B E (lLr it bt fr (own.map (·.2)))) (gName i)) :=
  ps_imp (ps_setLc c.calm c.nd hy hyl hsw hi ok hg ht he hs) fun Dd σ H h => tLr_of h
end
end DL
namespace DL
open PySem PySem.Spec PySem.Calls PyProof.Rows L2
def allStr (ds : List D) : Bool := ds.all fun d => match d with
  | .str _ => true
  | _ => false
def rowD : D → Bool
  | .list ws => allStr ws
  | _ => false
theorem str_rpl {B : Bs} {A A' : Addr → Prop} {H H' : Hp} : ∀ {xs : List V} {ws : List D}, RpL B A H xs ws → allStr ws = true → RpL B A' H' xs ws
  | _, _, .nil, _ => .nil
  | _, _, .cons (d := d) h t, e => by
    unfold allStr at e
    rw [List.all_cons, Bool.and_eq_true] at e
    refine .cons ?_ (str_rpl t e.2)
    cases d with
    | str x => cases h; exact .str x
    | _ => cases e.1
theorem rp_row {B : Bs} {A : Addr → Prop} {H : Hp} {b : Addr} {d : D} (h : Rp B A H (.ref b) d) (hd : rowD d = true) : ∃ xs ws, d = .list ws ∧ allStr ws = true ∧ H b = some (.lst xs) ∧ RpL B A H xs ws := by
  cases d with
  | list ws =>
    cases h with
    | lst h n r => exact ⟨_, ws, rfl, hd, h, r⟩
  | _ => cases hd
theorem rows_keep {B : Bs} {A A0 : Addr → Prop} {H H' : Hp} : ∀ {as : List Addr} {ds : List D}, RpL B A H (as.map V.ref) ds → ds.all rowD = true → (∀ b ∈ as, ∀ o, H b = some o → H' b = some o) → (∀ b ∈ as, ¬ A0 b) → RpL B A0 H' (as.map V.ref) ds
  | [], _, .nil, _, _, _ => .nil
  | b :: as, d :: ds, .cons h t, e, k, n => by
    rw [List.all_cons, Bool.and_eq_true] at e
    obtain ⟨xs, ws, rfl, h1, h2, r⟩ := rp_row h e.1
    exact .cons (.lst (k b (.head _) _ h2) (n b (.head _)) (str_rpl r h1)) (rows_keep t e.2 (fun c hc => k c (.tail _ hc)) fun c hc => n c (.tail _ hc))
theorem rows_step {B : Bs} {A A0 : Addr → Prop} {H H' : Hp} {a : Addr} {ws' : List D} : ∀ {as : List Addr} {ds : List D} {k : Nat}, RpL B A H (as.map V.ref) ds → ds.all rowD = true → as[k]? = some a → as.Nodup → (∀ b ∈ as, b ≠ a → ∀ o, H b = some o → H' b = some o) → (∀ b ∈ as, ¬ A0 b) → Rp B A0 H' (.ref a) (.list ws') → RpL B A0 H' (as.map V.ref) (ds.set k (.list ws'))
  | [], _, _, .nil, _, e, _, _, _, _ => by simp at e
  | b :: as, d :: ds, 0, .cons h t, e, ek, nd, k, n, r => by
    rw [List.all_cons, Bool.and_eq_true] at e
    have eb : b = a := by simpa using ek
    subst eb
    exact .cons r (rows_keep t e.2 (fun c hc => k c (.tail _ hc) fun e => (List.nodup_cons.mp nd).1 (e ▸ hc)) fun c hc => n c (.tail _ hc))
  | b :: as, d :: ds, i + 1, .cons h t, e, ek, nd, k, n, r => by
    rw [List.all_cons, Bool.and_eq_true] at e
    have ek : as[i]? = some a := by simpa using ek
    have hb : b ≠ a := fun e => (List.nodup_cons.mp nd).1 (e ▸ List.mem_of_getElem? ek)
    obtain ⟨xs, ws, rfl, h1, h2, rr⟩ := rp_row h e.1
    exact .cons (.lst (k b (.head _) hb _ h2) (n b (.head _)) (str_rpl rr h1)) (rows_step t e.2 ek (List.nodup_cons.mp nd).2 (fun c hc => k c (.tail _ hc)) (fun c hc => n c (.tail _ hc)) r)
theorem atI_n1 {α : Type} (xs : List α) (n : Nat) : L2.atI xs (n : Int) = xs[n]? := by
  unfold L2.atI L2.ixN
  by_cases h : n < xs.length
  · rw [if_pos (by omega), if_pos (by omega)]
    simp
  · rw [if_pos (by omega), if_neg (by omega), List.getElem?_eq_none (by omega)]
    rfl
/-- what stays known where a row becomes one's own -/
def scl : Sl → Sl
  | .v (.r v) => .v (.r v)
  | .v (.d (.int i)) => .v (.d (.int i))
  | .v (.d (.str x)) => .v (.d (.str x))
  | _ => .no
structure Al (B : Bs) (G : Gh) (own : Own) (σ : Sg) (H : Hp) (iF iR k : Nat) (A : Addr) (as : List Addr) (ds : List D) : Prop where
  f : own iF = some A
  sf : σ[iF]? = some (some (.ref A))
  sr : ∃ a, as[k]? = some a ∧ σ[iR]? = some (some (.ref a))
  hA : H A = some (.lst (as.map V.ref))
  nd : as.Nodup
  fr : ∀ a ∈ as, G.H0 a = none ∧ ¬ Av G own a
  rp : RpL B (Av G own) H (as.map V.ref) ds
  tx : ds.all rowD = true
section
variable {S : Type} [SI S] {X : Cx} {B : Bs} {E : XK} {iF iR : Nat}
theorem Al.stp {G : Gh} {own : Own} {ρ : Env} {s s' : S} {σ : Sg} {H H' : Hp} {k : Nat} {A : Addr} {as : List Addr} {ds : List D} (R : Rel B G own ρ s σ H) (l : Al B G own σ H iF iR k A as ds) (st : Stp G s' H H') : Al B G own σ H' iF iR k A as ds :=
  ⟨l.f, l.sf, l.sr, st.fr A _ l.hA fun w => (R.fre iF A l.f).2 (R.wf1 A w), l.nd, l.fr, RpL.kp (R.kp st) l.rp, l.tx⟩
theorem Al.set {G : Gh} {own : Own} {σ : Sg} {H : Hp} {k : Nat} {A : Addr} {as : List Addr} {ds : List D} (l : Al B G own σ H iF iR k A as ds) {i : Nat} {v : Option V} (h1 : i ≠ iF) (h2 : i ≠ iR) : Al B G own (σ.set i v) H iF iR k A as ds :=
  ⟨l.f, by rw [List.getElem?_set_ne h1]; exact l.sf, by rw [List.getElem?_set_ne h2]; exact l.sr, l.hA, l.nd, l.fr, l.rp, l.tx⟩
/-- the row as one's own list -/
theorem Al.own {G : Gh} {own : Own} {ρ : Env} {s : S} {σ : Sg} {H : Hp} {k : Nat} {A a : Addr} {as : List Addr} {ds ws : List D} (R : Rel B G own ρ s σ H) (l : Al B G own σ H iF iR k A as ds) (hne : iF ≠ iR) (ha : as[k]? = some a) (hsr : σ[iR]? = some (some (.ref a))) {xs : List V} (hx : H a = some (.lst xs)) (hr : RpL B (Av G own) H xs ws) (hs : allStr ws = true) :
    Rel B G (fun i => if i = iF then none else if i = iR then some a else own i) ((ρ.map scl).set iR (.l ws)) s σ H := by
  have ham : a ∈ as := List.mem_of_getElem? ha
  obtain ⟨f1, f2⟩ := l.fr a ham
  have hno : ∀ i, own i ≠ some a := fun i e => f2 (.inr ⟨i, e⟩)
  have cs : ∀ {i : Nat} {x : Addr}, (if i = iF then none else if i = iR then some a else own i) = some x → (i = iR ∧ x = a) ∨ (i ≠ iR ∧ own i = some x) := fun {i x} e => by
    by_cases h1 : i = iF
    · rw [if_pos h1] at e; cases e
    · rw [if_neg h1] at e
      by_cases h2 : i = iR
      · rw [if_pos h2] at e; exact .inl ⟨h2, (Option.some.inj e).symm⟩
      · rw [if_neg h2] at e; exact .inr ⟨h2, e⟩
  refine ⟨R.wf1, R.wf2, R.fr, R.dk, R.rs, fun i j x e1 e2 => ?_, fun i x e => ?_, fun i x e => ?_, by simp [R.len], fun i x e => ?_⟩
  · rcases cs e1 with ⟨i1, x1⟩ | ⟨n1, f1'⟩
    · rcases cs e2 with ⟨i2, _⟩ | ⟨_, f2'⟩
      · rw [i1, i2]
      · rw [x1] at f2'; exact absurd f2' (hno j)
    · rcases cs e2 with ⟨_, x2⟩ | ⟨_, f2'⟩
      · rw [x2] at f1'; exact absurd f1' (hno i)
      · exact R.inj i j x f1' f2'
  · rcases cs e with ⟨_, rfl⟩ | ⟨_, e⟩
    · exact ⟨f1, fun z => f2 (.inl z)⟩
    · exact R.fre i x e
  · rcases cs e with ⟨_, rfl⟩ | ⟨_, e⟩
    · exact ⟨_, hx, rfl⟩
    · exact R.ont i x e
  · by_cases hi : i = iR
    · subst hi
      have hl : i < ρ.length := by
        have := (List.getElem?_eq_some_iff.mp hsr).1
        rw [R.len]; exact this
      rw [List.getElem?_set_self (by simpa using hl)] at e
      cases e
      exact ⟨a, by dsimp only; rw [if_neg (fun e => hne e.symm), if_pos rfl], hsr, xs, hx, str_rpl hr hs⟩
    · rw [List.getElem?_set_ne (fun e => hi e.symm), List.getElem?_map] at e
      obtain ⟨y, ey, rfl⟩ := Option.map_eq_some_iff.mp e
      have q := R.sl i y ey
      unfold scl
      split
      · obtain ⟨u, e, r⟩ := q
        exact ⟨u, e, r⟩
      · obtain ⟨u, e, r⟩ := q
        refine ⟨u, e, ?_⟩
        cases r
        exact .int _
      · obtain ⟨u, e, r⟩ := q
        refine ⟨u, e, ?_⟩
        cases r
        exact .str _
      · trivial
abbrev Ax (S : Type) := Nat → List D → Env → S → Out S (List D)
/-- statements after which the list stands as told, to be returned -/
def ABr (X : Cx) (B : Bs) (E : XK) (iF iR : Nat) (st : Stmt) (a : Ax S) : Prop := ∃ t, PS X st t ∧ ∀ (Dd : Ends) (Q : VK) (G : Gh) (own : Own) (ρ : Env) (s : S) (σ : Sg) (H : Hp) (k : Nat) (A : Addr) (as : List Addr) (ds : List D),
  (∀ σ' H', tVar iF σ' H' Q → Dd.nx σ' H') → Rel B G own ρ s σ H → Al B G own σ H iF iR k A as ds →
  (a k ds ρ s).sat (fun ds' s' => ∀ v H', FrG G s' H' → RvV B G.A0 H' v (.d (.list ds')) → Q v H') (fun e s' => ExW B G E e s') → t Dd σ H
def aIf (c : Tx S) (a b : Ax S) : Ax S := fun k ds ρ s => (c ρ s).bind fun z s1 => if z then a k ds ρ s1 else b k ds ρ s1
theorem a_if {c : Expr} {fc : Tx S} {s1 s2 : Stmt} {a b : Ax S} {pos : Pos} (hc : DT X B E c fc) (ha : ABr X B E iF iR s1 a) (hb : ABr X B E iF iR s2 b) : ABr X B E iF iR (.If c [s1] [s2] pos) (aIf fc a b) := by
  obtain ⟨t1, p1, r1⟩ := ha
  obtain ⟨t2, p2, r2⟩ := hb
  refine ⟨_, ps_if hc (pss_one p1) (pss_one p2), fun Dd Q G own ρ s σ H k A as ds hnx R l q => ?_⟩
  refine tT.run R _ q.bnd fun z s' H' q1 k1 R1 => ?_
  cases z with
  | true =>
    simp only [if_true] at q1 ⊢
    exact r1 Dd Q G own ρ s' σ H' k A as ds hnx R1 (l.stp R k1) q1
  | false =>
    simp only [Bool.false_eq_true, if_false] at q1 ⊢
    exact r2 Dd Q G own ρ s' σ H' k A as ds hnx R1 (l.stp R k1) q1
def aRow (iR : Nat) (g : Sx S) : Ax S := fun k ds ρ s => match ds[k]? with
  | some (.list ws) => (g ((ρ.map scl).set iR (.l ws)) s).bind fun fl s' => (match fl with
    | .nx ρ' => (match ρ'[iR]? with
      | some (.l ws') => if allStr ws' then .ok (ds.set k (.list ws')) s' else .bad
      | _ => .bad)
    | _ => .bad)
  | _ => .bad
theorem a_row {st : Stmt} {g : Sx S} (hne : iF ≠ iR) (h : DSo X B E st g) : ABr X B E iF iR st (aRow iR g) := by
  refine ⟨_, h, fun Dd Q G own ρ s σ H k A as ds hnx R l q => ?_⟩
  obtain ⟨a, ha, hsr⟩ := l.sr
  have ham : a ∈ as := List.mem_of_getElem? ha
  unfold aRow at q
  cases hk : ds[k]? with
  | none => rw [hk] at q; exact q.elim
  | some d =>
    rw [hk] at q
    obtain ⟨v, hv, rv⟩ := l.rp.get' hk
    rw [List.getElem?_map, ha] at hv
    cases hv
    obtain ⟨xs, ws, rfl, hs, hx, rx⟩ := rp_row rv (List.all_eq_true.mp l.tx d (List.mem_of_getElem? hk))
    have R2 := l.own R hne ha hsr hx rx hs
    refine ⟨G, _, _, s, R2, q.bnd.mono fun fl s' q1 => ?_⟩
    cases fl with
    | nx ρ' =>
      intro H' R3 g3
      dsimp only at q1
      cases hz : ρ'[iR]? with
      | none => rw [hz] at q1; exact q1.elim
      | some x =>
        rw [hz] at q1
        have p := R3.sl iR x hz
        cases x with
        | l ws' =>
          dsimp only at q1
          split at q1
          · rename_i hs'
            obtain ⟨a', ho, hs2, xs', hx', rx'⟩ := p
            have ea : a' = a := by
              dsimp only at ho
              rw [if_neg (fun e => hne e.symm), if_pos rfl] at ho
              exact (Option.some.inj ho).symm
            subst ea
            have nod : ∀ b, (b = A ∨ b ∈ as) → b ∉ G.dks := fun b hb w => by
              rcases hb with rfl | hb
              · exact (R.fre iF b l.f).2 (R.wf1 b w)
              · exact (l.fr b hb).2 (.inl (R.wf1 b w))
            have nown : ∀ b, (b = A ∨ b ∈ as) → b ≠ a' → ∀ i, (if i = iF then none else if i = iR then some a' else own i) ≠ some b := fun b hb hne' i e => by
              by_cases h1 : i = iF
              · rw [if_pos h1] at e; cases e
              · rw [if_neg h1] at e
                by_cases h2 : i = iR
                · rw [if_pos h2] at e; exact hne' (Option.some.inj e).symm
                · rw [if_neg h2] at e
                  rcases hb with rfl | hb
                  · exact h1 (R.inj i iF b e l.f)
                  · exact (l.fr b hb).2 (.inr ⟨i, e⟩)
            have hAa : A ≠ a' := fun e => (l.fr a' ham).2 (.inr ⟨iF, by rw [← e]; exact l.f⟩)
            have hA' := g3.keep A _ l.hA (nod A (.inl rfl)) (nown A (.inl rfl) hAa)
            refine hnx σ H' ⟨_, l.sf, q1 (.ref A) H' ⟨R3.fr, R3.dk, R3.rs⟩ ?_⟩
            refine .lst hA' (R.fre iF A l.f).2 ?_
            exact rows_step l.rp l.tx ha l.nd (fun b hb hba o ho => g3.keep b o ho (nod b (.inr hb)) (nown b (.inr hb) hba)) (fun b hb z => (l.fr b hb).2 (.inl z)) (.lst hx' (fun z => (l.fr a' ham).2 (.inl z)) (str_rpl rx' hs'))
          · exact q1.elim
        | _ => exact q1.elim
    | _ => exact q1.elim
def aFnd (iF : Nat) (g : Sx S) : Ax S := fun k ds ρ s => (g ρ s).bind fun fl s' => (match fl with
  | .nx ρ' => (match ρ'[iF]? with
    | some (.l ds') => .ok ds' s'
    | _ => .bad)
  | _ => .bad)
theorem a_fnd {st : Stmt} {g : Sx S} (h : DS X B E st g) : ABr X B E iF iR st (aFnd iF g) := by
  refine ⟨_, h, fun Dd Q G own ρ s σ H k A as ds hnx R l q => ?_⟩
  refine ⟨G, own, ρ, s, R, q.bnd.mono fun fl s' q1 => ?_⟩
  cases fl with
  | nx ρ' =>
    intro own' σ' H' R3 g3
    dsimp only at q1
    cases hz : ρ'[iF]? with
    | none => rw [hz] at q1; exact q1.elim
    | some x =>
      rw [hz] at q1
      have p := R3.sl iF x hz
      cases x with
      | l ds' =>
        obtain ⟨a', ho, hs2, xs', hx', rx'⟩ := p
        refine hnx σ' H' ⟨_, hs2, q1 (.ref a') H' ⟨R3.fr, R3.dk, R3.rs⟩ ?_⟩
        exact .lst hx' (R3.fre iF a' ho).2 (rx'.mono fun a z => .inl z)
      | _ => exact q1.elim
  | _ => exact q1.elim
/-- found = [list(x) for x in rows]; place = ..; row = found[place]; spot, sort = ..; odd = ..; then the branches; return found -/
def sRows (iF iP iR iS iT iO : Nat) (l1 : Lx S) (f2 : Ex S) (g4 : Exs S) (f5 : Ex S) (a : Ax S) : Sx S := fun ρ s => (l1 ρ s).bind fun ds s1 => if ds.all rowD = true ∧ iF < ρ.length ∧ iP < ρ.length ∧ iR < ρ.length then
    (f2 (ρ.set iF (.l ds)) s1).bind fun y s2 => (match y with
      | .d (.int pl) => if 0 ≤ pl then (match ds[pl.toNat]? with
        | some dk => (g4 (((ρ.set iF (.l ds)).set iP (.v (.d (.int pl)))).set iR (.v (.d dk))) s2).bind fun ys s3 => (match ys with
          | [y1, y2] => (f5 (((((ρ.set iF (.l ds)).set iP (.v (.d (.int pl)))).set iR (.v (.d dk))).set iS (.v y1)).set iT (.v y2)) s3).bind fun y5 s4 =>
            (a pl.toNat ds ((((((ρ.set iF (.l ds)).set iP (.v (.d (.int pl)))).set iR (.v (.d dk))).set iS (.v y1)).set iT (.v y2)).set iO (.v y5)) s4).bind fun ds' s5 => .ok (.rt (.d (.list ds'))) s5
          | _ => .bad)
        | none => .bad) else .bad
      | _ => .bad)
  else .bad
theorem ds_rows (c : Ctx X B) {iP iS iT iO : Nat} {e2 e5 eF eP eF' ea eb : Expr} {xP xR xS xT xO : Str} {p2 p3 p5 q2 q3 q4 q5 q6 q7 q8 ps pt : Pos} {kt k2 : Nat} {pt2 : Pos} {st6 : Stmt} {l1 : Lx S} {f2 f5 : Ex S} {g4 : Exs S} {a : Ax S}
    (hij : iF ≠ iP ∧ iF ≠ iR ∧ iF ≠ iS ∧ iF ≠ iT ∧ iF ≠ iO ∧ iR ≠ iP ∧ iR ≠ iS ∧ iR ≠ iT ∧ iR ≠ iO) (hST : iS ≠ iT)
    {st1 : Stmt} (h1 : PS X st1 (tAsg (tFr B E l1) (gName iF))) (h2 : DE X B E e2 f2) (hF : PE X eF (tVar iF)) (hP : PE X eP (tVar iP)) (hpl : PlainIx eP) (h4 : DV X B E [ea, eb] g4) (h5 : DE X B E e5 f5) (h6 : ABr X B E iF iR st6 a) (h7 : PE X eF' (tVar iF))
    (n2 : X.N[iP]? = some xP) (n3 : X.N[iR]? = some xR) (n4 : X.N[iS]? = some xS) (n5 : X.N[iT]? = some xT) (n6 : X.N[iO]? = some xO)
    (v2 : X.env.scope.names.lookup xP = some .local) (v3 : X.env.scope.names.lookup xR = some .local) (v4 : X.env.scope.names.lookup xS = some .local) (v5 : X.env.scope.names.lookup xT = some .local) (v6 : X.env.scope.names.lookup xO = some .local)
    (w2 : swapsWith e2 (some (.Name xP p2)) q2.line X.env = pure false) (w3 : swapsWith (.Subscript eF eP q7) (some (.Name xR p3)) q3.line X.env = pure false) (w5 : swapsWith e5 (some (.Name xO p5)) q5.line X.env = pure false)
    (w4 : swappedStores [.Tuple [.Name xS ps, .Name xT pt] kt q8] (.Tuple [ea, eb] k2 pt2) X.env = pure (some [xS, xT])) (w4' : swapsWithSole [.Tuple [.Name xS ps, .Name xT pt] kt q8] (.Tuple [ea, eb] k2 pt2) q4.line X.env = pure false) :
    DSs X B E [st1, .Assign [.Name xP p2] e2 q2, .Assign [.Name xR p3] (.Subscript eF eP q7) q3, .Assign [.Tuple [.Name xS ps, .Name xT pt] kt q8] (.Tuple [ea, eb] k2 pt2) q4, .Assign [.Name xO p5] e5 q5, st6, .Return (some eF') q6] (sRows iF iP iR iS iT iO l1 f2 g4 f5 a) := by
  obtain ⟨t6, h6, r6⟩ := h6
  obtain ⟨j1, j2, j3, j4, j5, j6, j7, j8, j9⟩ := hij
  refine pss_imp (pss_cons h1 (pss_cons (ps_set c.nd n2 (.inl v2) h2 w2 (.inr v2)) (pss_cons (ps_set c.nd n3 (.inl v3) (pe_ix ix_list hF hP hpl) w3 (.inr v3)) (pss_cons (ps_par c.calm c.nd n4 n5 hST v4 v5 h4 w4 w4') (pss_cons (ps_set c.nd n6 (.inl v6) h5 w5 (.inr v6)) (pss_cons h6 (pss_one (ps_ret h7)))))))) fun Dd σ H ⟨G, own, ρ, s, R, q⟩ => ?_
  unfold sRows at q
  refine ⟨G, own, ρ, s, R, q.bnd.mono fun ds s1 z1 p H1 as k1 hp hp1 nd fr rp => ?_⟩
  split at z1
  · rename_i hc
    obtain ⟨htx, hlF, hlP, hlR⟩ := hc
    rw [R.len] at hlF hlP hlR
    obtain ⟨R1, g1⟩ := R.mine0 (i := iF) (x := .l ds) hlF hp k1 ⟨_, hp1, rp⟩
    have av : ∀ b, Av G (fun j => if j = iF then some p else own j) b → Av G own b ∨ b = p := fun b h => by
      rcases h with h | ⟨j, h⟩
      · exact .inl (.inl h)
      · dsimp only at h
        by_cases hj : j = iF
        · rw [if_pos hj] at h; exact .inr (Option.some.inj h).symm
        · rw [if_neg hj] at h; exact .inl (.inr ⟨j, h⟩)
    have fr1 : ∀ b ∈ as, G.H0 b = none ∧ ¬ Av G (fun j => if j = iF then some p else own j) b := fun b hb => by
      obtain ⟨f1, f2⟩ := fr b hb
      refine ⟨?_, fun h => ?_⟩
      · cases z : G.H0 b with
        | none => rfl
        | some o =>
          by_cases hd : b ∈ G.dks
          · obtain ⟨o', e, _⟩ := R.dkT hd
            rw [f1] at e; cases e
          · have := R.fr b o z hd
            rw [f1] at this; cases this
      · rcases av b h with h | h
        · obtain ⟨o, e⟩ := R.avT h
          rw [f1] at e; cases e
        · exact f2 h
    have rp1 : RpL B (Av G (fun j => if j = iF then some p else own j)) H1 (as.map V.ref) ds := rp.mono fun b h => av b h
    generalize ho1 : (fun j => if j = iF then some p else own j : Own) = own1 at *
    have hoF : own1 iF = some p := by rw [← ho1]; exact if_pos rfl
    refine tD.run R1 _ z1.bnd fun y s2 v H2 z2 k2 r2 R2 => ?_
    cases y with
    | r _ => exact z2.elim
    | o _ _ => exact z2.elim
    | p _ => exact z2.elim
    | f _ => exact z2.elim
    | d d =>
      cases d with
      | int pl =>
        dsimp only at z2
        split at z2
        · rename_i h0
          have ev := rt_int (.of r2 : RtV B (Av G own1) G.A0 H2 v (.d (.int pl)))
          subst ev
          cases hk : ds[pl.toNat]? with
          | none => rw [hk] at z2; exact z2.elim
          | some dk =>
            rw [hk] at z2
            have hp2 : H2 p = some (.lst (as.map V.ref)) := k2.fr p _ hp1 fun w => (R1.fre iF p hoF).2 (R1.wf1 p w)
            have rp2 := RpL.kp (R1.kp k2) rp1
            obtain ⟨x, hx, rx⟩ := rp2.get' hk
            rw [List.getElem?_map] at hx
            obtain ⟨b, hb, rfl⟩ := Option.map_eq_some_iff.mp hx
            have Ra := R2.set (i := iP) r2
            have Rb := Ra.set (i := iR) (y := .d dk) rx
            have al : Al B G own1 ((((σ.set iF (some (.ref p))).set iP (some (.int pl))).set iR (some (.ref b)))) H2 iF iR pl.toNat p as ds := by
              refine ⟨hoF, ?_, ⟨b, hb, ?_⟩, hp2, nd, fr1, rp2, htx⟩
              · rw [List.getElem?_set_ne (Ne.symm j2), List.getElem?_set_ne (Ne.symm j1), List.getElem?_set_self hlF]
              · rw [List.getElem?_set_self (by simpa using hlR)]
            refine ⟨.ref p, by rw [List.getElem?_set_ne (Ne.symm j1), List.getElem?_set_self hlF], .int pl, by rw [List.getElem?_set_self (by simpa using hlP)], p, as.map V.ref, pl, .ref b, rfl, rfl, SqL.of hp2, ?_, ?_⟩
            · obtain ⟨n, rfl⟩ := Int.eq_ofNat_of_zero_le h0
              rw [atI_n1, List.getElem?_map, show as[n]? = some b from hb]
              rfl
            refine ⟨G, own1, _, s2, Rb, z2.bnd.mono fun ys s3 z3 vs H3 k3 r3 => ?_⟩
            match ys, vs, r3, z3 with
            | [y1, y2], _, .cons (v := u1) b1 (.cons (v := u2) b2 .nil), z3 =>
              have Rc := ((Rb.stp k3).set (i := iS) b1).set (i := iT) b2
              have al3 := ((al.stp Rb k3).set (i := iS) (v := some u1) (Ne.symm j3) (Ne.symm j7)).set (i := iT) (v := some u2) (Ne.symm j4) (Ne.symm j8)
              refine ⟨u1, u2, rfl, ?_⟩
              refine tD.run Rc _ z3.bnd fun y5 s4 u5 H4 z4 k4 r4 R4 => ?_
              have Rd := R4.set (i := iO) r4
              have al4 := (al3.stp Rc k4).set (i := iO) (v := some u5) (Ne.symm j5) (Ne.symm j9)
              exact r6 _ Dd.rt G own1 _ s4 _ H4 _ p as ds (fun σ' H' h => h) Rd al4 (z4.bnd.mono fun ds' s5 z5 => fun v H' f r => z5 v H' f r)
        · exact z2.elim
      | _ => exact z2.elim
  · exact z1.elim
end
end DL
namespace DL
open PySem PySem.Spec PySem.Calls PyProof.Rows L2
def repS (x : Str) (k : Int) : Str := ⟨(List.replicate k.toNat x.cps).foldl (· ++ ·) #[]⟩
theorem rep_size {α : Type} (a : Array α) : ∀ (n : Nat) (acc : Array α), ((List.replicate n a).foldl (· ++ ·) acc).size = acc.size + n * a.size
  | 0, acc => by simp
  | n + 1, acc => by
    rw [List.replicate_succ, List.foldl_cons, rep_size a n, Array.size_append, Nat.add_mul]
    omega
theorem repS_len (z : Str) (k : Int) : (repS z k).length = k.toNat * z.length := by
  show ((List.replicate k.toNat z.cps).foldl (· ++ ·) #[]).size = _
  rw [rep_size]
  simp
  rfl
def mulSok (z : Str) (k : Int) : Bool := decide (2 ≤ k ∧ k ≤ 10000 ∧ 0 < z.length ∧ z.length ≤ 1000)
def rMulS : R2 := fun x y H Q => ∃ z k, x = .str z ∧ y = .int k ∧ mulSok z k = true ∧ Q (.str (repS z k)) H
theorem op_mulS {X : Cx} : OpR X (binaryOp .Mult) rMulS := by
  intro pins s σ H x y v u Q I rx ry h
  obtain ⟨z, k, rfl, rfl, hk, q⟩ := h
  obtain ⟨h1, h2, h3, h4⟩ := of_decide_eq_true hk
  obtain ⟨t, rfl⟩ := rx
  obtain ⟨t', rfl⟩ := ry
  have e1 : (k == 1 || z.length == 0) = false := by
    rw [Bool.or_eq_false_iff]
    exact ⟨beq_eq_false_iff_ne.mpr (by omega), beq_eq_false_iff_ne.mpr (by omega)⟩
  have hm : z.length * k.toNat ≤ 1000 * 10000 := Nat.mul_le_mul h4 (by omega)
  have ht : Builtin.Str.tooLong (z.length * k.toNat) = false := by
    unfold Builtin.Str.tooLong
    have sz := sizeLine_eq
    simp
    omega
  refine P.mul_str (by rw [decide_eq_false (by omega), decide_eq_false (by omega)]; rfl) (fun _ _ => ?_) (fun _ _ => ht) ?_
  · intro hh
    have h5 : (z.length : Int) ≤ (2 ^ 63 - 1) / k := by
      refine (Int.le_ediv_iff_mul_le (by omega)).mpr ?_
      have h6 : (z.length : Int) * k ≤ 1000 * 10000 := Int.mul_le_mul (by omega) h2 (by omega) (by decide)
      omega
    omega
  · rw [if_neg (by omega), e1]
    simp only [Bool.false_eq_true, if_false]
    exact ⟨by show (repS z k).length ≤ sizeLine; rw [repS_len, Nat.mul_comm]; have sz := sizeLine_eq; omega, ⟨.str _, H, I.tok _, ⟨_, rfl⟩, q⟩⟩
def opMulS : D → D → Option D
  | .str z, .int k => if mulSok z k = true then some (.str (repS z k)) else none
  | _, _ => none
theorem od_mulS {B : Bs} : OpD B rMulS opMulS := by
  intro A N H x y p q z Q fr hz hx hy k
  unfold opMulS at hz
  split at hz
  · split at hz
    · rename_i h
      cases hz
      exact ⟨_, _, rt_str hx, rt_int hy, h, k _ H (Same.refl H) (.str _)⟩
    · cases hz
  · cases hz
section
variable {S : Type} [SI S] {X : Cx} {B : Bs} {E : XK} {a b : Expr} {fa fb : Ex S} {pos : Pos}
theorem de_mulS (ha : DB X B E a fa) (hb : DB X B E b fb) : DE X B E (.BinOp a .Mult b pos) (eBin opMulS fa fb) := de_bin od_mulS (pe_op op_mulS ha hb)
end
end DL
namespace DL
open PySem PySem.Spec PyProof.Rows L2
variable {S : Type} [SI S]
def signD (c : Nat) : D := .str ⟨#[c]⟩
section
variable {X : Cx} {B : Bs} {E : XK} {e a b c tg : Expr} {f fa fb : Ex S} {g : Exs S} {pos p apos : Pos}
def iTxt (f : Ex S) : Lx S := fun ρ s => (f ρ s).bind fun y s1 => match y with
  | .d (.str z) => .ok (z.cps.toList.map signD) s1
  | _ => .bad
theorem it_txt {G : Gh} {own : Own} {ρ : Env} {s : S} {σ : Sg} {H1 : Hp} (R : Rel B G own ρ s σ H1) {cmp : Bool} {x : Str} : ItOk B (Av G own) (Chg G own cmp) (Its x) (x.cps.toList.map signD) H1 := by
  intro H2 k
  refine ⟨fun i d e => ?_, by show x.cps.size ≤ _; simp⟩
  rw [List.getElem?_map, Array.getElem?_toList] at e
  obtain ⟨c, hc, rfl⟩ := Option.map_eq_some_iff.mp e
  refine ⟨?_, ?_⟩
  · show i < x.cps.size
    by_cases hi : i < x.cps.size
    · exact hi
    · rw [Array.getElem?_eq_none (by omega)] at hc; cases hc
  · rintro y H3 ⟨rfl, c', hc', rfl⟩
    rw [hc] at hc'
    cases hc'
    exact ⟨Same.refl _, fun _ _ => .str _⟩
theorem di_txt {cmp : Bool} (h : DE X B E e f) : DI X B E cmp tg e (iTxt f) := by
  refine pi_imp (pi_str h) fun σ H R' ⟨G, own, ρ, s, R, q⟩ => ?_
  refine tD.run R _ q.bnd fun y s1 v H1 q1 k1 r1 R1 => ?_
  cases y with
  | r _ => exact q1.elim
  | o _ _ => exact q1.elim
  | p _ => exact q1.elim
  | f _ => exact q1.elim
  | d d =>
    cases d with
    | str z =>
      cases r1
      exact ⟨z, rfl, q1 _ H1 k1 (it_txt R1)⟩
    | _ => exact q1.elim
def opTSl : D → Option Int → Option Int → Option D
  | .str z, lo, hi => if z.length ≤ sizeLine then some (.str (cutS z lo hi)) else none
  | _, _, _ => none
def eTSl (fa : Ex S) (fl fh : Ox S) : Ex S := fun ρ s => (fa ρ s).bind fun x s1 => (fl ρ s1).bind fun l s2 => (fh ρ s2).bind fun h s3 => match x with
  | .d p => (match opTSl p l h with
    | some d => .ok (.d d) s3
    | none => .bad)
  | _ => .bad
theorem de_tsl {lo hi : Option Expr} {p2 : Pos} {fl fh : Ox S} (ha : DB X B E a fa) (hl : DO X B E lo fl) (hh : DO X B E hi fh) : DE X B E (.Subscript a (.Slice lo hi none p2) pos) (eTSl fa fl fh) := by
  refine pe_imp (pe_slice sl_str ha hl hh) fun σ H Q ⟨G, own, ρ, s, R, q⟩ => ?_
  refine tB.run R _ q.bnd fun y s1 v H1 q1 k1 r1 R1 => ?_
  refine ⟨G, own, ρ, s1, R1, q1.bnd.mono fun l s2 q2 H2 k2 => ?_⟩
  have R2 := R1.stp k2
  refine ⟨G, own, ρ, s2, R2, q2.bnd.mono fun h s3 q3 H3 k3 => ?_⟩
  have R3 := R2.stp k3
  have r3 := (r1.kp R1 k2).kp R2 k3
  have k13 := (k1.trans k2).trans k3
  cases y with
  | r _ => exact q3.elim
  | o _ _ => exact q3.elim
  | p _ => exact q3.elim
  | f _ => exact q3.elim
  | d p =>
    cases p with
    | str z =>
      unfold opTSl at q3
      dsimp only at q3
      by_cases hz : z.length ≤ sizeLine
      · rw [if_pos hz] at q3
        exact ⟨z, rt_str r3, hz, q3 _ H3 k13 (.str _)⟩
      · rw [if_neg hz] at q3
        exact q3.elim
    | _ => exact q3.elim
def oIntT : List D → Option D
  | [.str a] => if a.length ≤ 640 then (PySem.intText? a).map .int else none
  | _ => none
theorem cl_intT : CallD B (fun xs H Q => ∃ a n, xs = [.str a] ∧ PySem.intText? a = some n ∧ a.length ≤ 640 ∧ Q (.int n) H) oIntT := by
  intro A N H vs ds z Q fr hz hv k
  unfold oIntT at hz
  split at hz
  · split at hz
    · rename_i hl
      obtain ⟨n, hn, rfl⟩ := Option.map_eq_some_iff.mp hz
      obtain ⟨v, rfl, r⟩ := rtl1 hv
      exact ⟨_, n, by rw [rt_str r], hn, hl, k _ H (Same.refl H) (.int _)⟩
    · cases hz
  · cases hz
def strsD : List D → Option (List Str)
  | [] => some []
  | .str x :: ds => (strsD ds).map (x :: ·)
  | _ :: _ => none
theorem strsD_rep {A : Addr → Prop} {H : Hp} : ∀ {xs : List V} {ds : List D} {ys : List Str}, RpL B A H xs ds → strsD ds = some ys → xs = ys.map V.str
  | _, _, _, .nil, h => by cases h; rfl
  | _, _, _, .cons a t, h => by
    cases a with
    | str x =>
      obtain ⟨zs, hz, rfl⟩ := Option.map_eq_some_iff.mp h
      rw [strsD_rep t hz]; rfl
    | _ => cases h
theorem rep_strs {A : Addr → Prop} {H : Hp} : ∀ {ys : List Str}, RpL B A H (ys.map V.str) (ys.map .str)
  | [] => .nil
  | _ :: _ => .cons (.str _) rep_strs
def joinOk (a : Str) (ys : List Str) : Bool := decide ((ys.map (·.length)).sum + ys.length * a.length ≤ 16777216)
def opJoin : D → D → Option D
  | .str a, .list ds => (match strsD ds with
    | some ys => if joinOk a ys then some (.str (Txt.join a ys)) else none
    | none => none)
  | .str a, .tuple ds => (match strsD ds with
    | some ys => if joinOk a ys then some (.str (Txt.join a ys)) else none
    | none => none)
  | _, _ => none
def opSplit : D → D → Option D
  | .str a, .str b => if (b.length == 0) = false ∧ a.length + 2 ≤ sizeLine then some (.list ((Txt.split a b).map .str)) else none
  | _, _ => none
/-- a text's method with one argument -/
def eM1 (op : D → D → Option D) (fa fb : Ex S) : Ex S := fun ρ s => (fa ρ s).bind fun x s1 => match x with
  | .d (.str a) => (fb ρ s1).bind fun y s2 => (match y with
    | .d d => (match op (.str a) d with
      | some z => .ok (.d z) s2
      | none => .bad)
    | _ => .bad)
  | _ => .bad
theorem de_m1 {r : V → List V → Hp → VK → Prop} {op : D → D → Option D} (h : PE X e (tM1 r (tB B E fa) (tB B E fb)))
    (hr : ∀ (A : Addr → Prop) (N : Addr → Prop) (H : Hp) (a : Str) (y : V) (d z : D) (Q : VK), (∀ p, H p = none → ¬ A p) → op (.str a) d = some z → RtV B A N H y (.d d) → (∀ v H', Same H H' → Rp B A H' v z → Q v H') → r (.str a) [y] H Q) :
    DE X B E e (eM1 op fa fb) := by
  refine pe_imp h fun σ H Q ⟨G, own, ρ, s, R, q⟩ => ?_
  refine tB.run R _ q.bnd fun x s1 v H1 q1 k1 r1 R1 => ?_
  cases x with
  | r _ => exact q1.elim
  | o _ _ => exact q1.elim
  | p _ => exact q1.elim
  | f _ => exact q1.elim
  | d p =>
    cases p with
    | str a =>
      refine ⟨⟨a, rt_str r1⟩, ?_⟩
      refine tB.run R1 _ (Out.sat.bnd q1) fun y s2 u H2 q2 k2 r2 R2 => ?_
      cases y with
      | r _ => exact q2.elim
      | o _ _ => exact q2.elim
      | p _ => exact q2.elim
      | f _ => exact q2.elim
      | d d =>
        dsimp only at q2
        cases hz : op (.str a) d with
        | none => rw [hz] at q2; exact q2.elim
        | some z =>
          rw [hz] at q2
          have e1 := rt_str r1
          subst e1
          exact hr _ G.A0 H2 a u d z Q (fun _ hp => R2.fresh hp) hz r2 fun v H' sm rp => q2 v H' ((k1.trans k2).trans (R2.same sm)) rp
    | _ => exact q1.elim
theorem de_join (hB : B.K = X.K) (ho : DB X B E a fa) (he : DB X B E b fb) (hs : starEach [b] X.env = [(false, eval b X.env)] := by rfl) (hbase : attributeBase a "join" X.env (eval a X.env) = eval a X.env := by rfl) (hline : (apos.endLine == pos.line) = true := by rfl) :
    DE X B E (.Call (.Attribute a "join" apos) [b] [] pos) (eM1 opJoin fa fb) := by
  refine de_m1 (pe_join ho he hs hbase hline) fun A N H a y d z Q fr hz hy k => ?_
  cases d with
  | list ds =>
    unfold opJoin at hz
    dsimp only at hz
    cases hw : strsD ds with
    | none => rw [hw] at hz; cases hz
    | some ys =>
      rw [hw] at hz
      dsimp only at hz
      split at hz
      · rename_i hj
        cases hz
        obtain ⟨u, xs, rfl, tx, rx⟩ := rt_lst hy
        have := strsD_rep rx hw
        subst this
        exact ⟨a, u, ys, rfl, rfl, .inl (SqL.of tx), of_decide_eq_true hj, k _ H (Same.refl H) (.str _)⟩
      · cases hz
  | tuple ds =>
    unfold opJoin at hz
    dsimp only at hz
    cases hw : strsD ds with
    | none => rw [hw] at hz; cases hz
    | some ys =>
      rw [hw] at hz
      dsimp only at hz
      split at hz
      · rename_i hj
        cases hz
        obtain ⟨u, xs, rfl, tx, rx⟩ := rt_tup hy
        have := strsD_rep rx hw
        subst this
        exact ⟨a, u, ys, rfl, rfl, .inr (by rw [← hB]; exact tx.sq), of_decide_eq_true hj, k _ H (Same.refl H) (.str _)⟩
      · cases hz
  | _ => cases hz
theorem de_split (ho : DB X B E a fa) (he : DB X B E b fb) (hs : starEach [b] X.env = [(false, eval b X.env)] := by rfl) (hbase : attributeBase a "split" X.env (eval a X.env) = eval a X.env := by rfl) (hline : (apos.endLine == pos.line) = true := by rfl) :
    DE X B E (.Call (.Attribute a "split" apos) [b] [] pos) (eM1 opSplit fa fb) := by
  refine de_m1 (pe_split ho he hs hbase hline) fun A N H a y d z Q fr hz hy k => ?_
  cases d with
  | str b =>
    unfold opSplit at hz
    dsimp only at hz
    split at hz
    · rename_i hj
      cases hz
      have := rt_str hy
      subst this
      exact ⟨a, b, rfl, rfl, hj.1, hj.2, fun p hp => k _ _ (same_upd hp) (new_lst hp (fr p hp) rep_strs)⟩
    · cases hz
  | _ => cases hz
end
def kD : Key → D
  | .inl i => .int i
  | .inr x => .str x
theorem kD_sc (k : Key) : scK (kD k) = some k := by cases k <;> rfl
section
variable {X : Cx} {B : Bs} {E : XK} {pos : Pos}
def nDispK (ks : List Key) (g : Exs S) : Nx S := fun ρ s => (g ρ s).bind fun ys s1 => match datas ys with
  | some ds => if ks.Nodup ∧ ds.length = ks.length ∧ ks.length ≤ 15 then .ok (.m ((ks.map kD).zip ds)) s1 else .bad
  | none => .bad
theorem pairs_ofK : ∀ {ks : List Key} {fs : List (Ex S)} {G : Gh} {own : Own} {ρ : Env} {s : S} {σ : Sg} {H : Hp} {Q : List (V × V) → Hp → Prop}, ks.length = fs.length → Rel B G own ρ s σ H →
    (exsOf fs ρ s).sat (fun ys s' => ∀ vs H', Stp G s' H H' → RvL B (Av G own) H' vs ys → Q ((ks.map kV).zip vs) H') (fun e s' => ExW B G E e s') →
    tPairs ((ks.zip fs).map fun p => (tC (kV p.1), tD B E p.2)) σ H Q
  | [], [], G, own, ρ, s, σ, H, Q, _, R, q => q [] H R.refl .nil
  | k :: ks, f :: fs, G, own, ρ, s, σ, H, Q, hl, R, q => by
    refine tD.run R _ q.bnd fun y s1 v H1 q1 k1 r1 R1 => ?_
    refine pairs_ofK (Q := fun ps H3 => Q ((kV k, v) :: ps) H3) (by simpa using hl) R1 ?_
    refine q1.bnd.mono fun ys s2 q2 vs H2 k2 r2 => ?_
    exact q2 (v :: vs) H2 (k1.trans k2) (.cons (r1.kp (R1.kp k2)) r2)
  | [], _ :: _, _, _, _, _, _, _, _, hl, _, _ => by simp at hl
  | _ :: _, [], _, _, _, _, _, _, _, hl, _, _ => by simp at hl
theorem rpm_zipK {A : Addr → Prop} {H : Hp} : ∀ {ks : List Key} {vs : List V} {ds : List D}, RpL B A H vs ds → vs.length = ks.length → RpM B A H (((ks.zip vs)).map fun p => (kV p.1, p.2)) ((ks.map kD).zip ds)
  | [], _, _, _, _ => .nil
  | k :: ks, _, _, .nil, h => by simp at h
  | k :: ks, _, _, .cons a t, h => .cons (sc_rp (kD_sc k)) a (rpm_zipK t (by simpa using h))
theorem zip_kv : ∀ (ks : List Key) (vs : List V), (ks.map kV).zip vs = (ks.zip vs).map fun kv => (kV kv.1, kv.2)
  | [], _ => rfl
  | k :: ks, [] => rfl
  | k :: ks, v :: vs => by
    rw [List.map_cons, List.zip_cons_cons, zip_kv ks vs]
    rfl
theorem dn_dispK {keys : List (Option Expr)} {values : List Expr} (ks : List Key) (fs : List (Ex S)) (hp : PPs X pos keys values ((ks.zip fs).map fun p => (tC (kV p.1), tD B E p.2))) (hl : ks.length = fs.length) (hall : keys.all (·.isSome) = true := by rfl) (hlk : keys.length = values.length := by rfl)
    (h0 : keys ≠ [] := by simp) (h15 : keys.length ≤ 15 := by decide) (hk0 : ks ≠ [] := by simp) : DN X B E (.Dict keys values pos) (nDispK ks (exsOf fs)) := by
  refine pe_imp (pe_disp hp hall hlk h0 h15) fun σ H Q ⟨G, own, ρ, s, R, q⟩ => fun p hn => ?_
  have k0 : Stp G s H (upd H p (.dK [])) := R.put hn
  have Rh := R.hid k0 hn (by rw [upd_same]; simp)
  refine pairs_ofK hl Rh ?_
  refine sat_ex (q.bnd.mono fun ys s1 q1 vs H1 k1 r1 => ?_) fun e s' h => h.hide
  cases hd : datas ys with
  | none => rw [hd] at q1; exact q1.elim
  | some ds =>
    rw [hd] at q1
    dsimp only at q1
    split at q1
    · rename_i hc
      have rl := r1.datas hd
      have hpd : p ∉ G.dks := fun z => by
        obtain ⟨o, e, _⟩ := R.dkT z
        rw [hn] at e; cases e
      have hp1 : H1 p = some (.dK []) := k1.fr p _ upd_same hpd
      have hvl : vs.length = ks.length := by rw [rl.len]; exact hc.2.1
      refine ⟨hp1, ks.zip vs, zip_kv ks vs, ?_, ?_⟩
      · rw [List.length_zip]; omega
      · have hm : mergeK [] (ks.zip vs) = ks.zip vs := by
          rw [merge_new _ [] ?_, List.nil_append]
          rw [List.nil_append, List.map_fst_zip (by omega)]
          exact hc.1
        rw [hm]
        have kp : Kp (fun a => Av G own a ∨ a = p) H1 (upd H1 p (.dK (ks.zip vs))) := by
          refine ⟨fun b ys ht h => ?_, fun b u h n => ?_⟩
          · rw [upd_ne]
            · exact h
            · rintro rfl; rw [hp1] at h; cases h; cases ht
          · rw [upd_ne]
            · exact h
            · rintro rfl; exact n (.inr rfl)
        have rl2 : RpL B (fun a => Av G own a ∨ a = p) H1 vs ds := rl.mono fun a z => by
          rcases z with z | rfl
          · exact (av_hide a).mpr (.inl z)
          · exact (av_hide a).mpr (.inr (by simp))
        refine q1 p _ ?_ hn (.inl ⟨_, ⟨upd_same, fun z => by have z := congrArg List.length z; rw [List.length_zip, hvl, Nat.min_self] at z; exact hk0 (List.length_eq_zero_iff.mp z)⟩, rpm_zipK (RpL.kp kp rl2) hvl⟩)
        refine ⟨fun b o h n => ?_, k1.dk, SI.keep s1 H1 _ k1.rs (fun b hb => ?_) kp.tup⟩
        · rw [upd_ne]
          · exact k1.fr b o (by rw [upd_ne]; exact h; rintro rfl; rw [hn] at h; cases h) n
          · rintro rfl; rw [hn] at h; cases h
        · rw [upd_ne]
          rintro rfl
          have e := k1.dk
          rw [e] at hb
          exact hpd hb
    · exact q1.elim
/-- a new object as a value -/
def eN (f : Nx S) : Ex S := fun ρ s => (f ρ s).bind fun x s1 => match x with
  | .m kvs => .ok (.d (.dict kvs)) s1
  | .l ds => .ok (.d (.list ds)) s1
  | _ => .bad
theorem DN.de {e : Expr} {f : Nx S} (h : DN X B E e f) : DE X B E e (eN f) := by
  refine pe_imp h fun σ H Q ⟨G, own, ρ, s, R, q⟩ => ?_
  refine ⟨G, own, ρ, s, R, q.bnd.mono fun x s1 q1 p H1 k hp r => ?_⟩
  have fr := R.fresh hp
  cases x with
  | no => exact q1.elim
  | v _ => exact q1.elim
  | g _ _ _ => exact q1.elim
  | q _ _ => exact q1.elim
  | l ds =>
    obtain ⟨xs, e, r⟩ := r
    exact q1 _ H1 k (.lst e fr (r.mono fun a z => .inl z))
  | m kvs =>
    rcases r with ⟨ks, e, r⟩ | ⟨ks, e, e2, r⟩
    · exact q1 _ H1 k (.dic e fr (r.mono fun a z => .inl z))
    · exact q1 _ H1 k (.dct e fr e2 (r.mono fun a z => .inl z))
end
def enumD (ds : List D) : List D := (List.range ds.length).filterMap fun (i : Nat) => ds[i]?.map fun d => .tuple [.int (i : Nat), d]
theorem enumD_get (ds : List D) (i : Nat) : (enumD ds)[i]? = ds[i]?.map fun d => .tuple [.int (i : Nat), d] := by
  have hf : ∀ n, n ≤ ds.length → ∀ i, ((List.range n).filterMap fun (i : Nat) => ds[i]?.map fun d => PyData.tuple [.int (i : Nat), d])[i]? = if i < n then ds[i]?.map (fun d => PyData.tuple [.int (i : Nat), d]) else none := by
    intro n
    induction n with
    | zero => intro _ i; simp
    | succ n ih =>
      intro hn i
      have hl : ((List.range n).filterMap fun (i : Nat) => ds[i]?.map fun d => PyData.tuple [.int (i : Nat), d]).length = n := by
        apply Nat.le_antisymm
        · exact Nat.le_trans (List.length_filterMap_le _ _) (by simp)
        · by_cases h0 : n = 0
          · omega
          · have := ih (by omega) (n - 1)
            rw [if_pos (by omega), List.getElem?_eq_getElem (by omega : n - 1 < ds.length)] at this
            have h2 := (List.getElem?_eq_some_iff.mp this).1
            omega
      rw [List.range_succ, List.filterMap_append]
      by_cases hi : i < n
      · rw [List.getElem?_append_left (by omega), ih (by omega) i, if_pos hi, if_pos (by omega)]
      · rw [List.getElem?_append_right (by omega), hl]
        by_cases he : i = n
        · subst he
          rw [if_pos (by omega), Nat.sub_self, List.getElem?_eq_getElem (by omega : i < ds.length)]
          simp [List.filterMap_cons, List.getElem?_eq_getElem (by omega : i < ds.length)]
        · rw [if_neg (by omega)]
          apply List.getElem?_eq_none
          refine Nat.le_trans (List.length_filterMap_le _ _) ?_
          simp; omega
  unfold enumD
  rw [hf _ (Nat.le_refl _)]
  by_cases hi : i < ds.length
  · rw [if_pos hi]
  · rw [if_neg hi, List.getElem?_eq_none (by omega)]; rfl
theorem enumD_len (ds : List D) : (enumD ds).length = ds.length := by
  apply Nat.le_antisymm
  · exact Nat.le_trans (List.length_filterMap_le _ _) (by simp)
  · by_cases h0 : ds.length = 0
    · omega
    · have := enumD_get ds (ds.length - 1)
      rw [List.getElem?_eq_getElem (by omega : ds.length - 1 < ds.length)] at this
      have h2 := (List.getElem?_eq_some_iff.mp this).1
      omega
section
variable {X : Cx} {B : Bs} {E : XK} {e : Expr} {f : Ex S} {pos p : Pos}
def iEnu (f : Ex S) : Lx S := fun ρ s => (f ρ s).bind fun y s1 => match y with
  | .d (.list ds) => .ok (enumD ds) s1
  | _ => .bad
theorem it_enu {G : Gh} {own : Own} {ρ : Env} {s : S} {σ : Sg} {H1 : Hp} (R : Rel B G own ρ s σ H1) {cmp : Bool} {K : PySem.W.Frag} {a : Addr} {xs : List V} {ds : List D} (h : H1 a = some (.lst xs)) (n : ¬ Chg G own cmp a) (r : RpL B (Av G own) H1 xs ds) :
    ItOk B (Av G own) (Chg G own cmp) (Ite K a) (enumD ds) H1 := by
  intro H2 k
  have h2 := SqL.of (K := K) (k a _ h n)
  refine ⟨fun i d e => ?_, xs, h2, by rw [enumD_len, r.len]; exact Nat.le_refl _⟩
  rw [enumD_get] at e
  obtain ⟨d', e1, rfl⟩ := Option.map_eq_some_iff.mp e
  obtain ⟨u, eu, ru⟩ := r.get' e1
  refine ⟨⟨xs, u, h2, eu⟩, ?_⟩
  rintro z H3 ⟨T, x', rfl, hT, rfl, q1⟩
  have z1 := q1 xs h2
  rw [eu] at z1; cases z1
  exact ⟨same_upd hT, fun A' hA => .tup (Tp.of upd_same) (.cons (.int _) (.cons (ItOk.item R k (same_upd hT) ru A' hA) .nil))⟩
theorem di_enu {elts : List Expr} {kk : Nat} {tpos : Pos} {cmp : Bool} (hm : X.mg "enumerate" = none) (ha : DE X B E e f) (hg : Gl X "enumerate" := by rfl) (hs : starEach [e] X.env = [(false, eval e X.env)] := by rfl) :
    DI X B E cmp (.Tuple elts kk tpos) (.Call (.Name "enumerate" p) [e] [] pos) (iEnu f) := by
  refine pi_imp (pi_enum hg hm (pa_cons ha pa_nil hs) hs) fun σ H R' ⟨G, own, ρ, s, R, q⟩ => ?_
  refine tD.run R _ q.bnd fun y s1 v H1 q1 k1 r1 R1 => ?_
  cases y with
  | r _ => exact q1.elim
  | o _ _ => exact q1.elim
  | p _ => exact q1.elim
  | f _ => exact q1.elim
  | d d =>
    cases d with
    | list ds =>
      cases r1 with
      | lst h n r => exact ⟨_, _, rfl, SqL.of h, q1 _ H1 k1 (it_enu R1 h (fun z => n (Chg.av R1 z)) r)⟩
    | _ => exact q1.elim
end
end DL
namespace DL
open PySem PySem.Spec PyProof.Rows L2
/-- what the written part says of an own exception class -/
structure Xk (K : PySem.W.Frag) (C : Addr) : Prop where
  ox : OexC K C
  ga : PySem.W.findIn K (.ref C) "__getattribute__" = some (some (.builtin "BaseException.__getattribute__"))
  gg : PySem.W.findIn K (.ref C) "__getattr__" = some none
  hd : PySem.W.hasDictIn K C = true
  ha : PySem.W.findIn K (.ref C) "__class__" = some (some (.builtin "object.__class__"))
  hn : PySem.W.specialIn K (.builtin "object.__class__") "__get__" = some (some (.builtin "getset_descriptor.__get__"))
  ht : PySem.W.takesIn K (.builtin "object.__class__") = some true
  hm : PySem.W.mroIn K C (.type "object") = some true
/-- __init__(self, x, y): self.f = x, self.g = y -/
def spI2 (K : PySem.W.Frag) (f g : Str) : Sp := fun vs H Q _ => ∃ (a C : Addr) (x y : V), vs = [.ref a, x, y] ∧ OexC K C ∧ PySem.W.findIn K (.ref C) f = some none ∧ PySem.W.findIn K (.ref C) g = some none ∧ H a = some (exo a C none) ∧
  ∀ dx, H dx = none → dx ≠ a → Q .non (upd (upd (upd H dx (exd dx [(f, x)])) a (exo a C (some dx))) dx (exd dx [(g, y), (f, x)]))
theorem init2_read {K : PySem.W.Frag} {f g : Str} {N : List Str} {vs : List V} {H : Hp} {Q : VK} {E : XK} (h : spI2 K f g vs H Q E) :
    (tSeq (tOst K f (tVar 0) (tVar 1)) (tOst K g (tVar 0) (tVar 2))) { nx := fun _ H' => Q .non H', rt := Q } (L2.start N vs) H := by
  obtain ⟨a, C, x, y, rfl, T, n1, n2, ha, q⟩ := h
  refine ⟨_, rfl, _, rfl, a, C, rfl, T, n1, .inl ⟨ha, fun dx hdx hne => ?_⟩⟩
  refine ⟨_, rfl, _, rfl, a, C, rfl, T, n2, .inr ⟨dx, [(f, x)], upd_same, ?_, by simp, q dx hdx hne⟩⟩
  rw [upd_ne hne]; exact upd_same
/-- an own exception class as the top left it; ks: the fields that its __init__ sets -/
structure Xc (K : PySem.W.Frag) (mg : Str → Option Value) (nm : Str) (qual : Str) (st : Stmt) (ks : List Str) where
  C : Addr
  fI : Addr
  fd : FuncData
  F : Fun K "__init__" qual st fI fd
  g : mg nm = some (.ref C)
  k : Xk K C
  iC : PySem.W.findIn K (.ref C) "__init__" = some (some (.ref fI))
  tI : PySem.W.typeIn K (.ref fI) = some (.type "function")
  no : ∀ f ∈ ks, PySem.W.findIn K (.ref C) f = some none
variable {S : Type} [SI S]
/-- raise c(e, ..) -/
def sRz (c : Str) (ks : List Str) (g : Exs S) : Sx S := fun ρ s => (g ρ s).bind fun ys s1 => match datas ys with
  | some ds => if ds.length = ks.length then .ex ⟨c, ks.zip ds⟩ s1 else .bad
  | none => .bad
section
variable {X : Cx} {B : Bs} {E : XK} {e1 e2 : Expr} {g : Exs S} {pos pos2 p : Pos}
/-- the end of it -/
theorem raised {G : Gh} {own : Own} {ρ : Env} {s1 : S} {σ : Sg} {H1 H' : Hp} (R1 : Rel B G own ρ s1 σ H1) {nm : Str} {fs : List (Str × D)} {fv : List (Str × V)} {C dx : Addr} (hc : B.cls nm = some C)
    (q : ExW B G E ⟨nm, fs⟩ s1) (hd : H' dx = some (.xd fv)) (k : Same H1 H') (hf : ∀ p ∈ fs, ∃ u, fv.lookup p.1 = some u ∧ Rp B (Av G own) H1 u p.2) : E (.ref C) (some dx) H' := by
  have st := R1.same k
  refine q C (some dx) H' (fun a o h n => k a o (R1.fr a o h n)) st.dk st.rs ⟨hc, .inr ⟨dx, fv, rfl, hd, fun p hp => ?_⟩⟩
  obtain ⟨u, e, r⟩ := hf p hp
  exact ⟨u, e, (r.kp (R1.kp st)).mono fun a z => .inl z⟩
theorem ds_raise2 {nm qual f g' : Str} {st : Stmt} (c : Ctx X B) (T : Xc X.K X.mg nm qual st [f, g']) (hfg : f ≠ g') (F1 : FnOk X.prog X.w X.K X.mg X.base CX0 1 T.fI T.fd ["self", f, g'] (spI2 X.K f g')) (hr : Room 2 X.A)
    (tk : Takes X (fun cls d _ H => E cls d H)) (hcls : B.cls nm = some T.C) (hb : Binds X.K T.fd ["self", f, g'] []) (ha : DV X B E [e1, e2] g) (hg : Gl X nm := by rfl) (hdb : (nm == ("__debug__" : Str)) = false := by decide)
    (he : starEach [e1, e2] X.env = (false, eval e1 X.env) :: starEach [e2] X.env := by rfl) (hpl : (backTo pos (starEach [e2] X.env)).any (·.1) = false := by rfl) :
    DS X B E (.Raise (some (.Call (.Name nm p) [e1, e2] [] pos)) none pos2) (sRz nm [f, g'] g) := by
  refine ps_imp (ps_raise c.calm tk (pmk_oex T.k.ox T.iC T.tI F1 hr hb .nil (fun _ _ _ _ _ _ _ h => h.elim) hg T.g ha hdb he hpl)) fun Dd σ H ⟨G, own, ρ, s, R, q⟩ => ?_
  refine ⟨G, own, ρ, s, R, (Out.sat.bnd q).mono fun ys s1 q1 vs H1 k1 r1 => ?_⟩
  have R1 := R.stp k1
  cases hz : datas ys with
  | none => simp only [hz] at q1; exact q1.elim
  | some ds =>
    simp only [hz] at q1
    by_cases hl : ds.length = [f, g'].length
    · rw [if_pos hl] at q1
      have rl := RvL.datas r1 hz
      match ds, hl, rl, q1 with
      | [d1, d2], _, .cons (v := x) ra (.cons (v := y) rb .nil), q1 =>
        refine ⟨by simp, fun a ha => ?_⟩
        refine ⟨a, T.C, x, y, rfl, T.k.ox, T.no _ (by simp), T.no _ (by simp), upd_same, fun dx hdx hne => ?_⟩
        have hd1 : H1 dx = none := by rw [upd_ne hne] at hdx; exact hdx
        refine ⟨rfl, dx, [(g', y), (f, x)], by rw [upd_ne (Ne.symm hne)]; exact upd_same, upd_same, hd1, ?_⟩
        refine raised R1 hcls q1 upd_same (fun b o h => ?_) fun p hp => ?_
        · have nb : b ≠ dx := ne_of_none h hd1
          have na : b ≠ a := ne_of_none h ha
          rw [upd_ne nb, del_ne na, upd_ne nb, upd_ne na, upd_ne nb, upd_ne na]
          exact h
        · have hp : p = (f, d1) ∨ p = (g', d2) := by simpa using hp
          rcases hp with rfl | rfl
          · refine ⟨x, ?_, ra⟩
            have : (f == g') = false := by simpa using hfg
            simp [List.lookup, this]
          · exact ⟨y, by simp [List.lookup], rb⟩
    · rw [if_neg hl] at q1; exact q1.elim
end
section
variable {P : Program} {w : World} {K : PySem.W.Frag} {mg : Str → Option Value} {base : Heap} {B : Bs} {k n : Nat} {f : Addr} {fd : FuncData} {ps N : List Str} {x qual : Str} {st : Stmt}
abbrev cxX (P : Program) (w : World) (K : PySem.W.Frag) (mg : Str → Option Value) (base : Heap) (N : List Str) (qual : Str) (st : Stmt) (f : Addr) (cdv : Value) (A : Around) (outer : List PySem.Env) (s : Shared) (H : Hp) (E : XK) : Cx :=
  cxOf (L2.CX P w) P w K mg base N qual (defScope st) f cdv A outer s H E
theorem fg_raise (hP : B.P = P) (hK : B.K = K) (hw : B.w = w) (F : Fun K x qual st f fd) (Sc : FnScope N ps (defScope st)) (body : Sx S) (hn : N.length = ps.length + n)
    (h : ∀ (cdv : Value) (A : Around) (outer : List PySem.Env) (s : Shared) (H : Hp) (E : XK), Ctx (cxX P w K mg base N qual st f cdv A outer s H E) B → Room k (cxX P w K mg base N qual st f cdv A outer s H E).A →
      Takes (cxX P w K mg base N qual st f cdv A outer s H E) (fun cls d _ H => E cls d H) → PassesOwn (model P w) (cxX P w K mg base N qual st f cdv A outer s H E).A (cxX P w K mg base N qual st f cdv A outer s H E).env (cxX P w K mg base N qual st f cdv A outer s H E).xe →
      DSs (cxX P w K mg base N qual st f cdv A outer s H E) B E (defBody st) body) : FnG P w K mg base (L2.CX P w) (k + 1) f fd ps (spX B ps.length (runF n body)) := by
  obtain ⟨oc, od, kV, doc, pm, an, cdv, ct, osl, rfl, lk, hcd⟩ := F.ex
  refine fg_of lk hcd Sc (fun vs H Q E h => ?_) fun A outer s H vs Q E hr hg hsp => ?_
  · obtain ⟨A0, ys, _, hl, c, _⟩ := h
    rw [c.av.len, hl]
  · obtain ⟨A0, ys, s0, hl, c, q⟩ := hsp
    refine ⟨_, h cdv A outer s H E (ctx_of hP hK hw Sc hr hg) hr (takes_of rfl rfl rfl rfl) (passes_of rfl), ?_⟩
    refine ⟨⟨H, A0, SI.dks s0⟩, _, _, s0, rel_start (n := n) c (by rw [hn, c.av.len, hl]), ?_⟩
    unfold runF at q
    have q2 := q.bnd
    rcases sat_eq q2 with ⟨fl, s1, e1, q3⟩ | ⟨e, s1, e1, q3⟩
    · rw [e1]
      cases fl with
      | nx ρ' => exact fun own' σ' H' R' _ => q3 .non H' ⟨R'.fr, R'.dk, R'.rs⟩ .non
      | bk _ => exact q3.elim
      | ct _ => exact q3.elim
      | rg _ _ => exact q3.elim
      | rt y => exact fun v H' fr r => q3 v H' ⟨fr.fr, fr.dk, fr.rs⟩ r
    · rw [e1]
      exact fun C od H' fr dk rs ex => q3 C od H' ⟨fr, dk, rs⟩ ex
end
section
variable {X : Cx} {k n : Nat} {f C : Addr} {fd : FuncData} {ps : List Str} {E E' : XK} {x m : Str} {p pos apos : Pos} {e o : Expr} {es : List Expr} {B : Bs} {F : List Val → S → Out S Val} {g : Exs S}
theorem ExR.mono {A A' : Addr → Prop} (k : ∀ a, A' a → A a) {e : Exn} {C : Addr} {od : Option Addr} {H : Hp} (h : ExR B A e C od H) : ExR B A' e C od H := by
  obtain ⟨hc, h⟩ := h
  refine ⟨hc, h.imp id fun ⟨dx, fs, e1, e2, l⟩ => ⟨dx, fs, e1, e2, fun p hp => ?_⟩⟩
  obtain ⟨u, e3, r⟩ := l p hp
  exact ⟨u, e3, r.mono k⟩
/-- f(e, ..), what it raises is let through -/
def eFnX (n : Nat) (F : List Val → S → Out S Val) (g : Exs S) : Ex S := fun ρ s => (g ρ s).bind fun ys s1 => if ys.length = n then F ys s1 else .bad
theorem de_callX (c : Ctx X B) (tk : Takes X (fun cls d _ H => E cls d H)) (Fn : FnG X.prog X.w X.K X.mg X.base (L2.CX X.prog X.w) k f fd ps (spX B n F)) (hr : Room k X.A) (hm : X.mg x = some (.ref f)) (hk : PySem.W.keepIn X.K (.ref f) = true) (hb : Binds X.K fd ps [])
    (ha : DV X B E (e :: es) g) (hg : Gl X x := by rfl) (hdb : (x == ("__debug__" : Str)) = false := by decide) (he : starEach (e :: es) X.env = (false, eval e X.env) :: starEach es X.env := by rfl) (hpl : (backTo pos (starEach es X.env)).any (·.1) = false := by rfl) :
    DE X B E (.Call (.Name x p) (e :: es) [] pos) (eFnX n F g) := by
  refine pe_imp (pe_callG Fn hr c.gd hg hm hk hb (passes_call tk fun _ _ _ _ z => z) ha hdb he hpl) fun σ H Q ⟨G, own, ρ, s, R, q⟩ => ?_
  refine ⟨G, own, ρ, s, R, q.bnd.mono fun ys s1 q1 vs H1 k1 r1 => ?_⟩
  have R1 := R.stp k1
  split at q1
  · rename_i hl
    refine ⟨Av G own, ys, s1, hl, call0_of R1 r1, ?_⟩
    cases hF : F ys s1 with
    | bad => rw [hF] at q1; exact q1.elim
    | ok y s2 =>
      rw [hF] at q1
      exact fun v H' c1 rv => q1 v H' (k1.trans (stp_of R1 c1)) rv
    | ex e s2 =>
      rw [hF] at q1
      intro C od H' c1 ex
      have s2' := k1.trans (stp_of R1 c1)
      exact q1 C od H' (fun a o h n => c1.fr a o (R1.fr a o h n) (by rw [R1.dk]; exact n)) s2'.dk s2'.rs (ex.mono fun a z => .inl z)
  · exact q1.elim
/-- .. lists of one's own are lent -/
def eFnBX (n : Nat) (F : List Val → S → Out S Val) (g : Exs S) : Ex S := fun ρ s => (g ρ s).bind fun ys s1 => if ys.length = n then (F ys s1).bind fun y s2 => (match y with
    | .d d => if hard d then .ok (.d d) s2 else .bad
    | _ => .bad)
  else .bad
theorem de_callBX (c : Ctx X B) (tk : Takes X (fun cls d _ H => E cls d H)) (Fn : FnG X.prog X.w X.K X.mg X.base (L2.CX X.prog X.w) k f fd ps (spX B n F)) (hr : Room k X.A) (hm : X.mg x = some (.ref f)) (hk : PySem.W.keepIn X.K (.ref f) = true) (hb : Binds X.K fd ps [])
    (ha : DA X B E (e :: es) g) (hg : Gl X x := by rfl) (hdb : (x == ("__debug__" : Str)) = false := by decide) (he : starEach (e :: es) X.env = (false, eval e X.env) :: starEach es X.env := by rfl) (hpl : (backTo pos (starEach es X.env)).any (·.1) = false := by rfl) :
    DE X B E (.Call (.Name x p) (e :: es) [] pos) (eFnBX n F g) := by
  refine pe_imp (pe_callG Fn hr c.gd hg hm hk hb (passes_call tk fun _ _ _ _ z => z) ha hdb he hpl) fun σ H Q ⟨G, own, ρ, s, R, q⟩ => ?_
  refine ⟨G, own, ρ, s, R, q.bnd.mono fun ys s1 q1 vs H1 k1 r1 => ?_⟩
  have R1 := R.stp k1
  split at q1
  · rename_i hl
    refine ⟨G.A0, ys, s1, hl, ⟨fun a h => R1.wf1 a (by rw [← R1.dk]; exact h), R1.wf2, R1.rs, r1.lend fun a z => .inl z⟩, ?_⟩
    cases hF : F ys s1 with
    | bad => rw [hF] at q1; exact q1.elim
    | ok y s2 =>
      rw [hF] at q1
      intro v H' c1 rv
      have q2 := q1
      cases y with
      | r _ => exact q2.elim
      | o _ _ => exact q2.elim
      | p _ => exact q2.elim
      | f _ => exact q2.elim
      | d d =>
        have q3 : (if hard d = true then Out.ok (Val.d d) s2 else Out.bad).sat (fun y s' => ∀ v H', Stp G s' H H' → RvV B (Av G own) H' v y → Q v H') (fun e s' => ExW B G E e s') := q2
        by_cases hd : hard d = true
        · rw [if_pos hd] at q3
          exact q3 v H' (k1.trans (stp_of R1 c1)) (Rp.hard rv hd)
        · rw [if_neg hd] at q3; exact q3.elim
    | ex e s2 =>
      rw [hF] at q1
      intro C od H' c1 ex
      have s2' := k1.trans (stp_of R1 c1)
      exact q1 C od H' (fun a o h n => c1.fr a o (R1.fr a o h n) (by rw [R1.dk]; exact n)) s2'.dk s2'.rs ex
  · exact q1.elim
end
section
variable {X : Cx} {a : Addr} {oe : Obj} {cls : Value} {d : Option Addr} {pn : List (Addr × Obj)} {e : Expr} {pos p p1 : Pos}
theorem inst_of {pins : List (Addr × Obj)} {σ : Sg} {H : Hp} {s : Shared} {D dd : Addr} {fs : List (Str × V)} (I : L2.Inv (X.suite a ((a, oe) :: pn)) pins σ H s) (hz : Zc (.ref D) (some dd) oe) (hf : ∃ vs, oe.data = .fields vs) (hx : H dd = some (.xd fs)) :
    ∃ (od : Obj) (mA : Str → Option Value), PySem.W.InstAt s.heap a oe D (some od) ∧ (∀ f, PySem.W.lookIn f od = some (mA f)) ∧ ∀ f, RelO (fs.lookup f) (mA f) := by
  obtain ⟨ha, _⟩ := I.pin (a, oe) (List.mem_append_left _ List.mem_cons_self)
  obtain ⟨vs, hd⟩ := hf
  have hx : ObjOk X.prog X.w H s.heap dd (.xd fs) := I.hok dd _ hx
  obtain ⟨mA, hns, hr⟩ := hx
  obtain ⟨od, ho, hl⟩ := lookIn_ns hns
  exact ⟨od, mA, ⟨ha, hz.1, by unfold PySem.W.notCls; rw [hd] <;> rfl, by rw [hz.2]; exact ho⟩, hl, hr⟩
def rIsX (K : PySem.W.Frag) (a : Addr) (cls : Value) (d : Option Addr) : List V → Hp → VK → Prop := fun xs H Q => ∃ (D dd : Addr) (fs : List (Str × V)) (c : V) (cv : Value) (b : Bool), cls = .ref D ∧ d = some dd ∧ Xk K D ∧ H dd = some (.xd fs) ∧ xs = [.ref a, c] ∧
  (∀ u, RelV c u → u = cv) ∧ PySem.W.kitOne K (.ref D) cv = some b ∧ Q (.bl b) H
theorem call_isX (hz : Zc cls d oe) (hf : ∃ vs, oe.data = .fields vs) : CallR (X.suite a ((a, oe) :: pn)) (.builtin "isinstance") (rIsX X.K a cls d) := by
  intro pins s σ H xs us Q I r h
  obtain ⟨D, dd, fs, c, cv, b, rfl, rfl, T, hx, rfl, hcv, e, q⟩ := h
  cases r with
  | cons rx rr =>
    cases rr with
    | cons rt rr =>
      cases rr
      cases rx
      have ec := hcv _ rt
      subst ec
      obtain ⟨od, mA, J, _, _⟩ := inst_of I hz hf hx
      have hcl : (PySem.W.clsIn X.K D).isSome = true := by
        have hd := T.hd
        unfold PySem.W.hasDictIn at hd
        cases hq : PySem.W.clsIn X.K D with
        | none => rw [hq] at hd; cases hd
        | some _ => rfl
      exact PySem.W.kia_one (PySem.W.kitx_exc hcl T.ga T.gg T.ox.exC T.ha T.hn T.ht T.hm) I.kIn J e (fun z => nomatch z) fun tk => ⟨.bl b, H, I.kept (t' := tk) fun _ _ z => z, rfl, q⟩
/-- isinstance(e, c) -/
def tIsX (K : PySem.W.Frag) (a : Addr) (cls : Value) (d : Option Addr) (i : Nat) (cv : Value) : TE := fun σ H Q => ∃ (D dd : Addr) (fs : List (Str × V)), cls = .ref D ∧ d = some dd ∧ Xk K D ∧ H dd = some (.xd fs) ∧ σ[i]? = some (some (.ref a)) ∧
  PySem.W.kitOne K (.ref D) cv = some true ∧ Q (.bl true) H
theorem pe_isX {i : Nat} {n : Expr} {ce : Expr} {c : V} {cv : Value} (hz : Zc cls d oe) (hf : ∃ vs, oe.data = .fields vs) (hn : PE (X.suite a ((a, oe) :: pn)) n (tVar i)) (hc : PE (X.suite a ((a, oe) :: pn)) ce (tC c)) (hcv : ∀ u, RelV c u → u = cv) (hm : X.mg "isinstance" = none) (hg : Gl X "isinstance" := by rfl)
    (hs : starEach [n, ce] X.env = (false, eval n X.env) :: starEach [ce] X.env := by rfl) (hs2 : starEach [ce] X.env = (false, eval ce X.env) :: starEach [] X.env := by rfl) (hpl : (backTo pos (starEach [ce] X.env)).any (·.1) = false := by rfl) :
    PE (X.suite a ((a, oe) :: pn)) (.Call (.Name "isinstance" p) [n, ce] [] pos) (tIsX X.K a cls d i cv) :=
  pe_imp (pe_callB (call_isX hz hf) hg hm (by decide +kernel) (pa_cons hn (pa_cons hc pa_nil hs2) hs) (he := hs) (hpl := hpl)) fun σ H Q ⟨D, dd, fs, e1, e2, T, hx, hi, hk, q⟩ =>
    ⟨_, hi, D, dd, fs, c, cv, true, e1, e2, T, hx, rfl, hcv, hk, q⟩
/-- e.f -/
def tXat (K : PySem.W.Frag) (a : Addr) (cls : Value) (d : Option Addr) (i : Nat) (f : Str) : TE := fun σ H Q => ∃ (D dd : Addr) (fs : List (Str × V)) (v : V), cls = .ref D ∧ d = some dd ∧ Xk K D ∧ PySem.W.findIn K (.ref D) f = some none ∧ H dd = some (.xd fs) ∧ σ[i]? = some (some (.ref a)) ∧
  fs.lookup f = some v ∧ Q v H
theorem pe_xat {i : Nat} {n : Expr} {f : Str} (hz : Zc cls d oe) (hf : ∃ vs, oe.data = .fields vs) (hn : PE (X.suite a ((a, oe) :: pn)) n (tVar i)) (hb : attributeBase n f X.env (eval n X.env) = eval n X.env := by rfl) :
    PE (X.suite a ((a, oe) :: pn)) (.Attribute n f pos) (tXat X.K a cls d i f) := by
  refine ⟨fun pins s σ H Q I h => ?_⟩
  obtain ⟨D, dd, fs, v, rfl, rfl, T, no, hx, hi, hl, q⟩ := h
  refine attr_of hb (thn (hn.run pins s σ H (fun x H1 => x = .ref a ∧ H1 = H) I ⟨_, hi, rfl, rfl⟩) fun u s1 hh => ?_)
  obtain ⟨x, H1, I1, rx, ex, eh⟩ := hh
  subst ex eh
  obtain rfl : u = Value.ref a := rx
  obtain ⟨od, mA, J, lk, hr⟩ := inst_of I1 hz hf hx
  obtain ⟨u, hu, ru⟩ := RelO.some_of (v := v) (o := mA f) (by rw [← hl]; exact hr f)
  exact HandSPX.exc_get I1.kIn J T.ga T.gg T.ox.exC (PySem.W.findObj_own T.hd no rfl (by rw [lk, hu])) (handed_of ru) ⟨v, H1, I1.tok _, ru, q⟩
end
structure Gives (X : Cx) (B : Bs) (i : Nat) (suite : List Stmt) (hd : Exn → Option D) where
  ts : Addr → Value → Option Addr → TS
  ok : ∀ (a : Addr) (oe : Obj) (cls : Value) (d : Option Addr) (pn : List (Addr × Obj)), Zc cls d oe → (∃ vs, oe.data = .fields vs) → PSs (X.suite a ((a, oe) :: pn)) suite (ts a cls d)
  rd : ∀ (e : Exn) (z : D) (A : Addr → Prop) (a C : Addr) (od : Option Addr) (σ : Sg) (H : Hp) (Dd : Ends), hd e = some z → ExR B A e C od H → σ[i]? = some (some (.ref a)) → (∀ p, H p = none → ¬ A p) →
    (∀ v H', Same H H' → Rp B A H' v z → Dd.rt v H') → ts a (.ref C) od Dd σ H
/-- fields of the exception, as data -/
def xFields (e : Exn) : List Str → Option (List D)
  | [] => some []
  | f :: fs => match e.fs.lookup f, xFields e fs with
    | some d, some ds => some (d :: ds)
    | _, _ => none
section
variable {X : Cx} {B : Bs}
/-- the answer made of fields, if e is of class nm -/
def hdL (nm : Str) (mk : List D → D) (ks : List Str) : Exn → Option D := fun e => if e.c = nm then (xFields e ks).map mk else none
theorem lookup_some {fs : List (Str × D)} {f : Str} {d : D} (h : fs.lookup f = some d) : (f, d) ∈ fs := by
  induction fs with
  | nil => cases h
  | cons p ps ih =>
    obtain ⟨g, y⟩ := p
    rw [List.lookup] at h
    by_cases hg : f == g
    · rw [hg] at h
      cases h
      have : f = g := by simpa using hg
      subst this
      exact .head _
    · have hg : (f == g) = false := by simpa using hg
      rw [hg] at h
      exact .tail _ (ih h)
theorem xFields_len {e : Exn} : ∀ {ks : List Str} {ds : List D}, xFields e ks = some ds → ds.length = ks.length
  | [], ds, h => by cases h; rfl
  | f :: fs, ds, h => by
    unfold xFields at h
    cases h1 : e.fs.lookup f with
    | none => rw [h1] at h; cases h
    | some d =>
      rw [h1] at h
      cases h2 : xFields e fs with
      | none => rw [h2] at h; cases h
      | some es =>
        rw [h2] at h
        cases h
        rw [List.length_cons, List.length_cons, xFields_len h2]
/-- the fields, one after the other -/
def tXats (K : PySem.W.Frag) (a : Addr) (cls : Value) (d : Option Addr) (i : Nat) : List Str → TA
  | [] => tNil
  | f :: fs => tCons (tXat K a cls d i f) (tXats K a cls d i fs)
theorem xats_read {K : PySem.W.Frag} {a C dd : Addr} {i : Nat} {σ : Sg} {H : Hp} {fv : List (Str × V)} {A : Addr → Prop} (hK : B.K = K) (T : Xk K C) (hx : H dd = some (.xd fv)) (hi : σ[i]? = some (some (.ref a))) (e : Exn)
    (l : ∀ p ∈ e.fs, ∃ u, fv.lookup p.1 = some u ∧ Rp B A H u p.2) : ∀ (ks : List Str), (∀ f ∈ ks, PySem.W.findIn K (.ref C) f = some none) → ∀ {ds : List D}, xFields e ks = some ds → ∀ (Q : List V → Hp → Prop), (∀ vs, RpL B A H vs ds → Q vs H) → tXats K a (.ref C) (some dd) i ks σ H Q
  | [], _, ds, h, Q, q => by cases h; exact q [] .nil
  | f :: fs, no, ds, h, Q, q => by
    unfold xFields at h
    cases h1 : e.fs.lookup f with
    | none => rw [h1] at h; cases h
    | some d =>
      rw [h1] at h
      cases h2 : xFields e fs with
      | none => rw [h2] at h; cases h
      | some es =>
        rw [h2] at h
        cases h
        obtain ⟨u, hu, ru⟩ := l _ (lookup_some h1)
        refine ⟨C, dd, fv, u, rfl, rfl, T, no f (.head _), hx, hi, hu, ?_⟩
        exact xats_read hK T hx hi e l fs (fun f' m => no f' (.tail _ m)) h2 _ fun vs r => q _ (.cons ru r)
section
variable {i : Nat} {nm qual : Str} {st : Stmt} {ks : List Str} {es : List Expr} {n1 n2 c1 c2 other : Expr} {v1 v2 : V} {cv1 cv2 : Value} {p1 p2 p3 p4 p5 p6 p7 p8 : Pos}
theorem two_read {K : PySem.W.Frag} {a C dd : Addr} {i : Nat} {σ : Sg} {H : Hp} {fv : List (Str × V)} {tb to : TE} {Q : VK} (T : Xk K C) (hx : H dd = some (.xd fv)) (hi : σ[i]? = some (some (.ref a))) (k1 : PySem.W.kitOne K (.ref C) cv1 = some true) (k2 : PySem.W.kitOne K (.ref C) cv2 = some true) (q : tb σ H Q) :
    tIf (tAnd (L2.tB (tIsX K a (.ref C) (some dd) i cv1)) (L2.tB (tIsX K a (.ref C) (some dd) i cv2))) tb to σ H Q :=
  ⟨C, dd, fv, rfl, rfl, T, hx, hi, k1, true, rfl, C, dd, fv, rfl, rfl, T, hx, hi, k2, true, rfl, q⟩
theorem pe_no {X : Cx} {e : Expr} : PE X e (fun _ _ _ => False) := ⟨fun _ _ _ _ _ _ h => h.elim⟩
def gives_lst (hK : B.K = X.K) (T : Xc X.K X.mg nm qual st ks) (hC : B.cls nm = some T.C) (hm : X.mg "isinstance" = none) (k1 : PySem.W.kitOne X.K (.ref T.C) cv1 = some true) (k2 : PySem.W.kitOne X.K (.ref T.C) cv2 = some true) (hl : ks.length ≤ 1000) (hne : ks ≠ [])
    (s1 : ∀ (a : Addr) (oe : Obj) (cls : Value) (d : Option Addr) (pn : List (Addr × Obj)), Zc cls d oe → (∃ vs, oe.data = .fields vs) → PE (X.suite a ((a, oe) :: pn)) (.Call (.Name "isinstance" p1) [n1, c1] [] p2) (tIsX X.K a cls d i cv1))
    (s2 : ∀ (a : Addr) (oe : Obj) (cls : Value) (d : Option Addr) (pn : List (Addr × Obj)), Zc cls d oe → (∃ vs, oe.data = .fields vs) → PE (X.suite a ((a, oe) :: pn)) (.Call (.Name "isinstance" p3) [n2, c2] [] p4) (tIsX X.K a cls d i cv2))
    (hb : ∀ (a : Addr) (oe : Obj) (cls : Value) (d : Option Addr) (pn : List (Addr × Obj)), Zc cls d oe → (∃ vs, oe.data = .fields vs) → PA (X.suite a ((a, oe) :: pn)) es (tXats X.K a cls d i ks))
    (w1 : ∀ (a : Addr) (pn : List (Addr × Obj)) (whole : Sem Value), isTrue (.Call (.Name "isinstance" p1) [n1, c1] [] p2) (X.suite a pn).env whole = (do let v ← whole; standAt p2; holding [v] (truthy v)) := by intro _ _ _; rfl)
    (w2 : ∀ (a : Addr) (pn : List (Addr × Obj)) (whole : Sem Value), isTrue (.Call (.Name "isinstance" p3) [n2, c2] [] p4) (X.suite a pn).env whole = (do let v ← whole; standAt p4; holding [v] (truthy v)) := by intro _ _ _; rfl) :
    Gives X B i [.Return (some (.IfExp (.BoolOp .And [.Call (.Name "isinstance" p1) [n1, c1] [] p2, .Call (.Name "isinstance" p3) [n2, c2] [] p4] p5) (.List es p6) other p7)) p8] (hdL nm .list ks) where
  ts := fun a cls d => tRet (tIf (tAnd (L2.tB (tIsX X.K a cls d i cv1)) (L2.tB (tIsX X.K a cls d i cv2))) (tLst (tXats X.K a cls d i ks)) (fun _ _ _ => False))
  ok := fun a oe cls d pn hz hf => pss_one (ps_ret (pe_ifExp (pw_and (pt_val (s1 a oe cls d pn hz hf) (w1 _ _)) (pw_and1 (pt_val (s2 a oe cls d pn hz hf) (w2 _ _)))).pt (pe_lst (hb a oe cls d pn hz hf)) pe_no))
  rd := fun e z A a C od σ H Dd he hx hi fr q => by
    unfold hdL at he
    split at he
    · rename_i hc
      obtain ⟨ds, hds, rfl⟩ := Option.map_eq_some_iff.mp he
      obtain ⟨h1, h2⟩ := hx
      rw [hc, hC] at h1
      cases h1
      rcases h2 with ⟨e1, e2⟩ | ⟨dx, fv, e1, e2, l⟩
      · subst e2
        cases ks with
        | nil => exact absurd rfl hne
        | cons f fs =>
          unfold xFields at hds
          rw [e1] at hds
          cases hds
      · subst e1
        refine two_read T.k e2 hi k1 k2 ?_
        refine xats_read hK T.k e2 hi e l ks T.no hds _ fun vs r => ?_
        refine ⟨?_, fun p hp => q _ _ (same_upd hp) (new_lst hp (fr p hp) r)⟩
        have := r.len
        have := xFields_len hds
        have : 1000 ≤ sizeLine := by rw [sizeLine_eq]; decide
        omega
    · cases he
end
end
section
variable {X : Cx} {CX : CXT} {k n : Nat} {f C : Addr} {fd : FuncData} {ps : List Str} {sp : Sp} {E E' : XK} {x m : Str} {p pos apos : Pos} {e o : Expr} {es : List Expr} {ta : TE} {t : TA} {B : Bs} {F : List Val → S → Out S Val} {g : Exs S}
theorem run_fgS {pins : List (Addr × Obj)} {σ : Sg} {H : Hp} {s : Shared} {Q : VK} {us : List Value} {vs : List V} (Fn : FnG X.prog X.w X.K X.mg X.base CX k f fd ps sp) (hr : Room k X.A) (hg : X.A.guards = some []) (hb : Binds X.K fd ps []) (hx : PassesAt CX X σ E)
    (I : L2.Inv X pins σ H s) (r : Vals vs us) (h : sp vs H Q E) : wpAny (model X.prog X.w) X.A (call (.ref f) us) (EP X pins σ Q) X.xe s := by
  have hl : us.length = ps.length := by rw [← r.length]; exact Fn.len _ _ _ _ h
  have hbi := hb s us I.kIn (by rw [List.append_nil]; exact hl)
  rw [List.append_nil] at hbi
  refine wpAny_call (codeAny_mono (Fn.run X.A X.stack s H ⟨us, []⟩ us vs Q E hr hg I.env0 hbi r h) (fun r s' hq => ?_))
  cases r with
  | error e => exact hx pins H s e s' I hq
  | ok fl => cases fl with
    | ret u => exact I.after hq
    | next => exact hq.elim
    | brk => exact hq.elim
    | cont => exact hq.elim
theorem pe_callGS {W : WX} (Fn : FnG X.prog X.w X.K X.mg X.base (L2.CX X.prog X.w) k f fd ps sp) (hr : Room k X.A) (hgd : X.A.guards = some []) (hg : Gl X x) (hm : X.mg x = some (.ref f)) (hk : PySem.W.keepIn X.K (.ref f) = true) (hb : Binds X.K fd ps []) (tk : Takes X W)
    (ha : PA X (e :: es) t) (hdb : (x == ("__debug__" : Str)) = false := by decide) (he : starEach (e :: es) X.env = (false, eval e X.env) :: starEach es X.env := by rfl) (hpl : (backTo pos (starEach es X.env)).any (·.1) = false := by rfl) :
    PE X (.Call (.Name x p) (e :: es) [] pos) (fun σ H Q => t σ H fun vs H1 => sp vs H1 Q (WE W σ)) := by
  constructor
  intro pins s σ H Q I h
  refine wpAny_Call_Name_kw (ld_glob I hg hm ?_ hdb)
  exact PySem.W.callWith_K (h₀ := X.base) I.ok.mod.kin hk (thn (ha.run pos pins s σ H _ I h) (fun us s1 ⟨vs, H1, I1, r, q⟩ => ⟨I1.kIn, run_fgS Fn hr hgd hb (passAt tk σ) I1 r q⟩)) he hpl
def sTry (i n : Nat) (F : List Val → S → Out S Val) (g : Exs S) (hd : Exn → Option D) : Sx S := fun ρ s => (noex (g ρ s)).bind fun ys s1 => if ys.length = n ∧ i < ρ.length then (match F ys s1 with
    | .ok y s2 => .ok (.rt y) s2
    | .ex e s2 => (match hd e with
      | some z => .ok (.rt (.d z)) s2
      | none => .bad)
    | .bad => .bad)
  else .bad
theorem ds_try {cx nx : Str} {np p2 p3 p4 : Pos} {b0 : Stmt} {suite : List Stmt} {i : Nat} {Cv : Value} {hd : Exn → Option D} (c : Ctx X B) (hi : X.N[i]? = some nx) (hln : X.env.kindOf nx = some .local) (hc : Names X cx Cv)
    (Fn : FnG X.prog X.w X.K X.mg X.base (L2.CX X.prog X.w) k f fd ps (spX B n F)) (hr : Room k X.A) (hm : X.mg x = some (.ref f)) (hk : PySem.W.keepIn X.K (.ref f) = true) (hb : Binds X.K fd ps [])
    (ha : ∀ (pn : List (Addr × Obj)) (xe : Value → Shared → Prop), DV (X.tr pn xe) B E00 (e :: es) g) (gv : Gives X B i (b0 :: suite) hd) (hex : ∀ e z C, hd e = some z → B.cls e.c = some C → PySem.W.exmOne X.K (.ref C) Cv = some true)
    (hs : X.stack = X.env :: X.outer := by rfl) (hf : X.env.frame = some X.env.locals := by rfl)
    (hg : Gl X x := by rfl) (hdb : (x == ("__debug__" : Str)) = false := by decide) (he : starEach (e :: es) X.env = (false, eval e X.env) :: starEach es X.env := by rfl) (hpl : (backTo pos (starEach es X.env)).any (·.1) = false := by rfl) :
    DS X B E (.Try [.Return (some (.Call (.Name x p) (e :: es) [] pos)) p2] [.ExceptHandler (some (.Name cx np)) (some nx) (b0 :: suite) p3] [] [] p4) (sTry i n F g hd) := by
  refine ps_imp (ps_try_as (tb := fun W => tRet (fun σ H Q => tVs B E00 g σ H fun vs H1 => spX B n F vs H1 Q (WE W σ))) (ts := gv.ts) (Wout := fun _ _ _ _ => False) hs hf c.nd hi hln hc takes0
    (fun W pn xe tk _ => pss_one (ps_ret (pe_callGS (X := X.tr pn xe) Fn hr c.gd hg hm hk hb tk (ha pn xe) hdb he hpl))) (fun a oe cls d pn hz hf => gv.ok a oe cls d pn hz hf)) fun Dd σ H ⟨G, own, ρ, s, R, q⟩ => ?_
  refine ⟨G, own, ρ, s, R, (noex_sat (Out.sat.bnd q)).mono fun ys s1 q1 vs H1 k1 r1 => ?_⟩
  have R1 := R.stp k1
  split at q1
  · rename_i hl
    refine ⟨Av G own, ys, s1, hl.1, call0_of R1 r1, ?_⟩
    cases hF : F ys s1 with
    | bad => rw [hF] at q1; exact q1.elim
    | ok y s2 =>
      rw [hF] at q1
      exact fun v H' c1 rv => q1 v H' (R1.stp (stp_of R1 c1)).frG (rv.mono fun a z => .inl z)
    | ex e s2 =>
      rw [hF] at q1
      intro C od H' c1 ex
      have R2 := R1.stp (stp_of R1 c1)
      cases hz : hd e with
      | none => simp only [hz] at q1; exact q1.elim
      | some z =>
        simp only [hz] at q1
        refine ⟨true, hex e z C hz ex.1, fun _ a _ => ?_, fun z => Bool.noConfusion z⟩
        refine gv.rd e z G.A0 a C od _ H' _ hz (ex.mono fun a z => .inl z) ?_ (fun p hp z => R2.wf2 p z hp) fun v H'' sm rv => ?_
        · rw [List.getElem?_set_self (by rw [← R.len]; exact hl.2)]
        · exact q1 v H'' (R2.stp (R2.same sm)).frG rv
  · exact q1.elim
end
theorem kit_own {K : PySem.W.Frag} {C C' : Addr} (h1 : PySem.W.isClsIn K C' = true) (h2 : PySem.W.typeIn K (.ref C') = some (.type "type")) (h3 : PySem.W.subIn K (.ref C) (.ref C') = some true) : PySem.W.kitOne K (.ref C) (.ref C') = some true := by
  unfold PySem.W.kitOne
  split
  · rfl
  · have e2 : ((PySem.W.clsIn K C').isSome && PySem.W.typeIn K (.ref C') == some (.type "type")) = true := by
      have h1' : (PySem.W.clsIn K C').isSome = true := h1
      rw [h1', h2] <;> rfl
    show (if ((PySem.W.clsIn K C').isSome && PySem.W.typeIn K (.ref C') == some (.type "type")) = true then PySem.W.subIn K (.ref C) (.ref C') else none) = some true
    rw [if_pos e2]
    exact h3
theorem kit_VE {K : PySem.W.Frag} {C : Addr} (h : PySem.W.subIn K (.ref C) (.type "ValueError") = some true) : PySem.W.kitOne K (.ref C) (.type "ValueError") = some true := by
  unfold PySem.W.kitOne
  rw [if_neg (by intro z; cases beq_iff_eq.mp z)]
  show (if PySem.W.kitMeta "ValueError" = true then PySem.W.subIn K (.ref C) (.type "ValueError") else none) = some true
  rw [if_pos (by decide +kernel)]
  exact h
theorem hex_of {K : PySem.W.Frag} {B : Bs} {nm : Str} {mk : List D → D} {ks : List Str} {C0 : Addr} {Cv : Value} (hC : B.cls nm = some C0) (h : PySem.W.exmOne K (.ref C0) Cv = some true) : ∀ e z C, hdL nm mk ks e = some z → B.cls e.c = some C → PySem.W.exmOne K (.ref C) Cv = some true := by
  intro e z C he hc
  unfold hdL at he
  split at he
  · rename_i hn
    rw [hn, hC] at hc
    cases hc
    exact h
  · cases he
theorem xc_then {G : Prop} {K : PySem.W.Frag} {h : Heap} {mg : Str → Option Value} {nm qual : Str} {st : Stmt} {ks : List Str} {C f1 : Addr} {cn q : Str} {N : Addr} {bs bm : List Value} {sn : List Str} {sub : List Value} {ab : Bool} {col : Option Bool} {dd : Option Addr} {m0 m1 m2 m3 m5 : Option Value}
    {od an : Option Addr} {sl : Array (Option Value)} {oc kV dc pm cd ct : Value} (X : K.In h) (Ng : h.Ns mainGlobals mg) (aC : PySem.W.nsIn K mainGlobals nm = some (some (.ref C)))
    (xL : K.lookup C = some (excClassObj cn q C N bs bm true sn sub ab col dd m0 m1 m2 m3 m5 "ValueError.__new__")) (hbm : PySem.HandSPX.refsVE bm = true)
    (sa : PySem.W.findIn K (.ref C) "__setattr__" = some (some (.builtin "object.__setattr__"))) (ga : PySem.W.findIn K (.ref C) "__getattribute__" = some (some (.builtin "BaseException.__getattribute__"))) (gg : PySem.W.findIn K (.ref C) "__getattr__" = some none)
    (a1 : PySem.W.findIn K (.ref C) "__init__" = some (some (.ref f1))) (t1 : PySem.W.typeIn K (.ref f1) = some (.type "function"))
    (l1 : K.lookup f1 = some ⟨oc, od, .func (PySem.W.fnOf "__init__" qual (defArgs st) (defBody st) (defScope st) .none kV dc pm an cd ct), sl⟩) (c1 : PySem.W.codeIn K cd qual = true) (kf : PySem.W.keepIn K (.ref f1) = true)
    (kC : PySem.W.keepIn K (.ref C) = true) (eC : PySem.W.subIn K (.ref C) (.type "BaseException") = some true) (tC : PySem.W.typeIn K (.ref C) = some (.type "type")) (hC : PySem.W.hasDictIn K C = true)
    (ha : PySem.W.findIn K (.ref C) "__class__" = some (some (.builtin "object.__class__"))) (hn : PySem.W.specialIn K (.builtin "object.__class__") "__get__" = some (some (.builtin "getset_descriptor.__get__"))) (ht : PySem.W.takesIn K (.builtin "object.__class__") = some true) (hm : PySem.W.mroIn K C (.type "object") = some true)
    (no : ∀ f ∈ ks, PySem.W.findIn K (.ref C) f = some none) (z : ∀ x : Xc K mg nm qual st ks, x.C = C → G) : G :=
  z ⟨C, f1, _, fun_mk l1 c1 kf, PySem.W.mg_of X Ng aC, ⟨⟨⟨cn, q, N, bs, bm, sn, sub, ab, col, dd, m0, m1, m2, m3, m5, xL, hbm⟩, sa, eC, tC, kC⟩, ga, gg, hC, ha, hn, ht, hm⟩, a1, t1, no⟩ rfl
theorem no2 {K : PySem.W.Frag} {C : Addr} {f g : Str} (h1 : PySem.W.findIn K (.ref C) f = some none) (h2 : PySem.W.findIn K (.ref C) g = some none) : ∀ x ∈ [f, g], PySem.W.findIn K (.ref C) x = some none := by
  intro x hx
  have hx : x = f ∨ x = g := by simpa using hx
  rcases hx with rfl | rfl
  · exact h1
  · exact h2
end DL
namespace DL
open PySem PySem.Spec PyProof.Rows L2
section
variable {S : Type} {α β : Type} {T : Exn → S → Prop}
def W0 (T : Exn → S → Prop) (o : Out S α) (Q : α → S → Prop) : Prop := match o with
  | .ok a s => Q a s
  | .ex e s => T e s
  | .bad => False
/-- a box, so that no reduction looks inside -/
structure WT (T : Exn → S → Prop) (o : Out S α) (Q : α → S → Prop) : Prop where
  box ::
  out : W0 T o Q
/-- no exception -/
def F0 : Exn → S → Prop := fun _ _ => False
abbrev W (o : Out S α) (Q : α → S → Prop) : Prop := WT F0 o Q
theorem WT.ok {o : Out S α} {Q : α → S → Prop} (h : WT F0 o Q) : ∃ a s, o = .ok a s ∧ Q a s := by
  obtain ⟨h⟩ := h
  cases o with
  | ok a s => exact ⟨a, s, rfl, h⟩
  | bad => exact h.elim
  | ex _ _ => exact h.elim
theorem WT.parts {o : Out S α} {Q : α → S → Prop} (h : WT T o Q) : (∃ a s, o = .ok a s ∧ Q a s) ∨ ∃ e s, o = .ex e s ∧ T e s := by
  obtain ⟨h⟩ := h
  cases o with
  | ok a s => exact .inl ⟨a, s, rfl, h⟩
  | bad => exact h.elim
  | ex e s => exact .inr ⟨e, s, rfl, h⟩
theorem w_ok {Q : α → S → Prop} {a : α} {s : S} (q : Q a s) : WT T (.ok a s) Q := ⟨q⟩
theorem WT.get {Q : α → S → Prop} {a : α} {s : S} (h : WT T (.ok a s) Q) : Q a s := h.out
theorem w_of {o : Out S α} {Q : α → S → Prop} {a : α} {s : S} (e : o = .ok a s) (q : Q a s) : WT T o Q := by rw [e]; exact ⟨q⟩
theorem WT.mono {o : Out S α} {Q Q' : α → S → Prop} (h : WT T o Q) (k : ∀ a s, Q a s → Q' a s) : WT T o Q' := by
  rcases h.parts with ⟨a, s, rfl, q⟩ | ⟨a, s, rfl, q⟩
  · exact ⟨k _ _ q⟩
  · exact ⟨q⟩
theorem w_bind {o : Out S α} {f : α → S → Out S β} {Q : β → S → Prop} (h : WT T o fun a s => WT T (f a s) Q) : WT T (o.bind f) Q := by
  rcases h.parts with ⟨a, s, rfl, q⟩ | ⟨a, s, rfl, q⟩
  · exact q
  · exact ⟨q⟩
theorem w_noex {o : Out S α} {Q : α → S → Prop} (h : W o Q) : WT T (noex o) Q := by
  obtain ⟨a, s, rfl, q⟩ := h.ok
  exact ⟨q⟩
theorem w_bindP {o : Out S α} {f : α → S → Out S β} {Q : β → S → Prop} (h : WT T o fun a s => W0 T (f a s) Q) : WT T (o.bind f) Q := by
  rcases h.parts with ⟨a, s, rfl, q⟩ | ⟨a, s, rfl, q⟩
  · exact ⟨q⟩
  · exact ⟨q⟩
theorem WT.eq {o : Out S α} {a : α} {s : S} (h : WT F0 o fun x s' => x = a ∧ s' = s) : o = .ok a s := by
  obtain ⟨_, _, e, rfl, rfl⟩ := h.ok
  exact e
theorem w_eq {o : Out S α} {a : α} {s : S} (h : W o fun x s' => x = a ∧ s' = s) : o = .ok a s := WT.eq h
theorem W.ok {o : Out S α} {Q : α → S → Prop} (h : W o Q) : ∃ a s, o = .ok a s ∧ Q a s := WT.ok h
theorem W.get {Q : α → S → Prop} {a : α} {s : S} (h : W (.ok a s) Q) : Q a s := h.out
theorem W.mono {o : Out S α} {Q Q' : α → S → Prop} (h : W o Q) (k : ∀ a s, Q a s → Q' a s) : W o Q' := WT.mono h k
theorem W.eq {o : Out S α} {a : α} {s : S} (h : W o fun x s' => x = a ∧ s' = s) : o = .ok a s := WT.eq h
/-- what is plain, and the rest -/
def Ck (p q : Prop) : Prop := p ∧ q
theorem ck {p q : Prop} (e : p) (h : q) : Ck p q := ⟨e, h⟩
/-- a display is no longer than a line -/
def LenOk (ds : List D) (q : Prop) : Prop := ds.length ≤ sizeLine ∧ q
theorem lenok {ds : List D} {q : Prop} (e : ds.length ≤ 1000) (h : q) : LenOk ds q := ⟨Nat.le_trans e (by rw [sizeLine_eq]; decide), h⟩
def FlK (k : Env → S → Prop) (Q : Fl → S → Prop) (fl : Fl) (s : S) : Prop := match fl with
  | .nx ρ => k ρ s
  | x => Q x s
theorem flk_nx {k : Env → S → Prop} {Q : Fl → S → Prop} {ρ : Env} {s : S} (h : k ρ s) : FlK k Q (.nx ρ) s := h
theorem flk_rt {k : Env → S → Prop} {Q : Fl → S → Prop} {y : Val} {s : S} (h : Q (.rt y) s) : FlK k Q (.rt y) s := h
theorem flk_bk {k : Env → S → Prop} {Q : Fl → S → Prop} {y : Env} {s : S} (h : Q (.bk y) s) : FlK k Q (.bk y) s := h
theorem flk_ct {k : Env → S → Prop} {Q : Fl → S → Prop} {y : Env} {s : S} (h : Q (.ct y) s) : FlK k Q (.ct y) s := h
/-- what a body gives back -/
def RtK (Q : Val → S → Prop) (fl : Fl) (s : S) : Prop := match fl with
  | .rt y => Q y s
  | .nx _ => Q (.d .none) s
  | _ => False
theorem rtk_rt {Q : Val → S → Prop} {y : Val} {s : S} (h : Q y s) : RtK Q (.rt y) s := h
theorem rtk_nx {Q : Val → S → Prop} {ρ : Env} {s : S} (h : Q (.d .none) s) : RtK Q (.nx ρ) s := h
/-- a turn of a loop -/
def LpK (k : Env → S → Prop) (Q : Fl → S → Prop) (fl : Fl) (s : S) : Prop := match fl with
  | .nx ρ => k ρ s
  | .ct ρ => k ρ s
  | .bk ρ => Q (.nx ρ) s
  | .rt y => Q (.rt y) s
  | .rg y ρ => Q (.rg y ρ) s
theorem lpk_nx {k : Env → S → Prop} {Q : Fl → S → Prop} {ρ : Env} {s : S} (h : k ρ s) : LpK k Q (.nx ρ) s := h
theorem lpk_ct {k : Env → S → Prop} {Q : Fl → S → Prop} {ρ : Env} {s : S} (h : k ρ s) : LpK k Q (.ct ρ) s := h
theorem lpk_bk {k : Env → S → Prop} {Q : Fl → S → Prop} {ρ : Env} {s : S} (h : Q (.nx ρ) s) : LpK k Q (.bk ρ) s := h
theorem lpk_rt {k : Env → S → Prop} {Q : Fl → S → Prop} {y : Val} {s : S} (h : Q (.rt y) s) : LpK k Q (.rt y) s := h
/-- a parting of ways -/
def Br (b : Bool) (p q : Prop) : Prop := if b then p else q
theorem br_t {p q : Prop} (h : p) : Br true p q := h
theorem br_f {p q : Prop} (h : q) : Br false p q := h
theorem br {b : Bool} {p q : Prop} (h : b = true → p) (k : b = false → q) : Br b p q := by
  cases b
  · exact k rfl
  · exact h rfl
theorem br_dec {P : Prop} [Decidable P] {p q : Prop} (h : P → p) (k : ¬ P → q) : Br (decide P) p q := br (fun e => h (of_decide_eq_true e)) fun e => k (of_decide_eq_false e)
theorem br_ndec {P : Prop} [Decidable P] {p q : Prop} (h : ¬ P → p) (k : P → q) : Br (!decide P) p q := br (fun e => h (by simpa using e)) fun e => k (by simpa using e)
/-- an environment, written out -/
def Stt (ρ : Env) (k : Env → Prop) : Prop := k ρ
theorem stt_z {a y : Sl} {as : Env} {k : Env → Prop} (h : k (y :: as)) : Stt ((a :: as).set 0 y) k := h
theorem stt_s {a y : Sl} {as : Env} {i : Nat} {k : Env → Prop} (h : Stt (as.set i y) fun r => k (a :: r)) : Stt ((a :: as).set (i + 1) y) k := h
variable {ρ : Env} {s : S} {i j n : Nat} {f fa fb fc : Ex S} {g : Exs S}
theorem w_var {y : Val} {Q : Val → S → Prop} (e : ρ[i]? = some (.v y)) (q : Q y s) : WT T (eVar i ρ s) Q := by unfold eVar; rw [e]; (first | exact q | exact ⟨q⟩ | exact WT.get q)
theorem w_bvar {y : Val} {Q : Val → S → Prop} (e : ρ[i]? = some (.v y)) (q : Q y s) : WT T (bVar i ρ s) Q := by unfold bVar; rw [e]; (first | exact q | exact ⟨q⟩ | exact WT.get q)
theorem w_bvarL {ds : List D} {Q : Val → S → Prop} (e : ρ[i]? = some (.l ds)) (q : Q (.d (.list ds)) s) : WT T (bVar i ρ s) Q := by unfold bVar; rw [e]; (first | exact q | exact ⟨q⟩ | exact WT.get q)
theorem w_bvarM {ds : List (D × D)} {Q : Val → S → Prop} (e : ρ[i]? = some (.m ds)) (q : Q (.d (.dict ds)) s) : WT T (bVar i ρ s) Q := by unfold bVar; rw [e]; (first | exact q | exact ⟨q⟩ | exact WT.get q)
theorem w_c {d : D} {Q : Val → S → Prop} (q : Q (.d d) s) : WT T (eC d ρ s) Q := (by first | exact q | exact ⟨q⟩ | exact WT.get q)
def BV (op : D → D → Option D) (x y : Val) (s : S) (Q : Val → S → Prop) : Prop := ∃ p q r, x = .d p ∧ y = .d q ∧ op p q = some r ∧ Q (.d r) s
theorem bv {op : D → D → Option D} {p q r : D} {Q : Val → S → Prop} (e : op p q = some r) (h : Q (.d r) s) : BV op (.d p) (.d q) s Q := ⟨p, q, r, rfl, rfl, e, h⟩
theorem w_bin {op : D → D → Option D} {Q : Val → S → Prop} (h : WT T (fa ρ s) fun x s1 => WT T (fb ρ s1) fun y s2 => BV op x y s2 Q) : WT T (eBin op fa fb ρ s) Q :=
  w_bind (h.mono fun x s1 h => w_bind (h.mono fun y s2 ⟨p, q, r, hx, hy, e, z⟩ => by subst hx hy; show WT T (match op p q with | some r => .ok (.d r) s2 | none => .bad) Q; rw [e]; (first | exact z | exact ⟨z⟩ | exact WT.get z)))
def UV (op : D → Option D) (x : Val) (s : S) (Q : Val → S → Prop) : Prop := ∃ p r, x = .d p ∧ op p = some r ∧ Q (.d r) s
theorem uv {op : D → Option D} {p r : D} {Q : Val → S → Prop} (e : op p = some r) (h : Q (.d r) s) : UV op (.d p) s Q := ⟨p, r, rfl, e, h⟩
theorem w_un {op : D → Option D} {Q : Val → S → Prop} (h : WT T (fa ρ s) fun x s1 => UV op x s1 Q) : WT T (eUn op fa ρ s) Q :=
  w_bind (h.mono fun x s1 ⟨p, r, hx, e, z⟩ => by subst hx; show WT T (match op p with | some r => .ok (.d r) s1 | none => .bad) Q; rw [e]; (first | exact z | exact ⟨z⟩ | exact WT.get z))
theorem w_anil {Q : List Val → S → Prop} (q : Q [] s) : WT T (aNil ρ s) Q := (by first | exact q | exact ⟨q⟩ | exact WT.get q)
theorem w_acons {Q : List Val → S → Prop} (h : WT T (f ρ s) fun x s1 => WT T (g ρ s1) fun xs s2 => Q (x :: xs) s2) : WT T (aCons f g ρ s) Q := w_bind (h.mono fun x s1 h => w_bindP h)
/-- a truth -/
def TV (x : Val) (s : S) (Q : Bool → S → Prop) : Prop := ∃ b, x = .d (.bool b) ∧ Q b s
theorem tv {b : Bool} {Q : Bool → S → Prop} (h : Q b s) : TV (.d (.bool b)) s Q := ⟨b, rfl, h⟩
theorem w_tof {Q : Bool → S → Prop} (h : WT T (f ρ s) fun x s1 => TV x s1 Q) : WT T (tOf f ρ s) Q := w_bind (h.mono fun x s1 ⟨b, hx, z⟩ => by subst hx; (first | exact z | exact ⟨z⟩ | exact WT.get z))
variable {c c1 c2 : DL.Tx S}
theorem w_not {Q : Bool → S → Prop} (h : WT T (c ρ s) fun b s1 => Q (!b) s1) : WT T (xNot c ρ s) Q := w_bindP h
theorem w_and {Q : Bool → S → Prop} (h : WT T (c1 ρ s) fun b s1 => Br b (WT T (c2 ρ s1) Q) (Q false s1)) : WT T (xAnd c1 c2 ρ s) Q := w_bind (h.mono fun b s1 h => by cases b <;> (first | exact h | exact ⟨h⟩ | exact WT.get h))
theorem w_or {Q : Bool → S → Prop} (h : WT T (c1 ρ s) fun b s1 => Br b (Q true s1) (WT T (c2 ρ s1) Q)) : WT T (xOr c1 c2 ρ s) Q := w_bind (h.mono fun b s1 h => by cases b <;> (first | exact h | exact ⟨h⟩ | exact WT.get h))
theorem w_yes {Q : Bool → S → Prop} (h : Q true s) : WT T (xYes ρ s) Q := (by first | exact h | exact ⟨h⟩ | exact WT.get h)
theorem w_enot {Q : Val → S → Prop} (h : WT T (f ρ s) fun x s1 => TV x s1 fun b s2 => Q (.d (.bool (!b))) s2) : WT T (eNot f ρ s) Q := w_bind (h.mono fun x s1 ⟨b, hx, z⟩ => by subst hx; (first | exact z | exact ⟨z⟩ | exact WT.get z))
theorem w_eand {Q : Val → S → Prop} (h : WT T (fa ρ s) fun x s1 => TV x s1 fun b s2 => Br b (WT T (fb ρ s2) Q) (Q (.d (.bool false)) s2)) : WT T (eAnd fa fb ρ s) Q := w_bind (h.mono fun x s1 ⟨b, hx, z⟩ => by subst hx; cases b <;> (first | exact z | exact ⟨z⟩ | exact WT.get z))
theorem w_eor {Q : Val → S → Prop} (h : WT T (fa ρ s) fun x s1 => TV x s1 fun b s2 => Br b (Q (.d (.bool true)) s2) (WT T (fb ρ s2) Q)) : WT T (eOr fa fb ρ s) Q := w_bind (h.mono fun x s1 ⟨b, hx, z⟩ => by subst hx; cases b <;> (first | exact z | exact ⟨z⟩ | exact WT.get z))
theorem w_eif {Q : Val → S → Prop} (h : WT T (c ρ s) fun b s1 => Br b (WT T (fa ρ s1) Q) (WT T (fb ρ s1) Q)) : WT T (eIf c fa fb ρ s) Q := w_bind (h.mono fun b s1 h => by cases b <;> exact h)
theorem w_chain {r r' : D → D → Option D} {Q : Val → S → Prop} (h : WT T (fa ρ s) fun x s1 => WT T (fb ρ s1) fun y s2 => BV r x y s2 fun t s3 => TV t s3 fun b s4 => Br b (WT T (fc ρ s4) fun z s5 => BV r' y z s5 Q) (Q (.d (.bool false)) s4)) : WT T (eChain r r' fa fb fc ρ s) Q := by
  refine w_bind (h.mono fun x s1 h => w_bind (h.mono fun y s2 h => ?_))
  obtain ⟨p, q, t, rfl, rfl, e, b, ht, z⟩ := h
  cases ht
  cases b with
  | false =>
    show WT T (match r p q with | some (.bool true) => _ | some (.bool false) => _ | _ => _) Q
    rw [e]
    (first | exact z | exact ⟨z⟩ | exact WT.get z)
  | true =>
    show WT T (match r p q with | some (.bool true) => _ | some (.bool false) => _ | _ => _) Q
    rw [e]
    refine w_bind (WT.mono z fun w s5 h => ?_)
    obtain ⟨p', q', t', h1, rfl, e', z'⟩ := h
    injection h1 with h1
    rw [← h1] at e'
    simp only [e']
    (first | exact z' | exact ⟨z'⟩ | exact WT.get z')
def DV_ (ys : List Val) (s : S) (Q : List D → S → Prop) : Prop := ∃ ds, datas ys = some ds ∧ Q ds s
theorem dvs {ds : List D} {ys : List Val} {Q : List D → S → Prop} (e : datas ys = some ds) (h : Q ds s) : DV_ ys s Q := ⟨ds, e, h⟩
theorem w_seqD {mk : List D → D} {Q : Val → S → Prop} (h : WT T (g ρ s) fun ys s1 => DV_ ys s1 fun ds s2 => LenOk ds (Q (.d (mk ds)) s2)) : WT T (eSeq mk g ρ s) Q :=
  w_bind (h.mono fun ys s1 ⟨ds, e, hl, z⟩ => by show WT T (match datas ys with | some ds => _ | none => _) Q; rw [e]; show WT T (if ds.length ≤ sizeLine then _ else _) Q; rw [if_pos hl]; (first | exact z | exact ⟨z⟩ | exact WT.get z))
theorem w_onone {Q : Option Int → S → Prop} (q : Q none s) : WT T (oNone ρ s) Q := (by first | exact q | exact ⟨q⟩ | exact WT.get q)
def IV (x : Val) (s : S) (Q : Int → S → Prop) : Prop := ∃ b, x = .d (.int b) ∧ Q b s
theorem iv {b : Int} {Q : Int → S → Prop} (h : Q b s) : IV (.d (.int b)) s Q := ⟨b, rfl, h⟩
theorem w_osome {Q : Option Int → S → Prop} (h : WT T (f ρ s) fun x s1 => IV x s1 fun b s2 => Q (some b) s2) : WT T (oSome f ρ s) Q := w_bind (h.mono fun x s1 ⟨b, hx, z⟩ => by subst hx; (first | exact z | exact ⟨z⟩ | exact WT.get z))
theorem w_sl {fl fh : Ox S} {Q : Val → S → Prop} (h : WT T (fa ρ s) fun x s1 => WT T (fl ρ s1) fun l s2 => WT T (fh ρ s2) fun h s3 => UV (fun d => opSl d l h) x s3 Q) : WT T (eSl fa fl fh ρ s) Q :=
  w_bind (h.mono fun x s1 h => w_bind (h.mono fun l s2 h => w_bind (h.mono fun u s3 ⟨p, r, hx, e, z⟩ => by subst hx; show WT T (match (fun d => opSl d l u) p with | some r => .ok (.d r) s3 | none => .bad) Q; rw [e]; (first | exact z | exact ⟨z⟩ | exact WT.get z))))
def CV (op : List D → Option D) (ys : List Val) (s : S) (Q : Val → S → Prop) : Prop := ∃ ds z, datas ys = some ds ∧ op ds = some z ∧ Q (.d z) s
theorem cv {op : List D → Option D} {ys : List Val} {ds : List D} {z : D} {Q : Val → S → Prop} (e : datas ys = some ds) (e' : op ds = some z) (h : Q (.d z) s) : CV op ys s Q := ⟨ds, z, e, e', h⟩
theorem cv1 {op : List D → Option D} {d z : D} {Q : Val → S → Prop} (e' : op [d] = some z) (h : Q (.d z) s) : CV op [.d d] s Q := ⟨[d], z, rfl, e', h⟩
theorem w_call {op : List D → Option D} {Q : Val → S → Prop} (h : WT T (g ρ s) fun ys s1 => CV op ys s1 Q) : WT T (eCall op g ρ s) Q :=
  w_bind (h.mono fun ys s1 ⟨ds, z, e, e', q⟩ => by show WT T (match datas ys with | some ds => _ | none => _) Q; rw [e]; show WT T (match op ds with | some z => .ok (.d z) s1 | none => .bad) Q; rw [e']; (first | exact q | exact ⟨q⟩ | exact WT.get q))
def Fw (n : Nat) (F : List Val → S → Out S Val) (ys : List Val) (s : S) (Q : Val → S → Prop) : Prop := ys.length = n ∧ W (F ys s) Q
theorem fw {F : List Val → S → Out S Val} {ys : List Val} {Q : Val → S → Prop} (e : ys.length = n) (h : W (F ys s) Q) : Fw n F ys s Q := ⟨e, h⟩
theorem w_fn {F : List Val → S → Out S Val} {Q : Val → S → Prop} (h : WT T (g ρ s) fun ys s1 => Fw n F ys s1 Q) : WT T (eFn n F g ρ s) Q :=
  w_bind (h.mono fun ys s1 ⟨e, q⟩ => by show WT T (if ys.length = n then _ else _) Q; rw [if_pos e]; exact w_noex q)
def HV (x : Val) (s : S) (Q : Val → S → Prop) : Prop := ∃ d, x = .d d ∧ hard d = true ∧ Q (.d d) s
theorem hv {d : D} {Q : Val → S → Prop} (e : hard d = true) (h : Q (.d d) s) : HV (.d d) s Q := ⟨d, rfl, e, h⟩
theorem w_fnB {F : List Val → S → Out S Val} {Q : Val → S → Prop} (h : WT T (g ρ s) fun ys s1 => Fw n F ys s1 fun y s2 => HV y s2 Q) : WT T (eFnB n F g ρ s) Q :=
  w_bind (h.mono fun ys s1 ⟨e, q⟩ => by
    show WT T (if ys.length = n then _ else _) Q
    rw [if_pos e]
    refine w_bind (w_noex (q.mono fun y s2 ⟨d, hd, hh, z⟩ => ?_))
    subst hd
    show WT T (if hard d = true then .ok (.d d) s2 else .bad) Q
    rw [if_pos hh]
    (first | exact z | exact ⟨z⟩ | exact WT.get z))
theorem w_isi {Ty : String} {Q : Val → S → Prop} (h : WT T (f ρ s) fun x s1 => UV (fun d => match d with | .dict _ => none | d => some (.bool (isT Ty d))) x s1 Q) : WT T (eIsi Ty f ρ s) Q :=
  w_bind (h.mono fun x s1 ⟨p, r, hx, e, z⟩ => by
    subst hx
    cases p with
    | dict _ => cases e
    | _ => cases e; (first | exact z | exact ⟨z⟩ | exact WT.get z))
variable {f' : Lx S}
theorem w_eL {Q : Val → S → Prop} (h : WT T (f' ρ s) fun ds s1 => Q (.d (.list ds)) s1) : WT T (eL f' ρ s) Q := w_bindP h
theorem w_lseq {Q : List D → S → Prop} (h : WT T (g ρ s) fun ys s1 => DV_ ys s1 fun ds s2 => LenOk ds (Q ds s2)) : WT T (lSeq g ρ s) Q :=
  w_bind (h.mono fun ys s1 ⟨ds, e, hl, z⟩ => by show WT T (match datas ys with | some ds => _ | none => _) Q; rw [e]; show WT T (if ds.length ≤ sizeLine then _ else _) Q; rw [if_pos hl]; (first | exact z | exact ⟨z⟩ | exact WT.get z))
def SV (x : Val) (s : S) (Q : List D → S → Prop) : Prop := ∃ ds, (x = .d (.list ds) ∨ x = .d (.tuple ds)) ∧ Q ds s
theorem sv_l {ds : List D} {Q : List D → S → Prop} (h : Q ds s) : SV (.d (.list ds)) s Q := ⟨ds, .inl rfl, h⟩
theorem sv_t {ds : List D} {Q : List D → S → Prop} (h : Q ds s) : SV (.d (.tuple ds)) s Q := ⟨ds, .inr rfl, h⟩
theorem w_iseq {Q : List D → S → Prop} (h : WT T (f ρ s) fun x s1 => SV x s1 Q) : WT T (iSeq f ρ s) Q := w_bind (h.mono fun x s1 ⟨ds, hx, z⟩ => by rcases hx with rfl | rfl <;> (first | exact z | exact ⟨z⟩ | exact WT.get z))
theorem w_lof {Q : List D → S → Prop} (h : WT T (f ρ s) fun x s1 => SV x s1 Q) : WT T (lOf f ρ s) Q := w_iseq h
def R1 (ys : List Val) (s : S) (Q : List D → S → Prop) : Prop := ∃ j, ys = [.d (.int j)] ∧ small62 j = true ∧ Q (rngD 0 j.toNat) s
theorem r1 {j : Int} {Q : List D → S → Prop} (e : small62 j = true) (h : Q (rngD 0 j.toNat) s) : R1 [.d (.int j)] s Q := ⟨j, rfl, e, h⟩
theorem w_rg1 {Q : List D → S → Prop} (h : WT T (g ρ s) fun ys s1 => R1 ys s1 Q) : WT T (iRg1 g ρ s) Q := w_bind (h.mono fun ys s1 ⟨j, hy, e, z⟩ => by subst hy; show WT T (if small62 j = true then _ else _) Q; rw [if_pos e]; (first | exact z | exact ⟨z⟩ | exact WT.get z))
def R2_ (ys : List Val) (s : S) (Q : List D → S → Prop) : Prop := ∃ i j, ys = [.d (.int i), .d (.int j)] ∧ (small62 i && small62 j) = true ∧ Q (rngD i (j - i).toNat) s
theorem r2 {i j : Int} {Q : List D → S → Prop} (e : (small62 i && small62 j) = true) (h : Q (rngD i (j - i).toNat) s) : R2_ [.d (.int i), .d (.int j)] s Q := ⟨i, j, rfl, e, h⟩
theorem w_rg2 {Q : List D → S → Prop} (h : WT T (g ρ s) fun ys s1 => R2_ ys s1 Q) : WT T (iRg2 g ρ s) Q := w_bind (h.mono fun ys s1 ⟨i, j, hy, e, z⟩ => by subst hy; show WT T (if (small62 i && small62 j) = true then _ else _) Q; rw [if_pos e]; (first | exact z | exact ⟨z⟩ | exact WT.get z))
def R3_ (ys : List Val) (s : S) (Q : List D → S → Prop) : Prop := ∃ i j, ys = [.d (.int i), .d (.int j), .d (.int (-1))] ∧ (small62 i && small62 j) = true ∧ Q (rngC i (-1) (i - j).toNat) s
theorem r3 {i j : Int} {Q : List D → S → Prop} (e : (small62 i && small62 j) = true) (h : Q (rngC i (-1) (i - j).toNat) s) : R3_ [.d (.int i), .d (.int j), .d (.int (-1))] s Q := ⟨i, j, rfl, e, h⟩
theorem w_rg3 {Q : List D → S → Prop} (h : WT T (g ρ s) fun ys s1 => R3_ ys s1 Q) : WT T (iRg3 g ρ s) Q := w_bind (h.mono fun ys s1 ⟨i, j, hy, e, z⟩ => by subst hy; show WT T (if (small62 i && small62 j) = true then _ else _) Q; rw [if_pos e]; (first | exact z | exact ⟨z⟩ | exact WT.get z))
def ZV (ys : List Val) (s : S) (Q : List D → S → Prop) : Prop := ∃ a b, (ys = [.d (.list a), .d (.list b)] ∨ ys = [.d (.tuple a), .d (.tuple b)]) ∧ Q (zipD a b) s
theorem zv_l {a b : List D} {Q : List D → S → Prop} (h : Q (zipD a b) s) : ZV [.d (.list a), .d (.list b)] s Q := ⟨a, b, .inl rfl, h⟩
theorem zv_t {a b : List D} {Q : List D → S → Prop} (h : Q (zipD a b) s) : ZV [.d (.tuple a), .d (.tuple b)] s Q := ⟨a, b, .inr rfl, h⟩
theorem w_zip {Q : List D → S → Prop} (h : WT T (g ρ s) fun ys s1 => ZV ys s1 Q) : WT T (iZip g ρ s) Q := w_bind (h.mono fun ys s1 ⟨a, b, hx, z⟩ => by rcases hx with rfl | rfl <;> (first | exact z | exact ⟨z⟩ | exact WT.get z))
variable {bt : Bt} {vs : List Nat}
theorem w_lc {it : Lx S} {Q : List D → S → Prop} (h : WT T (it ρ s) fun ds s1 => ds.length ≤ sizeLine ∧ WT T (lcL bt c f (wipeE vs ρ) ds s1) Q) : WT T (lLc it bt c f vs ρ s) Q :=
  w_bind (h.mono fun ds s1 ⟨hl, z⟩ => by show WT T (if ds.length ≤ sizeLine then _ else _) Q; rw [if_pos hl]; exact z)
/-- one item of a comprehension -/
def ItemW (bt : Bt) (c : DL.Tx S) (f : Ex S) (ρ : Env) (d : D) (s : S) (Q : Option D → S → Prop) : Prop := ∃ ρ1, bt d ρ = some ρ1 ∧ W (c ρ1 s) fun b s1 => Br b (W (f ρ1 s1) fun y s2 => ∃ z, y = .d z ∧ Q (some z) s2) (Q none s1)
theorem lc_cons {d : D} {ds : List D} {Q : List D → S → Prop} (h : ItemW bt c f ρ d s fun o s1 => WT T (lcL bt c f ρ ds s1) fun r s2 => Q (o.toList ++ r) s2) : WT T (lcL bt c f ρ (d :: ds) s) Q := by
  obtain ⟨ρ1, e, h⟩ := h
  unfold lcL
  rw [e]
  refine w_bind (w_noex (h.mono fun b s1 h => ?_))
  cases b with
  | false => exact WT.mono h fun r s2 q => q
  | true =>
    refine w_bind (w_noex (WT.mono h fun y s2 ⟨z, hy, q⟩ => ?_))
    subst hy
    exact w_bindP q
/-- a comprehension by an invariant: what it has found so far -/
theorem lc_inv (I : Nat → List D → S → Prop) : ∀ (ds : List D) (n : Nat) (acc : List D) {s : S}, I n acc s → (∀ k d, ds[k]? = some d → ∀ a s, I (n + k) a s → ItemW bt c f ρ d s fun o s1 => I (n + k + 1) (a ++ o.toList) s1) → ∀ {Q : List D → S → Prop}, (∀ r s', I (n + ds.length) (acc ++ r) s' → Q r s') → WT T (lcL bt c f ρ ds s) Q
  | [], n, acc, s, h0, _, Q, q => ⟨q [] s (by simpa using h0)⟩
  | d :: ds, n, acc, s, h0, h, Q, q => by
    refine lc_cons ?_
    obtain ⟨ρ1, e, z⟩ := h 0 d rfl acc s h0
    have go : ∀ (o : Option D) (s1 : S), I (n + 1) (acc ++ o.toList) s1 → WT T (lcL bt c f ρ ds s1) fun r s2 => Q (o.toList ++ r) s2 := fun o s1 h1 =>
      lc_inv I ds (n + 1) (acc ++ o.toList) h1 (fun k d' e a s hI => by
        have hk : n + 1 + k = n + (k + 1) := by omega
        rw [hk] at hI ⊢
        exact h (k + 1) d' (by simpa using e) a s hI) fun r s' hI => q _ s' (by
          rw [List.length_cons, ← List.append_assoc]
          rw [show n + (ds.length + 1) = n + 1 + ds.length by omega]
          exact hI)
    refine ⟨ρ1, e, z.mono fun b s1 z => ?_⟩
    cases b with
    | false => exact go none s1 z
    | true => exact WT.mono z fun y s2 ⟨w, hy, h1⟩ => ⟨w, hy, go (some w) s2 h1⟩
variable {g1 g2 : Sx S} {Q : Fl → S → Prop}
theorem w_nil (q : Q (.nx ρ) s) : WT T (sNil ρ s) Q := (by first | exact q | exact ⟨q⟩ | exact WT.get q)
theorem w_sq (h : WT T (g1 ρ s) (FlK (fun ρ1 s1 => WT T (g2 ρ1 s1) Q) Q)) : WT T (sSeq g1 g2 ρ s) Q := w_bind (h.mono fun fl s1 h => by cases fl <;> (first | exact h | exact ⟨h⟩ | exact WT.get h))
theorem w_brk (q : Q (.bk ρ) s) : WT T (sBrk ρ s) Q := (by first | exact q | exact ⟨q⟩ | exact WT.get q)
theorem w_cnt (q : Q (.ct ρ) s) : WT T (sCnt ρ s) Q := (by first | exact q | exact ⟨q⟩ | exact WT.get q)
theorem w_drop (h : WT T (f ρ s) fun _ s1 => Q (.nx ρ) s1) : WT T (sDrop f ρ s) Q := w_bindP h
theorem w_ret (h : WT T (f ρ s) fun y s1 => Q (.rt y) s1) : WT T (sRet f ρ s) Q := w_bindP h
theorem w_retN (q : Q (.rt (.d .none)) s) : WT T (sRetN ρ s) Q := (by first | exact q | exact ⟨q⟩ | exact WT.get q)
theorem w_if (h : WT T (c ρ s) fun b s1 => Br b (WT T (g1 ρ s1) Q) (WT T (g2 ρ s1) Q)) : WT T (sIf c g1 g2 ρ s) Q := w_bind (h.mono fun b s1 h => by cases b <;> exact h)
theorem w_set (h : WT T (f ρ s) fun y s1 => Stt (ρ.set i (.v y)) fun ρ1 => Q (.nx ρ1) s1) : WT T (sSet i f ρ s) Q := w_bindP h
theorem w_new (h : WT T (f' ρ s) fun ds s1 => Stt (ρ.set i (.l ds)) fun ρ1 => Q (.nx ρ1) s1) : WT T (sNew i f' ρ s) Q := w_bindP h
theorem w_unp (h : WT T (f ρ s) fun y s1 => ∃ d ρ1, y = .d d ∧ bt d ρ = some ρ1 ∧ Q (.nx ρ1) s1) : WT T (sUnp bt f ρ s) Q :=
  w_bind (h.mono fun y s1 ⟨d, ρ1, hy, e, z⟩ => by subst hy; show WT T (match bt d ρ with | some ρ' => .ok (.nx ρ') s1 | none => .bad) Q; rw [e]; (first | exact z | exact ⟨z⟩ | exact WT.get z))
theorem w_frz (h : WT T (g1 (frz i ρ) s) Q) : WT T (sFrz i g1 ρ s) Q := h
theorem w_app {ds : List D} (e : ρ[i]? = some (.l ds)) (h : WT T (f ρ s) fun y s1 => ∃ z, y = .d z ∧ ds.length < sizeLine ∧ Stt (ρ.set i (.l (ds ++ [z]))) fun ρ1 => Q (.nx ρ1) s1) : WT T (sApp i f ρ s) Q := by
  unfold sApp
  rw [e]
  refine w_bind (h.mono fun y s1 ⟨z, hy, hl, q⟩ => ?_)
  subst hy
  show WT T (if ds.length < sizeLine then _ else _) Q
  rw [if_pos hl]
  (first | exact q | exact ⟨q⟩ | exact WT.get q)
theorem w_ext {ds : List D} (e : ρ[i]? = some (.l ds)) (h : WT T (f ρ s) fun y s1 => ∃ zs, y = .d (.list zs) ∧ ds.length + zs.length ≤ sizeLine ∧ Stt (ρ.set i (.l (ds ++ zs))) fun ρ1 => Q (.nx ρ1) s1) : WT T (sExt i f ρ s) Q := by
  unfold sExt
  rw [e]
  refine w_bind (h.mono fun y s1 ⟨z, hy, hl, q⟩ => ?_)
  subst hy
  show WT T (if ds.length + z.length ≤ sizeLine then _ else _) Q
  rw [if_pos hl]
  (first | exact q | exact ⟨q⟩ | exact WT.get q)
theorem w_mnil {Q : List Sl → S → Prop} (q : Q [] s) : WT T (mNil ρ s) Q := (by first | exact q | exact ⟨q⟩ | exact WT.get q)
theorem w_mval {gm : Ms S} {Q : List Sl → S → Prop} (h : WT T (f ρ s) fun y s1 => WT T (gm ρ s1) fun cs s2 => Q (.v y :: cs) s2) : WT T (mVal f gm ρ s) Q := w_bind (h.mono fun y s1 h => w_bindP h)
theorem w_mnew {fn : Nx S} {gm : Ms S} {Q : List Sl → S → Prop} (h : WT T (fn ρ s) fun y s1 => WT T (gm ρ s1) fun cs s2 => Q (y :: cs) s2) : WT T (mNew fn gm ρ s) Q := w_bind (h.mono fun y s1 h => w_bindP h)
theorem w_nL {Q : Sl → S → Prop} (h : WT T (f' ρ s) fun ds s1 => Q (.l ds) s1) : WT T (nL f' ρ s) Q := w_bindP h
theorem w_nD {Q : Sl → S → Prop} (h : Q (.m []) s) : WT T (nD ρ s) Q := (by first | exact h | exact ⟨h⟩ | exact WT.get h)
theorem w_newN {fn : Nx S} (h : WT T (fn ρ s) fun x s1 => Stt (ρ.set i x) fun ρ1 => Q (.nx ρ1) s1) : WT T (sNewN i fn ρ s) Q := w_bindP h
/-- the slots, one after the other -/
def Sts (is : List Nat) (cs : List Sl) (ρ : Env) (k : Env → Prop) : Prop := k (setAll is cs ρ)
theorem sts_c {is : List Nat} {c : Sl} {cs : List Sl} {k : Env → Prop} (h : Stt (ρ.set i c) fun ρ1 => Sts is cs ρ1 k) : Sts (i :: is) (c :: cs) ρ k := h
theorem sts_n {k : Env → Prop} (h : k ρ) : Sts [] [] ρ k := h
theorem w_par {is : List Nat} {gm : Ms S} (h : WT T (gm ρ s) fun cs s1 => Ck (cs.length = is.length) (Sts is cs ρ fun ρ1 => Q (.nx ρ1) s1)) : WT T (sPar is gm ρ s) Q :=
  w_bind (h.mono fun cs s1 ⟨e, q⟩ => by show WT T (if cs.length = is.length then _ else _) Q; rw [if_pos e]; (first | exact q | exact ⟨q⟩ | exact WT.get q))
theorem w_for {it : Lx S} (h : WT T (it ρ s) fun ds s1 => WT T (forL bt g1 ds ρ s1) Q) : WT T (sFor it bt g1 ρ s) Q := w_bind h
theorem for_cons {d : D} {ds : List D} {ρ1 : Env} (e : bt d ρ = some ρ1) (h : WT T (g1 ρ1 s) (LpK (fun ρ2 s2 => WT T (forL bt g1 ds ρ2 s2) Q) Q)) : WT T (forL bt g1 (d :: ds) ρ s) Q := by
  unfold forL
  rw [e]
  refine w_bind (h.mono fun fl s1 h => ?_)
  cases fl <;> (first | exact h | exact ⟨h⟩ | exact WT.get h)
/-- a loop by an invariant -/
theorem for_inv (I : Nat → Env → S → Prop) : ∀ (ds : List D) (n : Nat) {ρ : Env} {s : S}, I n ρ s → (∀ k d, ds[k]? = some d → ∀ ρ s, I (n + k) ρ s → ∃ ρ1, bt d ρ = some ρ1 ∧ WT T (g1 ρ1 s) (LpK (I (n + k + 1)) Q)) → (∀ ρ s, I (n + ds.length) ρ s → Q (.nx ρ) s) → WT T (forL bt g1 ds ρ s) Q
  | [], n, ρ, s, h0, _, q => ⟨q ρ s h0⟩
  | d :: ds, n, ρ, s, h0, h, q => by
    obtain ⟨ρ1, e, z⟩ := h 0 d rfl ρ s h0
    refine for_cons e (z.mono fun fl s1 z => ?_)
    have go : ∀ (ρ2 : Env) (s1 : S), I (n + 1) ρ2 s1 → WT T (forL bt g1 ds ρ2 s1) Q := fun ρ2 s1 h1 =>
      for_inv I ds (n + 1) h1 (fun k d' e ρ s hI => by
        have hk : n + 1 + k = n + (k + 1) := by omega
        rw [hk] at hI ⊢
        exact h (k + 1) d' (by simpa using e) ρ s hI) fun ρ s hI => q ρ s (by
          rw [List.length_cons, show n + (ds.length + 1) = n + 1 + ds.length by omega]
          exact hI)
    cases fl with
    | nx ρ2 => exact go ρ2 s1 z
    | ct ρ2 => exact go ρ2 s1 z
    | bk ρ2 => exact z
    | rt y => exact z
    | rg y ρ2 => exact z
theorem wh_inv (I : Nat → Env → S → Prop) (hI : ∀ m ρ s, I m ρ s → WT T (c ρ s) fun b s1 => Br b (WT T (g1 ρ s1) (LpK (fun ρ2 s2 => ∃ m', m' < m ∧ I m' ρ2 s2) Q)) (Q (.nx ρ) s1)) : ∀ (n m : Nat) {ρ : Env} {s : S}, m < n → I m ρ s → WT T (whL c g1 n ρ s) Q
  | 0, m, _, _, h, _ => absurd h (Nat.not_lt_zero _)
  | n + 1, m, ρ, s, h, h0 => by
    unfold whL
    refine w_bind ((hI m ρ s h0).mono fun b s1 z => ?_)
    cases b with
    | false => (first | exact z | exact ⟨z⟩ | exact WT.get z)
    | true =>
      refine w_bind (WT.mono z fun fl s2 z => ?_)
      cases fl with
      | nx ρ2 => obtain ⟨m', hm, z⟩ := z; exact wh_inv I hI n m' (by omega) z
      | ct ρ2 => obtain ⟨m', hm, z⟩ := z; exact wh_inv I hI n m' (by omega) z
      | bk ρ2 => (first | exact z | exact ⟨z⟩ | exact WT.get z)
      | rt y => (first | exact z | exact ⟨z⟩ | exact WT.get z)
      | rg y ρ2 => (first | exact z | exact ⟨z⟩ | exact WT.get z)
theorem FU_eq : FU = 1000000000 := by unfold FU; rfl
theorem w_while (I : Nat → Env → S → Prop) {m : Nat} (hm : m < 1000000000) (h0 : I m ρ s) (hI : ∀ m ρ s, I m ρ s → WT T (c ρ s) fun b s1 => Br b (WT T (g1 ρ s1) (LpK (fun ρ2 s2 => ∃ m', m' < m ∧ I m' ρ2 s2) Q)) (Q (.nx ρ) s1)) : WT T (sWh FU c g1 ρ s) Q :=
  wh_inv I hI FU m (by rw [FU_eq]; exact hm) h0
theorem w_run {body : Sx S} {ys : List Val} {Q : Val → S → Prop} (h : WT T (body (ys.map .v ++ List.replicate n .no) s) (RtK Q)) : WT T (runF n body ys s) Q :=
  w_bind (h.mono fun fl s1 h => by cases fl <;> (first | exact h | exact ⟨h⟩ | exact WT.get h))
end
section
variable {T : Exn → Dk → Prop} {ρ : Env} {s : Dk} {i j n : Nat} {f : Ex Dk}
theorem isDk_of {a : Addr} (e : ρ[i]? = some (.v (.r (.ref a)))) (h : a = s.dk) : isDk i ρ s = true := by unfold isDk; rw [e, h]; exact beq_self_eq_true _
theorem w_dk {x : Int} {Q : Val → Dk → Prop} (e : ρ[i]? = some (.v (.r (.ref s.dk)))) (ex : s.get j = some x) (q : Q (.d (.int x)) s) : WT T (eDk i j ρ s) Q := by
  unfold eDk; rw [if_pos (isDk_of e rfl), ex]; (first | exact q | exact ⟨q⟩ | exact WT.get q)
theorem w_dkne {Q : Bool → Dk → Prop} (e : ρ[i]? = some (.v (.r (.ref s.dk)))) (q : Q (!s.cells.isEmpty) s) : WT T (xDkNe i ρ s) Q := by
  unfold xDkNe; rw [if_pos (isDk_of e rfl)]; (first | exact q | exact ⟨q⟩ | exact WT.get q)
theorem w_dkl {Q : Val → Dk → Prop} (e : ρ[i]? = some (.v (.r (.ref s.dk)))) (q : Q (.d (.int s.cells.length)) s) : WT T (eDkL i ρ s) Q := by
  unfold eDkL; rw [if_pos (isDk_of e rfl)]; (first | exact q | exact ⟨q⟩ | exact WT.get q)
theorem w_dkc {Q : Val → Dk → Prop} (e : ρ[i]? = some (.v (.r (.ref s.dk)))) (h : WT T (f ρ s) fun y s1 => IV y s1 fun j s1 => Ck (s1 = s) (∃ x, L2.atI s.cells j = some x ∧ Q (.d (.int x)) s)) : WT T (eDkC i f ρ s) Q := by
  unfold eDkC; rw [if_pos (isDk_of e rfl)]
  refine w_bind (h.mono fun y s1 ⟨j, hy, hs, x, e, q⟩ => ?_)
  subst hy hs
  show WT T (if s1.dk = s1.dk ∧ s1.a0 = s1.a0 then _ else _) Q
  rw [if_pos ⟨rfl, rfl⟩, e]
  (first | exact q | exact ⟨q⟩ | exact WT.get q)
theorem w_sdk {Q : Fl → Dk → Prop} {a : Addr} (e : ρ[i]? = some (.v (.r (.ref a)))) (hj : j = 1 ∨ j = 2 ∨ j = 3) (h : WT T (f ρ s) fun y s1 => IV y s1 fun x s1 => Ck (a = s1.dk) (Q (.nx ρ) (s1.put j x))) : WT T (sDk i j f ρ s) Q := by
  unfold sDk
  refine w_bind (h.mono fun y s1 ⟨x, hy, hs, q⟩ => ?_)
  subst hy
  rw [if_pos (isDk_of e hs)]
  show WT T (if j = 1 ∨ j = 2 ∨ j = 3 then _ else _) Q
  rw [if_pos hj]
  (first | exact q | exact ⟨q⟩ | exact WT.get q)
end
end DL
namespace DL
open PySem PySem.Spec PyProof.Rows L2
section
variable {S : Type} {s : S} {Q : Val → S → Prop} {a b : Int} {as bs : List D}
theorem bv_add (q : Q (.d (.int (a + b))) s) : BV opAdd (.d (.int a)) (.d (.int b)) s Q := bv rfl q
theorem bv_addT (q : Q (.d (.tuple (as ++ bs))) s) (h : as.length + bs.length ≤ sizeLine) : BV opAdd (.d (.tuple as)) (.d (.tuple bs)) s Q := bv (by exact if_pos h) q
theorem bv_addL (q : Q (.d (.list (as ++ bs))) s) (h : as.length + bs.length ≤ sizeLine) : BV opAdd (.d (.list as)) (.d (.list bs)) s Q := bv (by exact if_pos h) q
theorem bv_sub (q : Q (.d (.int (a - b))) s) : BV opSub (.d (.int a)) (.d (.int b)) s Q := bv rfl q
theorem bv_mul (q : Q (.d (.int (a * b))) s) (h : (-(2 ^ 64) < a ∧ a < 2 ^ 64) ∨ (-(2 ^ 64) < b ∧ b < 2 ^ 64)) : BV opMul (.d (.int a)) (.d (.int b)) s Q :=
  bv (by exact if_pos (by unfold mulOk; exact decide_eq_true h)) q
theorem bv_mulT (q : Q (.d (.tuple (List.replicate b.toNat as).flatten)) s) (h : -1000 ≤ b ∧ b ≤ 4000 ∧ as.length ≤ 1000) : BV opMul (.d (.tuple as)) (.d (.int b)) s Q :=
  bv (by exact if_pos h) q
theorem bv_div (q : Q (.d (.int (a / b))) s) (h : 0 < b ∧ b < 1073741824) : BV opDiv (.d (.int a)) (.d (.int b)) s Q := bv (by exact if_pos h) q
theorem bv_mod (q : Q (.d (.int (a % b))) s) (h : 0 < b) : BV opMod (.d (.int a)) (.d (.int b)) s Q := bv (by exact if_pos h) q
theorem bv_pow (q : Q (.d (.int (a ^ b.toNat))) s) (h : 0 ≤ b ∧ b ≤ 1000000 ∧ a.natAbs < 2 ^ 64) : BV opPow (.d (.int a)) (.d (.int b)) s Q := bv (by exact if_pos h) q
theorem bv_rel {f : Int → Int → Bool} (q : Q (.d (.bool (f a b))) s) : BV (opRel f) (.d (.int a)) (.d (.int b)) s Q := bv rfl q
theorem bv_eq {d e : D} (q : Q (.d (.bool (PyData.eqv d e))) s) (h : (SeqAt.shaped d && SeqAt.shaped e) = true) : BV opEq (.d d) (.d e) s Q := bv (by exact if_pos h) q
theorem bv_ne {d e : D} (q : Q (.d (.bool (!PyData.eqv d e))) s) (h : (SeqAt.shaped d && SeqAt.shaped e) = true) : BV opNe (.d d) (.d e) s Q := bv (by exact if_pos h) q
theorem uv_neg (q : Q (.d (.int (-a))) s) : UV opNeg (.d (.int a)) s Q := uv rfl q
theorem atI_nat {α : Type} (xs : List α) (n : Nat) : L2.atI xs (n : Int) = xs[n]? := by
  unfold L2.atI L2.ixN
  by_cases h : n < xs.length
  · rw [if_pos (by omega), if_pos (by omega)]
    simp
  · rw [if_pos (by omega), if_neg (by omega), List.getElem?_eq_none (by omega)]
    rfl
theorem atI_get {α : Type} {xs : List α} {i : Int} (h0 : 0 ≤ i) (h1 : i < xs.length) : ∃ h : i.toNat < xs.length, L2.atI xs i = some xs[i.toNat] := by
  obtain ⟨n, rfl⟩ := Int.eq_ofNat_of_zero_le h0
  have hn : n < xs.length := by omega
  refine ⟨by simpa using hn, ?_⟩
  rw [atI_nat, List.getElem?_eq_getElem hn]
  rfl
theorem bv_ix0 {x : D} {xs : List D} (q : Q (.d x) s) : BV opIx (.d (.tuple (x :: xs))) (.d (.int 0)) s Q := bv (by
  show L2.atI (x :: xs) ((0 : Nat) : Int) = some x
  rw [atI_nat]; rfl) q
theorem bv_ix0L {x : D} {xs : List D} (q : Q (.d x) s) : BV opIx (.d (.list (x :: xs))) (.d (.int 0)) s Q := bv (by
  show L2.atI (x :: xs) ((0 : Nat) : Int) = some x
  rw [atI_nat]; rfl) q
theorem cv_lenL (q : Q (.d (.int as.length)) s) : CV oLen [.d (.list as)] s Q := cv1 rfl q
theorem cv_lenT (q : Q (.d (.int as.length)) s) : CV oLen [.d (.tuple as)] s Q := cv1 rfl q
theorem cv_abs (q : Q (.d (.int (if a < 0 then -a else a))) s) : CV oAbs [.d (.int a)] s Q := cv1 rfl q
theorem cv_int (q : Q (.d (.int a)) s) : CV oInt [.d (.int a)] s Q := cv1 rfl q
theorem cv_tupL (q : Q (.d (.tuple as)) s) : CV oTuple [.d (.list as)] s Q := cv1 rfl q
theorem cv_tupT (q : Q (.d (.tuple as)) s) : CV oTuple [.d (.tuple as)] s Q := cv1 rfl q
theorem cv_listL (q : Q (.d (.list as)) s) : CV oList [.d (.list as)] s Q := cv1 rfl q
theorem cv_listT (q : Q (.d (.list as)) s) : CV oList [.d (.tuple as)] s Q := cv1 rfl q
theorem boolsD_map : ∀ ns : List Bool, boolsD (ns.map .bool) = some ns
  | [] => rfl
  | n :: ns => by rw [List.map_cons, boolsD, boolsD_map ns]; rfl
theorem boolsD_mapf {α : Type} (f : α → Bool) (xs : List α) : boolsD (xs.map fun x => PyData.bool (f x)) = some (xs.map f) := by rw [← boolsD_map, List.map_map]; rfl
theorem cv_all {α : Type} {f : α → Bool} {xs : List α} (q : Q (.d (.bool (xs.all f))) s) : CV oAll [.d (.list (xs.map fun x => PyData.bool (f x)))] s Q :=
  cv1 (by show Option.map _ (boolsD _) = _; rw [boolsD_mapf]; simp [Function.comp_def]) q
theorem cv_repr {d : D} (q : Q (.d (.str d.shown)) s) (h : d.canLay0 = true ∧ d.showable = true ∧ d.shown.length ≤ sizeLine ∧ d.depth ≤ 60) : CV oRepr [.d d] s Q :=
  cv1 (by exact if_pos (by simp [h.1, h.2.1, h.2.2.1, h.2.2.2])) q
theorem uv_slT {lo hi : Option Int} (q : Q (.d (.tuple (cutL as lo hi))) s) : UV (fun d => opSl d lo hi) (.d (.tuple as)) s Q := uv rfl q
theorem uv_slL {lo hi : Option Int} (q : Q (.d (.list (cutL as lo hi))) s) : UV (fun d => opSl d lo hi) (.d (.list as)) s Q := uv rfl q
/-- all but the last -/
theorem cut_init {α : Type} (xs : List α) : cutL xs none (some (-1)) = xs.dropLast := by
  unfold cutL
  rw [HT.sIx_none]
  have e : HT.sIx xs.length xs.length (some (-1)) = xs.length - 1 := by
    unfold HT.sIx
    simp
    omega
  rw [e]
  simp [List.dropLast_eq_take]
theorem rg1 {j : Int} {Q : List D → S → Prop} (h : Q (rngD 0 j.toNat) s) (e : -4611686018427387904 ≤ j ∧ j < 4611686018427387904) : R1 [.d (.int j)] s Q := r1 (decide_eq_true e) h
theorem rg2 {i j : Int} {Q : List D → S → Prop} (h : Q (rngD i (j - i).toNat) s) (e : (-4611686018427387904 ≤ i ∧ i < 4611686018427387904) ∧ -4611686018427387904 ≤ j ∧ j < 4611686018427387904) : R2_ [.d (.int i), .d (.int j)] s Q :=
  r2 (by rw [Bool.and_eq_true]; exact ⟨decide_eq_true e.1, decide_eq_true e.2⟩) h
theorem rg3 {i j : Int} {Q : List D → S → Prop} (h : Q (rngC i (-1) (i - j).toNat) s) (e : (-4611686018427387904 ≤ i ∧ i < 4611686018427387904) ∧ -4611686018427387904 ≤ j ∧ j < 4611686018427387904) : R3_ [.d (.int i), .d (.int j), .d (.int (-1))] s Q :=
  r3 (by rw [Bool.and_eq_true]; exact ⟨decide_eq_true e.1, decide_eq_true e.2⟩) h
theorem dvl_nil {Q : List D → S → Prop} (h : Q [] s) : DV_ [] s Q := dvs rfl h
theorem dvl_cons {d : D} {ys : List Val} {Q : List D → S → Prop} (h : DV_ ys s fun ds s1 => Q (d :: ds) s1) : DV_ (.d d :: ys) s Q := by
  obtain ⟨ds, e, q⟩ := h
  exact dvs (by rw [datas, e]; rfl) q
theorem rng_len (lo : Int) (n : Nat) : (rngD lo n).length = n := by unfold rngD; simp
theorem rng_at {lo : Int} {n k : Nat} {d : D} (h : (rngD lo n)[k]? = some d) : k < n ∧ d = .int (lo + k) := by
  unfold rngD at h
  rw [List.getElem?_map] at h
  by_cases hk : k < n
  · rw [List.getElem?_range hk] at h
    exact ⟨hk, (Option.some.inj h).symm⟩
  · rw [List.getElem?_eq_none (by simpa using hk)] at h
    cases h
theorem sizeLine_big : 1000000 < sizeLine := by rw [sizeLine_eq]; decide
end
section
variable {S : Type} {T : Exn → S → Prop} {s : S} {ρ : Env} {bt : Bt} {c : DL.Tx S} {f : Ex S}
/-- .. over items that are data of something -/
theorem lc_mapOf {α : Type} (e k : α → D) (xs : List α) {Q : List D → S → Prop} (h : ∀ x ∈ xs, ItemW bt c f ρ (e x) s fun o s1 => o = some (k x) ∧ s1 = s) (q : Q (xs.map k) s) : WT T (lcL bt c f ρ (xs.map e) s) Q := by
  induction xs generalizing Q with
  | nil => exact ⟨q⟩
  | cons x xs ih =>
    refine lc_cons ?_
    obtain ⟨ρ1, eb, z⟩ := h x (.head _)
    refine ⟨ρ1, eb, z.mono fun b s1 z => ?_⟩
    cases b with
    | false => exact absurd z.1 (by simp)
    | true =>
      refine WT.mono z fun y s2 ⟨w, hy, h1, hs⟩ => ⟨w, hy, ?_⟩
      rw [hs]
      refine ih (fun d' m => h d' (.tail _ m)) ?_
      rw [h1]
      exact q
theorem lc_someOf {α : Type} (e : α → D) (p : α → Bool) (k : α → D) (xs : List α) {Q : List D → S → Prop} (h : ∀ x ∈ xs, ItemW bt c f ρ (e x) s fun o s1 => o = (if p x then some (k x) else none) ∧ s1 = s) (q : Q ((xs.filter p).map k) s) : WT T (lcL bt c f ρ (xs.map e) s) Q := by
  induction xs generalizing Q with
  | nil => exact ⟨q⟩
  | cons x xs ih =>
    refine lc_cons ?_
    obtain ⟨ρ1, eb, z⟩ := h x (.head _)
    refine ⟨ρ1, eb, z.mono fun b s1 z => ?_⟩
    have go : WT T (lcL bt c f ρ (xs.map e) s) fun r s2 => Q ((if p x then some (k x) else none : Option D).toList ++ r) s2 := by
      refine ih (fun d' m => h d' (.tail _ m)) ?_
      by_cases hp : p x = true
      · rw [List.filter_cons_of_pos hp] at q
        rw [if_pos hp]
        exact q
      · rw [List.filter_cons_of_neg hp] at q
        rw [if_neg hp]
        exact q
    cases b with
    | false =>
      have z : none = (if p x then some (k x) else none : Option D) ∧ s1 = s := z
      show WT T (lcL bt c f ρ (xs.map e) s1) fun r s2 => Q ((none : Option D).toList ++ r) s2
      rw [z.2, z.1]
      exact go
    | true =>
      refine WT.mono z fun y s2 ⟨w, hy, h1, hs⟩ => ⟨w, hy, ?_⟩
      rw [hs, h1]
      exact go
/-- two ways that meet again -/
theorem br_join {α : Type} {b : Bool} {o1 o2 : Out S α} {Q : α → S → Prop} (P : α → S → Prop) (h1 : b = true → WT T o1 P) (h2 : b = false → WT T o2 P) (k : ∀ a s, P a s → Q a s) : Br b (WT T o1 Q) (WT T o2 Q) :=
  br (fun e => (h1 e).mono k) fun e => (h2 e).mono k
theorem br_joinA {b : Bool} {o : Out S Bool} {s : S} {Q : Bool → S → Prop} (P : Bool → S → Prop) (h1 : b = true → WT T o P) (h2 : b = false → P false s) (k : ∀ a s, P a s → Q a s) : Br b (WT T o Q) (Q false s) :=
  br (fun e => (h1 e).mono k) fun e => k _ _ (h2 e)
theorem br_joinO {b : Bool} {o : Out S Bool} {s : S} {Q : Bool → S → Prop} (P : Bool → S → Prop) (h1 : b = true → P true s) (h2 : b = false → WT T o P) (k : ∀ a s, P a s → Q a s) : Br b (Q true s) (WT T o Q) :=
  br (fun e => k _ _ (h1 e)) fun e => (h2 e).mono k
theorem item {d : D} {ρ1 : Env} {Q : Option D → S → Prop} (e : bt d ρ = some ρ1) (h : W (c ρ1 s) fun b s1 => Br b (W (f ρ1 s1) fun y s2 => ∃ z, y = .d z ∧ Q (some z) s2) (Q none s1)) : ItemW bt c f ρ d s Q := ⟨ρ1, e, h⟩
theorem item1 {d : D} {ρ1 : Env} {Q : Option D → S → Prop} (e : bt d ρ = some ρ1) (h : W (f ρ1 s) fun y s2 => ∃ z, y = .d z ∧ Q (some z) s2) : ItemW bt xYes f ρ d s Q := ⟨ρ1, e, w_ok h⟩
variable {g1 : Sx S} {Q : Fl → S → Prop}
theorem w_frzL {i : Nat} {ds : List D} (e : ρ[i]? = some (.l ds)) (h : Stt (ρ.set i (.v (.d (.list ds)))) fun ρ1 => WT T (g1 ρ1 s) Q) : WT T (sFrz i g1 ρ s) Q := by
  refine w_frz ?_
  unfold frz
  rw [e]
  exact h
theorem w_moveL {i j : Nat} {ds : List D} (e : ρ[j]? = some (.l ds)) (hn : i ≠ j) (h : Stt (ρ.set j .no) fun ρ1 => Stt (ρ1.set i (.l ds)) fun ρ2 => Q (.nx ρ2) s) : WT T (sMove i j ρ s) Q := by
  unfold sMove
  rw [e]
  show WT T (if i = j then _ else _) Q
  rw [if_neg hn]
  exact ⟨h⟩
end
end DL
namespace DL
open PySem PySem.Spec PyProof.Rows L2
/-- every code point is one -/
def CpOk (x : Str) : Prop := ∀ c ∈ x.cps.toList, c < 0x110000
theorem strOk_of {x : Str} (h : CpOk x) : PyData.strOk x = true := by
  unfold PyData.strOk
  refine Array.all_eq_true_iff_forall_mem.mpr fun c hc => ?_
  exact decide_eq_true (h c (Array.mem_toList_iff.mpr hc))
theorem cp_of {x : Str} (h : PyData.strOk x = true) : CpOk x := fun c hc => by
  have := (Array.all_eq_true_iff_forall_mem.mp h) c (Array.mem_toList_iff.mp hc)
  simpa using this
theorem char_lt (c : Char) : c.toNat < 0x110000 := by
  have h := c.valid
  have e : c.toNat = c.val.toNat := rfl
  rcases h with h | h
  · rw [e]; have : c.val.toNat < 0xd800 := h; omega
  · rw [e]; exact h.2
theorem cp_ofString (s : String) : CpOk (Str.ofString s) := fun c hc => by
  rw [Str.ofString_eq_toList] at hc
  simp at hc
  obtain ⟨d, _, rfl⟩ := hc
  exact char_lt d
theorem cp_append {x y : Str} (hx : CpOk x) (hy : CpOk y) : CpOk (x ++ y) := fun c hc => by
  have e : (x ++ y).cps.toList = x.cps.toList ++ y.cps.toList := by
    show (x.cps ++ y.cps).toList = _
    simp
  rw [e] at hc
  rcases List.mem_append.mp hc with h | h
  · exact hx c h
  · exact hy c h
theorem cp_empty : CpOk Str.empty := fun c hc => by cases hc
theorem cp_join {sep : Str} (hs : CpOk sep) : ∀ ts : List Str, (∀ t ∈ ts, CpOk t) → CpOk (Str.join sep ts)
  | [], _ => cp_empty
  | [x], h => h x (.head _)
  | x :: y :: r, h => cp_append (cp_append (h x (.head _)) hs) (cp_join hs (y :: r) fun t m => h t (.tail _ m))
theorem cp_reprChar {q c : Nat} (hc : c < 0x110000) : ∀ d ∈ Builtin.Str.reprChar q c, d < 0x110000 := by
  have hx : ∀ (w : Nat) d, d ∈ (let ds := (Nat.toDigits 16 c).map Char.toNat; List.replicate (w - ds.length) 48 ++ ds) → d < 0x110000 := fun w d m => by
    rcases List.mem_append.mp m with h | h
    · rw [(List.mem_replicate.mp h).2]; decide
    · obtain ⟨e, _, rfl⟩ := List.mem_map.mp h
      exact char_lt e
  intro d m
  unfold Builtin.Str.reprChar at m
  split at m
  · simp at m; omega
  · split at m
    · simp at m; omega
    · split at m
      · simp at m; omega
      · split at m
        · simp at m; omega
        · split at m
          · simp at m; omega
          · split at m
            · rcases List.mem_append.mp m with h | h
              · simp at h; omega
              · exact hx 2 d h
            · split at m
              · rcases List.mem_append.mp m with h | h
                · simp at h; omega
                · exact hx 4 d h
              · rcases List.mem_append.mp m with h | h
                · simp at h; omega
                · exact hx 8 d h
theorem cp_fold {q : Nat} : ∀ (l : List Nat) (acc : Array Nat), (∀ c ∈ l, c < 0x110000) → (∀ c ∈ acc.toList, c < 0x110000) → ∀ c ∈ (l.foldl (fun out c => out ++ (Builtin.Str.reprChar q c).toArray) acc).toList, c < 0x110000
  | [], acc, _, h => h
  | d :: l, acc, hl, h => cp_fold l _ (fun c m => hl c (.tail _ m)) fun c m => by
    simp at m
    rcases m with m | m
    · exact h c (by simpa using m)
    · exact cp_reprChar (hl d (.head _)) c m
theorem cp_reprText {x : Str} (h : CpOk x) : CpOk (PySem.reprText x) := fun c hc => by
  unfold PySem.reprText at hc
  have hq : reprQuote x < 0x110000 := by unfold reprQuote; split <;> decide
  simp only [Array.toList_push, List.mem_append, List.mem_singleton] at hc
  rcases hc with hc | rfl
  · rw [← Array.foldl_toList] at hc
    exact cp_fold _ _ h (fun c m => by
      have e : c = reprQuote x := by simpa using m
      rw [e]; exact hq) c hc
  · exact hq
mutual
theorem cp_shown : ∀ d : PyData, d.canLay0 = true → CpOk d.shown
  | .none, _ => by simp only [PyData.shown]; exact cp_ofString _
  | .bool b, _ => by simp only [PyData.shown]; cases b <;> exact cp_ofString _
  | .int i, _ => by simp only [PyData.shown]; exact cp_ofString _
  | .str x, h => by simp only [PyData.shown]; exact cp_reprText (cp_of (by simpa only [PyData.canLay0] using h))
  | .list xs, h => by
    rw [PyData.shown_list]
    exact cp_append (cp_append (cp_ofString _) (cp_join (cp_ofString _) _ (cp_shownAll xs (by simpa only [PyData.canLay0] using h)))) (cp_ofString _)
  | .tuple xs, h => by
    rw [PyData.shown_tuple]
    exact cp_append (cp_append (cp_ofString _) (cp_join (cp_ofString _) _ (cp_shownAll xs (by simpa only [PyData.canLay0] using h)))) (cp_ofString _)
  | .dict _, h => by simp only [PyData.canLay0] at h; cases h
theorem cp_shownAll : ∀ ds : List PyData, PyData.canLayAll0 ds = true → ∀ t ∈ PyData.shownAll ds, CpOk t
  | [], _, t, m => by simp only [PyData.shownAll] at m; cases m
  | d :: ds, h, t, m => by
    have h' : d.canLay0 = true ∧ PyData.canLayAll0 ds = true := by simpa only [PyData.canLayAll0, Bool.and_eq_true] using h
    simp only [PyData.shownAll] at m
    rcases List.mem_cons.mp m with rfl | m
    · exact cp_shown d h'.1
    · exact cp_shownAll ds h'.2 t m
end
/-- small data: no dict, nesting at most k, bulk at most b -/
structure Sm (k b : Nat) (d : PyData) : Prop where
  lay : d.canLay0 = true
  short : d.intsShort 60 = true
  sh : d.showable = true
  dp : d.depth ≤ k
  bk : d.bulk ≤ b
structure SmL (k b : Nat) (d : List PyData) : Prop where
  lay : PyData.canLayAll0 d = true
  short : PyData.intsShortAll 60 d = true
  sh : PyData.showableAll d = true
  dp : PyData.depthAll d ≤ k
  bk : PyData.bulkAll d ≤ b
theorem sm_intB {i : Int} (h : i.natAbs < 10 ^ 58) : Sm 0 0 (.int i) := by
  refine ⟨rfl, ?_, ?_, Nat.le_refl _, Nat.le_refl _⟩
  · simp only [PyData.intsShort, decide_eq_true_eq]
    have e := int_text_length_le10 (k := 58) (by decide) h
    show (Str.ofString (toString i)).length ≤ 60
    rw [PySem.ofString_length]
    omega
  · simp only [PyData.showable, decide_eq_true_eq]
    by_cases h0 : i.natAbs = 0
    · rw [h0]; decide
    · rw [Nat.log2_lt h0]
      exact Nat.lt_of_lt_of_le h (Nat.le_trans (by decide +kernel : 10 ^ 58 ≤ 2 ^ 200) (Nat.pow_le_pow_right (by decide) (by decide)))
theorem sm_int {i : Int} (h : i.natAbs < 10 ^ 12) : Sm 0 0 (.int i) := sm_intB (Nat.lt_of_lt_of_le h (by decide +kernel))
theorem sm_str {x : Str} (h : CpOk x) : Sm 0 x.length (.str x) := ⟨by simp only [PyData.canLay0]; exact strOk_of h, rfl, rfl, Nat.le_refl _, Nat.le_refl _⟩
theorem Sm.le {k b k' b' : Nat} {d : PyData} (h : Sm k b d) (hk : k ≤ k') (hb : b ≤ b') : Sm k' b' d := ⟨h.lay, h.short, h.sh, Nat.le_trans h.dp hk, Nat.le_trans h.bk hb⟩
theorem SmL.le {k b k' b' : Nat} {d : List PyData} (h : SmL k b d) (hk : k ≤ k') (hb : b ≤ b') : SmL k' b' d := ⟨h.lay, h.short, h.sh, Nat.le_trans h.dp hk, Nat.le_trans h.bk hb⟩
theorem sm_tuple {k b : Nat} {ds : List PyData} (h : SmL k b ds) : Sm (k + 1) b (.tuple ds) :=
  ⟨by simp only [PyData.canLay0]; exact h.lay, by simp only [PyData.intsShort]; exact h.short, by simp only [PyData.showable]; exact h.sh, by simp only [PyData.depth]; exact Nat.succ_le_succ h.dp, by simp only [PyData.bulk]; exact h.bk⟩
theorem sm_list {k b : Nat} {ds : List PyData} (h : SmL k b ds) : Sm (k + 1) b (.list ds) :=
  ⟨by simp only [PyData.canLay0]; exact h.lay, by simp only [PyData.intsShort]; exact h.short, by simp only [PyData.showable]; exact h.sh, by simp only [PyData.depth]; exact Nat.succ_le_succ h.dp, by simp only [PyData.bulk]; exact h.bk⟩
theorem sl_nil {k : Nat} : SmL k 0 [] := ⟨rfl, rfl, rfl, Nat.zero_le _, Nat.le_refl _⟩
theorem sl_cons {k b b' : Nat} {d : PyData} {ds : List PyData} (h : Sm k b d) (t : SmL k b' ds) : SmL k (b + 1 + b') (d :: ds) :=
  ⟨by simp only [PyData.canLayAll0, h.lay, t.lay, Bool.and_self], by simp only [PyData.intsShortAll, h.short, t.short, Bool.and_self], by simp only [PyData.showableAll, h.sh, t.sh, Bool.and_self],
    by simp only [PyData.depthAll]; exact Nat.max_le.mpr ⟨h.dp, t.dp⟩, by simp only [PyData.bulkAll]; have := h.bk; have := t.bk; omega⟩
theorem sl_all {k b : Nat} : ∀ ds : List PyData, (∀ d ∈ ds, Sm k b d) → SmL k (ds.length * (b + 1)) ds
  | [], _ => by rw [List.length_nil, Nat.zero_mul]; exact sl_nil
  | d :: ds, h => by
    have := sl_cons (h d (.head _)) (sl_all ds fun e m => h e (.tail _ m))
    refine this.le (Nat.le_refl _) ?_
    rw [List.length_cons, Nat.succ_mul]
    omega
theorem sl_ints {ns : List Int} (h : ∀ n ∈ ns, n.natAbs < 10 ^ 12) : SmL 0 ns.length (ns.map .int) := by
  have := sl_all (k := 0) (b := 0) (ns.map PyData.int) fun d m => by
    obtain ⟨n, hn, rfl⟩ := List.mem_map.mp m
    exact sm_int (h n hn)
  simpa using this
theorem Sm.repr {k b : Nat} {d : PyData} (h : Sm k b d) (hk : k ≤ 60) (hb : b ≤ 250000) : d.canLay0 = true ∧ d.showable = true ∧ d.shown.length ≤ sizeLine ∧ d.depth ≤ 60 := by
  refine ⟨h.lay, h.sh, ?_, Nat.le_trans h.dp hk⟩
  have h1 := PyData.shown_le_bulk 60 (by decide) d (PyData.leavesShort_of_canLay0 60 d h.lay h.short)
  have h2 := h.bk
  rw [sizeLine_eq]
  omega
theorem Sm.shaped {k b : Nat} {d : PyData} (h : Sm k b d) (hk : k ≤ 64) : SeqAt.shaped d = true := by
  unfold SeqAt.shaped
  rw [h.lay, decide_eq_true (Nat.le_trans h.dp hk)]
  rfl
theorem Sm.strSh {k b : Nat} {d : PyData} (h : Sm k b d) : SeqAt.shaped (.str d.shown) = true := by
  unfold SeqAt.shaped
  have e : (PyData.str d.shown).canLay0 = true := by simp only [PyData.canLay0]; exact strOk_of (cp_shown d h.lay)
  rw [e]
  rfl
section
variable {S : Type} {s : S} {Q : Val → S → Prop} {k b k' b' : Nat} {d e : PyData}
theorem cv_repr' (h : Sm k b d) (q : Q (.d (.str d.shown)) s) (hk : k ≤ 60 := by decide) (hb : b ≤ 250000 := by omega) : CV oRepr [.d d] s Q := cv_repr q (h.repr hk hb)
theorem str_eqv (x y : Str) : PyData.eqv (.str x) (.str y) = decide (x = y) := by
  simp only [PyData.eqv]
  by_cases h : x = y
  · rw [decide_eq_true h, h]; exact beq_self_eq_true _
  · rw [decide_eq_false h]; exact beq_false_of_ne h
/-- texts of data, compared -/
theorem bv_neR (h : Sm k b d) (h' : Sm k' b' e) (q : Q (.d (.bool (!decide (d.shown = e.shown)))) s) : BV opNe (.d (.str d.shown)) (.d (.str e.shown)) s Q :=
  bv_ne (by rw [str_eqv]; exact q) (by rw [h.strSh, h'.strSh]; rfl)
theorem bv_neSame (h : Sm k b d) (q : Q (.d (.bool false)) s) : BV opNe (.d (.str d.shown)) (.d (.str d.shown)) s Q := bv_neR h h (by rw [decide_eq_true rfl]; exact q)
/-- numbers, compared -/
theorem eqvAll_ints : ∀ a b : List Int, PyData.eqvAll (a.map .int) (b.map .int) = decide (a = b)
  | [], [] => by simp [PyData.eqvAll]
  | [], y :: ys => by simp [PyData.eqvAll]
  | x :: xs, [] => by simp [PyData.eqvAll]
  | x :: xs, y :: ys => by
    rw [List.map_cons, List.map_cons, PyData.eqvAll, eqvAll_ints xs ys]
    simp only [PyData.eqv]
    by_cases h : x = y
    · by_cases h2 : xs = ys
      · simp [h, h2]
      · simp [h, h2]
    · simp [h]
theorem eqv_iT (a b : List Int) : PyData.eqv (.tuple (a.map .int)) (.tuple (b.map .int)) = decide (a = b) := by simp only [PyData.eqv]; exact eqvAll_ints a b
theorem canLayAll_ints : ∀ ns : List Int, PyData.canLayAll0 (ns.map .int) = true
  | [] => rfl
  | n :: ns => by rw [List.map_cons, PyData.canLayAll0, canLayAll_ints ns]; rfl
theorem depthAll_ints : ∀ ns : List Int, PyData.depthAll (ns.map .int) = 0
  | [] => rfl
  | n :: ns => by rw [List.map_cons, PyData.depthAll, depthAll_ints ns]; rfl
theorem shaped_iT (ns : List Int) : SeqAt.shaped (.tuple (ns.map .int)) = true := by
  unfold SeqAt.shaped
  simp only [PyData.canLay0, PyData.depth, canLayAll_ints, depthAll_ints]
  decide
theorem bv_neI {a b : List Int} (q : Q (.d (.bool (!decide (a = b)))) s) : BV opNe (.d (.tuple (a.map .int))) (.d (.tuple (b.map .int))) s Q := bv_ne (by rw [eqv_iT]; exact q) (by rw [shaped_iT, shaped_iT]; rfl)
theorem bv_neI0 {a : List Int} (q : Q (.d (.bool (!decide (a = [])))) s) : BV opNe (.d (.tuple (a.map .int))) (.d (.tuple [])) s Q := bv_neI (b := []) q
theorem bv_eqN {a b : Int} (q : Q (.d (.bool (decide (a = b)))) s) : BV opEq (.d (.int a)) (.d (.int b)) s Q := bv_eq (by
  have e : PyData.eqv (.int a) (.int b) = decide (a = b) := by simp only [PyData.eqv]; rfl
  rw [e]; exact q) rfl
theorem bv_neN {a b : Int} (q : Q (.d (.bool (!decide (a = b)))) s) : BV opNe (.d (.int a)) (.d (.int b)) s Q := bv_ne (by
  have e : PyData.eqv (.int a) (.int b) = decide (a = b) := by simp only [PyData.eqv]; rfl
  rw [e]; exact q) rfl
theorem bv_eqB {a b : Bool} (q : Q (.d (.bool (a == b))) s) : BV opEq (.d (.bool a)) (.d (.bool b)) s Q := bv_eq (by
  have e : PyData.eqv (.bool a) (.bool b) = (a == b) := by simp only [PyData.eqv]
  rw [e]; exact q) rfl
theorem bv_neB {a b : Bool} (q : Q (.d (.bool (!(a == b)))) s) : BV opNe (.d (.bool a)) (.d (.bool b)) s Q := bv_ne (by
  have e : PyData.eqv (.bool a) (.bool b) = (a == b) := by simp only [PyData.eqv]
  rw [e]; exact q) rfl
theorem bv_neNil {mk : List PyData → PyData} {ds : List PyData} (hm : mk = .list ∨ mk = .tuple) (h : Sm k b (mk ds)) (q : Q (.d (.bool (!ds.isEmpty))) s) (hk : k ≤ 64 := by decide) : BV opNe (.d (mk ds)) (.d (mk [])) s Q := by
  refine bv_ne ?_ ?_
  · have e : PyData.eqv (mk ds) (mk []) = ds.isEmpty := by
      rcases hm with rfl | rfl <;> cases ds <;> simp [PyData.eqv, PyData.eqvAll]
    rw [e]; exact q
  · rw [h.shaped hk]
    rcases hm with rfl | rfl <;> rfl
theorem bv_isB {a b : Bool} (q : Q (.d (.bool (a == b))) s) : BV opIs (.d (.bool a)) (.d (.bool b)) s Q := bv rfl q
theorem bv_isNotB {a b : Bool} (q : Q (.d (.bool (!(a == b)))) s) : BV opIsNot (.d (.bool a)) (.d (.bool b)) s Q := bv rfl q
theorem any_ints (x : Int) : ∀ zs : List Int, ((zs.map PyData.int).any fun z => PyData.eqv z (.int x)) = decide (x ∈ zs)
  | [] => rfl
  | z :: zs => by
    rw [List.map_cons, List.any_cons, any_ints x zs]
    simp only [PyData.eqv]
    by_cases h : z = x
    · simp [h]
    · simp [h, Ne.symm h]
theorem bv_inI {x : Int} {zs : List Int} (q : Q (.d (.bool (decide (x ∈ zs)))) s) : BV opIn (.d (.int x)) (.d (.tuple (zs.map .int))) s Q :=
  bv (by
    unfold opIn
    show (if SeqAt.shaped (.int x) && SeqAt.shaped (.tuple (zs.map .int)) then _ else _) = _
    rw [shaped_iT, any_ints]
    rfl) q
theorem sm_iT {ns : List Int} (h : ∀ n ∈ ns, n.natAbs < 10 ^ 12) : Sm 1 ns.length (.tuple (ns.map .int)) := sm_tuple (sl_ints h)
end
end DL
namespace DL
open PySem PySem.Spec PyProof.Rows L2
section
variable {S : Type} {T : Exn → S → Prop} {ρ : Env} {s : S} {i n : Nat} {f fa fb : Ex S} {g : Exs S}
/-- a text -/
def XV (x : Val) (s : S) (Q : Str → S → Prop) : Prop := ∃ z, x = .d (.str z) ∧ Q z s
theorem xv {z : Str} {Q : Str → S → Prop} (h : Q z s) : XV (.d (.str z)) s Q := ⟨z, rfl, h⟩
theorem w_itxt {Q : List D → S → Prop} (h : WT T (f ρ s) fun x s1 => XV x s1 fun z s2 => Q (z.cps.toList.map signD) s2) : WT T (iTxt f ρ s) Q :=
  w_bind (h.mono fun x s1 ⟨z, hx, q⟩ => by subst hx; (first | exact q | exact ⟨q⟩))
theorem w_tsl {fl fh : Ox S} {Q : Val → S → Prop} (h : WT T (fa ρ s) fun x s1 => WT T (fl ρ s1) fun l s2 => WT T (fh ρ s2) fun h s3 => UV (fun d => opTSl d l h) x s3 Q) : WT T (eTSl fa fl fh ρ s) Q :=
  w_bind (h.mono fun x s1 h => w_bind (h.mono fun l s2 h => w_bind (h.mono fun u s3 ⟨p, r, hx, e, z⟩ => by subst hx; show WT T (match (fun d => opTSl d l u) p with | some r => .ok (.d r) s3 | none => .bad) Q; rw [e]; (first | exact z | exact ⟨z⟩))))
theorem uv_tsl {z : Str} {lo hi : Option Int} {Q : Val → S → Prop} (q : Q (.d (.str (cutS z lo hi))) s) (h : z.length ≤ sizeLine) : UV (fun d => opTSl d lo hi) (.d (.str z)) s Q := uv (by exact if_pos h) q
def MV (op : D → D → Option D) (a : Str) (y : Val) (s : S) (Q : Val → S → Prop) : Prop := ∃ d z, y = .d d ∧ op (.str a) d = some z ∧ Q (.d z) s
theorem w_m1 {op : D → D → Option D} {Q : Val → S → Prop} (h : WT T (fa ρ s) fun x s1 => XV x s1 fun a s2 => WT T (fb ρ s2) fun y s3 => MV op a y s3 Q) : WT T (eM1 op fa fb ρ s) Q :=
  w_bind (h.mono fun x s1 ⟨a, hx, q⟩ => by
    subst hx
    show WT T ((fb ρ s1).bind _) Q
    refine w_bind (q.mono fun y s2 ⟨d, z, hy, e, q⟩ => ?_)
    subst hy
    show WT T (match op (.str a) d with | some z => .ok (.d z) s2 | none => .bad) Q
    rw [e]
    (first | exact q | exact ⟨q⟩))
theorem strsD_map : ∀ ys : List Str, strsD (ys.map .str) = some ys
  | [] => rfl
  | y :: ys => by rw [List.map_cons, strsD, strsD_map ys]; rfl
theorem mv_joinL {a : Str} {ys : List Str} {Q : Val → S → Prop} (q : Q (.d (.str (Txt.join a ys))) s) (h : joinOk a ys = true) : MV opJoin a (.d (.list (ys.map .str))) s Q :=
  ⟨_, _, rfl, by unfold opJoin; dsimp only; rw [strsD_map]; dsimp only; rw [if_pos h], q⟩
theorem mv_split {a b : Str} {Q : Val → S → Prop} (q : Q (.d (.list ((Txt.split a b).map .str))) s) (h : (b.length == 0) = false ∧ a.length + 2 ≤ sizeLine) : MV opSplit a (.d (.str b)) s Q :=
  ⟨_, _, rfl, by unfold opSplit; dsimp only; rw [if_pos h], q⟩
theorem cv_intT {a : Str} {k : Int} {Q : Val → S → Prop} (q : Q (.d (.int k)) s) (h : PySem.intText? a = some k) (hl : a.length ≤ 640) : CV oIntT [.d (.str a)] s Q :=
  cv1 (by unfold oIntT; dsimp only; rw [if_pos hl, h]; rfl) q
theorem cv_str {k : Int} {Q : Val → S → Prop} (q : Q (.d (.str (toString k))) s) (h : k.natAbs.log2 < 1920) : CV oStr [.d (.int k)] s Q := cv1 (by exact if_pos h) q
theorem cv_lenS {a : Str} {Q : Val → S → Prop} (q : Q (.d (.int a.length)) s) (h : a.length ≤ sizeLine) : CV oLen [.d (.str a)] s Q := cv1 (by exact if_pos h) q
theorem bv_addS {a b : Str} {Q : Val → S → Prop} (q : Q (.d (.str (a ++ b))) s) (h : a.length + b.length ≤ sizeLine) : BV opAdd (.d (.str a)) (.d (.str b)) s Q := bv (by exact if_pos h) q
theorem bv_ixS {z : Str} {k c : Nat} {Q : Val → S → Prop} (q : Q (.d (signD c)) s) (h : z.cps.toList[k]? = some c) (hl : z.length ≤ sizeLine) : BV opIx (.d (.str z)) (.d (.int k)) s Q :=
  bv (by show (if z.length ≤ sizeLine then (L2.atI z.cps.toList (k : Int)).map fun c => PyData.str ⟨#[c]⟩ else none) = _; rw [if_pos hl, atI_nat, h]; rfl) q
theorem strSh {a : Str} (h : CpOk a) : SeqAt.shaped (.str a) = true := by
  have h1 : (PyData.str a).canLay0 = true := by simp only [PyData.canLay0]; exact strOk_of h
  have h2 : (PyData.str a).depth ≤ 64 := by show 0 ≤ 64; omega
  unfold SeqAt.shaped
  rw [h1, decide_eq_true h2]
  rfl
theorem bv_eqX {a b : Str} {Q : Val → S → Prop} (ha : CpOk a) (hb : CpOk b) (q : Q (.d (.bool (decide (a = b)))) s) : BV opEq (.d (.str a)) (.d (.str b)) s Q := bv_eq (by rw [str_eqv]; exact q) (by rw [strSh ha, strSh hb]; rfl)
theorem bv_neX {a b : Str} {Q : Val → S → Prop} (ha : CpOk a) (hb : CpOk b) (q : Q (.d (.bool (!decide (a = b)))) s) : BV opNe (.d (.str a)) (.d (.str b)) s Q := bv_ne (by rw [str_eqv]; exact q) (by rw [strSh ha, strSh hb]; rfl)
def FwX (T : Exn → S → Prop) (n : Nat) (F : List Val → S → Out S Val) (ys : List Val) (s : S) (Q : Val → S → Prop) : Prop := ys.length = n ∧ WT T (F ys s) Q
theorem fwX {F : List Val → S → Out S Val} {ys : List Val} {Q : Val → S → Prop} (e : ys.length = n) (h : WT T (F ys s) Q) : FwX T n F ys s Q := ⟨e, h⟩
theorem w_fnX {F : List Val → S → Out S Val} {Q : Val → S → Prop} (h : WT T (g ρ s) fun ys s1 => FwX T n F ys s1 Q) : WT T (eFnX n F g ρ s) Q :=
  w_bind (h.mono fun ys s1 ⟨e, q⟩ => by show WT T (if ys.length = n then _ else _) Q; rw [if_pos e]; exact q)
theorem w_fnBX {F : List Val → S → Out S Val} {Q : Val → S → Prop} (h : WT T (g ρ s) fun ys s1 => FwX T n F ys s1 fun y s2 => HV y s2 Q) : WT T (eFnBX n F g ρ s) Q :=
  w_bind (h.mono fun ys s1 ⟨e, q⟩ => by
    show WT T (if ys.length = n then _ else _) Q
    rw [if_pos e]
    refine w_bind (q.mono fun y s2 ⟨d, hd, hh, z⟩ => ?_)
    subst hd
    show WT T (if hard d = true then .ok (.d d) s2 else .bad) Q
    rw [if_pos hh]
    (first | exact z | exact ⟨z⟩))
theorem w_rz {c : Str} {ks : List Str} {Q : Fl → S → Prop} (h : WT T (g ρ s) fun ys s1 => DV_ ys s1 fun ds s2 => Ck (ds.length = ks.length) (T ⟨c, ks.zip ds⟩ s2)) : WT T (sRz c ks g ρ s) Q :=
  w_bind (h.mono fun ys s1 ⟨ds, e, hl, z⟩ => by
    show WT T (match datas ys with | some ds => _ | none => _) Q
    rw [e]
    show WT T (if ds.length = ks.length then _ else _) Q
    rw [if_pos hl]
    exact ⟨z⟩)
/-- a call that is tried: what it gives, or what the suite makes of its exception -/
theorem w_try {F : List Val → S → Out S Val} {hd : Exn → Option D} {Q : Fl → S → Prop} (h : W (g ρ s) fun ys s1 => (ys.length = n ∧ i < ρ.length) ∧ WT (fun e s2 => ∃ z, hd e = some z ∧ Q (.rt (.d z)) s2) (F ys s1) fun y s2 => Q (.rt y) s2) : WT T (sTry i n F g hd ρ s) Q :=
  w_bind (w_noex (h.mono fun ys s1 ⟨hc, q⟩ => ⟨by
    show W0 T (if ys.length = n ∧ i < ρ.length then _ else _) Q
    rw [if_pos hc]
    rcases q.parts with ⟨y, s2, e, q⟩ | ⟨x, s2, e, z, hz, q⟩
    · rw [e]; exact q
    · rw [e]
      show W0 T (match hd x with | some z => .ok (.rt (.d z)) s2 | none => .bad) Q
      rw [hz]
      exact q⟩) |>.mono fun ys s1 q => q)
end
end DL
namespace LK
open PySem PySem.Spec PyProof.Rows L2 DL
def top (i : Nat) : Stmt := PySem.Challenge.pw_wheelfill_k56_wrong_words_of_texts.main.body.getD i (.Pass ⟨0, 0, 0, 0⟩)
abbrev s_count_stands : Stmt := top 11
abbrev s_plain_number : Stmt := top 16
abbrev s_number_of : Stmt := top 17
abbrev s_take : Stmt := top 18
abbrev s_read_weights : Stmt := top 19
abbrev s_read_sizes : Stmt := top 20
abbrev s_read_bounds : Stmt := top 21
abbrev s_read_one : Stmt := top 22
abbrev s_read_line : Stmt := top 23
abbrev s_read_wheel : Stmt := top 24
abbrev s__law_deck : Stmt := top 26
abbrev s__law_draw : Stmt := top 27
abbrev s__law_one : Stmt := top 28
abbrev s__law_count : Stmt := top 29
abbrev s__law_wheel : Stmt := top 30
abbrev s__law_words : Stmt := top 31
abbrev s__law_text : Stmt := top 32
abbrev s__law_number : Stmt := top 33
abbrev s__law_limits : Stmt := top 34
abbrev s__law_line : Stmt := top 35
abbrev s__law_read : Stmt := top 36
abbrev s__law_asked : Stmt := top 37
abbrev s__law_is_crowded : Stmt := top 38
abbrev s__law_odd_word : Stmt := top 39
abbrev s__law_bent_rows : Stmt := top 40
abbrev s_law : Stmt := top 41
abbrev i_BadText : Stmt := inClass (top 2) 0
/-- a def as the top left it -/
structure Df (K : PySem.W.Frag) (mg : Str → Option Value) (nm : Str) (st : Stmt) where
  f : Addr
  fd : FuncData
  F : Fun K nm nm st f fd
  g : mg nm = some (.ref f)
/-- what the top has left -/
structure Tx (K : PySem.W.Frag) (mg : Str → Option Value) where
  nb_ValueError : mg "ValueError" = none
  nb_abs : mg "abs" = none
  nb_all : mg "all" = none
  nb_enumerate : mg "enumerate" = none
  nb_int : mg "int" = none
  nb_isinstance : mg "isinstance" = none
  nb_len : mg "len" = none
  nb_list : mg "list" = none
  nb_max : mg "max" = none
  nb_min : mg "min" = none
  nb_range : mg "range" = none
  nb_repr : mg "repr" = none
  nb_str : mg "str" = none
  nb_tuple : mg "tuple" = none
  c_DIGITS : (t : Tok) ×' (mg "DIGITS" = some (.str "0123456789" t))
  c_LINES : (t : Tok) ×' (mg "LINES" = some (.int 6 t))
  c_MOST_BOUND : (t : Tok) ×' (mg "MOST_BOUND" = some (.int 60 t))
  c_MOST_DIGITS : (t : Tok) ×' (mg "MOST_DIGITS" = some (.int 3 t))
  c_MOST_LOOK : (t : Tok) ×' (mg "MOST_LOOK" = some (.int 3 t))
  c_MOST_PATIENCE : (t : Tok) ×' (mg "MOST_PATIENCE" = some (.int 6 t))
  c_MOST_PLACES : (t : Tok) ×' (mg "MOST_PLACES" = some (.int 6 t))
  c_MOST_ROOM : (t : Tok) ×' (mg "MOST_ROOM" = some (.int 4 t))
  c_MOST_STANDS : (t : Tok) ×' (mg "MOST_STANDS" = some (.int 2000 t))
  c_MOST_WEIGHT : (t : Tok) ×' (mg "MOST_WEIGHT" = some (.int 9 t))
  x_BadText : Xc K mg "BadText" "BadText.__init__" i_BadText ["line", "word"]
  z_WheelError : (t : Addr) ×' (mg "WheelError" = some (.ref t))
  k_BadText_BadText : PySem.W.kitOne K (.ref x_BadText.C) (.ref x_BadText.C) = some true
  k_BadText_ValueError : PySem.W.kitOne K (.ref x_BadText.C) (.type "ValueError") = some true
  e_BadText_BadText : PySem.W.exmOne K (.ref x_BadText.C) (.ref x_BadText.C) = some true
  k_BadText_WheelError : PySem.W.kitOne K (.ref x_BadText.C) (.ref z_WheelError.1) = some true
  e_BadText_WheelError : PySem.W.exmOne K (.ref x_BadText.C) (.ref z_WheelError.1) = some true
  d_count_stands : Df K mg "count_stands" s_count_stands
  d_plain_number : Df K mg "plain_number" s_plain_number
  d_number_of : Df K mg "number_of" s_number_of
  d_take : Df K mg "take" s_take
  d_read_weights : Df K mg "read_weights" s_read_weights
  d_read_sizes : Df K mg "read_sizes" s_read_sizes
  d_read_bounds : Df K mg "read_bounds" s_read_bounds
  d_read_one : Df K mg "read_one" s_read_one
  d_read_line : Df K mg "read_line" s_read_line
  d_read_wheel : Df K mg "read_wheel" s_read_wheel
  d__law_draw : Df K mg "_law_draw" s__law_draw
  d__law_one : Df K mg "_law_one" s__law_one
  d__law_count : Df K mg "_law_count" s__law_count
  d__law_wheel : Df K mg "_law_wheel" s__law_wheel
  d__law_words : Df K mg "_law_words" s__law_words
  d__law_text : Df K mg "_law_text" s__law_text
  d__law_number : Df K mg "_law_number" s__law_number
  d__law_limits : Df K mg "_law_limits" s__law_limits
  d__law_line : Df K mg "_law_line" s__law_line
  d__law_is_crowded : Df K mg "_law_is_crowded" s__law_is_crowded
  d__law_read : Df K mg "_law_read" s__law_read
  d__law_asked : Df K mg "_law_asked" s__law_asked
  d__law_odd_word : Df K mg "_law_odd_word" s__law_odd_word
  d__law_bent_rows : Df K mg "_law_bent_rows" s__law_bent_rows
  d__law_deck : Df K mg "_law_deck" s__law_deck
  d_law : Df K mg "law" s_law
noncomputable section
variable {P : Program} {w : World} {K : PySem.W.Frag} {mg : Str → Option Value} {base : Heap} {B : Bs}
def clsT (T : Tx K mg) : Str → Option Addr := fun s => List.lookup s [("BadText", T.x_BadText.C)]
theorem sc_i_BadText : FnScope ["self", "line", "word"] ["self", "line", "word"] (defScope i_BadText) := ⟨rfl, rfl, rfl, by decide +kernel, rfl, by decide +kernel, by decide +kernel⟩
theorem ok_i_BadText (T : Tx K mg) : FnOk P w K mg base CX0 1 T.x_BadText.fI T.x_BadText.fd ["self", "line", "word"] (spI2 K "line" "word") :=
  T.x_BadText.F.ok sc_i_BadText (fun vs H Q E h => by obtain ⟨_, _, _, _, rfl, _⟩ := h; rfl) (fun cdv A outer s H vs Q E hr h => ⟨_, (pss_cons (ps_ost (pv 0) (pv 1)) (pss_one (ps_ost (pv 0) (pv 2)))), init2_read h⟩)
abbrev n_count_stands : List Str := ["weights", "room", "sizes", "patience", "look", "found", "place", "seen"]
abbrev p_count_stands : List Str := ["weights", "room", "sizes", "patience", "look"]
theorem sc_count_stands : FnScope n_count_stands p_count_stands (defScope s_count_stands) := ⟨rfl, rfl, rfl, by decide +kernel, rfl, by decide +kernel, by decide +kernel⟩
def b_count_stands : Sx Dk :=
  (sSeq (sSet 5 (eBin opAdd (bVar 3) (eC (.int 1))))
    (sSeq (sFor (iSeq (eVar 0)) (btN 6)
    (sSet 5 (eBin opMul (bVar 5) (eBin opAdd (bVar 1) (eC (.int 1))))))
    (sSeq (sFor (iRg1 (aCons (bVar 4) aNil)) (btN 7)
    (sSet 5 (eBin opMul (bVar 5) (eCall oLen (aCons (bVar 2) aNil)))))
    (sRet (bVar 5)))))
def m_count_stands : List Val → Dk → Out Dk Val := runF 3 b_count_stands
theorem ok_count_stands (hP : B.P = P) (hK : B.K = K) (hw : B.w = w) (T : Tx K mg) (hC : B.cls = clsT T) : FnG P w K mg base CX0 1 T.d_count_stands.f T.d_count_stands.fd p_count_stands (spP B 5 m_count_stands) := by
  exact fg_pure hP hK hw T.d_count_stands.F sc_count_stands b_count_stands rfl (fun cdv A outer s H E c hr =>
    (ds_cons (ds_set c 5 (de_add c.hK (db_var 3 (pv 3)) (de_int).lent))
    (ds_cons (ds_for (vs := [6]) c PassesOwn.never (di_seq c.hK (de_var 0 (pv 0))) (dg_name c.nd 6)
    (ds_one (ds_set c 5 (de_mul c.hK (db_var 5 (pv 5)) ((de_add c.hK (db_var 1 (pv 1)) (de_int).lent)).lent))))
    (ds_cons (ds_for (vs := [7]) c PassesOwn.never (di_range1 (T.nb_range) (da_cons (db_var 4 (pv 4)) da_nil)) (dg_name c.nd 7)
    (ds_one (ds_set c 5 (de_mul c.hK (db_var 5 (pv 5)) ((de_fun (op := oLen) call_len (by rw [← c.hK]; exact cl_len) (by rfl) (T.nb_len) boot_len (da_cons (db_var 2 (pv 2)) da_nil))).lent))))
    (ds_one (ds_ret (db_var 5 (pv 5))))))))
abbrev n_plain_number : List Str := ["word", "sign"]
abbrev p_plain_number : List Str := ["word"]
theorem sc_plain_number : FnScope n_plain_number p_plain_number (defScope s_plain_number) := ⟨rfl, rfl, rfl, by decide +kernel, rfl, by decide +kernel, by decide +kernel⟩
def b_plain_number : Sx Dk :=
  (sSeq (sIf (xOr (tOf (eBin opEq (bVar 0) (eC (.str "")))) (xOr (tOf (eBin (opRel fun i j => decide (j < i)) (eCall oLen (aCons (bVar 0) aNil)) (eC (.int 3)))) (xNot (tOf (eCall oAll (aCons (eL (lLc (iTxt (eVar 0)) (btN 1) xYes (eBin opIn (bVar 1) (eC (.str "0123456789"))) [1])) aNil))))))
    (sRet (eC .none))
    sNil)
    (sSeq (sIf (xAnd (tOf (eBin opEq (eBin opIx (bVar 0) (eC (.int 0))) (eC (.str "0")))) (tOf (eBin (opRel fun i j => decide (j < i)) (eCall oLen (aCons (bVar 0) aNil)) (eC (.int 1)))))
    (sRet (eC .none))
    sNil)
    (sRet (eCall oIntT (aCons (bVar 0) aNil)))))
def m_plain_number : List Val → Dk → Out Dk Val := runF 1 b_plain_number
theorem ok_plain_number (hP : B.P = P) (hK : B.K = K) (hw : B.w = w) (T : Tx K mg) (hC : B.cls = clsT T) : FnG P w K mg base CX0 1 T.d_plain_number.f T.d_plain_number.fd p_plain_number (spP B 1 m_plain_number) := by
  exact fg_pure hP hK hw T.d_plain_number.F sc_plain_number b_plain_number rfl (fun cdv A outer s H E c hr =>
    (ds_cons (ds_if (dt_bool (dw_or (dt_cmp (cd_eq c.hK c.u64) (db_var 0 (pv 0)) (de_str).lent) (dw_or (dt_cmp cd_gt ((de_fun (op := oLen) call_len (by rw [← c.hK]; exact cl_len) (by rfl) (T.nb_len) boot_len (da_cons (db_var 0 (pv 0)) da_nil))).lent ((de_gint T.c_MOST_DIGITS.2)).lent) (dw_or1 (dt_not (dt_val ((de_fun (op := oAll) (cr_all c.calm) (by rw [← c.hK]; exact cl_all) (by rfl) (T.nb_all) (by decide +kernel) (da_cons (((df_lc c (own := [("sign", 1)]) (di_txt (de_var 0 (pv 0))) (blkOk_by (own := [("sign", 1)]) (N := n_plain_number) (sc := defScope s_plain_number) (by decide +kernel)) (fun s H C cl fp => (dg_name (c.blk s H _ (compEnvC _ cl C _) fp).nd 1)) (fun s H C cl fp => dts_nil) (fun s H C cl fp => (de_cmp (cd_in (c.blk s H _ (compEnvC _ cl C _) fp)) (db_var 1 (pv 1)) ((de_gstr T.c_DIGITS.2)).lent)))).de).lent da_nil))).lent))))))
    (ds_one (ds_ret (de_non).lent))
    ds_nil)
    (ds_cons (ds_if (dt_bool (dw_and (dt_cmp (cd_eq c.hK c.u64) ((de_ix c.hK (db_var 0 (pv 0)) (de_int).lent)).lent (de_str).lent) (dw_and1 (dt_cmp cd_gt ((de_fun (op := oLen) call_len (by rw [← c.hK]; exact cl_len) (by rfl) (T.nb_len) boot_len (da_cons (db_var 0 (pv 0)) da_nil))).lent (de_int).lent))))
    (ds_one (ds_ret (de_non).lent))
    ds_nil)
    (ds_one (ds_ret ((de_typ (op := oIntT) call_int_str cl_intT (by rfl) (T.nb_int) (by decide +kernel) (da_cons (db_var 0 (pv 0)) da_nil))).lent)))))
abbrev n_number_of : List Str := ["word", "number"]
abbrev p_number_of : List Str := ["word"]
theorem sc_number_of : FnScope n_number_of p_number_of (defScope s_number_of) := ⟨rfl, rfl, rfl, by decide +kernel, rfl, by decide +kernel, by decide +kernel⟩
def b_number_of : Sx Dk :=
  (sSeq (sIf (tOf (eBin opNe (eTSl (bVar 0) oNone (oSome (eC (.int 1)))) (eC (.str "-"))))
    (sRet (eFn 1 m_plain_number (aCons (eVar 0) aNil)))
    sNil)
    (sSeq (sSet 1 (eFn 1 m_plain_number (aCons (eTSl (bVar 0) (oSome (eC (.int 1))) oNone) aNil)))
    (sRet (eIf (xOr (tOf (eBin opIs (bVar 1) (eC .none))) (tOf (eBin opEq (bVar 1) (eC (.int 0))))) (eC .none) (eBin opSub (eC (.int 0)) (bVar 1))))))
def m_number_of : List Val → Dk → Out Dk Val := runF 1 b_number_of
theorem ok_number_of (hP : B.P = P) (hK : B.K = K) (hw : B.w = w) (T : Tx K mg) (hC : B.cls = clsT T) : FnG P w K mg base CX0 2 T.d_number_of.f T.d_number_of.fd p_number_of (spP B 1 m_number_of) := by
  have g_plain_number := ok_plain_number (P := P) (w := w) (base := base) hP hK hw T hC
  exact fg_pure hP hK hw T.d_number_of.F sc_number_of b_number_of rfl (fun cdv A outer s H E c hr =>
    (ds_cons (ds_if (dt_cmp (cd_ne c.hK c.u64) ((de_tsl (db_var 0 (pv 0)) do_none (do_some (de_int).lent))).lent (de_str).lent)
    (ds_one (ds_ret ((de_call c (g_plain_number) (hr.mono (by decide)) T.d_plain_number.g T.d_plain_number.F.kp (T.d_plain_number.F.binds (ps := p_plain_number) fun _ _ _ _ _ _ us hl => match us, hl with | [_], _ => rfl) (dv_cons (de_var 0 (pv 0)) dv_nil))).lent))
    ds_nil)
    (ds_cons (ds_set c 1 (de_call c (g_plain_number) (hr.mono (by decide)) T.d_plain_number.g T.d_plain_number.F.kp (T.d_plain_number.F.binds (ps := p_plain_number) fun _ _ _ _ _ _ us hl => match us, hl with | [_], _ => rfl) (dv_cons (de_tsl (db_var 0 (pv 0)) (do_some (de_int).lent) do_none) dv_nil)))
    (ds_one (ds_ret ((de_if (dt_bool (dw_or (dt_cmp cd_is (db_var 1 (pv 1)) (de_non).lent) (dw_or1 (dt_cmp (cd_eq c.hK c.u64) (db_var 1 (pv 1)) (de_int).lent)))) de_non (de_sub (de_int).lent (db_var 1 (pv 1))))).lent)))))
abbrev n_take : List Str := ["words", "at", "line", "low", "high", "number"]
abbrev p_take : List Str := ["words", "at", "line", "low", "high"]
theorem sc_take : FnScope n_take p_take (defScope s_take) := ⟨rfl, rfl, rfl, by decide +kernel, rfl, by decide +kernel, by decide +kernel⟩
def b_take : Sx Dk :=
  (sSeq (sSet 5 (eIf (tOf (eBin (opRel fun i j => decide (i < j)) (bVar 1) (eCall oLen (aCons (bVar 0) aNil)))) (eFn 1 m_number_of (aCons (eBin opIx (bVar 0) (bVar 1)) aNil)) (eC .none)))
    (sSeq (sIf (xOr (tOf (eBin opIs (bVar 5) (eC .none))) (xOr (tOf (eBin (opRel fun i j => decide (i < j)) (bVar 5) (bVar 3))) (tOf (eBin (opRel fun i j => decide (j < i)) (bVar 5) (bVar 4)))))
    (sRz "BadText" ["line", "word"] (aCons (eVar 2) (aCons (eVar 1) aNil)))
    sNil)
    (sRet (bVar 5))))
def m_take : List Val → Dk → Out Dk Val := runF 1 b_take
theorem ok_take (hP : B.P = P) (hK : B.K = K) (hw : B.w = w) (T : Tx K mg) (hC : B.cls = clsT T) : FnG P w K mg base (L2.CX P w) 5 T.d_take.f T.d_take.fd p_take (spX B 5 m_take) := by
  have g_number_of := ok_number_of (P := P) (w := w) (base := base) hP hK hw T hC
  exact fg_raise (k := 4) hP hK hw T.d_take.F sc_take b_take rfl (fun cdv A outer s H E c hr tk po =>
    (ds_cons (ds_set c 5 (de_if (dt_cmp cd_lt (db_var 1 (pv 1)) ((de_fun (op := oLen) call_len (by rw [← c.hK]; exact cl_len) (by rfl) (T.nb_len) boot_len (da_cons (db_var 0 (pv 0)) da_nil))).lent) (de_call c (g_number_of) (hr.mono (by decide)) T.d_number_of.g T.d_number_of.F.kp (T.d_number_of.F.binds (ps := p_number_of) fun _ _ _ _ _ _ us hl => match us, hl with | [_], _ => rfl) (dv_cons (de_ix c.hK (db_var 0 (pv 0)) (db_var 1 (pv 1))) dv_nil)) de_non))
    (ds_cons (ds_if (dt_bool (dw_or (dt_cmp cd_is (db_var 5 (pv 5)) (de_non).lent) (dw_or (dt_cmp cd_lt (db_var 5 (pv 5)) (db_var 3 (pv 3))) (dw_or1 (dt_cmp cd_gt (db_var 5 (pv 5)) (db_var 4 (pv 4)))))))
    (ds_one (ds_raise2 c T.x_BadText (by decide) (ok_i_BadText (P := P) (w := w) (base := base) T) (hr.mono (by decide)) tk (by rw [hC]; rfl) (T.x_BadText.F.binds (ps := ["self", "line", "word"]) fun _ _ _ _ _ _ us hl => match us, hl with | [_, _, _], _ => rfl) (dv_cons (de_var 2 (pv 2)) (dv_cons (de_var 1 (pv 1)) dv_nil))))
    ds_nil)
    (ds_one (ds_ret (db_var 5 (pv 5)))))))
abbrev n_read_weights : List Str := ["words", "found", "at"]
abbrev p_read_weights : List Str := ["words"]
theorem sc_read_weights : FnScope n_read_weights p_read_weights (defScope s_read_weights) := ⟨rfl, rfl, rfl, by decide +kernel, rfl, by decide +kernel, by decide +kernel⟩
def b_read_weights : Sx Dk :=
  (sSeq (sNew 1 (lSeq (aCons (eFnX 5 m_take (aCons (eVar 0) (aCons (eC (.int 1)) (aCons (eC (.int 0)) (aCons (eBin opSub (eC (.int 0)) (eC (.int 9))) (aCons (eC (.int 9)) aNil)))))) (aCons (eFnX 5 m_take (aCons (eVar 0) (aCons (eC (.int 2)) (aCons (eC (.int 0)) (aCons (eBin opSub (eC (.int 0)) (eC (.int 9))) (aCons (eC (.int 9)) aNil)))))) aNil))))
    (sSeq (sFor (iRg2 (aCons (eC (.int 3)) (aCons (eCall oLen (aCons (bVar 0) aNil)) aNil))) (btN 2)
    (sSeq (sIf (tOf (eBin opEq (eCall oLen (aCons (bVar 1) aNil)) (eC (.int 6))))
    (sRz "BadText" ["line", "word"] (aCons (eC (.int 0)) (aCons (eVar 2) aNil)))
    sNil)
    (sApp 1 (eFnX 5 m_take (aCons (eVar 0) (aCons (eVar 2) (aCons (eC (.int 0)) (aCons (eBin opSub (eC (.int 0)) (eC (.int 9))) (aCons (eC (.int 9)) aNil)))))))))
    (sRet (eCall oTuple (aCons (bVar 1) aNil)))))
def m_read_weights : List Val → Dk → Out Dk Val := runF 2 b_read_weights
theorem ok_read_weights (hP : B.P = P) (hK : B.K = K) (hw : B.w = w) (T : Tx K mg) (hC : B.cls = clsT T) : FnG P w K mg base (L2.CX P w) 8 T.d_read_weights.f T.d_read_weights.fd p_read_weights (spX B 1 m_read_weights) := by
  have g_take := ok_take (P := P) (w := w) (base := base) hP hK hw T hC
  exact fg_raise (k := 7) hP hK hw T.d_read_weights.F sc_read_weights b_read_weights rfl (fun cdv A outer s H E c hr tk po =>
    (ds_cons (ds_new c 1 (df_lst (dv_cons (de_callX c tk (g_take) (hr.mono (by decide)) T.d_take.g T.d_take.F.kp (T.d_take.F.binds (ps := p_take) fun _ _ _ _ _ _ us hl => match us, hl with | [_, _, _, _, _], _ => rfl) (dv_cons (de_var 0 (pv 0)) (dv_cons de_int (dv_cons de_int (dv_cons (de_sub (de_int).lent ((de_gint T.c_MOST_WEIGHT.2)).lent) (dv_cons (de_gint T.c_MOST_WEIGHT.2) dv_nil)))))) (dv_cons (de_callX c tk (g_take) (hr.mono (by decide)) T.d_take.g T.d_take.F.kp (T.d_take.F.binds (ps := p_take) fun _ _ _ _ _ _ us hl => match us, hl with | [_, _, _, _, _], _ => rfl) (dv_cons (de_var 0 (pv 0)) (dv_cons de_int (dv_cons de_int (dv_cons (de_sub (de_int).lent ((de_gint T.c_MOST_WEIGHT.2)).lent) (dv_cons (de_gint T.c_MOST_WEIGHT.2) dv_nil)))))) dv_nil))))
    (ds_cons (ds_for (vs := [2]) c po (di_range2 (T.nb_range) (da_cons (de_int).lent (da_cons ((de_fun (op := oLen) call_len (by rw [← c.hK]; exact cl_len) (by rfl) (T.nb_len) boot_len (da_cons (db_var 0 (pv 0)) da_nil))).lent da_nil))) (dg_name c.nd 2)
    (ds_cons (ds_if (dt_cmp (cd_eq c.hK c.u64) ((de_fun (op := oLen) call_len (by rw [← c.hK]; exact cl_len) (by rfl) (T.nb_len) boot_len (da_cons (db_var 1 (pv 1)) da_nil))).lent ((de_gint T.c_MOST_PLACES.2)).lent)
    (ds_one (ds_raise2 c T.x_BadText (by decide) (ok_i_BadText (P := P) (w := w) (base := base) T) (hr.mono (by decide)) tk (by rw [hC]; rfl) (T.x_BadText.F.binds (ps := ["self", "line", "word"]) fun _ _ _ _ _ _ us hl => match us, hl with | [_, _, _], _ => rfl) (dv_cons de_int (dv_cons (de_var 2 (pv 2)) dv_nil))))
    ds_nil)
    (ds_one (ds_app c 1 (pe_bm PySem.F.plainAttrs_list PySem.F.slot_list_append PySem.F.type_list_append mt_append (pv 1) (pa_cons (de_callX c tk (g_take) (hr.mono (by decide)) T.d_take.g T.d_take.F.kp (T.d_take.F.binds (ps := p_take) fun _ _ _ _ _ _ us hl => match us, hl with | [_, _, _, _, _], _ => rfl) (dv_cons (de_var 0 (pv 0)) (dv_cons (de_var 2 (pv 2)) (dv_cons de_int (dv_cons (de_sub (de_int).lent ((de_gint T.c_MOST_WEIGHT.2)).lent) (dv_cons (de_gint T.c_MOST_WEIGHT.2) dv_nil)))))) pa_nil))))))
    (ds_one (ds_ret ((de_typ (op := oTuple) call_tuple_of (by rw [← c.hK]; exact cl_tuple) (by rfl) (T.nb_tuple) boot_tuple (da_cons (db_var 1 (pv 1)) da_nil))).lent)))))
abbrev n_read_sizes : List Str := ["words", "room", "found", "at"]
abbrev p_read_sizes : List Str := ["words", "room"]
theorem sc_read_sizes : FnScope n_read_sizes p_read_sizes (defScope s_read_sizes) := ⟨rfl, rfl, rfl, by decide +kernel, rfl, by decide +kernel, by decide +kernel⟩
def b_read_sizes : Sx Dk :=
  (sSeq (sNew 2 (lSeq (aCons (eFnX 5 m_take (aCons (eVar 0) (aCons (eC (.int 1)) (aCons (eC (.int 2)) (aCons (eC (.int 1)) (aCons (eVar 1) aNil)))))) aNil)))
    (sSeq (sFor (iRg2 (aCons (eC (.int 2)) (aCons (eCall oLen (aCons (bVar 0) aNil)) aNil))) (btN 3)
    (sApp 2 (eFnX 5 m_take (aCons (eVar 0) (aCons (eVar 3) (aCons (eC (.int 2)) (aCons (eBin opAdd (eBin opIx (bVar 2) (eUn opNeg (eC (.int 1)))) (eC (.int 1))) (aCons (eVar 1) aNil))))))))
    (sRet (eCall oTuple (aCons (bVar 2) aNil)))))
def m_read_sizes : List Val → Dk → Out Dk Val := runF 2 b_read_sizes
theorem ok_read_sizes (hP : B.P = P) (hK : B.K = K) (hw : B.w = w) (T : Tx K mg) (hC : B.cls = clsT T) : FnG P w K mg base (L2.CX P w) 6 T.d_read_sizes.f T.d_read_sizes.fd p_read_sizes (spX B 2 m_read_sizes) := by
  have g_take := ok_take (P := P) (w := w) (base := base) hP hK hw T hC
  exact fg_raise (k := 5) hP hK hw T.d_read_sizes.F sc_read_sizes b_read_sizes rfl (fun cdv A outer s H E c hr tk po =>
    (ds_cons (ds_new c 2 (df_lst (dv_cons (de_callX c tk (g_take) (hr.mono (by decide)) T.d_take.g T.d_take.F.kp (T.d_take.F.binds (ps := p_take) fun _ _ _ _ _ _ us hl => match us, hl with | [_, _, _, _, _], _ => rfl) (dv_cons (de_var 0 (pv 0)) (dv_cons de_int (dv_cons de_int (dv_cons de_int (dv_cons (de_var 1 (pv 1)) dv_nil)))))) dv_nil)))
    (ds_cons (ds_for (vs := [3]) c po (di_range2 (T.nb_range) (da_cons (de_int).lent (da_cons ((de_fun (op := oLen) call_len (by rw [← c.hK]; exact cl_len) (by rfl) (T.nb_len) boot_len (da_cons (db_var 0 (pv 0)) da_nil))).lent da_nil))) (dg_name c.nd 3)
    (ds_one (ds_app c 2 (pe_bm PySem.F.plainAttrs_list PySem.F.slot_list_append PySem.F.type_list_append mt_append (pv 2) (pa_cons (de_callX c tk (g_take) (hr.mono (by decide)) T.d_take.g T.d_take.F.kp (T.d_take.F.binds (ps := p_take) fun _ _ _ _ _ _ us hl => match us, hl with | [_, _, _, _, _], _ => rfl) (dv_cons (de_var 0 (pv 0)) (dv_cons (de_var 3 (pv 3)) (dv_cons de_int (dv_cons (de_add c.hK ((de_ix c.hK (db_var 2 (pv 2)) ((de_neg (de_int).lent)).lent)).lent (de_int).lent) (dv_cons (de_var 1 (pv 1)) dv_nil)))))) pa_nil)))))
    (ds_one (ds_ret ((de_typ (op := oTuple) call_tuple_of (by rw [← c.hK]; exact cl_tuple) (by rfl) (T.nb_tuple) boot_tuple (da_cons (db_var 2 (pv 2)) da_nil))).lent)))))
abbrev n_read_bounds : List Str := ["words", "low", "high"]
abbrev p_read_bounds : List Str := ["words"]
theorem sc_read_bounds : FnScope n_read_bounds p_read_bounds (defScope s_read_bounds) := ⟨rfl, rfl, rfl, by decide +kernel, rfl, by decide +kernel, by decide +kernel⟩
def b_read_bounds : Sx Dk :=
  (sSeq (sPar [1, 2] (mVal (eFnX 5 m_take (aCons (eVar 0) (aCons (eC (.int 1)) (aCons (eC (.int 3)) (aCons (eBin opSub (eC (.int 0)) (eC (.int 60))) (aCons (eC (.int 0)) aNil)))))) (mVal (eFnX 5 m_take (aCons (eVar 0) (aCons (eC (.int 2)) (aCons (eC (.int 3)) (aCons (eC (.int 0)) (aCons (eC (.int 60)) aNil)))))) mNil)))
    (sSeq (sIf (tOf (eBin (opRel fun i j => decide (j < i)) (eCall oLen (aCons (bVar 0) aNil)) (eC (.int 3))))
    (sRz "BadText" ["line", "word"] (aCons (eC (.int 3)) (aCons (eC (.int 3)) aNil)))
    sNil)
    (sRet (eSeq .tuple (aCons (eVar 1) (aCons (eVar 2) aNil))))))
def m_read_bounds : List Val → Dk → Out Dk Val := runF 2 b_read_bounds
theorem ok_read_bounds (hP : B.P = P) (hK : B.K = K) (hw : B.w = w) (T : Tx K mg) (hC : B.cls = clsT T) : FnG P w K mg base (L2.CX P w) 8 T.d_read_bounds.f T.d_read_bounds.fd p_read_bounds (spX B 1 m_read_bounds) := by
  have g_take := ok_take (P := P) (w := w) (base := base) hP hK hw T hC
  exact fg_raise (k := 7) hP hK hw T.d_read_bounds.F sc_read_bounds b_read_bounds rfl (fun cdv A outer s H E c hr tk po =>
    (ds_cons (ds_par2 c (dm_val (de_callX c tk (g_take) (hr.mono (by decide)) T.d_take.g T.d_take.F.kp (T.d_take.F.binds (ps := p_take) fun _ _ _ _ _ _ us hl => match us, hl with | [_, _, _, _, _], _ => rfl) (dv_cons (de_var 0 (pv 0)) (dv_cons de_int (dv_cons de_int (dv_cons (de_sub (de_int).lent ((de_gint T.c_MOST_BOUND.2)).lent) (dv_cons de_int dv_nil)))))) (dm_val (de_callX c tk (g_take) (hr.mono (by decide)) T.d_take.g T.d_take.F.kp (T.d_take.F.binds (ps := p_take) fun _ _ _ _ _ _ us hl => match us, hl with | [_, _, _, _, _], _ => rfl) (dv_cons (de_var 0 (pv 0)) (dv_cons de_int (dv_cons de_int (dv_cons de_int (dv_cons (de_gint T.c_MOST_BOUND.2) dv_nil)))))) dm_nil)))
    (ds_cons (ds_if (dt_cmp cd_gt ((de_fun (op := oLen) call_len (by rw [← c.hK]; exact cl_len) (by rfl) (T.nb_len) boot_len (da_cons (db_var 0 (pv 0)) da_nil))).lent (de_int).lent)
    (ds_one (ds_raise2 c T.x_BadText (by decide) (ok_i_BadText (P := P) (w := w) (base := base) T) (hr.mono (by decide)) tk (by rw [hC]; rfl) (T.x_BadText.F.binds (ps := ["self", "line", "word"]) fun _ _ _ _ _ _ us hl => match us, hl with | [_, _, _], _ => rfl) (dv_cons de_int (dv_cons de_int dv_nil))))
    ds_nil)
    (ds_one (ds_ret ((de_tup (dv_cons (de_var 1 (pv 1)) (dv_cons (de_var 2 (pv 2)) dv_nil)))).lent)))))
abbrev n_read_one : List Str := ["words", "line", "most", "found", "number"]
abbrev p_read_one : List Str := ["words", "line", "most", "found"]
theorem sc_read_one : FnScope n_read_one p_read_one (defScope s_read_one) := ⟨rfl, rfl, rfl, by decide +kernel, rfl, by decide +kernel, by decide +kernel⟩
def b_read_one : Sx Dk :=
  (sSeq (sSet 4 (eFnX 5 m_take (aCons (eVar 0) (aCons (eC (.int 1)) (aCons (eVar 1) (aCons (eC (.int 1)) (aCons (eVar 2) aNil)))))))
    (sSeq (sIf (xAnd (tOf (eBin opEq (bVar 1) (eBin opSub (eC (.int 6)) (eC (.int 1))))) (tOf (eBin (opRel fun i j => decide (j < i)) (eFn 5 m_count_stands (aCons (eBin opIx (bVar 3) (eC (.int 0))) (aCons (eBin opIx (bVar 3) (eC (.int 1))) (aCons (eBin opIx (bVar 3) (eC (.int 2))) (aCons (eBin opIx (bVar 3) (eC (.int 4))) (aCons (eVar 4) aNil)))))) (eC (.int 2000)))))
    (sRz "BadText" ["line", "word"] (aCons (eVar 1) (aCons (eC (.int 1)) aNil)))
    sNil)
    (sSeq (sIf (tOf (eBin (opRel fun i j => decide (j < i)) (eCall oLen (aCons (bVar 0) aNil)) (eC (.int 2))))
    (sRz "BadText" ["line", "word"] (aCons (eVar 1) (aCons (eC (.int 2)) aNil)))
    sNil)
    (sRet (bVar 4)))))
def m_read_one : List Val → Dk → Out Dk Val := runF 1 b_read_one
theorem ok_read_one (hP : B.P = P) (hK : B.K = K) (hw : B.w = w) (T : Tx K mg) (hC : B.cls = clsT T) : FnG P w K mg base (L2.CX P w) 8 T.d_read_one.f T.d_read_one.fd p_read_one (spX B 4 m_read_one) := by
  have g_count_stands := ok_count_stands (P := P) (w := w) (base := base) hP hK hw T hC
  have g_take := ok_take (P := P) (w := w) (base := base) hP hK hw T hC
  exact fg_raise (k := 7) hP hK hw T.d_read_one.F sc_read_one b_read_one rfl (fun cdv A outer s H E c hr tk po =>
    (ds_cons (ds_set c 4 (de_callX c tk (g_take) (hr.mono (by decide)) T.d_take.g T.d_take.F.kp (T.d_take.F.binds (ps := p_take) fun _ _ _ _ _ _ us hl => match us, hl with | [_, _, _, _, _], _ => rfl) (dv_cons (de_var 0 (pv 0)) (dv_cons de_int (dv_cons (de_var 1 (pv 1)) (dv_cons de_int (dv_cons (de_var 2 (pv 2)) dv_nil)))))))
    (ds_cons (ds_if (dt_bool (dw_and (dt_cmp (cd_eq c.hK c.u64) (db_var 1 (pv 1)) ((de_sub ((de_gint T.c_LINES.2)).lent (de_int).lent)).lent) (dw_and1 (dt_cmp cd_gt ((de_call c (g_count_stands) (hr.mono (by decide)) T.d_count_stands.g T.d_count_stands.F.kp (T.d_count_stands.F.binds (ps := p_count_stands) fun _ _ _ _ _ _ us hl => match us, hl with | [_, _, _, _, _], _ => rfl) (dv_cons (de_ix c.hK (db_var 3 (pv 3)) (de_int).lent) (dv_cons (de_ix c.hK (db_var 3 (pv 3)) (de_int).lent) (dv_cons (de_ix c.hK (db_var 3 (pv 3)) (de_int).lent) (dv_cons (de_ix c.hK (db_var 3 (pv 3)) (de_int).lent) (dv_cons (de_var 4 (pv 4)) dv_nil))))))).lent ((de_gint T.c_MOST_STANDS.2)).lent))))
    (ds_one (ds_raise2 c T.x_BadText (by decide) (ok_i_BadText (P := P) (w := w) (base := base) T) (hr.mono (by decide)) tk (by rw [hC]; rfl) (T.x_BadText.F.binds (ps := ["self", "line", "word"]) fun _ _ _ _ _ _ us hl => match us, hl with | [_, _, _], _ => rfl) (dv_cons (de_var 1 (pv 1)) (dv_cons de_int dv_nil))))
    ds_nil)
    (ds_cons (ds_if (dt_cmp cd_gt ((de_fun (op := oLen) call_len (by rw [← c.hK]; exact cl_len) (by rfl) (T.nb_len) boot_len (da_cons (db_var 0 (pv 0)) da_nil))).lent (de_int).lent)
    (ds_one (ds_raise2 c T.x_BadText (by decide) (ok_i_BadText (P := P) (w := w) (base := base) T) (hr.mono (by decide)) tk (by rw [hC]; rfl) (T.x_BadText.F.binds (ps := ["self", "line", "word"]) fun _ _ _ _ _ _ us hl => match us, hl with | [_, _, _], _ => rfl) (dv_cons (de_var 1 (pv 1)) (dv_cons de_int dv_nil))))
    ds_nil)
    (ds_one (ds_ret (db_var 4 (pv 4))))))))
abbrev n_read_line : List Str := ["words", "line", "found"]
abbrev p_read_line : List Str := ["words", "line", "found"]
theorem sc_read_line : FnScope n_read_line p_read_line (defScope s_read_line) := ⟨rfl, rfl, rfl, by decide +kernel, rfl, by decide +kernel, by decide +kernel⟩
def b_read_line : Sx Dk :=
  (sSeq (sIf (tOf (eBin opNe (eBin opIx (bVar 0) (eC (.int 0))) (eBin opIx (eSeq .tuple (aCons (eC (.str "weights")) (aCons (eC (.str "room")) (aCons (eC (.str "sizes")) (aCons (eC (.str "bounds")) (aCons (eC (.str "patience")) (aCons (eC (.str "look")) aNil))))))) (bVar 1))))
    (sRz "BadText" ["line", "word"] (aCons (eVar 1) (aCons (eC (.int 0)) aNil)))
    sNil)
    (sSeq (sIf (tOf (eBin opEq (bVar 1) (eC (.int 0))))
    (sRet (eFnX 1 m_read_weights (aCons (eVar 0) aNil)))
    sNil)
    (sSeq (sIf (tOf (eBin opEq (bVar 1) (eC (.int 2))))
    (sRet (eFnX 2 m_read_sizes (aCons (eVar 0) (aCons (eBin opIx (bVar 2) (eC (.int 1))) aNil))))
    sNil)
    (sSeq (sIf (tOf (eBin opEq (bVar 1) (eC (.int 3))))
    (sRet (eFnX 1 m_read_bounds (aCons (eVar 0) aNil)))
    sNil)
    (sRet (eFnX 4 m_read_one (aCons (eVar 0) (aCons (eVar 1) (aCons (eBin opIx (eSeq .tuple (aCons (eC (.int 0)) (aCons (eC (.int 4)) (aCons (eC (.int 0)) (aCons (eC (.int 0)) (aCons (eC (.int 6)) (aCons (eC (.int 3)) aNil))))))) (bVar 1)) (aCons (eVar 2) aNil))))))))))
def m_read_line : List Val → Dk → Out Dk Val := runF 0 b_read_line
theorem ok_read_line (hP : B.P = P) (hK : B.K = K) (hw : B.w = w) (T : Tx K mg) (hC : B.cls = clsT T) : FnG P w K mg base (L2.CX P w) 11 T.d_read_line.f T.d_read_line.fd p_read_line (spX B 3 m_read_line) := by
  have g_read_bounds := ok_read_bounds (P := P) (w := w) (base := base) hP hK hw T hC
  have g_read_one := ok_read_one (P := P) (w := w) (base := base) hP hK hw T hC
  have g_read_sizes := ok_read_sizes (P := P) (w := w) (base := base) hP hK hw T hC
  have g_read_weights := ok_read_weights (P := P) (w := w) (base := base) hP hK hw T hC
  exact fg_raise (k := 10) hP hK hw T.d_read_line.F sc_read_line b_read_line rfl (fun cdv A outer s H E c hr tk po =>
    (ds_cons (ds_if (dt_cmp (cd_ne c.hK c.u64) ((de_ix c.hK (db_var 0 (pv 0)) (de_int).lent)).lent ((de_ix c.hK ((de_tup (dv_cons de_str (dv_cons de_str (dv_cons de_str (dv_cons de_str (dv_cons de_str (dv_cons de_str dv_nil)))))))).lent (db_var 1 (pv 1)))).lent)
    (ds_one (ds_raise2 c T.x_BadText (by decide) (ok_i_BadText (P := P) (w := w) (base := base) T) (hr.mono (by decide)) tk (by rw [hC]; rfl) (T.x_BadText.F.binds (ps := ["self", "line", "word"]) fun _ _ _ _ _ _ us hl => match us, hl with | [_, _, _], _ => rfl) (dv_cons (de_var 1 (pv 1)) (dv_cons de_int dv_nil))))
    ds_nil)
    (ds_cons (ds_if (dt_cmp (cd_eq c.hK c.u64) (db_var 1 (pv 1)) (de_int).lent)
    (ds_one (ds_ret ((de_callX c tk (g_read_weights) (hr.mono (by decide)) T.d_read_weights.g T.d_read_weights.F.kp (T.d_read_weights.F.binds (ps := p_read_weights) fun _ _ _ _ _ _ us hl => match us, hl with | [_], _ => rfl) (dv_cons (de_var 0 (pv 0)) dv_nil))).lent))
    ds_nil)
    (ds_cons (ds_if (dt_cmp (cd_eq c.hK c.u64) (db_var 1 (pv 1)) (de_int).lent)
    (ds_one (ds_ret ((de_callX c tk (g_read_sizes) (hr.mono (by decide)) T.d_read_sizes.g T.d_read_sizes.F.kp (T.d_read_sizes.F.binds (ps := p_read_sizes) fun _ _ _ _ _ _ us hl => match us, hl with | [_, _], _ => rfl) (dv_cons (de_var 0 (pv 0)) (dv_cons (de_ix c.hK (db_var 2 (pv 2)) (de_int).lent) dv_nil)))).lent))
    ds_nil)
    (ds_cons (ds_if (dt_cmp (cd_eq c.hK c.u64) (db_var 1 (pv 1)) (de_int).lent)
    (ds_one (ds_ret ((de_callX c tk (g_read_bounds) (hr.mono (by decide)) T.d_read_bounds.g T.d_read_bounds.F.kp (T.d_read_bounds.F.binds (ps := p_read_bounds) fun _ _ _ _ _ _ us hl => match us, hl with | [_], _ => rfl) (dv_cons (de_var 0 (pv 0)) dv_nil))).lent))
    ds_nil)
    (ds_one (ds_ret ((de_callX c tk (g_read_one) (hr.mono (by decide)) T.d_read_one.g T.d_read_one.F.kp (T.d_read_one.F.binds (ps := p_read_one) fun _ _ _ _ _ _ us hl => match us, hl with | [_, _, _, _], _ => rfl) (dv_cons (de_var 0 (pv 0)) (dv_cons (de_var 1 (pv 1)) (dv_cons (de_ix c.hK ((de_tup (dv_cons de_int (dv_cons (de_gint T.c_MOST_ROOM.2) (dv_cons de_int (dv_cons de_int (dv_cons (de_gint T.c_MOST_PATIENCE.2) (dv_cons (de_gint T.c_MOST_LOOK.2) dv_nil)))))))).lent (db_var 1 (pv 1))) (dv_cons (de_var 2 (pv 2)) dv_nil)))))).lent)))))))
abbrev n_read_wheel : List Str := ["text", "rows", "found", "is_ended", "line"]
abbrev p_read_wheel : List Str := ["text"]
theorem sc_read_wheel : FnScope n_read_wheel p_read_wheel (defScope s_read_wheel) := ⟨rfl, rfl, rfl, by decide +kernel, rfl, by decide +kernel, by decide +kernel⟩
def b_read_wheel : Sx Dk :=
  (sSeq (sPar [1, 2] (mVal (eM1 opSplit (bVar 0) (eC (.str "\n"))) (mNew (nL (lSeq aNil)) mNil)))
    (sSeq (sSet 3 (eAnd (eBin opEq (eBin opIx (bVar 1) (eUn opNeg (eC (.int 1)))) (eC (.str ""))) (eBin (opRel fun i j => decide (j < i)) (eCall oLen (aCons (bVar 1) aNil)) (eC (.int 1)))))
    (sSeq (sIf (tOf (bVar 3))
    (sSet 1 (eSl (bVar 1) oNone (oSome (eUn opNeg (eC (.int 1))))))
    sNil)
    (sSeq (sFor (iRg1 (aCons (eCall oMin (aCons (eC (.int 6)) (aCons (eCall oLen (aCons (bVar 1) aNil)) aNil))) aNil)) (btN 4)
    (sApp 2 (eFnBX 3 m_read_line (aCons (eM1 opSplit (eBin opIx (bVar 1) (bVar 4)) (eC (.str " "))) (aCons (bVar 4) (aCons (bVar 2) aNil))))))
    (sSeq (sIf (tOf (eBin (opRel fun i j => decide (j < i)) (eCall oLen (aCons (bVar 1) aNil)) (eC (.int 6))))
    (sRz "BadText" ["line", "word"] (aCons (eC (.int 6)) (aCons (eC (.int 0)) aNil)))
    sNil)
    (sSeq (sIf (xOr (xNot (tOf (bVar 3))) (tOf (eBin (opRel fun i j => decide (i < j)) (eCall oLen (aCons (bVar 1) aNil)) (eC (.int 6)))))
    (sRz "BadText" ["line", "word"] (aCons (eCall oLen (aCons (bVar 1) aNil)) (aCons (eC (.int 0)) aNil)))
    sNil)
    (sRet (eCall oTuple (aCons (bVar 2) aNil)))))))))
def m_read_wheel : List Val → Dk → Out Dk Val := runF 4 b_read_wheel
theorem ok_read_wheel (hP : B.P = P) (hK : B.K = K) (hw : B.w = w) (T : Tx K mg) (hC : B.cls = clsT T) : FnG P w K mg base (L2.CX P w) 14 T.d_read_wheel.f T.d_read_wheel.fd p_read_wheel (spX B 1 m_read_wheel) := by
  have g_read_line := ok_read_line (P := P) (w := w) (base := base) hP hK hw T hC
  exact fg_raise (k := 13) hP hK hw T.d_read_wheel.F sc_read_wheel b_read_wheel rfl (fun cdv A outer s H E c hr tk po =>
    (ds_cons (ds_par2 c (dm_val (de_split (db_var 0 (pv 0)) (de_str).lent) (dm_new ((df_lst dv_nil)).dn dm_nil)))
    (ds_cons (ds_set c 3 (de_and ((de_cmp (cd_eq c.hK c.u64) ((de_ix c.hK (db_var 1 (pv 1)) ((de_neg (de_int).lent)).lent)).lent (de_str).lent)).lent (de_one (de_cmp cd_gt ((de_fun (op := oLen) call_len (by rw [← c.hK]; exact cl_len) (by rfl) (T.nb_len) boot_len (da_cons (db_var 1 (pv 1)) da_nil))).lent (de_int).lent))))
    (ds_cons (ds_if (dt_val (db_var 3 (pv 3)))
    (ds_one (ds_set c 1 (de_sl c.hK (db_var 1 (pv 1)) do_none (do_some ((de_neg (de_int).lent)).lent))))
    ds_nil)
    (ds_cons (ds_for (vs := [4]) c po (di_range1 (T.nb_range) (da_cons ((de_fun (op := oMin) ((cr_min c.calm).or (call_min2 c.calm)) (by rw [← c.hK]; exact cl_min) (by rfl) (T.nb_min) (by decide +kernel) (da_cons ((de_gint T.c_LINES.2)).lent (da_cons ((de_fun (op := oLen) call_len (by rw [← c.hK]; exact cl_len) (by rfl) (T.nb_len) boot_len (da_cons (db_var 1 (pv 1)) da_nil))).lent da_nil)))).lent da_nil)) (dg_name c.nd 4)
    (ds_one (ds_app c 2 (pe_bm PySem.F.plainAttrs_list PySem.F.slot_list_append PySem.F.type_list_append mt_append (pv 2) (pa_cons (de_callBX c tk (g_read_line) (hr.mono (by decide)) T.d_read_line.g T.d_read_line.F.kp (T.d_read_line.F.binds (ps := p_read_line) fun _ _ _ _ _ _ us hl => match us, hl with | [_, _, _], _ => rfl) (da_cons ((de_split ((de_ix c.hK (db_var 1 (pv 1)) (db_var 4 (pv 4)))).lent (de_str).lent)).lent (da_cons (db_var 4 (pv 4)) (da_cons (db_var 2 (pv 2)) da_nil)))) pa_nil)))))
    (ds_cons (ds_if (dt_cmp cd_gt ((de_fun (op := oLen) call_len (by rw [← c.hK]; exact cl_len) (by rfl) (T.nb_len) boot_len (da_cons (db_var 1 (pv 1)) da_nil))).lent ((de_gint T.c_LINES.2)).lent)
    (ds_one (ds_raise2 c T.x_BadText (by decide) (ok_i_BadText (P := P) (w := w) (base := base) T) (hr.mono (by decide)) tk (by rw [hC]; rfl) (T.x_BadText.F.binds (ps := ["self", "line", "word"]) fun _ _ _ _ _ _ us hl => match us, hl with | [_, _, _], _ => rfl) (dv_cons (de_gint T.c_LINES.2) (dv_cons de_int dv_nil))))
    ds_nil)
    (ds_cons (ds_if (dt_bool (dw_or (dt_not (dt_val (db_var 3 (pv 3)))) (dw_or1 (dt_cmp cd_lt ((de_fun (op := oLen) call_len (by rw [← c.hK]; exact cl_len) (by rfl) (T.nb_len) boot_len (da_cons (db_var 1 (pv 1)) da_nil))).lent ((de_gint T.c_LINES.2)).lent))))
    (ds_one (ds_raise2 c T.x_BadText (by decide) (ok_i_BadText (P := P) (w := w) (base := base) T) (hr.mono (by decide)) tk (by rw [hC]; rfl) (T.x_BadText.F.binds (ps := ["self", "line", "word"]) fun _ _ _ _ _ _ us hl => match us, hl with | [_, _, _], _ => rfl) (dv_cons (de_fun (op := oLen) call_len (by rw [← c.hK]; exact cl_len) (by rfl) (T.nb_len) boot_len (da_cons (db_var 1 (pv 1)) da_nil)) (dv_cons de_int dv_nil))))
    ds_nil)
    (ds_one (ds_ret ((de_typ (op := oTuple) call_tuple_of (by rw [← c.hK]; exact cl_tuple) (by rfl) (T.nb_tuple) boot_tuple (da_cons (db_var 2 (pv 2)) da_nil))).lent)))))))))
abbrev n__law_draw : List Str := ["_law_deck_here", "_law_many", "_law_found", "_law_cell", "_law_mixed"]
abbrev p__law_draw : List Str := ["_law_deck_here", "_law_many"]
theorem sc__law_draw : FnScope n__law_draw p__law_draw (defScope s__law_draw) := ⟨rfl, rfl, rfl, by decide +kernel, rfl, by decide +kernel, by decide +kernel⟩
def b__law_draw : Sx Dk :=
  (sSeq (sDk 0 3 (eBin opAdd (eDk 0 3) (eC (.int 1))))
    (sSeq (sIf (tOf (eBin (opRel fun i j => decide (j < i)) (eDk 0 2) (eC (.int 0))))
    (sSeq (sSet 2 (eBin opMod (eCall oInt (aCons (eDk 0 2) aNil)) (bVar 1)))
    (sSeq (sDk 0 2 (eBin opDiv (eDk 0 2) (bVar 1)))
    (sRet (bVar 2))))
    sNil)
    (sSeq (sSet 3 (eC (.int 61)))
    (sSeq (sIf (xDkNe 0)
    (sSet 3 (eDkC 0 (eBin opMod (eCall oInt (aCons (eDk 0 1) aNil)) (eDkL 0))))
    sNil)
    (sSeq (sDk 0 1 (eBin opAdd (eDk 0 1) (eC (.int 1))))
    (sSeq (sIf (xAnd (tOf (eBin (opRel fun i j => decide (j ≤ i)) (eCall oAbs (aCons (bVar 3) aNil)) (eBin opPow (eC (.int 10)) (eC (.int 18))))) (tOf (eBin (opRel fun i j => decide (i ≤ j)) (eDk 0 1) (eDkL 0))))
    (sSeq (sDk 0 2 (eBin opDiv (eCall oAbs (aCons (bVar 3) aNil)) (bVar 1)))
    (sRet (eBin opMod (eCall oInt (aCons (eCall oAbs (aCons (bVar 3) aNil)) aNil)) (bVar 1))))
    sNil)
    (sSeq (sSet 4 (eBin opMod (eBin opPow (eCall oInt (aCons (eBin opAdd (eBin opMod (eCall oInt (aCons (bVar 3) aNil)) (eC (.int 2147483629))) (eBin opMul (eC (.int 49979687)) (eDk 0 3))) aNil)) (eC (.int 5))) (eC (.int 2147483647))))
    (sSeq (sSet 4 (eBin opMod (eBin opPow (eCall oInt (aCons (eBin opAdd (eBin opMul (bVar 4) (eBin opAdd (eBin opMul (eC (.int 2)) (eDk 0 3)) (eC (.int 3)))) (eC (.int 8887))) aNil)) (eC (.int 3))) (eC (.int 2147483587))))
    (sRet (eBin opMod (eBin opDiv (bVar 4) (eC (.int 64))) (bVar 1)))))))))))
def m__law_draw : List Val → Dk → Out Dk Val := runF 3 b__law_draw
theorem ok__law_draw (hP : B.P = P) (hK : B.K = K) (hw : B.w = w) (T : Tx K mg) (hC : B.cls = clsT T) : FnG P w K mg base CX0 1 T.d__law_draw.f T.d__law_draw.fd p__law_draw (spP B 2 m__law_draw) := by
  exact fg_pure hP hK hw T.d__law_draw.F sc__law_draw b__law_draw rfl (fun cdv A outer s H E c hr =>
    (ds_cons (ds_dk 0 3 (pv 0) (de_add c.hK ((de_dk 0 3 (pv 0))).lent (de_int).lent))
    (ds_cons (ds_if (dt_cmp cd_gt ((de_dk 0 2 (pv 0))).lent (de_int).lent)
    (ds_cons (ds_set c 2 (de_mod ((de_typ (op := oInt) call_int1 cl_int (by rfl) (T.nb_int) (by decide +kernel) (da_cons ((de_dk 0 2 (pv 0))).lent da_nil))).lent (db_var 1 (pv 1))))
    (ds_cons (ds_dk 0 2 (pv 0) (de_div ((de_dk 0 2 (pv 0))).lent (db_var 1 (pv 1))))
    (ds_one (ds_ret (db_var 2 (pv 2))))))
    ds_nil)
    (ds_cons (ds_set c 3 de_int)
    (ds_cons (ds_if (dt_dkne c 0 (pv 0))
    (ds_one (ds_set c 3 (de_dkc 0 (pv 0) ((de_mod ((de_typ (op := oInt) call_int1 cl_int (by rfl) (T.nb_int) (by decide +kernel) (da_cons ((de_dk 0 1 (pv 0))).lent da_nil))).lent ((de_dkl 0 (pv 0) (T.nb_len))).lent)).lent)))
    ds_nil)
    (ds_cons (ds_dk 0 1 (pv 0) (de_add c.hK ((de_dk 0 1 (pv 0))).lent (de_int).lent))
    (ds_cons (ds_if (dt_bool (dw_and (dt_cmp cd_ge ((de_fun (op := oAbs) call_abs cl_abs (by rfl) (T.nb_abs) (by decide +kernel) (da_cons (db_var 3 (pv 3)) da_nil))).lent ((de_pow (de_int).lent (de_int).lent)).lent) (dw_and1 (dt_cmp cd_le ((de_dk 0 1 (pv 0))).lent ((de_dkl 0 (pv 0) (T.nb_len))).lent))))
    (ds_cons (ds_dk 0 2 (pv 0) (de_div ((de_fun (op := oAbs) call_abs cl_abs (by rfl) (T.nb_abs) (by decide +kernel) (da_cons (db_var 3 (pv 3)) da_nil))).lent (db_var 1 (pv 1))))
    (ds_one (ds_ret ((de_mod ((de_typ (op := oInt) call_int1 cl_int (by rfl) (T.nb_int) (by decide +kernel) (da_cons ((de_fun (op := oAbs) call_abs cl_abs (by rfl) (T.nb_abs) (by decide +kernel) (da_cons (db_var 3 (pv 3)) da_nil))).lent da_nil))).lent (db_var 1 (pv 1)))).lent)))
    ds_nil)
    (ds_cons (ds_set c 4 (de_mod ((de_pow ((de_typ (op := oInt) call_int1 cl_int (by rfl) (T.nb_int) (by decide +kernel) (da_cons ((de_add c.hK ((de_mod ((de_typ (op := oInt) call_int1 cl_int (by rfl) (T.nb_int) (by decide +kernel) (da_cons (db_var 3 (pv 3)) da_nil))).lent (de_int).lent)).lent ((de_mul c.hK (de_int).lent ((de_dk 0 3 (pv 0))).lent)).lent)).lent da_nil))).lent (de_int).lent)).lent (de_int).lent))
    (ds_cons (ds_set c 4 (de_mod ((de_pow ((de_typ (op := oInt) call_int1 cl_int (by rfl) (T.nb_int) (by decide +kernel) (da_cons ((de_add c.hK ((de_mul c.hK (db_var 4 (pv 4)) ((de_add c.hK ((de_mul c.hK (de_int).lent ((de_dk 0 3 (pv 0))).lent)).lent (de_int).lent)).lent)).lent (de_int).lent)).lent da_nil))).lent (de_int).lent)).lent (de_int).lent))
    (ds_one (ds_ret ((de_mod ((de_div (db_var 4 (pv 4)) (de_int).lent)).lent (db_var 1 (pv 1)))).lent)))))))))))
abbrev n__law_one : List Str := ["_law_deck_here", "_law_items"]
abbrev p__law_one : List Str := ["_law_deck_here", "_law_items"]
theorem sc__law_one : FnScope n__law_one p__law_one (defScope s__law_one) := ⟨rfl, rfl, rfl, by decide +kernel, rfl, by decide +kernel, by decide +kernel⟩
def b__law_one : Sx Dk :=
  (sRet (eBin opIx (bVar 1) (eFn 2 m__law_draw (aCons (eVar 0) (aCons (eCall oLen (aCons (bVar 1) aNil)) aNil)))))
def m__law_one : List Val → Dk → Out Dk Val := runF 0 b__law_one
theorem ok__law_one (hP : B.P = P) (hK : B.K = K) (hw : B.w = w) (T : Tx K mg) (hC : B.cls = clsT T) : FnG P w K mg base CX0 2 T.d__law_one.f T.d__law_one.fd p__law_one (spP B 2 m__law_one) := by
  have g__law_draw := ok__law_draw (P := P) (w := w) (base := base) hP hK hw T hC
  exact fg_pure hP hK hw T.d__law_one.F sc__law_one b__law_one rfl (fun cdv A outer s H E c hr =>
    (ds_one (ds_ret ((de_ix c.hK (db_var 1 (pv 1)) ((de_call c (g__law_draw) (hr.mono (by decide)) T.d__law_draw.g T.d__law_draw.F.kp (T.d__law_draw.F.binds (ps := p__law_draw) fun _ _ _ _ _ _ us hl => match us, hl with | [_, _], _ => rfl) (dv_cons (de_var 0 (pv 0)) (dv_cons (de_fun (op := oLen) call_len (by rw [← c.hK]; exact cl_len) (by rfl) (T.nb_len) boot_len (da_cons (db_var 1 (pv 1)) da_nil)) dv_nil)))).lent)).lent)))
abbrev n__law_count : List Str := ["_law_weights", "_law_room", "_law_sizes", "_law_patience", "_law_look", "_law_found", "_law_place", "_law_k"]
abbrev p__law_count : List Str := ["_law_weights", "_law_room", "_law_sizes", "_law_patience", "_law_look"]
theorem sc__law_count : FnScope n__law_count p__law_count (defScope s__law_count) := ⟨rfl, rfl, rfl, by decide +kernel, rfl, by decide +kernel, by decide +kernel⟩
def b__law_count : Sx Dk :=
  (sSeq (sSet 5 (eBin opAdd (bVar 3) (eC (.int 1))))
    (sSeq (sFor (iSeq (eVar 0)) (btN 6)
    (sSet 5 (eBin opMul (bVar 5) (eBin opAdd (bVar 1) (eC (.int 1))))))
    (sSeq (sFor (iRg1 (aCons (bVar 4) aNil)) (btN 7)
    (sSet 5 (eBin opMul (bVar 5) (eCall oLen (aCons (bVar 2) aNil)))))
    (sRet (bVar 5)))))
def m__law_count : List Val → Dk → Out Dk Val := runF 3 b__law_count
theorem ok__law_count (hP : B.P = P) (hK : B.K = K) (hw : B.w = w) (T : Tx K mg) (hC : B.cls = clsT T) : FnG P w K mg base CX0 1 T.d__law_count.f T.d__law_count.fd p__law_count (spP B 5 m__law_count) := by
  exact fg_pure hP hK hw T.d__law_count.F sc__law_count b__law_count rfl (fun cdv A outer s H E c hr =>
    (ds_cons (ds_set c 5 (de_add c.hK (db_var 3 (pv 3)) (de_int).lent))
    (ds_cons (ds_for (vs := [6]) c PassesOwn.never (di_seq c.hK (de_var 0 (pv 0))) (dg_name c.nd 6)
    (ds_one (ds_set c 5 (de_mul c.hK (db_var 5 (pv 5)) ((de_add c.hK (db_var 1 (pv 1)) (de_int).lent)).lent))))
    (ds_cons (ds_for (vs := [7]) c PassesOwn.never (di_range1 (T.nb_range) (da_cons (db_var 4 (pv 4)) da_nil)) (dg_name c.nd 7)
    (ds_one (ds_set c 5 (de_mul c.hK (db_var 5 (pv 5)) ((de_fun (op := oLen) call_len (by rw [← c.hK]; exact cl_len) (by rfl) (T.nb_len) boot_len (da_cons (db_var 2 (pv 2)) da_nil))).lent))))
    (ds_one (ds_ret (db_var 5 (pv 5))))))))
abbrev n__law_wheel : List Str := ["_law_deck_here", "_law_most", "_law_room", "_law_sizes", "_law_size", "_law_patience", "_law_look", "_law_wide", "_law_weights", "_law_place", "_law_far", "_law_bounds"]
abbrev p__law_wheel : List Str := ["_law_deck_here", "_law_most"]
theorem sc__law_wheel : FnScope n__law_wheel p__law_wheel (defScope s__law_wheel) := ⟨rfl, rfl, rfl, by decide +kernel, rfl, by decide +kernel, by decide +kernel⟩
def b__law_wheel : Sx Dk :=
  (sSeq (sSet 2 (eFn 2 m__law_one (aCons (eVar 0) (aCons (eL (lSeq (aCons (eC (.int 1)) (aCons (eC (.int 2)) (aCons (eC (.int 2)) (aCons (eC (.int 2)) (aCons (eC (.int 3)) (aCons (eC (.int 4)) aNil)))))))) aNil))))
    (sSeq (sSet 3 (eCall oTuple (aCons (eL (lLc (iRg2 (aCons (eC (.int 1)) (aCons (eBin opAdd (bVar 2) (eC (.int 1))) aNil))) (btN 4) (tOf (eBin (opRel fun i j => decide (j < i)) (eFn 2 m__law_draw (aCons (eVar 0) (aCons (eC (.int 3)) aNil))) (eC (.int 0)))) (eVar 4) [4])) aNil)))
    (sSeq (sSet 3 (eIf (tOf (eBin opNe (bVar 3) (eSeq .tuple aNil))) (eVar 3) (eSeq .tuple (aCons (eBin opAdd (eC (.int 1)) (eFn 2 m__law_draw (aCons (eVar 0) (aCons (eVar 2) aNil)))) aNil))))
    (sSeq (sPar [5, 6] (mVal (eFn 2 m__law_one (aCons (eVar 0) (aCons (eL (lSeq (aCons (eC (.int 1)) (aCons (eC (.int 1)) (aCons (eC (.int 2)) (aCons (eC (.int 2)) (aCons (eC (.int 3)) (aCons (eBin opAdd (eC (.int 1)) (eFn 2 m__law_draw (aCons (eVar 0) (aCons (eC (.int 6)) aNil)))) aNil)))))))) aNil))) (mVal (eFn 2 m__law_one (aCons (eVar 0) (aCons (eL (lSeq (aCons (eC (.int 1)) (aCons (eC (.int 1)) (aCons (eC (.int 1)) (aCons (eC (.int 2)) (aCons (eC (.int 3)) aNil))))))) aNil))) mNil)))
    (sSeq (sSet 7 (eFn 2 m__law_one (aCons (eVar 0) (aCons (eL (lSeq (aCons (eC (.int 1)) (aCons (eC (.int 1)) (aCons (eC (.int 2)) (aCons (eC (.int 9)) aNil)))))) aNil))))
    (sSeq (sSet 8 (eL (lLc (iRg1 (aCons (eFn 2 m__law_one (aCons (eVar 0) (aCons (eL (lSeq (aCons (eC (.int 2)) (aCons (eC (.int 3)) (aCons (eC (.int 3)) (aCons (eC (.int 4)) (aCons (eC (.int 5)) (aCons (eC (.int 6)) aNil)))))))) aNil))) aNil)) (btN 9) xYes (eBin opSub (eFn 2 m__law_draw (aCons (eVar 0) (aCons (eBin opAdd (eBin opMul (eC (.int 2)) (bVar 7)) (eC (.int 1))) aNil))) (bVar 7)) [9])))
    (sSeq (sWh FU (xAnd (tOf (eBin (opRel fun i j => decide (j < i)) (eCall oLen (aCons (bVar 8) aNil)) (eC (.int 2)))) (tOf (eBin (opRel fun i j => decide (j < i)) (eFn 5 m__law_count (aCons (eVar 8) (aCons (eVar 2) (aCons (eVar 3) (aCons (eVar 5) (aCons (eVar 6) aNil)))))) (bVar 1))))
    (sSet 8 (eSl (bVar 8) oNone (oSome (eUn opNeg (eC (.int 1)))))))
    (sSeq (sIf (tOf (eBin (opRel fun i j => decide (j < i)) (eFn 5 m__law_count (aCons (eVar 8) (aCons (eVar 2) (aCons (eVar 3) (aCons (eVar 5) (aCons (eVar 6) aNil)))))) (bVar 1)))
    (sPar [5, 6] (mVal (eC (.int 1)) (mVal (eC (.int 1)) mNil)))
    sNil)
    (sSeq (sSet 10 (eFn 2 m__law_one (aCons (eVar 0) (aCons (eL (lSeq (aCons (eC (.int 2)) (aCons (eC (.int 4)) (aCons (eC (.int 8)) (aCons (eC (.int 30)) aNil)))))) aNil))))
    (sSeq (sSet 11 (eSeq .tuple (aCons (eBin opSub (eC (.int 0)) (eFn 2 m__law_draw (aCons (eVar 0) (aCons (eVar 10) aNil)))) (aCons (eFn 2 m__law_draw (aCons (eVar 0) (aCons (eVar 10) aNil))) aNil))))
    (sRet (eSeq .tuple (aCons (eCall oTuple (aCons (bVar 8) aNil)) (aCons (eVar 2) (aCons (eVar 3) (aCons (eVar 11) (aCons (eVar 5) (aCons (eVar 6) aNil))))))))))))))))))
def m__law_wheel : List Val → Dk → Out Dk Val := runF 10 b__law_wheel
theorem ok__law_wheel (hP : B.P = P) (hK : B.K = K) (hw : B.w = w) (T : Tx K mg) (hC : B.cls = clsT T) : FnG P w K mg base CX0 3 T.d__law_wheel.f T.d__law_wheel.fd p__law_wheel (spP B 2 m__law_wheel) := by
  have g__law_count := ok__law_count (P := P) (w := w) (base := base) hP hK hw T hC
  have g__law_draw := ok__law_draw (P := P) (w := w) (base := base) hP hK hw T hC
  have g__law_one := ok__law_one (P := P) (w := w) (base := base) hP hK hw T hC
  exact fg_pure hP hK hw T.d__law_wheel.F sc__law_wheel b__law_wheel rfl (fun cdv A outer s H E c hr =>
    (ds_cons (ds_set c 2 (de_call c (g__law_one) (hr.mono (by decide)) T.d__law_one.g T.d__law_one.F.kp (T.d__law_one.F.binds (ps := p__law_one) fun _ _ _ _ _ _ us hl => match us, hl with | [_, _], _ => rfl) (dv_cons (de_var 0 (pv 0)) (dv_cons ((df_lst (dv_cons de_int (dv_cons de_int (dv_cons de_int (dv_cons de_int (dv_cons de_int (dv_cons de_int dv_nil)))))))).de dv_nil))))
    (ds_cons (ds_set c 3 (de_typ (op := oTuple) call_tuple_of (by rw [← c.hK]; exact cl_tuple) (by rfl) (T.nb_tuple) boot_tuple (da_cons (((df_lc c (own := [("_law_size", 4)]) (di_range2 (T.nb_range) (da_cons (de_int).lent (da_cons ((de_add c.hK (db_var 2 (pv 2)) (de_int).lent)).lent da_nil))) (blkOk_by (own := [("_law_size", 4)]) (N := n__law_wheel) (sc := defScope s__law_wheel) (by decide +kernel)) (fun s H C cl fp => (dg_name (c.blk s H _ (compEnvC _ cl C _) fp).nd 4)) (fun s H C cl fp => (dts_one (dt_cmp cd_gt ((de_call (c.blk s H _ (compEnvC _ cl C _) fp) (g__law_draw) (hr.mono (by decide)) T.d__law_draw.g T.d__law_draw.F.kp (T.d__law_draw.F.binds (ps := p__law_draw) fun _ _ _ _ _ _ us hl => match us, hl with | [_, _], _ => rfl) (dv_cons (de_var 0 (pv 0)) (dv_cons de_int dv_nil)))).lent (de_int).lent))) (fun s H C cl fp => (de_var 4 (pv 4))))).de).lent da_nil)))
    (ds_cons (ds_set c 3 (de_if (dt_cmp (cd_ne c.hK c.u64) (db_var 3 (pv 3)) ((de_tup dv_nil)).lent) (de_var 3 (pv 3)) (de_tup (dv_cons (de_add c.hK (de_int).lent ((de_call c (g__law_draw) (hr.mono (by decide)) T.d__law_draw.g T.d__law_draw.F.kp (T.d__law_draw.F.binds (ps := p__law_draw) fun _ _ _ _ _ _ us hl => match us, hl with | [_, _], _ => rfl) (dv_cons (de_var 0 (pv 0)) (dv_cons (de_var 2 (pv 2)) dv_nil)))).lent) dv_nil))))
    (ds_cons (ds_par2 c (dm_val (de_call c (g__law_one) (hr.mono (by decide)) T.d__law_one.g T.d__law_one.F.kp (T.d__law_one.F.binds (ps := p__law_one) fun _ _ _ _ _ _ us hl => match us, hl with | [_, _], _ => rfl) (dv_cons (de_var 0 (pv 0)) (dv_cons ((df_lst (dv_cons de_int (dv_cons de_int (dv_cons de_int (dv_cons de_int (dv_cons de_int (dv_cons (de_add c.hK (de_int).lent ((de_call c (g__law_draw) (hr.mono (by decide)) T.d__law_draw.g T.d__law_draw.F.kp (T.d__law_draw.F.binds (ps := p__law_draw) fun _ _ _ _ _ _ us hl => match us, hl with | [_, _], _ => rfl) (dv_cons (de_var 0 (pv 0)) (dv_cons de_int dv_nil)))).lent) dv_nil)))))))).de dv_nil))) (dm_val (de_call c (g__law_one) (hr.mono (by decide)) T.d__law_one.g T.d__law_one.F.kp (T.d__law_one.F.binds (ps := p__law_one) fun _ _ _ _ _ _ us hl => match us, hl with | [_, _], _ => rfl) (dv_cons (de_var 0 (pv 0)) (dv_cons ((df_lst (dv_cons de_int (dv_cons de_int (dv_cons de_int (dv_cons de_int (dv_cons de_int dv_nil))))))).de dv_nil))) dm_nil)))
    (ds_cons (ds_set c 7 (de_call c (g__law_one) (hr.mono (by decide)) T.d__law_one.g T.d__law_one.F.kp (T.d__law_one.F.binds (ps := p__law_one) fun _ _ _ _ _ _ us hl => match us, hl with | [_, _], _ => rfl) (dv_cons (de_var 0 (pv 0)) (dv_cons ((df_lst (dv_cons de_int (dv_cons de_int (dv_cons de_int (dv_cons de_int dv_nil)))))).de dv_nil))))
    (ds_cons (ds_setLc c 8 (own := [("_law_place", 9)]) (di_range1 (T.nb_range) (da_cons ((de_call c (g__law_one) (hr.mono (by decide)) T.d__law_one.g T.d__law_one.F.kp (T.d__law_one.F.binds (ps := p__law_one) fun _ _ _ _ _ _ us hl => match us, hl with | [_, _], _ => rfl) (dv_cons (de_var 0 (pv 0)) (dv_cons ((df_lst (dv_cons de_int (dv_cons de_int (dv_cons de_int (dv_cons de_int (dv_cons de_int (dv_cons de_int dv_nil)))))))).de dv_nil)))).lent da_nil)) (blkOk_by (own := [("_law_place", 9)]) (N := n__law_wheel) (sc := defScope s__law_wheel) (by decide +kernel)) (fun s H C cl fp => (dg_name (c.blk s H _ (compEnvC _ cl C _) fp).nd 9)) (fun s H C cl fp => dts_nil) (fun s H C cl fp => (de_sub ((de_call (c.blk s H _ (compEnvC _ cl C _) fp) (g__law_draw) (hr.mono (by decide)) T.d__law_draw.g T.d__law_draw.F.kp (T.d__law_draw.F.binds (ps := p__law_draw) fun _ _ _ _ _ _ us hl => match us, hl with | [_, _], _ => rfl) (dv_cons (de_var 0 (pv 0)) (dv_cons (de_add (c.blk s H _ (compEnvC _ cl C _) fp).hK ((de_mul (c.blk s H _ (compEnvC _ cl C _) fp).hK (de_int).lent (db_var 7 (pv 7)))).lent (de_int).lent) dv_nil)))).lent (db_var 7 (pv 7)))))
    (ds_cons (ds_while FU PassesOwn.never (dt_bool (dw_and (dt_cmp cd_gt ((de_fun (op := oLen) call_len (by rw [← c.hK]; exact cl_len) (by rfl) (T.nb_len) boot_len (da_cons (db_var 8 (pv 8)) da_nil))).lent (de_int).lent) (dw_and1 (dt_cmp cd_gt ((de_call c (g__law_count) (hr.mono (by decide)) T.d__law_count.g T.d__law_count.F.kp (T.d__law_count.F.binds (ps := p__law_count) fun _ _ _ _ _ _ us hl => match us, hl with | [_, _, _, _, _], _ => rfl) (dv_cons (de_var 8 (pv 8)) (dv_cons (de_var 2 (pv 2)) (dv_cons (de_var 3 (pv 3)) (dv_cons (de_var 5 (pv 5)) (dv_cons (de_var 6 (pv 6)) dv_nil))))))).lent (db_var 1 (pv 1))))))
    (ds_one (ds_set c 8 (de_sl c.hK (db_var 8 (pv 8)) do_none (do_some ((de_neg (de_int).lent)).lent)))))
    (ds_cons (ds_if (dt_cmp cd_gt ((de_call c (g__law_count) (hr.mono (by decide)) T.d__law_count.g T.d__law_count.F.kp (T.d__law_count.F.binds (ps := p__law_count) fun _ _ _ _ _ _ us hl => match us, hl with | [_, _, _, _, _], _ => rfl) (dv_cons (de_var 8 (pv 8)) (dv_cons (de_var 2 (pv 2)) (dv_cons (de_var 3 (pv 3)) (dv_cons (de_var 5 (pv 5)) (dv_cons (de_var 6 (pv 6)) dv_nil))))))).lent (db_var 1 (pv 1)))
    (ds_one (ds_parT c [5, 6] (dm_val de_int (dm_val de_int dm_nil)) (pgs_cons (pg_name (i := 5) c.nd rfl (by first | exact .inl rfl | exact .inr rfl)) (pgs_cons (pg_name (i := 6) c.nd rfl (by first | exact .inl rfl | exact .inr rfl)) pgs_nil))))
    ds_nil)
    (ds_cons (ds_set c 10 (de_call c (g__law_one) (hr.mono (by decide)) T.d__law_one.g T.d__law_one.F.kp (T.d__law_one.F.binds (ps := p__law_one) fun _ _ _ _ _ _ us hl => match us, hl with | [_, _], _ => rfl) (dv_cons (de_var 0 (pv 0)) (dv_cons ((df_lst (dv_cons de_int (dv_cons de_int (dv_cons de_int (dv_cons de_int dv_nil)))))).de dv_nil))))
    (ds_cons (ds_set c 11 (de_tup (dv_cons (de_sub (de_int).lent ((de_call c (g__law_draw) (hr.mono (by decide)) T.d__law_draw.g T.d__law_draw.F.kp (T.d__law_draw.F.binds (ps := p__law_draw) fun _ _ _ _ _ _ us hl => match us, hl with | [_, _], _ => rfl) (dv_cons (de_var 0 (pv 0)) (dv_cons (de_var 10 (pv 10)) dv_nil)))).lent) (dv_cons (de_call c (g__law_draw) (hr.mono (by decide)) T.d__law_draw.g T.d__law_draw.F.kp (T.d__law_draw.F.binds (ps := p__law_draw) fun _ _ _ _ _ _ us hl => match us, hl with | [_, _], _ => rfl) (dv_cons (de_var 0 (pv 0)) (dv_cons (de_var 10 (pv 10)) dv_nil))) dv_nil))))
    (ds_one (ds_ret ((de_tup (dv_cons (de_typ (op := oTuple) call_tuple_of (by rw [← c.hK]; exact cl_tuple) (by rfl) (T.nb_tuple) boot_tuple (da_cons (db_var 8 (pv 8)) da_nil)) (dv_cons (de_var 2 (pv 2)) (dv_cons (de_var 3 (pv 3)) (dv_cons (de_var 11 (pv 11)) (dv_cons (de_var 5 (pv 5)) (dv_cons (de_var 6 (pv 6)) dv_nil)))))))).lent)))))))))))))
abbrev n__law_words : List Str := ["_law_wheel_here", "_law_weights", "_law_room", "_law_sizes", "_law_bounds", "_law_patience", "_law_look", "_law_rows", "_law_one_here"]
abbrev p__law_words : List Str := ["_law_wheel_here"]
theorem sc__law_words : FnScope n__law_words p__law_words (defScope s__law_words) := ⟨rfl, rfl, rfl, by decide +kernel, rfl, by decide +kernel, by decide +kernel⟩
def b__law_words : Sx Dk :=
  (sSeq (sUnp (btT (btsC (btN 1) (btsC (btN 2) (btsC (btN 3) (btsC (btN 4) (btsC (btN 5) (btsC (btN 6) btsN))))))) (eVar 0))
    (sSeq (sNew 7 (lSeq (aCons (eBin opAdd (eL (lSeq (aCons (eC (.str "weights")) aNil))) (eL (lLc (iSeq (bVar 1)) (btN 8) xYes (eCall oStr (aCons (bVar 8) aNil)) [8]))) (aCons (eL (lSeq (aCons (eC (.str "room")) (aCons (eCall oStr (aCons (bVar 2) aNil)) aNil)))) (aCons (eBin opAdd (eL (lSeq (aCons (eC (.str "sizes")) aNil))) (eL (lLc (iSeq (bVar 3)) (btN 8) xYes (eCall oStr (aCons (bVar 8) aNil)) [8]))) aNil)))))
    (sSeq (sApp 7 (eL (lSeq (aCons (eC (.str "bounds")) (aCons (eCall oStr (aCons (eBin opIx (bVar 4) (eC (.int 0))) aNil)) (aCons (eCall oStr (aCons (eBin opIx (bVar 4) (eC (.int 1))) aNil)) aNil))))))
    (sRet (eBin opAdd (bVar 7) (eL (lSeq (aCons (eL (lSeq (aCons (eC (.str "patience")) (aCons (eCall oStr (aCons (bVar 5) aNil)) aNil)))) (aCons (eL (lSeq (aCons (eC (.str "look")) (aCons (eCall oStr (aCons (bVar 6) aNil)) aNil)))) aNil)))))))))
def m__law_words : List Val → Dk → Out Dk Val := runF 8 b__law_words
theorem ok__law_words (hP : B.P = P) (hK : B.K = K) (hw : B.w = w) (T : Tx K mg) (hC : B.cls = clsT T) : FnG P w K mg base CX0 1 T.d__law_words.f T.d__law_words.fd p__law_words (spP B 1 m__law_words) := by
  exact fg_pure hP hK hw T.d__law_words.F sc__law_words b__law_words rfl (fun cdv A outer s H E c hr =>
    (ds_cons (ds_unp (vs := [1, 2, 3, 4, 5, 6]) (de_var 0 (pv 0)) (dg_tup c (dgs_cons (dg_name c.nd 1) (dgs_cons (dg_name c.nd 2) (dgs_cons (dg_name c.nd 3) (dgs_cons (dg_name c.nd 4) (dgs_cons (dg_name c.nd 5) (dgs_cons (dg_name c.nd 6) dgs_nil)))))) (btsC_len (btsC_len (btsC_len (btsC_len (btsC_len (btsC_len btsN_len _) _) _) _) _) _)))
    (ds_cons (ds_new c 7 (df_lst (dv_cons (de_add c.hK (((df_lst (dv_cons de_str dv_nil))).de).lent (((df_lc c (own := [("_law_one_here", 8)]) (di_seqB c.hK (db_var 1 (pv 1))) (blkOk_by (own := [("_law_one_here", 8)]) (N := n__law_words) (sc := defScope s__law_words) (by decide +kernel)) (fun s H C cl fp => (dg_name (c.blk s H _ (compEnvC _ cl C _) fp).nd 8)) (fun s H C cl fp => dts_nil) (fun s H C cl fp => (de_typ (op := oStr) call_str_int cl_str (by rfl) (T.nb_str) (by decide +kernel) (da_cons (db_var 8 (pv 8)) da_nil))))).de).lent) (dv_cons ((df_lst (dv_cons de_str (dv_cons (de_typ (op := oStr) call_str_int cl_str (by rfl) (T.nb_str) (by decide +kernel) (da_cons (db_var 2 (pv 2)) da_nil)) dv_nil)))).de (dv_cons (de_add c.hK (((df_lst (dv_cons de_str dv_nil))).de).lent (((df_lc c (own := [("_law_one_here", 8)]) (di_seqB c.hK (db_var 3 (pv 3))) (blkOk_by (own := [("_law_one_here", 8)]) (N := n__law_words) (sc := defScope s__law_words) (by decide +kernel)) (fun s H C cl fp => (dg_name (c.blk s H _ (compEnvC _ cl C _) fp).nd 8)) (fun s H C cl fp => dts_nil) (fun s H C cl fp => (de_typ (op := oStr) call_str_int cl_str (by rfl) (T.nb_str) (by decide +kernel) (da_cons (db_var 8 (pv 8)) da_nil))))).de).lent) dv_nil)))))
    (ds_cons (ds_app c 7 (pe_bm PySem.F.plainAttrs_list PySem.F.slot_list_append PySem.F.type_list_append mt_append (pv 7) (pa_cons ((df_lst (dv_cons de_str (dv_cons (de_typ (op := oStr) call_str_int cl_str (by rfl) (T.nb_str) (by decide +kernel) (da_cons ((de_ix c.hK (db_var 4 (pv 4)) (de_int).lent)).lent da_nil)) (dv_cons (de_typ (op := oStr) call_str_int cl_str (by rfl) (T.nb_str) (by decide +kernel) (da_cons ((de_ix c.hK (db_var 4 (pv 4)) (de_int).lent)).lent da_nil)) dv_nil))))).de pa_nil)))
    (ds_one (ds_ret ((de_add c.hK (db_var 7 (pv 7)) (((df_lst (dv_cons ((df_lst (dv_cons de_str (dv_cons (de_typ (op := oStr) call_str_int cl_str (by rfl) (T.nb_str) (by decide +kernel) (da_cons (db_var 5 (pv 5)) da_nil)) dv_nil)))).de (dv_cons ((df_lst (dv_cons de_str (dv_cons (de_typ (op := oStr) call_str_int cl_str (by rfl) (T.nb_str) (by decide +kernel) (da_cons (db_var 6 (pv 6)) da_nil)) dv_nil)))).de dv_nil)))).de).lent)).lent))))))
abbrev n__law_text : List Str := ["_law_rows", "_law_row"]
abbrev p__law_text : List Str := ["_law_rows"]
theorem sc__law_text : FnScope n__law_text p__law_text (defScope s__law_text) := ⟨rfl, rfl, rfl, by decide +kernel, rfl, by decide +kernel, by decide +kernel⟩
def b__law_text : Sx Dk :=
  (sRet (eM1 opJoin (eC (.str "")) (eL (lLc (iSeq (bVar 0)) (btN 1) xYes (eBin opAdd (eM1 opJoin (eC (.str " ")) (bVar 1)) (eC (.str "\n"))) [1]))))
def m__law_text : List Val → Dk → Out Dk Val := runF 1 b__law_text
theorem ok__law_text (hP : B.P = P) (hK : B.K = K) (hw : B.w = w) (T : Tx K mg) (hC : B.cls = clsT T) : FnG P w K mg base CX0 1 T.d__law_text.f T.d__law_text.fd p__law_text (spP B 1 m__law_text) := by
  exact fg_pure hP hK hw T.d__law_text.F sc__law_text b__law_text rfl (fun cdv A outer s H E c hr =>
    (ds_one (ds_ret ((de_join c.hK (de_str).lent (((df_lc c (own := [("_law_row", 1)]) (di_seqB c.hK (db_var 0 (pv 0))) (blkOk_by (own := [("_law_row", 1)]) (N := n__law_text) (sc := defScope s__law_text) (by decide +kernel)) (fun s H C cl fp => (dg_name (c.blk s H _ (compEnvC _ cl C _) fp).nd 1)) (fun s H C cl fp => dts_nil) (fun s H C cl fp => (de_add (c.blk s H _ (compEnvC _ cl C _) fp).hK ((de_join (c.blk s H _ (compEnvC _ cl C _) fp).hK (de_str).lent (db_var 1 (pv 1)))).lent (de_str).lent)))).de).lent)).lent)))
abbrev n__law_number : List Str := ["_law_word", "_law_low", "_law_high", "_law_digits", "_law_sign"]
abbrev p__law_number : List Str := ["_law_word", "_law_low", "_law_high"]
theorem sc__law_number : FnScope n__law_number p__law_number (defScope s__law_number) := ⟨rfl, rfl, rfl, by decide +kernel, rfl, by decide +kernel, by decide +kernel⟩
def b__law_number : Sx Dk :=
  (sSeq (sSet 3 (eIf (tOf (eBin opEq (eTSl (bVar 0) oNone (oSome (eC (.int 1)))) (eC (.str "-")))) (eTSl (bVar 0) (oSome (eC (.int 1))) oNone) (eVar 0)))
    (sSeq (sIf (xOr (tOf (eBin opEq (bVar 3) (eC (.str "")))) (xOr (tOf (eBin (opRel fun i j => decide (j < i)) (eCall oLen (aCons (bVar 3) aNil)) (eC (.int 9)))) (tOf (eBin opNe (eL (lLc (iTxt (eVar 3)) (btN 4) (tOf (eBin opNotIn (bVar 4) (eC (.str "0123456789")))) (eVar 4) [4])) (eL (lSeq aNil))))))
    (sRet (eC .none))
    sNil)
    (sSeq (sIf (xAnd (tOf (eBin opEq (eBin opIx (bVar 3) (eC (.int 0))) (eC (.str "0")))) (tOf (eBin opNe (bVar 0) (eC (.str "0")))))
    (sRet (eC .none))
    sNil)
    (sRet (eIf (tOf (eChain (opRel fun i j => decide (i ≤ j)) (opRel fun i j => decide (i ≤ j)) (bVar 1) (eCall oIntT (aCons (bVar 0) aNil)) (bVar 2))) (eCall oIntT (aCons (bVar 0) aNil)) (eC .none))))))
def m__law_number : List Val → Dk → Out Dk Val := runF 2 b__law_number
theorem ok__law_number (hP : B.P = P) (hK : B.K = K) (hw : B.w = w) (T : Tx K mg) (hC : B.cls = clsT T) : FnG P w K mg base CX0 1 T.d__law_number.f T.d__law_number.fd p__law_number (spP B 3 m__law_number) := by
  exact fg_pure hP hK hw T.d__law_number.F sc__law_number b__law_number rfl (fun cdv A outer s H E c hr =>
    (ds_cons (ds_set c 3 (de_if (dt_cmp (cd_eq c.hK c.u64) ((de_tsl (db_var 0 (pv 0)) do_none (do_some (de_int).lent))).lent (de_str).lent) (de_tsl (db_var 0 (pv 0)) (do_some (de_int).lent) do_none) (de_var 0 (pv 0))))
    (ds_cons (ds_if (dt_bool (dw_or (dt_cmp (cd_eq c.hK c.u64) (db_var 3 (pv 3)) (de_str).lent) (dw_or (dt_cmp cd_gt ((de_fun (op := oLen) call_len (by rw [← c.hK]; exact cl_len) (by rfl) (T.nb_len) boot_len (da_cons (db_var 3 (pv 3)) da_nil))).lent (de_int).lent) (dw_or1 (dt_cmp (cd_ne c.hK c.u64) (((df_lc c (own := [("_law_sign", 4)]) (di_txt (de_var 3 (pv 3))) (blkOk_by (own := [("_law_sign", 4)]) (N := n__law_number) (sc := defScope s__law_number) (by decide +kernel)) (fun s H C cl fp => (dg_name (c.blk s H _ (compEnvC _ cl C _) fp).nd 4)) (fun s H C cl fp => (dts_one (dt_cmp (cd_notin (c.blk s H _ (compEnvC _ cl C _) fp)) (db_var 4 (pv 4)) (de_str).lent))) (fun s H C cl fp => (de_var 4 (pv 4))))).de).lent (((df_lst dv_nil)).de).lent)))))
    (ds_one (ds_ret (de_non).lent))
    ds_nil)
    (ds_cons (ds_if (dt_bool (dw_and (dt_cmp (cd_eq c.hK c.u64) ((de_ix c.hK (db_var 3 (pv 3)) (de_int).lent)).lent (de_str).lent) (dw_and1 (dt_cmp (cd_ne c.hK c.u64) (db_var 0 (pv 0)) (de_str).lent))))
    (ds_one (ds_ret (de_non).lent))
    ds_nil)
    (ds_one (ds_ret ((de_if (dt_chain cd_le cd_le (db_var 1 (pv 1)) ((de_typ (op := oIntT) call_int_str cl_intT (by rfl) (T.nb_int) (by decide +kernel) (da_cons (db_var 0 (pv 0)) da_nil))).lent (db_var 2 (pv 2))) (de_typ (op := oIntT) call_int_str cl_intT (by rfl) (T.nb_int) (by decide +kernel) (da_cons (db_var 0 (pv 0)) da_nil)) de_non)).lent))))))
abbrev n__law_limits : List Str := ["_law_line_here", "_law_found", "_law_at", "_law_room"]
abbrev p__law_limits : List Str := ["_law_line_here", "_law_found", "_law_at", "_law_room"]
theorem sc__law_limits : FnScope n__law_limits p__law_limits (defScope s__law_limits) := ⟨rfl, rfl, rfl, by decide +kernel, rfl, by decide +kernel, by decide +kernel⟩
def b__law_limits : Sx Dk :=
  (sSeq (sIf (tOf (eBin opEq (bVar 0) (eC (.int 0))))
    (sRet (eIf (tOf (eBin (opRel fun i j => decide (i ≤ j)) (bVar 2) (eC (.int 6)))) (eSeq .tuple (aCons (eUn opNeg (eC (.int 9))) (aCons (eC (.int 9)) aNil))) (eC .none)))
    sNil)
    (sSeq (sIf (tOf (eBin opEq (bVar 0) (eC (.int 2))))
    (sRet (eSeq .tuple (aCons (eIf (tOf (eBin opNe (bVar 1) (eL (lSeq aNil)))) (eBin opAdd (eBin opIx (bVar 1) (eUn opNeg (eC (.int 1)))) (eC (.int 1))) (eC (.int 1))) (aCons (eVar 3) aNil))))
    sNil)
    (sSeq (sIf (tOf (eBin opEq (bVar 0) (eC (.int 3))))
    (sRet (eBin opIx (eL (lSeq (aCons (eSeq .tuple (aCons (eUn opNeg (eC (.int 60))) (aCons (eC (.int 0)) aNil))) (aCons (eSeq .tuple (aCons (eC (.int 0)) (aCons (eC (.int 60)) aNil))) (aCons (eC .none) aNil))))) (eCall oMin (aCons (eBin opSub (bVar 2) (eC (.int 1))) (aCons (eC (.int 2)) aNil)))))
    sNil)
    (sRet (eIf (tOf (eBin opEq (bVar 2) (eC (.int 1)))) (eSeq .tuple (aCons (eC (.int 1)) (aCons (eBin opDIx (eN (nDispK [.inl 1, .inl 4, .inl 5] (exsOf [(eC (.int 4)), (eC (.int 6)), (eC (.int 3))]))) (bVar 0)) aNil))) (eC .none))))))
def m__law_limits : List Val → Dk → Out Dk Val := runF 0 b__law_limits
theorem ok__law_limits (hP : B.P = P) (hK : B.K = K) (hw : B.w = w) (T : Tx K mg) (hC : B.cls = clsT T) : FnG P w K mg base CX0 1 T.d__law_limits.f T.d__law_limits.fd p__law_limits (spP B 4 m__law_limits) := by
  exact fg_pure hP hK hw T.d__law_limits.F sc__law_limits b__law_limits rfl (fun cdv A outer s H E c hr =>
    (ds_cons (ds_if (dt_cmp (cd_eq c.hK c.u64) (db_var 0 (pv 0)) (de_int).lent)
    (ds_one (ds_ret ((de_if (dt_cmp cd_le (db_var 2 (pv 2)) (de_int).lent) (de_tup (dv_cons (de_neg (de_int).lent) (dv_cons de_int dv_nil))) de_non)).lent))
    ds_nil)
    (ds_cons (ds_if (dt_cmp (cd_eq c.hK c.u64) (db_var 0 (pv 0)) (de_int).lent)
    (ds_one (ds_ret ((de_tup (dv_cons (de_if (dt_cmp (cd_ne c.hK c.u64) (db_var 1 (pv 1)) (((df_lst dv_nil)).de).lent) (de_add c.hK ((de_ix c.hK (db_var 1 (pv 1)) ((de_neg (de_int).lent)).lent)).lent (de_int).lent) de_int) (dv_cons (de_var 3 (pv 3)) dv_nil)))).lent))
    ds_nil)
    (ds_cons (ds_if (dt_cmp (cd_eq c.hK c.u64) (db_var 0 (pv 0)) (de_int).lent)
    (ds_one (ds_ret ((de_ix c.hK (((df_lst (dv_cons (de_tup (dv_cons (de_neg (de_int).lent) (dv_cons de_int dv_nil))) (dv_cons (de_tup (dv_cons de_int (dv_cons de_int dv_nil))) (dv_cons de_non dv_nil))))).de).lent ((de_fun (op := oMin) ((cr_min c.calm).or (call_min2 c.calm)) (by rw [← c.hK]; exact cl_min) (by rfl) (T.nb_min) (by decide +kernel) (da_cons ((de_sub (db_var 2 (pv 2)) (de_int).lent)).lent (da_cons (de_int).lent da_nil)))).lent)).lent))
    ds_nil)
    (ds_one (ds_ret ((de_if (dt_cmp (cd_eq c.hK c.u64) (db_var 2 (pv 2)) (de_int).lent) (de_tup (dv_cons de_int (dv_cons (de_dix c (((dn_dispK [.inl 1, .inl 4, .inl 5] [(eC (.int 4)), (eC (.int 6)), (eC (.int 3))] (pps_cons pe_int de_int (pps_cons pe_int de_int (pps_cons pe_int de_int pps_nil))) rfl)).de).lent (db_var 0 (pv 0))) dv_nil))) de_non)).lent))))))
abbrev n__law_line : List Str := ["_law_words_here", "_law_line_here", "_law_room", "_law_found", "_law_least", "_law_at", "_law_limits_here", "_law_word", "_law_number_here"]
abbrev p__law_line : List Str := ["_law_words_here", "_law_line_here", "_law_room"]
theorem sc__law_line : FnScope n__law_line p__law_line (defScope s__law_line) := ⟨rfl, rfl, rfl, by decide +kernel, rfl, by decide +kernel, by decide +kernel⟩
def b__law_line : Sx Dk :=
  (sSeq (sIf (tOf (eBin opNe (eBin opIx (bVar 0) (eC (.int 0))) (eBin opIx (eL (lSeq (aCons (eC (.str "weights")) (aCons (eC (.str "room")) (aCons (eC (.str "sizes")) (aCons (eC (.str "bounds")) (aCons (eC (.str "patience")) (aCons (eC (.str "look")) aNil)))))))) (bVar 1))))
    (sRet (eC (.int 0)))
    sNil)
    (sSeq (sPar [3, 4] (mNew (nL (lSeq aNil)) (mVal (eIf (tOf (eBin opIn (bVar 1) (eSeq .tuple (aCons (eC (.int 0)) (aCons (eC (.int 3)) aNil))))) (eC (.int 2)) (eC (.int 1))) mNil)))
    (sSeq (sFor (iRg2 (aCons (eC (.int 1)) (aCons (eCall oMax (aCons (eCall oLen (aCons (bVar 0) aNil)) (aCons (eBin opAdd (bVar 4) (eC (.int 1))) aNil))) aNil))) (btN 5)
    (sSeq (sSet 6 (eFnB 4 m__law_limits (aCons (bVar 1) (aCons (bVar 3) (aCons (bVar 5) (aCons (bVar 2) aNil))))))
    (sSeq (sSet 7 (eBin opIx (eBin opAdd (bVar 0) (eBin opMul (eL (lSeq (aCons (eC (.str "")) aNil))) (eC (.int 3)))) (eCall oMin (aCons (bVar 5) (aCons (eCall oLen (aCons (bVar 0) aNil)) aNil)))))
    (sSeq (sSet 8 (eIf (tOf (eBin opIs (bVar 6) (eC .none))) (eC .none) (eFn 3 m__law_number (aCons (eVar 7) (aCons (eBin opIx (bVar 6) (eC (.int 0))) (aCons (eBin opIx (bVar 6) (eC (.int 1))) aNil))))))
    (sSeq (sIf (tOf (eBin opIs (bVar 8) (eC .none)))
    (sRet (bVar 5))
    sNil)
    (sApp 3 (eVar 8)))))))
    (sRet (eCall oTuple (aCons (bVar 3) aNil))))))
def m__law_line : List Val → Dk → Out Dk Val := runF 6 b__law_line
theorem ok__law_line (hP : B.P = P) (hK : B.K = K) (hw : B.w = w) (T : Tx K mg) (hC : B.cls = clsT T) : FnG P w K mg base CX0 2 T.d__law_line.f T.d__law_line.fd p__law_line (spP B 3 m__law_line) := by
  have g__law_limits := ok__law_limits (P := P) (w := w) (base := base) hP hK hw T hC
  have g__law_number := ok__law_number (P := P) (w := w) (base := base) hP hK hw T hC
  exact fg_pure hP hK hw T.d__law_line.F sc__law_line b__law_line rfl (fun cdv A outer s H E c hr =>
    (ds_cons (ds_if (dt_cmp (cd_ne c.hK c.u64) ((de_ix c.hK (db_var 0 (pv 0)) (de_int).lent)).lent ((de_ix c.hK (((df_lst (dv_cons de_str (dv_cons de_str (dv_cons de_str (dv_cons de_str (dv_cons de_str (dv_cons de_str dv_nil)))))))).de).lent (db_var 1 (pv 1)))).lent)
    (ds_one (ds_ret (de_int).lent))
    ds_nil)
    (ds_cons (ds_par2 c (dm_new ((df_lst dv_nil)).dn (dm_val (de_if (dt_cmp (cd_in c) (db_var 1 (pv 1)) ((de_tup (dv_cons de_int (dv_cons de_int dv_nil)))).lent) de_int de_int) dm_nil)))
    (ds_cons (ds_for (vs := [5]) c PassesOwn.never (di_range2 (T.nb_range) (da_cons (de_int).lent (da_cons ((de_fun (op := oMax) ((cr_max c.calm).or (call_max2 c.calm)) (by rw [← c.hK]; exact cl_max) (by rfl) (T.nb_max) (by decide +kernel) (da_cons ((de_fun (op := oLen) call_len (by rw [← c.hK]; exact cl_len) (by rfl) (T.nb_len) boot_len (da_cons (db_var 0 (pv 0)) da_nil))).lent (da_cons ((de_add c.hK (db_var 4 (pv 4)) (de_int).lent)).lent da_nil)))).lent da_nil))) (dg_name c.nd 5)
    (ds_cons (ds_set c 6 (de_callB c (g__law_limits) (hr.mono (by decide)) T.d__law_limits.g T.d__law_limits.F.kp (T.d__law_limits.F.binds (ps := p__law_limits) fun _ _ _ _ _ _ us hl => match us, hl with | [_, _, _, _], _ => rfl) (da_cons (db_var 1 (pv 1)) (da_cons (db_var 3 (pv 3)) (da_cons (db_var 5 (pv 5)) (da_cons (db_var 2 (pv 2)) da_nil))))))
    (ds_cons (ds_set c 7 (de_ix c.hK ((de_add c.hK (db_var 0 (pv 0)) ((de_mul c.hK (((df_lst (dv_cons de_str dv_nil))).de).lent (de_int).lent)).lent)).lent ((de_fun (op := oMin) ((cr_min c.calm).or (call_min2 c.calm)) (by rw [← c.hK]; exact cl_min) (by rfl) (T.nb_min) (by decide +kernel) (da_cons (db_var 5 (pv 5)) (da_cons ((de_fun (op := oLen) call_len (by rw [← c.hK]; exact cl_len) (by rfl) (T.nb_len) boot_len (da_cons (db_var 0 (pv 0)) da_nil))).lent da_nil)))).lent))
    (ds_cons (ds_set c 8 (de_if (dt_cmp cd_is (db_var 6 (pv 6)) (de_non).lent) de_non (de_call c (g__law_number) (hr.mono (by decide)) T.d__law_number.g T.d__law_number.F.kp (T.d__law_number.F.binds (ps := p__law_number) fun _ _ _ _ _ _ us hl => match us, hl with | [_, _, _], _ => rfl) (dv_cons (de_var 7 (pv 7)) (dv_cons (de_ix c.hK (db_var 6 (pv 6)) (de_int).lent) (dv_cons (de_ix c.hK (db_var 6 (pv 6)) (de_int).lent) dv_nil))))))
    (ds_cons (ds_if (dt_cmp cd_is (db_var 8 (pv 8)) (de_non).lent)
    (ds_one (ds_ret (db_var 5 (pv 5))))
    ds_nil)
    (ds_one (ds_app c 3 (pe_bm PySem.F.plainAttrs_list PySem.F.slot_list_append PySem.F.type_list_append mt_append (pv 3) (pa_cons (de_var 8 (pv 8)) pa_nil)))))))))
    (ds_one (ds_ret ((de_typ (op := oTuple) call_tuple_of (by rw [← c.hK]; exact cl_tuple) (by rfl) (T.nb_tuple) boot_tuple (da_cons (db_var 3 (pv 3)) da_nil))).lent))))))
abbrev n__law_is_crowded : List Str := ["_law_found", "_law_words_here", "_law_look"]
abbrev p__law_is_crowded : List Str := ["_law_found", "_law_words_here"]
theorem sc__law_is_crowded : FnScope n__law_is_crowded p__law_is_crowded (defScope s__law_is_crowded) := ⟨rfl, rfl, rfl, by decide +kernel, rfl, by decide +kernel, by decide +kernel⟩
def b__law_is_crowded : Sx Dk :=
  (sSeq (sSet 2 (eFn 3 m__law_number (aCons (eBin opIx (eBin opAdd (bVar 1) (eL (lSeq (aCons (eC (.str "")) aNil)))) (eC (.int 1))) (aCons (eC (.int 1)) (aCons (eC (.int 3)) aNil)))))
    (sSeq (sIf (xOr (tOf (eBin opNe (eBin opIx (bVar 1) (eC (.int 0))) (eC (.str "look")))) (tOf (eBin opIs (bVar 2) (eC .none))))
    (sRet (eC (.bool false)))
    sNil)
    (sRet (eBin (opRel fun i j => decide (j < i)) (eFn 5 m__law_count (aCons (eBin opIx (bVar 0) (eC (.int 0))) (aCons (eBin opIx (eBin opIx (bVar 0) (eC (.int 1))) (eC (.int 0))) (aCons (eBin opIx (bVar 0) (eC (.int 2))) (aCons (eBin opIx (eBin opIx (bVar 0) (eC (.int 4))) (eC (.int 0))) (aCons (eVar 2) aNil)))))) (eC (.int 2000))))))
def m__law_is_crowded : List Val → Dk → Out Dk Val := runF 1 b__law_is_crowded
theorem ok__law_is_crowded (hP : B.P = P) (hK : B.K = K) (hw : B.w = w) (T : Tx K mg) (hC : B.cls = clsT T) : FnG P w K mg base CX0 2 T.d__law_is_crowded.f T.d__law_is_crowded.fd p__law_is_crowded (spP B 2 m__law_is_crowded) := by
  have g__law_count := ok__law_count (P := P) (w := w) (base := base) hP hK hw T hC
  have g__law_number := ok__law_number (P := P) (w := w) (base := base) hP hK hw T hC
  exact fg_pure hP hK hw T.d__law_is_crowded.F sc__law_is_crowded b__law_is_crowded rfl (fun cdv A outer s H E c hr =>
    (ds_cons (ds_set c 2 (de_call c (g__law_number) (hr.mono (by decide)) T.d__law_number.g T.d__law_number.F.kp (T.d__law_number.F.binds (ps := p__law_number) fun _ _ _ _ _ _ us hl => match us, hl with | [_, _, _], _ => rfl) (dv_cons (de_ix c.hK ((de_add c.hK (db_var 1 (pv 1)) (((df_lst (dv_cons de_str dv_nil))).de).lent)).lent (de_int).lent) (dv_cons de_int (dv_cons de_int dv_nil)))))
    (ds_cons (ds_if (dt_bool (dw_or (dt_cmp (cd_ne c.hK c.u64) ((de_ix c.hK (db_var 1 (pv 1)) (de_int).lent)).lent (de_str).lent) (dw_or1 (dt_cmp cd_is (db_var 2 (pv 2)) (de_non).lent))))
    (ds_one (ds_ret (de_bl).lent))
    ds_nil)
    (ds_one (ds_ret ((de_cmp cd_gt ((de_call c (g__law_count) (hr.mono (by decide)) T.d__law_count.g T.d__law_count.F.kp (T.d__law_count.F.binds (ps := p__law_count) fun _ _ _ _ _ _ us hl => match us, hl with | [_, _, _, _, _], _ => rfl) (dv_cons (de_ix c.hK (db_var 0 (pv 0)) (de_int).lent) (dv_cons (de_ix c.hK ((de_ix c.hK (db_var 0 (pv 0)) (de_int).lent)).lent (de_int).lent) (dv_cons (de_ix c.hK (db_var 0 (pv 0)) (de_int).lent) (dv_cons (de_ix c.hK ((de_ix c.hK (db_var 0 (pv 0)) (de_int).lent)).lent (de_int).lent) (dv_cons (de_var 2 (pv 2)) dv_nil))))))).lent (de_int).lent)).lent)))))
abbrev n__law_read : List Str := ["_law_text_here", "_law_rows", "_law_found", "_law_room", "_law_is_ended", "_law_line_here", "_law_row", "_law_words_here", "_law_told_here"]
abbrev p__law_read : List Str := ["_law_text_here"]
theorem sc__law_read : FnScope n__law_read p__law_read (defScope s__law_read) := ⟨rfl, rfl, rfl, by decide +kernel, rfl, by decide +kernel, by decide +kernel⟩
def b__law_read : Sx Dk :=
  (sSeq (sPar [1, 2, 3] (mVal (eM1 opSplit (bVar 0) (eC (.str "\n"))) (mNew (nL (lSeq aNil)) (mVal (eC (.int 1)) mNil))))
    (sSeq (sSet 4 (eAnd (eBin (opRel fun i j => decide (j < i)) (eCall oLen (aCons (bVar 1) aNil)) (eC (.int 1))) (eBin opEq (eBin opIx (bVar 1) (eUn opNeg (eC (.int 1)))) (eC (.str "")))))
    (sSeq (sSet 1 (eIf (tOf (bVar 4)) (eSl (bVar 1) oNone (oSome (eUn opNeg (eC (.int 1))))) (eVar 1)))
    (sSeq (sFor (iEnu (eSl (bVar 1) oNone (oSome (eC (.int 6))))) (btT (btsC (btN 5) (btsC (btN 6) btsN)))
    (sSeq (sSet 7 (eM1 opSplit (bVar 6) (eC (.str " "))))
    (sSeq (sIf (xAnd (tOf (eBin opEq (bVar 5) (eC (.int 5)))) (tOf (eFnB 2 m__law_is_crowded (aCons (bVar 2) (aCons (bVar 7) aNil)))))
    (sRet (eL (lSeq (aCons (eC (.int 5)) (aCons (eC (.int 1)) aNil)))))
    sNil)
    (sSeq (sSet 8 (eFn 3 m__law_line (aCons (eVar 7) (aCons (eVar 5) (aCons (eVar 3) aNil)))))
    (sSeq (sIf (tOf (eIsi "int" (bVar 8)))
    (sRet (eL (lSeq (aCons (eVar 5) (aCons (eVar 8) aNil)))))
    sNil)
    (sSeq (sApp 2 (eVar 8))
    (sSet 3 (eIf (tOf (eBin opEq (bVar 5) (eC (.int 1)))) (eBin opIx (eBin opIx (bVar 2) (eC (.int 1))) (eC (.int 0))) (eVar 3)))))))))
    (sSeq (sIf (tOf (eBin (opRel fun i j => decide (j < i)) (eCall oLen (aCons (bVar 1) aNil)) (eC (.int 6))))
    (sRet (eL (lSeq (aCons (eC (.int 6)) (aCons (eC (.int 0)) aNil)))))
    sNil)
    (sSeq (sIf (xOr (tOf (eBin (opRel fun i j => decide (i < j)) (eCall oLen (aCons (bVar 1) aNil)) (eC (.int 6)))) (xNot (tOf (bVar 4))))
    (sRet (eL (lSeq (aCons (eCall oLen (aCons (bVar 1) aNil)) (aCons (eC (.int 0)) aNil)))))
    sNil)
    (sRet (eSeq .tuple (aCons (eBin opIx (bVar 2) (eC (.int 0))) (aCons (eBin opIx (eBin opIx (bVar 2) (eC (.int 1))) (eC (.int 0))) (aCons (eBin opIx (bVar 2) (eC (.int 2))) (aCons (eBin opIx (bVar 2) (eC (.int 3))) (aCons (eBin opIx (eBin opIx (bVar 2) (eC (.int 4))) (eC (.int 0))) (aCons (eBin opIx (eBin opIx (bVar 2) (eC (.int 5))) (eC (.int 0))) aNil))))))))))))))
def m__law_read : List Val → Dk → Out Dk Val := runF 8 b__law_read
theorem ok__law_read (hP : B.P = P) (hK : B.K = K) (hw : B.w = w) (T : Tx K mg) (hC : B.cls = clsT T) : FnG P w K mg base CX0 3 T.d__law_read.f T.d__law_read.fd p__law_read (spP B 1 m__law_read) := by
  have g__law_is_crowded := ok__law_is_crowded (P := P) (w := w) (base := base) hP hK hw T hC
  have g__law_line := ok__law_line (P := P) (w := w) (base := base) hP hK hw T hC
  exact fg_pure hP hK hw T.d__law_read.F sc__law_read b__law_read rfl (fun cdv A outer s H E c hr =>
    (ds_cons (ds_par3 c (dm_val (de_split (db_var 0 (pv 0)) (de_str).lent) (dm_new ((df_lst dv_nil)).dn (dm_val de_int dm_nil))))
    (ds_cons (ds_set c 4 (de_and ((de_cmp cd_gt ((de_fun (op := oLen) call_len (by rw [← c.hK]; exact cl_len) (by rfl) (T.nb_len) boot_len (da_cons (db_var 1 (pv 1)) da_nil))).lent (de_int).lent)).lent (de_one (de_cmp (cd_eq c.hK c.u64) ((de_ix c.hK (db_var 1 (pv 1)) ((de_neg (de_int).lent)).lent)).lent (de_str).lent))))
    (ds_cons (ds_set c 1 (de_if (dt_val (db_var 4 (pv 4))) (de_sl c.hK (db_var 1 (pv 1)) do_none (do_some ((de_neg (de_int).lent)).lent)) (de_var 1 (pv 1))))
    (ds_cons (ds_for (vs := [5, 6]) c PassesOwn.never (di_enu (T.nb_enumerate) (de_sl c.hK (db_var 1 (pv 1)) do_none (do_some (de_int).lent))) (dg_tup c (dgs_cons (dg_name c.nd 5) (dgs_cons (dg_name c.nd 6) dgs_nil)) (btsC_len (btsC_len btsN_len _) _))
    (ds_cons (ds_set c 7 (de_split (db_var 6 (pv 6)) (de_str).lent))
    (ds_cons (ds_if (dt_bool (dw_and (dt_cmp (cd_eq c.hK c.u64) (db_var 5 (pv 5)) (de_int).lent) (dw_and1 (dt_val ((de_callB c (g__law_is_crowded) (hr.mono (by decide)) T.d__law_is_crowded.g T.d__law_is_crowded.F.kp (T.d__law_is_crowded.F.binds (ps := p__law_is_crowded) fun _ _ _ _ _ _ us hl => match us, hl with | [_, _], _ => rfl) (da_cons (db_var 2 (pv 2)) (da_cons (db_var 7 (pv 7)) da_nil)))).lent))))
    (ds_one (ds_ret (((df_lst (dv_cons de_int (dv_cons de_int dv_nil)))).de).lent))
    ds_nil)
    (ds_cons (ds_set c 8 (de_call c (g__law_line) (hr.mono (by decide)) T.d__law_line.g T.d__law_line.F.kp (T.d__law_line.F.binds (ps := p__law_line) fun _ _ _ _ _ _ us hl => match us, hl with | [_, _, _], _ => rfl) (dv_cons (de_var 7 (pv 7)) (dv_cons (de_var 5 (pv 5)) (dv_cons (de_var 3 (pv 3)) dv_nil)))))
    (ds_cons (ds_if (dt_val ((de_isi (T := "int") c.hK kit_int (T.nb_isinstance) (db_var 8 (pv 8)) (pe_bltn (by rfl) (T.nb_int) (by decide +kernel) rfl))).lent)
    (ds_one (ds_ret (((df_lst (dv_cons (de_var 5 (pv 5)) (dv_cons (de_var 8 (pv 8)) dv_nil)))).de).lent))
    ds_nil)
    (ds_cons (ds_app c 2 (pe_bm PySem.F.plainAttrs_list PySem.F.slot_list_append PySem.F.type_list_append mt_append (pv 2) (pa_cons (de_var 8 (pv 8)) pa_nil)))
    (ds_one (ds_set c 3 (de_if (dt_cmp (cd_eq c.hK c.u64) (db_var 5 (pv 5)) (de_int).lent) (de_ix c.hK ((de_ix c.hK (db_var 2 (pv 2)) (de_int).lent)).lent (de_int).lent) (de_var 3 (pv 3)))))))))))
    (ds_cons (ds_if (dt_cmp cd_gt ((de_fun (op := oLen) call_len (by rw [← c.hK]; exact cl_len) (by rfl) (T.nb_len) boot_len (da_cons (db_var 1 (pv 1)) da_nil))).lent (de_int).lent)
    (ds_one (ds_ret (((df_lst (dv_cons de_int (dv_cons de_int dv_nil)))).de).lent))
    ds_nil)
    (ds_cons (ds_if (dt_bool (dw_or (dt_cmp cd_lt ((de_fun (op := oLen) call_len (by rw [← c.hK]; exact cl_len) (by rfl) (T.nb_len) boot_len (da_cons (db_var 1 (pv 1)) da_nil))).lent (de_int).lent) (dw_or1 (dt_not (dt_val (db_var 4 (pv 4)))))))
    (ds_one (ds_ret (((df_lst (dv_cons (de_fun (op := oLen) call_len (by rw [← c.hK]; exact cl_len) (by rfl) (T.nb_len) boot_len (da_cons (db_var 1 (pv 1)) da_nil)) (dv_cons de_int dv_nil)))).de).lent))
    ds_nil)
    (ds_one (ds_ret ((de_tup (dv_cons (de_ix c.hK (db_var 2 (pv 2)) (de_int).lent) (dv_cons (de_ix c.hK ((de_ix c.hK (db_var 2 (pv 2)) (de_int).lent)).lent (de_int).lent) (dv_cons (de_ix c.hK (db_var 2 (pv 2)) (de_int).lent) (dv_cons (de_ix c.hK (db_var 2 (pv 2)) (de_int).lent) (dv_cons (de_ix c.hK ((de_ix c.hK (db_var 2 (pv 2)) (de_int).lent)).lent (de_int).lent) (dv_cons (de_ix c.hK ((de_ix c.hK (db_var 2 (pv 2)) (de_int).lent)).lent (de_int).lent) dv_nil)))))))).lent)))))))))
abbrev n__law_asked : List Str := ["_law_text_here", "e"]
abbrev p__law_asked : List Str := ["_law_text_here"]
theorem sc__law_asked : FnScope n__law_asked p__law_asked (defScope s__law_asked) := ⟨rfl, rfl, rfl, by decide +kernel, rfl, by decide +kernel, by decide +kernel⟩
def b__law_asked : Sx Dk :=
  (sTry 1 1 m_read_wheel (aCons (eVar 0) aNil) (hdL "BadText" .list ["line", "word"]))
def m__law_asked : List Val → Dk → Out Dk Val := runF 1 b__law_asked
theorem ok__law_asked (hP : B.P = P) (hK : B.K = K) (hw : B.w = w) (T : Tx K mg) (hC : B.cls = clsT T) : FnG P w K mg base CX0 15 T.d__law_asked.f T.d__law_asked.fd p__law_asked (spP B 1 m__law_asked) := by
  have g_read_wheel := ok_read_wheel (P := P) (w := w) (base := base) hP hK hw T hC
  exact fg_pure hP hK hw T.d__law_asked.F sc__law_asked b__law_asked rfl (fun cdv A outer s H E c hr =>
    (ds_one (ds_try (i := 1) c rfl rfl ⟨by rfl, by decide, .inl T.x_BadText.g⟩ (g_read_wheel) (hr.mono (by decide)) T.d_read_wheel.g T.d_read_wheel.F.kp (T.d_read_wheel.F.binds (ps := p_read_wheel) fun _ _ _ _ _ _ us hl => match us, hl with | [_], _ => rfl) (fun pn xe => (dv_cons (de_var 0 (pv 0)) dv_nil)) (gives_lst c.hK T.x_BadText (by rw [hC]; rfl) T.nb_isinstance T.k_BadText_WheelError T.k_BadText_ValueError (by decide) (by simp) (fun a oe cls d pn hz hf => pe_isX hz hf (pv 1) (pe_glob (v := V.ref T.z_WheelError.1) (by rfl) T.z_WheelError.2 rfl) (fun u r => r) T.nb_isinstance) (fun a oe cls d pn hz hf => pe_isX hz hf (pv 1) (pe_bltn (v := V.ty "ValueError") (by rfl) T.nb_ValueError (by decide +kernel) rfl) (fun u r => r) T.nb_isinstance) (fun a oe cls d pn hz hf => (pa_cons (pe_xat hz hf (pv 1)) (pa_cons (pe_xat hz hf (pv 1)) pa_nil)))) (hex_of (by rw [hC]; rfl) T.e_BadText_BadText))))
abbrev n__law_odd_word : List Str := ["_law_deck_here", "_law_word", "_law_some", "_law_spot"]
abbrev p__law_odd_word : List Str := ["_law_deck_here", "_law_word"]
theorem sc__law_odd_word : FnScope n__law_odd_word p__law_odd_word (defScope s__law_odd_word) := ⟨rfl, rfl, rfl, by decide +kernel, rfl, by decide +kernel, by decide +kernel⟩
def b__law_odd_word : Sx Dk :=
  (sSeq (sSet 2 (eL (lSeq (aCons (eC (.str "")) (aCons (eC (.str "0")) (aCons (eC (.str "-0")) (aCons (eC (.str "00")) (aCons (eC (.str "01")) (aCons (eC (.str "+1")) (aCons (eC (.str "-1")) (aCons (eC (.str "1_0")) (aCons (eC (.str "--1")) (aCons (eC (.str "-")) (aCons (eC (.str "x")) (aCons (eC (.str "weights")) (aCons (eC (.str "room")) (aCons (eC (.str "Look")) (aCons (eC (.str "	")) aNil))))))))))))))))))
    (sSeq (sSet 2 (eBin opAdd (bVar 2) (eL (lSeq (aCons (eC (.str "9")) (aCons (eC (.str "10")) (aCons (eC (.str "-9")) (aCons (eC (.str "-10")) (aCons (eC (.str "60")) (aCons (eC (.str "61")) (aCons (eC (.str "-60")) (aCons (eC (.str "-61")) (aCons (eC (.str "4")) (aCons (eC (.str "5")) (aCons (eC (.str "6")) (aCons (eC (.str "7")) (aCons (eC (.str "3")) (aCons (eC (.str "1000")) (aCons (eBin opMulS (eC (.str "1")) (eC (.int 5000))) aNil)))))))))))))))))))
    (sSeq (sSet 3 (eFn 2 m__law_draw (aCons (eVar 0) (aCons (eBin opAdd (eCall oLen (aCons (bVar 1) aNil)) (eC (.int 1))) aNil))))
    (sSeq (sSet 2 (eBin opAdd (bVar 2) (eL (lSeq (aCons (eBin opAdd (eBin opAdd (eTSl (bVar 1) oNone (oSome (bVar 3))) (eFn 2 m__law_one (aCons (eVar 0) (aCons (eL (lSeq (aCons (eC (.str "0")) (aCons (eC (.str "-")) (aCons (eC (.str " ")) (aCons (eC (.str "	")) (aCons (eC (.str "1")) aNil))))))) aNil)))) (eTSl (bVar 1) (oSome (bVar 3)) oNone)) (aCons (eBin opAdd (eC (.str "-")) (bVar 1)) (aCons (eTSl (bVar 1) (oSome (eC (.int 1))) oNone) aNil)))))))
    (sSeq (sIf (tOf (eBin opIsNot (eFn 3 m__law_number (aCons (eVar 1) (aCons (eUn opNeg (eC (.int 99))) (aCons (eC (.int 99)) aNil)))) (eC .none)))
    (sSet 2 (eBin opAdd (bVar 2) (eBin opMul (eL (lSeq (aCons (eCall oStr (aCons (eBin opAdd (eCall oIntT (aCons (bVar 1) aNil)) (eC (.int 1))) aNil)) (aCons (eCall oStr (aCons (eBin opSub (eCall oIntT (aCons (bVar 1) aNil)) (eC (.int 1))) aNil)) (aCons (eCall oStr (aCons (eBin opSub (eC (.int 0)) (eCall oIntT (aCons (bVar 1) aNil))) aNil)) aNil))))) (eC (.int 3)))))
    sNil)
    (sRet (eFn 2 m__law_one (aCons (eVar 0) (aCons (eVar 2) aNil)))))))))
def m__law_odd_word : List Val → Dk → Out Dk Val := runF 2 b__law_odd_word
theorem ok__law_odd_word (hP : B.P = P) (hK : B.K = K) (hw : B.w = w) (T : Tx K mg) (hC : B.cls = clsT T) : FnG P w K mg base CX0 3 T.d__law_odd_word.f T.d__law_odd_word.fd p__law_odd_word (spP B 2 m__law_odd_word) := by
  have g__law_draw := ok__law_draw (P := P) (w := w) (base := base) hP hK hw T hC
  have g__law_number := ok__law_number (P := P) (w := w) (base := base) hP hK hw T hC
  have g__law_one := ok__law_one (P := P) (w := w) (base := base) hP hK hw T hC
  exact fg_pure hP hK hw T.d__law_odd_word.F sc__law_odd_word b__law_odd_word rfl (fun cdv A outer s H E c hr =>
    (ds_cons (ds_set c 2 ((df_lst (dv_cons de_str (dv_cons de_str (dv_cons de_str (dv_cons de_str (dv_cons de_str (dv_cons de_str (dv_cons de_str (dv_cons de_str (dv_cons de_str (dv_cons de_str (dv_cons de_str (dv_cons de_str (dv_cons de_str (dv_cons de_str (dv_cons de_str dv_nil))))))))))))))))).de)
    (ds_cons (ds_set c 2 (de_add c.hK (db_var 2 (pv 2)) (((df_lst (dv_cons de_str (dv_cons de_str (dv_cons de_str (dv_cons de_str (dv_cons de_str (dv_cons de_str (dv_cons de_str (dv_cons de_str (dv_cons de_str (dv_cons de_str (dv_cons de_str (dv_cons de_str (dv_cons de_str (dv_cons de_str (dv_cons (de_mulS (de_str).lent (de_int).lent) dv_nil))))))))))))))))).de).lent))
    (ds_cons (ds_set c 3 (de_call c (g__law_draw) (hr.mono (by decide)) T.d__law_draw.g T.d__law_draw.F.kp (T.d__law_draw.F.binds (ps := p__law_draw) fun _ _ _ _ _ _ us hl => match us, hl with | [_, _], _ => rfl) (dv_cons (de_var 0 (pv 0)) (dv_cons (de_add c.hK ((de_fun (op := oLen) call_len (by rw [← c.hK]; exact cl_len) (by rfl) (T.nb_len) boot_len (da_cons (db_var 1 (pv 1)) da_nil))).lent (de_int).lent) dv_nil))))
    (ds_cons (ds_set c 2 (de_add c.hK (db_var 2 (pv 2)) (((df_lst (dv_cons (de_add c.hK ((de_add c.hK ((de_tsl (db_var 1 (pv 1)) do_none (do_some (db_var 3 (pv 3))))).lent ((de_call c (g__law_one) (hr.mono (by decide)) T.d__law_one.g T.d__law_one.F.kp (T.d__law_one.F.binds (ps := p__law_one) fun _ _ _ _ _ _ us hl => match us, hl with | [_, _], _ => rfl) (dv_cons (de_var 0 (pv 0)) (dv_cons ((df_lst (dv_cons de_str (dv_cons de_str (dv_cons de_str (dv_cons de_str (dv_cons de_str dv_nil))))))).de dv_nil)))).lent)).lent ((de_tsl (db_var 1 (pv 1)) (do_some (db_var 3 (pv 3))) do_none)).lent) (dv_cons (de_add c.hK (de_str).lent (db_var 1 (pv 1))) (dv_cons (de_tsl (db_var 1 (pv 1)) (do_some (de_int).lent) do_none) dv_nil))))).de).lent))
    (ds_cons (ds_if (dt_cmp cd_isnot ((de_call c (g__law_number) (hr.mono (by decide)) T.d__law_number.g T.d__law_number.F.kp (T.d__law_number.F.binds (ps := p__law_number) fun _ _ _ _ _ _ us hl => match us, hl with | [_, _, _], _ => rfl) (dv_cons (de_var 1 (pv 1)) (dv_cons (de_neg (de_int).lent) (dv_cons de_int dv_nil))))).lent (de_non).lent)
    (ds_one (ds_set c 2 (de_add c.hK (db_var 2 (pv 2)) ((de_mul c.hK (((df_lst (dv_cons (de_typ (op := oStr) call_str_int cl_str (by rfl) (T.nb_str) (by decide +kernel) (da_cons ((de_add c.hK ((de_typ (op := oIntT) call_int_str cl_intT (by rfl) (T.nb_int) (by decide +kernel) (da_cons (db_var 1 (pv 1)) da_nil))).lent (de_int).lent)).lent da_nil)) (dv_cons (de_typ (op := oStr) call_str_int cl_str (by rfl) (T.nb_str) (by decide +kernel) (da_cons ((de_sub ((de_typ (op := oIntT) call_int_str cl_intT (by rfl) (T.nb_int) (by decide +kernel) (da_cons (db_var 1 (pv 1)) da_nil))).lent (de_int).lent)).lent da_nil)) (dv_cons (de_typ (op := oStr) call_str_int cl_str (by rfl) (T.nb_str) (by decide +kernel) (da_cons ((de_sub (de_int).lent ((de_typ (op := oIntT) call_int_str cl_intT (by rfl) (T.nb_int) (by decide +kernel) (da_cons (db_var 1 (pv 1)) da_nil))).lent)).lent da_nil)) dv_nil))))).de).lent (de_int).lent)).lent)))
    ds_nil)
    (ds_one (ds_ret ((de_call c (g__law_one) (hr.mono (by decide)) T.d__law_one.g T.d__law_one.F.kp (T.d__law_one.F.binds (ps := p__law_one) fun _ _ _ _ _ _ us hl => match us, hl with | [_, _], _ => rfl) (dv_cons (de_var 0 (pv 0)) (dv_cons (de_var 2 (pv 2)) dv_nil)))).lent))))))))
abbrev n__law_bent_rows : List Str := ["_law_deck_here", "_law_rows", "_law_found", "_law_row", "_law_place", "_law_spot", "_law_sort", "_law_odd", "_law_k"]
abbrev p__law_bent_rows : List Str := ["_law_deck_here", "_law_rows"]
theorem sc__law_bent_rows : FnScope n__law_bent_rows p__law_bent_rows (defScope s__law_bent_rows) := ⟨rfl, rfl, rfl, by decide +kernel, rfl, by decide +kernel, by decide +kernel⟩
def b__law_bent_rows : Sx Dk :=
  (sRows 2 4 3 5 6 7 (lLr (iSeq (bVar 1)) (btN 3) (lOf (bVar 3)) [3])
    (eFn 2 m__law_draw (aCons (eVar 0) (aCons (eCall oLen (aCons (bVar 2) aNil)) aNil))) (aCons (eFn 2 m__law_draw (aCons (eVar 0) (aCons (eCall oLen (aCons (bVar 3) aNil)) aNil))) (aCons (eFn 2 m__law_draw (aCons (eVar 0) (aCons (eC (.int 10)) aNil))) aNil))
    (eFn 2 m__law_odd_word (aCons (eVar 0) (aCons (eBin opIx (bVar 3) (bVar 5)) aNil)))
    (aIf (tOf (eBin (opRel fun i j => decide (i < j)) (bVar 6) (eC (.int 4)))) (aRow 3 (sSt 3 (bVar 5) (eVar 7)))
    (aIf (tOf (eBin opEq (bVar 6) (eC (.int 4)))) (aRow 3 (sIns 3 (eFn 2 m__law_one (aCons (eVar 0) (aCons (eL (lSeq (aCons (eVar 5) (aCons (eCall oLen (aCons (bVar 3) aNil)) aNil)))) aNil))) (eVar 7)))
    (aIf (tOf (eBin opEq (bVar 6) (eC (.int 5)))) (aRow 3 (sPopAt 3 (eVar 5)))
    (aIf (xAnd (tOf (eBin opEq (bVar 6) (eC (.int 6)))) (tOf (eBin (opRel fun i j => decide (j < i)) (bVar 5) (eC (.int 0))))) (aRow 3 (sSwp 3 (bVar 5) (eBin opSub (bVar 5) (eC (.int 1))) (aCons (eBin opIx (bVar 3) (eBin opSub (bVar 5) (eC (.int 1)))) (aCons (eBin opIx (bVar 3) (bVar 5)) aNil))))
    (aIf (tOf (eBin opEq (bVar 6) (eC (.int 7)))) (aFnd 2 (sIns 2 (eFn 2 m__law_draw (aCons (eVar 0) (aCons (eBin opAdd (eCall oLen (aCons (bVar 2) aNil)) (eC (.int 1))) aNil))) (eL (lOf (bVar 3)))))
    (aIf (tOf (eBin opEq (bVar 6) (eC (.int 8)))) (aFnd 2 (sPopAt 2 (eVar 4)))
    (aFnd 2 (sSt 2 (eC (.int 0)) (eBin opAdd (eL (lSeq (aCons (eC (.str "weights")) aNil))) (eL (lLc (iRg1 (aCons (eBin opAdd (eC (.int 5)) (eFn 2 m__law_draw (aCons (eVar 0) (aCons (eC (.int 3)) aNil)))) aNil)) (btN 8) xYes (eCall oStr (aCons (eFn 2 m__law_draw (aCons (eVar 0) (aCons (eC (.int 5)) aNil))) aNil)) [8]))))))))))))
def m__law_bent_rows : List Val → Dk → Out Dk Val := runF 7 b__law_bent_rows
theorem ok__law_bent_rows (hP : B.P = P) (hK : B.K = K) (hw : B.w = w) (T : Tx K mg) (hC : B.cls = clsT T) : FnG P w K mg base CX0 4 T.d__law_bent_rows.f T.d__law_bent_rows.fd p__law_bent_rows (spP B 2 m__law_bent_rows) := by
  have g__law_draw := ok__law_draw (P := P) (w := w) (base := base) hP hK hw T hC
  have g__law_odd_word := ok__law_odd_word (P := P) (w := w) (base := base) hP hK hw T hC
  have g__law_one := ok__law_one (P := P) (w := w) (base := base) hP hK hw T hC
  exact fg_pure hP hK hw T.d__law_bent_rows.F sc__law_bent_rows b__law_bent_rows rfl (fun cdv A outer s H E c hr =>
    (ds_rows c (by decide) (by decide) (ds_setLr c 2 (own := [("_law_row", 3)]) (di_seqB c.hK (db_var 1 (pv 1))) (blkOk_by (own := [("_law_row", 3)]) (N := n__law_bent_rows) (sc := defScope s__law_bent_rows) (by decide +kernel)) (fun s H C cl fp => (dg_name (c.blk s H _ (compEnvC _ cl C _) fp).nd 3)) (fun s H C cl fp => dts_nil) (fun s H C cl fp => (df_list (c.blk s H _ (compEnvC _ cl C _) fp).hK (T.nb_list) (db_var 3 (pv 3)))))
    (de_call c (g__law_draw) (hr.mono (by decide)) T.d__law_draw.g T.d__law_draw.F.kp (T.d__law_draw.F.binds (ps := p__law_draw) fun _ _ _ _ _ _ us hl => match us, hl with | [_, _], _ => rfl) (dv_cons (de_var 0 (pv 0)) (dv_cons (de_fun (op := oLen) call_len (by rw [← c.hK]; exact cl_len) (by rfl) (T.nb_len) boot_len (da_cons (db_var 2 (pv 2)) da_nil)) dv_nil))) (pv 2) (pv 4) (fun _ _ => rfl) (dv_cons (de_call c (g__law_draw) (hr.mono (by decide)) T.d__law_draw.g T.d__law_draw.F.kp (T.d__law_draw.F.binds (ps := p__law_draw) fun _ _ _ _ _ _ us hl => match us, hl with | [_, _], _ => rfl) (dv_cons (de_var 0 (pv 0)) (dv_cons (de_fun (op := oLen) call_len (by rw [← c.hK]; exact cl_len) (by rfl) (T.nb_len) boot_len (da_cons (db_var 3 (pv 3)) da_nil)) dv_nil))) (dv_cons (de_call c (g__law_draw) (hr.mono (by decide)) T.d__law_draw.g T.d__law_draw.F.kp (T.d__law_draw.F.binds (ps := p__law_draw) fun _ _ _ _ _ _ us hl => match us, hl with | [_, _], _ => rfl) (dv_cons (de_var 0 (pv 0)) (dv_cons de_int dv_nil))) dv_nil))
    (de_call c (g__law_odd_word) (hr.mono (by decide)) T.d__law_odd_word.g T.d__law_odd_word.F.kp (T.d__law_odd_word.F.binds (ps := p__law_odd_word) fun _ _ _ _ _ _ us hl => match us, hl with | [_, _], _ => rfl) (dv_cons (de_var 0 (pv 0)) (dv_cons (de_ix c.hK (db_var 3 (pv 3)) (db_var 5 (pv 5))) dv_nil)))
    (a_if (dt_cmp cd_lt (db_var 6 (pv 6)) (de_int).lent) (a_row (by decide) (so_st 3 (pv 3) (db_var 5 (pv 5)) (de_var 7 (pv 7))))
    (a_if (dt_cmp (cd_eq c.hK c.u64) (db_var 6 (pv 6)) (de_int).lent) (a_row (by decide) (so_ins c 3 (pe_bm PySem.F.plainAttrs_list PySem.F.slot_list_insert PySem.F.type_list_insert mt_ins (pv 3) (pa_cons (de_call c (g__law_one) (hr.mono (by decide)) T.d__law_one.g T.d__law_one.F.kp (T.d__law_one.F.binds (ps := p__law_one) fun _ _ _ _ _ _ us hl => match us, hl with | [_, _], _ => rfl) (dv_cons (de_var 0 (pv 0)) (dv_cons ((df_lst (dv_cons (de_var 5 (pv 5)) (dv_cons (de_fun (op := oLen) call_len (by rw [← c.hK]; exact cl_len) (by rfl) (T.nb_len) boot_len (da_cons (db_var 3 (pv 3)) da_nil)) dv_nil)))).de dv_nil))) (pa_cons (de_var 7 (pv 7)) pa_nil)))))
    (a_if (dt_cmp (cd_eq c.hK c.u64) (db_var 6 (pv 6)) (de_int).lent) (a_row (by decide) (so_popAt c 3 (pe_bm PySem.F.plainAttrs_list PySem.F.slot_list_pop PySem.F.type_list_pop mt_popAt (pv 3) (pa_cons (de_var 5 (pv 5)) pa_nil))))
    (a_if (dt_bool (dw_and (dt_cmp (cd_eq c.hK c.u64) (db_var 6 (pv 6)) (de_int).lent) (dw_and1 (dt_cmp cd_gt (db_var 5 (pv 5)) (de_int).lent)))) (a_row (by decide) (so_swp c 3 (pv 3) (pv 3) (db_var 5 (pv 5)) ((de_sub (db_var 5 (pv 5)) (de_int).lent)).lent (dv_cons (de_ix c.hK (db_var 3 (pv 3)) ((de_sub (db_var 5 (pv 5)) (de_int).lent)).lent) (dv_cons (de_ix c.hK (db_var 3 (pv 3)) (db_var 5 (pv 5))) dv_nil))))
    (a_if (dt_cmp (cd_eq c.hK c.u64) (db_var 6 (pv 6)) (de_int).lent) (a_fnd (ds_ins c 2 (pe_bm PySem.F.plainAttrs_list PySem.F.slot_list_insert PySem.F.type_list_insert mt_ins (pv 2) (pa_cons (de_call c (g__law_draw) (hr.mono (by decide)) T.d__law_draw.g T.d__law_draw.F.kp (T.d__law_draw.F.binds (ps := p__law_draw) fun _ _ _ _ _ _ us hl => match us, hl with | [_, _], _ => rfl) (dv_cons (de_var 0 (pv 0)) (dv_cons (de_add c.hK ((de_fun (op := oLen) call_len (by rw [← c.hK]; exact cl_len) (by rfl) (T.nb_len) boot_len (da_cons (db_var 2 (pv 2)) da_nil))).lent (de_int).lent) dv_nil))) (pa_cons ((df_list c.hK (T.nb_list) (db_var 3 (pv 3)))).de pa_nil)))))
    (a_if (dt_cmp (cd_eq c.hK c.u64) (db_var 6 (pv 6)) (de_int).lent) (a_fnd (ds_popAt c 2 (pe_bm PySem.F.plainAttrs_list PySem.F.slot_list_pop PySem.F.type_list_pop mt_popAt (pv 2) (pa_cons (de_var 4 (pv 4)) pa_nil))))
    (a_fnd (ds_st 2 (pv 2) (de_int).lent (de_add c.hK (((df_lst (dv_cons de_str dv_nil))).de).lent (((df_lc c (own := [("_law_k", 8)]) (di_range1 (T.nb_range) (da_cons ((de_add c.hK (de_int).lent ((de_call c (g__law_draw) (hr.mono (by decide)) T.d__law_draw.g T.d__law_draw.F.kp (T.d__law_draw.F.binds (ps := p__law_draw) fun _ _ _ _ _ _ us hl => match us, hl with | [_, _], _ => rfl) (dv_cons (de_var 0 (pv 0)) (dv_cons de_int dv_nil)))).lent)).lent da_nil)) (blkOk_by (own := [("_law_k", 8)]) (N := n__law_bent_rows) (sc := defScope s__law_bent_rows) (by decide +kernel)) (fun s H C cl fp => (dg_name (c.blk s H _ (compEnvC _ cl C _) fp).nd 8)) (fun s H C cl fp => dts_nil) (fun s H C cl fp => (de_typ (op := oStr) call_str_int cl_str (by rfl) (T.nb_str) (by decide +kernel) (da_cons ((de_call (c.blk s H _ (compEnvC _ cl C _) fp) (g__law_draw) (hr.mono (by decide)) T.d__law_draw.g T.d__law_draw.F.kp (T.d__law_draw.F.binds (ps := p__law_draw) fun _ _ _ _ _ _ us hl => match us, hl with | [_, _], _ => rfl) (dv_cons (de_var 0 (pv 0)) (dv_cons de_int dv_nil)))).lent da_nil))))).de).lent))))))))) (pv 2) (by rfl) (by rfl) (by rfl) (by rfl) (by rfl) (by rfl) (by rfl) (by rfl) (by rfl) (by rfl) (by rfl) (by rfl) (by rfl) (by rfl) (by rfl)))
abbrev n__law_deck : List Str := ["_law_script"]
theorem sc__law_deck : FnScope n__law_deck n__law_deck (defScope s__law_deck) := ⟨rfl, rfl, rfl, by decide +kernel, rfl, by decide +kernel, by decide +kernel⟩
theorem ok__law_deck (hP : B.P = P) (hK : B.K = K) (hw : B.w = w) (T : Tx K mg) : FnG P w K mg base CX0 1 T.d__law_deck.f T.d__law_deck.fd n__law_deck (spDeck K) := by
  refine fg_hand hP hK hw T.d__law_deck.F sc__law_deck (fun vs H Q E h => ?_) (fun cdv A outer s H vs Q E c hr h => ?_)
  · obtain ⟨a, ns, rfl, _⟩ := h; rfl
  · obtain ⟨a, ns, rfl, hS, hl, q⟩ := h
    refine ⟨_, pss_one (ps_ret (pe_lst (pa_cons (pe_callTy call_list_of (by rfl) T.nb_list boot_list (pa_cons (pe_slice sl_list (pv 0) po_none (po_some pe_int)) pa_nil)) (pa_cons pe_int (pa_cons pe_int (pa_cons pe_int pa_nil)))))), ?_⟩
    exact deck_read hS hl q rfl
abbrev n_law : List Str := ["_law_script", "_law_deck_here", "_law_lap", "_law_wheel_here", "_law_k", "_law_bent", "_law_row", "_law_text_here"]
abbrev p_law : List Str := ["_law_script"]
theorem sc_law : FnScope n_law p_law (defScope s_law) := ⟨rfl, rfl, rfl, by decide +kernel, rfl, by decide +kernel, by decide +kernel⟩
def b_law : Sx Dk :=
  (sSeq (sFor (iRg1 (aCons (eC (.int 10)) aNil)) (btN 2)
    (sSeq (sSet 3 (eFn 2 m__law_wheel (aCons (eVar 1) (aCons (eC (.int 2000)) aNil))))
    (sFor (iRg1 (aCons (eC (.int 5)) aNil)) (btN 4)
    (sSeq (sSet 5 (eFn 2 m__law_bent_rows (aCons (eVar 1) (aCons (eFn 1 m__law_words (aCons (eVar 3) aNil)) aNil))))
    (sSeq (sIf (tOf (eBin opEq (eFn 2 m__law_draw (aCons (eVar 1) (aCons (eC (.int 4)) aNil))) (eC (.int 0))))
    (sSet 5 (eFn 2 m__law_bent_rows (aCons (eVar 1) (aCons (eL (lLc (iSeq (bVar 5)) (btN 6) (tOf (eBin opNe (bVar 6) (eL (lSeq aNil)))) (eVar 6) [6])) aNil))))
    sNil)
    (sSeq (sSet 7 (eFn 1 m__law_text (aCons (eVar 5) aNil)))
    (sIf (tOf (eBin opNe (eCall oRepr (aCons (eFn 1 m__law_asked (aCons (eVar 7) aNil)) aNil)) (eCall oRepr (aCons (eFn 1 m__law_read (aCons (eVar 7) aNil)) aNil))))
    (sRet (eC (.bool false)))
    sNil)))))))
    (sRet (eC (.bool true))))
theorem ok_law (hP : B.P = P) (hK : B.K = K) (hw : B.w = w) (T : Tx K mg) (hC : B.cls = clsT T) (ht : LawTrue 6 b_law) : FnG P w K mg base CX0 16 T.d_law.f T.d_law.fd p_law (spLaw K) := by
  have g__law_asked := ok__law_asked (P := P) (w := w) (base := base) hP hK hw T hC
  have g__law_bent_rows := ok__law_bent_rows (P := P) (w := w) (base := base) hP hK hw T hC
  have g__law_draw := ok__law_draw (P := P) (w := w) (base := base) hP hK hw T hC
  have g__law_read := ok__law_read (P := P) (w := w) (base := base) hP hK hw T hC
  have g__law_text := ok__law_text (P := P) (w := w) (base := base) hP hK hw T hC
  have g__law_wheel := ok__law_wheel (P := P) (w := w) (base := base) hP hK hw T hC
  have g__law_words := ok__law_words (P := P) (w := w) (base := base) hP hK hw T hC
  have g_deck := ok__law_deck (P := P) (w := w) (base := base) hP hK hw T
  refine fg_hand hP hK hw T.d_law.F sc_law (fun vs H Q E h => ?_) (fun cdv A outer s H vs Q E c hr h => ?_)
  · obtain ⟨a, ns, rfl, _⟩ := h; rfl
  · obtain ⟨a, ns, rfl, hS, hl, k⟩ := h
    have b := T.d__law_deck.F.binds (ps := n__law_deck) fun _ _ _ _ _ _ us hl => match us, hl with | [_], _ => rfl
    have r : DSs (cxP P w K mg base n_law "law" s_law T.d_law.f cdv A outer s H E) B E00 (defBody s_law).tail b_law :=
    (ds_cons (ds_for (vs := [2]) c PassesOwn.never (di_range1 (T.nb_range) (da_cons (de_int).lent da_nil)) (dg_name c.nd 2)
    (ds_cons (ds_set c 3 (de_call c (g__law_wheel) (hr.mono (by decide)) T.d__law_wheel.g T.d__law_wheel.F.kp (T.d__law_wheel.F.binds (ps := p__law_wheel) fun _ _ _ _ _ _ us hl => match us, hl with | [_, _], _ => rfl) (dv_cons (de_var 1 (pv 1)) (dv_cons de_int dv_nil))))
    (ds_one (ds_for (vs := [4]) c PassesOwn.never (di_range1 (T.nb_range) (da_cons (de_int).lent da_nil)) (dg_name c.nd 4)
    (ds_cons (ds_set c 5 (de_call c (g__law_bent_rows) (hr.mono (by decide)) T.d__law_bent_rows.g T.d__law_bent_rows.F.kp (T.d__law_bent_rows.F.binds (ps := p__law_bent_rows) fun _ _ _ _ _ _ us hl => match us, hl with | [_, _], _ => rfl) (dv_cons (de_var 1 (pv 1)) (dv_cons (de_call c (g__law_words) (hr.mono (by decide)) T.d__law_words.g T.d__law_words.F.kp (T.d__law_words.F.binds (ps := p__law_words) fun _ _ _ _ _ _ us hl => match us, hl with | [_], _ => rfl) (dv_cons (de_var 3 (pv 3)) dv_nil)) dv_nil))))
    (ds_cons (ds_if (dt_cmp (cd_eq c.hK c.u64) ((de_call c (g__law_draw) (hr.mono (by decide)) T.d__law_draw.g T.d__law_draw.F.kp (T.d__law_draw.F.binds (ps := p__law_draw) fun _ _ _ _ _ _ us hl => match us, hl with | [_, _], _ => rfl) (dv_cons (de_var 1 (pv 1)) (dv_cons de_int dv_nil)))).lent (de_int).lent)
    (ds_one (ds_set c 5 (de_call c (g__law_bent_rows) (hr.mono (by decide)) T.d__law_bent_rows.g T.d__law_bent_rows.F.kp (T.d__law_bent_rows.F.binds (ps := p__law_bent_rows) fun _ _ _ _ _ _ us hl => match us, hl with | [_, _], _ => rfl) (dv_cons (de_var 1 (pv 1)) (dv_cons ((df_lc c (own := [("_law_row", 6)]) (di_seqB c.hK (db_var 5 (pv 5))) (blkOk_by (own := [("_law_row", 6)]) (N := n_law) (sc := defScope s_law) (by decide +kernel)) (fun s H C cl fp => (dg_name (c.blk s H _ (compEnvC _ cl C _) fp).nd 6)) (fun s H C cl fp => (dts_one (dt_cmp (cd_ne (c.blk s H _ (compEnvC _ cl C _) fp).hK (c.blk s H _ (compEnvC _ cl C _) fp).u64) (db_var 6 (pv 6)) (((df_lst dv_nil)).de).lent))) (fun s H C cl fp => (de_var 6 (pv 6))))).de dv_nil)))))
    ds_nil)
    (ds_cons (ds_set c 7 (de_call c (g__law_text) (hr.mono (by decide)) T.d__law_text.g T.d__law_text.F.kp (T.d__law_text.F.binds (ps := p__law_text) fun _ _ _ _ _ _ us hl => match us, hl with | [_], _ => rfl) (dv_cons (de_var 5 (pv 5)) dv_nil)))
    (ds_one (ds_if (dt_cmp (cd_ne c.hK c.u64) ((de_fun (op := oRepr) (call_repr c.gd c.u64) (by rw [← c.hK]; exact cl_repr) (by rfl) (T.nb_repr) (by decide +kernel) (da_cons ((de_call c (g__law_asked) (hr.mono (by decide)) T.d__law_asked.g T.d__law_asked.F.kp (T.d__law_asked.F.binds (ps := p__law_asked) fun _ _ _ _ _ _ us hl => match us, hl with | [_], _ => rfl) (dv_cons (de_var 7 (pv 7)) dv_nil))).lent da_nil))).lent ((de_fun (op := oRepr) (call_repr c.gd c.u64) (by rw [← c.hK]; exact cl_repr) (by rfl) (T.nb_repr) (by decide +kernel) (da_cons ((de_call c (g__law_read) (hr.mono (by decide)) T.d__law_read.g T.d__law_read.F.kp (T.d__law_read.F.binds (ps := p__law_read) fun _ _ _ _ _ _ us hl => match us, hl with | [_], _ => rfl) (dv_cons (de_var 7 (pv 7)) dv_nil))).lent da_nil))).lent)
    (ds_one (ds_ret (de_bl).lent))
    ds_nil)))))))))
    (ds_one (ds_ret (de_bl).lent)))
    refine ⟨_, pss_cons (ps_set (i := 1) sc_law.nd rfl (by first | exact .inl rfl | exact .inr rfl) (pe_callG g_deck (hr.mono (by decide)) c.gd (by rfl) T.d__law_deck.g T.d__law_deck.F.kp b pass0 (pa_cons (pv 0) pa_nil))) r, ?_⟩
    exact law_read hK hS hl rfl ht k
end
end LK
namespace LK
open PySem PySem.Spec PyProof.Rows L2 DL
local macro_rules | `(tactic| wtm_at "z") => `(tactic| first
  | with_reducible refine w_sq ?_
  | with_reducible refine flk_nx ?_
  | with_reducible refine w_set ?_
  | with_reducible refine stt_z ?_
  | with_reducible refine stt_s ?_
  | with_reducible refine w_bin ?_
  | ((with_reducible refine' w_bvar ?e ?_); (case e => exact rfl))
  | ((with_reducible refine' w_var ?e ?_); (case e => exact rfl))
  | with_reducible refine w_c ?_
  | with_reducible refine bv_add ?_
  | with_reducible refine bv_sub ?_
  | with_reducible refine bv_rel ?_
  | with_reducible refine bv_mul ?_ ?_
  | with_reducible refine bv_div ?_ ?_
  | with_reducible refine bv_mod ?_ ?_
  | with_reducible refine bv_pow ?_ ?_
  | with_reducible refine bv_addT ?_ ?_
  | with_reducible refine bv_addL ?_ ?_
  | with_reducible refine bv_mulT ?_ ?_
  | with_reducible refine bv_ix0 ?_
  | with_reducible refine bv_ix0L ?_
  | ((with_reducible refine' bv (op := opIx) ?e ?_); (case e => exact rfl))
  | with_reducible refine bv_isB ?_
  | with_reducible refine bv_isNotB ?_
  | with_reducible refine bv_eqN ?_
  | with_reducible refine bv_neN ?_
  | with_reducible refine bv_eqB ?_
  | with_reducible refine bv_neB ?_
  | with_reducible refine w_anil ?_
  | with_reducible refine w_acons ?_
  | with_reducible refine w_call ?_
  | with_reducible refine w_fn ?_
  | with_reducible refine fw rfl ?_
  | with_reducible refine w_tof ?_
  | with_reducible refine tv ?_
  | with_reducible refine iv ?_
  | with_reducible refine w_not ?_
  | with_reducible refine w_and ?_
  | with_reducible refine w_or ?_
  | with_reducible refine w_yes ?_
  | with_reducible refine w_if ?_
  | with_reducible refine br_t ?_
  | with_reducible refine br_f ?_
  | with_reducible refine w_ret ?_
  | with_reducible refine rtk_rt ?_
  | with_reducible refine rtk_nx ?_
  | with_reducible refine flk_rt ?_
  | with_reducible refine flk_bk ?_
  | with_reducible refine flk_ct ?_
  | with_reducible refine w_nil ?_
  | with_reducible refine lpk_nx ?_
  | with_reducible refine lpk_ct ?_
  | with_reducible refine lpk_bk ?_
  | with_reducible refine lpk_rt ?_
  | with_reducible refine w_eL ?_
  | with_reducible refine w_iseq ?_
  | with_reducible refine w_lof ?_
  | with_reducible refine sv_l ?_
  | with_reducible refine sv_t ?_
  | with_reducible refine w_zip ?_
  | with_reducible refine zv_l ?_
  | with_reducible refine zv_t ?_
  | with_reducible refine w_lc ?_
  | with_reducible refine cv_lenL ?_
  | with_reducible refine cv_lenT ?_
  | with_reducible refine cv_abs ?_
  | with_reducible refine cv_int ?_
  | with_reducible refine cv_tupL ?_
  | with_reducible refine cv_tupT ?_
  | with_reducible refine cv_listL ?_
  | with_reducible refine cv_listT ?_
  | with_reducible refine w_sl ?_
  | with_reducible refine w_onone ?_
  | with_reducible refine w_osome ?_
  | with_reducible refine uv_slT ?_
  | with_reducible refine uv_slL ?_
  | with_reducible refine w_un ?_
  | with_reducible refine uv_neg ?_
  | with_reducible refine w_eand ?_
  | with_reducible refine w_eor ?_
  | with_reducible refine w_enot ?_
  | with_reducible refine w_eif ?_
  | with_reducible refine w_chain ?_
  | with_reducible refine w_seqD ?_
  | with_reducible refine w_lseq ?_
  | with_reducible refine dvl_nil ?_
  | with_reducible refine dvl_cons ?_
  | with_reducible refine w_for ?_
  | with_reducible refine w_rg1 ?_
  | with_reducible refine w_rg2 ?_
  | with_reducible refine w_rg3 ?_
  | with_reducible refine rg3 ?_ ?_
  | with_reducible refine rg1 ?_ ?_
  | with_reducible refine rg2 ?_ ?_
  | with_reducible refine w_new ?_
  | with_reducible refine w_newN ?_
  | with_reducible refine w_nL ?_
  | with_reducible refine w_nD ?_
  | with_reducible refine w_par ?_
  | with_reducible refine w_mval ?_
  | with_reducible refine w_mnew ?_
  | with_reducible refine w_mnil ?_
  | with_reducible refine sts_c ?_
  | with_reducible refine sts_n ?_
  | with_reducible refine w_brk ?_
  | with_reducible refine w_cnt ?_
  | with_reducible refine w_drop ?_
  | with_reducible refine w_retN ?_
  | ((with_reducible refine' w_frzL ?e ?_); (case e => exact rfl))
  | ((with_reducible refine' w_moveL ?e ?n ?_); (case e => exact rfl); (case n => decide))
  | ((with_reducible refine' w_ext ?e ?_); (case e => exact rfl))
  | ((with_reducible refine' w_app ?e ?_); (case e => exact rfl))
  | ((with_reducible refine' w_bvarL ?e ?_); (case e => exact rfl))
  | ((with_reducible refine' w_dk ?e ?x ?_); (case e => exact rfl); (case x => exact rfl))
  | ((with_reducible refine' w_dkne ?e ?_); (case e => exact rfl))
  | ((with_reducible refine' w_dkl ?e ?_); (case e => exact rfl))
  | ((with_reducible refine' w_dkc ?e ?_); (case e => exact rfl))
  | ((with_reducible refine' w_sdk ?e ?x ?_); (case e => exact rfl); (case x => decide))
  | ((with_reducible refine w_run ?_); dsimp only [List.map, List.replicate, List.append, HAppend.hAppend, Append.append])
  | ((with_reducible refine lenok ?e ?_); (case e => exact Nat.le_of_ble_eq_true rfl))
  | ((with_reducible refine ck ?e ?_); (case e => exact rfl))
  )
local macro_rules | `(tactic| wtm_at "z") => `(tactic| first
  | with_reducible refine w_m1 ?_
  | with_reducible refine xv ?_
  | with_reducible refine w_tsl ?_
  | with_reducible refine w_itxt ?_
  | with_reducible refine w_fnX ?_
  | with_reducible refine w_fnBX ?_
  | with_reducible refine fwX rfl ?_
  | with_reducible refine w_rz ?_
  )
theorem w_putN {S : Type} {T : Exn → S → Prop} {s : S} {ρ : DL.Env} {i : Nat} {fi f : Ex S} {kvs : List (PyData × PyData)} {Q : Fl → S → Prop} (e : ρ[i]? = some (.m kvs))
    (h : WT T (f ρ s) fun y s1 => WT T (fi ρ s1) fun k s2 => ∃ z kd kk, y = .d z ∧ k = .d kd ∧ tupKey kd = some kk ∧ (kvs.length < sizeLine ∧ allN kvs = true) ∧ Stt (ρ.set i (.m (dPutN kvs kd z kk))) fun ρ1 => Q (.nx ρ1) s2) : WT T (sPutN i fi f ρ s) Q := by
  unfold sPutN
  refine w_bind (h.mono fun y s1 h => ?_)
  rw [e]
  refine w_bind (h.mono fun k s2 ⟨z, kd, kk, hy, hk, ht, hc, q⟩ => ?_)
  subst hy hk
  show WT T (match tupKey kd with | some kk => _ | none => _) Q
  rw [ht]
  show WT T (if _ then _ else _) Q
  rw [if_pos hc]
  exact ⟨q⟩
theorem w_keysN {S : Type} {T : Exn → S → Prop} {s : S} {ρ : DL.Env} {f : Ex S} {Q : List PyData → S → Prop} (h : WT T (f ρ s) fun y s1 => ∃ kvs, y = .d (.dict kvs) ∧ (allN kvs = true ∧ kvs ≠ []) ∧ Q (kvs.map (·.1)) s1) : WT T (iKeysN f ρ s) Q := by
  unfold iKeysN
  refine w_bind (h.mono fun y s1 ⟨kvs, hy, hc, q⟩ => ?_)
  subst hy
  show WT T (if _ then _ else _) Q
  rw [if_pos hc]
  exact ⟨q⟩
theorem w_valsN {S : Type} {T : Exn → S → Prop} {s : S} {ρ : DL.Env} {f : Ex S} {Q : List PyData → S → Prop} (h : WT T (f ρ s) fun y s1 => ∃ kvs, y = .d (.dict kvs) ∧ (allN kvs = true ∧ kvs ≠ []) ∧ Q (kvs.map (·.2)) s1) : WT T (iValsN f ρ s) Q := by
  unfold iValsN
  refine w_bind (h.mono fun y s1 ⟨kvs, hy, hc, q⟩ => ?_)
  subst hy
  show WT T (if _ then _ else _) Q
  rw [if_pos hc]
  exact ⟨q⟩
theorem w_dEmp {S : Type} {T : Exn → S → Prop} {s : S} {ρ : DL.Env} {f : Ex S} {Q : Val → S → Prop} (h : WT T (f ρ s) fun y s1 => ∃ kvs, y = .d (.dict kvs) ∧ Q (.d (.bool kvs.isEmpty)) s1) : WT T (eDEmp f ρ s) Q := by
  unfold eDEmp
  refine w_bind (h.mono fun y s1 ⟨kvs, hy, q⟩ => ?_)
  subst hy
  exact ⟨q⟩
theorem w_enuT {S : Type} {T : Exn → S → Prop} {s : S} {ρ : DL.Env} {f : Ex S} {Q : List PyData → S → Prop} (h : WT T (f ρ s) fun y s1 => ∃ ds, y = .d (.tuple ds) ∧ Q ((List.range ds.length).zipWith (fun i d => PyData.tuple [.int (i : Nat), d]) ds) s1) : WT T (iEnuT f ρ s) Q := by
  unfold iEnuT
  refine w_bind (h.mono fun y s1 ⟨kvs, hy, q⟩ => ?_)
  subst hy
  exact ⟨q⟩
theorem w_frzM {S : Type} {T : Exn → S → Prop} {s : S} {ρ : DL.Env} {g1 : Sx S} {i : Nat} {kvs : List (PyData × PyData)} {Q : Fl → S → Prop} (e : ρ[i]? = some (.m kvs)) (h : Stt (ρ.set i (.v (.d (.dict kvs)))) fun ρ1 => WT T (g1 ρ1 s) Q) : WT T (sFrz i g1 ρ s) Q := by
  unfold sFrz frz
  rw [e]
  exact h
theorem w_moveM {S : Type} {T : Exn → S → Prop} {s : S} {ρ : DL.Env} {i j : Nat} {kvs : List (PyData × PyData)} {Q : Fl → S → Prop} (e : ρ[j]? = some (.m kvs)) (hn : i ≠ j) (h : Stt (ρ.set j .no) fun ρ1 => Stt (ρ1.set i (.m kvs)) fun ρ2 => Q (.nx ρ2) s) : WT T (sMove i j ρ s) Q := by
  unfold sMove
  rw [e]
  show WT T (if i = j then _ else _) Q
  rw [if_neg hn]
  exact ⟨h⟩
theorem w_moveV {S : Type} {T : Exn → S → Prop} {s : S} {ρ : DL.Env} {i j : Nat} {y : Val} {Q : Fl → S → Prop} (e : ρ[j]? = some (.v y)) (h : Stt (ρ.set i (.v y)) fun ρ2 => Q (.nx ρ2) s) : WT T (sMove i j ρ s) Q := by
  unfold sMove
  rw [e]
  exact ⟨h⟩
local macro_rules | `(tactic| wtm_at "z") => `(tactic| first
  | with_reducible refine w_keysN ?_
  | with_reducible refine w_valsN ?_
  | with_reducible refine w_dEmp ?_
  | with_reducible refine w_enuT ?_
  | ((with_reducible refine' w_putN ?e ?_); (case e => exact rfl))
  | ((with_reducible refine' w_frzM ?e ?_); (case e => exact rfl))
  | ((with_reducible refine' w_moveM ?e ?n ?_); (case e => exact rfl); (case n => decide))
  | ((with_reducible refine' w_moveV ?e ?_); (case e => exact rfl))
  | ((with_reducible refine' w_bvarM ?e ?_); (case e => exact rfl))
  )
theorem w_rows {S : Type} {T : Exn → S → Prop} {ρ : DL.Env} {s : S} {iF iP iR iS iT iO : Nat} {l1 : Lx S} {f2 f5 : Ex S} {g4 : Exs S} {a : Ax S} {Q : Fl → S → Prop} (hl : iF < ρ.length ∧ iP < ρ.length ∧ iR < ρ.length)
    (h : WT T (l1 ρ s) fun ds s1 => ds.all rowD = true ∧ WT T (f2 (ρ.set iF (.l ds)) s1) fun y s2 => ∃ (pl : Int) (dk : PyData), y = .d (.int pl) ∧ 0 ≤ pl ∧ ds[pl.toNat]? = some dk ∧
      WT T (g4 (((ρ.set iF (.l ds)).set iP (.v (.d (.int pl)))).set iR (.v (.d dk))) s2) fun ys s3 => ∃ y1 y2, ys = [y1, y2] ∧
        WT T (f5 (((((ρ.set iF (.l ds)).set iP (.v (.d (.int pl)))).set iR (.v (.d dk))).set iS (.v y1)).set iT (.v y2)) s3) fun y5 s4 =>
          WT T (a pl.toNat ds ((((((ρ.set iF (.l ds)).set iP (.v (.d (.int pl)))).set iR (.v (.d dk))).set iS (.v y1)).set iT (.v y2)).set iO (.v y5)) s4) fun ds' s5 => Q (.rt (.d (.list ds'))) s5) : WT T (sRows iF iP iR iS iT iO l1 f2 g4 f5 a ρ s) Q := by
  unfold sRows
  refine w_bind (h.mono fun ds s1 ⟨hc, h⟩ => ?_)
  rw [if_pos ⟨hc, hl⟩]
  refine w_bind (h.mono fun y s2 ⟨pl, dk, hy, h0, hk, h⟩ => ?_)
  subst hy
  dsimp only
  rw [if_pos h0, hk]
  dsimp only
  refine w_bind (h.mono fun ys s3 ⟨y1, y2, hy, h⟩ => ?_)
  subst hy
  dsimp only
  refine w_bind (h.mono fun y5 s4 h => ?_)
  exact w_bind (h.mono fun ds' s5 q => ⟨q⟩)
theorem w_aIf {S : Type} {T : Exn → S → Prop} {ρ : DL.Env} {s : S} {k : Nat} {ds : List PyData} {c : DL.Tx S} {a b : Ax S} {Q : List PyData → S → Prop} (h : WT T (c ρ s) fun z s1 => Br z (WT T (a k ds ρ s1) Q) (WT T (b k ds ρ s1) Q)) : WT T (aIf c a b k ds ρ s) Q := by
  unfold aIf
  refine w_bind (h.mono fun z s1 h => ?_)
  cases z with
  | true => exact h
  | false => exact h
theorem w_aRow {S : Type} {T : Exn → S → Prop} {ρ : DL.Env} {s : S} {k iR : Nat} {ds ws : List PyData} {g : Sx S} {Q : List PyData → S → Prop} (hk : ds[k]? = some (.list ws)) (h : WT T (g ((ρ.map scl).set iR (.l ws)) s) fun fl s' => ∃ ρ' ws', fl = .nx ρ' ∧ ρ'[iR]? = some (.l ws') ∧ allStr ws' = true ∧ Q (ds.set k (.list ws')) s') : WT T (aRow iR g k ds ρ s) Q := by
  unfold aRow
  rw [hk]
  refine w_bind (h.mono fun fl s' ⟨ρ', ws', e, e2, hs, q⟩ => ?_)
  subst e
  dsimp only
  rw [e2]
  dsimp only
  rw [if_pos hs]
  exact ⟨q⟩
theorem w_aFnd {S : Type} {T : Exn → S → Prop} {ρ : DL.Env} {s : S} {k iF : Nat} {ds : List PyData} {g : Sx S} {Q : List PyData → S → Prop} (h : WT T (g ρ s) fun fl s' => ∃ ρ' ds', fl = .nx ρ' ∧ ρ'[iF]? = some (.l ds') ∧ Q ds' s') : WT T (aFnd iF g k ds ρ s) Q := by
  unfold aFnd
  refine w_bind (h.mono fun fl s' ⟨ρ', ds', e, e2, q⟩ => ?_)
  subst e
  dsimp only
  rw [e2]
  exact ⟨q⟩
theorem w_lLr {S : Type} {T : Exn → S → Prop} {ρ : DL.Env} {s : S} {it : Lx S} {bt : Bt} {fr : Lx S} {vs : List Nat} {Q : List PyData → S → Prop} (h : WT T (it ρ s) fun ds s1 => ds.length ≤ sizeLine ∧ WT T (lcR bt fr (wipeE vs ρ) ds s1) Q) : WT T (lLr it bt fr vs ρ s) Q := by
  unfold lLr
  refine w_bind (h.mono fun ds s1 ⟨hl, q⟩ => ?_)
  rw [if_pos hl]
  exact q
theorem lcR_id {S : Type} {bt : Bt} {fr : Lx S} {ρ : DL.Env} {s : S} : ∀ (rows : List (List PyData)), (∀ r ∈ rows, ∃ ρ1, bt (.list r) ρ = some ρ1 ∧ fr ρ1 s = .ok r s) → lcR bt fr ρ (rows.map .list) s = .ok (rows.map .list) s
  | [], _ => rfl
  | r :: rows, h => by
    obtain ⟨ρ1, e1, e2⟩ := h r (.head _)
    rw [List.map_cons, lcR, e1]
    dsimp only
    rw [e2]
    dsimp only
    rw [lcR_id rows fun q hq => h q (.tail _ hq)]
local macro_rules | `(tactic| wtm_at "z") => `(tactic| first
  | with_reducible refine w_aIf ?_
  | with_reducible refine w_lLr ?_
  )
def getK {κ β : Type} [DecidableEq κ] (l : List (κ × β)) (k : κ) : Option β := (l.find? fun p => decide (p.1 = k)).map (·.2)
def putK {κ β : Type} [DecidableEq κ] (l : List (κ × β)) (k : κ) (v : β) : List (κ × β) :=
  if (getK l k).isSome then l.map (fun p => if p.1 = k then (p.1, v) else p) else l ++ [(k, v)]
theorem getK_none {κ β : Type} [DecidableEq κ] {l : List (κ × β)} {k : κ} (h : getK l k = none) : ∀ p ∈ l, p.1 ≠ k := by
  unfold getK at h
  rw [Option.map_eq_none_iff, List.find?_eq_none] at h
  exact fun p hp e => h p hp (decide_eq_true e)
theorem mem_putK {κ β : Type} [DecidableEq κ] {l : List (κ × β)} {k : κ} {v : β} {p : κ × β} (h : p ∈ putK l k v) : p = (k, v) ∨ p ∈ l ∧ p.1 ≠ k := by
  unfold putK at h
  split at h
  · obtain ⟨q, hq, rfl⟩ := List.mem_map.mp h
    by_cases e : q.1 = k
    · rw [if_pos e, e]; exact .inl rfl
    · rw [if_neg e]; exact .inr ⟨hq, e⟩
  · rename_i hn
    rcases List.mem_append.mp h with h | h
    · exact .inr ⟨h, getK_none (by cases e : getK l k with | none => rfl | some _ => rw [e] at hn; exact absurd rfl hn) p h⟩
    · exact .inl (List.mem_singleton.mp h)
theorem putK_nodup {κ β : Type} [DecidableEq κ] {l : List (κ × β)} (k : κ) (v : β) (h : (l.map (·.1)).Nodup) : ((putK l k v).map (·.1)).Nodup := by
  unfold putK
  split
  · rw [List.map_map]
    have e : l.map ((fun p : κ × β => p.1) ∘ fun p => if p.1 = k then (p.1, v) else p) = l.map (·.1) := List.map_congr_left fun p _ => by
      show (if p.1 = k then (p.1, v) else p).1 = p.1
      split <;> rfl
    rw [e]
    exact h
  · rename_i hn
    rw [List.map_append, List.nodup_append]
    refine ⟨h, by simp, fun a ha b hb => ?_⟩
    have hb : b = k := by simpa using hb
    obtain ⟨p, hp, rfl⟩ := List.mem_map.mp ha
    rw [hb]
    exact getK_none (by cases e : getK l k with | none => rfl | some _ => rw [e] at hn; exact absurd rfl hn) p hp
theorem nodup_len {α : Type} [DecidableEq α] : ∀ {l m : List α}, l.Nodup → (∀ x ∈ l, x ∈ m) → l.length ≤ m.length
  | [], _, _, _ => Nat.zero_le _
  | x :: xs, m, hn, hs => by
    rw [List.nodup_cons] at hn
    have hx := hs x (by simp)
    have h1 := nodup_len (l := xs) (m := m.erase x) hn.2 fun y hy => (List.mem_erase_of_ne (fun e => hn.1 (by rw [← e]; exact hy))).mpr (hs y (by simp [hy]))
    have h2 := List.length_erase_of_mem hx
    have h3 := List.length_pos_of_mem hx
    rw [List.length_cons]
    omega
theorem w_st {S : Type} {s : S} {ρ : DL.Env} {i : Nat} {fi f : Ex S} {ds : List PyData} {Q : Fl → S → Prop} (e : ρ[i]? = some (.l ds)) (h : W (f ρ s) fun y s1 => W (fi ρ s1) fun k s2 => ∃ z j n, y = .d z ∧ k = .d (.int j) ∧ L2.ixN ds.length j = some n ∧ Stt (ρ.set i (.l (ds.set n z))) fun ρ1 => Q (.nx ρ1) s2) : W (sSt i fi f ρ s) Q := by
  unfold sSt
  refine w_bind (h.mono fun y s1 h => ?_)
  rw [e]
  refine w_bind (h.mono fun k s2 ⟨z, j, n, hy, hk, hj, q⟩ => ?_)
  subst hy hk
  show W (match L2.ixN ds.length j with | some n => _ | none => _) Q
  rw [hj]
  exact ⟨q⟩
/-- a wheel -/
structure Wh where
  ws : List Int
  room : Int
  sizes : List Int
  lo : Int
  hi : Int
  pat : Int
  look : Int
abbrev iT (xs : List Int) : PyData := .tuple (xs.map .int)
def Wh.d (w : Wh) : PyData := .tuple [iT w.ws, .int w.room, iT w.sizes, .tuple [.int w.lo, .int w.hi], .int w.pat, .int w.look]
def dotL (ws ls : List Int) : Int := ((ws.zip ls).map fun p => p.1 * p.2).sum
def Wh.up (w : Wh) (ls : List Int) : Bool := decide (w.lo ≤ dotL w.ws ls) && decide (dotL w.ws ls ≤ w.hi)
def turnL (ls : List Int) : List Int := 0 :: ls.dropLast
structure DkOk (k : Int) (s : Dk) : Prop where
  beg : 0 ≤ s.beg
  d0 : 0 ≤ s.drw
  dk : s.drw ≤ k
theorem dr1 (c d : Int) (h0 : 0 ≤ d) (h1 : d ≤ 1000000000) : (0 : Int) ≤ 5 ∧ (5 : Int) ≤ 1000000 ∧ (c % 2147483629 + 49979687 * d).natAbs < 2 ^ 64 := by omega
theorem dr2 (z d : Int) (h0 : 0 ≤ d) (h1 : d ≤ 1000000000) : (0 : Int) ≤ 3 ∧ (3 : Int) ≤ 1000000 ∧ (z % 2147483647 * (2 * d + 3) + 8887).natAbs < 2 ^ 64 := by
  have m0 := Int.emod_nonneg z (by decide : (2147483647 : Int) ≠ 0)
  have m1 := Int.emod_lt_of_pos z (by decide : (0 : Int) < 2147483647)
  generalize z % 2147483647 = m at *
  have a := Int.mul_nonneg m0 (by omega : 0 ≤ 2 * d + 3)
  have b := Int.mul_le_mul (by omega : m ≤ 2147483646) (by omega : 2 * d + 3 ≤ 2000000003) (by omega) (by decide)
  refine ⟨by decide, by decide, ?_⟩
  omega
theorem draw_ok (n : Int) (h0 : 0 < n) (h1 : n < 1073741824) {s : Dk} {k : Int} (hs : DkOk k s) (hk : k < 1000000000) {Q : Val → Dk → Prop} (q : ∀ r s', 0 ≤ r → r < n → DkOk (k + 1) s' → s'.dk = s.dk → Q (.d (.int r)) s') :
    W (m__law_draw [.r (.ref s.dk), .d (.int n)] s) Q := by
  have hd0 := hs.d0
  have hdk := hs.dk
  have hb := hs.beg
  unfold m__law_draw b__law_draw
  repeat wtm_at "z"
  refine br_dec (fun hl => ?_) fun hl => ?_
  · repeat wtm_at "z"
    · exact q _ _ (Int.emod_nonneg _ (by omega)) (Int.emod_lt_of_pos _ h0) ⟨hb, (by show 0 ≤ s.drw + 1; omega), (by show s.drw + 1 ≤ k + 1; omega)⟩ rfl
    · exact ⟨h0, h1⟩
    · exact h0
  · repeat wtm_at "z"
    have hlen : (!s.cells.isEmpty) = true → (0 : Int) < s.cells.length := fun hc => by
      cases e : s.cells with
      | nil => rw [e] at hc; cases hc
      | cons a b => simp
    refine br_join (fun fl s1 => ∃ c : Int, fl = .nx [.v (.r (.ref s.dk)), .v (.d (.int n)), .no, .v (.d (.int c)), .no] ∧ s1 = s.put 3 (s.drw + 1)) (fun hc => ?_) (fun hc => ?_) ?_
    · repeat wtm_at "z"
      · have hp := hlen hc
        obtain ⟨_, e⟩ := atI_get (xs := s.cells) (i := s.beg % (s.cells.length : Int)) (Int.emod_nonneg _ (by omega)) (Int.emod_lt_of_pos _ hp)
        refine ⟨_, e, ?_⟩
        repeat wtm_at "z"
        exact ⟨_, rfl, rfl⟩
      · exact hlen hc
    · repeat wtm_at "z"
      exact ⟨_, rfl, rfl⟩
    · rintro fl s1 ⟨c, rfl, rfl⟩
      repeat wtm_at "z"
      refine br_joinA (fun b s1 => s1 = (s.put 3 (s.drw + 1)).put 1 (s.beg + 1)) (fun _ => ?_) (fun _ => ?_) ?_
      · repeat wtm_at "z"
        rfl
      · rfl
      · rintro b s1 rfl
        refine br (fun hb => ?_) fun hb => ?_
        · repeat wtm_at "z"
          · exact q _ _ (Int.emod_nonneg _ (by omega)) (Int.emod_lt_of_pos _ h0) ⟨(by show 0 ≤ s.beg + 1; omega), (by show 0 ≤ s.drw + 1; omega), (by show s.drw + 1 ≤ k + 1; omega)⟩ rfl
          · exact h0
          · exact ⟨h0, h1⟩
        · have ed : ((s.put 3 (s.drw + 1)).put 1 (s.beg + 1)).drw = s.drw + 1 := rfl
          repeat wtm_at "z"
          · exact q _ _ (Int.emod_nonneg _ (by omega)) (Int.emod_lt_of_pos _ h0) ⟨(by show 0 ≤ s.beg + 1; omega), (by show 0 ≤ s.drw + 1; omega), (by show s.drw + 1 ≤ k + 1; omega)⟩ rfl
          · exact h0
          · exact ⟨by decide, by decide⟩
          · decide
          · exact dr2 _ _ (by omega) (by omega)
          · exact .inr ⟨by omega, by omega⟩
          · exact .inl ⟨by decide, by decide⟩
          · decide
          · exact dr1 _ _ (by omega) (by omega)
          · exact .inl ⟨by decide, by decide⟩
          · decide
      · exact ⟨by decide, by decide, by decide⟩
theorem DkOk.le {k k' : Int} {s : Dk} (h : DkOk k s) (e : k ≤ k') : DkOk k' s := ⟨h.beg, h.d0, Int.le_trans h.dk e⟩
theorem one_ok {ds : List PyData} (h0 : 0 < ds.length) (h1 : ds.length < 1000000) {s : Dk} {k : Int} (hs : DkOk k s) (hk : k < 1000000000) {Q : Val → Dk → Prop} (q : ∀ d s', d ∈ ds → DkOk (k + 1) s' → s'.dk = s.dk → Q (.d d) s') :
    W (m__law_one [.r (.ref s.dk), .d (.list ds)] s) Q := by
  unfold m__law_one b__law_one
  repeat wtm_at "z"
  refine draw_ok _ (by omega) (by omega) hs hk fun r s' r0 r1 ok' e => ?_
  obtain ⟨h, e2⟩ := atI_get r0 r1
  refine bv (op := opIx) e2 ?_
  repeat wtm_at "z"
  exact q _ _ (List.getElem_mem _) ok' e
/-- the counting of a wheel's stands -/
def cntL (n : Nat) (room : Int) (z : Nat) (pat look : Int) : Int := (pat + 1) * (room + 1) ^ n * (z : Int) ^ look.toNat
theorem count_eq (ws : List PyData) (room : Int) (zs : List PyData) (pat look : Int) (hr : 0 ≤ room ∧ room < 1000) (hz : zs.length < 1000) (hl : 0 ≤ look ∧ look < 1000) (s : Dk) :
    m__law_count [.d (.list ws), .d (.int room), .d (.tuple zs), .d (.int pat), .d (.int look)] s = .ok (.d (.int (cntL ws.length room zs.length pat look))) s := by
  refine w_eq ?_
  unfold m__law_count b__law_count
  repeat wtm_at "z"
  refine for_inv (fun n ρ s' => s' = s ∧ ∃ x, ρ = [.v (.d (.list ws)), .v (.d (.int room)), .v (.d (.tuple zs)), .v (.d (.int pat)), .v (.d (.int look)), .v (.d (.int ((pat + 1) * (room + 1) ^ n))), x, .no]) ws 0 ⟨rfl, .no, by simp⟩ ?_ ?_
  · rintro n d hd ρ s' ⟨rfl, x, rfl⟩
    refine ⟨_, rfl, ?_⟩
    repeat wtm_at "z"
    · refine ⟨rfl, .v (.d d), ?_⟩
      simp only [List.set_cons_zero, List.set_cons_succ]
      rw [Int.mul_assoc, ← Int.pow_succ]
    · right; omega
  · rintro ρ s' ⟨rfl, x, rfl⟩
    rw [Nat.zero_add]
    repeat wtm_at "z"
    · refine for_inv (fun n ρ s1 => s1 = s' ∧ ∃ y, ρ = [.v (.d (.list ws)), .v (.d (.int room)), .v (.d (.tuple zs)), .v (.d (.int pat)), .v (.d (.int look)), .v (.d (.int ((pat + 1) * (room + 1) ^ ws.length * (zs.length : Int) ^ n))), x, y]) (rngD 0 look.toNat) 0 ?_ ?_ ?_
      · exact ⟨rfl, .no, by simp⟩
      · rintro n d hd ρ s' ⟨rfl, y, rfl⟩
        refine ⟨_, rfl, ?_⟩
        repeat wtm_at "z"
        · refine ⟨rfl, .v (.d d), ?_⟩
          simp only [List.set_cons_zero, List.set_cons_succ]
          rw [Int.mul_assoc, ← Int.pow_succ]
        · right; omega
      · rintro ρ s1 ⟨rfl, y, rfl⟩
        repeat wtm_at "z"
        unfold cntL
        rw [rng_len]
        simp
    · omega
structure Dks (a : Addr) (k : Int) (s : Dk) : Prop where
  ok : DkOk k s
  eq : s.dk = a
theorem Dks.le {a : Addr} {k k' : Int} {s : Dk} (h : Dks a k s) (e : k ≤ k') : Dks a k' s := ⟨h.ok.le e, h.eq⟩
theorem draw_a {a : Addr} {n : Int} {s : Dk} {k : Int} (hs : Dks a k s) (hk : k < 1000000000) (h : 0 < n ∧ n < 1073741824) {Q : Val → Dk → Prop} (q : ∀ r s', 0 ≤ r → r < n → Dks a (k + 1) s' → Q (.d (.int r)) s') :
    W (m__law_draw [.r (.ref a), .d (.int n)] s) Q := by
  obtain ⟨ok', rfl⟩ := hs
  exact draw_ok n h.1 h.2 ok' hk fun r s' r0 r1 o e => q r s' r0 r1 ⟨o, e⟩
theorem one_a {a : Addr} {ds : List PyData} {s : Dk} {k : Int} (hs : Dks a k s) (hk : k < 1000000000) (h : 0 < ds.length ∧ ds.length < 1000000) {Q : Val → Dk → Prop} (q : ∀ d s', d ∈ ds → Dks a (k + 1) s' → Q (.d d) s') :
    W (m__law_one [.r (.ref a), .d (.list ds)] s) Q := by
  obtain ⟨ok', rfl⟩ := hs
  exact one_ok h.1 h.2 ok' hk fun r s' m o e => q r s' m ⟨o, e⟩
/-- .. among numbers -/
theorem one_n {a : Addr} (ns : List Int) {s : Dk} {k : Int} (hs : Dks a k s) (hk : k < 1000000000) (h : 0 < ns.length ∧ ns.length < 1000000) {Q : Val → Dk → Prop} (q : ∀ n s', n ∈ ns → Dks a (k + 1) s' → Q (.d (.int n)) s') :
    W (m__law_one [.r (.ref a), .d (.list (ns.map .int))] s) Q :=
  one_a hs hk (by simpa using h) fun d s' m o => by
    obtain ⟨n, hn, rfl⟩ := List.mem_map.mp m
    exact q n s' hn o
structure GoodWh (most : Int) (w : Wh) : Prop where
  n : 2 ≤ w.ws.length ∧ w.ws.length ≤ 6
  ws : ∀ x ∈ w.ws, -9 ≤ x ∧ x ≤ 9
  room : 1 ≤ w.room ∧ w.room ≤ 4
  ne : w.sizes ≠ []
  asc : w.sizes.Pairwise (· < ·)
  zs : ∀ z ∈ w.sizes, 1 ≤ z ∧ z ≤ w.room
  zl : w.sizes.length ≤ 4
  lo : -61 < w.lo ∧ w.lo ≤ 0
  hi : 0 ≤ w.hi ∧ w.hi < 61
  pat : 1 ≤ w.pat ∧ w.pat ≤ 6
  look : 1 ≤ w.look ∧ w.look ≤ 3
  cnt : cntL w.ws.length w.room w.sizes.length w.pat w.look ≤ most
theorem cnt_least {room : Int} {z : Nat} (hr : 1 ≤ room ∧ room ≤ 4) (hz : z ≤ 4) : cntL 2 room z 1 1 ≤ 200 := by
  have e : cntL 2 room z 1 1 = 2 * ((room + 1) * (room + 1)) * (z : Int) := by
    unfold cntL
    rw [Int.pow_succ, Int.pow_succ, Int.pow_zero, Int.one_mul, show (1 : Int).toNat = 1 from rfl, Int.pow_succ, Int.pow_zero, Int.one_mul]
    rfl
  rw [e]
  have : room = 1 ∨ room = 2 ∨ room = 3 ∨ room = 4 := by omega
  rcases this with rfl | rfl | rfl | rfl <;> omega
theorem wheel_okB {a : Addr} {most M : Int} (hm : 200 ≤ M) (hmm : most ≤ M) {s : Dk} {k : Int} (hs : Dks a k s) (hk : k < 900000000) {Q : Val → Dk → Prop} (q : ∀ w s', GoodWh M w → (-31 < w.lo ∧ w.hi < 31) → Dks a (k + 40) s' → Q (.d w.d) s') :
    W (m__law_wheel [.r (.ref a), .d (.int most)] s) Q := by
  unfold m__law_wheel b__law_wheel
  repeat wtm_at "z"
  refine one_n [1, 2, 2, 2, 3, 4] hs (by omega) (by decide) fun room s1 hroom hs1 => ?_
  have hr : 1 ≤ room ∧ room ≤ 4 := by simp at hroom; omega
  clear hroom
  repeat wtm_at "z"
  · refine ⟨by rw [rng_len]; have := sizeLine_big; omega, ?_⟩
    refine lc_inv (fun n acc s' => Dks a (k + 1 + n) s' ∧ ∃ zs : List Int, acc = zs.map .int ∧ zs.Pairwise (· < ·) ∧ zs.length ≤ n ∧ ∀ z ∈ zs, 1 ≤ z ∧ z ≤ n) (rngD 1 (room + 1 - 1).toNat) 0 [] ⟨by simpa using hs1, [], rfl, .nil, Nat.le_refl _, fun z hz => by cases hz⟩ ?_ ?_
    · rintro n d hd acc s' ⟨hs', zs, rfl, p, hl, hz⟩
      obtain ⟨hn, rfl⟩ := rng_at hd
      refine item rfl ?_
      repeat wtm_at "z"
      refine draw_a hs' (by omega) (by omega) fun r s2 r0 r1 hs2 => ?_
      repeat wtm_at "z"
      refine br_dec (fun hp => ?_) fun hp => ?_
      · repeat wtm_at "z"
        refine ⟨_, rfl, hs2.le (by omega), zs ++ [1 + (n : Int)], by simp, ?_, by simp; omega, ?_⟩
        · refine List.pairwise_append.mpr ⟨p, by simp, fun x hx y hy => ?_⟩
          have := hz x hx
          simp at hy
          omega
        · intro z hz'
          rcases List.mem_append.mp hz' with m | m
          · have := hz z m; omega
          · simp at m; omega
      · exact ⟨hs2.le (by omega), zs, by simp, p, by omega, fun z hz' => by have := hz z hz'; omega⟩
    · rintro r s2 ⟨hs2, zs, hr2, p, hl, hz⟩
      rw [rng_len] at hl hz hs2
      have hr2 : r = zs.map .int := hr2
      subst hr2
      repeat wtm_at "z"
      refine bv_neI0 ?_
      repeat wtm_at "z"
      -- the sizes, the room for the rest
      have zl : zs.length ≤ 4 := by omega
      have hz' : ∀ z ∈ zs, 1 ≤ z ∧ z ≤ room := fun z m => by have := hz z m; omega
      refine br_join (fun y s3 => ∃ zs : List Int, y = .d (.tuple (zs.map .int)) ∧ zs ≠ [] ∧ zs.Pairwise (· < ·) ∧ zs.length ≤ 4 ∧ (∀ z ∈ zs, 1 ≤ z ∧ z ≤ room) ∧ Dks a (k + 6) s3) (fun he => ?_) (fun he => ?_) ?_
      · repeat wtm_at "z"
        exact ⟨zs, rfl, by simpa using he, p, zl, hz', hs2.le (by omega)⟩
      · repeat wtm_at "z"
        refine draw_a hs2 (by omega) (by omega) fun r s3 r0 r1 hs3 => ?_
        repeat wtm_at "z"
        refine ⟨[1 + r], rfl, by simp, by simp, by simp, fun z m => ?_, hs3.le (by omega)⟩
        simp at m
        omega
      · rintro _ s3 ⟨zs', rfl, zne, zasc, zl', zin, hs3⟩
        repeat wtm_at "z"
        clear zl hz' p hl hz hr2 hs2
        clear zs
        refine draw_a hs3 (by omega) (by omega) fun r s4 r0 r1 hs4 => ?_
        repeat wtm_at "z"
        refine one_n [1, 1, 2, 2, 3, 1 + r] hs4 (by omega) (by simp) fun pat s5 hpat hs5 => ?_
        have hp : 1 ≤ pat ∧ pat ≤ 6 := by simp at hpat; omega
        clear hpat hs4 hs3
        repeat wtm_at "z"
        refine one_n [1, 1, 1, 2, 3] hs5 (by omega) (by simp) fun look s6 hlook hs6 => ?_
        have hl : 1 ≤ look ∧ look ≤ 3 := by simp at hlook; omega
        clear hlook hs5
        repeat wtm_at "z"
        refine one_n [1, 1, 2, 9] hs6 (by omega) (by simp) fun wide s7 hwide hs7 => ?_
        have hw : 1 ≤ wide ∧ wide ≤ 9 := by simp at hwide; omega
        clear hwide hs6
        repeat wtm_at "z"
        refine one_n [2, 3, 3, 4, 5, 6] hs7 (by omega) (by simp) fun num s8 hnum hs8 => ?_
        have hn : 2 ≤ num ∧ num ≤ 6 := by simp at hnum; omega
        clear hnum hs7
        repeat wtm_at "z"
        · refine ⟨by rw [rng_len]; have := sizeLine_big; omega, ?_⟩
          refine lc_inv (fun n acc s' => Dks a (k + 11 + n) s' ∧ ∃ ws : List Int, acc = ws.map .int ∧ ws.length = n ∧ ∀ x ∈ ws, -9 ≤ x ∧ x ≤ 9) (rngD 0 num.toNat) 0 [] ⟨hs8.le (by omega), [], rfl, rfl, fun z hz => by cases hz⟩ ?_ ?_
          · rintro n d hd acc s' ⟨hs', ws, rfl, hwl, hws⟩
            obtain ⟨hn', rfl⟩ := rng_at hd
            refine item1 rfl ?_
            repeat wtm_at "z"
            · refine draw_a hs' (by omega) (by omega) fun r s2 r0 r1 hs2 => ?_
              repeat wtm_at "z"
              refine ⟨_, rfl, hs2.le (by omega), ws ++ [r - wide], by simp, by simp; omega, fun x hx => ?_⟩
              rcases List.mem_append.mp hx with m | m
              · exact hws x m
              · simp at m; omega
            · left; omega
          · rintro r s9 ⟨hs9, ws, hr9, hwl, hws⟩
            rw [rng_len] at hwl hs9
            have hr9 : r = ws.map .int := hr9
            subst hr9
            repeat wtm_at "z"
            refine w_while (fun m ρ s10 => Dks a (k + 20) s10 ∧ ∃ ws : List Int, m = ws.length ∧ 2 ≤ ws.length ∧ ws.length ≤ 6 ∧ (∀ x ∈ ws, -9 ≤ x ∧ x ≤ 9) ∧
              ρ = [.v (.r (.ref a)), .v (.d (.int most)), .v (.d (.int room)), .v (.d (.tuple (zs'.map .int))), .no, .v (.d (.int pat)), .v (.d (.int look)), .v (.d (.int wide)), .v (.d (.list (ws.map .int))), .no, .no, .no]) (m := ws.length) (by omega) ⟨hs9.le (by omega), ws, rfl, by omega, by omega, hws, rfl⟩ ?_
            rintro m ρ s10 ⟨hs10, ws, rfl, hw2, hw6, hws, rfl⟩
            repeat wtm_at "z"
            refine br_joinA (fun b s' => s' = s10 ∧ (b = true → 2 < ws.length) ∧ (b = false → ws.length = 2 ∨ cntL ws.length room zs'.length pat look ≤ most)) (fun h2 => ?_) (fun h2 => ?_) ?_
            · repeat wtm_at "z"
              refine w_of (count_eq _ _ _ _ _ (by omega) (by simp; omega) (by omega) _) ?_
              repeat wtm_at "z"
              simp at h2 ⊢
              omega
            · simp at h2 ⊢
              omega
            · rintro b s11 ⟨rfl, ht, hf⟩
              cases b with
              | true =>
                repeat wtm_at "z"
                have := ht rfl
                rw [cut_init, ← List.map_dropLast]
                refine ⟨ws.dropLast.length, by simp; omega, hs10, ws.dropLast, rfl, by simp; omega, by simp; omega, fun x hx => hws x (List.dropLast_subset ws hx), rfl⟩
              | false =>
                repeat wtm_at "z"
                refine w_of (count_eq _ _ _ _ _ (by omega) (by simp; omega) (by omega) _) ?_
                repeat wtm_at "z"
                rw [List.length_map, List.length_map]
                refine br_join (fun fl s' => s' = s11 ∧ ∃ pat look : Int, (1 ≤ pat ∧ pat ≤ 6) ∧ (1 ≤ look ∧ look ≤ 3) ∧ cntL ws.length room zs'.length pat look ≤ M ∧
                  fl = .nx [.v (.r (.ref a)), .v (.d (.int most)), .v (.d (.int room)), .v (.d (.tuple (zs'.map .int))), .no, .v (.d (.int pat)), .v (.d (.int look)), .v (.d (.int wide)), .v (.d (.list (ws.map .int))), .no, .no, .no]) (fun hc => ?_) (fun hc => ?_) ?_
                · repeat wtm_at "z"
                  have hc := of_decide_eq_true hc
                  have h2 : ws.length = 2 := (hf rfl).resolve_right (by omega)
                  refine ⟨rfl, 1, 1, by decide, by decide, ?_, rfl⟩
                  rw [h2]
                  exact Int.le_trans (cnt_least hr zl') hm
                · repeat wtm_at "z"
                  have hc := of_decide_eq_false hc
                  exact ⟨rfl, pat, look, hp, hl, by omega, rfl⟩
                · clear hf ht hp hl
                  rintro fl s' ⟨rfl, pat', look', hp, hl, hcnt, rfl⟩
                  repeat wtm_at "z"
                  refine one_n [2, 4, 8, 30] hs10 (by omega) (by simp) fun far s12 hfar hs12 => ?_
                  have hf : 2 ≤ far ∧ far ≤ 30 := by simp at hfar; omega
                  repeat wtm_at "z"
                  refine draw_a hs12 (by omega) (by omega) fun b1 s13 b10 b11 hs13 => ?_
                  repeat wtm_at "z"
                  refine draw_a hs13 (by omega) (by omega) fun b2 s14 b20 b21 hs14 => ?_
                  repeat wtm_at "z"
                  exact q ⟨ws, room, zs', 0 - b1, b2, pat', look'⟩ _ ⟨⟨hw2, hw6⟩, hws, hr, zne, zasc, zin, zl', ⟨by show -61 < 0 - b1; omega, by show 0 - b1 ≤ 0; omega⟩, ⟨b20, by show b2 < 61; omega⟩, hp, hl, hcnt⟩ ⟨by show -31 < 0 - b1; omega, by show b2 < 31; omega⟩ (hs14.le (by omega))
        · omega
  · omega
theorem wheel_okM {a : Addr} {most M : Int} (hm : 200 ≤ M) (hmm : most ≤ M) {s : Dk} {k : Int} (hs : Dks a k s) (hk : k < 900000000) {Q : Val → Dk → Prop} (q : ∀ w s', GoodWh M w → Dks a (k + 40) s' → Q (.d w.d) s') :
    W (m__law_wheel [.r (.ref a), .d (.int most)] s) Q := wheel_okB hm hmm hs hk fun w s' h _ => q w s' h
/-- a deed's word -/
def deedS (b : Bool) : Str := if b then "board" else "turn"
/-- a stand -/
structure Sd where
  ls : List Int
  ln : List Int
  wt : Int
deriving DecidableEq
def Sd.d (t : Sd) : PyData := .tuple [iT t.ls, iT t.ln, .int t.wt]
/-- a stand in its bounds, but for the lean -/
structure GoodSd (w : Wh) (t : Sd) : Prop where
  n : t.ls.length = w.ws.length
  ls : ∀ x ∈ t.ls, 0 ≤ x ∧ x ≤ w.room
  look : (t.ln.length : Int) = w.look
  ln : ∀ z ∈ t.ln, z ∈ w.sizes
  wt : 0 ≤ t.wt ∧ t.wt ≤ w.pat
def boardL (ls ln : List Int) : List Int := match ls, ln with
  | l :: r, z :: _ => (l + z) :: r
  | _, _ => []
/-- all rows of so many of the items -/
def rowsL (items : List Int) : Nat → List (List Int)
  | 0 => [[]]
  | n + 1 => (rowsL items n).flatMap fun row => items.map fun i => row ++ [i]
theorem rowsL_len (items : List Int) : ∀ n, (rowsL items n).length = items.length ^ n
  | 0 => rfl
  | n + 1 => by
    rw [rowsL, List.length_flatMap, List.map_congr_left (g := fun _ => items.length) (fun a _ => by simp), List.map_const', List.sum_replicate_nat, rowsL_len items n, Nat.pow_succ]
theorem GoodSd.ne {w : Wh} {t : Sd} {most : Int} (hw : GoodWh most w) (h : GoodSd w t) : t.ls ≠ [] ∧ t.ln ≠ [] ∧ t.ls.length ≤ 6 ∧ t.ln.length ≤ 3 := by
  have h1 := hw.n
  have h2 := hw.look
  have h3 := h.n
  have h4 := h.look
  refine ⟨fun e => ?_, fun e => ?_, by omega, by omega⟩
  · rw [e] at h3; simp at h3; omega
  · rw [e] at h4; simp at h4; omega
def afterL (t : Sd) (b : Bool) (z : Int) : Sd := if b then ⟨boardL t.ls t.ln, t.ln.drop 1 ++ [z], 0⟩ else ⟨turnL t.ls, t.ln, t.wt + 1⟩
/-- what a stand is -/
structure IsSd (w : Wh) (t : Sd) : Prop where
  ls : ∀ n ∈ t.ls, 0 ≤ n ∧ n ≤ w.room
  n : t.ls.length = w.ws.length
  up : w.up t.ls = true
  ln : ∀ n ∈ t.ln, 1 ≤ n ∧ n ≤ w.room
  look : (t.ln.length : Int) = w.look
  zs : ∀ n ∈ t.ln, n ∈ w.sizes
  wt : 0 ≤ t.wt ∧ t.wt ≤ w.pat
/-- all stands to which a deed can lead -/
def allL (w : Wh) (t : Sd) (b : Bool) : List Sd := if b then w.sizes.map (afterL t true) else [afterL t false 0]
mutual
/-- the numbers in it are at most so great -/
def intsB (M : Nat) : PyData → Bool
  | .int i => decide (i.natAbs ≤ M)
  | .list xs => intsBAll M xs
  | .tuple xs => intsBAll M xs
  | .dict _ => false
  | _ => true
def intsBAll (M : Nat) : List PyData → Bool
  | [] => true
  | x :: xs => intsB M x && intsBAll M xs
end
/-- data: numbers at most M, nesting at most k, bulk at most b -/
structure Fit (M k b : Nat) (d : PyData) : Prop where
  lay : d.canLay0 = true
  ib : intsB M d = true
  dp : d.depth ≤ k
  bk : d.bulk ≤ b
structure FitL (M k b : Nat) (d : List PyData) : Prop where
  lay : PyData.canLayAll0 d = true
  ib : intsBAll M d = true
  dp : PyData.depthAll d ≤ k
  bk : PyData.bulkAll d ≤ b
mutual
theorem intsB_mono {M M' : Nat} (hM : M ≤ M') : ∀ d : PyData, intsB M d = true → intsB M' d = true
  | .none, _ => rfl
  | .bool _, _ => rfl
  | .str _, _ => rfl
  | .int i, h => by
    have h : i.natAbs ≤ M := of_decide_eq_true (by simpa only [intsB] using h)
    simp only [intsB]
    exact decide_eq_true (Nat.le_trans h hM)
  | .list xs, h => by
    simp only [intsB]
    exact intsBAll_mono hM xs (by simpa only [intsB] using h)
  | .tuple xs, h => by
    simp only [intsB]
    exact intsBAll_mono hM xs (by simpa only [intsB] using h)
  | .dict _, h => by simp only [intsB] at h; cases h
theorem intsBAll_mono {M M' : Nat} (hM : M ≤ M') : ∀ d : List PyData, intsBAll M d = true → intsBAll M' d = true
  | [], _ => rfl
  | x :: xs, h => by
    have h' : intsB M x = true ∧ intsBAll M xs = true := by simpa only [intsBAll, Bool.and_eq_true] using h
    simp only [intsBAll, intsB_mono hM x h'.1, intsBAll_mono hM xs h'.2, Bool.and_self]
end
theorem Fit.le {M k b M' k' b' : Nat} {d : PyData} (h : Fit M k b d) (hM : M ≤ M') (hk : k ≤ k') (hb : b ≤ b') : Fit M' k' b' d := ⟨h.lay, intsB_mono hM d h.ib, Nat.le_trans h.dp hk, Nat.le_trans h.bk hb⟩
theorem FitL.le {M k b M' k' b' : Nat} {d : List PyData} (h : FitL M k b d) (hM : M ≤ M') (hk : k ≤ k') (hb : b ≤ b') : FitL M' k' b' d := ⟨h.lay, intsBAll_mono hM d h.ib, Nat.le_trans h.dp hk, Nat.le_trans h.bk hb⟩
theorem fl_nil {M k b : Nat} : FitL M k b [] := ⟨rfl, rfl, Nat.zero_le _, Nat.zero_le _⟩
theorem fl_cons {M k b b' : Nat} {d : PyData} {ds : List PyData} (h : Fit M k b d) (t : FitL M k b' ds) : FitL M k (b + 1 + b') (d :: ds) :=
  ⟨by simp only [PyData.canLayAll0, h.lay, t.lay, Bool.and_self], by simp only [intsBAll, h.ib, t.ib, Bool.and_self],
    by simp only [PyData.depthAll]; exact Nat.max_le.mpr ⟨h.dp, t.dp⟩, by simp only [PyData.bulkAll]; have := h.bk; have := t.bk; omega⟩
theorem FitL.head {M k b : Nat} {d : PyData} {ds : List PyData} (h : FitL M k b (d :: ds)) : ∃ b1 b2, b1 + 1 + b2 ≤ b ∧ Fit M k b1 d ∧ FitL M k b2 ds := by
  obtain ⟨h1, h2, h3, h4⟩ := h
  simp only [PyData.canLayAll0, Bool.and_eq_true] at h1
  simp only [intsBAll, Bool.and_eq_true] at h2
  simp only [PyData.depthAll] at h3
  simp only [PyData.bulkAll] at h4
  have h3 := Nat.max_le.mp h3
  exact ⟨d.bulk, PyData.bulkAll ds, by omega, ⟨h1.1, h2.1, h3.1, Nat.le_refl _⟩, ⟨h1.2, h2.2, h3.2, Nat.le_refl _⟩⟩
theorem FitL.split {M k : Nat} : ∀ {b : Nat} {xs ys : List PyData}, FitL M k b (xs ++ ys) → ∃ b1 b2, b1 + b2 ≤ b ∧ FitL M k b1 xs ∧ FitL M k b2 ys
  | b, [], ys, h => ⟨0, b, by omega, fl_nil, h⟩
  | b, x :: xs, ys, h => by
    obtain ⟨b1, b2, e, h1, h2⟩ := FitL.head (ds := xs ++ ys) h
    obtain ⟨b3, b4, e2, h3, h4⟩ := h2.split
    exact ⟨b1 + 1 + b3, b4, by omega, fl_cons h1 h3, h4⟩
theorem FitL.len {M k : Nat} : ∀ {b : Nat} {xs : List PyData}, FitL M k b xs → xs.length ≤ b
  | b, [], _ => Nat.zero_le _
  | b, x :: xs, h => by
    obtain ⟨b1, b2, e, _, h2⟩ := h.head
    have := h2.len
    rw [List.length_cons]
    omega
def whatsL : List Str := ["load", "head", "waited", "lean", "ahead"]
/-- a test, a line of a rule -/
structure Tst where
  what : Str
  lo : Int
  hi : Int
structure Ln where
  ts : List Tst
  act : Bool
def Tst.d (t : Tst) : PyData := .tuple [.str t.what, .int t.lo, .int t.hi]
def Ln.d (l : Ln) : PyData := .tuple [.tuple (l.ts.map Tst.d), .str (deedS l.act)]
def big31 : Int := 10000000000000000000000000000000
structure GoodTst (t : Tst) : Prop where
  w : t.what ∈ whatsL
  lo : -big31 ≤ t.lo
  le : t.lo ≤ t.hi
  hi : t.hi ≤ big31
structure GoodRu (L T : Nat) (r : List Ln) : Prop where
  n : r.length ≤ L
  ts : ∀ l ∈ r, l.ts.length ≤ T ∧ ∀ t ∈ l.ts, GoodTst t
theorem GoodRu.le {L L' T T' : Nat} {r : List Ln} (h : GoodRu L T r) (hL : L ≤ L') (hT : T ≤ T') : GoodRu L' T' r := ⟨Nat.le_trans h.n hL, fun x hx => ⟨Nat.le_trans (h.ts x hx).1 hT, (h.ts x hx).2⟩⟩
def sg (z : Str) : List Nat := z.cps.toList
theorem sg_ext {a b : Str} (h : sg a = sg b) : a = b := by
  cases a; cases b
  unfold sg at h
  congr
  exact Array.toList_inj.mp h
/-- a text as those that are met -/
structure Ok (z : Str) : Prop where
  cp : CpOk z
  len : z.length ≤ 100000
theorem Ok.sz {z : Str} (h : Ok z) : z.length ≤ sizeLine := by have := h.len; have := sizeLine_big; omega
theorem ok_lit (x : String) (h : (Str.ofString x).length ≤ 100000 := by decide) : Ok (Str.ofString x) := ⟨cp_ofString x, h⟩
def digB (l : List Nat) : Bool := l.all fun c => decide (48 ≤ c ∧ c ≤ 57)
theorem digB_all {l : List Nat} (h : digB l = true) : PySem.NumText.AllDigits l := fun c hc => by
  have := List.all_eq_true.mp h c hc
  exact of_decide_eq_true this
/-- the number from 0 on that a word is -/
def plainL (l : List Nat) : Option Int :=
  if l = [] ∨ 3 < l.length ∨ digB l = false then none else if l.head? = some 48 ∧ 1 < l.length then none else some (PySem.NumText.digitsVal l : Nat)
def numW (l : List Nat) : Option Int := match l with
  | 45 :: r => (match plainL r with
    | some n => if n = 0 then none else some (0 - n)
    | none => none)
  | _ => plainL l
def optI : Option Int → PyData
  | none => .none
  | some n => .int n
theorem in_digits (c : Nat) : (!(Builtin.Str.occurrences (Str.ofString "0123456789") ⟨#[c]⟩ 0 (Str.ofString "0123456789").length 1).isEmpty) = decide (48 ≤ c ∧ c ≤ 57) := by
  rw [PySem.StrLaws.found_one]
  have e : (Str.ofString "0123456789").cps.toList = [48, 49, 50, 51, 52, 53, 54, 55, 56, 57] := by decide +kernel
  rw [e]
  congr 1
  apply propext
  constructor
  · intro h; simp at h; omega
  · intro h; simp; omega
theorem sg_empty {z : Str} : z = Str.ofString "" ↔ sg z = [] := by
  have e : sg (Str.ofString "") = [] := by decide +kernel
  constructor
  · rintro rfl; exact e
  · intro h; exact sg_ext (by rw [h, e])
theorem sg_len (z : Str) : (sg z).length = z.length := Array.length_toList
theorem plain_eq (z : Str) (hz : Ok z) (s : Dk) : m_plain_number [.d (.str z)] s = .ok (.d (optI (plainL (sg z)))) s := by
  refine w_eq ?_
  have hl := hz.sz
  unfold m_plain_number b_plain_number
  repeat wtm_at "z"
  refine bv_eqX hz.cp (ok_lit "").cp ?_
  repeat wtm_at "z"
  refine br_joinO (fun b s' => s' = s ∧ b = (decide (sg z = []) || (decide (3 < z.length) || !digB (sg z)))) (fun h => ?_) (fun h => ?_) ?_
  · have h := sg_empty.mp (of_decide_eq_true h)
    refine ⟨rfl, ?_⟩
    rw [h]; rfl
  · have h : ¬ sg z = [] := fun e => of_decide_eq_false h (sg_empty.mpr e)
    repeat wtm_at "z"
    refine cv_lenS ?_ hl
    repeat wtm_at "z"
    refine br_joinO (fun b s' => s' = s ∧ b = (decide (sg z = []) || (decide (3 < z.length) || !digB (sg z)))) (fun h2 => ?_) (fun h2 => ?_) (fun b s' h => h)
    · have h2 := of_decide_eq_true h2
      have h3 : 3 < z.length := by omega
      refine ⟨rfl, ?_⟩
      rw [decide_eq_true h3]; simp
    · have h2 := of_decide_eq_false h2
      have h3 : ¬ 3 < z.length := by omega
      repeat wtm_at "z"
      refine ⟨by rw [List.length_map]; exact hl, ?_⟩
      refine lc_mapOf signD (fun c => .bool (decide (48 ≤ c ∧ c ≤ 57))) (sg z) (fun c _ => item1 rfl ?_) ?_
      · repeat wtm_at "z"
        refine bv (r := .bool (decide (48 ≤ c ∧ c ≤ 57))) ?_ ⟨_, rfl, rfl, rfl⟩
        show some (PyData.bool (!(Builtin.Str.occurrences (Str.ofString "0123456789") ⟨#[c]⟩ 0 (Str.ofString "0123456789").length 1).isEmpty)) = _
        rw [in_digits]
      · repeat wtm_at "z"
        refine cv_all ?_
        repeat wtm_at "z"
        refine ⟨rfl, ?_⟩
        rw [decide_eq_false h, decide_eq_false h3]
        rfl
  · rintro b s' ⟨rfl, rfl⟩
    refine br (fun h => ?_) fun h => ?_
    · repeat wtm_at "z"
      refine ⟨?_, rfl⟩
      unfold plainL
      rw [if_pos ?_]
      · rfl
      · rw [sg_len]
        simpa using h
    · repeat wtm_at "z"
      simp only [Bool.or_eq_false_iff, decide_eq_false_iff_not] at h
      obtain ⟨h1, h2, h3⟩ := h
      have hd : digB (sg z) = true := by simpa using h3
      cases hs : sg z with
      | nil => exact absurd hs h1
      | cons c r =>
        have hc : z.cps.toList[(0 : Nat)]? = some c := by
          have : z.cps.toList = c :: r := hs
          rw [this]; rfl
        refine bv_ixS (k := 0) ?_ hc hl
        have cpc : CpOk (⟨#[c]⟩ : Str) := fun d hd => by
          have hd : d = c := by simpa using hd
          rw [hd]
          exact hz.cp c (by have : z.cps.toList = c :: r := hs; rw [this]; simp)
        repeat wtm_at "z"
        refine bv_eqX cpc (ok_lit "0").cp ?_
        repeat wtm_at "z"
        have e48 : ((⟨#[c]⟩ : Str) = Str.ofString "0") ↔ c = 48 := by
          have e : Str.ofString "0" = ⟨#[48]⟩ := by decide +kernel
          rw [e]
          constructor
          · intro h; injection h with h; injection h with h; injection h
          · rintro rfl; rfl
        have lr : z.length = r.length + 1 := by rw [← sg_len, hs]; rfl
        refine br_joinA (fun b s'' => s'' = s' ∧ b = (decide (c = 48) && decide (1 < z.length))) (fun h => ?_) (fun h => ?_) ?_
        · have h := e48.mp (of_decide_eq_true h)
          repeat wtm_at "z"
          refine cv_lenS ?_ hl
          repeat wtm_at "z"
          refine ⟨rfl, ?_⟩
          rw [decide_eq_true h, Bool.true_and]
          congr 1
          apply propext; omega
        · have h : ¬ c = 48 := fun e => of_decide_eq_false h (e48.mpr e)
          refine ⟨rfl, ?_⟩
          rw [decide_eq_false h]; rfl
        · rintro b s'' ⟨rfl, rfl⟩
          have np : ¬ ((c :: r : List Nat) = [] ∨ 3 < (c :: r).length ∨ digB (c :: r) = false) := by
            rintro (e | e | e)
            · cases e
            · rw [List.length_cons] at e; omega
            · rw [← hs, hd] at e; cases e
          refine br (fun h => ?_) fun h => ?_
          · repeat wtm_at "z"
            refine ⟨?_, rfl⟩
            simp only [Bool.and_eq_true, decide_eq_true_eq] at h
            unfold plainL
            rw [if_neg np, if_pos (by rw [List.head?_cons, h.1, List.length_cons]; exact ⟨rfl, by omega⟩)]
            rfl
          · repeat wtm_at "z"
            refine cv_intT (k := (PySem.NumText.digitsVal (sg z) : Nat)) ?_ (PySem.intText_digits (digB_all hd) h1 (by omega)) (by omega)
            repeat wtm_at "z"
            refine ⟨?_, rfl⟩
            have h : ¬ (c = 48 ∧ 1 < z.length) := by
              intro e
              rw [decide_eq_true e.1, decide_eq_true e.2] at h
              cases h
            unfold plainL
            rw [if_neg np, if_neg ?_, hs]
            · rfl
            · rw [List.head?_cons, List.length_cons]
              rintro ⟨e1, e2⟩
              exact h ⟨Option.some.inj e1, by omega⟩
theorem sIx_none (n d : Nat) : HT.sIx n d none = d := rfl
theorem sg_cut (z : Str) (lo hi : Option Int) : sg (cutS z lo hi) = ((sg z).drop (HT.sIx z.length 0 lo)).take (HT.sIx z.length z.length hi - HT.sIx z.length 0 lo) := by
  unfold cutS sg
  simp
theorem sg_cutT (z : Str) (k : Nat) : sg (cutS z none (some (k : Int))) = (sg z).take k := by
  rw [sg_cut, sIx_none, HT.sIx_nat, List.drop_zero, Nat.sub_zero, ← sg_len]
  by_cases h : k ≤ (sg z).length
  · rw [Nat.min_eq_left h]
  · rw [Nat.min_eq_right (by omega), List.take_of_length_le (Nat.le_refl _), List.take_of_length_le (by omega)]
theorem sg_cutD (z : Str) (k : Nat) : sg (cutS z (some (k : Int)) none) = (sg z).drop k := by
  rw [sg_cut, sIx_none, HT.sIx_nat, ← sg_len]
  by_cases h : k ≤ (sg z).length
  · rw [Nat.min_eq_left h]
    exact List.take_of_length_le (by simp)
  · rw [Nat.min_eq_right (by omega)]
    simp
    omega
theorem ok_cut {z : Str} (h : Ok z) (lo hi : Option Int) : Ok (cutS z lo hi) := by
  refine ⟨fun c hc => h.cp c ?_, Nat.le_trans (cutS_length z lo hi) h.len⟩
  have hc : c ∈ sg (cutS z lo hi) := hc
  rw [sg_cut] at hc
  exact List.mem_of_mem_drop (List.mem_of_mem_take hc)
theorem sg_dash : sg (Str.ofString "-") = [45] := by decide +kernel
theorem number_eq (z : Str) (hz : Ok z) (s : Dk) : m_number_of [.d (.str z)] s = .ok (.d (optI (numW (sg z)))) s := by
  refine w_eq ?_
  have hl := hz.sz
  unfold m_number_of b_number_of
  repeat wtm_at "z"
  refine uv_tsl ?_ hl
  repeat wtm_at "z"
  refine bv_neX (ok_cut hz _ _).cp (ok_lit "-").cp ?_
  have e1 : (cutS z none (some 1) = Str.ofString "-") ↔ (sg z).take 1 = [45] := by
    rw [← sg_dash]
    constructor
    · intro h; rw [← sg_cutT, ← h]; rfl
    · intro h; exact sg_ext (by rw [← h]; exact sg_cutT z 1)
  repeat wtm_at "z"
  refine br_ndec (fun h => ?_) fun h => ?_
  · have h : ¬ (sg z).take 1 = [45] := fun e => h (e1.mpr e)
    repeat wtm_at "z"
    refine w_of (plain_eq z hz s) ?_
    repeat wtm_at "z"
    refine ⟨?_, rfl⟩
    have : numW (sg z) = plainL (sg z) := by
      unfold numW
      split
      · rename_i r hr
        rw [hr] at h
        exact absurd rfl h
      · rfl
    rw [this]
  · have h := e1.mp h
    obtain ⟨r, hr⟩ : ∃ r, sg z = 45 :: r := by
      cases hs : sg z with
      | nil => rw [hs] at h; cases h
      | cons c r =>
        rw [hs] at h
        have : c = 45 := by simpa using h
        exact ⟨r, by rw [this]⟩
    repeat wtm_at "z"
    refine uv_tsl ?_ hl
    repeat wtm_at "z"
    refine w_of (plain_eq _ (ok_cut hz _ _) s) ?_
    have e2 : sg (cutS z (some 1) none) = r := by
      have := sg_cutD z 1
      rw [hr] at this
      exact this
    rw [e2]
    have e3 : numW (sg z) = match plainL r with
      | some n => if n = 0 then none else some (0 - n)
      | none => none := by rw [hr]; rfl
    rw [e3]
    cases hp : plainL r with
    | none =>
      simp only [optI]
      repeat wtm_at "z"
      refine bv (r := .bool true) rfl ?_
      repeat wtm_at "z"
      exact ⟨rfl, rfl⟩
    | some n =>
      simp only [optI]
      repeat wtm_at "z"
      refine bv (r := .bool false) rfl ?_
      repeat wtm_at "z"
      refine br_dec (fun h0 => ?_) fun h0 => ?_
      · repeat wtm_at "z"
        rw [if_pos h0]
        exact ⟨rfl, rfl⟩
      · repeat wtm_at "z"
        rw [if_neg h0]
        exact ⟨rfl, rfl⟩
structure OkL (ws : List Str) : Prop where
  ok : ∀ z ∈ ws, Ok z
  len : ws.length ≤ 100002
def takeP (ws : List Str) (k : Nat) (lo hi : Int) : Option Int := (ws[k]?.bind fun z => numW (sg z)).filter fun n => decide (lo ≤ n ∧ n ≤ hi)
abbrev wsD (ws : List Str) : PyData := .list (ws.map .str)
def badX (line at_ : Int) : Exn := ⟨"BadText", [("line", .int line), ("word", .int at_)]⟩
theorem take_w {T : Exn → Dk → Prop} {Q : Val → Dk → Prop} (ws : List Str) (hws : OkL ws) (k : Nat) (line lo hi : Int) (s : Dk) (h1 : ∀ n, takeP ws k lo hi = some n → lo ≤ n → n ≤ hi → Q (.d (.int n)) s) (h2 : takeP ws k lo hi = none → T (badX line k) s) :
    WT T (m_take [.d (wsD ws), .d (.int k), .d (.int line), .d (.int lo), .d (.int hi)] s) Q := by
  unfold m_take b_take wsD
  repeat wtm_at "z"
  refine br_dec (fun hk => ?_) fun hk => ?_
  · rw [List.length_map] at hk
    have hk : k < ws.length := by omega
    repeat wtm_at "z"
    refine bv (op := opIx) (r := .str ws[k]) ?_ ?_
    · show L2.atI (ws.map PyData.str) (k : Int) = _
      rw [DL.atI_nat, List.getElem?_map, List.getElem?_eq_getElem hk]
      rfl
    repeat wtm_at "z"
    refine w_of (number_eq _ (hws.ok _ (List.getElem_mem hk)) s) ?_
    have tk0 : takeP ws k lo hi = (numW (sg ws[k])).filter fun n => decide (lo ≤ n ∧ n ≤ hi) := by
      unfold takeP
      rw [List.getElem?_eq_getElem hk]; rfl
    generalize numW (sg ws[k]) = o at tk0
    cases o with
    | none =>
      simp only [optI]
      repeat wtm_at "z"
      refine bv (r := .bool true) rfl ?_
      repeat wtm_at "z"
      exact h2 tk0
    | some n =>
      have tk : takeP ws k lo hi = if lo ≤ n ∧ n ≤ hi then some n else none := by
        rw [tk0]
        by_cases hc : lo ≤ n ∧ n ≤ hi
        · rw [if_pos hc]; simp [Option.filter, hc]
        · rw [if_neg hc]
          show (if decide (lo ≤ n ∧ n ≤ hi) = true then some n else none) = none
          rw [decide_eq_false hc]; rfl
      simp only [optI]
      repeat wtm_at "z"
      refine bv (r := .bool false) rfl ?_
      repeat wtm_at "z"
      refine br_dec (fun hc => ?_) fun hc => ?_
      · repeat wtm_at "z"
        refine h2 ?_
        rw [tk, if_neg (by omega)]
      · repeat wtm_at "z"
        refine br_dec (fun hd => ?_) fun hd => ?_
        · repeat wtm_at "z"
          refine h2 ?_
          rw [tk, if_neg (by omega)]
        · repeat wtm_at "z"
          refine h1 n ?_ (by omega) (by omega)
          rw [tk, if_pos (by omega)]
  · rw [List.length_map] at hk
    repeat wtm_at "z"
    refine bv (r := .bool true) rfl ?_
    repeat wtm_at "z"
    refine h2 ?_
    unfold takeP
    rw [List.getElem?_eq_none (by omega)]; rfl
theorem lcountT_eq (ws : List PyData) (room : Int) (zs : List PyData) (pat look : Int) (hr : 0 ≤ room ∧ room < 1000) (hz : zs.length < 1000) (hl : 0 ≤ look ∧ look < 1000) (s : Dk) :
    m__law_count [.d (.tuple ws), .d (.int room), .d (.tuple zs), .d (.int pat), .d (.int look)] s = .ok (.d (.int (cntL ws.length room zs.length pat look))) s := by
  refine w_eq ?_
  unfold m__law_count b__law_count
  repeat wtm_at "z"
  refine for_inv (fun n ρ s' => s' = s ∧ ∃ x, ρ = [.v (.d (.tuple ws)), .v (.d (.int room)), .v (.d (.tuple zs)), .v (.d (.int pat)), .v (.d (.int look)), .v (.d (.int ((pat + 1) * (room + 1) ^ n))), x, .no]) ws 0 ⟨rfl, .no, by simp⟩ ?_ ?_
  · rintro n d hd ρ s' ⟨rfl, x, rfl⟩
    refine ⟨_, rfl, ?_⟩
    repeat wtm_at "z"
    · refine ⟨rfl, .v (.d d), ?_⟩
      simp only [List.set_cons_zero, List.set_cons_succ]
      rw [Int.mul_assoc, ← Int.pow_succ]
    · right; omega
  · rintro ρ s' ⟨rfl, x, rfl⟩
    rw [Nat.zero_add]
    repeat wtm_at "z"
    · refine for_inv (fun n ρ s1 => s1 = s' ∧ ∃ y, ρ = [.v (.d (.tuple ws)), .v (.d (.int room)), .v (.d (.tuple zs)), .v (.d (.int pat)), .v (.d (.int look)), .v (.d (.int ((pat + 1) * (room + 1) ^ ws.length * (zs.length : Int) ^ n))), x, y]) (rngD 0 look.toNat) 0 ?_ ?_ ?_
      · exact ⟨rfl, .no, by simp⟩
      · rintro n d hd ρ s' ⟨rfl, y, rfl⟩
        refine ⟨_, rfl, ?_⟩
        repeat wtm_at "z"
        · refine ⟨rfl, .v (.d d), ?_⟩
          simp only [List.set_cons_zero, List.set_cons_succ]
          rw [Int.mul_assoc, ← Int.pow_succ]
        · right; omega
      · rintro ρ s1 ⟨rfl, y, rfl⟩
        repeat wtm_at "z"
        unfold cntL
        rw [rng_len]
        simp
    · omega
theorem cstands_eq (ws : List PyData) (room : Int) (zs : List PyData) (pat look : Int) (hr : 0 ≤ room ∧ room < 1000) (hz : zs.length < 1000) (hl : 0 ≤ look ∧ look < 1000) (s : Dk) :
    m_count_stands [.d (.tuple ws), .d (.int room), .d (.tuple zs), .d (.int pat), .d (.int look)] s = .ok (.d (.int (cntL ws.length room zs.length pat look))) s := by
  refine w_eq ?_
  unfold m_count_stands b_count_stands
  repeat wtm_at "z"
  refine for_inv (fun n ρ s' => s' = s ∧ ∃ x, ρ = [.v (.d (.tuple ws)), .v (.d (.int room)), .v (.d (.tuple zs)), .v (.d (.int pat)), .v (.d (.int look)), .v (.d (.int ((pat + 1) * (room + 1) ^ n))), x, .no]) ws 0 ⟨rfl, .no, by simp⟩ ?_ ?_
  · rintro n d hd ρ s' ⟨rfl, x, rfl⟩
    refine ⟨_, rfl, ?_⟩
    repeat wtm_at "z"
    · refine ⟨rfl, .v (.d d), ?_⟩
      simp only [List.set_cons_zero, List.set_cons_succ]
      rw [Int.mul_assoc, ← Int.pow_succ]
    · right; omega
  · rintro ρ s' ⟨rfl, x, rfl⟩
    rw [Nat.zero_add]
    repeat wtm_at "z"
    · refine for_inv (fun n ρ s1 => s1 = s' ∧ ∃ y, ρ = [.v (.d (.tuple ws)), .v (.d (.int room)), .v (.d (.tuple zs)), .v (.d (.int pat)), .v (.d (.int look)), .v (.d (.int ((pat + 1) * (room + 1) ^ ws.length * (zs.length : Int) ^ n))), x, y]) (rngD 0 look.toNat) 0 ?_ ?_ ?_
      · exact ⟨rfl, .no, by simp⟩
      · rintro n d hd ρ s' ⟨rfl, y, rfl⟩
        refine ⟨_, rfl, ?_⟩
        repeat wtm_at "z"
        · refine ⟨rfl, .v (.d d), ?_⟩
          simp only [List.set_cons_zero, List.set_cons_succ]
          rw [Int.mul_assoc, ← Int.pow_succ]
        · right; omega
      · rintro ρ s1 ⟨rfl, y, rfl⟩
        repeat wtm_at "z"
        unfold cntL
        rw [rng_len]
        simp
    · omega
/-- the numbers of a row, from the k-th word on: lim tells the bounds -/
def rowG (lim : Nat → List Int → Option (Int × Int)) (ws : List Str) : Nat → Nat → List Int → Except Nat (List Int)
  | 0, _, acc => .ok acc
  | n + 1, k, acc => match lim k acc with
    | none => .error k
    | some b => match takeP ws k b.1 b.2 with
      | none => .error k
      | some x => rowG lim ws n (k + 1) (acc ++ [x])
theorem rowG_no {lim : Nat → List Int → Option (Int × Int)} {ws : List Str} {n k : Nat} {acc : List Int} (h : lim k acc = none) : rowG lim ws (n + 1) k acc = .error k := by unfold rowG; rw [h]
theorem rowG_bad {lim : Nat → List Int → Option (Int × Int)} {ws : List Str} {n k : Nat} {acc : List Int} {lo hi : Int} (h : lim k acc = some (lo, hi)) (h2 : takeP ws k lo hi = none) : rowG lim ws (n + 1) k acc = .error k := by unfold rowG; rw [h]; dsimp only; rw [h2]
theorem rowG_ok {lim : Nat → List Int → Option (Int × Int)} {ws : List Str} {n k : Nat} {acc : List Int} {lo hi x : Int} (h : lim k acc = some (lo, hi)) (h2 : takeP ws k lo hi = some x) : rowG lim ws (n + 1) k acc = rowG lim ws n (k + 1) (acc ++ [x]) := by
  conv => lhs; unfold rowG
  rw [h]; dsimp only; rw [h2]
def limW : Nat → List Int → Option (Int × Int) := fun k _ => if k ≤ 6 then some (0 - 9, 9) else none
def limS (room : Int) : Nat → List Int → Option (Int × Int) := fun _ acc => some ((match acc.getLast? with
  | some x => x + 1
  | none => 1), room)
def limB : Nat → List Int → Option (Int × Int) := fun k _ => if k = 1 then some (0 - 60, 0) else if k = 2 then some (0, 60) else none
def limO (most : Int) : Nat → List Int → Option (Int × Int) := fun k _ => if k = 1 then some (1, most) else none
def rowW (ws : List Str) : Except Nat (List Int) := rowG limW ws (max (ws.length - 1) 2) 1 []
def rowS (room : Int) (ws : List Str) : Except Nat (List Int) := rowG (limS room) ws (max (ws.length - 1) 1) 1 []
def rowB (ws : List Str) : Except Nat (List Int) := rowG limB ws (max (ws.length - 1) 2) 1 []
def rowO (most : Int) (ws : List Str) : Except Nat (List Int) := rowG (limO most) ws (max (ws.length - 1) 1) 1 []
theorem atI_lastX {α : Type} (xs : List α) (x : α) : L2.atI (xs ++ [x]) (-1) = some x := by
  unfold L2.atI L2.ixN
  rw [if_neg (by decide), if_pos (by rw [List.length_append, List.length_singleton]; omega), Option.bind_some]
  have e : (-1 + ((xs ++ [x]).length : Int)).toNat = xs.length := by rw [List.length_append, List.length_singleton]; omega
  rw [e]
  simp
theorem weights_w {T : Exn → Dk → Prop} {Q : Val → Dk → Prop} (ws : List Str) (hws : OkL ws) (s : Dk) (h1 : ∀ l, rowW ws = .ok l → Q (.d (iT l)) s) (h2 : ∀ k : Nat, rowW ws = .error k → T (badX 0 k) s) : WT T (m_read_weights [.d (wsD ws)] s) Q := by
  unfold m_read_weights b_read_weights
  repeat wtm_at "z"
  obtain ⟨N, hN⟩ : ∃ N, max (ws.length - 1) 2 = N + 2 := ⟨max (ws.length - 1) 2 - 2, by omega⟩
  have e0 : rowW ws = rowG limW ws (N + 2) 1 [] := by unfold rowW; rw [hN]
  refine take_w ws hws 1 0 (0 - 9) 9 s (fun a ha la ua => ?_) fun e => h2 1 (by rw [e0]; exact rowG_bad rfl e)
  repeat wtm_at "z"
  have e1 : rowW ws = rowG limW ws (N + 1) 2 [a] := by rw [e0]; exact rowG_ok rfl ha
  refine take_w ws hws 2 0 (0 - 9) 9 s (fun b hb lb ub => ?_) fun e => h2 2 (by rw [e1]; exact rowG_bad rfl e)
  have e2 : rowW ws = rowG limW ws N 3 [a, b] := by rw [e1]; exact rowG_ok rfl hb
  repeat wtm_at "z"
  · rw [List.length_map]
    refine for_inv (fun n ρ s' => s' = s ∧ ∃ acc y, acc.length = 2 + n ∧ 2 + n ≤ 6 ∧ ρ = [.v (.d (wsD ws)), .l (acc.map .int), y] ∧ rowW ws = rowG limW ws (N - n) (3 + n) acc) (rngD 3 ((ws.length : Int) - 3).toNat) 0 ?_ ?_ ?_
    · exact ⟨rfl, [a, b], .no, rfl, by omega, rfl, e2⟩
    · rintro n d hd ρ s' ⟨rfl, acc, y, hl, h6, rfl, hr⟩
      obtain ⟨hn, rfl⟩ := rng_at hd
      have hNn : N - (0 + n) = (N - (0 + n) - 1) + 1 := by omega
      rw [hNn] at hr
      refine ⟨_, rfl, ?_⟩
      repeat wtm_at "z"
      rw [List.length_map]
      refine br_dec (fun h => ?_) fun h => ?_
      · have hn4 : n = 4 := by omega
        repeat wtm_at "z"
        have := h2 (3 + (0 + n)) (by rw [hr]; exact rowG_no (by unfold limW; rw [if_neg (by omega)]))
        have e : ((3 + (0 + n) : Nat) : Int) = 3 + (n : Int) := by omega
        rw [e] at this
        exact this
      · have hn3 : n ≤ 3 := by omega
        have hl' : limW (3 + (0 + n)) acc = some (0 - 9, 9) := by unfold limW; rw [if_pos (by omega)]
        repeat wtm_at "z"
        have ek : (3 + (n : Int)) = ((3 + (0 + n) : Nat) : Int) := by omega
        rw [ek]
        refine take_w ws hws (3 + (0 + n)) 0 (0 - 9) 9 s' (fun x hx lx ux => ?_) fun e => h2 (3 + (0 + n)) (by rw [hr]; exact rowG_bad hl' e)
        repeat wtm_at "z"
        refine ⟨_, rfl, ?_, ?_⟩
        · rw [List.length_map]; have := sizeLine_big; omega
        · repeat wtm_at "z"
          refine ⟨rfl, acc ++ [x], _, by rw [List.length_append, hl]; simp; omega, by omega, by rw [List.map_append]; rfl, ?_⟩
          rw [hr, rowG_ok hl' hx]
          congr 1
    · rintro ρ s' ⟨rfl, acc, y, hl, h6, rfl, hr⟩
      rw [rng_len] at hr
      have hz : N - (0 + ((ws.length : Int) - 3).toNat) = 0 := by omega
      rw [hz] at hr
      repeat wtm_at "z"
      exact h1 acc hr
  · rw [List.length_map]
    have := hws.len
    omega
theorem sizes_w {T : Exn → Dk → Prop} {Q : Val → Dk → Prop} (ws : List Str) (hws : OkL ws) (room : Int) (s : Dk) (h1 : ∀ l, rowS room ws = .ok l → Q (.d (iT l)) s) (h2 : ∀ k : Nat, rowS room ws = .error k → T (badX 2 k) s) : WT T (m_read_sizes [.d (wsD ws), .d (.int room)] s) Q := by
  unfold m_read_sizes b_read_sizes
  repeat wtm_at "z"
  obtain ⟨N, hN⟩ : ∃ N, max (ws.length - 1) 1 = N + 1 := ⟨max (ws.length - 1) 1 - 1, by omega⟩
  have e0 : rowS room ws = rowG (limS room) ws (N + 1) 1 [] := by unfold rowS; rw [hN]
  refine take_w ws hws 1 2 1 room s (fun a ha la ua => ?_) fun e => h2 1 (by rw [e0]; exact rowG_bad rfl e)
  repeat wtm_at "z"
  have e1 : rowS room ws = rowG (limS room) ws N 2 [a] := by rw [e0]; exact rowG_ok rfl ha
  · rw [List.length_map]
    refine for_inv (fun n ρ s' => s' = s ∧ ∃ acc x y, acc.length + 1 = 1 + n ∧ ρ = [.v (.d (wsD ws)), .v (.d (.int room)), .l ((acc ++ [x]).map .int), y] ∧ rowS room ws = rowG (limS room) ws (N - n) (2 + n) (acc ++ [x])) (rngD 2 ((ws.length : Int) - 2).toNat) 0 ?_ ?_ ?_
    · exact ⟨rfl, [], a, .no, rfl, rfl, e1⟩
    · rintro n d hd ρ s' ⟨rfl, acc, x, y, hl, rfl, hr⟩
      obtain ⟨hn, rfl⟩ := rng_at hd
      have hNn : N - (0 + n) = (N - (0 + n) - 1) + 1 := by omega
      rw [hNn] at hr
      refine ⟨_, rfl, ?_⟩
      have hl' : limS room (2 + (0 + n)) (acc ++ [x]) = some (x + 1, room) := by unfold limS; simp
      repeat wtm_at "z"
      refine bv (op := opIx) (r := .int x) ?_ ?_
      · show L2.atI ((acc ++ [x]).map PyData.int) (-1) = _
        rw [List.map_append]
        exact atI_lastX _ _
      repeat wtm_at "z"
      have ek : (2 + (n : Int)) = ((2 + (0 + n) : Nat) : Int) := by omega
      rw [ek]
      refine take_w ws hws (2 + (0 + n)) 2 (x + 1) room s' (fun z hz lz uz => ?_) fun e => h2 (2 + (0 + n)) (by rw [hr]; exact rowG_bad hl' e)
      repeat wtm_at "z"
      refine ⟨_, rfl, ?_, ?_⟩
      · rw [List.length_map, List.length_append]; have := sizeLine_big; have := hws.len; simp; omega
      · repeat wtm_at "z"
        refine ⟨rfl, acc ++ [x], z, .v (.d (.int (2 + (n : Int)))), by rw [List.length_append]; simp; omega, by simp, ?_⟩
        rw [hr, rowG_ok hl' hz]
        congr 1
    · rintro ρ s' ⟨rfl, acc, x, y, hl, rfl, hr⟩
      rw [rng_len] at hr
      have hz : N - (0 + ((ws.length : Int) - 2).toNat) = 0 := by omega
      rw [hz] at hr
      repeat wtm_at "z"
      exact h1 _ hr
  · rw [List.length_map]
    have := hws.len
    omega
theorem bounds_w {T : Exn → Dk → Prop} {Q : Val → Dk → Prop} (ws : List Str) (hws : OkL ws) (s : Dk) (h1 : ∀ lo hi, rowB ws = .ok [lo, hi] → Q (.d (iT [lo, hi])) s) (h2 : ∀ k : Nat, rowB ws = .error k → T (badX 3 k) s) : WT T (m_read_bounds [.d (wsD ws)] s) Q := by
  unfold m_read_bounds b_read_bounds
  repeat wtm_at "z"
  obtain ⟨N, hN⟩ : ∃ N, max (ws.length - 1) 2 = N + 2 := ⟨max (ws.length - 1) 2 - 2, by omega⟩
  have e0 : rowB ws = rowG limB ws (N + 2) 1 [] := by unfold rowB; rw [hN]
  refine take_w ws hws 1 3 (0 - 60) 0 s (fun a ha la ua => ?_) fun e => h2 1 (by rw [e0]; exact rowG_bad rfl e)
  repeat wtm_at "z"
  have e1 : rowB ws = rowG limB ws (N + 1) 2 [a] := by rw [e0]; exact rowG_ok rfl ha
  refine take_w ws hws 2 3 0 60 s (fun b hb lb ub => ?_) fun e => h2 2 (by rw [e1]; exact rowG_bad rfl e)
  have e2 : rowB ws = rowG limB ws N 3 [a, b] := by rw [e1]; exact rowG_ok rfl hb
  repeat wtm_at "z"
  rw [List.length_map]
  refine br_dec (fun h => ?_) fun h => ?_
  · repeat wtm_at "z"
    refine h2 3 ?_
    obtain ⟨M, rfl⟩ : ∃ M, N = M + 1 := ⟨N - 1, by omega⟩
    rw [e2]
    exact rowG_no rfl
  · repeat wtm_at "z"
    refine h1 a b ?_
    have : N = 0 := by omega
    rw [e2, this]
    rfl
theorem one_w {T : Exn → Dk → Prop} {Q : Val → Dk → Prop} (ws : List Str) (hws : OkL ws) (line most : Int) (found : PyData) (hline : line = 1 ∨ line = 4) (s : Dk) (h1 : ∀ n, rowO most ws = .ok [n] → Q (.d (.int n)) s) (h2 : ∀ k : Nat, rowO most ws = .error k → T (badX line k) s) :
    WT T (m_read_one [.d (wsD ws), .d (.int line), .d (.int most), .d found] s) Q := by
  unfold m_read_one b_read_one
  repeat wtm_at "z"
  obtain ⟨N, hN⟩ : ∃ N, max (ws.length - 1) 1 = N + 1 := ⟨max (ws.length - 1) 1 - 1, by omega⟩
  have e0 : rowO most ws = rowG (limO most) ws (N + 1) 1 [] := by unfold rowO; rw [hN]
  refine take_w ws hws 1 line 1 most s (fun a ha la ua => ?_) fun e => h2 1 (by rw [e0]; exact rowG_bad rfl e)
  have e1 : rowO most ws = rowG (limO most) ws N 2 [a] := by rw [e0]; exact rowG_ok rfl ha
  repeat wtm_at "z"
  refine br_dec (fun h => ?_) fun h => ?_
  · omega
  · repeat wtm_at "z"
    rw [List.length_map]
    refine br_dec (fun h => ?_) fun h => ?_
    · repeat wtm_at "z"
      refine h2 2 ?_
      obtain ⟨M, rfl⟩ : ∃ M, N = M + 1 := ⟨N - 1, by omega⟩
      rw [e1]
      exact rowG_no rfl
    · repeat wtm_at "z"
      refine h1 a ?_
      have : N = 0 := by omega
      rw [e1, this]
      rfl
/-- the last row: how many stands there would be -/
theorem one5_w {T : Exn → Dk → Prop} {Q : Val → Dk → Prop} (ws : List Str) (hws : OkL ws) (wl : List Int) (room : Int) (zs : List Int) (bd : PyData) (pat : Int) (hr : 0 ≤ room ∧ room < 1000) (hz : zs.length < 1000) (s : Dk)
    (h0 : ∀ n, takeP ws 1 1 3 = some n → 2000 < cntL wl.length room zs.length pat n → T (badX 5 1) s) (h1 : ∀ n, rowO 3 ws = .ok [n] → cntL wl.length room zs.length pat n ≤ 2000 → Q (.d (.int n)) s)
    (h2 : ∀ k : Nat, rowO 3 ws = .error k → (∀ n, takeP ws 1 1 3 = some n → cntL wl.length room zs.length pat n ≤ 2000) → T (badX 5 k) s) :
    WT T (m_read_one [.d (wsD ws), .d (.int 5), .d (.int 3), .d (.list [iT wl, .int room, iT zs, bd, .int pat])] s) Q := by
  unfold m_read_one b_read_one
  repeat wtm_at "z"
  obtain ⟨N, hN⟩ : ∃ N, max (ws.length - 1) 1 = N + 1 := ⟨max (ws.length - 1) 1 - 1, by omega⟩
  have e0 : rowO 3 ws = rowG (limO 3) ws (N + 1) 1 [] := by unfold rowO; rw [hN]
  refine take_w ws hws 1 5 1 3 s (fun a ha la ua => ?_) fun e => h2 1 (by rw [e0]; exact rowG_bad rfl e) (fun n hn => by rw [e] at hn; cases hn)
  have e1 : rowO 3 ws = rowG (limO 3) ws N 2 [a] := by rw [e0]; exact rowG_ok rfl ha
  repeat wtm_at "z"
  refine br_dec (fun h => ?_) fun h => absurd rfl h
  repeat wtm_at "z"
  refine w_of (cstands_eq _ _ _ _ _ hr (by rw [List.length_map]; exact hz) (by omega) s) ?_
  rw [List.length_map, List.length_map]
  repeat wtm_at "z"
  refine br_dec (fun h => ?_) fun h => ?_
  · repeat wtm_at "z"
    exact h0 a ha h
  · repeat wtm_at "z"
    rw [List.length_map]
    have hc : ∀ n, takeP ws 1 1 3 = some n → cntL wl.length room zs.length pat n ≤ 2000 := fun n hn => by
      rw [ha] at hn; cases hn; omega
    refine br_dec (fun h => ?_) fun h => ?_
    · repeat wtm_at "z"
      refine h2 2 ?_ hc
      obtain ⟨M, rfl⟩ : ∃ M, N = M + 1 := ⟨N - 1, by omega⟩
      rw [e1]
      exact rowG_no rfl
    · repeat wtm_at "z"
      refine h1 a ?_ (by omega)
      have : N = 0 := by omega
      rw [e1, this]
      rfl
/-- what the text lines have told so far -/
structure Pt where
  ws : List Int
  room : Int
  zs : List Int
  b : List Int
  pat : Int
  look : Int
def Pt.all (p : Pt) : List PyData := [iT p.ws, .int p.room, iT p.zs, iT p.b, .int p.pat, .int p.look]
def p0 : Pt := ⟨[], 1, [], [], 1, 1⟩
structure GoodPt (p : Pt) : Prop where
  room : 1 ≤ p.room ∧ p.room ≤ 4
  zs : p.zs.length ≤ 4
def nameOf : Nat → Str
  | 0 => "weights"
  | 1 => "room"
  | 2 => "sizes"
  | 3 => "bounds"
  | 4 => "patience"
  | _ => "look"
def rowE {α : Type} (k : Nat) (r : Except Nat (List Int)) (f : List Int → α) : Except (Int × Int) α := match r with
  | .ok l => .ok (f l)
  | .error j => .error (k, j)
def crowd (p : Pt) (ws : List Str) : Bool := match takeP ws 1 1 3 with
  | some n => decide (2000 < cntL p.ws.length p.room p.zs.length p.pat n)
  | none => false
def lineQ (k : Nat) (p : Pt) (ws : List Str) : Except (Int × Int) Pt := match k with
  | 0 => rowE 0 (rowW ws) fun l => { p with ws := l }
  | 1 => rowE 1 (rowO 4 ws) fun l => { p with room := l.headD 1 }
  | 2 => rowE 2 (rowS p.room ws) fun l => { p with zs := l }
  | 3 => rowE 3 (rowB ws) fun l => { p with b := l }
  | 4 => rowE 4 (rowO 6 ws) fun l => { p with pat := l.headD 1 }
  | _ => if crowd p ws then .error (5, 1) else rowE 5 (rowO 3 ws) fun l => { p with look := l.headD 1 }
def lineR (k : Nat) (p : Pt) (ws : List Str) : Except (Int × Int) Pt := if ws.head? ≠ some (nameOf k) then .error (k, 0) else lineQ k p ws
theorem rowG_range {lim : Nat → List Int → Option (Int × Int)} {ws : List Str} (P : List Int → Prop) (hs : ∀ k acc lo hi x, lim k acc = some (lo, hi) → P acc → lo ≤ x → x ≤ hi → P (acc ++ [x])) : ∀ (n k : Nat) (acc : List Int) (l : List Int), P acc → rowG lim ws n k acc = .ok l → P l
  | 0, k, acc, l, h, e => by cases e; exact h
  | n + 1, k, acc, l, h, e => by
    cases hl : lim k acc with
    | none => rw [rowG_no hl] at e; cases e
    | some b =>
      obtain ⟨lo, hi⟩ := b
      cases ht : takeP ws k lo hi with
      | none => rw [rowG_bad hl ht] at e; cases e
      | some x =>
        rw [rowG_ok hl ht] at e
        have hx : lo ≤ x ∧ x ≤ hi := by
          unfold takeP at ht
          have := Option.filter_eq_some_iff.mp ht
          exact of_decide_eq_true this.2
        exact rowG_range P hs n (k + 1) _ l (hs k acc lo hi x hl h hx.1 hx.2) e
theorem rowS_len {room : Int} {ws : List Str} {l : List Int} (hr : 0 ≤ room) (h : rowS room ws = .ok l) : (l.length : Int) ≤ room := by
  have := rowG_range (lim := limS room) (ws := ws) (fun acc => (∀ x, acc.getLast? = some x → (acc.length : Int) ≤ x ∧ x ≤ room) ∧ (acc.getLast? = none → acc = [])) (fun k acc lo hi x hl hP h1 h2 => by
    refine ⟨fun y hy => ?_, fun hy => ?_⟩
    · rw [List.getLast?_append] at hy
      have hy : x = y := by simpa using hy
      subst hy
      unfold limS at hl
      injection hl with hl
      injection hl with e1 e2
      subst e2
      cases hg : acc.getLast? with
      | none =>
        rw [hg] at e1
        have := hP.2 hg
        subst this
        simp at e1 ⊢
        omega
      | some z =>
        rw [hg] at e1
        have := hP.1 z hg
        simp at e1 ⊢
        omega
    · simp at hy) _ _ _ _ ⟨by simp, by simp⟩ h
  cases hg : l.getLast? with
  | none => rw [this.2 hg]; simpa using hr
  | some z => have := this.1 z hg; omega
theorem rowO_one {most : Int} {ws : List Str} {l : List Int} (h : rowO most ws = .ok l) : ∃ n, l = [n] ∧ 1 ≤ n ∧ n ≤ most := by
  unfold rowO at h
  obtain ⟨N, hN⟩ : ∃ N, max (ws.length - 1) 1 = N + 1 := ⟨max (ws.length - 1) 1 - 1, by omega⟩
  rw [hN] at h
  have hl : limO most 1 [] = some (1, most) := rfl
  cases ht : takeP ws 1 1 most with
  | none => rw [rowG_bad hl ht] at h; cases h
  | some x =>
    rw [rowG_ok hl ht] at h
    have hx : 1 ≤ x ∧ x ≤ most := by
      unfold takeP at ht
      have := Option.filter_eq_some_iff.mp ht
      exact of_decide_eq_true this.2
    cases N with
    | zero => cases h; exact ⟨x, rfl, hx⟩
    | succ N => rw [rowG_no rfl] at h; cases h
theorem lineR_good {k : Nat} {p p' : Pt} {ws : List Str} (hp : GoodPt p) (h : lineR k p ws = .ok p') : GoodPt p' := by
  unfold lineR at h
  split at h
  · cases h
  · unfold lineQ at h
    split at h
    · unfold rowE at h
      split at h
      · cases h; exact ⟨hp.room, hp.zs⟩
      · cases h
    · unfold rowE at h
      split at h
      · rename_i l hl
        obtain ⟨n, rfl, h1, h2⟩ := rowO_one hl
        cases h; exact ⟨⟨h1, h2⟩, hp.zs⟩
      · cases h
    · unfold rowE at h
      split at h
      · rename_i l hl
        have hr := hp.room
        have := rowS_len (by omega) hl
        cases h; exact ⟨hp.room, by show l.length ≤ 4; omega⟩
      · cases h
    · unfold rowE at h
      split at h
      · cases h; exact ⟨hp.room, hp.zs⟩
      · cases h
    · unfold rowE at h
      split at h
      · cases h; exact ⟨hp.room, hp.zs⟩
      · cases h
    · split at h
      · cases h
      · unfold rowE at h
        split at h
        · cases h; exact ⟨hp.room, hp.zs⟩
        · cases h
theorem rline_w {T : Exn → Dk → Prop} {Q : Val → Dk → Prop} (k : Nat) (hk : k < 6) (p : Pt) (hp : GoodPt p) (ws : List Str) (hws : OkL ws) (hne : ws ≠ []) (s : Dk) (h1 : ∀ p', lineR k p ws = .ok p' → ∀ d, p'.all[k]? = some d → (∀ j, j < k → p'.all[j]? = p.all[j]?) → Q (.d d) s) (h2 : ∀ e, lineR k p ws = .error e → T (badX e.1 e.2) s) :
    WT T (m_read_line [.d (wsD ws), .d (.int k), .d (.list (p.all.take k))] s) Q := by
  obtain ⟨z, r, rfl⟩ : ∃ z r, ws = z :: r := by
    cases ws with
    | nil => exact absurd rfl hne
    | cons z r => exact ⟨z, r, rfl⟩
  have cz := (hws.ok z (by simp)).cp
  have hno : z ≠ nameOf k → T (badX k 0) s := fun h => h2 ((k : Int), 0) (by
    unfold lineR
    rw [if_pos (by simpa using h)])
  have hyes : z = nameOf k → lineR k p (z :: r) = lineQ k p (z :: r) := fun h => by
    unfold lineR
    rw [if_neg (by simp [h])]
  have hr := hp.room
  have hzl := hp.zs
  have hk' : k = 0 ∨ k = 1 ∨ k = 2 ∨ k = 3 ∨ k = 4 ∨ k = 5 := by omega
  unfold m_read_line b_read_line
  rcases hk' with rfl | rfl | rfl | rfl | rfl | rfl
  · show WT T (runF 0 _ [.d (.list (.str z :: r.map .str)), .d (.int 0), .d (.list [])] s) Q
    repeat wtm_at "z"
    refine bv_neX cz (ok_lit "weights").cp ?_
    repeat wtm_at "z"
    refine br_ndec (fun h => ?_) fun h => ?_
    · repeat wtm_at "z"
      exact hno h
    · have e := hyes h
      repeat wtm_at "z"
      refine br_dec (fun h => ?_) fun h => absurd rfl h
      repeat wtm_at "z"
      refine weights_w (z :: r) hws s (fun l hl => ?_) fun j hj => h2 (0, j) (by rw [e]; unfold lineQ; rw [hj]; rfl)
      repeat wtm_at "z"
      exact h1 { p with ws := l } (by rw [e]; unfold lineQ; rw [hl]; rfl) _ rfl (fun j hj => by omega)
  · show WT T (runF 0 _ [.d (.list (.str z :: r.map .str)), .d (.int 1), .d (.list [iT p.ws])] s) Q
    repeat wtm_at "z"
    refine bv_neX cz (ok_lit "room").cp ?_
    repeat wtm_at "z"
    refine br_ndec (fun h => ?_) fun h => ?_
    · repeat wtm_at "z"
      exact hno h
    · have e := hyes h
      repeat wtm_at "z"
      refine br_dec (fun h => ?_) fun h => ?_
      · omega
      repeat wtm_at "z"
      refine br_dec (fun h => ?_) fun h => ?_
      · omega
      repeat wtm_at "z"
      refine br_dec (fun h => ?_) fun h => ?_
      · omega
      repeat wtm_at "z"
      refine one_w (z :: r) hws 1 4 _ (.inl rfl) s (fun n hl => ?_) fun j hj => h2 (1, j) (by rw [e]; unfold lineQ; rw [hj]; rfl)
      repeat wtm_at "z"
      refine h1 { p with room := n } (by rw [e]; unfold lineQ; rw [hl]; rfl) _ rfl (fun j hj => ?_)
      have : j = 0 := by omega
      subst this; rfl
  · show WT T (runF 0 _ [.d (.list (.str z :: r.map .str)), .d (.int 2), .d (.list [iT p.ws, .int p.room])] s) Q
    repeat wtm_at "z"
    refine bv_neX cz (ok_lit "sizes").cp ?_
    repeat wtm_at "z"
    refine br_ndec (fun h => ?_) fun h => ?_
    · repeat wtm_at "z"
      exact hno h
    · have e := hyes h
      repeat wtm_at "z"
      refine br_dec (fun h => ?_) fun h => ?_
      · omega
      repeat wtm_at "z"
      refine br_dec (fun h => ?_) fun h => absurd rfl h
      repeat wtm_at "z"
      refine sizes_w (z :: r) hws p.room s (fun l hl => ?_) fun j hj => h2 (2, j) (by rw [e]; unfold lineQ; rw [hj]; rfl)
      repeat wtm_at "z"
      refine h1 { p with zs := l } (by rw [e]; unfold lineQ; rw [hl]; rfl) _ rfl (fun j hj => ?_)
      have : j = 0 ∨ j = 1 := by omega
      rcases this with rfl | rfl <;> rfl
  · show WT T (runF 0 _ [.d (.list (.str z :: r.map .str)), .d (.int 3), .d (.list [iT p.ws, .int p.room, iT p.zs])] s) Q
    repeat wtm_at "z"
    refine bv_neX cz (ok_lit "bounds").cp ?_
    repeat wtm_at "z"
    refine br_ndec (fun h => ?_) fun h => ?_
    · repeat wtm_at "z"
      exact hno h
    · have e := hyes h
      repeat wtm_at "z"
      refine br_dec (fun h => ?_) fun h => ?_
      · omega
      repeat wtm_at "z"
      refine br_dec (fun h => ?_) fun h => ?_
      · omega
      repeat wtm_at "z"
      refine br_dec (fun h => ?_) fun h => absurd rfl h
      repeat wtm_at "z"
      refine bounds_w (z :: r) hws s (fun lo hi hl => ?_) fun j hj => h2 (3, j) (by rw [e]; unfold lineQ; rw [hj]; rfl)
      repeat wtm_at "z"
      refine h1 { p with b := [lo, hi] } (by rw [e]; unfold lineQ; rw [hl]; rfl) _ rfl (fun j hj => ?_)
      have : j = 0 ∨ j = 1 ∨ j = 2 := by omega
      rcases this with rfl | rfl | rfl <;> rfl
  · show WT T (runF 0 _ [.d (.list (.str z :: r.map .str)), .d (.int 4), .d (.list [iT p.ws, .int p.room, iT p.zs, iT p.b])] s) Q
    repeat wtm_at "z"
    refine bv_neX cz (ok_lit "patience").cp ?_
    repeat wtm_at "z"
    refine br_ndec (fun h => ?_) fun h => ?_
    · repeat wtm_at "z"
      exact hno h
    · have e := hyes h
      repeat wtm_at "z"
      refine br_dec (fun h => ?_) fun h => ?_
      · omega
      repeat wtm_at "z"
      refine br_dec (fun h => ?_) fun h => ?_
      · omega
      repeat wtm_at "z"
      refine br_dec (fun h => ?_) fun h => ?_
      · omega
      repeat wtm_at "z"
      refine one_w (z :: r) hws 4 6 _ (.inr rfl) s (fun n hl => ?_) fun j hj => h2 (4, j) (by rw [e]; unfold lineQ; rw [hj]; rfl)
      repeat wtm_at "z"
      refine h1 { p with pat := n } (by rw [e]; unfold lineQ; rw [hl]; rfl) _ rfl (fun j hj => ?_)
      have : j = 0 ∨ j = 1 ∨ j = 2 ∨ j = 3 := by omega
      rcases this with rfl | rfl | rfl | rfl <;> rfl
  · show WT T (runF 0 _ [.d (.list (.str z :: r.map .str)), .d (.int 5), .d (.list [iT p.ws, .int p.room, iT p.zs, iT p.b, .int p.pat])] s) Q
    repeat wtm_at "z"
    refine bv_neX cz (ok_lit "look").cp ?_
    repeat wtm_at "z"
    refine br_ndec (fun h => ?_) fun h => ?_
    · repeat wtm_at "z"
      exact hno h
    · have e := hyes h
      repeat wtm_at "z"
      refine br_dec (fun h => ?_) fun h => ?_
      · omega
      repeat wtm_at "z"
      refine br_dec (fun h => ?_) fun h => ?_
      · omega
      repeat wtm_at "z"
      refine br_dec (fun h => ?_) fun h => ?_
      · omega
      repeat wtm_at "z"
      have hcr : ∀ n, takeP (z :: r) 1 1 3 = some n → crowd p (z :: r) = decide (2000 < cntL p.ws.length p.room p.zs.length p.pat n) := fun n hn => by unfold crowd; rw [hn]
      have hcn : (∀ n, takeP (z :: r) 1 1 3 = some n → cntL p.ws.length p.room p.zs.length p.pat n ≤ 2000) → crowd p (z :: r) = false := fun h => by
        unfold crowd
        split
        · rename_i n hn
          have := h n hn
          exact decide_eq_false (by omega)
        · rfl
      refine one5_w (z :: r) hws p.ws p.room p.zs _ p.pat (by omega) (by omega) s (fun n hn hc => h2 (5, 1) (by rw [e]; unfold lineQ; rw [hcr n hn, decide_eq_true hc]; rfl)) (fun n hl hc => ?_) fun j hj hc => h2 (5, j) (by rw [e]; unfold lineQ; rw [hcn hc, hj]; rfl)
      repeat wtm_at "z"
      have hc' : crowd p (z :: r) = false := by
        unfold crowd
        split
        · rename_i m hm
          have hl2 := hl
          unfold rowO at hl2
          obtain ⟨N, hN⟩ : ∃ N, max ((z :: r).length - 1) 1 = N + 1 := ⟨max ((z :: r).length - 1) 1 - 1, by omega⟩
          rw [hN, rowG_ok rfl hm] at hl2
          have : m = n := by
            cases N with
            | zero => cases hl2; rfl
            | succ N => rw [rowG_no rfl] at hl2; cases hl2
          subst this
          exact decide_eq_false (by omega)
        · rfl
      refine h1 { p with look := n } (by rw [e]; unfold lineQ; rw [hc', hl]; rfl) _ rfl (fun j hj => ?_)
      have : j = 0 ∨ j = 1 ∨ j = 2 ∨ j = 3 ∨ j = 4 := by omega
      rcases this with rfl | rfl | rfl | rfl | rfl <;> rfl
theorem sg_append (a b : Str) : sg (a ++ b) = sg a ++ sg b := by
  show (a.cps ++ b.cps).toList = _
  simp [sg]
theorem sg_join (y : Str) : ∀ (ps : List Str), ∀ p ∈ ps, ∀ c ∈ sg p, c ∈ sg (Str.join y ps)
  | [], p, hp, c, hc => by cases hp
  | [q], p, hp, c, hc => by
    have : p = q := by simpa using hp
    subst this; exact hc
  | q :: q' :: r, p, hp, c, hc => by
    show c ∈ sg (q ++ y ++ Str.join y (q' :: r))
    rw [sg_append, sg_append]
    rcases List.mem_cons.mp hp with rfl | hp
    · exact List.mem_append_left _ (List.mem_append_left _ hc)
    · exact List.mem_append_right _ (sg_join y (q' :: r) p hp c hc)
theorem okl_split {t y : Str} (h : Ok t) : OkL (Txt.split t y) := by
  refine ⟨fun z hz => ⟨fun c hc => h.cp c ?_, Nat.le_trans (PyProof.Rows.part_short hz) h.len⟩, ?_⟩
  · have := sg_join y _ z hz c hc
    rw [PySem.StrLaws.join_split] at this
    exact this
  · have := PyProof.Rows.split_le t y
    have := h.len
    omega
theorem split_ne (t y : Str) : Txt.split t y ≠ [] := by
  intro e
  have := PyProof.Rows.split_pos t y
  rw [e] at this
  simp at this
def wds (r : Str) : List Str := Txt.split r " "
def goR : Nat → List Str → Pt → Except (Int × Int) Pt
  | _, [], p => .ok p
  | k, r :: rs, p => match lineR k p (wds r) with
    | .ok p' => goR (k + 1) rs p'
    | .error e => .error e
/-- the text lines, and whether the last one is ended -/
def rowsOf (t : Str) : List Str × Bool :=
  if (Txt.split t "\n").getLast? = some (Str.ofString "") ∧ 1 < (Txt.split t "\n").length then ((Txt.split t "\n").dropLast, true) else (Txt.split t "\n", false)
def endR (rows : List Str) (en : Bool) (p : Pt) : Except (Int × Int) Pt :=
  if 6 < rows.length then .error (6, 0) else if en = false ∨ rows.length < 6 then .error ((rows.length : Int), 0) else .ok p
def readR (t : Str) : Except (Int × Int) Pt := match goR 0 ((rowsOf t).1.take 6) p0 with
  | .ok p => endR (rowsOf t).1 (rowsOf t).2 p
  | .error e => .error e
theorem br_joinV {T : Exn → Dk → Prop} {b : Bool} {o : Out Dk Val} {s : Dk} {Q : Val → Dk → Prop} (P : Val → Dk → Prop) (h1 : b = true → WT T o P) (h2 : b = false → P (.d (.bool false)) s) (k : ∀ a s, P a s → Q a s) : Br b (WT T o Q) (Q (.d (.bool false)) s) :=
  br (fun e => (h1 e).mono k) fun e => k _ _ (h2 e)
theorem hardL_ints : ∀ ns : List Int, hard.hardL (ns.map PyData.int) = true
  | [] => rfl
  | n :: ns => by rw [List.map_cons, hard.hardL, hardL_ints ns]; rfl
theorem hard_iT (ns : List Int) : hard (iT ns) = true := by
  show hard.hardL _ = true
  exact hardL_ints ns
theorem hard_all (p : Pt) (k : Nat) (d : PyData) (h : p.all[k]? = some d) : hard d = true := by
  have := List.mem_of_getElem? h
  unfold Pt.all at this
  simp only [List.mem_cons, List.not_mem_nil, or_false] at this
  rcases this with rfl | rfl | rfl | rfl | rfl | rfl <;> first | exact hard_iT _ | rfl
theorem all_len (p : Pt) : p.all.length = 6 := rfl
theorem rwheel_w {T : Exn → Dk → Prop} {Q : Val → Dk → Prop} (t : Str) (ht : Ok t) (s : Dk) (h1 : ∀ p, readR t = .ok p → Q (.d (.tuple p.all)) s) (h2 : ∀ e, readR t = .error e → T (badX e.1 e.2) s) : WT T (m_read_wheel [.d (.str t)] s) Q := by
  unfold m_read_wheel b_read_wheel
  have hsz := ht.sz
  have hlen := ht.len
  have hR := okl_split (y := "\n") ht
  have hne := split_ne t "\n"
  have hsb := sizeLine_big
  repeat wtm_at "z"
  refine mv_split ?_ ⟨by decide, by omega⟩
  have hrr : rowsOf t = rowsOf t := rfl
  conv at hrr => rhs; unfold rowsOf
  have hrd : readR t = readR t := rfl
  conv at hrd => rhs; unfold readR
  generalize Txt.split t (Str.ofString "\n") = R at hR hne hrr ⊢
  obtain ⟨R0, z, rfl⟩ : ∃ R0 z, R = R0 ++ [z] := ⟨R.dropLast, R.getLast hne, (List.dropLast_concat_getLast hne).symm⟩
  have cz := (hR.ok z (by simp)).cp
  repeat wtm_at "z"
  refine bv (op := opIx) (r := .str z) ?_ ?_
  · rw [List.map_append]; exact atI_lastX _ _
  repeat wtm_at "z"
  refine bv_eqX cz (ok_lit "").cp ?_
  repeat wtm_at "z"
  have main : ∀ (rows : List Str) (en : Bool) (s' : Dk), s' = s → rowsOf t = (rows, en) → OkL rows → WT T
      ((sSeq (sFor (iRg1 (aCons (eCall oMin (aCons (eC (.int 6)) (aCons (eCall oLen (aCons (bVar 1) aNil)) aNil))) aNil)) (btN 4)
    (sApp 2 (eFnBX 3 m_read_line (aCons (eM1 opSplit (eBin opIx (bVar 1) (bVar 4)) (eC (.str " "))) (aCons (bVar 4) (aCons (bVar 2) aNil))))))
    (sSeq (sIf (tOf (eBin (opRel fun i j => decide (j < i)) (eCall oLen (aCons (bVar 1) aNil)) (eC (.int 6))))
    (sRz "BadText" ["line", "word"] (aCons (eC (.int 6)) (aCons (eC (.int 0)) aNil)))
    sNil)
    (sSeq (sIf (xOr (xNot (tOf (bVar 3))) (tOf (eBin (opRel fun i j => decide (i < j)) (eCall oLen (aCons (bVar 1) aNil)) (eC (.int 6)))))
    (sRz "BadText" ["line", "word"] (aCons (eCall oLen (aCons (bVar 1) aNil)) (aCons (eC (.int 0)) aNil)))
    sNil)
    (sRet (eCall oTuple (aCons (bVar 2) aNil)))))) [.v (.d (.str t)), .v (.d (wsD rows)), .l [], .v (.d (.bool en)), .no] s') (RtK Q) := by
    rintro rows en s' rfl hrw hrows
    rw [hrw] at hrd
    dsimp only at hrd
    repeat wtm_at "z"
    rw [List.length_map]
    refine cv (op := oMin) rfl rfl ?_
    have em : (if (rows.length : Int) < 6 then (rows.length : Int) else 6) = ((min 6 rows.length : Nat) : Int) := by
      split <;> omega
    rw [em]
    repeat wtm_at "z"
    · refine for_inv (fun n ρ s1 => s1 = s' ∧ ∃ p y, GoodPt p ∧ ρ = [.v (.d (.str t)), .v (.d (wsD rows)), .l (p.all.take n), .v (.d (.bool en)), y] ∧ goR 0 (rows.take 6) p0 = goR n ((rows.take 6).drop n) p) (rngD 0 ((min 6 rows.length : Nat) : Int).toNat) 0 ?_ ?_ ?_
      · exact ⟨rfl, p0, .no, ⟨by decide, by decide⟩, rfl, rfl⟩
      · rintro n d hd ρ s1 ⟨rfl, p, y, hp, rfl, hg⟩
        obtain ⟨hn, rfl⟩ := rng_at hd
        rw [Nat.zero_add] at hg ⊢
        have hn' : n < min 6 rows.length := by omega
        have hnr : n < rows.length := by omega
        refine ⟨_, rfl, ?_⟩
        repeat wtm_at "z"
        rw [Int.zero_add]
        refine bv (op := opIx) (r := .str rows[n]) ?_ ?_
        · show L2.atI (rows.map PyData.str) (n : Int) = _
          rw [DL.atI_nat, List.getElem?_map, List.getElem?_eq_getElem hnr]; rfl
        have hok := hrows.ok _ (List.getElem_mem hnr)
        repeat wtm_at "z"
        refine mv_split ?_ ⟨by decide, by have := hok.len; omega⟩
        repeat wtm_at "z"
        have hdr : (rows.take 6).drop n = rows[n] :: (rows.take 6).drop (n + 1) := by
          rw [List.drop_eq_getElem_cons (by rw [List.length_take]; omega)]
          congr 1
          rw [List.getElem_take]
        have hg2 : goR 0 (rows.take 6) p0 = match lineR n p (wds rows[n]) with
          | .ok p' => goR (n + 1) ((rows.take 6).drop (n + 1)) p'
          | .error e => .error e := by rw [hg, hdr]; rfl
        refine rline_w n (by omega) p hp (wds rows[n]) (okl_split hok) (split_ne _ _) s1 (fun p' hp' d hd hj => ?_) fun e he => h2 e (by rw [hrd, hg2, he])
        rw [hp'] at hg2
        refine hv (hard_all _ _ _ hd) ?_
        refine ⟨d, rfl, by rw [List.length_take, all_len]; omega, ?_⟩
        have et : p.all.take n ++ [d] = p'.all.take (n + 1) := by
          rw [List.take_succ, hd]
          congr 1
          apply List.ext_getElem?
          intro j
          by_cases hjn : j < n
          · rw [List.getElem?_take_of_lt hjn, List.getElem?_take_of_lt hjn, hj j hjn]
          · rw [List.getElem?_eq_none (by rw [List.length_take]; omega), List.getElem?_eq_none (by rw [List.length_take]; omega)]
        rw [et]
        repeat wtm_at "z"
        exact ⟨rfl, p', .v (.d (.int (n : Int))), lineR_good hp hp', rfl, hg2⟩
      · rintro ρ s1 ⟨rfl, p, y, hp, rfl, hg⟩
        rw [rng_len, Nat.zero_add] at hg ⊢
        have hk : ((min 6 rows.length : Nat) : Int).toNat = min 6 rows.length := by omega
        rw [hk] at hg ⊢
        have hdn : (rows.take 6).drop (min 6 rows.length) = [] := List.drop_of_length_le (by rw [List.length_take]; omega)
        rw [hdn] at hg
        have hrd2 : readR t = endR rows en p := by rw [hrd, hg]; rfl
        repeat wtm_at "z"
        rw [List.length_map]
        refine br_dec (fun h => ?_) fun h => ?_
        · repeat wtm_at "z"
          refine h2 (6, 0) ?_
          rw [hrd2]; unfold endR; rw [if_pos (by omega)]
        · repeat wtm_at "z"
          refine br_joinO (fun b s2 => s2 = s1 ∧ b = decide (en = false ∨ rows.length < 6)) (fun h => ?_) (fun h => ?_) ?_
          · refine ⟨rfl, ?_⟩
            have : en = false := by simpa using h
            rw [this]; simp
          · have : en = true := by simpa using h
            repeat wtm_at "z"
            rw [List.length_map]
            refine ⟨rfl, ?_⟩
            rw [this]
            simp
            omega
          · rintro b s2 ⟨rfl, rfl⟩
            refine br_dec (fun h => ?_) fun h => ?_
            · repeat wtm_at "z"
              rw [List.length_map]
              refine h2 ((rows.length : Int), 0) ?_
              rw [hrd2]; unfold endR; rw [if_neg (by omega), if_pos h]
            · repeat wtm_at "z"
              have h6 : rows.length = 6 := by
                have : ¬ rows.length < 6 := fun e => h (.inr e)
                omega
              have e6 : p.all.take (min 6 rows.length) = p.all := by rw [h6]; rfl
              rw [e6]
              refine h1 p ?_
              rw [hrd2]; unfold endR; rw [if_neg (by omega), if_neg h]
    · have := hrows.len
      omega
  have e1 : ((R0 ++ [z]).getLast? = some (Str.ofString "") ∧ 1 < (R0 ++ [z]).length) ↔ (z = Str.ofString "" ∧ 1 < (R0 ++ [z]).length) := by simp
  refine br_joinV (fun y s' => s' = s ∧ y = .d (.bool (decide (z = Str.ofString "" ∧ 1 < (R0 ++ [z]).length)))) (fun hz => ?_) (fun hz => ?_) ?_
  · have hz := of_decide_eq_true hz
    repeat wtm_at "z"
    rw [List.length_map]
    refine ⟨rfl, ?_⟩
    congr 3
    apply propext
    constructor
    · intro h; exact ⟨hz, by omega⟩
    · intro h; have := h.2; omega
  · have hz := of_decide_eq_false hz
    refine ⟨rfl, ?_⟩
    rw [decide_eq_false (fun e => hz e.1)]
  · rintro y s' ⟨rfl, rfl⟩
    repeat wtm_at "z"
    refine br_join (fun fl s1 => s1 = s' ∧ ∃ rows en, fl = .nx [.v (.d (.str t)), .v (.d (wsD rows)), .l [], .v (.d (.bool en)), .no] ∧ rowsOf t = (rows, en) ∧ OkL rows) (fun h => ?_) (fun h => ?_) ?_
    · have hc := of_decide_eq_true h
      rw [h]
      repeat wtm_at "z"
      rw [cut_init]
      refine ⟨rfl, R0, true, ?_, ?_, fun z hz => hR.ok z (List.mem_append_left _ hz), by have := hR.len; rw [List.length_append] at this; omega⟩
      · simp [wsD]
      · rw [hrr, if_pos (e1.mpr hc)]
        simp
    · have hc := of_decide_eq_false h
      rw [h]
      repeat wtm_at "z"
      refine ⟨rfl, R0 ++ [z], false, rfl, ?_, hR⟩
      rw [hrr, if_neg fun e => hc (e1.mp e)]
    · rintro fl s1 ⟨rfl, rows, en, rfl, hrw, hok⟩
      refine flk_nx ?_
      exact main rows en s1 rfl hrw hok
theorem len_append (a b : Str) : (a ++ b).length = a.length + b.length := by
  rw [← sg_len, ← sg_len, ← sg_len, sg_append, List.length_append]
theorem join_len (y : Str) : ∀ ps : List Str, (Str.join y ps).length ≤ (ps.map fun p => p.length + y.length).sum
  | [] => Nat.zero_le _
  | [q] => by simp [Str.join]
  | q :: q' :: r => by
    show (q ++ y ++ Str.join y (q' :: r)).length ≤ _
    rw [len_append, len_append, List.map_cons, List.sum_cons]
    have := join_len y (q' :: r)
    omega
theorem ok_sum {y : Str} {ps : List Str} {n : Nat} (hy : y.length ≤ 1) (h : (ps.map fun p => p.length + 1).sum ≤ n) : (ps.map (·.length)).sum + ps.length * y.length ≤ n ∧ (Txt.join y ps).length ≤ n := by
  have e : ∀ (ps : List Str), (ps.map (·.length)).sum + ps.length = (ps.map fun p => p.length + 1).sum := fun ps => by
    induction ps with
    | nil => rfl
    | cons p ps ih => simp only [List.map_cons, List.sum_cons, List.length_cons]; omega
  have h1 := e ps
  have h2 : ps.length * y.length ≤ ps.length := Nat.le_trans (Nat.mul_le_mul_left _ hy) (by omega)
  have h3 : (ps.map fun p => p.length + y.length).sum ≤ (ps.map fun p => p.length + 1).sum := by
    clear e h h1 h2
    induction ps with
    | nil => exact Nat.le_refl _
    | cons p ps ih => simp only [List.map_cons, List.sum_cons]; omega
  refine ⟨by omega, ?_⟩
  rw [TL.join_eq]
  have := join_len y ps
  omega
theorem cp_joinT {y : Str} {ps : List Str} (hy : CpOk y) (h : ∀ p ∈ ps, CpOk p) : CpOk (Txt.join y ps) := by
  rw [TL.join_eq]; exact cp_join hy ps h
/-- a row of words as a text line -/
def lineT (r : List Str) : Str := Txt.join " " r ++ Str.ofString "\n"
def textOf (rows : List (List Str)) : Str := Txt.join "" (rows.map lineT)
def rowLen (r : List Str) : Nat := (r.map fun p => p.length + 1).sum + 1
structure OkR (rows : List (List Str)) : Prop where
  cp : ∀ r ∈ rows, ∀ z ∈ r, CpOk z
  len : (rows.map fun r => rowLen r + 1).sum ≤ 100000
theorem sum_mem {α : Type} {f : α → Nat} {x : α} : ∀ {xs : List α}, x ∈ xs → f x ≤ (xs.map f).sum
  | y :: ys, h => by
    rw [List.map_cons, List.sum_cons]
    rcases List.mem_cons.mp h with rfl | h
    · omega
    · have := sum_mem (f := f) h; omega
theorem OkR.row {rows : List (List Str)} (h : OkR rows) {r : List Str} (hr : r ∈ rows) : (r.map fun p => p.length + 1).sum ≤ 99998 := by
  have := sum_mem (f := fun r => rowLen r + 1) hr
  have := h.len
  unfold rowLen at *
  omega
theorem lineT_len {r : List Str} : (lineT r).length ≤ rowLen r := by
  unfold lineT rowLen
  rw [len_append]
  have := (ok_sum (y := " ") (by decide) (Nat.le_refl ((r.map fun p => p.length + 1).sum))).2
  have : (Str.ofString "\n").length = 1 := by decide
  omega
theorem OkR.lines {rows : List (List Str)} (h : OkR rows) : ((rows.map lineT).map fun p => p.length + 1).sum ≤ 100000 := by
  have : ∀ rows : List (List Str), ((rows.map lineT).map fun p => p.length + 1).sum ≤ (rows.map fun r => rowLen r + 1).sum := fun rows => by
    induction rows with
    | nil => exact Nat.le_refl _
    | cons r rs ih =>
      simp only [List.map_cons, List.sum_cons]
      have := lineT_len (r := r)
      omega
  exact Nat.le_trans (this rows) h.len
theorem textOf_ok {rows : List (List Str)} (h : OkR rows) : Ok (textOf rows) := by
  refine ⟨cp_joinT (cp_ofString "") fun p hp => ?_, (ok_sum (y := "") (by decide) h.lines).2⟩
  obtain ⟨r, hr, rfl⟩ := List.mem_map.mp hp
  exact cp_append (cp_joinT (cp_ofString " ") fun z hz => h.cp r hr z hz) (cp_ofString "\n")
abbrev rowsD (rows : List (List Str)) : PyData := .list (rows.map wsD)
theorem rows_len {rows : List (List Str)} (h : OkR rows) : rows.length ≤ 100000 := by
  have : ∀ rows : List (List Str), rows.length ≤ (rows.map fun r => rowLen r + 1).sum := fun rows => by
    induction rows with
    | nil => exact Nat.zero_le _
    | cons r rs ih => simp only [List.map_cons, List.sum_cons, List.length_cons]; omega
  exact Nat.le_trans (this rows) h.len
theorem ltext_eq (rows : List (List Str)) (h : OkR rows) (s : Dk) : m__law_text [.d (rowsD rows)] s = .ok (.d (.str (textOf rows))) s := by
  refine w_eq ?_
  have hs := sizeLine_big
  have hl := rows_len h
  unfold m__law_text b__law_text
  repeat wtm_at "z"
  refine ⟨by rw [List.length_map]; omega, ?_⟩
  refine lc_mapOf wsD (fun r => .str (lineT r)) rows (fun r hr => item1 rfl ?_) ?_
  · repeat wtm_at "z"
    have h := ok_sum (y := " ") (by decide) (h.row hr)
    refine mv_joinL ?_ (decide_eq_true (by omega))
    repeat wtm_at "z"
    refine bv_addS ?_ ?_
    · exact ⟨_, rfl, rfl, rfl⟩
    · have e : (Str.ofString "\n").length = 1 := by decide
      omega
  · repeat wtm_at "z"
    have h := ok_sum (y := "") (by decide) h.lines
    have e : rows.map (fun r => PyData.str (lineT r)) = (rows.map lineT).map .str := by rw [List.map_map]; rfl
    rw [e]
    refine mv_joinL ?_ (decide_eq_true (by omega))
    repeat wtm_at "z"
    exact ⟨rfl, rfl⟩
def strI (n : Int) : Str := Str.ofString (toString n)
def rowsW (w : Wh) : List (List Str) :=
  [Str.ofString "weights" :: w.ws.map strI, [Str.ofString "room", strI w.room], Str.ofString "sizes" :: w.sizes.map strI, [Str.ofString "bounds", strI w.lo, strI w.hi], [Str.ofString "patience", strI w.pat], [Str.ofString "look", strI w.look]]
theorem str_w {T : Exn → Dk → Prop} {Q : Val → Dk → Prop} {s : Dk} (n : Int) (h : -60 ≤ n ∧ n ≤ 60) (q : Q (.d (.str (strI n))) s) : CV oStr [.d (.int n)] s Q := cv_str q (by
  have : n.natAbs < 2 ^ 6 := by omega
  by_cases h0 : n.natAbs = 0
  · rw [h0]; decide
  · have := (Nat.log2_lt h0).mpr this
    omega)
structure Nums (w : Wh) : Prop where
  ws : ∀ n ∈ w.ws, -60 ≤ n ∧ n ≤ 60
  wl : w.ws.length ≤ 6
  room : -60 ≤ w.room ∧ w.room ≤ 60
  zs : ∀ n ∈ w.sizes, -60 ≤ n ∧ n ≤ 60
  zl : w.sizes.length ≤ 6
  lo : -60 ≤ w.lo ∧ w.lo ≤ 60
  hi : -60 ≤ w.hi ∧ w.hi ≤ 60
  pat : -60 ≤ w.pat ∧ w.pat ≤ 60
  look : -60 ≤ w.look ∧ w.look ≤ 60
theorem lwords_eq (w : Wh) (h : Nums w) (s : Dk) : m__law_words [.d w.d] s = .ok (.d (rowsD (rowsW w))) s := by
  refine w_eq ?_
  have hs := sizeLine_big
  have hw := h.wl
  have hz := h.zl
  unfold m__law_words b__law_words Wh.d
  repeat wtm_at "z"
  refine w_unp ?_
  repeat wtm_at "z"
  refine ⟨_, _, rfl, rfl, ?_⟩
  simp only [List.set_cons_succ, List.set_cons_zero]
  repeat wtm_at "z"
  refine ⟨by rw [List.length_map]; omega, ?_⟩
  refine lc_mapOf PyData.int (fun n => .str (strI n)) w.ws (fun n hn => item1 rfl ?_) ?_
  · repeat wtm_at "z"
    refine str_w (T := F0) n (h.ws n hn) ?_
    exact ⟨_, rfl, rfl, rfl⟩
  repeat wtm_at "z"
  · refine str_w (T := F0) _ h.room ?_
    repeat wtm_at "z"
    refine ⟨by rw [List.length_map]; omega, ?_⟩
    refine lc_mapOf PyData.int (fun n => .str (strI n)) w.sizes (fun n hn => item1 rfl ?_) ?_
    · repeat wtm_at "z"
      refine str_w (T := F0) n (h.zs n hn) ?_
      exact ⟨_, rfl, rfl, rfl⟩
    repeat wtm_at "z"
    · refine str_w (T := F0) _ h.lo ?_
      repeat wtm_at "z"
      refine str_w (T := F0) _ h.hi ?_
      repeat wtm_at "z"
      refine ⟨_, rfl, by simp; omega, ?_⟩
      repeat wtm_at "z"
      refine str_w (T := F0) _ h.pat ?_
      repeat wtm_at "z"
      refine str_w (T := F0) _ h.look ?_
      repeat wtm_at "z"
      · refine ⟨?_, rfl⟩
        unfold rowsW rowsD wsD
        simp [List.map_map, Function.comp_def]
      · simp; omega
    · simp; omega
  · simp; omega
def intChk (n : Int) : Bool := decide ((strI n).length ≤ 3) && decide (numW (sg (strI n)) = some n)
theorem intChk_all : (List.range 121).all (fun n => intChk ((n : Int) - 60)) = true := by decide +kernel
theorem strI_ok {n : Int} (h : -60 ≤ n ∧ n ≤ 60) : (strI n).length ≤ 3 ∧ numW (sg (strI n)) = some n := by
  have := List.all_eq_true.mp intChk_all (n + 60).toNat (by rw [List.mem_range]; omega)
  have e : (((n + 60).toNat : Nat) : Int) - 60 = n := by omega
  rw [e] at this
  unfold intChk at this
  rw [Bool.and_eq_true] at this
  exact ⟨of_decide_eq_true this.1, of_decide_eq_true this.2⟩
theorem strI_free {k : Nat} (hk : k ≠ 45 ∧ (k < 48 ∨ 57 < k)) (n : Int) : k ∉ sg (strI n) := PyProof.Rows.int_text_free' k hk n
/-- a row's words -/
def rowI (x : String × List Int) : List Str := Str.ofString x.1 :: x.2.map strI
def rowsP (w : Wh) : List (String × List Int) := [("weights", w.ws), ("room", [w.room]), ("sizes", w.sizes), ("bounds", [w.lo, w.hi]), ("patience", [w.pat]), ("look", [w.look])]
theorem rowsW_P (w : Wh) : rowsW w = (rowsP w).map rowI := rfl
def nameOk (x : String) : Bool := decide ((Str.ofString x).length ≤ 8) && decide (10 ∉ sg (Str.ofString x)) && decide (32 ∉ sg (Str.ofString x))
structure RowOk (x : String × List Int) : Prop where
  nm : nameOk x.1 = true
  len : x.2.length ≤ 6
  ns : ∀ n ∈ x.2, -60 ≤ n ∧ n ≤ 60
theorem rowsP_ok {w : Wh} (h : Nums w) : ∀ x ∈ rowsP w, RowOk x := by
  have one : ∀ {n : Int}, (-60 ≤ n ∧ n ≤ 60) → ∀ m ∈ [n], -60 ≤ m ∧ m ≤ 60 := fun {n} h m hm => by
    have : m = n := by simpa using hm
    rw [this]; exact h
  intro x hx
  unfold rowsP at hx
  simp only [List.mem_cons, List.not_mem_nil, or_false] at hx
  rcases hx with rfl | rfl | rfl | rfl | rfl | rfl
  · exact ⟨(show nameOk "weights" = true by decide +kernel), h.wl, h.ws⟩
  · exact ⟨(show nameOk "room" = true by decide +kernel), by simp, one h.room⟩
  · exact ⟨(show nameOk "sizes" = true by decide +kernel), h.zl, h.zs⟩
  · refine ⟨(show nameOk "bounds" = true by decide +kernel), by simp, fun m hm => ?_⟩
    have : m = w.lo ∨ m = w.hi := by simpa using hm
    rcases this with rfl | rfl
    · exact h.lo
    · exact h.hi
  · exact ⟨(show nameOk "patience" = true by decide +kernel), by simp, one h.pat⟩
  · exact ⟨(show nameOk "look" = true by decide +kernel), by simp, one h.look⟩
theorem RowOk.word {x : String × List Int} (h : RowOk x) : ∀ z ∈ rowI x, z.length ≤ 8 ∧ 10 ∉ sg z ∧ 32 ∉ sg z ∧ CpOk z := by
  intro z hz
  unfold rowI at hz
  rcases List.mem_cons.mp hz with rfl | hz
  · have := h.nm
    unfold nameOk at this
    rw [Bool.and_eq_true, Bool.and_eq_true] at this
    exact ⟨of_decide_eq_true this.1.1, of_decide_eq_true this.1.2, of_decide_eq_true this.2, cp_ofString _⟩
  · obtain ⟨n, hn, rfl⟩ := List.mem_map.mp hz
    have := (strI_ok (h.ns n hn)).1
    exact ⟨by omega, strI_free (by decide) n, strI_free (by decide) n, cp_ofString _⟩
theorem rowLen_le {r : List Str} {m : Nat} (h : ∀ z ∈ r, z.length ≤ m) : rowLen r ≤ (m + 1) * r.length + 1 := by
  unfold rowLen
  have : ∀ r : List Str, (∀ z ∈ r, z.length ≤ m) → (r.map fun p => p.length + 1).sum ≤ (m + 1) * r.length := fun r => by
    induction r with
    | nil => intro _; exact Nat.zero_le _
    | cons z r ih =>
      intro h
      have h1 := h z (by simp)
      have h2 := ih fun y hy => h y (List.mem_cons_of_mem _ hy)
      rw [List.map_cons, List.sum_cons, List.length_cons, Nat.mul_succ]
      omega
  have := this r h
  omega
theorem okr_of {ps : List (String × List Int)} (h : ∀ x ∈ ps, RowOk x) (hl : ps.length ≤ 100) : OkR (ps.map rowI) ∧ ((ps.map rowI).map fun r => rowLen r + 1).sum ≤ 65 * ps.length := by
  have e : ∀ ps : List (String × List Int), (∀ x ∈ ps, RowOk x) → ((ps.map rowI).map fun r => rowLen r + 1).sum ≤ 65 * ps.length := fun ps => by
    induction ps with
    | nil => intro _; exact Nat.le_refl _
    | cons x ps ih =>
      intro h
      have h1 := rowLen_le fun z hz => ((h x (by simp)).word z hz).1
      have h2 := (h x (by simp)).len
      have h3 := ih fun y hy => h y (List.mem_cons_of_mem _ hy)
      have h4 : (rowI x).length = x.2.length + 1 := by unfold rowI; simp
      rw [h4] at h1
      simp only [List.map_cons, List.sum_cons, List.length_cons]
      omega
  have := e ps h
  refine ⟨⟨fun r hr z hz => ?_, by omega⟩, this⟩
  obtain ⟨x, hx, rfl⟩ := List.mem_map.mp hr
  exact ((h x hx).word z hz).2.2.2
theorem okrW {w : Wh} (h : Nums w) : OkR (rowsW w) := by
  rw [rowsW_P]; exact (okr_of (rowsP_ok h) (show 6 ≤ 100 by decide)).1
theorem nums_of {most : Int} {w : Wh} (h : GoodWh most w) : Nums w := by
  have hr := h.room
  refine ⟨fun n hn => ?_, h.n.2, by omega, fun n hn => ?_, by have := h.zl; omega, by have := h.lo; omega, by have := h.hi; omega, by have := h.pat; omega, by have := h.look; omega⟩
  · have := h.ws n hn; omega
  · have := h.zs n hn; omega
/-- the law's integer of a word within two bounds -/
def lawDig (l : List Nat) : List Nat := if l.take 1 = [45] then l.drop 1 else l
def lawVal (l : List Nat) : Int := if l.take 1 = [45] then -((PySem.NumText.digitsVal (l.drop 1) : Nat) : Int) else ((PySem.NumText.digitsVal l : Nat) : Int)
def lawNum (l : List Nat) (lo hi : Int) : Option Int :=
  if lawDig l = [] ∨ 9 < (lawDig l).length ∨ digB (lawDig l) = false then none else if (lawDig l).head? = some 48 ∧ l ≠ [48] then none else if lo ≤ lawVal l ∧ lawVal l ≤ hi then some (lawVal l) else none
theorem sg_take1 {l : List Nat} : l.take 1 = [45] ↔ ∃ r, l = 45 :: r := by
  cases l with
  | nil => simp
  | cons c r => simp
theorem foldl_ge : ∀ (r : List Nat) (a : Nat), a * 10 ^ r.length ≤ r.foldl (fun acc c => acc * 10 + (c - 48)) a
  | [], a => by simp
  | c :: r, a => by
    have := foldl_ge r (a * 10 + (c - 48))
    rw [List.foldl_cons, List.length_cons]
    refine Nat.le_trans ?_ this
    rw [Nat.pow_succ, ← Nat.mul_assoc, Nat.mul_right_comm]
    exact Nat.mul_le_mul_right _ (by omega)
theorem digitsVal_ge {c : Nat} {r : List Nat} (h : 49 ≤ c) : 10 ^ r.length ≤ PySem.NumText.digitsVal (c :: r) := by
  have := foldl_ge r (0 * 10 + (c - 48))
  refine Nat.le_trans ?_ this
  have : 1 ≤ 0 * 10 + (c - 48) := by omega
  exact Nat.le_trans (by omega) (Nat.mul_le_mul_right _ this)
/-- a word of digits, as both read it -/
theorem plain_cases (r : List Nat) (hb : digB r = true) (hne : r ≠ []) (h0 : r.head? ≠ some 48) : 1 ≤ PySem.NumText.digitsVal r ∧ (3 < r.length → 1000 ≤ PySem.NumText.digitsVal r) := by
  cases r with
  | nil => exact absurd rfl hne
  | cons c r =>
    have hc := List.all_eq_true.mp hb c (by simp)
    have hc := of_decide_eq_true hc
    have h0 : c ≠ 48 := fun e => h0 (by rw [e]; rfl)
    have := digitsVal_ge (c := c) (r := r) (by omega)
    refine ⟨Nat.le_trans (Nat.one_le_pow _ _ (by omega)) this, fun h => ?_⟩
    have h3 : 3 ≤ r.length := by rw [List.length_cons] at h; omega
    exact Nat.le_trans (show 1000 ≤ 10 ^ r.length from Nat.pow_le_pow_right (n := 10) (by omega) h3) this
theorem filter_eq {o : Option Int} {n lo hi : Int} (h : o = some n) : o.filter (fun n => decide (lo ≤ n ∧ n ≤ hi)) = if lo ≤ n ∧ n ≤ hi then some n else none := by
  subst h
  by_cases hc : lo ≤ n ∧ n ≤ hi
  · rw [if_pos hc]; simp [Option.filter, hc]
  · rw [if_neg hc]
    show (if decide (lo ≤ n ∧ n ≤ hi) = true then some n else none) = none
    rw [decide_eq_false hc]; rfl
theorem lawNum_eq (l : List Nat) (lo hi : Int) (hl : -999 ≤ lo) (hh : hi ≤ 999) : lawNum l lo hi = (numW l).filter fun n => decide (lo ≤ n ∧ n ≤ hi) := by
  by_cases hd : l.take 1 = [45]
  · obtain ⟨r, rfl⟩ := sg_take1.mp hd
    have e1 : lawDig (45 :: r) = r := by unfold lawDig; rw [if_pos hd]; rfl
    have e2 : lawVal (45 :: r) = -((PySem.NumText.digitsVal r : Nat) : Int) := by unfold lawVal; rw [if_pos hd]; rfl
    have e3 : numW (45 :: r) = match plainL r with
      | some n => if n = 0 then none else some (0 - n)
      | none => none := rfl
    unfold lawNum
    rw [e1, e2, e3]
    by_cases hc : r = [] ∨ 9 < r.length ∨ digB r = false
    · rw [if_pos hc]
      have : plainL r = none := by
        unfold plainL
        rw [if_pos (by rcases hc with h | h | h; exact .inl h; exact .inr (.inl (by omega)); exact .inr (.inr h))]
      rw [this]; rfl
    · rw [if_neg hc]
      have hne : r ≠ [] := fun e => hc (.inl e)
      have hb : digB r = true := by
        cases h : digB r with
        | true => rfl
        | false => exact absurd (.inr (.inr h)) hc
      by_cases h48 : r.head? = some 48
      · rw [if_pos ⟨h48, by intro e; cases e⟩]
        have : plainL r = none ∨ plainL r = some 0 := by
          unfold plainL
          by_cases h3 : r = [] ∨ 3 < r.length ∨ digB r = false
          · rw [if_pos h3]; exact .inl rfl
          · rw [if_neg h3]
            by_cases h1 : 1 < r.length
            · rw [if_pos ⟨h48, h1⟩]; exact .inl rfl
            · rw [if_neg (fun e => h1 e.2)]
              right
              cases r with
              | nil => cases h48
              | cons c r' =>
                have : c = 48 := Option.some.inj h48
                subst this
                have : r' = [] := List.eq_nil_of_length_eq_zero (by rw [List.length_cons] at h1; omega)
                subst this
                rfl
        rcases this with h | h <;> rw [h] <;> rfl
      · rw [if_neg (fun e => h48 e.1)]
        obtain ⟨v1, v2⟩ := plain_cases r hb hne h48
        by_cases h3 : 3 < r.length
        · have : plainL r = none := by unfold plainL; rw [if_pos (.inr (.inl h3))]
          rw [this]
          have := v2 h3
          rw [if_neg (by omega)]; rfl
        · have : plainL r = some ((PySem.NumText.digitsVal r : Nat) : Int) := by
            unfold plainL
            rw [if_neg (by rintro (e | e | e); exact hne e; exact h3 e; rw [hb] at e; cases e), if_neg (fun e => h48 e.1)]
          rw [this]
          dsimp only
          rw [if_neg (show ¬ ((PySem.NumText.digitsVal r : Nat) : Int) = 0 by omega), filter_eq rfl, Int.zero_sub]
  · have e1 : lawDig l = l := by unfold lawDig; rw [if_neg hd]
    have e2 : lawVal l = ((PySem.NumText.digitsVal l : Nat) : Int) := by unfold lawVal; rw [if_neg hd]
    have e3 : numW l = plainL l := by
      unfold numW
      split
      · exact absurd rfl hd
      · rfl
    unfold lawNum
    rw [e1, e2, e3]
    by_cases hc : l = [] ∨ 9 < l.length ∨ digB l = false
    · rw [if_pos hc]
      have : plainL l = none := by
        unfold plainL
        rw [if_pos (by rcases hc with h | h | h; exact .inl h; exact .inr (.inl (by omega)); exact .inr (.inr h))]
      rw [this]; rfl
    · rw [if_neg hc]
      have hne : l ≠ [] := fun e => hc (.inl e)
      have hb : digB l = true := by
        cases h : digB l with
        | true => rfl
        | false => exact absurd (.inr (.inr h)) hc
      by_cases h48 : l.head? = some 48
      · by_cases h1 : l = [48]
        · subst h1
          rw [if_neg (fun e => e.2 rfl)]
          have : plainL [48] = some 0 := rfl
          have v0 : PySem.NumText.digitsVal [48] = 0 := by decide
          rw [this, filter_eq rfl, v0]
          rfl
        · rw [if_pos ⟨h48, h1⟩]
          have : plainL l = none := by
            unfold plainL
            by_cases h3 : l = [] ∨ 3 < l.length ∨ digB l = false
            · rw [if_pos h3]
            · have h1' : 1 < l.length := by
                cases l with
                | nil => cases h48
                | cons c r =>
                  have : c = 48 := Option.some.inj h48
                  subst this
                  cases r with
                  | nil => exact absurd rfl h1
                  | cons d r => simp
              rw [if_neg h3, if_pos ⟨h48, h1'⟩]
          rw [this]; rfl
      · rw [if_neg (fun e => h48 e.1)]
        obtain ⟨v1, v2⟩ := plain_cases l hb hne h48
        by_cases h3 : 3 < l.length
        · have : plainL l = none := by unfold plainL; rw [if_pos (.inr (.inl h3))]
          rw [this]
          have := v2 h3
          rw [if_neg (by omega)]; rfl
        · have : plainL l = some ((PySem.NumText.digitsVal l : Nat) : Int) := by
            unfold plainL
            rw [if_neg (by rintro (e | e | e); exact hne e; exact h3 e; rw [hb] at e; cases e), if_neg (fun e => h48 e.1)]
          rw [this, filter_eq rfl]
theorem sm_signs (l : List Nat) (h : ∀ c ∈ l, c < 0x110000) : Sm 1 (l.length * 2) (.list (l.map signD)) := by
  refine sm_list ?_
  have := sl_all (k := 0) (b := 1) (l.map signD) fun d hd => by
    obtain ⟨c, hc, rfl⟩ := List.mem_map.mp hd
    have := sm_str (x := (⟨#[c]⟩ : Str)) fun x hx => by
      have hx : x = c := by simpa using hx
      rw [hx]; exact h c hc
    exact this
  rw [List.length_map] at this
  exact this
theorem notin_digits (c : Nat) {S : Type} {s : S} {Q : Val → S → Prop} (q : Q (.d (.bool (!decide (48 ≤ c ∧ c ≤ 57)))) s) : BV opNotIn (.d (signD c)) (.d (.str "0123456789")) s Q := by
  refine bv (r := .bool (!decide (48 ≤ c ∧ c ≤ 57))) ?_ q
  show some (PyData.bool (!(!(Builtin.Str.occurrences (Str.ofString "0123456789") ⟨#[c]⟩ 0 (Str.ofString "0123456789").length 1).isEmpty))) = _
  rw [in_digits]
theorem dig_filter {l : List Nat} : (l.filter fun c => !decide (48 ≤ c ∧ c ≤ 57)).isEmpty = digB l := by
  induction l with
  | nil => rfl
  | cons c r ih =>
    unfold digB at ih ⊢
    rw [List.all_cons]
    by_cases h : 48 ≤ c ∧ c ≤ 57
    · rw [List.filter_cons_of_neg (by simp [h]), decide_eq_true h, Bool.true_and, ih]
    · rw [List.filter_cons_of_pos (by simp [h]), decide_eq_false h]
      rfl
theorem bv_neL0 {S : Type} {s : S} {Q : Val → S → Prop} {l : List Nat} (h : ∀ c ∈ l, c < 0x110000) (q : Q (.d (.bool (!l.isEmpty))) s) : BV opNe (.d (.list (l.map signD))) (.d (.list [])) s Q := by
  refine bv_neNil (mk := .list) (.inl rfl) (sm_signs l h) ?_
  rw [List.isEmpty_map]; exact q
theorem lnumber_w (z : Str) (hz : Ok z) (lo hi : Int) (s : Dk) {Q : Val → Dk → Prop} (q : Q (.d (optI (lawNum (sg z) lo hi))) s) : W (m__law_number [.d (.str z), .d (.int lo), .d (.int hi)] s) Q := by
  have hl := hz.sz
  unfold m__law_number b__law_number
  repeat wtm_at "z"
  refine uv_tsl ?_ hl
  repeat wtm_at "z"
  refine bv_eqX (ok_cut hz _ _).cp (ok_lit "-").cp ?_
  have e1 : (cutS z none (some 1) = Str.ofString "-") ↔ (sg z).take 1 = [45] := by
    rw [← sg_dash]
    constructor
    · intro h; rw [← sg_cutT, ← h]; rfl
    · intro h; exact sg_ext (by rw [← h]; exact sg_cutT z 1)
  repeat wtm_at "z"
  refine br_join (fun y s' => s' = s ∧ ∃ d : Str, y = .d (.str d) ∧ Ok d ∧ sg d = lawDig (sg z)) (fun h => ?_) (fun h => ?_) ?_
  · have h := e1.mp (of_decide_eq_true h)
    repeat wtm_at "z"
    refine uv_tsl ?_ hl
    refine ⟨rfl, _, rfl, ok_cut hz _ _, ?_⟩
    unfold lawDig
    rw [if_pos h]
    exact sg_cutD z 1
  · have h : ¬ (sg z).take 1 = [45] := fun e => of_decide_eq_false h (e1.mpr e)
    repeat wtm_at "z"
    refine ⟨rfl, z, rfl, hz, ?_⟩
    unfold lawDig
    rw [if_neg h]
  · rintro y s' ⟨rfl, d, rfl, hd, hdg⟩
    have hdl := hd.sz
    repeat wtm_at "z"
    refine bv_eqX hd.cp (ok_lit "").cp ?_
    repeat wtm_at "z"
    refine br_joinO (fun b s'' => s'' = s' ∧ b = (decide (sg d = []) || (decide (9 < d.length) || !digB (sg d)))) (fun h => ?_) (fun h => ?_) ?_
    · have h := sg_empty.mp (of_decide_eq_true h)
      refine ⟨rfl, ?_⟩
      rw [h]; rfl
    · have h : ¬ sg d = [] := fun e => of_decide_eq_false h (sg_empty.mpr e)
      repeat wtm_at "z"
      refine cv_lenS ?_ hdl
      repeat wtm_at "z"
      refine br_joinO (fun b s'' => s'' = s' ∧ b = (decide (sg d = []) || (decide (9 < d.length) || !digB (sg d)))) (fun h2 => ?_) (fun h2 => ?_) (fun b s' h => h)
      · have h2 := of_decide_eq_true h2
        have h3 : 9 < d.length := by omega
        refine ⟨rfl, ?_⟩
        rw [decide_eq_true h3]; simp
      · have h2 := of_decide_eq_false h2
        have h3 : ¬ 9 < d.length := by omega
        repeat wtm_at "z"
        refine ⟨by rw [List.length_map]; exact hdl, ?_⟩
        refine lc_someOf signD (fun c => !decide (48 ≤ c ∧ c ≤ 57)) signD (sg d) (fun c _ => item rfl ?_) ?_
        · repeat wtm_at "z"
          refine notin_digits c ?_
          repeat wtm_at "z"
          refine br (fun hc => ?_) fun hc => ?_
          · repeat wtm_at "z"
            exact ⟨_, rfl, by rw [if_pos hc], rfl⟩
          · exact ⟨by rw [if_neg (by rw [hc]; decide)], rfl⟩
        · repeat wtm_at "z"
          refine bv_neL0 (fun c hc => hd.cp c (List.mem_filter.mp hc).1) ?_
          repeat wtm_at "z"
          refine ⟨rfl, ?_⟩
          rw [dig_filter, decide_eq_false h, decide_eq_false h3]
          rfl
    · rintro b s'' ⟨rfl, rfl⟩
      have law : lawNum (sg z) lo hi = if sg d = [] ∨ 9 < d.length ∨ digB (sg d) = false then none else if (sg d).head? = some 48 ∧ sg z ≠ [48] then none else if lo ≤ lawVal (sg z) ∧ lawVal (sg z) ≤ hi then some (lawVal (sg z)) else none := by
        unfold lawNum
        rw [← hdg, sg_len]
      refine br (fun h => ?_) fun h => ?_
      · repeat wtm_at "z"
        rw [law, if_pos (by simpa using h)] at q
        exact q
      · repeat wtm_at "z"
        simp only [Bool.or_eq_false_iff, decide_eq_false_iff_not] at h
        obtain ⟨h1, h2, h3⟩ := h
        have hdb : digB (sg d) = true := by simpa using h3
        rw [if_neg (by rintro (e | e | e); exact h1 e; exact h2 e; rw [hdb] at e; cases e)] at law
        cases hs : sg d with
        | nil => exact absurd hs h1
        | cons c r =>
          have hcd : d.cps.toList = c :: r := hs
          refine bv_ixS (k := 0) ?_ (by rw [hcd]; rfl) hdl
          have cpc : CpOk (⟨#[c]⟩ : Str) := fun x hx => by
            have hx : x = c := by simpa using hx
            rw [hx]
            exact hd.cp c (by rw [hcd]; simp)
          repeat wtm_at "z"
          refine bv_eqX cpc (ok_lit "0").cp ?_
          repeat wtm_at "z"
          have e0 : Str.ofString "0" = ⟨#[48]⟩ := by decide +kernel
          have e48 : ((⟨#[c]⟩ : Str) = Str.ofString "0") ↔ c = 48 := by
            rw [e0]
            constructor
            · intro h; injection h with h; injection h with h; injection h
            · rintro rfl; rfl
          have ez : (z = Str.ofString "0") ↔ sg z = [48] := by
            rw [e0]
            constructor
            · rintro rfl; rfl
            · intro h; exact sg_ext h
          rw [hs, List.head?_cons] at law
          refine br_joinA (fun b s1 => s1 = s'' ∧ b = (decide (c = 48) && !decide (sg z = [48]))) (fun h => ?_) (fun h => ?_) ?_
          · have h := e48.mp (of_decide_eq_true h)
            repeat wtm_at "z"
            refine bv_neX hz.cp (ok_lit "0").cp ?_
            repeat wtm_at "z"
            refine ⟨rfl, ?_⟩
            rw [decide_eq_true h, Bool.true_and]
            congr 2
            exact propext ez
          · have h : ¬ c = 48 := fun e => of_decide_eq_false h (e48.mpr e)
            refine ⟨rfl, ?_⟩
            rw [decide_eq_false h]; rfl
          · rintro b s1 ⟨rfl, rfl⟩
            refine br (fun h => ?_) fun h => ?_
            · repeat wtm_at "z"
              simp only [Bool.and_eq_true, decide_eq_true_eq, Bool.not_eq_true', decide_eq_false_iff_not] at h
              rw [law, if_pos ⟨by rw [h.1], h.2⟩] at q
              exact q
            · have hn : ¬ (some c = some 48 ∧ sg z ≠ [48]) := by
                rintro ⟨e1, e2⟩
                rw [decide_eq_true (Option.some.inj e1), decide_eq_false e2] at h
                cases h
              rw [if_neg hn] at law
              have iv : PySem.intText? z = some (lawVal (sg z)) ∧ z.length ≤ 640 := by
                unfold lawVal
                unfold lawDig at hdg
                by_cases h45 : (sg z).take 1 = [45]
                · rw [if_pos h45] at hdg ⊢
                  obtain ⟨t, ht⟩ := sg_take1.mp h45
                  have ed : sg d = t := by rw [hdg, ht]; rfl
                  have hlz : z.length = d.length + 1 := by rw [← sg_len, ← sg_len, ht, ed]; rfl
                  have := PySem.intText_neg (x := z) (cs := t) ht (by rw [← ed]; exact digB_all hdb) (by rw [← ed]; exact h1) (by omega)
                  exact ⟨by rw [this, ht]; rfl, by omega⟩
                · rw [if_neg h45] at hdg ⊢
                  have hlz : z.length = d.length := by rw [← sg_len, ← sg_len, hdg]
                  exact ⟨PySem.intText_digits (by rw [← show sg z = z.cps.toList from rfl, ← hdg]; exact digB_all hdb) (by rw [← show sg z = z.cps.toList from rfl, ← hdg]; exact h1) (by omega), by omega⟩
              repeat wtm_at "z"
              refine cv_intT ?_ iv.1 iv.2
              repeat wtm_at "z"
              refine br_dec (fun ha => ?_) fun ha => ?_
              · repeat wtm_at "z"
                refine br_dec (fun hb => ?_) fun hb => ?_
                · repeat wtm_at "z"
                  refine cv_intT ?_ iv.1 iv.2
                  repeat wtm_at "z"
                  rw [law, if_pos ⟨ha, hb⟩] at q
                  exact q
                · repeat wtm_at "z"
                  rw [law, if_neg (fun e => hb e.2)] at q
                  exact q
              · repeat wtm_at "z"
                rw [law, if_neg (fun e => ha e.1)] at q
                exact q
theorem w_nDispK {S : Type} {T : Exn → S → Prop} {ρ : DL.Env} {s : S} {ks : List Key} {g : Exs S} {Q : Sl → S → Prop} (h : WT T (g ρ s) fun ys s1 => DV_ ys s1 fun ds s2 => Ck (ks.Nodup ∧ ds.length = ks.length ∧ ks.length ≤ 15) (Q (.m ((ks.map kD).zip ds)) s2)) : WT T (nDispK ks g ρ s) Q :=
  w_bind (h.mono fun ys s1 ⟨ds, e, hl, z⟩ => by
    show WT T (match datas ys with | some ds => _ | none => _) Q
    rw [e]
    show WT T (if ks.Nodup ∧ ds.length = ks.length ∧ ks.length ≤ 15 then _ else _) Q
    rw [if_pos hl]
    exact ⟨z⟩)
theorem w_eN {S : Type} {T : Exn → S → Prop} {ρ : DL.Env} {s : S} {f : Nx S} {Q : Val → S → Prop} (h : WT T (f ρ s) fun x s1 => ∃ kvs, x = .m kvs ∧ Q (.d (.dict kvs)) s1) : WT T (eN f ρ s) Q :=
  w_bind (h.mono fun x s1 ⟨kvs, hx, q⟩ => by subst hx; exact ⟨q⟩)
theorem w_exsC {S : Type} {T : Exn → S → Prop} {ρ : DL.Env} {s : S} {f : Ex S} {fs : List (Ex S)} {Q : List Val → S → Prop} (h : WT T (aCons f (exsOf fs) ρ s) Q) : WT T (exsOf (f :: fs) ρ s) Q := h
theorem w_exsN {S : Type} {T : Exn → S → Prop} {ρ : DL.Env} {s : S} {Q : List Val → S → Prop} (q : Q [] s) : WT T (exsOf [] ρ s) Q := ⟨q⟩
def limL (k : Nat) (room : Int) : Nat → List Int → Option (Int × Int) := match k with
  | 0 => limW
  | 1 => limO 4
  | 2 => limS room
  | 3 => limB
  | 4 => limO 6
  | _ => limO 3
def limD : Option (Int × Int) → PyData
  | none => .none
  | some b => iT [b.1, b.2]
theorem limits_eq (k : Nat) (hk : k < 6) (room : Int) (acc : List Int) (j : Nat) (hj : 1 ≤ j) (hacc : ∀ n ∈ acc, n.natAbs < 10 ^ 12) (s : Dk) : m__law_limits [.d (.int k), .d (.list (acc.map .int)), .d (.int j), .d (.int room)] s = .ok (.d (limD (limL k room j acc))) s := by
  refine w_eq ?_
  have hk' : k = 0 ∨ k = 1 ∨ k = 2 ∨ k = 3 ∨ k = 4 ∨ k = 5 := by omega
  unfold m__law_limits b__law_limits
  have one : ∀ most : Int, limD (limO most j acc) = if j = 1 then iT [1, most] else .none := fun most => by
    unfold limO
    split <;> rfl
  rcases hk' with rfl | rfl | rfl | rfl | rfl | rfl
  · show W (runF 0 _ [.d (.int 0), _, _, _] s) _
    repeat wtm_at "z"
    refine br_dec (fun h => ?_) fun h => absurd rfl h
    repeat wtm_at "z"
    have e : limL 0 room j acc = if j ≤ 6 then some (0 - 9, 9) else none := rfl
    refine br_dec (fun h => ?_) fun h => ?_
    · repeat wtm_at "z"
      refine ⟨?_, rfl⟩
      rw [e, if_pos (by omega)]; rfl
    · repeat wtm_at "z"
      refine ⟨?_, rfl⟩
      rw [e, if_neg (by omega)]; rfl
  · show W (runF 0 _ [.d (.int 1), _, _, _] s) _
    repeat wtm_at "z"
    refine br_dec (fun h => absurd h (by decide)) fun _ => ?_
    repeat wtm_at "z"
    refine br_dec (fun h => absurd h (by decide)) fun _ => ?_
    repeat wtm_at "z"
    refine br_dec (fun h => absurd h (by decide)) fun _ => ?_
    repeat wtm_at "z"
    have e : limD (limL 1 room j acc) = if j = 1 then iT [1, 4] else .none := one 4
    refine br_dec (fun h => ?_) fun h => ?_
    · repeat wtm_at "z"
      refine w_eN (w_nDispK (w_exsC ?_))
      repeat wtm_at "z"
      refine w_exsC ?_
      repeat wtm_at "z"
      refine w_exsC ?_
      repeat wtm_at "z"
      refine w_exsN ?_
      repeat wtm_at "z"
      refine ⟨by decide, _, rfl, ?_⟩
      repeat wtm_at "z"
      refine bv (op := opDIx) (r := .int 4) rfl ?_
      repeat wtm_at "z"
      refine ⟨?_, rfl⟩
      rw [e, if_pos (by omega)]; rfl
    · repeat wtm_at "z"
      refine ⟨?_, rfl⟩
      rw [e, if_neg (by omega)]
  · show W (runF 0 _ [.d (.int 2), _, _, _] s) _
    repeat wtm_at "z"
    refine br_dec (fun h => absurd h (by decide)) fun _ => ?_
    repeat wtm_at "z"
    refine br_dec (fun h => ?_) fun h => absurd rfl h
    repeat wtm_at "z"
    refine bv_neNil (mk := .list) (.inl rfl) (sm_list (sl_ints hacc)) ?_
    rw [List.isEmpty_map]
    repeat wtm_at "z"
    have e : ∀ x : Int, (match acc.getLast? with
      | some x => x + 1
      | none => 1) = x → limD (limL 2 room j acc) = iT [x, room] := fun x hx => by
      show limD (limS room j acc) = _
      unfold limS
      rw [hx]; rfl
    refine br (fun h => ?_) fun h => ?_
    · have hne : acc ≠ [] := by intro e; rw [e] at h; cases h
      obtain ⟨l, x, rfl⟩ : ∃ l x, acc = l ++ [x] := ⟨acc.dropLast, acc.getLast hne, (List.dropLast_concat_getLast hne).symm⟩
      repeat wtm_at "z"
      refine bv (op := opIx) (r := .int x) ?_ ?_
      · rw [List.map_append]; exact atI_lastX _ _
      repeat wtm_at "z"
      exact ⟨by rw [e (x + 1) (by simp)]; rfl, rfl⟩
    · have hne : acc = [] := by
        cases acc with
        | nil => rfl
        | cons a l => cases h
      subst hne
      repeat wtm_at "z"
      exact ⟨by rw [e 1 rfl]; rfl, rfl⟩
  · show W (runF 0 _ [.d (.int 3), _, _, _] s) _
    repeat wtm_at "z"
    refine br_dec (fun h => absurd h (by decide)) fun _ => ?_
    repeat wtm_at "z"
    refine br_dec (fun h => absurd h (by decide)) fun _ => ?_
    repeat wtm_at "z"
    refine br_dec (fun h => ?_) fun h => absurd rfl h
    repeat wtm_at "z"
    refine cv (op := oMin) rfl rfl ?_
    have e : limL 3 room j acc = limB j acc := rfl
    by_cases h1 : j = 1
    · subst h1
      refine bv (op := opIx) (r := iT [-60, 0]) rfl ?_
      repeat wtm_at "z"
      exact ⟨rfl, rfl⟩
    · by_cases h2 : j = 2
      · subst h2
        refine bv (op := opIx) (r := iT [0, 60]) rfl ?_
        repeat wtm_at "z"
        exact ⟨rfl, rfl⟩
      · have e2 : (if (2 : Int) < (j : Int) - 1 then (2 : Int) else (j : Int) - 1) = 2 := by
          split <;> omega
        rw [e2]
        refine bv (op := opIx) (r := .none) rfl ?_
        repeat wtm_at "z"
        refine ⟨?_, rfl⟩
        rw [e]
        unfold limB
        rw [if_neg h1, if_neg h2]
        rfl
  · show W (runF 0 _ [.d (.int 4), _, _, _] s) _
    repeat wtm_at "z"
    refine br_dec (fun h => absurd h (by decide)) fun _ => ?_
    repeat wtm_at "z"
    refine br_dec (fun h => absurd h (by decide)) fun _ => ?_
    repeat wtm_at "z"
    refine br_dec (fun h => absurd h (by decide)) fun _ => ?_
    repeat wtm_at "z"
    have e : limD (limL 4 room j acc) = if j = 1 then iT [1, 6] else .none := one 6
    refine br_dec (fun h => ?_) fun h => ?_
    · repeat wtm_at "z"
      refine w_eN (w_nDispK (w_exsC ?_))
      repeat wtm_at "z"
      refine w_exsC ?_
      repeat wtm_at "z"
      refine w_exsC ?_
      repeat wtm_at "z"
      refine w_exsN ?_
      repeat wtm_at "z"
      refine ⟨by decide, _, rfl, ?_⟩
      repeat wtm_at "z"
      refine bv (op := opDIx) (r := .int 6) rfl ?_
      repeat wtm_at "z"
      refine ⟨?_, rfl⟩
      rw [e, if_pos (by omega)]; rfl
    · repeat wtm_at "z"
      refine ⟨?_, rfl⟩
      rw [e, if_neg (by omega)]
  · show W (runF 0 _ [.d (.int 5), _, _, _] s) _
    repeat wtm_at "z"
    refine br_dec (fun h => absurd h (by decide)) fun _ => ?_
    repeat wtm_at "z"
    refine br_dec (fun h => absurd h (by decide)) fun _ => ?_
    repeat wtm_at "z"
    refine br_dec (fun h => absurd h (by decide)) fun _ => ?_
    repeat wtm_at "z"
    have e : limD (limL 5 room j acc) = if j = 1 then iT [1, 3] else .none := one 3
    refine br_dec (fun h => ?_) fun h => ?_
    · repeat wtm_at "z"
      refine w_eN (w_nDispK (w_exsC ?_))
      repeat wtm_at "z"
      refine w_exsC ?_
      repeat wtm_at "z"
      refine w_exsC ?_
      repeat wtm_at "z"
      refine w_exsN ?_
      repeat wtm_at "z"
      refine ⟨by decide, _, rfl, ?_⟩
      repeat wtm_at "z"
      refine bv (op := opDIx) (r := .int 3) rfl ?_
      repeat wtm_at "z"
      refine ⟨?_, rfl⟩
      rw [e, if_pos (by omega)]; rfl
    · repeat wtm_at "z"
      refine ⟨?_, rfl⟩
      rw [e, if_neg (by omega)]
theorem lawNum_at (ws : List Str) (k : Nat) (lo hi : Int) (hl : -999 ≤ lo) (hh : hi ≤ 999) : lawNum (sg (ws[k]?.getD "")) lo hi = takeP ws k lo hi := by
  rw [lawNum_eq _ _ _ hl hh]
  unfold takeP
  cases ws[k]? with
  | none =>
    have : sg (Str.ofString "") = [] := by decide +kernel
    show (numW (sg (Str.ofString ""))).filter _ = none
    rw [this]; rfl
  | some z => rfl
theorem lcrowd_w (wl : List Int) (room : Int) (zs : List Int) (bd : PyData) (pat : Int) (hr : 0 ≤ room ∧ room < 1000) (hz : zs.length < 1000) (ws : List Str) (hws : OkL ws) (hne : ws ≠ []) (s : Dk) {Q : Val → Dk → Prop}
    (q : Q (.d (.bool (decide (ws.head? = some (Str.ofString "look")) && crowd ⟨wl, room, zs, [], pat, 1⟩ ws))) s) : W (m__law_is_crowded [.d (.list [iT wl, iT [room], iT zs, bd, iT [pat]]), .d (wsD ws)] s) Q := by
  obtain ⟨z, r, rfl⟩ : ∃ z r, ws = z :: r := by
    cases ws with
    | nil => exact absurd rfl hne
    | cons z r => exact ⟨z, r, rfl⟩
  have hsb := sizeLine_big
  have hlen := hws.len
  rw [List.length_cons] at hlen
  unfold m__law_is_crowded b__law_is_crowded
  show W (runF 1 _ [.d (.list [iT wl, iT [room], iT zs, bd, iT [pat]]), .d (.list (.str z :: r.map .str))] s) Q
  have tk := lawNum_at (z :: r) 1 1 3 (by decide) (by decide)
  have hw : ∃ y, Ok y ∧ ([PyData.str z] ++ r.map .str ++ [.str (Str.ofString "")])[1]? = some (.str y) ∧ lawNum (sg y) 1 3 = takeP (z :: r) 1 1 3 := by
    cases r with
    | nil => exact ⟨_, ok_lit "", rfl, tk⟩
    | cons y r => exact ⟨y, hws.ok y (by simp), rfl, tk⟩
  obtain ⟨y, hy, hget, hyn⟩ := hw
  have cr : ∀ o, takeP (z :: r) 1 1 3 = o → crowd ⟨wl, room, zs, [], pat, 1⟩ (z :: r) = match o with
      | some n => decide (2000 < cntL wl.length room zs.length pat n)
      | none => false := fun o ho => by unfold crowd; rw [ho]
  repeat wtm_at "z"
  · refine bv (op := opIx) (r := .str y) ?_ ?_
    · show L2.atI _ ((1 : Nat) : Int) = _
      rw [DL.atI_nat]
      exact hget
    repeat wtm_at "z"
    refine lnumber_w y hy 1 3 s ?_
    rw [hyn]
    have hb : ∀ n, takeP (z :: r) 1 1 3 = some n → 1 ≤ n ∧ n ≤ 3 := fun n hn => by
      unfold takeP at hn
      have := Option.filter_eq_some_iff.mp hn
      exact of_decide_eq_true this.2
    generalize ho : takeP (z :: r) 1 1 3 = o at hb
    have cr := cr o ho
    repeat wtm_at "z"
    refine bv_neX (hws.ok z (by simp)).cp (ok_lit "look").cp ?_
    repeat wtm_at "z"
    refine br_ndec (fun h => ?_) fun h => ?_
    · repeat wtm_at "z"
      have : decide ((z :: r).head? = some (Str.ofString "look")) = false := decide_eq_false (by simpa using h)
      rw [this, Bool.false_and] at q
      exact q
    · have h1 : decide ((z :: r).head? = some (Str.ofString "look")) = true := decide_eq_true (by simpa using h)
      rw [h1, Bool.true_and, cr] at q
      cases o with
      | none =>
        simp only [optI]
        repeat wtm_at "z"
        refine bv (r := .bool true) rfl ?_
        repeat wtm_at "z"
        exact q
      | some n =>
        have hn := hb n rfl
        simp only [optI]
        repeat wtm_at "z"
        refine bv (r := .bool false) rfl ?_
        repeat wtm_at "z"
        refine w_of (lcountT_eq _ _ _ _ _ hr (by rw [List.length_map]; exact hz) (by omega) s) ?_
        rw [List.length_map, List.length_map]
        repeat wtm_at "z"
        exact q
  · simp; omega
/-- what the law tells of a text line: its integers, or the place of its first wrong word -/
def lineLaw (k : Nat) (room : Int) (ws : List Str) : Except Nat (List Int) :=
  if ws.head? ≠ some (nameOf k) then .error 0 else rowG (limL k room) ws (max (ws.length - 1) (if k = 0 ∨ k = 3 then 2 else 1)) 1 []
def lineLawD : Except Nat (List Int) → PyData
  | .ok l => iT l
  | .error j => .int (j : Nat)
theorem lim_bound {k : Nat} (hk : k < 6) {room : Int} (hr : 1 ≤ room ∧ room ≤ 4) {j : Nat} {acc : List Int} (hacc : ∀ n ∈ acc, -60 ≤ n ∧ n ≤ 60) {lo hi : Int} (h : limL k room j acc = some (lo, hi)) : -60 ≤ lo ∧ hi ≤ 60 ∧ -999 ≤ lo := by
  have hk' : k = 0 ∨ k = 1 ∨ k = 2 ∨ k = 3 ∨ k = 4 ∨ k = 5 := by omega
  rcases hk' with rfl | rfl | rfl | rfl | rfl | rfl
  · have h : limW j acc = some (lo, hi) := h
    unfold limW at h; split at h <;> cases h; omega
  · have h : limO 4 j acc = some (lo, hi) := h
    unfold limO at h; split at h <;> cases h; omega
  · have h : limS room j acc = some (lo, hi) := h
    unfold limS at h
    injection h with h
    injection h with e1 e2
    subst e2
    cases hg : acc.getLast? with
    | none => rw [hg] at e1; dsimp only at e1; omega
    | some x =>
      rw [hg] at e1
      have := hacc x (List.mem_of_getLast? hg)
      dsimp only at e1; omega
  · have h : limB j acc = some (lo, hi) := h
    unfold limB at h; split at h
    · cases h; omega
    · split at h <;> cases h; omega
  · have h : limO 6 j acc = some (lo, hi) := h
    unfold limO at h; split at h <;> cases h; omega
  · have h : limO 3 j acc = some (lo, hi) := h
    unfold limO at h; split at h <;> cases h; omega
theorem bv_mul3 {S : Type} {s : S} {d : PyData} {Q : Val → S → Prop} (q : Q (.d (.list [d, d, d])) s) : BV opMul (.d (.list [d])) (.d (.int 3)) s Q := bv (by
  have h : -(2 ^ 63) ≤ (3 : Int) ∧ (3 : Int) < 2 ^ 63 ∧ [d].length * (3 : Int).toNat ≤ sizeLine := ⟨by decide, by decide, by have := sizeLine_big; simp; omega⟩
  show (if -(2 ^ 63) ≤ (3 : Int) ∧ (3 : Int) < 2 ^ 63 ∧ [d].length * (3 : Int).toNat ≤ sizeLine then some (PyData.list (List.replicate (3 : Int).toNat [d]).flatten) else none) = _
  rw [if_pos h]
  rfl) q
theorem lline_w (k : Nat) (hk : k < 6) (room : Int) (hr : 1 ≤ room ∧ room ≤ 4) (ws : List Str) (hws : OkL ws) (hne : ws ≠ []) (s : Dk) {Q : Val → Dk → Prop} (q : Q (.d (lineLawD (lineLaw k room ws))) s) : W (m__law_line [.d (wsD ws), .d (.int k), .d (.int room)] s) Q := by
  obtain ⟨z, r, rfl⟩ : ∃ z r, ws = z :: r := by
    cases ws with
    | nil => exact absurd rfl hne
    | cons z r => exact ⟨z, r, rfl⟩
  have hsb := sizeLine_big
  have hlen := hws.len
  have hk' : k = 0 ∨ k = 1 ∨ k = 2 ∨ k = 3 ∨ k = 4 ∨ k = 5 := by omega
  unfold m__law_line b__law_line
  show W (runF 6 _ [.d (.list (.str z :: r.map .str)), .d (.int k), .d (.int room)] s) Q
  have nm : ([PyData.str (Str.ofString "weights"), .str (Str.ofString "room"), .str (Str.ofString "sizes"), .str (Str.ofString "bounds"), .str (Str.ofString "patience"), .str (Str.ofString "look")] : List PyData)[k]? = some (.str (nameOf k)) := by
    rcases hk' with rfl | rfl | rfl | rfl | rfl | rfl <;> rfl
  have cn : CpOk (nameOf k) := by
    rcases hk' with rfl | rfl | rfl | rfl | rfl | rfl <;> exact cp_ofString _
  repeat wtm_at "z"
  refine bv (op := opIx) (r := .str (nameOf k)) ?_ ?_
  · show L2.atI _ ((k : Nat) : Int) = _
    rw [DL.atI_nat]; exact nm
  repeat wtm_at "z"
  refine bv_neX (hws.ok z (by simp)).cp cn ?_
  repeat wtm_at "z"
  refine br_ndec (fun h => ?_) fun h => ?_
  · repeat wtm_at "z"
    have : lineLaw k room (z :: r) = .error 0 := by
      unfold lineLaw
      rw [if_pos (by simpa using h)]
    rw [this] at q
    exact q
  · have hL : lineLaw k room (z :: r) = rowG (limL k room) (z :: r) (max ((z :: r).length - 1) (if k = 0 ∨ k = 3 then 2 else 1)) 1 [] := by
      unfold lineLaw
      rw [if_neg (by simp [h])]
    repeat wtm_at "z"
    refine bv_inI (zs := [0, 3]) ?_
    repeat wtm_at "z"
    refine br_join (fun y s' => s' = s ∧ y = .d (.int ((if k = 0 ∨ k = 3 then 2 else 1 : Nat) : Int))) (fun h => ?_) (fun h => ?_) ?_
    · have h : k = 0 ∨ k = 3 := by
        have := of_decide_eq_true h
        simp at this; omega
      repeat wtm_at "z"
      refine ⟨rfl, ?_⟩
      rw [if_pos h]; rfl
    · have h : ¬ (k = 0 ∨ k = 3) := fun e => by
        have := of_decide_eq_false h
        simp at this; omega
      repeat wtm_at "z"
      refine ⟨rfl, ?_⟩
      rw [if_neg h]; rfl
    · rintro y s' ⟨rfl, rfl⟩
      generalize hle : (if k = 0 ∨ k = 3 then 2 else 1 : Nat) = least at hL
      have hl12 : 1 ≤ least ∧ least ≤ 2 := by
        rw [← hle]; split <;> omega
      repeat wtm_at "z"
      refine cv (op := oMax) rfl rfl ?_
      have em : (if (least : Int) + 1 > ((PyData.str z :: r.map PyData.str).length : Nat) then (least : Int) + 1 else ((PyData.str z :: r.map PyData.str).length : Nat)) = ((max r.length least : Nat) : Int) + 1 := by
        rw [List.length_cons, List.length_map]; split <;> omega
      rw [em]
      have eN : max ((z :: r).length - 1) least = max r.length least := by rw [List.length_cons]; omega
      rw [eN] at hL
      generalize hN : max r.length least = N at hL
      rw [List.length_cons] at hlen
      repeat wtm_at "z"
      · refine for_inv (fun n ρ s1 => s1 = s' ∧ ∃ acc y5 y6 y7 y8, (∀ n ∈ acc, -60 ≤ n ∧ n ≤ 60) ∧ acc.length = n ∧ ρ = [.v (.d (.list (.str z :: r.map .str))), .v (.d (.int k)), .v (.d (.int room)), .l (acc.map .int), .v (.d (.int least)), y5, y6, y7, y8] ∧ lineLaw k room (z :: r) = rowG (limL k room) (z :: r) (N - n) (1 + n) acc) (rngD 1 (((N : Nat) : Int) + 1 - 1).toNat) 0 ?_ ?_ ?_
        · exact ⟨rfl, [], .no, .no, .no, .no, by simp, rfl, rfl, hL⟩
        · rintro n d hd ρ s1 ⟨rfl, acc, y5, y6, y7, y8, hacc, hal, rfl, hg⟩
          obtain ⟨hn, rfl⟩ := rng_at hd
          rw [Nat.zero_add] at hg hal ⊢
          have hNn : N - n = (N - n - 1) + 1 := by omega
          rw [hNn] at hg
          refine ⟨_, rfl, ?_⟩
          simp only [List.set_cons_succ, List.set_cons_zero]
          have ek : (1 + (n : Int)) = ((1 + n : Nat) : Int) := by omega
          rw [ek]
          repeat wtm_at "z"
          refine w_fnB ?_
          repeat wtm_at "z"
          refine w_of (limits_eq k hk room acc (1 + n) (by omega) (fun m hm => by have := hacc m hm; omega) s1) ?_
          have hwd : ∃ y, Ok y ∧ (([PyData.str z] ++ r.map .str) ++ [.str (Str.ofString ""), .str (Str.ofString ""), .str (Str.ofString "")])[min (1 + n) (r.length + 1)]? = some (.str y) ∧ y = ((z :: r)[1 + n]?).getD "" := by
            have e0 : ([PyData.str z] ++ r.map PyData.str) = (z :: r).map .str := rfl
            rw [e0]
            by_cases hj : 1 + n < (z :: r).length
            · refine ⟨(z :: r)[1 + n], hws.ok _ (List.getElem_mem hj), ?_, by rw [List.getElem?_eq_getElem hj]; rfl⟩
              rw [List.length_cons] at hj
              rw [Nat.min_eq_left (by omega), List.getElem?_append_left (by rw [List.length_map, List.length_cons]; omega), List.getElem?_map, List.getElem?_eq_getElem (by rw [List.length_cons]; omega)]
              rfl
            · refine ⟨_, ok_lit "", ?_, by rw [List.getElem?_eq_none (by omega)]; rfl⟩
              rw [List.length_cons] at hj
              rw [Nat.min_eq_right (by omega), List.getElem?_append_right (by rw [List.length_map, List.length_cons]; omega), List.length_map, List.length_cons, Nat.sub_self]
              rfl
          obtain ⟨y, hy, hget, hyd⟩ := hwd
          cases hlim : limL k room (1 + n) acc with
          | none =>
            have hbad : lineLaw k room (z :: r) = .error (1 + n) := by rw [hg]; exact rowG_no hlim
            refine hv (d := .none) rfl ?_
            repeat wtm_at "z"
            refine bv_mul3 ?_
            repeat wtm_at "z"
            · refine cv (op := oMin) rfl rfl ?_
              have emn : (if ((PyData.str z :: r.map PyData.str).length : Int) < ((1 + n : Nat) : Int) then ((PyData.str z :: r.map PyData.str).length : Int) else ((1 + n : Nat) : Int)) = ((min (1 + n) (r.length + 1) : Nat) : Int) := by
                rw [List.length_cons, List.length_map]; split <;> omega
              rw [emn]
              repeat wtm_at "z"
              refine bv (op := opIx) (r := .str y) ?_ ?_
              · show L2.atI _ _ = _
                rw [DL.atI_nat]; exact hget
              repeat wtm_at "z"
              refine bv (r := .bool true) rfl ?_
              repeat wtm_at "z"
              refine bv (r := .bool true) rfl ?_
              repeat wtm_at "z"
              rw [hbad] at q
              exact q
            · simp; omega
          | some b =>
            obtain ⟨lo, hi⟩ := b
            have hb := lim_bound hk hr hacc hlim
            have hyn : lawNum (sg y) lo hi = takeP (z :: r) (1 + n) lo hi := by rw [hyd]; exact lawNum_at _ _ _ _ hb.2.2 (by omega)
            refine hv (hard_iT [lo, hi]) ?_
            repeat wtm_at "z"
            refine bv_mul3 ?_
            repeat wtm_at "z"
            · refine cv (op := oMin) rfl rfl ?_
              have emn : (if ((PyData.str z :: r.map PyData.str).length : Int) < ((1 + n : Nat) : Int) then ((PyData.str z :: r.map PyData.str).length : Int) else ((1 + n : Nat) : Int)) = ((min (1 + n) (r.length + 1) : Nat) : Int) := by
                rw [List.length_cons, List.length_map]; split <;> omega
              rw [emn]
              repeat wtm_at "z"
              refine bv (op := opIx) (r := .str y) ?_ ?_
              · show L2.atI _ _ = _
                rw [DL.atI_nat]; exact hget
              repeat wtm_at "z"
              refine bv (r := .bool false) rfl ?_
              repeat wtm_at "z"
              refine lnumber_w y hy lo hi s1 ?_
              rw [hyn]
              cases ht : takeP (z :: r) (1 + n) lo hi with
              | none =>
                have hbad : lineLaw k room (z :: r) = .error (1 + n) := by rw [hg]; exact rowG_bad hlim ht
                simp only [optI]
                repeat wtm_at "z"
                refine bv (r := .bool true) rfl ?_
                repeat wtm_at "z"
                rw [hbad] at q
                exact q
              | some x =>
                have hx : lo ≤ x ∧ x ≤ hi := by
                  unfold takeP at ht
                  have := Option.filter_eq_some_iff.mp ht
                  exact of_decide_eq_true this.2
                simp only [optI]
                repeat wtm_at "z"
                refine bv (r := .bool false) rfl ?_
                repeat wtm_at "z"
                refine ⟨_, rfl, by rw [List.length_map]; omega, ?_⟩
                repeat wtm_at "z"
                refine ⟨rfl, acc ++ [x], _, _, _, _, fun m hm => ?_, by rw [List.length_append]; simp; omega, by rw [List.map_append]; rfl, ?_⟩
                · rcases List.mem_append.mp hm with h | h
                  · exact hacc m h
                  · have : m = x := by simpa using h
                    omega
                · rw [hg, rowG_ok hlim ht]
                  congr 1
            · simp; omega
        · rintro ρ s1 ⟨rfl, acc, y5, y6, y7, y8, hacc, hal, rfl, hg⟩
          rw [rng_len, Nat.zero_add] at hg
          have hz : N - (((N : Nat) : Int) + 1 - 1).toNat = 0 := by omega
          rw [hz] at hg
          repeat wtm_at "z"
          have : lineLaw k room (z :: r) = .ok acc := hg
          rw [this] at q
          exact q
      · omega
def setP (k : Nat) (p : Pt) (l : List Int) : Pt := match k with
  | 0 => { p with ws := l }
  | 1 => { p with room := l.headD 1 }
  | 2 => { p with zs := l }
  | 3 => { p with b := l }
  | 4 => { p with pat := l.headD 1 }
  | _ => { p with look := l.headD 1 }
theorem lineR_law (k : Nat) (hk : k < 6) (p : Pt) (ws : List Str) (hc : k = 5 → ws.head? = some (nameOf k) → crowd p ws = false) : lineR k p ws = rowE k (lineLaw k p.room ws) (setP k p) := by
  unfold lineR lineLaw
  by_cases h : ws.head? ≠ some (nameOf k)
  · rw [if_pos h, if_pos h]; rfl
  · rw [if_neg h, if_neg h]
    have h' : ws.head? = some (nameOf k) := Classical.not_not.mp h
    have hk' : k = 0 ∨ k = 1 ∨ k = 2 ∨ k = 3 ∨ k = 4 ∨ k = 5 := by omega
    rcases hk' with rfl | rfl | rfl | rfl | rfl | rfl
    · rfl
    · rfl
    · rfl
    · rfl
    · rfl
    · unfold lineQ
      rw [hc rfl h']
      rfl
/-- as the law keeps them -/
def Pt.allL (p : Pt) : List PyData := [iT p.ws, iT [p.room], iT p.zs, iT p.b, iT [p.pat], iT [p.look]]
theorem cut_takeN {α : Type} (xs : List α) (n : Nat) : cutL xs none (some (n : Int)) = xs.take n := by
  unfold cutL
  rw [HT.sIx_none, HT.sIx_nat, List.drop_zero, Nat.sub_zero]
  by_cases h : n ≤ xs.length
  · rw [Nat.min_eq_left h]
  · rw [Nat.min_eq_right (by omega), List.take_of_length_le (Nat.le_refl _), List.take_of_length_le (by omega)]
theorem w_enu {S : Type} {T : Exn → S → Prop} {ρ : DL.Env} {s : S} {f : Ex S} {Q : List PyData → S → Prop} (h : WT T (f ρ s) fun x s1 => ∃ ds, x = .d (.list ds) ∧ Q (enumD ds) s1) : WT T (iEnu f ρ s) Q :=
  w_bind (h.mono fun x s1 ⟨ds, hx, q⟩ => by subst hx; exact ⟨q⟩)
def readD : Except (Int × Int) Pt → PyData
  | .ok p => .tuple p.all
  | .error e => .list [.int e.1, .int e.2]
theorem allL_take (p p' : Pt) (k : Nat) (hk : k < 6) (l : List Int) (h : p' = setP k p l) (h1 : k = 1 ∨ k = 4 ∨ k = 5 → ∃ n, l = [n]) : p.allL.take k ++ [iT l] = p'.allL.take (k + 1) := by
  subst h
  have hk' : k = 0 ∨ k = 1 ∨ k = 2 ∨ k = 3 ∨ k = 4 ∨ k = 5 := by omega
  rcases hk' with rfl | rfl | rfl | rfl | rfl | rfl
  · rfl
  · obtain ⟨n, rfl⟩ := h1 (by omega); rfl
  · rfl
  · rfl
  · obtain ⟨n, rfl⟩ := h1 (by omega); rfl
  · obtain ⟨n, rfl⟩ := h1 (by omega); rfl
theorem lread_w (t : Str) (ht : Ok t) (s : Dk) {Q : Val → Dk → Prop} (q : Q (.d (readD (readR t))) s) : W (m__law_read [.d (.str t)] s) Q := by
  unfold m__law_read b__law_read
  have hsz := ht.sz
  have hlen := ht.len
  have hR := okl_split (y := "\n") ht
  have hne := split_ne t "\n"
  have hsb := sizeLine_big
  repeat wtm_at "z"
  refine mv_split ?_ ⟨by decide, by omega⟩
  have hrr : rowsOf t = rowsOf t := rfl
  conv at hrr => rhs; unfold rowsOf
  have hrd : readR t = readR t := rfl
  conv at hrd => rhs; unfold readR
  generalize Txt.split t (Str.ofString "\n") = R at hR hne hrr ⊢
  obtain ⟨R0, z, rfl⟩ : ∃ R0 z, R = R0 ++ [z] := ⟨R.dropLast, R.getLast hne, (List.dropLast_concat_getLast hne).symm⟩
  have cz := (hR.ok z (by simp)).cp
  have main : ∀ (rows : List Str) (en : Bool) (s' : Dk), s' = s → rowsOf t = (rows, en) → OkL rows → W
      ((sSeq (sFor (iEnu (eSl (bVar 1) oNone (oSome (eC (.int 6))))) (btT (btsC (btN 5) (btsC (btN 6) btsN)))
    (sSeq (sSet 7 (eM1 opSplit (bVar 6) (eC (.str " "))))
    (sSeq (sIf (xAnd (tOf (eBin opEq (bVar 5) (eC (.int 5)))) (tOf (eFnB 2 m__law_is_crowded (aCons (bVar 2) (aCons (bVar 7) aNil)))))
    (sRet (eL (lSeq (aCons (eC (.int 5)) (aCons (eC (.int 1)) aNil)))))
    sNil)
    (sSeq (sSet 8 (eFn 3 m__law_line (aCons (eVar 7) (aCons (eVar 5) (aCons (eVar 3) aNil)))))
    (sSeq (sIf (tOf (eIsi "int" (bVar 8)))
    (sRet (eL (lSeq (aCons (eVar 5) (aCons (eVar 8) aNil)))))
    sNil)
    (sSeq (sApp 2 (eVar 8))
    (sSet 3 (eIf (tOf (eBin opEq (bVar 5) (eC (.int 1)))) (eBin opIx (eBin opIx (bVar 2) (eC (.int 1))) (eC (.int 0))) (eVar 3)))))))))
    (sSeq (sIf (tOf (eBin (opRel fun i j => decide (j < i)) (eCall oLen (aCons (bVar 1) aNil)) (eC (.int 6))))
    (sRet (eL (lSeq (aCons (eC (.int 6)) (aCons (eC (.int 0)) aNil)))))
    sNil)
    (sSeq (sIf (xOr (tOf (eBin (opRel fun i j => decide (i < j)) (eCall oLen (aCons (bVar 1) aNil)) (eC (.int 6)))) (xNot (tOf (bVar 4))))
    (sRet (eL (lSeq (aCons (eCall oLen (aCons (bVar 1) aNil)) (aCons (eC (.int 0)) aNil)))))
    sNil)
    (sRet (eSeq .tuple (aCons (eBin opIx (bVar 2) (eC (.int 0))) (aCons (eBin opIx (eBin opIx (bVar 2) (eC (.int 1))) (eC (.int 0))) (aCons (eBin opIx (bVar 2) (eC (.int 2))) (aCons (eBin opIx (bVar 2) (eC (.int 3))) (aCons (eBin opIx (eBin opIx (bVar 2) (eC (.int 4))) (eC (.int 0))) (aCons (eBin opIx (eBin opIx (bVar 2) (eC (.int 5))) (eC (.int 0))) aNil)))))))))))
    [.v (.d (.str t)), .v (.d (wsD rows)), .l [], .v (.d (.int 1)), .v (.d (.bool en)), .no, .no, .no, .no] s') (RtK Q) := by
    rintro rows en s' rfl hrw hrows
    rw [hrw] at hrd
    dsimp only at hrd
    refine w_sq (w_for (w_enu ?_))
    repeat wtm_at "z"
    refine ⟨_, rfl, ?_⟩
    have e6 : cutL (rows.map PyData.str) none (some 6) = (rows.take 6).map .str := by
      have := cut_takeN (rows.map PyData.str) 6
      rw [← List.map_take] at this
      exact this
    rw [e6]
    refine for_inv (fun n ρ s1 => s1 = s' ∧ ∃ p y5 y6 y7 y8, GoodPt p ∧ ρ = [.v (.d (.str t)), .v (.d (wsD rows)), .l (p.allL.take n), .v (.d (.int p.room)), .v (.d (.bool en)), y5, y6, y7, y8] ∧ goR 0 (rows.take 6) p0 = goR n ((rows.take 6).drop n) p) (enumD ((rows.take 6).map .str)) 0 ?_ ?_ ?_
    · exact ⟨rfl, p0, .no, .no, .no, .no, ⟨by decide, by decide⟩, rfl, rfl⟩
    · rintro n d hd ρ s1 ⟨rfl, p, y5, y6, y7, y8, hp, rfl, hg⟩
      rw [enumD_get, List.getElem?_map] at hd
      have hn6 : n < (rows.take 6).length := by
        by_cases h : n < (rows.take 6).length
        · exact h
        · rw [List.getElem?_eq_none (by omega)] at hd; cases hd
      rw [List.getElem?_eq_getElem hn6] at hd
      have hd : PyData.tuple [.int (n : Nat), .str (rows.take 6)[n]] = d := Option.some.inj hd
      subst hd
      rw [Nat.zero_add] at hg ⊢
      have hn : n < 6 := by rw [List.length_take] at hn6; omega
      have hdr : (rows.take 6).drop n = (rows.take 6)[n] :: (rows.take 6).drop (n + 1) := List.drop_eq_getElem_cons hn6
      generalize hrn : (rows.take 6)[n] = rn at hdr
      have hok : Ok rn := by rw [← hrn]; exact hrows.ok _ (List.mem_of_mem_take (List.getElem_mem hn6))
      have hg2 : goR 0 (rows.take 6) p0 = match lineR n p (wds rn) with
        | .ok p' => goR (n + 1) ((rows.take 6).drop (n + 1)) p'
        | .error e => .error e := by rw [hg, hdr]; rfl
      have hwo : OkL (wds rn) := okl_split hok
      have hwn : wds rn ≠ [] := split_ne _ _
      have hbad : ∀ e, lineR n p (wds rn) = .error e → Q (.d (.list [.int e.1, .int e.2])) s1 := fun e he => by
        rw [hrd, hg2, he] at q
        exact q
      refine ⟨_, rfl, ?_⟩
      simp only [List.set_cons_succ, List.set_cons_zero]
      repeat wtm_at "z"
      refine mv_split ?_ ⟨by decide, by have := hok.len; omega⟩
      repeat wtm_at "z"
      have hro := hp.room
      have hzl := hp.zs
      refine br_joinA (fun b s2 => s2 = s1 ∧ b = (decide (n = 5) && (decide ((wds rn).head? = some (Str.ofString "look")) && crowd p (wds rn)))) (fun h => ?_) (fun h => ?_) ?_
      · have h := of_decide_eq_true h
        have h5 : n = 5 := by omega
        subst h5
        have e5 : p.allL.take 5 = [iT p.ws, iT [p.room], iT p.zs, iT p.b, iT [p.pat]] := rfl
        rw [e5]
        repeat wtm_at "z"
        refine w_fnB ?_
        repeat wtm_at "z"
        refine lcrowd_w p.ws p.room p.zs (iT p.b) p.pat (by omega) (by omega) (wds rn) hwo hwn s1 ?_
        refine hv rfl ?_
        repeat wtm_at "z"
        refine ⟨rfl, ?_⟩
        rfl
      · have h := of_decide_eq_false h
        refine ⟨rfl, ?_⟩
        rw [decide_eq_false (show ¬ n = 5 by omega)]; rfl
      · rintro b s2 ⟨rfl, rfl⟩
        refine br (fun h => ?_) fun h => ?_
        · have h : n = 5 ∧ (wds rn).head? = some (Str.ofString "look") ∧ crowd p (wds rn) = true := by
            simpa [Bool.and_eq_true] using h
          obtain ⟨rfl, h1, h2⟩ := h
          repeat wtm_at "z"
          refine hbad (5, 1) ?_
          unfold lineR
          rw [if_neg (by rw [h1]; exact fun e => e rfl)]
          show (if crowd p (wds rn) then _ else _) = _
          rw [if_pos h2]
        · have hc : n = 5 → (wds rn).head? = some (nameOf n) → crowd p (wds rn) = false := by
            rintro rfl h1
            have h1 : (wds rn).head? = some (Str.ofString "look") := h1
            cases hcr : crowd p (wds rn) with
            | false => rfl
            | true =>
              rw [hcr, decide_eq_true rfl, decide_eq_true h1] at h
              cases h
          have hlr := lineR_law n hn p (wds rn) hc
          repeat wtm_at "z"
          refine lline_w n hn p.room hp.room (wds rn) hwo hwn s2 ?_
          cases hll : lineLaw n p.room (wds rn) with
          | error j =>
            rw [hll] at hlr
            repeat wtm_at "z"
            refine w_isi ?_
            repeat wtm_at "z"
            refine uv (r := .bool true) rfl ?_
            repeat wtm_at "z"
            exact hbad _ hlr
          | ok l =>
            rw [hll] at hlr
            have hlr : lineR n p (wds rn) = .ok (setP n p l) := hlr
            have hgp := lineR_good hp hlr
            have h1 : n = 1 ∨ n = 4 ∨ n = 5 → ∃ x, l = [x] := by
              unfold lineLaw at hll
              split at hll
              · cases hll
              · rintro (rfl | rfl | rfl)
                · obtain ⟨x, e, _⟩ := rowO_one (most := 4) hll
                  exact ⟨x, e⟩
                · obtain ⟨x, e, _⟩ := rowO_one (most := 6) hll
                  exact ⟨x, e⟩
                · obtain ⟨x, e, _⟩ := rowO_one (most := 3) hll
                  exact ⟨x, e⟩
            have et := allL_take p (setP n p l) n hn l rfl h1
            rw [hlr] at hg2
            repeat wtm_at "z"
            refine w_isi ?_
            repeat wtm_at "z"
            refine uv (r := .bool false) rfl ?_
            repeat wtm_at "z"
            refine ⟨_, rfl, by rw [List.length_take]; have : p.allL.length = 6 := rfl; omega, ?_⟩
            repeat wtm_at "z"
            rw [show lineLawD (.ok l) = iT l from rfl, et]
            refine br_join (fun y s3 => s3 = s2 ∧ y = .d (.int (setP n p l).room)) (fun h => ?_) (fun h => ?_) ?_
            · have h := of_decide_eq_true h
              obtain rfl : n = 1 := by omega
              have e2 : (setP 1 p l).allL.take (1 + 1) = [iT (setP 1 p l).ws, iT [(setP 1 p l).room]] := rfl
              rw [e2]
              repeat wtm_at "z"
              exact ⟨rfl, rfl⟩
            · have h := of_decide_eq_false h
              have er : (setP n p l).room = p.room := by
                have hk' : n = 0 ∨ n = 2 ∨ n = 3 ∨ n = 4 ∨ n = 5 := by omega
                rcases hk' with rfl | rfl | rfl | rfl | rfl <;> rfl
              repeat wtm_at "z"
              exact ⟨rfl, by rw [er]⟩
            · rintro y s3 ⟨rfl, rfl⟩
              repeat wtm_at "z"
              exact ⟨rfl, _, _, _, _, _, hgp, rfl, hg2⟩
    · rintro ρ s1 ⟨rfl, p, y5, y6, y7, y8, hp, rfl, hg⟩
      have hk : (enumD ((rows.take 6).map PyData.str)).length = min 6 rows.length := by rw [enumD_len, List.length_map, List.length_take]
      rw [Nat.zero_add, hk] at hg ⊢
      have hdn : (rows.take 6).drop (min 6 rows.length) = [] := List.drop_of_length_le (by rw [List.length_take]; omega)
      rw [hdn] at hg
      have hrd2 : readR t = endR rows en p := by rw [hrd, hg]; rfl
      rw [hrd2] at q
      unfold endR at q
      repeat wtm_at "z"
      rw [List.length_map]
      refine br_dec (fun h => ?_) fun h => ?_
      · repeat wtm_at "z"
        rw [if_pos (by omega)] at q
        exact q
      · rw [if_neg (by omega)] at q
        repeat wtm_at "z"
        rw [List.length_map]
        refine br_joinO (fun b s2 => s2 = s1 ∧ b = decide (en = false ∨ rows.length < 6)) (fun h => ?_) (fun h => ?_) ?_
        · have h := of_decide_eq_true h
          refine ⟨rfl, ?_⟩
          rw [decide_eq_true (Or.inr (by omega))]
        · have h := of_decide_eq_false h
          repeat wtm_at "z"
          refine ⟨rfl, ?_⟩
          cases en
          · simp
          · simp; omega
        · rintro b s2 ⟨rfl, rfl⟩
          refine br_dec (fun h => ?_) fun h => ?_
          · repeat wtm_at "z"
            rw [List.length_map]
            rw [if_pos h] at q
            exact q
          · rw [if_neg h] at q
            have h6 : rows.length = 6 := by
              have : ¬ rows.length < 6 := fun e => h (.inr e)
              omega
            have e6 : p.allL.take (min 6 rows.length) = p.allL := by rw [h6]; rfl
            rw [e6]
            unfold Pt.allL
            repeat wtm_at "z"
            exact q
  have e1 : ((R0 ++ [z]).getLast? = some (Str.ofString "") ∧ 1 < (R0 ++ [z]).length) ↔ (z = Str.ofString "" ∧ 1 < (R0 ++ [z]).length) := by simp
  repeat wtm_at "z"
  rw [List.length_map]
  refine br_joinV (fun y s' => s' = s ∧ y = .d (.bool (decide (z = Str.ofString "" ∧ 1 < (R0 ++ [z]).length)))) (fun hz => ?_) (fun hz => ?_) ?_
  · have hz := of_decide_eq_true hz
    repeat wtm_at "z"
    refine bv (op := opIx) (r := .str z) ?_ ?_
    · rw [List.map_append]; exact atI_lastX _ _
    repeat wtm_at "z"
    refine bv_eqX cz (ok_lit "").cp ?_
    refine ⟨rfl, ?_⟩
    congr 3
    apply propext
    constructor
    · intro h; exact ⟨h, by omega⟩
    · intro h; exact h.1
  · have hz := of_decide_eq_false hz
    refine ⟨rfl, ?_⟩
    rw [decide_eq_false (fun e => hz (by have := e.2; omega))]
  · rintro y s' ⟨rfl, rfl⟩
    repeat wtm_at "z"
    refine br_join (fun y s1 => s1 = s' ∧ ∃ rows, y = .d (wsD rows) ∧ rowsOf t = (rows, decide (z = Str.ofString "" ∧ 1 < (R0 ++ [z]).length)) ∧ OkL rows) (fun h => ?_) (fun h => ?_) ?_
    · have hc := of_decide_eq_true h
      repeat wtm_at "z"
      rw [cut_init]
      refine ⟨rfl, R0, ?_, ?_, fun z hz => hR.ok z (List.mem_append_left _ hz), by have := hR.len; rw [List.length_append] at this; omega⟩
      · simp [wsD]
      · rw [hrr, if_pos (e1.mpr hc), h]
        simp
    · have hc := of_decide_eq_false h
      repeat wtm_at "z"
      refine ⟨rfl, R0 ++ [z], rfl, ?_, hR⟩
      rw [hrr, if_neg fun e => hc (e1.mp e), h]
    · rintro y s1 ⟨rfl, rows, rfl, hrw, hok⟩
      exact main rows _ s1 rfl hrw hok
def Few (l : List Int) : Prop := l.length ≤ 6 ∧ ∀ n ∈ l, -60 ≤ n ∧ n ≤ 60
structure PtB (p : Pt) : Prop where
  ws : Few p.ws
  zs : Few p.zs
  b : Few p.b
  room : -60 ≤ p.room ∧ p.room ≤ 60
  pat : -60 ≤ p.pat ∧ p.pat ≤ 60
  look : -60 ≤ p.look ∧ p.look ≤ 60
theorem ptB0 : PtB p0 := ⟨⟨by decide, by simp [p0]⟩, ⟨by decide, by simp [p0]⟩, ⟨by decide, by simp [p0]⟩, by decide, by decide, by decide⟩
theorem rowG_most {lim : Nat → List Int → Option (Int × Int)} {ws : List Str} (M : Nat) (hl : ∀ k acc b, lim k acc = some b → k ≤ M) : ∀ (n k : Nat) (acc : List Int) (l : List Int), acc.length + 1 = k → acc.length ≤ M → rowG lim ws n k acc = .ok l → l.length ≤ M
  | 0, k, acc, l, _, h, e => by cases e; exact h
  | n + 1, k, acc, l, hk, h, e => by
    cases hlim : lim k acc with
    | none => rw [rowG_no hlim] at e; cases e
    | some b =>
      obtain ⟨lo, hi⟩ := b
      cases ht : takeP ws k lo hi with
      | none => rw [rowG_bad hlim ht] at e; cases e
      | some x =>
        rw [rowG_ok hlim ht] at e
        have := hl _ _ _ hlim
        exact rowG_most M hl n (k + 1) _ l (by rw [List.length_append]; simp; omega) (by rw [List.length_append]; simp; omega) e
theorem rowG_errB {lim : Nat → List Int → Option (Int × Int)} {ws : List Str} : ∀ (n k : Nat) (acc : List Int) (j : Nat), rowG lim ws n k acc = .error j → j ≤ k + n
  | 0, k, acc, j, e => by cases e
  | n + 1, k, acc, j, e => by
    cases hlim : lim k acc with
    | none => rw [rowG_no hlim] at e; cases e; omega
    | some b =>
      obtain ⟨lo, hi⟩ := b
      cases ht : takeP ws k lo hi with
      | none => rw [rowG_bad hlim ht] at e; cases e; omega
      | some x =>
        rw [rowG_ok hlim ht] at e
        have := rowG_errB n (k + 1) _ j e
        omega
theorem lineLaw_few {k : Nat} (hk : k < 6) {room : Int} (hr : 1 ≤ room ∧ room ≤ 4) {ws : List Str} {l : List Int} (h : lineLaw k room ws = .ok l) : Few l := by
  unfold lineLaw at h
  split at h
  · cases h
  · refine ⟨?_, ?_⟩
    · have hk' : k = 2 ∨ k ≠ 2 := by omega
      rcases hk' with rfl | hk2
      · have := rowS_len (room := room) (ws := ws) (l := l) (by omega) h
        omega
      · refine rowG_most (lim := limL k room) (ws := ws) 6 (fun j acc b hb => ?_) _ 1 [] l rfl (Nat.zero_le _) h
        have hk' : k = 0 ∨ k = 1 ∨ k = 3 ∨ k = 4 ∨ k = 5 := by omega
        rcases hk' with rfl | rfl | rfl | rfl | rfl
        · have hb : limW j acc = some b := hb
          unfold limW at hb
          split at hb
          · assumption
          · cases hb
        · have hb : limO 4 j acc = some b := hb
          unfold limO at hb
          split at hb
          · omega
          · cases hb
        · have hb : limB j acc = some b := hb
          unfold limB at hb
          split at hb
          · omega
          · split at hb
            · omega
            · cases hb
        · have hb : limO 6 j acc = some b := hb
          unfold limO at hb
          split at hb
          · omega
          · cases hb
        · have hb : limO 3 j acc = some b := hb
          unfold limO at hb
          split at hb
          · omega
          · cases hb
    · refine rowG_range (fun acc => ∀ n ∈ acc, -60 ≤ n ∧ n ≤ 60) (fun j acc lo hi x hl hP h1 h2 n hn => ?_) _ _ _ _ (by simp) h
      have := lim_bound hk hr hP hl
      rcases List.mem_append.mp hn with hn | hn
      · exact hP n hn
      · have : n = x := by simpa using hn
        omega
theorem headD_few {l : List Int} (h : Few l) : -60 ≤ l.headD 1 ∧ l.headD 1 ≤ 60 := by
  cases l with
  | nil => decide
  | cons x l => exact h.2 x (by simp)
theorem setP_B {k : Nat} {p : Pt} {l : List Int} (hp : PtB p) (hl : Few l) : PtB (setP k p l) := by
  have hd := headD_few hl
  unfold setP
  split
  · exact ⟨hl, hp.zs, hp.b, hp.room, hp.pat, hp.look⟩
  · exact ⟨hp.ws, hp.zs, hp.b, hd, hp.pat, hp.look⟩
  · exact ⟨hp.ws, hl, hp.b, hp.room, hp.pat, hp.look⟩
  · exact ⟨hp.ws, hp.zs, hl, hp.room, hp.pat, hp.look⟩
  · exact ⟨hp.ws, hp.zs, hp.b, hp.room, hd, hp.look⟩
  · exact ⟨hp.ws, hp.zs, hp.b, hp.room, hp.pat, hd⟩
theorem lineR_cases (k : Nat) (hk : k < 6) (p : Pt) (ws : List Str) : (∃ l, lineLaw k p.room ws = .ok l ∧ lineR k p ws = .ok (setP k p l)) ∨ ∃ j : Nat, j ≤ ws.length + 3 ∧ lineR k p ws = .error ((k : Int), (j : Int)) := by
  by_cases hc : k = 5 → ws.head? = some (nameOf k) → crowd p ws = false
  · have h := lineR_law k hk p ws hc
    cases hl : lineLaw k p.room ws with
    | ok l => exact .inl ⟨l, rfl, by rw [h, hl]; rfl⟩
    | error j =>
      refine .inr ⟨j, ?_, by rw [h, hl]; rfl⟩
      unfold lineLaw at hl
      split at hl
      · cases hl; omega
      · have := rowG_errB _ _ _ _ hl
        split at this <;> omega
  · obtain ⟨rfl, h1, h2⟩ : k = 5 ∧ ws.head? = some (nameOf k) ∧ crowd p ws = true := by
      by_cases h5 : k = 5
      · refine ⟨h5, ?_⟩
        by_cases hh : ws.head? = some (nameOf k)
        · refine ⟨hh, ?_⟩
          cases hcr : crowd p ws with
          | true => rfl
          | false => exact absurd (fun _ _ => hcr) hc
        · exact absurd (fun _ e => absurd e hh) hc
      · exact absurd (fun e => absurd e h5) hc
    refine .inr ⟨1, by omega, ?_⟩
    unfold lineR
    rw [if_neg (by rw [h1]; exact fun e => e rfl)]
    show (if crowd p ws then _ else _) = _
    rw [if_pos h2]
    rfl
theorem goR_B : ∀ (rows : List Str) (k : Nat) (p : Pt), k + rows.length ≤ 6 → GoodPt p → PtB p → OkL rows → (∀ p', goR k rows p = .ok p' → PtB p') ∧ ∀ e, goR k rows p = .error e → ∃ i j : Nat, e = ((i : Int), (j : Int)) ∧ i ≤ 6 ∧ j ≤ 200000
  | [], k, p, _, _, h, _ => ⟨fun p' e => by cases e; exact h, fun e he => by cases he⟩
  | r :: rs, k, p, hk, hg, h, ho => by
    rw [List.length_cons] at hk
    have hw : (wds r).length ≤ 100002 := (okl_split (ho.ok r (by simp))).len
    have ho' : OkL rs := ⟨fun z hz => ho.ok z (List.mem_cons_of_mem _ hz), by have := ho.len; rw [List.length_cons] at this; omega⟩
    rcases lineR_cases k (by omega) p (wds r) with ⟨l, hl, e⟩ | ⟨j, hj, e⟩
    · have e2 : goR k (r :: rs) p = goR (k + 1) rs (setP k p l) := by
        conv => lhs; unfold goR
        rw [e]
      rw [e2]
      exact goR_B rs (k + 1) _ (by omega) (lineR_good hg e) (setP_B h (lineLaw_few (by omega) hg.room hl)) ho'
    · have e2 : goR k (r :: rs) p = .error ((k : Int), (j : Int)) := by
        conv => lhs; unfold goR
        rw [e]
      rw [e2]
      exact ⟨fun p' e => (by cases e), fun e he => (by cases he; exact ⟨k, j, rfl, by omega, by omega⟩)⟩
theorem okl_rows {t : Str} (ht : Ok t) : OkL (rowsOf t).1 := by
  have hR := okl_split (y := "\n") ht
  unfold rowsOf
  split
  · exact ⟨fun z hz => hR.ok z (List.dropLast_sublist _ |>.subset hz), by have := hR.len; rw [List.length_dropLast]; omega⟩
  · exact hR
theorem okl_take {rows : List Str} (h : OkL rows) (n : Nat) : OkL (rows.take n) := ⟨fun z hz => h.ok z (List.mem_of_mem_take hz), by have := h.len; rw [List.length_take]; omega⟩
theorem readR_B {t : Str} (ht : Ok t) : (∀ p, readR t = .ok p → PtB p) ∧ ∀ e, readR t = .error e → ∃ i j : Nat, e = ((i : Int), (j : Int)) ∧ i ≤ 200000 ∧ j ≤ 200000 := by
  have hr := okl_rows ht
  have h := goR_B ((rowsOf t).1.take 6) 0 p0 (by rw [List.length_take]; omega) ⟨by decide, by decide⟩ ptB0 (okl_take hr 6)
  unfold readR
  cases hg : goR 0 ((rowsOf t).1.take 6) p0 with
  | error e =>
    refine ⟨fun p e => (by cases e), fun e' he => ?_⟩
    cases he
    obtain ⟨i, j, h1, h2, h3⟩ := h.2 _ hg
    exact ⟨i, j, h1, by omega, h3⟩
  | ok p =>
    have hp := h.1 p hg
    dsimp only
    unfold endR
    have := hr.len
    split
    · exact ⟨fun p e => (by cases e), fun e he => (by cases he; exact ⟨6, 0, rfl, by omega, by omega⟩)⟩
    · split
      · exact ⟨fun p e => (by cases e), fun e he => (by cases he; exact ⟨(rowsOf t).1.length, 0, rfl, by omega, by omega⟩)⟩
      · exact ⟨fun p e => (by cases e; exact hp), fun e he => (by cases he)⟩
theorem few_sm {l : List Int} (h : Few l) : Sm 1 6 (iT l) := (sm_iT fun n m => by have := h.2 n m; omega).le (Nat.le_refl _) h.1
theorem sm_nums (i j : Nat) (hi : i ≤ 200000) (hj : j ≤ 200000) : Sm 2 40 (.list [.int i, .int j]) :=
  (sm_list (sl_cons (sm_int (by omega)) (sl_cons (sm_int (by omega)) sl_nil))).le (by decide) (by decide)
theorem readR_sm {t : Str} (ht : Ok t) : Sm 2 40 (readD (readR t)) := by
  have h := readR_B ht
  cases hr : readR t with
  | ok p =>
    have hp := h.1 p hr
    have s1 := few_sm hp.ws
    have s2 := few_sm hp.zs
    have s3 := few_sm hp.b
    have i1 : Sm 1 0 (.int p.room) := (sm_int (by have := hp.room; omega)).le (by decide) (by decide)
    have i2 : Sm 1 0 (.int p.pat) := (sm_int (by have := hp.pat; omega)).le (by decide) (by decide)
    have i3 : Sm 1 0 (.int p.look) := (sm_int (by have := hp.look; omega)).le (by decide) (by decide)
    exact (sm_tuple (sl_cons s1 (sl_cons i1 (sl_cons s2 (sl_cons s3 (sl_cons i2 (sl_cons i3 sl_nil))))))).le (by decide) (by decide)
  | error e =>
    obtain ⟨i, j, rfl, hi, hj⟩ := h.2 e hr
    exact sm_nums i j hi hj
theorem asked_w (t : Str) (ht : Ok t) (s : Dk) {Q : Val → Dk → Prop} (q : Q (.d (readD (readR t))) s) : W (m__law_asked [.d (.str t)] s) Q := by
  unfold m__law_asked b__law_asked
  repeat wtm_at "z"
  refine w_try ?_
  repeat wtm_at "z"
  refine ⟨⟨rfl, by simp⟩, ?_⟩
  refine rwheel_w t ht s (fun p hp => ?_) fun e he => ?_
  · rw [hp] at q
    exact q
  · rw [he] at q
    exact ⟨_, rfl, q⟩
theorem cut_len (z : Str) (lo hi : Option Int) : (cutS z lo hi).length ≤ z.length := by
  rw [← sg_len, ← sg_len, sg_cut, List.length_take, List.length_drop]; omega
/-- a text of at most n signs -/
structure Okn (n : Nat) (z : Str) : Prop where
  cp : CpOk z
  len : z.length ≤ n
theorem Okn.ok {n : Nat} {z : Str} (h : Okn n z) (hn : n ≤ 100000 := by decide) : Ok z := ⟨h.cp, Nat.le_trans h.len hn⟩
theorem Okn.sz {n : Nat} {z : Str} (h : Okn n z) (hn : n ≤ 100000 := by decide) : z.length ≤ sizeLine := (h.ok hn).sz
theorem okn_cut {n : Nat} {z : Str} (h : Okn n z) (hn : n ≤ 100000) (lo hi : Option Int) : Okn n (cutS z lo hi) := ⟨(ok_cut (h.ok hn) lo hi).cp, Nat.le_trans (cut_len z lo hi) h.len⟩
theorem okn_add {n m : Nat} {a b : Str} (ha : Okn n a) (hb : Okn m b) : Okn (n + m) (a ++ b) := ⟨cp_append ha.cp hb.cp, by rw [len_append]; have := ha.len; have := hb.len; omega⟩
def irg (n : Nat) : List Int := (List.range n).map fun (i : Nat) => (i : Int)
theorem irg_len (n : Nat) : (irg n).length = n := by unfold irg; simp
theorem irg_mem {n : Nat} {x : Int} (h0 : 0 ≤ x) (h1 : x < n) : x ∈ irg n := List.mem_map.mpr ⟨x.toNat, List.mem_range.mpr (by omega), by omega⟩
theorem rowsL_all (items : List Int) : ∀ n (row : List Int), row.length = n → (∀ x ∈ row, x ∈ items) → row ∈ rowsL items n
  | 0, row, h, _ => by rw [List.length_eq_zero_iff.mp h]; exact List.mem_singleton.mpr rfl
  | n + 1, row, h, hm => by
    have hne : row ≠ [] := fun e => by rw [e] at h; cases h
    rw [rowsL]
    refine List.mem_flatMap.mpr ⟨row.dropLast, rowsL_all items n _ (by rw [List.length_dropLast]; omega) (fun x hx => hm x (List.dropLast_subset row hx)), List.mem_map.mpr ⟨row.getLast hne, hm _ (List.getLast_mem hne), List.dropLast_concat_getLast hne⟩⟩
def boxL (w : Wh) : List Sd := (irg (w.pat.toNat + 1)).flatMap fun i => (rowsL (irg (w.room.toNat + 1)) w.ws.length).flatMap fun ls => (rowsL w.sizes w.look.toNat).map fun ln => ⟨ls, ln, i⟩
theorem box_len {w : Wh} {most : Int} (hw : GoodWh most w) : ((boxL w).length : Int) ≤ most := by
  have hr := hw.room
  have hp := hw.pat
  have e : (boxL w).length = (w.pat.toNat + 1) * ((w.room.toNat + 1) ^ w.ws.length * w.sizes.length ^ w.look.toNat) := by
    unfold boxL
    rw [List.length_flatMap, List.map_congr_left (g := fun _ => (w.room.toNat + 1) ^ w.ws.length * w.sizes.length ^ w.look.toNat) (fun i _ => by
      rw [List.length_flatMap, List.map_congr_left (g := fun _ => w.sizes.length ^ w.look.toNat) (fun ls _ => by rw [List.length_map, rowsL_len]), List.map_const', List.sum_replicate_nat, rowsL_len, irg_len]), List.map_const', List.sum_replicate_nat, irg_len]
  have h := hw.cnt
  unfold cntL at h
  rw [e]
  refine Int.le_trans (Int.le_of_eq ?_) h
  rw [Int.natCast_mul, Int.natCast_mul, Int.natCast_pow, Int.natCast_pow, Int.mul_assoc, show ((w.pat.toNat + 1 : Nat) : Int) = w.pat + 1 by omega, show ((w.room.toNat + 1 : Nat) : Int) = w.room + 1 by omega]
theorem box_mem {w : Wh} {most : Int} (hw : GoodWh most w) {t : Sd} (h : GoodSd w t) : t ∈ boxL w := by
  have hr := hw.room
  have hp := hw.pat
  have hk := h.look
  have ht := h.wt
  refine List.mem_flatMap.mpr ⟨t.wt, irg_mem ht.1 (by omega), List.mem_flatMap.mpr ⟨t.ls, rowsL_all _ _ _ h.n (fun x hx => ?_), List.mem_map.mpr ⟨t.ln, rowsL_all _ _ _ (by omega) h.ln, rfl⟩⟩⟩
  have := h.ls x hx
  exact irg_mem this.1 (by omega)
abbrev Pk := Sd × Int
abbrev Sk := List (Pk × Unit)
theorem putS_of {f : Sk} {r : Pk} {p : Pk × Unit} (h : p ∈ putK f r ()) : p.1 = r ∨ p ∈ f := by
  rcases mem_putK h with h | h
  · exact .inl (by rw [h])
  · exact .inr h.1
/-- keys in bounds -/
structure SeeOk (w : Wh) (j : Int) (f : Sk) : Prop where
  nod : (f.map (·.1)).Nodup
  good : ∀ p ∈ f, GoodSd w p.1.1 ∧ 0 ≤ p.1.2 ∧ p.1.2 ≤ j
theorem SeeOk.put {w : Wh} {j : Int} {f : Sk} (h : SeeOk w j f) {r : Pk} (hr : GoodSd w r.1 ∧ 0 ≤ r.2 ∧ r.2 ≤ j) : SeeOk w j (putK f r ()) := ⟨putK_nodup r () h.nod, fun p hp => by
  rcases putS_of hp with e | e
  · rw [e]; exact hr
  · exact h.good p e⟩
theorem SeeOk.len {w : Wh} {most j : Int} (hw : GoodWh most w) (hm : most ≤ 2000) (hj : j ≤ 200) {f : Sk} (h : SeeOk w j f) : f.length ≤ 402000 := by
  have h1 := nodup_len h.nod (m := (boxL w).flatMap fun t => (irg 201).map fun u => (t, u)) fun x hx => by
    obtain ⟨p, hp, rfl⟩ := List.mem_map.mp hx
    obtain ⟨g1, g2, g3⟩ := h.good p hp
    exact List.mem_flatMap.mpr ⟨p.1.1, box_mem hw g1, List.mem_map.mpr ⟨p.1.2, irg_mem g2 (by omega), rfl⟩⟩
  have h2 := box_len hw
  have e : ((boxL w).flatMap fun t => (irg 201).map fun u => (t, u)).length = (boxL w).length * 201 := by
    rw [List.length_flatMap, List.map_congr_left (g := fun _ => 201) (fun t _ => by rw [List.length_map, irg_len]), List.map_const', List.sum_replicate_nat]
  rw [e, List.length_map] at h1
  have : (boxL w).length ≤ 2000 := by omega
  have := Nat.mul_le_mul_right 201 this
  omega
theorem IsSd.good {w : Wh} {t : Sd} (h : IsSd w t) : GoodSd w t := ⟨h.n, h.ls, h.look, h.zs, h.wt⟩
/-- the same game -/
structure SameW (w w' : Wh) : Prop where
  room : w'.room = w.room
  sizes : w'.sizes = w.sizes
  look : w'.look = w.look
  pat : w'.pat = w.pat
  n : w'.ws.length = w.ws.length
  up : ∀ ls, w'.up ls = w.up ls
theorem SameW.symm {w w' : Wh} (h : SameW w w') : SameW w' w := ⟨h.room.symm, h.sizes.symm, h.look.symm, h.pat.symm, h.n.symm, fun ls => (h.up ls).symm⟩
theorem w_popAt {S : Type} {T : Exn → S → Prop} {s : S} {ρ : DL.Env} {i : Nat} {f : Ex S} {ds : List PyData} {Q : Fl → S → Prop} (e : ρ[i]? = some (.l ds))
    (h : WT T (f ρ s) fun y s1 => ∃ j : Int, y = .d (.int j) ∧ (0 ≤ j ∧ j < ds.length ∧ ds.length < 1000000) ∧ Stt (ρ.set i (.l (ds.eraseIdx j.toNat))) fun ρ1 => Q (.nx ρ1) s1) : WT T (sPopAt i f ρ s) Q := by
  unfold sPopAt
  rw [e]
  refine w_bind (h.mono fun y s1 ⟨j, hy, hc, q⟩ => ?_)
  subst hy
  dsimp only
  rw [if_pos hc]
  exact ⟨q⟩
theorem w_stS {S : Type} {T : Exn → S → Prop} {s : S} {ρ : DL.Env} {i : Nat} {fi : Ex S} {d : PyData} {ds : List PyData} {Q : DL.Env → S → Prop} (e : ρ[i]? = some (.l ds))
    (h : WT T (fi ρ s) fun y s1 => ∃ (j : Int) (n : Nat), y = .d (.int j) ∧ L2.ixN ds.length j = some n ∧ Q (ρ.set i (.l (ds.set n d))) s1) : WT T (stS i fi d ρ s) Q := by
  unfold stS
  rw [e]
  refine w_bind (h.mono fun y s1 ⟨j, n, hy, hj, q⟩ => ?_)
  subst hy
  dsimp only
  rw [hj]
  exact ⟨q⟩
theorem w_swp {S : Type} {T : Exn → S → Prop} {s : S} {ρ : DL.Env} {i : Nat} {fa fb : Ex S} {g : Exs S} {Q : Fl → S → Prop}
    (h : WT T (g ρ s) fun ys s1 => ∃ d1 d2, ys = [.d d1, .d d2] ∧ WT T (stS i fa d1 ρ s1) fun ρ1 s2 => WT T (stS i fb d2 ρ1 s2) fun ρ2 s3 => Q (.nx ρ2) s3) : WT T (sSwp i fa fb g ρ s) Q := by
  unfold sSwp
  refine w_bind (h.mono fun ys s1 ⟨d1, d2, hy, h⟩ => ?_)
  subst hy
  exact w_bind (h.mono fun ρ1 s2 h => w_bind (h.mono fun ρ2 s3 q => ⟨q⟩))
theorem ixN_nat {n : Nat} {j : Int} (h0 : 0 ≤ j) (h1 : j < n) : L2.ixN n j = some j.toNat := by
  unfold L2.ixN
  rw [if_pos h0, if_pos h1]
def hd0 (t : Sd) : Int := t.ls.headD 0
def bN : Nat → Nat
  | 0 => 6000
  | j + 1 => 2 * bN j + 20
def cN : Nat → Nat
  | 0 => 20
  | j + 1 => 2 * cN j + 20
/-- what is asked about, bent j times -/
structure ThN (j : Nat) (d : PyData) : Prop where
  fit : Fit (10 ^ 40 + 2 * j) (4 + 2 * j) (bN j) d
  it : ∀ ds, d = .tuple ds → ∀ e ∈ ds, Fit (10 ^ 40 + 2 * j) (3 + 2 * j) (cN j) e
theorem ThN.up {j : Nat} {d : PyData} (h : ThN j d) : ThN (j + 1) d := ⟨h.fit.le (by omega) (by omega) (by show bN j ≤ 2 * bN j + 20; omega), fun ds e x hx => (h.it ds e x hx).le (by omega) (by omega) (by show cN j ≤ 2 * cN j + 20; omega)⟩
theorem ThN.le {j k : Nat} {d : PyData} (h : ThN j d) (hk : j ≤ k) : ThN k d := by
  induction hk with
  | refl => exact h
  | step _ ih => exact ih.up
theorem ones_cps (n : Nat) : ∀ (acc : Array Nat), (∀ c ∈ acc.toList, c = 49) → ∀ c ∈ ((List.replicate n (Str.ofString "1").cps).foldl (· ++ ·) acc).toList, c = 49 := by
  induction n with
  | zero => intro acc h; exact h
  | succ n ih =>
    intro acc h
    rw [List.replicate_succ, List.foldl_cons]
    refine ih _ fun c hc => ?_
    rw [Array.toList_append] at hc
    rcases List.mem_append.mp hc with hc | hc
    · exact h c hc
    · have hc : c ∈ (Str.ofString "1").cps.toList := hc
      rw [show (Str.ofString "1").cps.toList = [49] by rw [Str.ofString_eq_toList]; rfl] at hc
      simpa using hc
theorem ones_ok : Okn 5000 (repS (Str.ofString "1") 5000) := by
  have h1 : CpOk (Str.ofString "1") := cp_ofString "1"
  have h49 : ∀ c ∈ (Str.ofString "1").cps.toList, c = 49 := fun c hc => by
    rw [show (Str.ofString "1").cps.toList = [49] by rw [Str.ofString_eq_toList]; rfl] at hc
    simpa using hc
  refine ⟨fun c hc => ?_, by rw [repS_len]; decide +kernel⟩
  have := ones_cps 5000 #[] (fun c h => by simp at h) c hc
  subst this
  exact h1 49 (by rw [show (Str.ofString "1").cps.toList = [49] by rw [Str.ofString_eq_toList]; rfl]; simp)
theorem lawNum_int {z : Str} {lo hi n : Int} (h : lawNum (sg z) lo hi = some n) : PySem.intText? z = some n ∧ z.length ≤ 640 ∧ lo ≤ n ∧ n ≤ hi := by
  unfold lawNum at h
  split at h
  · cases h
  · rename_i h0
    split at h
    · cases h
    · split at h
      · rename_i hb
        cases h
        have h1 : lawDig (sg z) ≠ [] := fun e => h0 (.inl e)
        have h2 : ¬ 9 < (lawDig (sg z)).length := fun e => h0 (.inr (.inl e))
        have hdb : digB (lawDig (sg z)) = true := by
          cases e : digB (lawDig (sg z)) with
          | true => rfl
          | false => exact absurd (.inr (.inr e)) h0
        have iv : PySem.intText? z = some (lawVal (sg z)) ∧ z.length ≤ 640 := by
          unfold lawVal
          unfold lawDig at h1 h2 hdb
          by_cases h45 : (sg z).take 1 = [45]
          · rw [if_pos h45] at h1 h2 hdb ⊢
            obtain ⟨t, ht⟩ := sg_take1.mp h45
            have hlz : z.length = t.length + 1 := by rw [← sg_len, ht]; rfl
            have ed : (sg z).drop 1 = t := by rw [ht]; rfl
            rw [ed] at h1 h2 hdb
            have := PySem.intText_neg (x := z) (cs := t) ht (digB_all hdb) h1 (by omega)
            exact ⟨by rw [this, ht]; rfl, by omega⟩
          · rw [if_neg h45] at h1 h2 hdb ⊢
            have hlz : z.length = (sg z).length := by rw [← sg_len]
            exact ⟨PySem.intText_digits (digB_all hdb) h1 (by omega), by omega⟩
        exact ⟨iv.1, iv.2, hb.1, hb.2⟩
      · cases h
theorem str_w56 {T : Exn → Dk → Prop} {Q : Val → Dk → Prop} {s : Dk} (n : Int) (h : -100 ≤ n ∧ n ≤ 100) (q : Q (.d (.str (strI n))) s) : CV oStr [.d (.int n)] s Q := cv_str q (by
  have : n.natAbs < 2 ^ 7 := by omega
  by_cases h0 : n.natAbs = 0
  · rw [h0]; decide
  · have := (Nat.log2_lt h0).mpr this
    omega)
theorem strI_len56 {n : Int} (h : -100 ≤ n ∧ n ≤ 100) : (strI n).length ≤ 4 := by
  have hall : (List.range 201).all (fun n => decide ((strI ((n : Int) - 100)).length ≤ 4)) = true := by decide +kernel
  have := List.all_eq_true.mp hall (n + 100).toNat (by rw [List.mem_range]; omega)
  have e : (((n + 100).toNat : Nat) : Int) - 100 = n := by omega
  rw [e] at this
  exact of_decide_eq_true this
/-- words' text, at most n signs more than the word's -/
theorem oddw_ok {a : Addr} {w : Str} {s : Dk} {n : Int} (hw : Ok w) (hl : w.length ≤ 90000) (hs : Dks a n s) (hn : n < 900000000) {Q : Val → Dk → Prop} (q : ∀ z s', Okn (2 * w.length + 5001) z → Dks a (n + 3) s' → Q (.d (.str z)) s') : W (m__law_odd_word [.r (.ref a), .d (.str w)] s) Q := by
  unfold m__law_odd_word b__law_odd_word
  repeat wtm_at "z"
  refine bv (op := opMulS) (r := .str (repS (Str.ofString "1") 5000)) (by
    show (if mulSok (Str.ofString "1") 5000 = true then some (PyData.str (repS (Str.ofString "1") 5000)) else none) = _
    rw [if_pos (by decide +kernel)]) ?_
  repeat wtm_at "z"
  rotate_left
  · have := sizeLine_big
    simp
    omega
  refine cv_lenS ?_ (by have := sizeLine_big; omega)
  repeat wtm_at "z"
  refine draw_a hs (by omega) (by omega) fun sp s1 sp0 sp1 hs1 => ?_
  repeat wtm_at "z"
  have hsz := hw.sz
  refine uv_tsl ?_ hsz
  repeat wtm_at "z"
  refine one_a hs1 (by omega) (by decide) fun d s2 hd hs2 => ?_
  have hd2 : ∃ z, Okn 1 z ∧ d = .str z := by
    simp only [List.mem_cons, List.not_mem_nil, or_false] at hd
    rcases hd with rfl | rfl | rfl | rfl | rfl <;> exact ⟨_, ⟨cp_ofString _, by decide⟩, rfl⟩
  obtain ⟨y, hy, rfl⟩ := hd2
  have hwn : Okn w.length w := ⟨hw.cp, Nat.le_refl _⟩
  have c1 := okn_cut hwn (by omega) none (some sp)
  have c2 := okn_cut hwn (by omega) (some sp) none
  have c3 := okn_cut hwn (by omega) (some 1) none
  have b1 := sizeLine_big
  repeat wtm_at "z"
  refine bv_addS ?_ (by have := c1.len; have := hy.len; omega)
  repeat wtm_at "z"
  refine uv_tsl ?_ hsz
  repeat wtm_at "z"
  have c12 := okn_add (okn_add c1 hy) c2
  refine bv_addS ?_ (by have := c1.len; have := hy.len; have := c2.len; rw [len_append]; omega)
  repeat wtm_at "z"
  refine bv_addS ?_ (by have : (Str.ofString "-").length = 1 := by decide
                        omega)
  repeat wtm_at "z"
  refine uv_tsl ?_ hsz
  repeat wtm_at "z"
  rotate_left
  · have := sizeLine_big
    simp
    omega
  have big : ∀ z : Str, Okn 8 z → Okn (2 * w.length + 5001) z := fun z h => ⟨h.cp, by have := h.len; omega⟩
  have lit : ∀ (x : String), (Str.ofString x).length ≤ 8 → Okn (2 * w.length + 5001) (Str.ofString x) := fun x h => big _ ⟨cp_ofString x, h⟩
  obtain ⟨zs, hz, hz0, ez⟩ : ∃ zs : List Str, (∀ z ∈ zs, Okn (2 * w.length + 5001) z) ∧ (0 < zs.length ∧ zs.length ≤ 100) ∧ zs.map PyData.str = ([PyData.str (Str.ofString ""), PyData.str (Str.ofString "0"), PyData.str (Str.ofString "-0"), PyData.str (Str.ofString "00"), PyData.str (Str.ofString "01"), PyData.str (Str.ofString "+1"), PyData.str (Str.ofString "-1"), PyData.str (Str.ofString "1_0"), PyData.str (Str.ofString "--1"), PyData.str (Str.ofString "-"), PyData.str (Str.ofString "x"), PyData.str (Str.ofString "weights"), PyData.str (Str.ofString "room"), PyData.str (Str.ofString "Look"), PyData.str (Str.ofString "\t")] ++
      [PyData.str (Str.ofString "9"), PyData.str (Str.ofString "10"), PyData.str (Str.ofString "-9"), PyData.str (Str.ofString "-10"), PyData.str (Str.ofString "60"), PyData.str (Str.ofString "61"), PyData.str (Str.ofString "-60"), PyData.str (Str.ofString "-61"), PyData.str (Str.ofString "4"), PyData.str (Str.ofString "5"), PyData.str (Str.ofString "6"), PyData.str (Str.ofString "7"), PyData.str (Str.ofString "3"), PyData.str (Str.ofString "1000"), PyData.str (repS (Str.ofString "1") 5000)] ++
      [PyData.str (cutS w none (some sp) ++ y ++ cutS w (some sp) none), PyData.str (Str.ofString "-" ++ w), PyData.str (cutS w (some 1) none)]) := by
    refine ⟨(["", "0", "-0", "00", "01", "+1", "-1", "1_0", "--1", "-", "x", "weights", "room", "Look", "\t"] : List String).map Str.ofString ++ ((["9", "10", "-9", "-10", "60", "61", "-60", "-61", "4", "5", "6", "7", "3", "1000"] : List String).map Str.ofString ++ [repS (Str.ofString "1") 5000]) ++ [cutS w none (some sp) ++ y ++ cutS w (some sp) none, Str.ofString "-" ++ w, cutS w (some 1) none], ?_, by simp, rfl⟩
    intro z hz
    have k1 : Okn (2 * w.length + 5001) (cutS w none (some sp) ++ y ++ cutS w (some sp) none) := ⟨c12.cp, by have := c12.len; omega⟩
    have k20 : (Str.ofString "-").length = 1 := by decide
    have k2 : Okn (2 * w.length + 5001) (Str.ofString "-" ++ w) := ⟨cp_append (cp_ofString "-") hw.cp, by rw [len_append]; omega⟩
    have k3 : Okn (2 * w.length + 5001) (cutS w (some 1) none) := ⟨c3.cp, by have := c3.len; omega⟩
    have k4 : Okn (2 * w.length + 5001) (repS (Str.ofString "1") 5000) := ⟨ones_ok.cp, by have := ones_ok.len; omega⟩
    have all : ∀ xs : List String, (xs.all fun x => decide ((Str.ofString x).length ≤ 8)) = true → ∀ z ∈ xs.map Str.ofString, Okn (2 * w.length + 5001) z := fun xs h z hz => by
      obtain ⟨x, hx, rfl⟩ := List.mem_map.mp hz
      exact lit x (of_decide_eq_true (List.all_eq_true.mp h x hx))
    rcases List.mem_append.mp hz with hz | hz
    · rcases List.mem_append.mp hz with hz | hz
      · exact all _ (by decide +kernel) z hz
      · rcases List.mem_append.mp hz with hz | hz
        · exact all _ (by decide +kernel) z hz
        · rw [List.mem_singleton.mp hz]; exact k4
    · simp only [List.mem_cons, List.not_mem_nil, or_false] at hz
      rcases hz with rfl | rfl | rfl
      · exact k1
      · exact k2
      · exact k3
  rw [← ez]
  refine lnumber_w w hw _ _ _ ?_
  repeat wtm_at "z"
  refine bv (op := opIsNot) (r := .bool (lawNum (sg w) (-99) 99).isSome) (by cases lawNum (sg w) (-99) 99 <;> rfl) ?_
  repeat wtm_at "z"
  refine br_join (fun fl s' => s' = s2 ∧ ∃ zs : List Str, (∀ z ∈ zs, Okn (2 * w.length + 5001) z) ∧ (0 < zs.length ∧ zs.length ≤ 200) ∧ fl = .nx [.v (.r (.ref a)), .v (.d (.str w)), .v (.d (.list (zs.map .str))), .v (.d (.int sp))]) (fun h => ?_) (fun h => ?_) ?_
  · obtain ⟨m, hm⟩ := Option.isSome_iff_exists.mp h
    obtain ⟨i1, i2, i3, i4⟩ := lawNum_int hm
    repeat wtm_at "z"
    refine cv_intT ?_ i1 i2
    repeat wtm_at "z"
    refine str_w56 (T := F0) _ (by omega) ?_
    repeat wtm_at "z"
    refine cv_intT ?_ i1 i2
    repeat wtm_at "z"
    refine str_w56 (T := F0) _ (by omega) ?_
    repeat wtm_at "z"
    refine cv_intT ?_ i1 i2
    repeat wtm_at "z"
    refine str_w56 (T := F0) _ (by omega) ?_
    repeat wtm_at "z"
    have b2 := sizeLine_big
    refine bv (op := opMul) (r := .list ((List.replicate 3 [strI (m + 1), strI (m - 1), strI (0 - m)]).flatten.map .str)) (by
      unfold opMul
      dsimp only
      rw [if_pos ⟨by decide, by decide, by show 3 * 3 ≤ sizeLine; omega⟩]
      rfl) ?_
    repeat wtm_at "z"
    · refine ⟨rfl, zs ++ (List.replicate 3 [strI (m + 1), strI (m - 1), strI (0 - m)]).flatten, fun z hzm => ?_, ⟨by rw [List.length_append]; omega, by rw [List.length_append]; show zs.length + 9 ≤ 200; omega⟩, by rw [List.map_append]⟩
      rcases List.mem_append.mp hzm with hzm | hzm
      · exact hz z hzm
      · obtain ⟨l, hl9, hzl⟩ := List.mem_flatten.mp hzm
        rw [(List.mem_replicate.mp hl9).2] at hzl
        simp only [List.mem_cons, List.not_mem_nil, or_false] at hzl
        have st : ∀ i : Int, -100 ≤ i ∧ i ≤ 100 → Okn (2 * w.length + 5001) (strI i) := fun i hi => ⟨cp_ofString _, by have := strI_len56 hi; omega⟩
        rcases hzl with rfl | rfl | rfl
        · exact st _ (by omega)
        · exact st _ (by omega)
        · exact st _ (by omega)
    · rw [List.length_map, List.length_map]; show zs.length + 9 ≤ sizeLine; omega
  · repeat wtm_at "z"
    exact ⟨rfl, zs, hz, ⟨hz0.1, by omega⟩, rfl⟩
  rintro fl s3 ⟨rfl, zs, hz, hz0, rfl⟩
  repeat wtm_at "z"
  refine one_a hs2 (by omega) (by rw [List.length_map]; omega) fun d s4 hd hs4 => ?_
  obtain ⟨z, hzm, rfl⟩ := List.mem_map.mp hd
  repeat wtm_at "z"
  exact q z s4 (hz z hzm) (hs4.le (by omega))
def totR (rows : List (List Str)) : Nat := (rows.map fun r => rowLen r + 1).sum
theorem sum_setN {α : Type} (f : α → Nat) : ∀ (xs : List α) (n : Nat) (x y : α), xs[n]? = some x → ((xs.set n y).map f).sum + f x = (xs.map f).sum + f y
  | [], n, x, y, h => by simp at h
  | z :: zs, 0, x, y, h => by
    have : z = x := by simpa using h
    subst this
    simp only [List.set_cons_zero, List.map_cons, List.sum_cons]
    omega
  | z :: zs, n + 1, x, y, h => by
    have := sum_setN f zs n x y (by simpa using h)
    simp only [List.set_cons_succ, List.map_cons, List.sum_cons]
    omega
theorem sum_popN {α : Type} (f : α → Nat) : ∀ (xs : List α) (n : Nat), ((xs.eraseIdx n).map f).sum ≤ (xs.map f).sum
  | [], n => by simp
  | z :: zs, 0 => by simp only [List.eraseIdx_cons_zero, List.map_cons, List.sum_cons]; omega
  | z :: zs, n + 1 => by
    have := sum_popN f zs n
    simp only [List.eraseIdx_cons_succ, List.map_cons, List.sum_cons]
    omega
theorem sum_insN {α : Type} (f : α → Nat) (xs : List α) (n : Nat) (y : α) : ((xs.take n ++ [y] ++ xs.drop n).map f).sum = (xs.map f).sum + f y := by
  have : (xs.map f).sum = ((xs.take n).map f).sum + ((xs.drop n).map f).sum := by
    conv => lhs; rw [← List.take_append_drop n xs, List.map_append, List.sum_append]
  simp only [List.map_append, List.sum_append, List.map_cons, List.map_nil, List.sum_cons, List.sum_nil]
  omega
theorem mem_insN {α : Type} {xs : List α} {n : Nat} {y z : α} (h : z ∈ xs.take n ++ [y] ++ xs.drop n) : z ∈ xs ∨ z = y := by
  rcases List.mem_append.mp h with h | h
  · rcases List.mem_append.mp h with h | h
    · exact .inl (List.mem_of_mem_take h)
    · exact .inr (by simpa using h)
  · exact .inl (List.mem_of_mem_drop h)
theorem w_ins {S : Type} {T : Exn → S → Prop} {s : S} {ρ : DL.Env} {i : Nat} {fi f : Ex S} {ds : List PyData} {Q : Fl → S → Prop} (e : ρ[i]? = some (.l ds))
    (h : WT T (fi ρ s) fun k s1 => WT T (f ρ s1) fun y s2 => ∃ (j : Int) (z : PyData), k = .d (.int j) ∧ y = .d z ∧ (0 ≤ j ∧ j < 1000000 ∧ ds.length < 1000000) ∧ Stt (ρ.set i (.l (ds.take j.toNat ++ [z] ++ ds.drop j.toNat))) fun ρ1 => Q (.nx ρ1) s2) : WT T (sIns i fi f ρ s) Q := by
  unfold sIns
  rw [e]
  refine w_bind (h.mono fun k s1 h => w_bind (h.mono fun y s2 ⟨j, z, hk, hy, hc, q⟩ => ?_))
  subst hk hy
  dsimp only
  rw [if_pos hc]
  exact ⟨q⟩
/-- rows, bent once -/
structure Bt56 (rows rows' : List (List Str)) : Prop where
  cp : ∀ r ∈ rows', ∀ z ∈ r, CpOk z
  tot : totR rows' ≤ 3 * totR rows + 6000
  ne : (∀ r ∈ rows, 2 ≤ r.length) → ∀ r ∈ rows', r ≠ []
  len : rows.length ≤ rows'.length + 1
theorem allStr_w (r : List Str) : allStr (r.map .str) = true := by
  unfold allStr
  rw [List.all_eq_true]
  intro d hd
  obtain ⟨z, _, rfl⟩ := List.mem_map.mp hd
  rfl
theorem rowD_w (rows : List (List Str)) : (rows.map wsD).all rowD = true := by
  rw [List.all_eq_true]
  intro d hd
  obtain ⟨r, _, rfl⟩ := List.mem_map.mp hd
  exact allStr_w r
/-- one row otherwise -/
theorem bt_row {rows : List (List Str)} {r r' : List Str} {k : Nat} (cp : ∀ r ∈ rows, ∀ z ∈ r, CpOk z) (hk : rows[k]? = some r) (cp' : ∀ z ∈ r', CpOk z) (hl : rowLen r' ≤ rowLen r + 2 * totR rows + 5010) (hn : 2 ≤ r.length → r' ≠ []) : Bt56 rows (rows.set k r') := by
  have hm : r ∈ rows := List.mem_of_getElem? hk
  have e := sum_setN (fun r => rowLen r + 1) rows k r r' hk
  refine ⟨fun q hq => ?_, ?_, fun h q hq => ?_, by rw [List.length_set]; omega⟩
  · rcases List.mem_or_eq_of_mem_set hq with hq | rfl
    · exact cp q hq
    · exact cp'
  · unfold totR at *
    omega
  · rcases List.mem_or_eq_of_mem_set hq with hq | rfl
    · have := h q hq
      intro e
      rw [e] at this
      simp at this
    · exact hn (h r hm)
theorem wsD_set (rows : List (List Str)) (k : Nat) (r : List Str) : (rows.map wsD).set k (.list (r.map .str)) = (rows.set k r).map wsD := by
  rw [List.map_set]
theorem bt_ins {rows : List (List Str)} {r : List Str} (j : Nat) (cp : ∀ r ∈ rows, ∀ z ∈ r, CpOk z) (hr : r ∈ rows) : Bt56 rows (rows.take j ++ [r] ++ rows.drop j) := by
  have e := sum_insN (fun r => rowLen r + 1) rows j r
  have hm := sum_mem (f := fun r => rowLen r + 1) hr
  have hmem : ∀ q ∈ rows.take j ++ [r] ++ rows.drop j, q ∈ rows := fun q hq => by
    rcases mem_insN hq with h | rfl
    · exact h
    · exact hr
  refine ⟨fun q hq => cp q (hmem q hq), ?_, fun h q hq e => ?_, ?_⟩
  · unfold totR
    omega
  · have := h q (hmem q hq)
    rw [e] at this
    simp at this
  · simp only [List.length_append, List.length_take, List.length_drop, List.length_cons, List.length_nil]
    omega
theorem bt_pop {rows : List (List Str)} (j : Nat) (cp : ∀ r ∈ rows, ∀ z ∈ r, CpOk z) : Bt56 rows (rows.eraseIdx j) := by
  have e := sum_popN (fun r => rowLen r + 1) rows j
  refine ⟨fun q hq => cp q (List.mem_of_mem_eraseIdx hq), ?_, fun h q hq e => ?_, ?_⟩
  · unfold totR
    omega
  · have := h q (List.mem_of_mem_eraseIdx hq)
    rw [e] at this
    simp at this
  · rw [List.length_eraseIdx]
    split <;> omega
theorem rowLen_mem {r : List Str} {z : Str} (h : z ∈ r) : z.length + 2 ≤ rowLen r := by
  have := sum_mem (f := fun p : Str => p.length + 1) h
  unfold rowLen
  omega
theorem totR_mem {rows : List (List Str)} {r : List Str} (h : r ∈ rows) : rowLen r + 1 ≤ totR rows := sum_mem (f := fun r => rowLen r + 1) h
theorem totR_len (rows : List (List Str)) : rows.length ≤ totR rows := by
  unfold totR
  induction rows with
  | nil => exact Nat.le_refl _
  | cons r rs ih => rw [List.map_cons, List.sum_cons, List.length_cons]; omega
theorem rowLen_len (r : List Str) : r.length + 1 ≤ rowLen r := by
  unfold rowLen
  induction r with
  | nil => exact Nat.le_refl _
  | cons z r ih => rw [List.map_cons, List.sum_cons, List.length_cons]; omega
theorem rl_set {r : List Str} {i : Nat} {w : Str} (z : Str) (h : r[i]? = some w) : rowLen (r.set i z) + w.length = rowLen r + z.length := by
  have := sum_setN (fun p : Str => p.length + 1) r i w z h
  unfold rowLen
  omega
theorem rl_ins (r : List Str) (j : Nat) (z : Str) : rowLen (r.take j ++ [z] ++ r.drop j) = rowLen r + z.length + 1 := by
  have := sum_insN (fun p : Str => p.length + 1) r j z
  unfold rowLen
  omega
theorem rl_pop (r : List Str) (j : Nat) : rowLen (r.eraseIdx j) ≤ rowLen r := by
  have := sum_popN (fun p : Str => p.length + 1) r j
  unfold rowLen
  omega
theorem cp_set {r : List Str} {i : Nat} {z : Str} (h : ∀ y ∈ r, CpOk y) (hz : CpOk z) : ∀ y ∈ r.set i z, CpOk y := fun y hy => by
  rcases List.mem_or_eq_of_mem_set hy with hy | rfl
  · exact h y hy
  · exact hz
theorem map_erase {α β : Type} (f : α → β) : ∀ (r : List α) (i : Nat), (r.map f).eraseIdx i = (r.eraseIdx i).map f
  | [], _ => rfl
  | _ :: _, 0 => rfl
  | x :: r, i + 1 => by
    rw [List.map_cons, List.eraseIdx_cons_succ, List.eraseIdx_cons_succ, List.map_cons, map_erase f r i]
theorem lcR_w {S : Type} {bt : Bt} {fr : Lx S} {ρ : DL.Env} {s : S} (rows : List (List Str)) (h : ∀ r ∈ rows, ∃ ρ1, bt (wsD r) ρ = some ρ1 ∧ fr ρ1 s = .ok (r.map .str) s) : lcR bt fr ρ (rows.map wsD) s = .ok (rows.map wsD) s := by
  have := lcR_id (bt := bt) (fr := fr) (ρ := ρ) (s := s) (rows.map fun r => r.map PyData.str) fun r hr => by
    obtain ⟨q, hq, rfl⟩ := List.mem_map.mp hr
    exact h q hq
  rw [List.map_map] at this
  exact this
theorem bent56_ok {a : Addr} {rows : List (List Str)} {s : Dk} {n : Int} (cp : ∀ r ∈ rows, ∀ z ∈ r, CpOk z) (h0 : rows ≠ []) (h1 : ∀ r ∈ rows, r ≠ []) (hT : totR rows ≤ 80000) (hs : Dks a n s) (hn : n < 800000000) {Q : Val → Dk → Prop} (q : ∀ rows' s', Bt56 rows rows' → Dks a (n + 20) s' → Q (.d (rowsD rows')) s') : W (m__law_bent_rows [.r (.ref a), .d (rowsD rows)] s) Q := by
  have sz := sizeLine_big
  have hlr := totR_len rows
  have hpos : 0 < rows.length := List.length_pos_iff.mpr h0
  unfold m__law_bent_rows b__law_bent_rows
  repeat wtm_at "z"
  refine w_rows ⟨by simp, by simp, by simp⟩ ?_
  repeat wtm_at "z"
  refine ⟨by rw [List.length_map]; omega, ?_⟩
  refine w_of (lcR_w rows fun r hr => ⟨_, rfl, rfl⟩) ?_
  refine ⟨rowD_w rows, ?_⟩
  repeat wtm_at "z"
  simp only [List.set_cons_succ, List.set_cons_zero]
  refine draw_a hs (by omega) (by rw [List.length_map]; omega) fun pl s1 p0 p1 hs1 => ?_
  rw [List.length_map] at p1
  obtain ⟨k, rfl⟩ := Int.eq_ofNat_of_zero_le p0
  have hk : k < rows.length := by omega
  have ek : rows[k]? = some rows[k] := List.getElem?_eq_getElem hk
  generalize rows[k] = r at ek
  have hr : r ∈ rows := List.mem_of_getElem? ek
  have hrm := totR_mem hr
  have hrl := rowLen_len r
  have hr1 : 0 < r.length := List.length_pos_iff.mpr (h1 r hr)
  have ekD : (rows.map wsD)[((k : Nat) : Int).toNat]? = some (.list (r.map .str)) := by rw [List.getElem?_map, Int.toNat_natCast, ek]; rfl
  refine ⟨(k : Int), .list (r.map .str), rfl, p0, ekD, ?_⟩
  repeat wtm_at "z"
  refine draw_a hs1 (by omega) (by rw [List.length_map]; omega) fun sp s2 sp0 sp1 hs2 => ?_
  rw [List.length_map] at sp1
  obtain ⟨i, rfl⟩ := Int.eq_ofNat_of_zero_le sp0
  have hi : i < r.length := by omega
  have ei : r[i]? = some r[i] := List.getElem?_eq_getElem hi
  generalize r[i] = w at ei
  have hw : w ∈ r := List.mem_of_getElem? ei
  have hwl := rowLen_mem hw
  repeat wtm_at "z"
  refine draw_a hs2 (by omega) (by omega) fun so s3 so0 so1 hs3 => ?_
  repeat wtm_at "z"
  refine ⟨_, _, rfl, ?_⟩
  repeat wtm_at "z"
  refine bv (op := opIx) (r := .str w) ?_ ?_
  · show L2.atI (r.map PyData.str) ((i : Nat) : Int) = _
    rw [DL.atI_nat, List.getElem?_map, ei]; rfl
  repeat wtm_at "z"
  refine oddw_ok ⟨cp r hr w hw, by omega⟩ (by omega) hs3 (by omega) fun z s4 hz hs4 => ?_
  have hs4 : Dks a (n + 6) s4 := hs4.le (by omega)
  have hzl : z.length ≤ 2 * totR rows + 4996 := by have := hz.len; omega
  repeat wtm_at "z"
  have cpr := cp r hr
  have K : ∀ rows' s', Bt56 rows rows' → Dks a (n + 20) s' → RtK Q (.rt (.d (.list (rows'.map wsD)))) s' := fun rows' s' b h => q rows' s' b h
  have hcut : ∀ j : Nat, ((j : Nat) : Int).toNat = j := fun j => Int.toNat_natCast j
  refine br_dec (fun h => ?_) fun h => ?_
  · refine w_aRow ekD ?_
    simp only [List.map_cons, List.map_nil, scl, List.set_cons_succ, List.set_cons_zero]
    refine w_st rfl ?_
    repeat wtm_at "z"
    refine ⟨.str z, i, i, rfl, rfl, ?_, ?_⟩
    · rw [List.length_map]; exact ixN_nat (by omega) (by omega)
    repeat wtm_at "z"
    refine ⟨_, (r.set i z).map .str, rfl, by rw [List.map_set]; rfl, allStr_w _, ?_⟩
    rw [hcut, wsD_set]
    have := rl_set z ei
    exact K _ _ (bt_row cp ek (cp_set cpr hz.cp) (by omega) fun _ e => by rw [← List.length_eq_zero_iff, List.length_set] at e; omega) (hs4.le (by omega))
  repeat wtm_at "z"
  refine br_dec (fun h => ?_) fun h => ?_
  · refine w_aRow ekD ?_
    simp only [List.map_cons, List.map_nil, scl, List.set_cons_succ, List.set_cons_zero]
    refine w_ins rfl ?_
    repeat wtm_at "z"
    refine one_a hs4 (by omega) (by simp) fun d s5 hd hs5 => ?_
    obtain ⟨j, rfl, hj⟩ : ∃ j : Nat, d = .int j ∧ j ≤ r.length := by
      simp only [List.mem_cons, List.not_mem_nil, or_false] at hd
      rcases hd with rfl | rfl
      · exact ⟨i, rfl, by omega⟩
      · exact ⟨r.length, by rw [List.length_map], Nat.le_refl _⟩
    repeat wtm_at "z"
    refine ⟨j, .str z, rfl, rfl, ⟨by omega, by omega, by rw [List.length_map]; omega⟩, ?_⟩
    repeat wtm_at "z"
    refine ⟨_, (r.take j ++ [z] ++ r.drop j).map .str, rfl, by simp, allStr_w _, ?_⟩
    rw [hcut, wsD_set]
    have := rl_ins r j z
    refine K _ _ (bt_row cp ek (fun y hy => ?_) (by omega) fun _ e => by simp at e) (hs5.le (by omega))
    rcases mem_insN hy with hy | rfl
    · exact cpr y hy
    · exact hz.cp
  repeat wtm_at "z"
  refine br_dec (fun h => ?_) fun h => ?_
  · refine w_aRow ekD ?_
    simp only [List.map_cons, List.map_nil, scl, List.set_cons_succ, List.set_cons_zero]
    refine w_popAt rfl ?_
    repeat wtm_at "z"
    refine ⟨i, rfl, ⟨by omega, by rw [List.length_map]; omega, by rw [List.length_map]; omega⟩, ?_⟩
    repeat wtm_at "z"
    refine ⟨_, (r.eraseIdx i).map .str, rfl, by rw [hcut, map_erase]; rfl, allStr_w _, ?_⟩
    rw [hcut, wsD_set]
    have := rl_pop r i
    refine K _ _ (bt_row cp ek (fun y hy => cpr y (List.mem_of_mem_eraseIdx hy)) (by omega) fun h2 e => by rw [← List.length_eq_zero_iff, List.length_eraseIdx, if_pos hi] at e; omega) (hs4.le (by omega))
  repeat wtm_at "z"
  refine br_joinA (fun b s' => s' = s4 ∧ (b = true → 0 < i)) (fun h => ?_) (fun h => ⟨rfl, by simp⟩) ?_
  · repeat wtm_at "z"
    exact ⟨rfl, fun e => by have := of_decide_eq_true e; omega⟩
  rintro b s' ⟨rfl, hb⟩
  refine br (fun e => ?_) fun e => ?_
  · have hi0 := hb e
    have ei1 : r[i - 1]? = some r[i - 1] := List.getElem?_eq_getElem (by omega)
    have ej : ((i : Int) - 1) = ((i - 1 : Nat) : Int) := by omega
    generalize r[i - 1] = w1 at ei1
    have hw1 : w1 ∈ r := List.mem_of_getElem? ei1
    refine w_aRow ekD ?_
    simp only [List.map_cons, List.map_nil, scl, List.set_cons_succ, List.set_cons_zero]
    refine w_swp ?_
    repeat wtm_at "z"
    refine bv (op := opIx) (r := .str w1) ?_ ?_
    · show L2.atI (r.map PyData.str) ((i : Int) - 1) = _
      rw [ej, DL.atI_nat, List.getElem?_map, ei1]; rfl
    repeat wtm_at "z"
    refine bv (op := opIx) (r := .str w) ?_ ?_
    · show L2.atI (r.map PyData.str) ((i : Nat) : Int) = _
      rw [DL.atI_nat, List.getElem?_map, ei]; rfl
    repeat wtm_at "z"
    refine ⟨_, _, rfl, ?_⟩
    refine w_stS rfl ?_
    repeat wtm_at "z"
    refine ⟨i, i, rfl, by rw [List.length_map]; exact ixN_nat (by omega) (by omega), ?_⟩
    simp only [List.set_cons_succ, List.set_cons_zero]
    refine w_stS rfl ?_
    repeat wtm_at "z"
    refine ⟨(i : Int) - 1, i - 1, rfl, by rw [ej, List.length_set, List.length_map]; exact ixN_nat (by omega) (by omega), ?_⟩
    simp only [List.set_cons_succ, List.set_cons_zero]
    refine ⟨_, ((r.set i w1).set (i - 1) w).map .str, rfl, by rw [List.map_set, List.map_set]; rfl, allStr_w _, ?_⟩
    rw [hcut, wsD_set]
    have e1 := rl_set w1 ei
    have e2 := rl_set (r := r.set i w1) (i := i - 1) (w := w1) w (by rw [List.getElem?_set_ne (by omega)]; exact ei1)
    exact K _ _ (bt_row cp ek (cp_set (cp_set cpr (cpr w1 hw1)) (cpr w hw)) (by omega) fun _ e => by rw [← List.length_eq_zero_iff, List.length_set, List.length_set] at e; omega) (hs4.le (by omega))
  repeat wtm_at "z"
  refine br_dec (fun h => ?_) fun h => ?_
  · refine w_aFnd ?_
    refine w_ins rfl ?_
    repeat wtm_at "z"
    refine draw_a hs4 (by omega) (by rw [List.length_map]; omega) fun j s5 j0 j1 hs5 => ?_
    obtain ⟨j, rfl⟩ := Int.eq_ofNat_of_zero_le j0
    rw [List.length_map] at j1
    repeat wtm_at "z"
    refine ⟨j, .list (r.map .str), rfl, rfl, ⟨by omega, by omega, by rw [List.length_map]; omega⟩, ?_⟩
    repeat wtm_at "z"
    refine ⟨_, (rows.take j ++ [r] ++ rows.drop j).map wsD, rfl, by rw [hcut, List.map_append, List.map_append, List.map_take, List.map_drop]; rfl, ?_⟩
    exact K _ _ (bt_ins j cp hr) (hs5.le (by omega))
  repeat wtm_at "z"
  refine br_dec (fun h => ?_) fun h => ?_
  · refine w_aFnd ?_
    refine w_popAt rfl ?_
    repeat wtm_at "z"
    refine ⟨k, rfl, ⟨by omega, by rw [List.length_map]; omega, by rw [List.length_map]; omega⟩, ?_⟩
    repeat wtm_at "z"
    refine ⟨_, (rows.eraseIdx k).map wsD, rfl, by rw [hcut, map_erase]; rfl, ?_⟩
    exact K _ _ (bt_pop k cp) (hs4.le (by omega))
  repeat wtm_at "z"
  have e0 : rows[0]? = some rows[0] := List.getElem?_eq_getElem hpos
  generalize rows[0] = r0 at e0
  refine w_aFnd ?_
  refine w_st rfl ?_
  repeat wtm_at "z"
  · refine draw_a hs4 (by omega) (by omega) fun m s5 m0 m1 hs5 => ?_
    repeat wtm_at "z"
    · refine ⟨by rw [rng_len]; omega, ?_⟩
      refine lc_inv (fun k acc s' => Dks a (n + 7 + k) s' ∧ ∃ zs : List Str, acc = zs.map .str ∧ zs.length = k ∧ ∀ z ∈ zs, Okn 8 z) (rngD 0 (5 + m).toNat) 0 [] ⟨hs5.le (by omega), [], rfl, rfl, fun z hz => by cases hz⟩ ?_ ?_
      · rintro k d hd acc s' ⟨hs', zs, rfl, hzl, hzs⟩
        obtain ⟨hk, rfl⟩ := rng_at hd
        refine item1 rfl ?_
        repeat wtm_at "z"
        refine draw_a hs' (by omega) (by omega) fun x s6 x0 x1 hs6 => ?_
        repeat wtm_at "z"
        refine str_w56 (T := F0) _ (by omega) ?_
        refine ⟨_, rfl, hs6.le (by omega), zs ++ [strI x], by simp, by simp; omega, fun z hz => ?_⟩
        rcases List.mem_append.mp hz with hz | hz
        · exact hzs z hz
        · have : z = strI x := by simpa using hz
          subst this
          exact ⟨cp_ofString _, Nat.le_trans (strI_len56 (by omega)) (by decide)⟩
      · rintro rr s6 ⟨hs6, zs, hzr, hzl, hzs⟩
        obtain rfl : rr = zs.map .str := hzr
        rw [rng_len] at hzl hs6
        repeat wtm_at "z"
        · refine ⟨.list (([Str.ofString "weights"] ++ zs).map .str), 0, 0, by rw [List.map_append]; rfl, rfl, by rw [List.length_map]; exact ixN_nat (by omega) (by omega), ?_⟩
          repeat wtm_at "z"
          refine ⟨_, (rows.set 0 ([Str.ofString "weights"] ++ zs)).map wsD, rfl, by rw [List.map_set]; rfl, ?_⟩
          have hz8 : ∀ y ∈ [Str.ofString "weights"] ++ zs, Okn 8 y := fun y hy => by
            rcases List.mem_append.mp hy with hy | hy
            · rw [List.mem_singleton.mp hy]; exact ⟨cp_ofString _, by decide⟩
            · exact hzs y hy
          have hl8 := rowLen_le (m := 8) fun y hy => (hz8 y hy).len
          have hll : ([Str.ofString "weights"] ++ zs).length = zs.length + 1 := by rw [List.length_append]; exact Nat.add_comm _ _
          rw [hll] at hl8
          exact K _ _ (bt_row cp e0 (fun y hy => (hz8 y hy).cp) (by omega) fun _ e => by simp at e) (hs6.le (by omega))
        · rw [List.length_map]; show 1 + zs.length ≤ sizeLine; omega
    · omega
theorem rowsW_two {most : Int} {w : Wh} (h : GoodWh most w) : ∀ r ∈ rowsW w, 2 ≤ r.length := by
  intro r hr
  have h1 := h.n
  have h2 := List.length_pos_iff.mpr h.ne
  unfold rowsW at hr
  simp only [List.mem_cons, List.not_mem_nil, or_false] at hr
  rcases hr with rfl | rfl | rfl | rfl | rfl | rfl <;> simp <;> omega
theorem rowsW_tot {w : Wh} (h : Nums w) : totR (rowsW w) ≤ 390 := by
  have e := (okr_of (rowsP_ok h) (show 6 ≤ 100 by decide)).2
  rw [← rowsW_P] at e
  exact e
theorem shapedW {r : List Str} (h : ∀ z ∈ r, CpOk z) {n : Nat} (hl : ∀ z ∈ r, z.length ≤ n) : Sm 1 (r.length * (n + 1)) (wsD r) := by
  have := sl_all (k := 0) (b := n) (r.map PyData.str) fun d hd => by
    obtain ⟨z, hz, rfl⟩ := List.mem_map.mp hd
    exact (sm_str (h z hz)).le (Nat.le_refl _) (hl z hz)
  rw [List.length_map] at this
  exact sm_list this
theorem law_true : LawTrue 6 b_law := by
  intro ns p p0 ne hn
  suffices h : W (b_law (.no :: .v (.r (.ref p)) :: List.replicate 6 .no) ⟨p, p0, ns, 0, 0, 0, ne⟩) (fun fl _ => fl = .rt (.d (.bool true))) by
    obtain ⟨fl, s, e, rfl⟩ := h.ok
    exact ⟨s, e⟩
  have hs : Dks p 0 ⟨p, p0, ns, 0, 0, 0, ne⟩ := ⟨⟨Int.le_refl _, Int.le_refl _, Int.le_refl _⟩, rfl⟩
  generalize (⟨p, p0, ns, 0, 0, 0, ne⟩ : Dk) = s at *
  have sz := sizeLine_big
  simp only [List.replicate]
  unfold b_law
  repeat wtm_at "z"
  · refine for_inv (fun n ρ s => Dks p (300 * n) s ∧ ∃ x2 x3 x4 x5 x6 x7, ρ = [.no, .v (.r (.ref p)), x2, x3, x4, x5, x6, x7]) (rngD 0 (10 : Int).toNat) 0 ⟨hs.le (by omega), _, _, _, _, _, _, rfl⟩ ?_ ?_
    · rintro n d hd ρ s ⟨hs, x2, x3, x4, x5, x6, x7, rfl⟩
      obtain ⟨hn6, rfl⟩ := rng_at hd
      have hn6 : n < 10 := hn6
      refine ⟨_, rfl, ?_⟩
      simp only [List.set_cons_succ, List.set_cons_zero]
      repeat wtm_at "z"
      refine wheel_okM (M := 2000) (by decide) (by decide) hs (by omega) fun w s1 hw hs1 => ?_
      have hN := nums_of hw
      have hok := okrW hN
      have h2 := rowsW_two hw
      have htot := rowsW_tot hN
      repeat wtm_at "z"
      · rw [Int.zero_add, Nat.zero_add] at *
        refine for_inv (fun m ρ s => Dks p (300 * n + 40 + 45 * m) s ∧ ∃ x4 x5 x6 x7, ρ = [.no, .v (.r (.ref p)), .v (.d (.int (n : Nat))), .v (.d w.d), x4, x5, x6, x7]) (rngD 0 (5 : Int).toNat) 0 ⟨hs1.le (by omega), _, _, _, _, rfl⟩ ?_ ?_
        · rintro m d hd ρ s ⟨hs, x4, x5, x6, x7, rfl⟩
          obtain ⟨hm, rfl⟩ := rng_at hd
          have hm : m < 5 := hm
          refine ⟨_, rfl, ?_⟩
          rw [Int.zero_add, Nat.zero_add] at *
          simp only [List.set_cons_succ, List.set_cons_zero]
          repeat wtm_at "z"
          refine w_of (lwords_eq w hN _) ?_
          repeat wtm_at "z"
          refine bent56_ok hok.cp (by simp [rowsW]) (fun r hr e => by have := h2 r hr; rw [e] at this; simp at this) (by omega) hs (by omega) fun rows s2 hb hs2 => ?_
          have hbn := hb.ne h2
          have hbt := hb.tot
          have hbl := hb.len
          have h6 : (rowsW w).length = 6 := rfl
          repeat wtm_at "z"
          refine draw_a hs2 (by omega) (by omega) fun g s3 g0 g1 hs3 => ?_
          repeat wtm_at "z"
          refine br_join (fun fl s' => Dks p (300 * n + 40 + 45 * m + 42) s' ∧ ∃ rows x6, OkR rows ∧ fl = .nx [.no, .v (.r (.ref p)), .v (.d (.int (n : Nat))), .v (.d w.d), .v (.d (.int (m : Nat))), .v (.d (rowsD rows)), x6, x7]) (fun h => ?_) (fun h => ?_) ?_
          · repeat wtm_at "z"
            have hrl := totR_len rows
            refine ⟨by rw [List.length_map]; omega, ?_⟩
            refine lc_mapOf wsD wsD rows (fun r hr => item rfl ?_) ?_
            · repeat wtm_at "z"
              have hl : ∀ z ∈ r, z.length ≤ totR rows := fun z hz => by have := rowLen_mem hz; have := totR_mem hr; omega
              refine bv_neNil (mk := .list) (.inl rfl) (shapedW (hb.cp r hr) hl) ?_
              have hre : (!(r.map PyData.str).isEmpty) = true := by cases r with
                | nil => exact absurd rfl (hbn _ hr)
                | cons => rfl
              rw [hre]
              repeat wtm_at "z"
              exact ⟨_, rfl, rfl, rfl⟩
            · repeat wtm_at "z"
              refine bent56_ok hb.cp (fun e => by rw [e] at hbl; simp at hbl; omega) hbn (by omega) hs3 (by omega) fun rows' s4 hb' hs4 => ?_
              repeat wtm_at "z"
              have ht' := hb'.tot
              exact ⟨hs4.le (by omega), rows', _, ⟨hb'.cp, by unfold totR at *; omega⟩, rfl⟩
          · refine w_nil ?_
            exact ⟨hs3.le (by omega), rows, _, ⟨hb.cp, by unfold totR at *; omega⟩, rfl⟩
          · rintro fl s4 ⟨hs4, rows, x6, hok, rfl⟩
            refine flk_nx ?_
            have hT := textOf_ok hok
            repeat wtm_at "z"
            refine w_of (ltext_eq rows hok _) ?_
            repeat wtm_at "z"
            have su := readR_sm hT
            refine asked_w _ hT _ ?_
            repeat wtm_at "z"
            refine cv_repr' su ?_
            repeat wtm_at "z"
            refine lread_w _ hT _ ?_
            repeat wtm_at "z"
            refine cv_repr' su ?_
            repeat wtm_at "z"
            refine bv_neSame su ?_
            repeat wtm_at "z"
            exact ⟨hs4.le (by omega), _, _, _, _, rfl⟩
        · rintro ρ s ⟨hs, x4, x5, x6, x7, rfl⟩
          repeat wtm_at "z"
          exact ⟨hs.le (by rw [rng_len] at *; omega), _, _, _, _, _, _, rfl⟩
      · decide
    · rintro ρ s ⟨hs, x2, x3, x4, x5, x6, x7, rfl⟩
      repeat wtm_at "z"
      rfl
  · decide
theorem df_then {G : Prop} {K : PySem.W.Frag} {h : Heap} {mg : Str → Option Value} {nm : Str} {st : Stmt} {f : Addr} {oc : Value} {od an : Option Addr} {sl : Array (Option Value)} {kV dc pm cd ct : Value} (X : K.In h) (N : h.Ns mainGlobals mg)
    (a : PySem.W.nsIn K mainGlobals nm = some (some (.ref f))) (l : K.lookup f = some ⟨oc, od, .func (PySem.W.fnOf nm nm (defArgs st) (defBody st) (defScope st) .none kV dc pm an cd ct), sl⟩)
    (c : PySem.W.codeIn K cd nm = true) (k : PySem.W.keepIn K (.ref f) = true) (z : Df K mg nm st → G) : G := z ⟨f, _, fun_mk l c k, PySem.W.mg_of X N a⟩
theorem nb_then {G : Prop} {K : PySem.W.Frag} {h : Heap} {mg : Str → Option Value} {nm : Str} (X : K.In h) (N : h.Ns mainGlobals mg) (a : PySem.W.nsIn K mainGlobals nm = some none) (z : mg nm = none → G) : G := z (PySem.W.mg_none_of X N a)
theorem ct_then {G : Prop} {K : PySem.W.Frag} {h : Heap} {mg : Str → Option Value} {nm : Str} {v : Value} (X : K.In h) (N : h.Ns mainGlobals mg) (a : PySem.W.nsIn K mainGlobals nm = some (some v)) (z : mg nm = some v → G) : G := z (PySem.W.mg_of X N a)
theorem law_binds {K : PySem.W.Frag} {f : Addr} {fd : FuncData} (F : Fun K "law" "law" s_law f fd) : ∀ (s : Shared) (u : Value), BindsTo s fd ⟨[u], []⟩ [("_law_script", u)] := by
  obtain ⟨oc, od, kV, doc, pm, an, cdv, ct, osl, rfl, lk, hcd⟩ := F.ex
  exact fun s u => .of_eq rfl
theorem fin {l : PySem.W.OpenLaw} {w : World} {K : PySem.W.Frag} {mg : Str → Option Value} {fa : Addr} (ht : LawTrue 6 b_law) (hmg : mg "law" = some (.ref fa)) (T : Nonempty (Tx K mg)) :
    ∃ fd : FuncData, (∀ (s : Shared) (u : Value), BindsTo s fd ⟨[u], []⟩ [("_law_script", u)]) ∧ ∀ base : Heap, K.In base → base.Ns mainGlobals mg → FnG l.prog w K mg base CX0 16 fa fd ["_law_script"] (spLaw K) := by
  obtain ⟨T⟩ := T
  have e := T.d_law.g
  rw [hmg] at e
  have e2 : fa = T.d_law.f := by injection e with e; injection e
  subst e2
  exact ⟨T.d_law.fd, law_binds T.d_law.F, fun base _ _ => ok_law (B := ⟨l.prog, K, w, clsT T⟩) rfl rfl rfl T rfl ht⟩
theorem walk {l : PySem.W.OpenLaw} {q : Program} {loose : List Str} {XP : (Str → Option Value) → Heap → Prop} {YP : World → Heap → Prop} {d : DefRec} {K : Params → PySem.W.Frag} (hn : l.most = some 63) (hdf : d.params.defaults = [])
    (hY : ∀ (w : World) (h : Heap), YP w h → (K w.params).In h)
    (F : ∀ (w : World) (mg : Str → Option Value) (fa : Addr) (h : Heap), (K w.params).In h → h.Ns mainGlobals mg → mg d.name = some (.ref fa) →
      ∃ fd : FuncData, (∀ (s : Shared) (u : Value), BindsTo s fd ⟨[u], []⟩ [("_law_script", u)]) ∧ ∀ base : Heap, (K w.params).In base → base.Ns mainGlobals mg → FnG l.prog w (K w.params) mg base CX0 16 fa fd ["_law_script"] (spLaw (K w.params))) :
    PySem.W.WalkO q loose XP YP l.row.toRowW d [] (fun f vs => PySem.call f vs) :=
  walk_ofG (n := 63) (k := 16) (x := "_law_script") (sp := fun w => spLaw (K w.params)) hn (by decide) hdf ⟨rfl, by decide, by decide⟩ hY F (fun _ _ a ns hl _ hS => ⟨a, ns, rfl, hS, hl, fun p hp => absurd hp List.not_mem_nil, fun _ => rfl⟩)
end LK
open PySem PySem.W PyProof.Rows
set_option maxRecDepth 100000 in
set_option maxHeartbeats 0 in
theorem PySem.Challenge.cw_wheelfill_k56_wrong_words_of_texts_holds : PySem.Challenge.rw_wheelfill_k56_wrong_words_of_texts.Holds := by
  w_on; o_law; k_head; (case hw => w_witness2)
  k_fill
  refine LK.walk (l := PySem.Challenge.rw_wheelfill_k56_wrong_words_of_texts) rfl rfl (fun w h Y => PySem.W.kIn_of Y) ?F
  case F =>
    intro w mg fa h KX G hmg
    refine LK.fin LK.law_true hmg ?T
    refine' LK.df_then (nm := "count_stands") (st := LK.s_count_stands) KX G ?a ?l ?c ?k ?_
    (case a => k_is); (case l => k_is); (case c => k_is); (case k => k_is)
    intro d_count_stands
    refine' LK.df_then (nm := "plain_number") (st := LK.s_plain_number) KX G ?a ?l ?c ?k ?_
    (case a => k_is); (case l => k_is); (case c => k_is); (case k => k_is)
    intro d_plain_number
    refine' LK.df_then (nm := "number_of") (st := LK.s_number_of) KX G ?a ?l ?c ?k ?_
    (case a => k_is); (case l => k_is); (case c => k_is); (case k => k_is)
    intro d_number_of
    refine' LK.df_then (nm := "take") (st := LK.s_take) KX G ?a ?l ?c ?k ?_
    (case a => k_is); (case l => k_is); (case c => k_is); (case k => k_is)
    intro d_take
    refine' LK.df_then (nm := "read_weights") (st := LK.s_read_weights) KX G ?a ?l ?c ?k ?_
    (case a => k_is); (case l => k_is); (case c => k_is); (case k => k_is)
    intro d_read_weights
    refine' LK.df_then (nm := "read_sizes") (st := LK.s_read_sizes) KX G ?a ?l ?c ?k ?_
    (case a => k_is); (case l => k_is); (case c => k_is); (case k => k_is)
    intro d_read_sizes
    refine' LK.df_then (nm := "read_bounds") (st := LK.s_read_bounds) KX G ?a ?l ?c ?k ?_
    (case a => k_is); (case l => k_is); (case c => k_is); (case k => k_is)
    intro d_read_bounds
    refine' LK.df_then (nm := "read_one") (st := LK.s_read_one) KX G ?a ?l ?c ?k ?_
    (case a => k_is); (case l => k_is); (case c => k_is); (case k => k_is)
    intro d_read_one
    refine' LK.df_then (nm := "read_line") (st := LK.s_read_line) KX G ?a ?l ?c ?k ?_
    (case a => k_is); (case l => k_is); (case c => k_is); (case k => k_is)
    intro d_read_line
    refine' LK.df_then (nm := "read_wheel") (st := LK.s_read_wheel) KX G ?a ?l ?c ?k ?_
    (case a => k_is); (case l => k_is); (case c => k_is); (case k => k_is)
    intro d_read_wheel
    refine' LK.df_then (nm := "_law_draw") (st := LK.s__law_draw) KX G ?a ?l ?c ?k ?_
    (case a => k_is); (case l => k_is); (case c => k_is); (case k => k_is)
    intro d__law_draw
    refine' LK.df_then (nm := "_law_one") (st := LK.s__law_one) KX G ?a ?l ?c ?k ?_
    (case a => k_is); (case l => k_is); (case c => k_is); (case k => k_is)
    intro d__law_one
    refine' LK.df_then (nm := "_law_count") (st := LK.s__law_count) KX G ?a ?l ?c ?k ?_
    (case a => k_is); (case l => k_is); (case c => k_is); (case k => k_is)
    intro d__law_count
    refine' LK.df_then (nm := "_law_wheel") (st := LK.s__law_wheel) KX G ?a ?l ?c ?k ?_
    (case a => k_is); (case l => k_is); (case c => k_is); (case k => k_is)
    intro d__law_wheel
    refine' LK.df_then (nm := "_law_words") (st := LK.s__law_words) KX G ?a ?l ?c ?k ?_
    (case a => k_is); (case l => k_is); (case c => k_is); (case k => k_is)
    intro d__law_words
    refine' LK.df_then (nm := "_law_text") (st := LK.s__law_text) KX G ?a ?l ?c ?k ?_
    (case a => k_is); (case l => k_is); (case c => k_is); (case k => k_is)
    intro d__law_text
    refine' LK.df_then (nm := "_law_number") (st := LK.s__law_number) KX G ?a ?l ?c ?k ?_
    (case a => k_is); (case l => k_is); (case c => k_is); (case k => k_is)
    intro d__law_number
    refine' LK.df_then (nm := "_law_limits") (st := LK.s__law_limits) KX G ?a ?l ?c ?k ?_
    (case a => k_is); (case l => k_is); (case c => k_is); (case k => k_is)
    intro d__law_limits
    refine' LK.df_then (nm := "_law_line") (st := LK.s__law_line) KX G ?a ?l ?c ?k ?_
    (case a => k_is); (case l => k_is); (case c => k_is); (case k => k_is)
    intro d__law_line
    refine' LK.df_then (nm := "_law_is_crowded") (st := LK.s__law_is_crowded) KX G ?a ?l ?c ?k ?_
    (case a => k_is); (case l => k_is); (case c => k_is); (case k => k_is)
    intro d__law_is_crowded
    refine' LK.df_then (nm := "_law_read") (st := LK.s__law_read) KX G ?a ?l ?c ?k ?_
    (case a => k_is); (case l => k_is); (case c => k_is); (case k => k_is)
    intro d__law_read
    refine' LK.df_then (nm := "_law_asked") (st := LK.s__law_asked) KX G ?a ?l ?c ?k ?_
    (case a => k_is); (case l => k_is); (case c => k_is); (case k => k_is)
    intro d__law_asked
    refine' LK.df_then (nm := "_law_odd_word") (st := LK.s__law_odd_word) KX G ?a ?l ?c ?k ?_
    (case a => k_is); (case l => k_is); (case c => k_is); (case k => k_is)
    intro d__law_odd_word
    refine' LK.df_then (nm := "_law_bent_rows") (st := LK.s__law_bent_rows) KX G ?a ?l ?c ?k ?_
    (case a => k_is); (case l => k_is); (case c => k_is); (case k => k_is)
    intro d__law_bent_rows
    refine' LK.df_then (nm := "_law_deck") (st := LK.s__law_deck) KX G ?a ?l ?c ?k ?_
    (case a => k_is); (case l => k_is); (case c => k_is); (case k => k_is)
    intro d__law_deck
    refine' LK.df_then (nm := "law") (st := LK.s_law) KX G ?a ?l ?c ?k ?_
    (case a => k_is); (case l => k_is); (case c => k_is); (case k => k_is)
    intro d_law
    refine' LK.nb_then (nm := "ValueError") KX G ?a ?_; (case a => k_is)
    intro z_ValueError
    refine' LK.nb_then (nm := "abs") KX G ?a ?_; (case a => k_is)
    intro z_abs
    refine' LK.nb_then (nm := "all") KX G ?a ?_; (case a => k_is)
    intro z_all
    refine' LK.nb_then (nm := "enumerate") KX G ?a ?_; (case a => k_is)
    intro z_enumerate
    refine' LK.nb_then (nm := "int") KX G ?a ?_; (case a => k_is)
    intro z_int
    refine' LK.nb_then (nm := "isinstance") KX G ?a ?_; (case a => k_is)
    intro z_isinstance
    refine' LK.nb_then (nm := "len") KX G ?a ?_; (case a => k_is)
    intro z_len
    refine' LK.nb_then (nm := "list") KX G ?a ?_; (case a => k_is)
    intro z_list
    refine' LK.nb_then (nm := "max") KX G ?a ?_; (case a => k_is)
    intro z_max
    refine' LK.nb_then (nm := "min") KX G ?a ?_; (case a => k_is)
    intro z_min
    refine' LK.nb_then (nm := "range") KX G ?a ?_; (case a => k_is)
    intro z_range
    refine' LK.nb_then (nm := "repr") KX G ?a ?_; (case a => k_is)
    intro z_repr
    refine' LK.nb_then (nm := "str") KX G ?a ?_; (case a => k_is)
    intro z_str
    refine' LK.nb_then (nm := "tuple") KX G ?a ?_; (case a => k_is)
    intro z_tuple
    refine' LK.ct_then (nm := "DIGITS") KX G ?a ?_; (case a => k_is)
    intro c_DIGITS
    refine' LK.ct_then (nm := "LINES") KX G ?a ?_; (case a => k_is)
    intro c_LINES
    refine' LK.ct_then (nm := "MOST_BOUND") KX G ?a ?_; (case a => k_is)
    intro c_MOST_BOUND
    refine' LK.ct_then (nm := "MOST_DIGITS") KX G ?a ?_; (case a => k_is)
    intro c_MOST_DIGITS
    refine' LK.ct_then (nm := "MOST_LOOK") KX G ?a ?_; (case a => k_is)
    intro c_MOST_LOOK
    refine' LK.ct_then (nm := "MOST_PATIENCE") KX G ?a ?_; (case a => k_is)
    intro c_MOST_PATIENCE
    refine' LK.ct_then (nm := "MOST_PLACES") KX G ?a ?_; (case a => k_is)
    intro c_MOST_PLACES
    refine' LK.ct_then (nm := "MOST_ROOM") KX G ?a ?_; (case a => k_is)
    intro c_MOST_ROOM
    refine' LK.ct_then (nm := "MOST_STANDS") KX G ?a ?_; (case a => k_is)
    intro c_MOST_STANDS
    refine' LK.ct_then (nm := "MOST_WEIGHT") KX G ?a ?_; (case a => k_is)
    intro c_MOST_WEIGHT
    refine' DL.xc_then (nm := "BadText") (qual := "BadText.__init__") (st := LK.i_BadText) (ks := ["line", "word"]) KX G ?aC ?xL ?hbm ?sa ?ga ?gg ?a1 ?t1 ?l1 ?c1 ?kf ?kC ?eC ?tC ?hC ?ha ?hn ?ht ?hm ?no ?_
    (case aC => k_is); (case xL => k_is); (case hbm => decide +kernel); (case sa => k_is); (case ga => k_is); (case gg => k_is); (case a1 => k_is); (case t1 => k_is); (case l1 => k_is); (case c1 => k_is); (case kf => k_is); (case kC => k_is); (case eC => k_is); (case tC => k_is); (case hC => k_is); (case ha => k_is); (case hn => k_is); (case ht => k_is); (case hm => k_is)
    (case no => exact DL.no2 (by k_is) (by k_is))
    intro x_BadText xe_BadText
    refine' LK.ct_then (nm := "WheelError") KX G ?a ?_; (case a => k_is)
    intro z_WheelError
    exact ⟨⟨z_ValueError, z_abs, z_all, z_enumerate, z_int, z_isinstance, z_len, z_list, z_max, z_min, z_range, z_repr, z_str, z_tuple, ⟨_, c_DIGITS⟩, ⟨_, c_LINES⟩, ⟨_, c_MOST_BOUND⟩, ⟨_, c_MOST_DIGITS⟩, ⟨_, c_MOST_LOOK⟩, ⟨_, c_MOST_PATIENCE⟩, ⟨_, c_MOST_PLACES⟩, ⟨_, c_MOST_ROOM⟩, ⟨_, c_MOST_STANDS⟩, ⟨_, c_MOST_WEIGHT⟩, x_BadText, ⟨_, z_WheelError⟩, by rw [xe_BadText]; (try dsimp only); exact DL.kit_own (by k_is) (by k_is) (by k_is), by rw [xe_BadText]; (try dsimp only); exact DL.kit_VE (by k_is), by rw [xe_BadText]; (try dsimp only); exact PySem.W.exm_ref (by k_is) (by k_is) (by k_is) (by k_is), by rw [xe_BadText]; (try dsimp only); exact DL.kit_own (by k_is) (by k_is) (by k_is), by rw [xe_BadText]; (try dsimp only); exact PySem.W.exm_ref (by k_is) (by k_is) (by k_is) (by k_is), d_count_stands, d_plain_number, d_number_of, d_take, d_read_weights, d_read_sizes, d_read_bounds, d_read_one, d_read_line, d_read_wheel, d__law_draw, d__law_one, d__law_count, d__law_wheel, d__law_words, d__law_text, d__law_number, d__law_limits, d__law_line, d__law_is_crowded, d__law_read, d__law_asked, d__law_odd_word, d__law_bent_rows, d__law_deck, d_law⟩⟩
