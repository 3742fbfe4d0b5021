import PyProof.Rows.All
import Wide.All
import OpenK.AllK
import Wide.FinOn
import HandS.ForMost
import HandS.Exc
import HandS.TryOnly
import HandS.ExcOwn
import HandS.WordsExc
import HandS.AnyAll
import HandS.Lambda
import PyProof.Rows.SeqGenD
import PyProof.TupleOfGen
import PyProof.SumAny
import KE.DataMinMax
import KE.SortData
import HandS.More
import HandS.Defaults
import HandS.HeadHook4
import HandS.HeadWalk
import HandS.NoneIn
import HandS.DictComp
import HandS.Wide
import HandS.DeepEq
import HandS.Style
import HandS.Walk
import PyProof.EqLayable
import PyProof.P3Eq
import HandS.TupAny
import HandS.NestedK
import HandS.Head0
import HandS.Head1
import HandS.Head2
import HandS.HeadEnd
import KE.KStateDown
import PySem.Challenge.RW_firestack_k03_houses_that_burn
set_option Elab.async false
set_option linter.all false
set_option maxRecDepth 100000
set_option maxHeartbeats 8000000
namespace Fy
open PySem PySem.Spec PyProof.Rows L2
/-- a quiet value: a plain one, or a tuple of plain ones that is new -/
inductive QV where
  | v (x : V)
  | t (xs : List V)
def RelQ (h : Heap) : QV → Value → Prop
  | .v x, u => RelV x u
  | .t xs, u => ∃ (a : Addr) (us : List Value), u = .ref a ∧ Vals xs us ∧ IsTup h a us.toArray
/-- the view out of a generator's frame -/
structure GV (P : Program) (w : World) (K : PySem.W.Frag) (cenv : Env) (N : List Str) (σ : L2.St) (H : Hp) (s : Shared) : Prop where
  kin : K.In s.heap
  kind : cenv.scope.kind = .function
  loc : ∃ m, s.heap.Ns cenv.locals m ∧ ∀ (i : Nat) (x : Str) (v : V), N[i]? = some x → σ[i]? = some (some v) → Vis cenv.scope x → ∃ u, RelV v u ∧ Look cenv s.heap m x u
  hok : HOk P w H s.heap
theorem kGet {s s' : Shared} (k : Keeps s s') : ∀ b o, s.heap.get? b = some o → s'.heap.get? b = some o := by
  obtain ⟨h, t, rfl, k⟩ := k
  exact k
theorem kRfl (s : Shared) : Keeps s s := ⟨s.heap, s.toks, rfl, fun _ _ e => e⟩
theorem kTok (s : Shared) (k : Nat) : Keeps s { s with toks := k } := ⟨s.heap, k, rfl, fun _ _ e => e⟩
theorem kTr {s s' s'' : Shared} (a : Keeps s s') (b : Keeps s' s'') : Keeps s s'' := by
  obtain ⟨h, t, rfl, k⟩ := a
  obtain ⟨h2, t2, rfl, k2⟩ := b
  exact ⟨h2, t2, rfl, fun b o e => k2 b o (k b o e)⟩
theorem RelQ.keeps {h h' : Heap} {q : QV} {u : Value} (r : RelQ h q u) (k : ∀ b o, h.get? b = some o → h'.get? b = some o) : RelQ h' q u := by
  cases q with
  | v x => exact r
  | t xs =>
    obtain ⟨a, us, e, rv, ob, ho, c⟩ := r
    exact ⟨a, us, e, rv, ob, k _ _ ho, c⟩
section
variable {P : Program} {w : World} {K : PySem.W.Frag} {cenv : Env} {N : List Str}
theorem GV.keeps {σ : L2.St} {H : Hp} {s s' : Shared} (g : GV P w K cenv N σ H s) (k : Keeps s s') : GV P w K cenv N σ H s' := by
  have kk := kGet k
  refine ⟨g.kin.keeps kk, g.kind, ?_, g.hok.kept kk⟩
  obtain ⟨m, hn, hl⟩ := g.loc
  refine ⟨m, hn.keeps kk, fun i x v e1 e2 e3 => ?_⟩
  obtain ⟨u, r, l⟩ := hl i x v e1 e2 e3
  refine ⟨u, r, ?_⟩
  rcases l with l | ⟨h1, c, h2, o, ho, hd⟩
  · exact .inl l
  · exact .inr ⟨h1, c, h2, o, kk _ _ ho, hd⟩
abbrev QT := L2.St → Hp → (QV → Prop) → Prop
abbrev QB := L2.St → Hp → (Bool → Prop) → Prop
/-- an element -/
structure QE (P : Program) (w : World) (K : PySem.W.Frag) (cenv : Env) (N : List Str) (e : Expr) (t : QT) : Prop where
  run : ∀ (A : Around) (E : Value → Shared → Prop) (s : Shared) (σ : L2.St) (H : Hp) (R : QV → Prop), A.handled = none → A.units + 1 < cLine → GV P w K cenv N σ H s → t σ H R →
    wpAny (model P w) A (eval e cenv) (fun y s' => Keeps s s' ∧ ∃ q, RelQ s'.heap q y ∧ R q) E s
/-- a test, whatever its whole is -/
structure QW (P : Program) (w : World) (K : PySem.W.Frag) (cenv : Env) (N : List Str) (e : Expr) (t : QB) : Prop where
  run : ∀ (whole : Sem Value) (A : Around) (E : Value → Shared → Prop) (s : Shared) (σ : L2.St) (H : Hp) (R : Bool → Prop), A.handled = none → A.units + 1 < cLine → GV P w K cenv N σ H s → t σ H R →
    wpAny (model P w) A (isTrue e cenv whole) (fun b s' => Keeps s s' ∧ R b) E s
structure QB' (P : Program) (w : World) (K : PySem.W.Frag) (cenv : Env) (N : List Str) (e : Expr) (t : QB) : Prop where
  run : ∀ (A : Around) (E : Value → Shared → Prop) (s : Shared) (σ : L2.St) (H : Hp) (R : Bool → Prop), A.handled = none → A.units + 1 < cLine → GV P w K cenv N σ H s → t σ H R →
    wpAny (model P w) A (isTrue e cenv (eval e cenv)) (fun b s' => Keeps s s' ∧ R b) E s
theorem QW.b {e : Expr} {t : QB} (h : QW P w K cenv N e t) : QB' P w K cenv N e t := ⟨h.run _⟩
def qVar (i : Nat) : QT := fun σ _ R => ∃ v, σ[i]? = some (some v) ∧ R (.v v)
def qC (v : V) : QT := fun _ _ R => R (.v v)
theorem q_var (i : Nat) {x : Str} {pos : Pos} (hN : N[i]? = some x := by rfl) (hv : Vis cenv.scope x := by first | exact Or.inl rfl | exact Or.inr (Or.inl rfl) | exact Or.inr (Or.inr rfl)) (hd : (x == ("__debug__" : Str)) = false := by decide) (hcd : (x == ("__classdict__" : Str)) = false := by decide) : QE P w K cenv N (.Name x pos) (qVar i) := by
  refine ⟨fun A E s σ H R hh hu g h => ?_⟩
  obtain ⟨v, e, h⟩ := h
  obtain ⟨m, hn, hl⟩ := g.loc
  obtain ⟨u, r, l⟩ := hl i x v hN e hv
  have fin : Keeps s s ∧ ∃ q, RelQ s.heap q u ∧ R q := ⟨kRfl s, .v v, r, h⟩
  rcases l with ⟨hk, hm⟩ | ⟨hk, c, hc, hcell⟩
  · exact wpAny_Name (wpAny_loadName_local g.kind hk hn hm fin) hd
  · rcases hk with hk | hk
    · exact wpAny_Name (wpAny_loadName_cell g.kind hk hc hcell fin) hd
    · exact wpAny_Name (wpAny_loadName_free g.kind hk hc hcell fin hcd) hd
theorem q_int {i : Int} {j : Nat} {pos : Pos} : QE P w K cenv N (.Constant (.int i) j pos) (qC (.int i)) := ⟨fun _ _ s _ _ _ _ _ _ h => wpAny_Constant_int ⟨kTok s _, .v (.int i), ⟨_, rfl⟩, h⟩⟩
theorem q_non {j : Nat} {pos : Pos} : QE P w K cenv N (.Constant .none j pos) (qC .non) := ⟨fun _ _ s _ _ _ _ _ _ h => Constant_none ⟨kRfl s, .v .non, rfl, h⟩⟩
theorem q_str {x : Str} {j : Nat} {pos : Pos} : QE P w K cenv N (.Constant (.str x) j pos) (qC (.str x)) := ⟨fun _ _ s _ _ _ _ _ _ h => Calls.Constant_str ⟨kTok s _, .v (.str x), ⟨_, rfl⟩, h⟩⟩
/-- two in a row, plain values -/
theorem qbin {a b : Expr} {ta tb : QT} (ha : QE P w K cenv N a ta) (hb : QE P w K cenv N b tb) {A : Around} {E : Value → Shared → Prop} {s : Shared} {σ : L2.St} {H : Hp} {R : QV → QV → Prop} (hh : A.handled = none) (hu : A.units + 1 < cLine) (g : GV P w K cenv N σ H s)
    (h : ta σ H fun x => tb σ H fun y => R x y) {α : Type} {Q : α → Shared → Prop} {f : Value → Value → Sem α}
    (hf : ∀ v u s2 x y, Keeps s s2 → GV P w K cenv N σ H s2 → RelQ s2.heap x v → RelQ s2.heap y u → R x y → wpAny (model P w) A (f v u) Q E s2) :
    wpAny (model P w) A (eval a cenv) (fun v s₁ => wpAny (model P w) A (eval b cenv) (fun u s₂ => wpAny (model P w) A (f v u) Q E s₂) E s₁) E s := by
  refine thn (ha.run A E s σ H _ hh hu g h) fun v s1 ⟨k1, x, r1, q1⟩ => ?_
  refine thn (hb.run A E s1 σ H _ hh hu (g.keeps k1) q1) fun u s2 ⟨k2, y, r2, q2⟩ => ?_
  exact hf v u s2 x y (kTr k1 k2) (g.keeps (kTr k1 k2)) (r1.keeps (kGet k2)) r2 q2
def qFld (K : PySem.W.Frag) (ta : QT) (f : Str) : QT := fun σ H R => ta σ H fun x => ∃ a C dx fs v, x = .v (.ref a) ∧ H a = some (.ins C dx fs) ∧ Cls K C ∧ NoAttr K C f ∧ fs.lookup f = some v ∧ R (.v v)
theorem q_fld {e : Expr} {f : Str} {pos : Pos} {ta : QT} (he : QE P w K cenv N e ta) (hb : attributeBase e f cenv (eval e cenv) = eval e cenv := by rfl) : QE P w K cenv N (.Attribute e f pos) (qFld K ta f) := by
  refine ⟨fun A E s σ H R hh hu g h => ?_⟩
  refine attr_of hb (thn (he.run A E s σ H _ hh hu g h) fun u s1 ⟨k1, x, rx, a, C, dx, fs, v, ex, ea, c, n, l, q⟩ => ?_)
  subst ex
  obtain rfl : u = Value.ref a := rx
  have g1 := g.keeps k1
  obtain ⟨mA, O, r, _, _, _⟩ := ins_get g1.hok ea
  obtain ⟨u', hu, ru⟩ := RelO.some_of (v := v) (o := mA f) (by rw [← l]; exact r f)
  exact get_map g1.kin O (c.get f) c.hd n hu (handed_of ru) ⟨kTr k1 (kTok _ _), .v v, ru, q⟩
def qGet (td ty : QT) : QT := fun σ H R => td σ H fun x => ty σ H fun y => ∃ (a : Addr) (kvs : List (Key × V)) (k : Key) (v : V), x = .v (.ref a) ∧ y = .v (kV k) ∧ Rd H a (.dK kvs) ∧ valV kvs k = some v ∧ R (.v v)
theorem q_get {o i : Expr} {pos : Pos} {td ty : QT} (ho : QE P w K cenv N o td) (hi : QE P w K cenv N i ty) (hs : NoSl i := by intro _ _; rfl) : QE P w K cenv N (.Subscript o i pos) (qGet td ty) := by
  refine ⟨fun A E s σ H R hh hu g h => ?_⟩
  refine subD_of PySem.F.slot_dict_getitem.lookup hs ?_
  refine thn (ho.run A E s σ H _ hh hu g h) fun v s1 ⟨k1, x, r1, q1⟩ => ?_
  refine thn (hi.run A E s1 σ H _ hh hu (g.keeps k1) q1) fun u s2 ⟨k2, y, r2, q2⟩ => ?_
  obtain ⟨a, kvs, k, z, rfl, rfl, e, l, q⟩ := q2
  obtain rfl : v = Value.ref a := r1
  have g2 := g.keeps (kTr k1 k2)
  obtain ⟨zz, hd, vs, rel, dd⟩ := dk_rd g2.hok e
  obtain ⟨w', hw, rw'⟩ := RelO.some_of (v := z) (o := valueAt vs k) (by rw [← l]; exact rel.val k)
  exact ⟨dd.typeIs, wpAny_getItem_of (kV_is r2) dd.mapOf hw ⟨kTr (kTr k1 k2) (kTok _ _), .v z, rw', q⟩⟩
/-- xs[i], a list or a tuple, the place not below 0 -/
def qIx (K : PySem.W.Frag) (td ty : QT) : QT := fun σ H R => td σ H fun x => ty σ H fun y => ∃ (a : Addr) (xs : List V) (i : Nat) (v : V), x = .v (.ref a) ∧ y = .v (.int i) ∧ (SqL K H a xs ∨ SqT K H a xs) ∧ xs[i]? = some v ∧ R (.v v)
theorem GV.list {σ : L2.St} {H : Hp} {s : Shared} {a : Addr} {xs : List V} (I : GV P w K cenv N σ H s) (h : SqL K H a xs) : ∃ its : List Value, Vals xs its ∧ PlainL s.heap a its.toArray ∧ xs.length ≤ sizeLine := by
  rcases h with h | ⟨o, its, n, hk, hc, hd, hs, hz, r⟩
  · obtain ⟨z, its, n, r, e⟩ := h.ok I.hok
    exact ⟨its, r, ⟨_, n, e, rfl, rfl, rfl⟩, z⟩
  · refine ⟨its.toList, r, ⟨o, n, I.kin a o hk, hc, hd, by simpa using hs⟩, ?_⟩
    have e := r.length
    simp only [Array.length_toList] at e
    omega
theorem GV.tuple {σ : L2.St} {H : Hp} {s : Shared} {a : Addr} {xs : List V} (I : GV P w K cenv N σ H s) (h : SqT K H a xs) : ∃ its : List Value, Vals xs its ∧ IsTup s.heap a its.toArray ∧ xs.length ≤ sizeLine := by
  rcases h with h | ⟨o, its, n, hk, hc, hs, hz, r⟩
  · obtain ⟨z, its, r, p⟩ := h.ok I.hok
    exact ⟨its, r, p, z⟩
  · refine ⟨its.toList, r, ⟨o, I.kin a o hk, hc, n, by simpa using hs⟩, ?_⟩
    have e := r.length
    simp only [Array.length_toList] at e
    omega
theorem q_ix {o i : Expr} {pos : Pos} {td ty : QT} (ho : QE P w K cenv N o td) (hi : QE P w K cenv N i ty) (hs : PlainIx i := by intro _ _; rfl) : QE P w K cenv N (.Subscript o i pos) (qIx K td ty) := by
  refine ⟨fun A E s σ H R hh hu g h => ?_⟩
  refine Subscript_ ?_
  refine thn (ho.run A E s σ H _ hh hu g h) fun v s1 ⟨k1, x, r1, q1⟩ => ?_
  refine thn (hi.run A E s1 σ H _ hh hu (g.keeps k1) q1) fun u s2 ⟨k2, y, r2, q2⟩ => ?_
  obtain ⟨a, xs, j, z, rfl, rfl, hq, e, q⟩ := q2
  obtain rfl : v = Value.ref a := r1
  obtain ⟨t, rfl⟩ := r2
  have g2 := g.keeps (kTr k1 k2)
  have hn := line63
  rcases hq with hq | hq
  · obtain ⟨its, r, pl, hz⟩ := g2.list hq
    obtain ⟨w', ew, rw'⟩ := r.get e
    have hl := r.length
    have hj : j < xs.length := (List.getElem?_eq_some_iff.mp e).1
    exact item_listR pl.isList (by omega) (by omega) (by simpa using ew) ⟨kTr k1 k2, .v z, rw', q⟩ (hs _ _)
  · obtain ⟨its, r, pl, hz⟩ := g2.tuple hq
    obtain ⟨w', ew, rw'⟩ := r.get e
    have hl := r.length
    have hj : j < xs.length := (List.getElem?_eq_some_iff.mp e).1
    exact subscriptTail_builtinR (x := w') pl.typeIs slot_tuple_getitem.lookup
      (getItem_tuple (j := j) (Q := fun r s' => r = w' ∧ (Keeps s s' ∧ ∃ q, RelQ s'.heap q r ∧ R q)) pl (by omega) (by omega) (by rw [List.size_toArray, ← hl, seqIndex_of (by omega) (by omega)]; simp) (by simpa using ew) ⟨rfl, kTr k1 k2, .v z, rw', q⟩) (hs _ _)
/-- d[(x, y)], a dict whose keys are tuples; the key is made new -/
def qGetT (td ty : QT) : QT := fun σ H R => td σ H fun x => ty σ H fun y => ∃ (a : Addr) (kvs : List (List Key × V)) (k : List Key) (v : V), x = .v (.ref a) ∧ y = .t (k.map kV) ∧ Rd H a (.dT kvs) ∧ valV kvs k = some v ∧ R (.v v)
theorem q_getT {o i : Expr} {pos : Pos} {td ty : QT} (ho : QE P w K cenv N o td) (hi : QE P w K cenv N i ty) (hs : NoSl i := by intro _ _; rfl) : QE P w K cenv N (.Subscript o i pos) (qGetT td ty) := by
  refine ⟨fun A E s σ H R hh hu g h => ?_⟩
  refine subD_of PySem.F.slot_dict_getitem.lookup hs ?_
  refine thn (ho.run A E s σ H _ hh hu g h) fun v s1 ⟨k1, x, r1, q1⟩ => ?_
  refine thn (hi.run A E s1 σ H _ hh hu (g.keeps k1) q1) fun u s2 ⟨k2, y, r2, q2⟩ => ?_
  obtain ⟨a, kvs, k, z, rfl, rfl, e, l, q⟩ := q2
  obtain rfl : v = Value.ref a := r1
  obtain ⟨b, us, rfl, rv, it⟩ := r2
  have g2 := g.keeps (kTr k1 k2)
  obtain ⟨zz, hd, xs, rel, dd⟩ := dt_rd g2.hok e
  obtain ⟨w', hw, rw'⟩ := RelO.some_of (v := z) (o := (atKey xs k).map (·.2)) (by rw [← l]; exact rel.val k)
  obtain ⟨p, hp, hp2⟩ := Option.map_eq_some_iff.mp hw
  have ik : (tupleKind (mixKind P w)).is s2.heap k b := by
    obtain ⟨o, h1, h2, n, h3⟩ := it
    exact ⟨o, us.toArray, n, h1, h2, h3, by simpa using items_are rv⟩
  refine ⟨dd.typeIs, wpAny_getItem_heap (tupleKind_room_in1 hu) ik dd hp ?_⟩
  rw [hp2]
  exact ⟨kTr (kTr k1 k2) (kTok _ _), .v z, rw', q⟩
def qOp (r : V → V → Hp → (V → Prop) → Prop) (ta tb : QT) : QT := fun σ H R => ta σ H fun x => tb σ H fun y => ∃ a b, x = .v a ∧ y = .v b ∧ r a b H fun z => R (.v z)
/-- a rule for two values -/
def OpQ (P : Program) (w : World) (K : PySem.W.Frag) (cenv : Env) (N : List Str) (f : Value → Value → Sem Value) (r : V → V → Hp → (V → Prop) → Prop) : Prop :=
  ∀ (A : Around) (E : Value → Shared → Prop) (s : Shared) (σ : L2.St) (H : Hp) (x y : V) (v u : Value) (R : V → Prop), A.handled = none → A.units + 1 < cLine → GV P w K cenv N σ H s → RelV x v → RelV y u → r x y H R →
    wpAny (model P w) A (f v u) (fun c s' => Keeps s s' ∧ ∃ z, RelV z c ∧ R z) E s
theorem q_op {op : Operator} {a b : Expr} {pos : Pos} {r : V → V → Hp → (V → Prop) → Prop} {ta tb : QT} (ho : OpQ P w K cenv N (binaryOp op) r) (ha : QE P w K cenv N a ta) (hb : QE P w K cenv N b tb) : QE P w K cenv N (.BinOp a op b pos) (qOp r ta tb) := by
  refine ⟨fun A E s σ H R hh hu g h => ?_⟩
  refine wpAny_BinOp (qbin ha hb hh hu g h fun v u s2 x y k2 g2 rx ry q => ?_)
  obtain ⟨a', b', rfl, rfl, q⟩ := q
  exact thn (ho A E s2 σ H a' b' v u _ hh hu g2 rx ry q) fun c s3 ⟨k3, z, rz, qz⟩ => ⟨kTr k2 k3, .v z, rz, qz⟩
def qrI (f : Int → Int → Int) : V → V → Hp → (V → Prop) → Prop := fun x y _ R => ∃ i j, x = .int i ∧ y = .int j ∧ R (.int (f i j))
def qrB (f : Int → Int → Bool) : V → V → Hp → (V → Prop) → Prop := fun x y _ R => ∃ i j, x = .int i ∧ y = .int j ∧ R (.bl (f i j))
theorem oq_sub : OpQ P w K cenv N (binaryOp .Sub) (qrI fun i j => i - j) := by
  rintro A E s σ H x y v u R hh hu g rx ry ⟨i, j, rfl, rfl, q⟩
  obtain ⟨t, rfl⟩ := rx
  obtain ⟨t', rfl⟩ := ry
  exact sub_int ⟨kTok s _, .int _, ⟨_, rfl⟩, q⟩
theorem oq_add : OpQ P w K cenv N (binaryOp .Add) (qrI fun i j => i + j) := by
  rintro A E s σ H x y v u R hh hu g rx ry ⟨i, j, rfl, rfl, q⟩
  obtain ⟨t, rfl⟩ := rx
  obtain ⟨t', rfl⟩ := ry
  exact add_int ⟨kTok s _, .int _, ⟨_, rfl⟩, q⟩
theorem fin_q {R : V → Prop} {s : Shared} {k k' : Bool} (q : R (.bl k)) (e : k = k') : Keeps s s ∧ ∃ z, RelV z (.bool k') ∧ R z := by
  subst e
  exact ⟨kRfl s, .bl k, rfl, q⟩
theorem oq_lt : OpQ P w K cenv N (compareOp .Lt) (qrB fun i j => decide (i < j)) := by
  rintro A E s σ H x y v u R hh hu g rx ry ⟨i, j, rfl, rfl, q⟩
  obtain ⟨t, rfl⟩ := rx
  obtain ⟨t', rfl⟩ := ry
  exact lt_int (fin_q q rfl)
theorem oq_le : OpQ P w K cenv N (compareOp .LtE) (qrB fun i j => decide (i ≤ j)) := by
  rintro A E s σ H x y v u R hh hu g rx ry ⟨i, j, rfl, rfl, q⟩
  obtain ⟨t, rfl⟩ := rx
  obtain ⟨t', rfl⟩ := ry
  exact le_int (fin_q q rfl)
theorem oq_gt : OpQ P w K cenv N (compareOp .Gt) (qrB fun i j => decide (j < i)) := by
  rintro A E s σ H x y v u R hh hu g rx ry ⟨i, j, rfl, rfl, q⟩
  obtain ⟨t, rfl⟩ := rx
  obtain ⟨t', rfl⟩ := ry
  exact gt_int (fin_q q rfl)
/-- == of plain values: ints, texts, None, bools -/
theorem oq_eq : OpQ P w K cenv N (compareOp .Eq) (fun x y _ R => scal x y = true ∧ R (.bl (decide (x = y)))) := by
  rintro A E s σ H x y v u R hh hu g rx ry ⟨hs, q⟩
  cases x with
  | non =>
    cases rx
    cases y with
    | non => cases ry; exact PySem.EqNone.eq_none_none (fin_q q (by simp))
    | bl j => cases ry; exact PySem.EqNone.eq_none_bool (fin_q q (by simp))
    | int j => obtain ⟨t', rfl⟩ := ry; exact PySem.EqNone.eq_none_int (fin_q q (by simp))
    | str j => obtain ⟨t', rfl⟩ := ry; exact PySem.EqNone.eq_none_str (fin_q q (by simp))
    | _ => exact absurd (show false = true from hs) Bool.false_ne_true
  | int i =>
    obtain ⟨t, rfl⟩ := rx
    cases y with
    | non => cases ry; exact PySem.EqNone.eq_int_none (fin_q q (by simp))
    | int j => obtain ⟨t', rfl⟩ := ry; exact eq_int (fin_q q dec_int)
    | str j => obtain ⟨t', rfl⟩ := ry; exact PySem.EqMixed.eq_int_str (fin_q q (by simp))
    | _ => exact absurd (show false = true from hs) Bool.false_ne_true
  | str i =>
    obtain ⟨t, rfl⟩ := rx
    cases y with
    | non => cases ry; exact PySem.EqNone.eq_str_none (fin_q q (by simp))
    | bl j => cases ry; exact PySem.EqMixed.eq_str_bool (fin_q q (by simp))
    | int j => obtain ⟨t', rfl⟩ := ry; exact PySem.EqMixed.eq_str_int (fin_q q (by simp))
    | str j => obtain ⟨t', rfl⟩ := ry; exact eq_str (fin_q q dec_str)
    | _ => exact absurd (show false = true from hs) Bool.false_ne_true
  | bl i =>
    cases rx
    cases y with
    | non => cases ry; exact PySem.EqNone.eq_bool_none (fin_q q (by simp))
    | bl j => cases ry; exact eq_bool (fin_q q dec_bl)
    | str j => obtain ⟨t', rfl⟩ := ry; exact PySem.EqMixed.eq_bool_str (fin_q q (by simp))
    | _ => exact absurd (show false = true from hs) Bool.false_ne_true
  | byt i =>
    obtain ⟨t, rfl⟩ := rx
    cases y with
    | byt j => obtain ⟨t', rfl⟩ := ry; exact PySem.W.eq_bytes (fin_q q dec_byt)
    | _ => exact absurd (show false = true from hs) Bool.false_ne_true
  | _ => cases y <;> exact absurd (show false = true from hs) Bool.false_ne_true
theorem oq_isN : OpQ P w K cenv N (compareOp .Is) (fun x y _ R => y = .non ∧ R (.bl (decide (x = .non)))) := by
  rintro A E s σ H x y v u R hh hu g rx ry ⟨rfl, q⟩
  cases ry
  exact is_none_gen (fin_q q rx.none_iff.symm)
theorem oq_notN : OpQ P w K cenv N (compareOp .IsNot) (fun x y _ R => y = .non ∧ R (.bl (!decide (x = .non)))) := by
  rintro A E s σ H x y v u R hh hu g rx ry ⟨rfl, q⟩
  cases ry
  exact isnot_none_gen (fin_q q (by rw [rx.none_iff]))
/-- k in d, k not in d: a dict of ints and texts -/
theorem oq_din : OpQ P w K cenv N (compareOp .In) (fun x y H R => ∃ (a : Addr) (kvs : List (Key × V)) (k : Key), y = .ref a ∧ x = kV k ∧ Rd H a (.dK kvs) ∧ R (.bl (valV kvs k).isSome)) := by
  rintro A E s σ H x y v u R hh hu g rx ry ⟨a, kvs, k, rfl, rfl, e, q⟩
  obtain rfl : u = Value.ref a := ry
  obtain ⟨z, hd, vs, rel, dd⟩ := dk_rd g.hok e
  refine wpAny_in_of (kV_is rx) hd dd.mapOf ⟨kTok s _, .bl _, rfl, ?_⟩
  rw [← (rel.val k).isSome_eq]
  exact q
theorem oq_dnotin : OpQ P w K cenv N (compareOp .NotIn) (fun x y H R => ∃ (a : Addr) (kvs : List (Key × V)) (k : Key), y = .ref a ∧ x = kV k ∧ Rd H a (.dK kvs) ∧ R (.bl (!(valV kvs k).isSome))) := by
  rintro A E s σ H x y v u R hh hu g rx ry ⟨a, kvs, k, rfl, rfl, e, q⟩
  obtain rfl : u = Value.ref a := ry
  obtain ⟨z, hd, vs, rel, dd⟩ := dk_rd g.hok e
  refine wpAny_notIn_of (kV_is rx) hd dd.mapOf ⟨kTok s _, .bl _, rfl, ?_⟩
  rw [← (rel.val k).isSome_eq]
  exact q
/-- x in xs, x not in xs: a list of plain values -/
theorem oq_lin : OpQ P w K cenv N (compareOp .In) (fun x y H R => ∃ (a : Addr) (xs : List V), y = .ref a ∧ SqL K H a xs ∧ flatV x = true ∧ xs.all flatV = true ∧ R (.bl (inV x xs))) := by
  rintro A E s σ H x y v u R hh hu g rx ry ⟨a, xs, rfl, hq, fx, fs, q⟩
  obtain rfl : u = Value.ref a := ry
  obtain ⟨its, r, pl, hz⟩ := g.list hq
  refine SeqAt.in_listAt (eqU x) pl.isList (fun w hw => mem_eqAt rx fx r fs w (by simpa using hw)) ⟨kRfl s, .bl _, rfl, ?_⟩
  rw [show its.toArray.any (eqU x) = its.any (eqU x) by simp, any_eqU r fs]
  exact q
theorem oq_lnotin : OpQ P w K cenv N (compareOp .NotIn) (fun x y H R => ∃ (a : Addr) (xs : List V), y = .ref a ∧ SqL K H a xs ∧ flatV x = true ∧ xs.all flatV = true ∧ R (.bl (!inV x xs))) := by
  rintro A E s σ H x y v u R hh hu g rx ry ⟨a, xs, rfl, hq, fx, fs, q⟩
  obtain rfl : u = Value.ref a := ry
  obtain ⟨its, r, pl, hz⟩ := g.list hq
  refine SeqAt.notIn_listAt (eqU x) pl.isList (fun w hw => mem_eqAt rx fx r fs w (by simpa using hw)) ⟨kRfl s, .bl _, rfl, ?_⟩
  rw [show its.toArray.any (eqU x) = its.any (eqU x) by simp, any_eqU r fs]
  exact q
theorem q_cmp {op : CmpOp} {a b : Expr} {pos : Pos} {r : V → V → Hp → (V → Prop) → Prop} {ta tb : QT} (ho : OpQ P w K cenv N (compareOp op) r) (ha : QE P w K cenv N a ta) (hb : QE P w K cenv N b tb) (hm : behindInMarks op b = false := by first | exact nobehind _ (by decide) (by decide) | rfl) :
    QE P w K cenv N (.Compare a [op] [b] pos) (qOp r ta tb) := by
  refine ⟨fun A E s σ H R hh hu g h => ?_⟩
  refine wpAny_Compare1 (qbin ha hb hh hu g h fun v u s2 x y k2 g2 rx ry q => ?_) hm
  obtain ⟨a', b', rfl, rfl, q⟩ := q
  exact thn (ho A E s2 σ H a' b' v u _ hh hu g2 rx ry q) fun c s3 ⟨k3, z, rz, qz⟩ => ⟨kTr k2 k3, .v z, rz, qz⟩
/-- .. as a test -/
def qTst (t : QT) : QB := fun σ H R => t σ H fun x => ∃ k, x = .v (.bl k) ∧ R k
theorem qt_cmp {op : CmpOp} {a b : Expr} {pos : Pos} {r : V → V → Hp → (V → Prop) → Prop} {ta tb : QT} (ho : OpQ P w K cenv N (compareOp op) r) (ha : QE P w K cenv N a ta) (hb : QE P w K cenv N b tb) (hm : behindInMarks op b = false := by first | exact nobehind _ (by decide) (by decide) | rfl) :
    QB' P w K cenv N (.Compare a [op] [b] pos) (qTst (qOp r ta tb)) := by
  refine ⟨fun A E s σ H R hh hu g h => ?_⟩
  refine wpAny_isTrue_Compare1 (qbin ha hb hh hu g h fun v u s2 x y k2 g2 rx ry q => ?_) hm
  obtain ⟨a', b', rfl, rfl, q⟩ := q
  refine thn (ho A E s2 σ H a' b' v u _ hh hu g2 rx ry q) fun c s3 ⟨k3, z, rz, k, ez, qz⟩ => ?_
  cases ez
  cases rz
  exact wpAny_truthy_bool ⟨kTr k2 k3, qz⟩
def qAnd (t u : QB) : QB := fun σ H R => t σ H fun c => if c = true then u σ H R else R false
def qOr (t u : QB) : QB := fun σ H R => t σ H fun c => if c = true then R true else u σ H R
theorem qw_and1 {a : Expr} {pos : Pos} {ta : QB} (ha : QB' P w K cenv N a ta) : QW P w K cenv N (.BoolOp .And [a] pos) ta := by
  refine ⟨fun wh A E s σ H R hh hu g h => isTrue_and (thn (ha.run A E s σ H R hh hu g h) fun c s1 e => ?_)⟩
  cases c with
  | true => exact isTrue_and_nil e
  | false => exact e
theorem qw_and {a b : Expr} {rest : List Expr} {pos : Pos} {ta tb : QB} (ha : QB' P w K cenv N a ta) (hb : QW P w K cenv N (.BoolOp .And (b :: rest) pos) tb) : QW P w K cenv N (.BoolOp .And (a :: b :: rest) pos) (qAnd ta tb) := by
  refine ⟨fun wh A E s σ H R hh hu g h => isTrue_and (thn (ha.run A E s σ H _ hh hu g h) fun c s1 e => ?_)⟩
  obtain ⟨k, q⟩ := e
  cases c with
  | true => exact thn (hb.run wh A E s1 σ H R hh hu (g.keeps k) q) fun d s2 ⟨k2, q2⟩ => ⟨kTr k k2, q2⟩
  | false => exact ⟨k, q⟩
/-- and, or as values of truth values -/
def qAndV (ta tb : QT) : QT := fun σ H R => ta σ H fun x => ∃ c, x = .v (.bl c) ∧ if c = true then tb σ H R else R (.v (.bl false))
def qOrV (ta tb : QT) : QT := fun σ H R => ta σ H fun x => ∃ c, x = .v (.bl c) ∧ if c = true then R (.v (.bl true)) else tb σ H R
theorem q_one {op} {a : Expr} {pos : Pos} {t : QT} (h : QE P w K cenv N a t) : QE P w K cenv N (.BoolOp op [a] pos) t := ⟨fun A E s σ H R hh hu g hw => BoolOp_one (h.run A E s σ H R hh hu g hw)⟩
theorem q_and {a b : Expr} {rest : List Expr} {pos : Pos} {ta tb : QT} (ha : QE P w K cenv N a ta) (hb : QE P w K cenv N (.BoolOp .And (b :: rest) pos) tb) : QE P w K cenv N (.BoolOp .And (a :: b :: rest) pos) (qAndV ta tb) := by
  refine ⟨fun A E s σ H R hh hu g h => BoolOp_and (thn (ha.run A E s σ H _ hh hu g h) fun v s1 ⟨k, x, r1, c, ex, q1⟩ => ?_)⟩
  subst ex
  cases r1
  refine wpAny_truthy_bool ?_
  cases c with
  | true => exact thn (hb.run A E s1 σ H R hh hu (g.keeps k) q1) fun d s2 ⟨k2, q2⟩ => ⟨kTr k k2, q2⟩
  | false => exact ⟨k, .v (.bl false), rfl, q1⟩
theorem q_or {a b : Expr} {rest : List Expr} {pos : Pos} {ta tb : QT} (ha : QE P w K cenv N a ta) (hb : QE P w K cenv N (.BoolOp .Or (b :: rest) pos) tb) : QE P w K cenv N (.BoolOp .Or (a :: b :: rest) pos) (qOrV ta tb) := by
  refine ⟨fun A E s σ H R hh hu g h => BoolOp_or (thn (ha.run A E s σ H _ hh hu g h) fun v s1 ⟨k, x, r1, c, ex, q1⟩ => ?_)⟩
  subst ex
  cases r1
  refine wpAny_truthy_bool ?_
  cases c with
  | false => exact thn (hb.run A E s1 σ H R hh hu (g.keeps k) q1) fun d s2 ⟨k2, q2⟩ => ⟨kTr k k2, q2⟩
  | true => exact ⟨k, .v (.bl true), rfl, q1⟩
def qTup2 (ta tb : QT) : QT := fun σ H R => ta σ H fun x => tb σ H fun y => ∃ a b, x = .v a ∧ y = .v b ∧ R (.t [a, b])
theorem q_tup2 {a b : Expr} {j : Nat} {pos : Pos} {ta tb : QT} (ha : QE P w K cenv N a ta) (hb : QE P w K cenv N b tb)
    (hs : starEach [a, b] cenv = [(false, eval a cenv), (false, eval b cenv)] := by rfl) : QE P w K cenv N (.Tuple [a, b] j pos) (qTup2 ta tb) := by
  refine ⟨fun A E s σ H R hh hu g h => ?_⟩
  refine Tuple_ ?_
  rw [hs]
  show wpAny _ _ (spliced (backTo pos [(false, eval a cenv), (false, eval b cenv)])) _ _ s
  refine Calls.spliced_cons (thn (ha.run A E s σ H _ hh hu g h) fun v s1 ⟨k1, x, r1, q1⟩ => ?_)
  refine Calls.spliced_cons (thn (hb.run A E s1 σ H _ hh hu (g.keeps k1) q1) fun u s2 ⟨k2, y, r2, q2⟩ => ?_)
  refine Calls.spliced_nil ?_
  obtain ⟨p, q, rfl, rfl, qq⟩ := q2
  refine wpAny_newObj_type ?_ (by show 2 ≤ sizeLine; decide)
  have kp : Keeps s2 { s2 with heap := s2.heap.push { cls := .type "tuple", data := .seq [v, u].toArray } } := ⟨_, s2.toks, rfl, fun b o e => Heap.get?_push_of_some _ e⟩
  exact ⟨kTr (kTr k1 k2) kp, .t [p, q], ⟨_, [v, u], rfl, .cons r1 (.cons r2 .nil), IsTup.new s2.heap _⟩, qq⟩
end
end Fy
namespace Fy
open PySem PySem.Spec PyProof.Rows L2
open GxR (TabG Tabbed inv_tab sh_eta)
/-- what a value gives when it is walked -/
def Src (K : PySem.W.Frag) (H : Hp) (x : V) (items : List V) : Prop :=
  ∃ a, x = .ref a ∧ (SqL K H a items ∨ SqT K H a items ∨ ∃ kvs : List (Key × V), Rd H a (.dK kvs) ∧ items = kvs.map fun p => kV p.1)
theorem tup_at {h h' : Heap} {a : Addr} {its : Array Value} (x : IsTup h a its) (e : ∀ o, h.get? a = some o → h'.get? a = some o) : IsTup h' a its := by
  obtain ⟨o, q, r⟩ := x
  exact ⟨o, e o q, r⟩
theorem vals_at {xs : List V} {its : List Value} (rv : Vals xs its) {i : Nat} {v : Value} (hv : its[i]? = some v) : ∃ y, xs[i]? = some y ∧ RelV y v := by
  have hl := rv.length
  have hi : i < xs.length := by rw [hl]; exact (List.getElem?_eq_some_iff.mp hv).1
  obtain ⟨v', e1, e2⟩ := rv.get (i := i) (x := xs[i]) (by simp [hi])
  rw [hv] at e1
  cases e1
  exact ⟨xs[i], by simp [hi], e2⟩
section
variable {X : Cx} {pins : List (Addr × Obj)} {σ : L2.St} {H : Hp} {s : Shared}
theorem src_iter {E : Value → Shared → Prop} {x : V} {u : Value} {items : List V} {Q : Value → Shared → Prop} (I : Inv X pins σ H s) (h : Src X.K H x items) (rx : RelV x u)
    (hQ : ∀ (o : Obj) (a : Addr) (F : Nat → Value → Prop) (St : Nat → Heap → Prop), a < s.heap.objs.size → (∀ ps, H a ≠ some (.tbl ps)) → (∀ A' : Around, A'.handled = none → Walks X.prog X.w A' s.heap.objs.size [s.heap.objs.size, a] [s.heap.objs.size] items.length F St) →
      St 0 (s.heap.push o) → (∀ i v, F i v → ∃ y, items[i]? = some y ∧ RelV y v) → Q (.ref s.heap.objs.size) { s with heap := s.heap.push o }) :
    wpAny (model X.prog X.w) X.A (pyIter u) Q E s := by
  obtain ⟨a, rfl, h⟩ := h
  obtain rfl : u = Value.ref a := rx
  have nt : ∀ {u : HO}, Rd H a u → (∀ ps, u ≠ .tbl ps) → ∀ ps, H a ≠ some (.tbl ps) := fun {u} r n ps z => by
    rcases r with r | ⟨o, r⟩
    · rw [r] at z; exact n ps (Option.some.inj z)
    · rw [r] at z; cases z
  have ntK : ∀ {o : Obj}, X.K.lookup a = some o → ∀ ps, H a ≠ some (.tbl ps) := fun {o} r ps z => by
    rw [(I.bs a o (I.mod.kin a o r)).2] at z
    cases z
  rcases h with h | h | ⟨kvs, h, rfl⟩
  · obtain ⟨its, rv, pl, hz⟩ := I.list h
    have lt : a < s.heap.objs.size := let ⟨o, n, e, _⟩ := pl; Heap.lt_size e
    have hl := rv.length
    refine wpAny_pyIter_list pl.isList ?_
    refine hQ _ a (fun i v => its.toArray[i]? = some v) (fun i h => h.IsListIter s.heap.objs.size a i ∧ h.IsList a its.toArray) lt (h.elim (fun r => nt r fun _ z => by cases z) fun ⟨_, _, _, r, _⟩ => ntK r) (fun A' hA => ?_) ⟨⟨_, Heap.get?_push_size _ rfl, rfl, rfl⟩, ?_⟩ fun i v hv => vals_at rv (by simpa using hv)
    · have W := Walks.list (prog := X.prog) (w := X.w) hA s.heap.objs.size a (Nat.ne_of_lt lt) its.toArray
      rw [show its.toArray.size = items.length by rw [hl]; simp] at W
      exact W
    · exact pl.isList.at fun o e => Heap.get?_push_of_some _ e
  · obtain ⟨its, rv, pl, hz⟩ := I.tuple h
    have lt : a < s.heap.objs.size := pl.lt
    have hl := rv.length
    refine wpAny_pyIter_tuple (show s.heap.IsTuple a its.toArray from pl) ?_
    refine hQ _ a (fun i v => its.toArray[i]? = some v) (fun i h => h.IsTupleIter s.heap.objs.size a i ∧ h.IsTuple a its.toArray) lt (h.elim (fun r => nt r fun _ z => by cases z) fun ⟨_, _, _, r, _⟩ => ntK r) (fun A' hA => ?_) ⟨⟨_, Heap.get?_push_size _ rfl, rfl, rfl⟩, ?_⟩ fun i v hv => vals_at rv (by simpa using hv)
    · have W := Walks.tuple (prog := X.prog) (w := X.w) hA s.heap.objs.size a (Nat.ne_of_lt lt) its.toArray
      rw [show its.toArray.size = items.length by rw [hl]; simp] at W
      exact W
    · exact tup_at pl fun o e => Heap.get?_push_of_some _ e
  · obtain ⟨z, hd, vs, rel, dd⟩ := dk_rd I.hok h
    obtain ⟨ep, da⟩ := dd.dictAt
    have lt : a < s.heap.objs.size := let ⟨o, es, e, _⟩ := da; Heap.lt_size e
    have hl := rel.length
    refine wpAny_pyIter_dict hd da ?_
    refine hQ _ a (fun i v => ∃ k x, vs[i]? = some (k, x) ∧ (mixKind X.prog X.w).is k v = true) (fun i h => h.IsKeyIter s.heap.objs.size a i vs.length ep ∧ h.DictAt (mixKind X.prog X.w) a vs ep) lt (nt h fun _ z => by cases z) (fun A' hA => ?_) ⟨?_, ?_⟩ fun i v hv => ?_
    · have W := Walks.dictKeys (prog := X.prog) (w := X.w) (knd := mixKind X.prog X.w) hA s.heap.objs.size a (Nat.ne_of_lt lt) vs ep
      rw [← hl] at W
      rw [← hl, List.length_map]
      exact W
    · exact ⟨_, Heap.get?_push_size _ rfl, rfl, rfl⟩
    · exact da.at' fun o e => Heap.get?_push_of_some _ e
    · obtain ⟨k, x, e, hk⟩ := hv
      have hi : i < kvs.length := by rw [hl]; exact (List.getElem?_eq_some_iff.mp e).1
      have ek : kvs.map (·.1) = vs.map (·.1) := rel.keys
      have e2 : (kvs.map (·.1))[i]? = some k := by rw [ek, List.getElem?_map, e] <;> rfl
      refine ⟨kV k, ?_, relV_key hk⟩
      rw [List.getElem?_map] at e2 ⊢
      cases q : kvs[i]? with
      | none => rw [q] at e2; cases e2
      | some y =>
        rw [q] at e2
        have e3 : y.1 = k := Option.some.inj e2
        show some (kV y.1) = some (kV k)
        rw [e3]
end
/-- the tests of a generator expression -/
structure QTs (P : Program) (w : World) (K : PySem.W.Frag) (cenv : Env) (N : List Str) (ifs : List Expr) (t : QB) : Prop where
  run : ∀ (A : Around) (E : Value → Shared → Prop) (s : Shared) (σ : L2.St) (H : Hp) (R : Bool → Prop), A.handled = none → A.units + 1 < cLine → GV P w K cenv N σ H s → t σ H R →
    wpAny (model P w) A (forIn ifs true fun c r => if r = true then do let ok ← isTrue c cenv (eval c cenv); pure (ForInStep.yield ok) else pure (ForInStep.yield r)) (fun b s' => Keeps s s' ∧ R b) E s
def qYes : QB := fun _ _ R => R true
section
variable {P : Program} {w : World} {K : PySem.W.Frag} {cenv : Env} {N : List Str}
theorem qts_nil : QTs P w K cenv N [] qYes := ⟨fun A E s σ H R hh hu g h => by
  simp only [List.forIn_nil]
  exact wpAny_pure ⟨kRfl s, h⟩⟩
theorem qts_one {c : Expr} {t : QB} (h : QB' P w K cenv N c t) : QTs P w K cenv N [c] t := ⟨fun A E s σ H R hh hu g hw => wpAny_tests_one (h.run A E s σ H R hh hu g hw)⟩
end
/-- the generator's scope: its own name x, captured names that the def has as cells -/
structure GenSc (N : List Str) (sc scope : Scope) (x : Str) : Prop where
  kind : scope.kind = .function
  co : scope.isCoroutine = false
  cell : ∀ y ∈ scope.names, y.2 ≠ .cell
  loc : ∀ y ∈ scope.names, y.2 = .local → y.1 = x ∨ y.1 = ".0"
  free : ∀ y ∈ scope.names, y.2 = .free → sc.names.lookup y.1 = some .cell ∨ sc.names.lookup y.1 = some .free
  dot : scope.names.lookup (".0" : Str) = some NameKind.local
  own : scope.names.lookup x = some .local
  nodot : (".0" : Str) ∉ N
def genSB (N : List Str) (sc scope : Scope) (x : Str) : Bool :=
  decide (scope.kind = .function) && (!scope.isCoroutine && (scope.names.all (fun y => !decide (y.2 = .cell) && ((!decide (y.2 = .local) || (decide (y.1 = x) || decide (y.1 = ".0"))) && (!decide (y.2 = .free) || (decide (sc.names.lookup y.1 = some .cell) || decide (sc.names.lookup y.1 = some .free))))) &&
    (decide (scope.names.lookup (".0" : Str) = some NameKind.local) && (decide (scope.names.lookup x = some .local) && !decide ((".0" : Str) ∈ N)))))
theorem genS_by {N : List Str} {sc scope : Scope} {x : Str} (h : genSB N sc scope x = true) : GenSc N sc scope x := by
  unfold genSB at h
  simp only [Bool.and_eq_true, Bool.or_eq_true, Bool.not_eq_true', decide_eq_true_eq, decide_eq_false_iff_not, List.all_eq_true] at h
  obtain ⟨h1, h2, h3, h4, h5, h6⟩ := h
  refine ⟨h1, h2, fun y hy => (h3 y hy).1, fun y hy e => ?_, fun y hy e => ?_, h4, h5, h6⟩
  · rcases (h3 y hy).2.1 with z | z
    · exact absurd e z
    · exact z
  · rcases (h3 y hy).2.2 with z | z
    · exact absurd e z
    · exact z
theorem GenSc.has {X : Cx} {N : List Str} {scope : Scope} {x : Str} (L : GenSc N X.env.scope scope x) (ok : X.Ok) : ∀ y ∈ scope.names, y.2 = .free → ∃ c, X.env.cells.lookup y.1 = some c := fun y hy e => by
  rcases L.free y hy e with k | k
  · exact ok.has _ (.inl k)
  · exact ok.has _ (.inr k)
section
variable {X : Cx} {pins : List (Addr × Obj)} {σ : L2.St} {H H1 : Hp} {s s1 : Shared}
/-- the view in the generator's frame -/
theorem gv_of {scope : Scope} {x : Str} {i : Nat} {C : Addr} {code : Value} {bi : Addr} {s2 : Shared} {m2 : Str → Option Value} {v : Value} {y : V} (I : Inv X pins σ H s) (hN : X.N.Nodup) (hi : X.N[i]? = some x) (L : GenSc X.N X.env.scope scope x)
    (hm : m2 x = some v) (rv : RelV y v) (hn : s2.heap.Ns C m2) (it : Addr) (hit : H it = none) (nit : ∀ b o, X.base.get? b = some o → b ≠ it) (ncell : ∀ z c, X.env.cells.lookup z = some c → c ≠ it)
    (k : ∀ b o, b ≠ it → s.heap.get? b = some o → s2.heap.get? b = some o) :
    GV X.prog X.w X.K (genEnv scope (cloFrom X.env.cells scope.names []) C code bi X.env) X.N (σ.set i (some y)) H s2 := by
  have hfree := L.has I.ok
  have cm : ∀ {y c}, (cloFrom X.env.cells scope.names []).lookup y = some c → X.env.cells.lookup y = some c := fun {y c} e => by
    rcases cloFrom_mem (PySem.mem_of_lookup e) with hm | ⟨h1, h2⟩
    · cases hm
    · obtain ⟨c1, hc⟩ := hfree _ h1 rfl
      have hc : X.env.cells.lookup y = some c1 := hc
      have e2 : c = c1 := by
        rw [h2, hc] <;> rfl
      rw [e2]
      exact hc
  refine ⟨I.mod.kin.keeps fun b o e => k b o (nit b o e) (I.bk b o e), L.kind, ⟨m2, hn, fun j z u e1 e2 e3 => ?_⟩, fun b u e => ?_⟩
  · by_cases hj : j = i
    · subst hj
      rw [hi] at e1
      cases e1
      have hlt : j < σ.length := by rw [I.len]; exact (List.getElem?_eq_some_iff.mp hi).1
      rw [List.getElem?_set_self hlt] at e2
      cases e2
      exact ⟨v, rv, .inl ⟨L.own, hm⟩⟩
    · rw [List.getElem?_set_ne (Ne.symm hj)] at e2
      have e3 : Vis scope z := e3
      rcases e3 with k1 | k1 | k1
      · rcases L.loc _ (PySem.mem_of_lookup k1) rfl with q | q
        · have q : z = x := q
          subst q
          exact absurd (nodup_ix hN e1 hi) hj
        · have q : z = ".0" := q
          subst q
          exact absurd (List.mem_of_getElem? e1) L.nodot
      · exact absurd rfl (L.cell _ (PySem.mem_of_lookup k1))
      · obtain ⟨m, hns, hl⟩ := I.loc
        have hvis : Vis X.env.scope z := (L.free _ (PySem.mem_of_lookup k1) rfl).elim (fun k => .inr (.inl k)) (fun k => .inr (.inr k))
        obtain ⟨w', r, q⟩ := hl j z u e1 e2 hvis
        obtain ⟨c2, h2⟩ := mem_lookup (cloFrom_has (cells := X.env.cells) (acc := []) (PySem.mem_of_lookup k1 : (z, NameKind.free) ∈ scope.names))
        refine ⟨w', r, .inr ⟨.inr k1, c2, h2, ?_⟩⟩
        have c1 := cm h2
        rcases q with ⟨k', _⟩ | ⟨_, c3, e', zz⟩
        · have k' : X.env.scope.names.lookup z = some .local := k'
          rcases L.free _ (PySem.mem_of_lookup k1) rfl with k2 | k2 <;> rw [show X.env.scope.names.lookup z = _ from k2] at k' <;> cases k'
        · rw [c1] at e'
          cases e'
          obtain ⟨o, ho, hd⟩ := zz
          exact ⟨o, k _ _ (ncell _ _ c1) ho, hd⟩
  · have tr : ∀ c u, H c = some u → c ≠ it := fun c u e z => by rw [z, hit] at e; cases e
    refine (I.hok b u e).stay (fun c v' hc q => k c v' ?_ q) (fun _ q => q) fun _ _ q => q
    rcases hc with z | z
    · rw [z]; exact tr _ _ e
    · exact tr _ _ z
end
end Fy
namespace Fy
open PySem PySem.Spec PyProof.Rows L2
open GxR (TabG Tabbed inv_tab sh_eta)
/-- a generator at g that will give the values ys; behind it the table at P may have grown -/
def ReadyV (X : Cx) (pins : List (Addr × Obj)) (σ : L2.St) (H1 : Hp) (P : Addr) (R : List V → Hp → Prop) (g : Addr) (s5 : Shared) : Prop :=
  ∃ (ys : List V) (fp wr : List Addr) (G : Array GenState → Array GenState → Prop) (F : Nat → Value → Prop) (St : Nat → Shared → Prop),
    WalksS X.prog X.w X.A.in4 g fp wr G ys.length F St ∧ St 0 s5 ∧ (∀ b ∈ fp, b < s5.heap.objs.size) ∧ g ∈ fp ∧ (∀ i s, St i s → s.TypeIs (.ref g) "generator") ∧
    (∀ j y, F j y → ∃ x, ys[j]? = some x ∧ RelV x y) ∧ ∃ H2, Tabbed P H1 H2 ∧ R ys H2 ∧ ∀ s', Moved wr G s5 s' → Inv X pins σ H2 s'
/-- what the reading of a generator expression asks -/
def gRd (K : PySem.W.Frag) (P : Addr) (te : TE) (i : Nat) (tt : QB) (tel : QT) (R : List V → Hp → Prop) : L2.St → Hp → Prop := fun σ H =>
  te σ H fun v H1 => TabG H1 P ∧ ∃ items : List V, Src K H1 v items ∧ ∀ H2, Tabbed P H1 H2 → ∃ (p : V → Bool) (f : V → V),
    (∀ x ∈ items, tt (σ.set i (some x)) H2 (fun b => b = p x)) ∧ (∀ x ∈ items, p x = true → tel (σ.set i (some x)) H2 (fun q => q = .v (f x))) ∧ R ((items.filter p).map f) H2
theorem passing_ys {items : List V} {p : V → Bool} {f : V → V} {j i : Nat} (h : (passing (fun i => (items[i]?.map p).getD false) items.length 0)[j]? = some i) :
    ∃ x, items[i]? = some x ∧ p x = true ∧ ((items.filter p).map f)[j]? = some (f x) := by
  have e := PyProof.Rows.idx_map items p
  have hp : passing (fun i => (items[i]?.map p).getD false) items.length 0 = (List.range items.length).filter fun i => (items[i]?.map p).getD false := by simp [passing]
  rw [hp] at h
  have hm := List.mem_of_getElem? h
  obtain ⟨h1, h2⟩ := List.mem_filter.mp hm
  have hi : i < items.length := List.mem_range.mp h1
  have hx : items[i]? = some items[i] := by simp [hi]
  refine ⟨items[i], hx, by rw [hx] at h2; simpa using h2, ?_⟩
  have q := congrArg (fun l => l[j]?) e
  simp only [List.getElem?_map, h, Option.map_some] at q
  rw [hx] at q
  rw [List.getElem?_map]
  cases hq : (items.filter p)[j]? with
  | none => rw [hq] at q; cases q
  | some y =>
    rw [hq] at q
    have e3 : items[i] = y := Option.some.inj (Option.some.inj q)
    rw [e3] <;> rfl
theorem passing_len (items : List V) (p : V → Bool) (f : V → V) : (passing (fun i => (items[i]?.map p).getD false) items.length 0).length = ((items.filter p).map f).length := by
  have e := congrArg List.length (PyProof.Rows.idx_map items p)
  have hp : passing (fun i => (items[i]?.map p).getD false) items.length 0 = (List.range items.length).filter fun i => (items[i]?.map p).getD false := by simp [passing]
  rw [hp]
  simpa using e
section
variable {X : Cx} {pins : List (Addr × Obj)} {σ : L2.St} {H : Hp} {s : Shared}
theorem gen_make {c P : Addr} {elt iter : Expr} {x : Str} {px gpos : Pos} {ifs : List Expr} {scope : Scope} {te : TE} {i k : Nat} {tt : QB} {tel : QT} {Q' : Value → Shared → Prop} {R : List V → Hp → Prop}
    (hr : Room k X.A) (TB : LamX.TabB X.base X.mg c P) (hcode : X.env.code = .ref c) (hN : X.N.Nodup) (hi : X.N[i]? = some x) (L : GenSc X.N X.env.scope scope x) (hit : PE X iter te)
    (ht : ∀ (C : Addr) (code : Value) (bi : Addr), QTs X.prog X.w X.K (genEnv scope (cloFrom X.env.cells scope.names []) C code bi X.env) X.N ifs tt) (hel : ∀ (C : Addr) (code : Value) (bi : Addr), QE X.prog X.w X.K (genEnv scope (cloFrom X.env.cells scope.names []) C code bi X.env) X.N elt tel)
    (hs : ∀ v, genFold iter X.env v = pure v) (I : Inv X pins σ H s) (h : gRd X.K P te i tt tel R σ H)
    (hQ : ∀ g s5 H1, ReadyV X pins σ H1 P R g s5 → Q' (.ref g) s5) :
    wpAny (model X.prog X.w) X.A (eval (.GeneratorExp elt [⟨.Name x px, iter, ifs, 0⟩] scope gpos) X.env) Q' X.xe s := by
  refine wpAny_GeneratorExp_walksQD hr.hd L.co (closure_ok (L.has I.ok)) L.cell L.dot L.own L.kind (by have := hr.dp; omega) ?_ hs
  refine thn (hit.run pins s σ H _ I h) fun xv s1 ⟨v, H1, I1, r1, q1⟩ => ?_
  obtain ⟨⟨ps, hP, htr⟩, items, hsrc, hrest⟩ := q1
  refine src_iter I1 hsrc r1 fun o a0 F0 St0 ha0 hnt W hst hF0 => ?_
  have hPs : s1.heap.get? P = some { cls := .none, data := .fields ps } := I1.hok P _ hP
  have hPlt : P < s1.heap.objs.size := Heap.lt_size hPs
  have hP2 : (s1.heap.push o).get? P = some { cls := .none, data := .fields ps } := Heap.get?_push_of_some _ hPs
  have cd : PySem.W.CodeHd (s1.heap.push o) c P := TB.code.keeps fun b u e => Heap.get?_push_of_some _ (I1.bk b u e)
  have lim2 : (s1.heap.push o).NoLimit := I1.nolimit.push o
  have a0P : a0 ≠ P := fun z => by
    rw [z] at hnt
    exact hnt ps hP
  refine ⟨lim2, thn (Q := fun _ s3 => ∃ (h3 : Heap) (tk : Nat) (more : Array Value), s3 = { s1 with heap := h3, toks := tk } ∧ Heap.ExtBut P (s1.heap.push o) h3 ∧ (s1.heap.push o).objs.size ≤ h3.objs.size ∧ h3.get? P = some { cls := .none, data := .fields (ps ++ more) } ∧ TriplesOk (ps ++ more).toList) ?_ fun code s3 h3 => ?_⟩
  · -- the code object: made, or there
    cases hf : codeAmong gpos ps.toList with
    | some cv => exact wpAny_genexprCode_hit hcode (cd.code hP2 htr) hf ⟨_, s1.toks, #[], rfl, .refl _ _, Nat.le_refl _, by simpa using hP2, by simpa using htr⟩
    | none =>
      refine wpAny_genexprCodeX hcode (cd.code hP2 htr) (cd.tab hP2) hf fun c' h' tk hx hge hlt hco' _ htab' _ => ⟨h', tk, _, rfl, hx, Nat.le_trans hge (Nat.le_of_lt hlt), htab'.2, ?_⟩
      obtain ⟨_, _, _, _, _, _, _, _, _, _, _, _, _, _, _, _, _, _, _, z, _⟩ := hco'
      exact z
  obtain ⟨h3, tk, more, rfl, hx, hsz, hP3, ht3⟩ := h3
  obtain ⟨bm, ob, e1, e2, e3, e4, e5, e6, e7, e8⟩ := TB.bm
  have hcP : cStatics ≠ P := fun e => by
    obtain ⟨_, hns, _⟩ := I1.nolimit
    obtain ⟨o', es, ep, ho, hd, _⟩ := hns
    rw [e, hPs] at ho
    cases ho
    cases hd
  have hcl : cStatics < s1.heap.objs.size := let ⟨_, hns, _⟩ := I1.nolimit; hns.lt
  have sz2 : (s1.heap.push o).objs.size = s1.heap.objs.size + 1 := Heap.size_push ..
  have keep3 : ∀ b u, b ≠ P → s1.heap.get? b = some u → h3.get? b = some u := fun b u hb e => hx b u hb (Heap.get?_push_of_some _ e)
  -- the view of the def, behind the code object
  have J3 : Inv X pins σ (upd H1 P (.tbl (ps ++ more))) { s1 with heap := h3, gens := s1.gens, drawn := s1.drawn, toks := tk } := inv_tab (t' := tk) (g' := s1.gens) (d' := s1.drawn) I1 hP (fun b o hb e => keep3 b o hb e) hP3 I1.bare
  have hT2 : Tabbed P H1 (upd H1 P (.tbl (ps ++ more))) := ⟨⟨ps ++ more, upd_same, ht3⟩, fun b hb => upd_ne hb⟩
  obtain ⟨p, f, hp1, hp2, hR⟩ := hrest _ hT2
  refine wpAny_builtinsFor (m := X.mg) (by rw [I1.ok.glob]; exact ((I1.mod.glob.keeps I1.bk).push o).extBut hx TB.gP) e1 e2 (keep3 _ _ e4 (I1.bk _ _ e5)) e6 e7 e8 ?_
  have nitB : ∀ b o, X.base.get? b = some o → b ≠ s1.heap.objs.size := fun b o e => Nat.ne_of_lt (Heap.lt_size (I1.bk b o e))
  have ncell : ∀ z c, X.env.cells.lookup z = some c → c ≠ s1.heap.objs.size := fun z c e => by
    obtain ⟨v, q⟩ := I1.cell z c e
    exact Nat.ne_of_lt q.lt
  have hitN : upd H1 P (.tbl (ps ++ more)) s1.heap.objs.size = none := by
    rw [upd_ne (Nat.ne_of_gt hPlt)]
    exact I1.hok.fresh (Nat.le_refl _)
  have hun := hr.un
  refine ⟨s1.heap.objs.size, [s1.heap.objs.size, a0], [s1.heap.objs.size], items.length, F0, St0, (fun i => (items[i]?.map p).getD false), (fun i y => ∃ z, items[i]? = some z ∧ RelV (f z) y), rfl, W, ?_, ?_, lim2.extBut hx hcP, ?_, ?_, ?_⟩
  · refine (W X.A hr.hd).frame _ _ _ hst fun b hb u e => hx b u (fun z => ?_) e
    rcases List.mem_cons.mp hb with z2 | z2
    · exact Nat.ne_of_lt hPlt (z.symm.trans z2)
    · rcases List.mem_cons.mp z2 with z3 | z3
      · exact a0P (z3.symm.trans z)
      · cases z3
  · intro b hb
    rcases List.mem_cons.mp hb with z | z
    · rw [z]
      show s1.heap.objs.size < h3.objs.size
      omega
    · rcases List.mem_cons.mp z with z | z
      · rw [z]
        show a0 < h3.objs.size
        have h9 : a0 < s1.heap.objs.size := ha0
        have h8 : s1.heap.objs.size ≤ h3.objs.size := by omega
        exact Nat.lt_of_lt_of_le h9 h8
      · cases z
  · intro z
    rcases List.mem_cons.mp z with z | z
    · exact Nat.ne_of_lt hcl z
    · cases z
  · intro href hhref
    have kk : ∀ (s₂ : Shared), (∀ b ∈ List.range h3.objs.size, b ∉ [s1.heap.objs.size] → ∀ o, href.get? b = some o → s₂.heap.get? b = some o) → ∀ b o, b ≠ s1.heap.objs.size → h3.get? b = some o → s₂.heap.get? b = some o := fun s₂ hk b o hb e =>
      hk b (List.mem_range.mpr (Heap.lt_size e)) (by simpa using hb) o (hhref b o e)
    refine ⟨fun A' E' i' v' s₂ m₂ hA hD hU hPv hn hm hk => ?_, fun A' E' i' v' s₂ m₂ hA hD hU hPv hp hn hm hk => ?_⟩
    · obtain ⟨y, hy, ry⟩ := hF0 i' v' hPv
      have g := gv_of (code := code) (bi := builtinsNs) J3 hN hi L hm ry hn s1.heap.objs.size hitN nitB ncell (kk s₂ hk)
      have q := (ht h3.objs.size code builtinsNs).run A' E' s₂ _ _ _ hA (by have : A'.units ≤ X.A.units + 8 := hU; omega) g (hp1 y (List.mem_of_getElem? hy))
      refine thn q fun b s3 hb => ⟨?_, hb.1⟩
      rw [hb.2, hy] <;> rfl
    · obtain ⟨y, hy, ry⟩ := hF0 i' v' hPv
      have hpy : p y = true := by rw [hy] at hp; exact hp
      have g := gv_of (code := code) (bi := builtinsNs) J3 hN hi L hm ry hn s1.heap.objs.size hitN nitB ncell (kk s₂ hk)
      have q := (hel h3.objs.size code builtinsNs).run A' E' s₂ _ _ _ hA (by have : A'.units ≤ X.A.units + 8 := hU; omega) g (hp2 y (List.mem_of_getElem? hy) hpy)
      refine thn q fun z s3 hz => ?_
      obtain ⟨k3, q3, rq, eq⟩ := hz
      subst eq
      exact ⟨⟨y, hy, rq⟩, k3⟩
  · intro g h5 tk5 gs hgb hag hsz5 hk5 W5 hat
    rw [passing_len items p f] at W5
    refine hQ g _ H1 ⟨(items.filter p).map f, _, _, _, _, _, W5, hat, fun b hb => ?_, List.mem_cons_self, fun i s st => ?_, fun j y hy => ?_, _, hT2, hR, fun s' hm => ?_⟩
    · show b < h5.objs.size
      rcases List.mem_cons.mp hb with z | z
      · rw [z, hsz5]; exact Nat.lt_succ_self _
      · have hb2 : b ≤ h3.objs.size := by
          rcases List.mem_cons.mp z with z | z
          · exact Nat.le_of_eq z
          · exact Nat.le_of_lt (List.mem_range.mp z)
        have : h3.objs.size < g := hag
        have hb3 : (b : Nat) ≤ h3.objs.size := hb2
        have hg3 : (h3.objs.size : Nat) < g := hag
        rw [hsz5]
        exact Nat.lt_succ_of_lt (Nat.lt_of_le_of_lt hb3 hg3)
    · exact st.1.typeIs
    · obtain ⟨i', hij, z, hz, rz⟩ := hy
      obtain ⟨x', hx1, hx2, hx3⟩ := passing_ys (f := f) hij
      rw [hz] at hx1
      cases hx1
      exact ⟨_, hx3, rz⟩
    · have nwr : ∀ b u, s1.heap.get? b = some u → b ∉ h3.objs.size :: [s1.heap.objs.size] := fun b u e hb => by
        have hl := Heap.lt_size e
        rcases List.mem_cons.mp hb with z | z
        · rw [z] at hl
          have h9 : (h3.objs.size : Nat) < s1.heap.objs.size := hl
          omega
        · rcases List.mem_cons.mp z with z | z
          · rw [z] at hl
            exact Nat.lt_irrefl _ hl
          · cases z
      have J := inv_tab (more := more) (h' := s'.heap) (g' := s'.gens) (d' := s'.drawn) (t' := s'.toks) I1 hP (fun b u hb e => hm.heap b u (nwr b u e) (hk5 b u (keep3 b u hb e)))
        (hm.heap P _ (nwr P _ hPs) (hk5 P _ hP3)) (AllBare.movedS (I1.bare.push hgb) hm)
      rw [sh_eta s1 s' hm.os] at J
      exact J
end
end Fy
namespace Fy
open PySem PySem.Spec PyProof.Rows L2
open GxR (TabG Tabbed)
/-- a generator expression handed to a taker -/
def tGen (K : PySem.W.Frag) (P : Addr) (te : TE) (i : Nat) (tt : QB) (tel : QT) (cons : List V → Hp → VK → Prop) : TE := fun σ H Q => gRd K P te i tt tel (fun ys H2 => cons ys H2 Q) σ H
/-- a taker, by its rule -/
def Taker (X : Cx) (f : Value) (cons : List V → Hp → VK → Prop) : Prop :=
  ∀ (pins : List (Addr × Obj)) (σ : L2.St) (H1 : Hp) (P : Addr) (g : Addr) (s : Shared) (Q : VK), ReadyV X pins σ H1 P (fun ys H2 => cons ys H2 Q) g s → wpAny (model X.prog X.w) X.A (call f [.ref g]) (EP X pins σ Q) X.xe s
section
variable {X : Cx}
theorem pe_genB {id : String} {c P : Addr} {b x : Str} {elt iter : Expr} {px p pos gpos : Pos} {ifs : List Expr} {scope : Scope} {te : TE} {i k : Nat} {tt : QB} {tel : QT} {cons : List V → Hp → VK → Prop}
    (T : Taker X (.builtin id) cons) (hg : Gl X b) (hm : X.mg b = none) (hv : bootBuiltins b = some (.builtin id))
    (hr : Room k X.A) (TB : LamX.TabB X.base X.mg c P) (hcode : X.env.code = .ref c) (hN : X.N.Nodup) (hi : X.N[i]? = some x) (L : GenSc X.N X.env.scope scope x) (hit : PE X iter te)
    (ht : ∀ (C : Addr) (code : Value) (bi : Addr), QTs X.prog X.w X.K (genEnv scope (cloFrom X.env.cells scope.names []) C code bi X.env) X.N ifs tt) (hel : ∀ (C : Addr) (code : Value) (bi : Addr), QE X.prog X.w X.K (genEnv scope (cloFrom X.env.cells scope.names []) C code bi X.env) X.N elt tel)
    (hs : ∀ v, genFold iter X.env v = pure v) (hn : b ≠ "__name__" := by decide) (hdb : (b == ("__debug__" : Str)) = false := by decide)
    (he : starEach [.GeneratorExp elt [⟨.Name x px, iter, ifs, 0⟩] scope gpos] X.env = (false, eval (.GeneratorExp elt [⟨.Name x px, iter, ifs, 0⟩] scope gpos) X.env) :: starEach [] X.env := by rfl) :
    PE X (.Call (.Name b p) [.GeneratorExp elt [⟨.Name x px, iter, ifs, 0⟩] scope gpos] [] pos) (tGen X.K P te i tt tel cons) := by
  refine ⟨fun pins s σ H Q I h => ?_⟩
  refine wpAny_Call_Name_kw (ld_blt I hg hm hv ?_ hn hdb)
  refine PyProof.Rows.callWith_builtin1 ?_ he (by rfl)
  rw [he]
  show wpAny _ _ (spliced ((false, eval (.GeneratorExp elt [⟨.Name x px, iter, ifs, 0⟩] scope gpos) X.env) :: backTo pos (starEach [] X.env))) _ _ s
  refine Calls.spliced_cons (gen_make (R := fun ys H2 => cons ys H2 Q) hr TB hcode hN hi L hit ht hel hs I h fun g s5 H1 hR => ?_)
  refine Calls.spliced_nil ?_
  exact T pins σ H1 P g s5 Q hR
theorem pe_genT {T' : String} {c P : Addr} {b x : Str} {elt iter : Expr} {px p pos gpos : Pos} {ifs : List Expr} {scope : Scope} {te : TE} {i k : Nat} {tt : QB} {tel : QT} {cons : List V → Hp → VK → Prop}
    (T : Taker X (.type T') cons) (hg : Gl X b) (hm : X.mg b = none) (hv : bootBuiltins b = some (.type T'))
    (hr : Room k X.A) (TB : LamX.TabB X.base X.mg c P) (hcode : X.env.code = .ref c) (hN : X.N.Nodup) (hi : X.N[i]? = some x) (L : GenSc X.N X.env.scope scope x) (hit : PE X iter te)
    (ht : ∀ (C : Addr) (code : Value) (bi : Addr), QTs X.prog X.w X.K (genEnv scope (cloFrom X.env.cells scope.names []) C code bi X.env) X.N ifs tt) (hel : ∀ (C : Addr) (code : Value) (bi : Addr), QE X.prog X.w X.K (genEnv scope (cloFrom X.env.cells scope.names []) C code bi X.env) X.N elt tel)
    (hs : ∀ v, genFold iter X.env v = pure v) (hn : b ≠ "__name__" := by decide) (hdb : (b == ("__debug__" : Str)) = false := by decide)
    (he : starEach [.GeneratorExp elt [⟨.Name x px, iter, ifs, 0⟩] scope gpos] X.env = (false, eval (.GeneratorExp elt [⟨.Name x px, iter, ifs, 0⟩] scope gpos) X.env) :: starEach [] X.env := by rfl) :
    PE X (.Call (.Name b p) [.GeneratorExp elt [⟨.Name x px, iter, ifs, 0⟩] scope gpos] [] pos) (tGen X.K P te i tt tel cons) := by
  refine ⟨fun pins s σ H Q I h => ?_⟩
  refine wpAny_Call_Name_kw (ld_blt I hg hm hv ?_ hn hdb)
  refine PyProof.Rows.callWith_type1 ?_ he (by rfl)
  rw [he]
  show wpAny _ _ (spliced ((false, eval (.GeneratorExp elt [⟨.Name x px, iter, ifs, 0⟩] scope gpos) X.env) :: backTo pos (starEach [] X.env))) _ _ s
  refine Calls.spliced_cons (gen_make (R := fun ys H2 => cons ys H2 Q) hr TB hcode hN hi L hit ht hel hs I h fun g s5 H1 hR => ?_)
  refine Calls.spliced_nil ?_
  exact T pins σ H1 P g s5 Q hR
def cAny : List V → Hp → VK → Prop := fun ys H Q => ∃ bs : List Bool, ys = bs.map V.bl ∧ Q (.bl (bs.any id)) H
def cAll : List V → Hp → VK → Prop := fun ys H Q => ∃ bs : List Bool, ys = bs.map V.bl ∧ Q (.bl (bs.all id)) H
theorem bl_at {bs : List Bool} {j : Nat} {x : V} {u : Value} (e : (bs.map V.bl)[j]? = some x) (r : RelV x u) : ∃ b, bs[j]? = some b ∧ u = .bool b := by
  rw [List.getElem?_map] at e
  cases h : bs[j]? with
  | none => rw [h] at e; cases e
  | some b =>
    rw [h] at e
    have e2 : V.bl b = x := Option.some.inj e
    subst e2
    exact ⟨b, rfl, r⟩
theorem tk_any : Taker X (.builtin "any") cAny := by
  intro pins σ H1 P g s Q h
  obtain ⟨ys, fp, wr, G, F, St, W, hst, hfp, hgm, hty, hF, H2, hT, ⟨bs, rfl, q⟩, hI⟩ := h
  refine call_any_walkS (W.in4_1.self 0 _ _ _ hst ⟨g, fp, wr, G, _, F, St, fun j => (bs[j]?).getD false, rfl, W.in4_1, hst, ?_, fun s' hm => ?_⟩)
  · intro j y sj Qj Ej hy hQj
    obtain ⟨x, e, r⟩ := hF j y hy
    obtain ⟨b, e1, rfl⟩ := bl_at e r
    refine wpAny_truthy_bool ?_
    have hQ2 : Qj ((bs[j]?).getD false) sj := hQj
    rw [e1] at hQ2
    exact hQ2
  · refine ⟨.bl _, H2, hI s' hm, rfl, ?_⟩
    have e : (List.range (bs.map V.bl).length).any (fun j => (bs[j]?).getD false) = bs.any id := by
      rw [List.length_map]
      have := PyProof.Rows.any_rangeD bs id
      rw [← this]
      congr 1
    rw [e]
    exact q
theorem tk_all : Taker X (.builtin "all") cAll := by
  intro pins σ H1 P g s Q h
  obtain ⟨ys, fp, wr, G, F, St, W, hst, hfp, hgm, hty, hF, H2, hT, ⟨bs, rfl, q⟩, hI⟩ := h
  refine call_all_walkS (W.in4_1.self 0 _ _ _ hst ⟨g, fp, wr, G, _, F, St, fun j => (bs[j]?).getD true, rfl, W.in4_1, hst, ?_, fun s' hm => ?_⟩)
  · intro j y sj Qj Ej hy hQj
    obtain ⟨x, e, r⟩ := hF j y hy
    obtain ⟨b, e1, rfl⟩ := bl_at e r
    refine wpAny_truthy_bool ?_
    have hQ2 : Qj ((bs[j]?).getD true) sj := hQj
    rw [e1] at hQ2
    exact hQ2
  · refine ⟨.bl _, H2, hI s' hm, rfl, ?_⟩
    have e : (List.range (bs.map V.bl).length).all (fun j => (bs[j]?).getD true) = bs.all id := by
      rw [List.length_map]
      have := PyProof.Rows.all_rangeD bs id
      rw [← this]
      congr 1
    rw [e]
    exact q
def cSum : List V → Hp → VK → Prop := fun ys H Q => ∃ ns : List Int, ys = ns.map V.int ∧ Q (.int ns.sum) H
theorem int_at {ns : List Int} {j : Nat} {x : V} {u : Value} (e : (ns.map V.int)[j]? = some x) (r : RelV x u) : ∃ n, ns[j]? = some n ∧ ∃ t, u = .int n t := by
  rw [List.getElem?_map] at e
  cases h : ns[j]? with
  | none => rw [h] at e; cases e
  | some b =>
    rw [h] at e
    have e2 : V.int b = x := Option.some.inj e
    subst e2
    exact ⟨b, rfl, r⟩
theorem preSum_ints (ns : List Int) : ∀ k, k ≤ ns.length → preSum (fun j => (ns[j]?).getD 0) k = (ns.take k).sum := by
  intro k
  induction k with
  | zero => intro _; simp [preSum]
  | succ k ih =>
    intro h
    have hk : k < ns.length := h
    rw [List.take_succ_eq_append_getElem hk]
    simp only [preSum, List.sum_append, List.sum_cons, List.sum_nil]
    rw [ih (Nat.le_of_lt hk)]
    simp [hk]
theorem tk_sum : Taker X (.builtin "sum") cSum := by
  intro pins σ H1 P g s Q h
  obtain ⟨ys, fp, wr, G, F, St, W, hst, hfp, hgm, hty, hF, H2, hT, ⟨ns, rfl, q⟩, hI⟩ := h
  refine call_sum_walkAnyS (W.in4_1.self 0 _ _ _ hst ⟨g, fp, wr, G, _, F, St, fun j => (ns[j]?).getD 0, rfl, W.in4_1, hst, hfp, ?_, fun s' t' hm => ?_⟩)
  · intro j y hy
    obtain ⟨x, e, r⟩ := hF j y hy
    obtain ⟨n, e1, t, rfl⟩ := int_at e r
    exact ⟨t, by show Value.int n t = Value.int ((ns[j]?).getD 0) t; rw [e1] <;> rfl⟩
  · refine ⟨.int ns.sum, H2, hI s' hm, ⟨t', ?_⟩, q⟩
    rw [List.length_map, preSum_ints ns ns.length (Nat.le_refl _), List.take_length]
def cTup : List V → Hp → VK → Prop := fun ys H Q => ys.length ≤ sizeLine ∧ ∀ p, H p = none → Q (.ref p) (upd H p (.tup ys))
theorem vals_of_items : ∀ {ys : List V} {acc : List Value}, acc.length = ys.length → (∀ (j : Nat) (v : Value), acc[j]? = some v → ∃ x, ys[j]? = some x ∧ RelV x v) → Vals ys acc
  | [], [], _, _ => .nil
  | [], _ :: _, h, _ => by simp at h
  | _ :: _, [], h, _ => by simp at h
  | y :: ys, a :: acc, h, hv => by
    refine .cons ?_ (vals_of_items (by simpa using h) fun j v e => hv (j + 1) v (by simpa using e))
    obtain ⟨x, e, r⟩ := hv 0 a rfl
    have e2 : y = x := Option.some.inj e
    rw [e2]
    exact r
theorem items_vals {ys : List V} {F : Nat → Value → Prop} {acc : Array Value} (hF : ∀ j y, F j y → ∃ x, ys[j]? = some x ∧ RelV x y) (h : ItemsOf F acc ys.length) : Vals ys acc.toList :=
  vals_of_items (by simpa using h.1) fun j v e => hF j v (h.2 j v (by simpa using e))
theorem tk_tup : Taker X (.type "tuple") cTup := by
  intro pins σ H1 P g s Q h
  obtain ⟨ys, fp, wr, G, F, St, W, hst, hfp, hgm, hty, hF, H2, hT, ⟨hz, q⟩, hI⟩ := h
  refine call_tuple_gen (WalksS.of_in1 (A := X.A.in1.in1.in1) W) hty hst hfp hgm (fun s' acc hm ha => ?_) hz
  have I := hI s' hm
  have hf := I.hok.fresh (Nat.le_refl s'.heap.objs.size)
  have rv := items_vals hF ha
  refine ⟨.ref s'.heap.objs.size, _, I.laid (t' := s'.toks) (o := .tup ys) (fun b u e => Heap.get?_push_of_some _ e) (Nat.le_refl _) ⟨hz, acc.toList, rv, ?_⟩, rfl, q _ hf⟩
  have := IsTup.new s'.heap acc
  simpa using this
end
end Fy
namespace Fy
open PySem PySem.Spec PyProof.Rows L2 PySem.W
open GxR (TabG Tabbed)
section
variable {prog : Program} {w : World} {A : Around} {E : Value → Shared → Prop} {s : Shared} {β : Type} {enc : β → PyData} {R : Value → β → Prop}
theorem sorted_coll {x : Value} {Q : Value → Shared → Prop}
    (hc : wpAny (model prog w) A.in1 (collect x) (fun vs s1 => ∃ bs : List β, EachIs R vs bs ∧ EachIs (fun v b => ∃ as, Reads s1.heap v (enc b) as) vs bs ∧ AllAlike (bs.map enc) ∧ Sortable (bs.map enc) ∧ bs.length ≤ sizeLine ∧
      (∀ b, b ∈ bs → A.units + 2 + (enc b).depth < cLine) ∧ ∀ out, out.length = bs.length → EachIs R out (bs.mergeSort (dataLe false enc)) →
        Q (.ref s1.heap.objs.size) { s1 with heap := sortedHeap (s1.heap.push (seqObj "list" vs.toArray 0)) s1.heap.objs.size vs (List.toArray out) }) E s) :
    wpAny (model prog w) A (call (.builtin "sorted") [x]) Q E s := by
  refine call_function_entry_kw kind_sorted plain_sorted entry_sorted (args_sorted1 _) ?_
  unfold Builtin.«sorted»
  refine wpAny_bind (m := checkCount "sorted" 1 1 _) (wpAny_pure ?_)
  refine wpAny_bind (wpAny_mono hc (fun vs s1 h => ?_) fun _ _ e => e)
  obtain ⟨bs, e, er, hal, hk, hL, hu, h⟩ := h
  have hz : vs.length ≤ sizeLine := by rw [e.length]; exact hL
  refine wpAny_bind (wpAny_newList ?_ hz)
  have h0 : (s1.heap.push (seqObj "list" vs.toArray 0)).get? s1.heap.objs.size = some (seqObj "list" vs.toArray 0) := Heap.get?_push_size _ rfl
  have er' : EachIs (fun v b => ∃ as, Reads (sortingHeap (s1.heap.push (seqObj "list" vs.toArray 0)) s1.heap.objs.size vs) v (enc b) as) vs bs := er.mono fun _ _ ⟨as, r⟩ => ⟨as, PyProof.Rows.Reads.keeps (fun b o q => sortingHeap_old (Nat.ne_of_lt (Heap.lt_size q)) (Heap.get?_push_of_some _ q)) r⟩
  show wpAny _ _ _ _ _ { s1 with heap := s1.heap.push (seqObj "list" vs.toArray 0) }
  refine wpAny_bind (wpAny_holding (wpAny_call_entry_kw slot_list_sort ⟨_, h0, rfl⟩ entry_list_sort ?body (args_list_sort _)))
  case body =>
    show wpAny (model prog w) A.in1.in1 (Builtin.«list.sort» ⟨[.ref s1.heap.objs.size], []⟩) _ _ _
    refine list_sort_vals (s := { s1 with heap := s1.heap.push (seqObj "list" vs.toArray 0) }) h0 (SortsAt.data (s := { s1 with heap := sortingHeap (s1.heap.push (seqObj "list" vs.toArray 0)) s1.heap.objs.size vs }) (each_map (R := fun v d => ∃ as, Reads (sortingHeap (s1.heap.push (seqObj "list" vs.toArray 0)) s1.heap.objs.size vs) v d as) enc er') hal hk (bound_map hu)) hz ?_
    exact ⟨_, rfl, wpAny_pure ⟨_, rfl, h _ (by rw [sortVals_length false rfl]; exact e.length) (sortVals_data false e er' hal)⟩⟩
end
/-- ints, or texts -/
def encV : V → PyData
  | .int i => .int i
  | .str x => .str x
  | .bl b => .bool b
  | _ => .none
def isInt : V → Bool
  | .int _ => true
  | _ => false
def isStr : V → Bool
  | .str _ => true
  | _ => false
/-- all ints, or all texts -/
def Sortb (ys : List V) : Prop := (∀ y ∈ ys, isInt y = true) ∨ (∀ y ∈ ys, isStr y = true)
def leV : V → V → Bool := dataLe false encV
/-- the one sorted list -/
def sortV (ys : List V) : List V := ys.mergeSort leV
theorem vals_each : ∀ {xs : List V} {us : List Value}, Vals xs us → EachIs (fun u x => RelV x u) us xs
  | _, _, .nil => .nil
  | _, _, .cons r t => .cons r (vals_each t)
theorem each_vals : ∀ {us : List Value} {xs : List V}, EachIs (fun u x => RelV x u) us xs → Vals xs us
  | _, _, .nil => .nil
  | _, _, .cons r t => .cons r (each_vals t)
theorem vals_reads {h : Heap} : ∀ {xs : List V} {us : List Value}, Vals xs us → (∀ y ∈ xs, isInt y = true ∨ isStr y = true) → EachIs (fun u x => ∃ as, Reads h u (encV x) as) us xs
  | _, _, .nil, _ => .nil
  | _, _, .cons (a := x) r t, hp => by
    refine .cons ?_ (vals_reads t fun y hy => hp y (List.mem_cons_of_mem _ hy))
    rcases hp _ List.mem_cons_self with h | h
    · cases x with
      | int i => obtain ⟨t, rfl⟩ := r; exact ⟨[], .int i t⟩
      | _ => cases h
    · cases x with
      | str i => obtain ⟨t, rfl⟩ := r; exact ⟨[], .str i t⟩
      | _ => cases h
theorem Sortb.each {ys : List V} (h : Sortb ys) : ∀ y ∈ ys, isInt y = true ∨ isStr y = true := fun y hy => by
  rcases h with h | h
  · exact .inl (h y hy)
  · exact .inr (h y hy)
theorem Sortb.alike {ys : List V} (h : Sortb ys) : AllAlike (ys.map encV) := by
  intro d hd d' hd'
  obtain ⟨b, hb, rfl⟩ := List.mem_map.mp hd
  obtain ⟨b', hb', rfl⟩ := List.mem_map.mp hd'
  rcases h with h | h
  · have h1 := h b hb
    have h2 := h b' hb'
    cases b <;> cases h1
    cases b' <;> cases h2
    rfl
  · have h1 := h b hb
    have h2 := h b' hb'
    cases b <;> cases h1
    cases b' <;> cases h2
    rfl
theorem Sortb.sortable {ys : List V} (h : Sortb ys) : Sortable (ys.map encV) := .inr fun d hd => by
  obtain ⟨b, hb, rfl⟩ := List.mem_map.mp hd
  have e : encV b ≠ .none ∧ ∀ xs, encV b ≠ .tuple xs := by
    rcases h.each b hb with h1 | h1
    · cases b with
      | int i => exact ⟨fun z => (by cases z), fun xs z => (by cases z)⟩
      | _ => cases h1
    · cases b with
      | str i => exact ⟨fun z => (by cases z), fun xs z => (by cases z)⟩
      | _ => cases h1
  exact e
theorem Sortb.depth {ys : List V} (h : Sortb ys) : ∀ y ∈ ys, (encV y).depth = 0 := fun y hy => by
  rcases h.each y hy with h1 | h1
  · cases y <;> cases h1
    rfl
  · cases y <;> cases h1
    rfl
section
variable {X : Cx} {pins : List (Addr × Obj)} {σ : L2.St} {H : Hp} {s : Shared}
/-- behind the sort: the new list stands at the heap's end -/
theorem sorted_laid {zs : List V} {vs out : List Value} {Q : VK} (I : Inv X pins σ H s) (hz : zs.length ≤ sizeLine) (r : Vals zs out) (q : ∀ p, H p = none → Q (.ref p) (upd H p (.lst zs))) :
    EP X pins σ Q (.ref s.heap.objs.size) { s with heap := sortedHeap (s.heap.push (seqObj "list" vs.toArray 0)) s.heap.objs.size vs (List.toArray out) } := by
  have h0 : (s.heap.push (seqObj "list" vs.toArray 0)).get? s.heap.objs.size = some (seqObj "list" vs.toArray 0) := Heap.get?_push_size _ rfl
  obtain ⟨e, he⟩ := PyProof.Rows.sortedHeap_at (vs := vs) (out := List.toArray out) h0
  have k : ∀ b u, s.heap.get? b = some u → (sortedHeap (s.heap.push (seqObj "list" vs.toArray 0)) s.heap.objs.size vs (List.toArray out)).get? b = some u := fun b u q => by
    have hb := Heap.lt_size q
    rw [PyProof.Rows.sortedHeap_old (Nat.ne_of_lt hb) (by rw [size_push']; exact Nat.lt_succ_of_lt hb)]
    exact Heap.get?_push_of_some _ q
  refine ⟨.ref s.heap.objs.size, _, I.laid (t' := s.toks) (o := .lst zs) k (Nat.le_refl _) ⟨hz, out, e, r, ?_⟩, rfl, q _ (I.hok.fresh (Nat.le_refl _))⟩
  exact he
theorem len_sortV (ys : List V) : (sortV ys).length = ys.length := List.length_mergeSort ys
def cSort : List V → Hp → VK → Prop := fun ys H Q => Sortb ys ∧ ys.length ≤ sizeLine ∧ ∀ p, H p = none → Q (.ref p) (upd H p (.lst (sortV ys)))
theorem sort_fin {ys : List V} {vs : List Value} {Q : VK} {A : Around} (hu : A.units + 64 < cLine) (I : Inv X pins σ H s) (rv : Vals ys vs) (hs : Sortb ys) (hz : ys.length ≤ sizeLine) (q : ∀ p, H p = none → Q (.ref p) (upd H p (.lst (sortV ys)))) :
    ∃ bs : List V, EachIs (fun u x => RelV x u) vs bs ∧ EachIs (fun v b => ∃ as, Reads s.heap v (encV b) as) vs bs ∧ AllAlike (bs.map encV) ∧ Sortable (bs.map encV) ∧ bs.length ≤ sizeLine ∧
      (∀ b, b ∈ bs → A.units + 2 + (encV b).depth < cLine) ∧ ∀ out, out.length = bs.length → EachIs (fun u x => RelV x u) out (bs.mergeSort (dataLe false encV)) →
        EP X pins σ Q (.ref s.heap.objs.size) { s with heap := sortedHeap (s.heap.push (seqObj "list" vs.toArray 0)) s.heap.objs.size vs (List.toArray out) } := by
  refine ⟨ys, vals_each rv, vals_reads rv hs.each, hs.alike, hs.sortable, hz, fun b hb => by rw [hs.depth b hb]; omega, fun out hl r => ?_⟩
  exact sorted_laid (zs := sortV ys) I (by rw [len_sortV]; exact hz) (each_vals r) q
theorem tk_sort {k : Nat} (hr : Room k X.A) : Taker X (.builtin "sorted") cSort := by
  intro pins σ H1 P g s Q h
  obtain ⟨ys, fp, wr, G, F, St, W, hst, hfp, hgm, hty, hF, H2, hT, ⟨hs, hz, q⟩, hI⟩ := h
  refine sorted_coll (β := V) (enc := encV) (R := fun u x => RelV x u) (wpAny_collect_gen (A := X.A.in1) W.in4_2 hty hst hfp hgm (fun s' acc hm ha => ?_) hz)
  exact sort_fin hr.units (hI s' hm) (items_vals hF ha) hs hz q
/-- sorted(xs) of a list or a tuple -/
theorem cr_sortL {k : Nat} (hr : Room k X.A) : CallR X (.builtin "sorted") (fun xs H Q => ∃ a ys, xs = [.ref a] ∧ SqL X.K H a ys ∧ Sortb ys ∧ ∀ p, H p = none → Q (.ref p) (upd H p (.lst (sortV ys)))) := by
  intro pins s σ H xs us Q I r h
  obtain ⟨a, ys, rfl, hq, hs, q⟩ := h
  obtain ⟨u, rfl, ru⟩ := vals1 r
  obtain rfl : u = Value.ref a := ru
  obtain ⟨its, rv, pl, hz⟩ := I.list hq
  have hl := rv.length
  refine sorted_coll (β := V) (enc := encV) (R := fun u x => RelV x u) (PyProof.Rows.collect_list pl.isList ?_ (by omega))
  have I2 : Inv X pins σ H { s with heap := (s.heap.push (seqObj "list" #[] 0)).update s.heap.objs.size (Obj.mapSeq (· ++ its.toArray)) } := I.kept (t' := s.toks) fun b o e => by
    have hb : b ≠ s.heap.objs.size := Nat.ne_of_lt (Heap.lt_size e)
    rw [Heap.get?_update_ne _ _ _ _ hb]
    exact Heap.get?_push_of_some _ e
  exact sort_fin hr.units I2 rv hs hz q
/-- sorted(d) of a dict -/
theorem cr_sortD {k : Nat} (hr : Room k X.A) : CallR X (.builtin "sorted") (fun xs H Q => ∃ a kvs, xs = [.ref a] ∧ Rd H a (.dK kvs) ∧ Sortb (kvs.map fun p => kV p.1) ∧ ∀ p, H p = none → Q (.ref p) (upd H p (.lst (sortV (kvs.map fun p => kV p.1))))) := by
  intro pins s σ H xs us Q I r h
  obtain ⟨a, kvs, rfl, hd, hs, q⟩ := h
  obtain ⟨u, rfl, ru⟩ := vals1 r
  obtain rfl : u = Value.ref a := ru
  obtain ⟨z, lo, vs, rel, dd⟩ := dk_rd I.hok hd
  obtain ⟨ep, hat⟩ := dd.dictAt
  have hl := rel.length
  refine sorted_coll (β := V) (enc := encV) (R := fun u x => RelV x u) (PySem.W.kdu_collect (A := X.A.in1) (PySem.W.kdl_dict (knd := mixKind X.prog X.w) (kvs := vs) (ep := ep) lo) hr.hd hat (by omega) fun h' tk acc hk hacc => ?_)
  have rv : Vals (kvs.map fun p => kV p.1) acc.toList := vals_of_items (by rw [Array.length_toList, hacc.1, List.length_map, hl]) fun j v e => by
    obtain ⟨k, x, e1, e2⟩ := hacc.2 j v (by rw [← Array.getElem?_toList]; exact e)
    have ek : kvs.map (·.1) = vs.map (·.1) := rel.keys
    have e3 : (kvs.map (·.1))[j]? = some k := by rw [ek, List.getElem?_map, e1] <;> rfl
    refine ⟨kV k, ?_, relV_key e2⟩
    rw [List.getElem?_map] at e3 ⊢
    cases q : kvs[j]? with
    | none => rw [q] at e3; cases e3
    | some y =>
      rw [q] at e3
      have e4 : y.1 = k := Option.some.inj e3
      show some (kV y.1) = some (kV k)
      rw [e4]
  have I1 : Inv X pins σ H { s with heap := h', toks := tk } := I.kept hk
  exact sort_fin hr.units I1 rv hs (by rw [List.length_map]; exact z) q
end
def leS (a b : Str) : Bool := decide (a.cps.toList ≤ b.cps.toList)
def sortS (ns : List Str) : List Str := ns.mergeSort leS
def sortI (ns : List Int) : List Int := ns.mergeSort fun a b => decide (a ≤ b)
theorem sortV_str (ns : List Str) : sortV (ns.map V.str) = (sortS ns).map V.str := by
  refine (sort_maps (r := leS) (s := leV) V.str fun a _ b _ => ?_).symm
  exact (congrFun (congrFun (dataLe_str (fun x : Str => x)) a) b).symm
theorem sortV_int (ns : List Int) : sortV (ns.map V.int) = (sortI ns).map V.int := by
  refine (sort_maps (r := fun a b => decide (a ≤ b)) (s := leV) V.int fun a _ b _ => ?_).symm
  exact (congrFun (congrFun (dataLe_int (fun x : Int => x)) a) b).symm
theorem sortb_str (ns : List Str) : Sortb (ns.map V.str) := .inr fun y hy => by
  obtain ⟨x, _, rfl⟩ := List.mem_map.mp hy
  rfl
theorem sortb_int (ns : List Int) : Sortb (ns.map V.int) := .inl fun y hy => by
  obtain ⟨x, _, rfl⟩ := List.mem_map.mp hy
  rfl
theorem mem_sortS {ns : List Str} {n : Str} : n ∈ sortS ns ↔ n ∈ ns := List.mem_mergeSort
theorem len_sortS (ns : List Str) : (sortS ns).length = ns.length := List.length_mergeSort ns
end Fy
namespace Fy
open PySem PySem.Spec PyProof.Rows L2
open GxR (TabG Tabbed)
abbrev Ad := Addr → Prop
/-- the code objects' tables are as they should be -/
structure Tb (TL : List (Addr × Str)) (TG : List Addr) (H : Hp) : Prop where
  lam : LamX.Tabs TL H
  gen : ∀ P ∈ TG, TabG H P
def NoT (o : HO) : Prop := ∀ ps, o ≠ .tbl ps
/-- from H to H': what is tracked stays, but for S and the tables -/
structure Go (TL : List (Addr × Str)) (TG : List Addr) (S : Ad) (H H' : Hp) : Prop where
  keep : ∀ b o, H b = some o → NoT o → ¬ S b → H' b = some o
  tb : Tb TL TG H → Tb TL TG H'
  free : ∀ p, H' p = none → H p = none
section
variable {TL : List (Addr × Str)} {TG : List Addr} {S S' : Ad} {H H1 H2 : Hp} {p P : Addr} {o o' : HO}
theorem Go.refl : Go TL TG S H H := ⟨fun _ _ h _ _ => h, id, fun _ h => h⟩
theorem Go.mono (g : Go TL TG S H H1) (h : ∀ b, S b → S' b) : Go TL TG S' H H1 := ⟨fun b o e n s => g.keep b o e n fun z => s (h b z), g.tb, g.free⟩
theorem Go.trans (a : Go TL TG S H H1) (b : Go TL TG S H1 H2) : Go TL TG S H H2 := ⟨fun c o e n s => b.keep c o (a.keep c o e n s) n s, fun t => b.tb (a.tb t), fun p h => a.free p (b.free p h)⟩
theorem Go.ext (e : ∀ b o, H b = some o → H1 b = some o) (f : ∀ p, H1 p = none → H p = none) : Go TL TG S H H1 :=
  ⟨fun b o h _ _ => e b o h, fun t => ⟨t.lam.ext e, fun P hP => by obtain ⟨ps, h1, h2⟩ := t.gen P hP; exact ⟨ps, e _ _ h1, h2⟩⟩, f⟩
theorem Go.new (hp : H p = none) : Go TL TG S H (upd H p o) := Go.ext (fun b o e => by rw [upd_ne (ne_of_none e hp)]; exact e) fun q h => by
  by_cases e : q = p
  · subst e; exact hp
  · rw [upd_ne e] at h; exact h
theorem noT_ext {φ : Heap → Prop} : NoT (.ext φ) := fun ps z => by cases z
/-- an object of a kind that may be written -/
def Plain (o : HO) : Prop := NoT o ∧ ∀ φ, o ≠ .ext φ
theorem plain_lst {xs : List V} : Plain (.lst xs) := ⟨fun _ z => (by cases z), fun _ z => (by cases z)⟩
theorem plain_dK {xs : List (Key × V)} : Plain (.dK xs) := ⟨fun _ z => (by cases z), fun _ z => (by cases z)⟩
theorem plain_dT {xs : List (List Key × V)} : Plain (.dT xs) := ⟨fun _ z => (by cases z), fun _ z => (by cases z)⟩
theorem plain_ins {C dx : Addr} {fs : List (Str × V)} : Plain (.ins C dx fs) := ⟨fun _ z => (by cases z), fun _ z => (by cases z)⟩
theorem Tb.set (t : Tb TL TG H) (hp : H p = some o') (pl : Plain o') : Tb TL TG (upd H p o) := by
  have nt : ∀ {P ps}, H P = some (HO.tbl ps) → P ≠ p := fun {P ps} e z => by
    rw [z, hp] at e
    exact pl.1 ps (Option.some.inj e)
  refine ⟨fun q hq => ?_, fun P hP => ?_⟩
  · obtain ⟨ps, h1, h2, h3⟩ := t.lam q hq
    refine ⟨ps, by rw [upd_ne (nt h1)]; exact h1, h2, fun pos cv hc => ?_⟩
    obtain ⟨c, e1, e2⟩ := h3 pos cv hc
    refine ⟨c, e1, ?_⟩
    have : c ≠ p := fun z => by
      rw [z, hp] at e2
      exact pl.2 _ (Option.some.inj e2)
    rw [upd_ne this]
    exact e2
  · obtain ⟨ps, h1, h2⟩ := t.gen P hP
    exact ⟨ps, by rw [upd_ne (nt h1)]; exact h1, h2⟩
theorem Go.set (hp : H p = some o') (pl : Plain o') (hs : S p) : Go TL TG S H (upd H p o) := ⟨fun b u e n s => by
    rw [upd_ne (fun z => s (by rw [z]; exact hs))]
    exact e, fun t => t.set hp pl, fun q h => by
    by_cases e : q = p
    · subst e; rw [upd_same] at h; cases h
    · rw [upd_ne e] at h; exact h⟩
/-- a generator's table has grown -/
theorem Go.tab (hT : Tabbed P H H1) (hg : TabG H P) (hP : P ∈ TG) (hd : ∀ q ∈ TL, q.1 ≠ P) : Go TL TG S H H1 := by
  obtain ⟨ps0, e0, _⟩ := hg
  have ne : ∀ {b o}, H b = some o → NoT o → b ≠ P := fun {b o} e n z => by
    rw [z, e0] at e
    exact n ps0 (Option.some.inj e).symm
  refine ⟨fun b o e n _ => by rw [hT.2 b (ne e n)]; exact e, fun t => ⟨fun q hq => ?_, fun Q hQ => ?_⟩, fun q h => ?_⟩
  · obtain ⟨ps, h1, h2, h3⟩ := t.lam q hq
    refine ⟨ps, by rw [hT.2 _ (hd q hq)]; exact h1, h2, fun pos cv hc => ?_⟩
    obtain ⟨c, e1, e2⟩ := h3 pos cv hc
    exact ⟨c, e1, by rw [hT.2 c (ne e2 (by unfold LamX.CodeO; exact noT_ext))]; exact e2⟩
  · by_cases e : Q = P
    · subst e; exact hT.1
    · obtain ⟨ps, h1, h2⟩ := t.gen Q hQ
      exact ⟨ps, by rw [hT.2 Q e]; exact h1, h2⟩
  · by_cases e : q = P
    · obtain ⟨ps, h1, _⟩ := hT.1
      rw [e, h1] at h
      cases h
    · rw [← hT.2 q e]; exact h
theorem Go.get (g : Go TL TG S H H1) (e : H p = some o) (n : NoT o := by intro _ z; cases z) (s : ¬ S p := by first | assumption | exact id) : H1 p = some o := g.keep p o e n s
theorem upd_none {q : Addr} : upd H p o q = none ↔ q ≠ p ∧ H q = none := by
  by_cases e : q = p
  · subst e
    rw [upd_same]
    exact ⟨fun h => (by cases h), fun h => absurd rfl h.1⟩
  · rw [upd_ne e]
    exact ⟨fun h => ⟨e, h⟩, fun h => h.2⟩
end
structure Good (P : Program) (w : World) (K : PySem.W.Frag) (mg : Str → Option Value) (base : Heap) (k : Nat) (f : Addr) (ps : List Str) (ds : List V) (sp : Sp) : Prop where
  ex : ∃ (fd : FuncData) (dvs : List Value), FnOk P w K mg base (L2.CX P w) k f fd ps sp ∧ Binds K fd ps dvs ∧ Vals ds dvs
  kp : PySem.W.keepIn K (.ref f) = true
section
variable {P : Program} {w : World} {K : PySem.W.Frag} {mg : Str → Option Value} {base : Heap} {k j : Nat} {f : Addr} {ps N : List Str} {ds : List V} {sp sp' : Sp}
theorem Good.mono (G : Good P w K mg base j f ps ds sp) (h : j ≤ k) : Good P w K mg base k f ps ds sp := by
  obtain ⟨⟨fd, dvs, F, b, v⟩, kp⟩ := G
  exact ⟨⟨fd, dvs, F.mono h, b, v⟩, kp⟩
theorem Good.imp (G : Good P w K mg base k f ps ds sp) (h : ∀ vs H Q E, sp' vs H Q E → sp vs H Q E) : Good P w K mg base k f ps ds sp' := by
  obtain ⟨⟨fd, dvs, F, b, v⟩, kp⟩ := G
  exact ⟨⟨fd, dvs, F.imp h, b, v⟩, kp⟩
/-- the context of a def's body -/
abbrev bodyX (P : Program) (w : World) (K : PySem.W.Frag) (mg : Str → Option Value) (base : Heap) (N : List Str) (d : He.DefD) (A : Around) (outer : List Env) (s : Shared) (H : Hp) (E : XK) : Cx :=
  cxOf (L2.CX P w) P w K mg base N d.qual d.scope (He.fAd K d.at_) (.ref (He.codeOf K d.at_)) A outer s H E
/-- THE RULE of a def: its body as a term, and the term's reading -/
theorem good_of {d : He.DefD} (F : ∃ fd, FunD K d.name d.qual d.params d.body d.scope (d.dvs K) (d.kws K) (He.fAd K d.at_) fd) (S : FnScope N ps d.scope)
    (hb : ∀ fd, FunD K d.name d.qual d.params d.body d.scope (d.dvs K) (d.kws K) (He.fAd K d.at_) fd → ∃ dvs, Vals ds dvs ∧ Binds K fd ps dvs)
    (len : ∀ vs H Q E, sp vs H Q E → vs.length = ps.length)
    (hbody : ∀ (A : Around) (outer : List Env) (s : Shared) (H : Hp) (vs : List V) (Q : VK) (E : XK), Room k (A.deeper (envOfC d.qual d.scope s.heap.objs.size (He.fAd K d.at_) (.ref (He.codeOf K d.at_)))) → sp vs H Q E →
      ∃ t, PSs (bodyX P w K mg base N d A outer s H E) d.body t ∧ t { nx := fun _ H' => Q .non H', rt := Q } (L2.start N vs) H) : Good P w K mg base (k + 1) (He.fAd K d.at_) ps ds sp := by
  obtain ⟨fd, D⟩ := F
  obtain ⟨dvs, rv, hbi⟩ := hb fd D
  refine ⟨⟨fd, dvs, ?_, hbi, rv⟩, D.kp⟩
  obtain ⟨oc, od, dV, kV, doc, pm, an, cdv, ct, osl, rfl, lk, hcd, _, _⟩ := D.ex
  obtain ⟨c, rfl⟩ := He.codeIn_ref hcd
  have ec : He.codeOf K d.at_ = c := He.codeOf_eq lk rfl
  refine fn_of lk hcd S len fun A outer s H vs Q E hr hsp => ?_
  have q := hbody A outer s H vs Q E (by rw [ec]; exact hr) hsp
  unfold bodyX at q
  rw [ec] at q
  exact q
/-- .. of no defaults -/
theorem good_of0 {d : He.DefD} (F : ∃ fd, FunD K d.name d.qual d.params d.body d.scope (d.dvs K) (d.kws K) (He.fAd K d.at_) fd) (S : FnScope N ps d.scope) (hd : d.dfl = [] := by rfl) (hk : d.kwd = [] := by rfl)
    (hb : ∀ (kV doc pm : Value) (an : Option Addr) (cdv ct : Value) (us : List Value), us.length = ps.length → bindArgs (PySem.W.fnOf d.name d.qual d.params d.body d.scope .none kV doc pm an cdv ct) ⟨us, []⟩ = pure (ps.zip us))
    (len : ∀ vs H Q E, sp vs H Q E → vs.length = ps.length)
    (hbody : ∀ (A : Around) (outer : List Env) (s : Shared) (H : Hp) (vs : List V) (Q : VK) (E : XK), Room k (A.deeper (envOfC d.qual d.scope s.heap.objs.size (He.fAd K d.at_) (.ref (He.codeOf K d.at_)))) → sp vs H Q E →
      ∃ t, PSs (bodyX P w K mg base N d A outer s H E) d.body t ∧ t { nx := fun _ H' => Q .non H', rt := Q } (L2.start N vs) H) : Good P w K mg base (k + 1) (He.fAd K d.at_) ps [] sp := by
  refine good_of F S (fun fd D => ⟨[], .nil, ?_⟩) len hbody
  unfold He.DefD.dvs He.DefD.kws at D
  rw [hd, hk] at D
  exact D.bindsN hb
end
section
variable {X : Cx} {k : Nat} {f C : Addr} {ps : List Str} {sp : Sp} {ds : List V} {E : XK} {x m : Str} {p pos apos : Pos} {e o : Expr} {es : List Expr} {ta : TE} {t : TA}
/-- what a def's body lets out goes on -/
theorem px {P : Program} {w : World} {K : PySem.W.Frag} {mg : Str → Option Value} {base : Heap} {N : List Str} {q : Str} {sc : Scope} {f : Addr} {cd : Value} {A : Around} {outer : List Env} {s : Shared} {H : Hp} {E : XK} :
    Passes (L2.CX P w) (cxOf (L2.CX P w) P w K mg base N q sc f cd A outer s H E) E :=
  passes_call (X := cxOf (L2.CX P w) P w K mg base N q sc f cd A outer s H E) (W := fun cls d σ H => E cls d H) (takes_of rfl rfl rfl rfl) fun _ _ _ _ h => h
theorem tkx {P : Program} {w : World} {K : PySem.W.Frag} {mg : Str → Option Value} {base : Heap} {N : List Str} {q : Str} {sc : Scope} {f : Addr} {cd : Value} {A : Around} {outer : List Env} {s : Shared} {H : Hp} {E : XK} :
    Takes (cxOf (L2.CX P w) P w K mg base N q sc f cd A outer s H E) (fun cls d _ H => E cls d H) := takes_of rfl rfl rfl rfl
/-- f(e, ..) -/
theorem pg_call (G : Good X.prog X.w X.K X.mg X.base k f ps ds sp) (hr : Room k X.A) (hg : Gl X x) (hm : X.mg x = some (.ref f)) (hx : Passes (L2.CX X.prog X.w) X E) (ha : PA X (e :: es) t) (hdb : (x == ("__debug__" : Str)) = false := by decide)
    (he : starEach (e :: es) X.env = (false, eval e X.env) :: starEach es X.env := by rfl) (hpl : (backTo pos (starEach es X.env)).any (·.1) = false := by rfl) : PE X (.Call (.Name x p) (e :: es) [] pos) (tCall sp ds E t) := by
  obtain ⟨⟨fd, dvs, F, b, v⟩, kp⟩ := G
  exact pe_call F hr hg hm kp b v hx ha hdb he hpl
theorem pg_call0 (G : Good X.prog X.w X.K X.mg X.base k f ps ds sp) (hr : Room k X.A) (hg : Gl X x) (hm : X.mg x = some (.ref f)) (hx : Passes (L2.CX X.prog X.w) X E) (hdb : (x == ("__debug__" : Str)) = false := by decide) : PE X (.Call (.Name x p) [] [] pos) (tCall sp ds E tNil) := by
  obtain ⟨⟨fd, dvs, F, b, v⟩, kp⟩ := G
  exact pe_call0 F hr hg hm kp b v hx hdb
/-- o.m(e, ..) -/
theorem pg_meth {pl : Sem Bool} (G : Good X.prog X.w X.K X.mg X.base k f ps ds sp) (hr : Room k X.A) (c : Cls X.K C) (hm : Meth X.K C m f) (hx : Passes (L2.CX X.prog X.w) X E) (he : PE X o ta) (ha : PA X (e :: es) t)
    (hst : starEach (e :: es) X.env = (false, eval e X.env) :: starEach es X.env := by rfl) (hpl : (backTo pos (starEach es X.env)).any (·.1) = false := by rfl)
    (ht : eval (.Call (.Attribute o m apos) (e :: es) [] pos) X.env = (do
      let ov ← eval o X.env
      standAt apos.atName
      let (f, first) ← holding [ov] (getMethod ov m pl)
      callWith pos f first (backTo pos (starEach (e :: es) X.env)) (backToKw pos (keywordEach [] X.env))) := by rfl) :
    PE X (.Call (.Attribute o m apos) (e :: es) [] pos) (tMeth C m sp ds E ta t) := by
  obtain ⟨⟨fd, dvs, F, b, v⟩, kp⟩ := G
  exact pe_meth he c hm F hr b v hx ha hst hpl ht
theorem pg_meth0 {pl : Sem Bool} (G : Good X.prog X.w X.K X.mg X.base k f ps ds sp) (hr : Room k X.A) (c : Cls X.K C) (hm : Meth X.K C m f) (hx : Passes (L2.CX X.prog X.w) X E) (he : PE X o ta)
    (ht : eval (.Call (.Attribute o m apos) [] [] pos) X.env = (do
      let ov ← eval o X.env
      standAt apos.atName
      let (f, first) ← holding [ov] (getMethod ov m pl)
      callWith pos f first (backTo pos (starEach [] X.env)) (backToKw pos (keywordEach [] X.env))) := by rfl) :
    PE X (.Call (.Attribute o m apos) [] [] pos) (tMeth C m sp ds E ta tNil) := by
  obtain ⟨⟨fd, dvs, F, b, v⟩, kp⟩ := G
  exact pe_meth0 he c hm F hr b v hx ht
/-- C(e, ..), C() -/
theorem pg_make (M : Mk X.K C f) (G : Good X.prog X.w X.K X.mg X.base k f ps ds sp) (hr : Room (k + 1) X.A) (hg : Gl X x) (hm : X.mg x = some (.ref C)) (hx : Passes (L2.CX X.prog X.w) X E) (ha : PA X (e :: es) t) (hdb : (x == ("__debug__" : Str)) = false := by decide)
    (he : starEach (e :: es) X.env = (false, eval e X.env) :: starEach es X.env := by rfl) (hpl : (backTo pos (starEach es X.env)).any (·.1) = false := by rfl) : PE X (.Call (.Name x p) (e :: es) [] pos) (tMake C sp ds E t) := by
  obtain ⟨⟨fd, dvs, F, b, v⟩, kp⟩ := G
  exact pe_make M F hr hg hm b v hx ha hdb he hpl
theorem pg_make0 (M : Mk X.K C f) (G : Good X.prog X.w X.K X.mg X.base k f ps ds sp) (hr : Room (k + 1) X.A) (hg : Gl X x) (hm : X.mg x = some (.ref C)) (hx : Passes (L2.CX X.prog X.w) X E) (hdb : (x == ("__debug__" : Str)) = false := by decide) :
    PE X (.Call (.Name x p) [] [] pos) (tMake C sp ds E tNil) := by
  obtain ⟨⟨fd, dvs, F, b, v⟩, kp⟩ := G
  exact pe_make0 M F hr hg hm b v hx hdb
end
end Fy
namespace Fy
open PySem PySem.Spec PyProof.Rows L2
/-- an own exception class over ValueError without __init__ -/
structure ExcF (K : PySem.W.Frag) (C : Addr) : Prop where
  ex : PySem.W.excIn K C He.veBase "ValueError.__new__" = true
  kp : PySem.W.keepIn K (.ref C) = true
  sb : PySem.W.subIn K (.ref C) (.type "BaseException") = some true
  ty : PySem.W.typeIn K (.ref C) = some (.type "type")
theorem ExcF.of {K : PySem.W.Frag} {C : Addr} (h : PySem.W.excIn K C He.veBase "ValueError.__new__" = true ∧ PySem.W.keepIn K (.ref C) = true ∧ PySem.W.subIn K (.ref C) (.type "BaseException") = some true ∧ PySem.W.typeIn K (.ref C) = some (.type "type")) : ExcF K C := ⟨h.1, h.2.1, h.2.2.1, h.2.2.2⟩
/-- raise C('..') -/
theorem ps_raiseC {X : Cx} {W : WX} {C : Addr} {x m : Str} {j : Nat} {p p2 pos rpos : Pos} (hc : X.calm = true) (tk : Takes X W) (F : ExcF X.K C) (gC : X.mg x = some (.ref C)) (hg : Gl X x) (hdb : (x == ("__debug__" : Str)) = false := by decide) :
    PS X (.Raise (some (.Call (.Name x p) [.Constant (.str m) j p2] [] pos)) none rpos) (fun _ σ H => W (.ref C) none σ H) :=
  ps_raise hc tk (pmk_own PySem.F.excBase_ValueError F.ex gC F.kp (raises_own F.sb F.ty) hg hdb)
theorem nodup_apart {α β : Type} {f : α → β} {A B : List α} (h : ((A ++ B).map f).Nodup) : ∀ a ∈ A, ∀ b ∈ B, f a ≠ f b := by
  rw [List.map_append, List.nodup_append] at h
  intro a ha b hb
  exact h.2.2 _ (List.mem_map.mpr ⟨a, ha, rfl⟩) _ (List.mem_map.mpr ⟨b, hb, rfl⟩)
end Fy
namespace Fy
open PySem PySem.Spec PyProof.Rows L2
def iSeq (K : PySem.W.Frag) (tl : TE) : TI := fun σ H R => tl σ H fun x H1 => ∃ a, x = .ref a ∧ (((∃ xs, SqL K H1 a xs) ∧ R (Itl K a) H1) ∨ ((∃ xs, SqT K H1 a xs) ∧ R (Itt K a) H1))
section
variable {X : Cx} {tg : Expr}
theorem pi_seq {l : Expr} {tl : TE} (hl : PE X l tl) : PI X tg l (iSeq X.K tl) := by
  refine ⟨fun pins s σ H R I h => ?_⟩
  refine thn (hl.run pins s σ H _ I h) fun v s1 ⟨x, H1, I1, r1, q1⟩ => ?_
  obtain ⟨a, e, q1⟩ := q1
  subst e
  cases r1
  rcases q1 with ⟨⟨xs, hq⟩, q⟩ | ⟨⟨xs, hq⟩, q⟩
  · obtain ⟨its, rv, p, hz⟩ := I1.list hq
    refine wpAny_pyIter_list p.isList ?_
    refine ⟨s1.heap.objs.size, [s1.heap.objs.size], _, _, H1, rfl, I1.kept (t' := s1.toks) fun b o e => Heap.get?_push_of_some _ e, turn_list a _, ⟨_, Heap.get?_push_size _ rfl, rfl, rfl⟩, fun b hb => ?_, q⟩
    have e : b = s1.heap.objs.size := by simpa using hb
    subst e
    exact I1.fpOk (Nat.le_refl _) (I1.hok.fresh (Nat.le_refl _))
  · obtain ⟨its, rv, p, hz⟩ := I1.tuple hq
    refine wpAny_pyIter_tuple (show s1.heap.IsTuple a its.toArray from p) ?_
    refine ⟨s1.heap.objs.size, [s1.heap.objs.size], _, _, H1, rfl, I1.kept (t' := s1.toks) fun b o e => Heap.get?_push_of_some _ e, turn_tuple a _, ⟨_, Heap.get?_push_size _ rfl, rfl, rfl⟩, fun b hb => ?_, q⟩
    have e : b = s1.heap.objs.size := by simpa using hb
    subst e
    exact I1.fpOk (Nat.le_refl _) (I1.hok.fresh (Nat.le_refl _))
end
/-- an empty tuple stands at a -/
def etB (K : PySem.W.Frag) (a : Addr) : Bool := match K.lookup a with
  | some ⟨.type c, _, .seq its _, _⟩ => decide (c = "tuple") && its.isEmpty
  | _ => false
theorem etB_ok {K : PySem.W.Frag} {a : Addr} (h : etB K a = true) (H : Hp) : SqT K H a [] := by
  unfold etB at h
  cases q : K.lookup a with
  | none => rw [q] at h; cases h
  | some o =>
    obtain ⟨oc, od, dt, osl⟩ := o
    rw [q] at h
    cases oc with
    | type c =>
      cases dt with
      | seq its n =>
        obtain ⟨h1, h2⟩ := Bool.and_eq_true_iff.mp h
        refine .inr ⟨_, its, n, q, by rw [of_decide_eq_true h1], rfl, by rw [Array.isEmpty_iff.mp h2]; decide, ?_⟩
        rw [Array.isEmpty_iff.mp h2]
        exact .nil
      | _ => cases h
    | _ => cases h
/-- a for loop as a fold -/
theorem for_fold {α β : Type} {J : It} {G : Hp → Prop} {g : TG} {tb : TS} {D : Ends} {σ : L2.St} {H : Hp} (v : β → V) (ys : List β) {n : Nat} (hn : n = ys.length) (w : Walk J n G (YAt (ys.map v))) (f : α → β → α) (a0 : α) (Rp : α → L2.St → Hp → Prop) (h0 : Rp a0 σ H) (hG : ∀ a σ H, Rp a σ H → G H)
    (hs : ∀ pre y post σ H, ys = pre ++ y :: post → Rp (pre.foldl f a0) σ H → g (v y) σ H fun σ2 H2 => tb { D with nx := Rp (f (pre.foldl f a0) y), ct := Rp (f (pre.foldl f a0) y), bk := D.nx } σ2 H2) (hd : ∀ σ H, Rp (ys.foldl f a0) σ H → D.nx σ H) :
    ∃ W : Nat → Nat → L2.St → Hp → Prop, (∃ m, W 0 m σ H) ∧ ∀ i m σ H, W i m σ H →
      (J.stop i H ∧ D.nx σ H) ∨ (J.go i H ∧ ∃ N : L2.St → Hp → Prop, (∀ σ' H', N σ' H' → ∃ m', m' < m ∧ W (i + 1) m' σ' H') ∧ ∀ x H', J.yld i H x H' → g x σ H' fun σ2 H2 => tb { D with nx := N, ct := N, bk := D.nx } σ2 H2) := by
  subst hn
  refine for_it w (fun i => Rp ((ys.take i).foldl f a0)) h0 (fun i σ H _ h => hG _ σ H h) (fun i x σ H H' hi h y => ?_) fun σ H h => hd σ H (by rw [List.take_length] at h; exact h)
  obtain ⟨rfl, e⟩ := y
  rw [List.getElem?_map] at e
  obtain ⟨y, e1, rfl⟩ := Option.map_eq_some_iff.mp e
  have e2 : ys = ys.take i ++ y :: ys.drop (i + 1) := by
    obtain ⟨h1, h2⟩ := List.getElem?_eq_some_iff.mp e1
    rw [← h2, ← List.drop_eq_getElem_cons h1, List.take_append_drop]
  have q := hs (ys.take i) y (ys.drop (i + 1)) σ H' e2 h
  have e3 : (ys.take (i + 1)).foldl f a0 = f ((ys.take i).foldl f a0) y := by
    rw [List.take_add_one, e1, List.foldl_append] <;> rfl
  show g (v y) σ H' fun σ2 H2 => tb { D with nx := Rp ((ys.take (i + 1)).foldl f a0), ct := Rp ((ys.take (i + 1)).foldl f a0), bk := D.nx } σ2 H2
  rw [e3]
  exact q
theorem walk_keysV {d : Addr} {o : Obj} {kvs : List (Key × V)} : Walk (Itk d o kvs) kvs.length (fun H => H d = some (.frz o (.dK kvs))) (YAt (kvs.map fun p => kV p.1)) :=
  walk_keys.mono (fun _ h => h) fun i H x H' _ _ y => by
    obtain ⟨e, k, v, e1, rfl⟩ := y
    exact ⟨e, by rw [List.getElem?_map, e1] <;> rfl⟩
theorem walk_itl {K : PySem.W.Frag} {a : Addr} {β : Type} {v : β → V} {ys : List β} : Walk (Itl K a) ys.length (fun H => SqL K H a (ys.map v)) (YAt (ys.map v)) := by
  have := walk_list (K := K) (a := a) (xs := ys.map v)
  rw [List.length_map] at this
  exact this
theorem walk_itt {K : PySem.W.Frag} {a : Addr} {β : Type} {v : β → V} {ys : List β} : Walk (Itt K a) ys.length (fun H => SqT K H a (ys.map v)) (YAt (ys.map v)) := by
  have := walk_tup (K := K) (a := a) (xs := ys.map v)
  rw [List.length_map] at this
  exact this
/-- a for over a list or a tuple, as a fold -/
theorem seq_fold {K : PySem.W.Frag} {α β : Type} {g : TG} {tb : TS} {D : Ends} {σ : L2.St} {H : Hp} (v : β → V) (ys : List β) (b : Addr) (f : α → β → α) (a0 : α) (Rp : α → L2.St → Hp → Prop)
    (hb : (∀ a σ H, Rp a σ H → SqL K H b (ys.map v)) ∨ (∀ a σ H, Rp a σ H → SqT K H b (ys.map v))) (h0 : Rp a0 σ H)
    (hs : ∀ pre y post σ H, ys = pre ++ y :: post → Rp (pre.foldl f a0) σ H → g (v y) σ H fun σ2 H2 => tb { D with nx := Rp (f (pre.foldl f a0) y), ct := Rp (f (pre.foldl f a0) y), bk := D.nx } σ2 H2) (hd : ∀ σ H, Rp (ys.foldl f a0) σ H → D.nx σ H) :
    ∃ a, V.ref b = .ref a ∧ (((∃ xs, SqL K H a xs) ∧ (fun (J : It) (H : Hp) => ∃ W : Nat → Nat → L2.St → Hp → Prop, (∃ m, W 0 m σ H) ∧ ∀ i m σ H, W i m σ H →
      (J.stop i H ∧ D.nx σ H) ∨ (J.go i H ∧ ∃ N : L2.St → Hp → Prop, (∀ σ' H', N σ' H' → ∃ m', m' < m ∧ W (i + 1) m' σ' H') ∧ ∀ x H', J.yld i H x H' → g x σ H' fun σ2 H2 => tb { D with nx := N, ct := N, bk := D.nx } σ2 H2)) (Itl K a) H) ∨
      ((∃ xs, SqT K H a xs) ∧ (fun (J : It) (H : Hp) => ∃ W : Nat → Nat → L2.St → Hp → Prop, (∃ m, W 0 m σ H) ∧ ∀ i m σ H, W i m σ H →
      (J.stop i H ∧ D.nx σ H) ∨ (J.go i H ∧ ∃ N : L2.St → Hp → Prop, (∀ σ' H', N σ' H' → ∃ m', m' < m ∧ W (i + 1) m' σ' H') ∧ ∀ x H', J.yld i H x H' → g x σ H' fun σ2 H2 => tb { D with nx := N, ct := N, bk := D.nx } σ2 H2)) (Itt K a) H)) := by
  refine ⟨b, rfl, ?_⟩
  rcases hb with hb | hb
  · exact .inl ⟨⟨_, hb _ _ _ h0⟩, for_fold v ys rfl walk_itl f a0 Rp h0 (fun a σ H h => hb a σ H h) hs hd⟩
  · exact .inr ⟨⟨_, hb _ _ _ h0⟩, for_fold v ys rfl walk_itt f a0 Rp h0 (fun a σ H h => hb a σ H h) hs hd⟩
/-- a list or a tuple -/
def SqB (K : PySem.W.Frag) (H : Hp) (a : Addr) (xs : List V) : Prop := SqL K H a xs ∨ SqT K H a xs
section
variable {K : PySem.W.Frag} {TL : List (Addr × Str)} {TG : List Addr} {S : Ad} {H H' : Hp} {a : Addr} {xs : List V}
theorem Rd.go {u : HO} (h : Rd H a u) (g : Go TL TG S H H') (n : NoT u) (s : ¬ S a) : Rd H' a u := by
  rcases h with h | ⟨o, h⟩
  · exact .inl (g.keep _ _ h n s)
  · exact .inr ⟨o, g.keep _ _ h (by intro _ z; cases z) s⟩
theorem SqB.go (h : SqB K H a xs) (g : Go TL TG S H H') (s : ¬ S a) : SqB K H' a xs := by
  rcases h with (h | h) | (h | h)
  · exact .inl (.inl (Rd.go h g (by intro _ z; cases z) s))
  · exact .inl (.inr h)
  · exact .inr (.inl (Rd.go h g (by intro _ z; cases z) s))
  · exact .inr (.inr h)
end
end Fy
namespace Fy
open PySem PySem.Spec PyProof.Rows L2
section
variable {X : Cx} {pins : List (Addr × Obj)} {σ : L2.St} {H : Hp} {s : Shared}
/-- two values of the same data -/
def SameD (K : PySem.W.Frag) (H : Hp) (x y : V) : Prop := ∃ d, Dp K H x d ∧ Dp K H y d ∧ SeqAt.shaped d = true
theorem SameD.at_ (I : Inv X pins σ H s) {A : Around} (hu : A.units + 64 < cLine) {x y : V} {v u : Value} (h : SameD X.K H x y) (rx : RelV x v) (ry : RelV y u) : SeqAt.EqAt A s v u true := by
  obtain ⟨d, h1, h2, sd⟩ := h
  obtain ⟨as, r1⟩ := Dp.reads I d x v h1 rx
  obtain ⟨bs, r2⟩ := Dp.reads I d y u h2 ry
  have e := SeqAt.eqAt_reads d d A s v u as bs r1 r2 (SeqAt.canLay_of_shaped sd) (SeqAt.canLay_of_shaped sd) (SeqAt.room_of_shaped sd hu)
  rw [SeqAt.eqv_refl d (SeqAt.canLay_of_shaped sd)] at e
  exact e
theorem hits_same {κ : Type} [DecidableEq κ] (I : Inv X pins σ H s) {A : Around} (hu : A.units + 64 < cLine) {ls : List (κ × V)} {vb : List (κ × Value)} (rb : KV ls vb) {ks : List (κ × V)} {va : List (κ × Value)} (ra : KV ks va) :
    (∀ p ∈ ks, ∃ u, valV ls p.1 = some u ∧ SameD X.K H p.2 u) → PySem.W.KeqHits A s vb va true := by
  unfold KV at ra
  induction ra with
  | nil => intro _; exact .nil
  | @cons p q ps qs h t ih =>
    intro hp
    obtain ⟨h1, h2⟩ := h
    obtain ⟨u, e, f⟩ := hp p List.mem_cons_self
    have rr : RelO (some u) (valueAt vb p.1) := by rw [← e]; exact rb.val p.1
    obtain ⟨y, hy, ry⟩ := rr.some_of
    obtain ⟨k, v⟩ := q
    have h1' : p.1 = k := h1
    rw [h1'] at hy
    show PySem.W.KeqHits A s vb ((k, v) :: qs) (true && true)
    exact .hit hy (f.at_ I hu h2 ry) (ih fun p' hm => hp p' (List.mem_cons_of_mem _ hm))
end
section
variable {X : Cx}
/-- two dicts of the same keys and the same data -/
def rSameD (K : PySem.W.Frag) (b : Bool) : R2 := fun x y H Q => ∃ c d ks ls, x = .ref c ∧ y = .ref d ∧ H c = some (.dK ks) ∧ H d = some (.dK ls) ∧ ks.length = ls.length ∧ (∀ p ∈ ks, ∃ u, valV ls p.1 = some u ∧ SameD K H p.2 u) ∧ Q (.bl b) H
theorem op_eqDD (hu : X.A.units + 65 < cLine) : OpR X (compareOp .Eq) (rSameD X.K true) := by
  intro pins s σ H x y v u Q I rx ry h
  obtain ⟨a, b, ks, ls, rfl, rfl, ea, eb, hlen, hp, q⟩ := h
  obtain rfl : v = Value.ref a := rx
  obtain rfl : u = Value.ref b := ry
  obtain ⟨_, ya, va, ra, da⟩ := (show ObjOk X.prog X.w H s.heap a (.dK ks) from I.hok a _ ea)
  obtain ⟨_, yb, vb, rb, db⟩ := (show ObjOk X.prog X.w H s.heap b (.dK ls) from I.hok b _ eb)
  have hl : va.length = vb.length := by rw [← ra.length, ← rb.length]; exact hlen
  exact PySem.W.keq_eq (knd := mixKind X.prog X.w) (r := true) ya yb da db (by omega) (fun _ => hits_same I (by show X.A.units + 1 + 64 < cLine; omega) rb ra hp) ⟨.bl true, H, I, by simp [hl]; exact rfl, q⟩
theorem op_neDD (hu : X.A.units + 65 < cLine) : OpR X (compareOp .NotEq) (rSameD X.K false) := by
  intro pins s σ H x y v u Q I rx ry h
  obtain ⟨a, b, ks, ls, rfl, rfl, ea, eb, hlen, hp, q⟩ := h
  obtain rfl : v = Value.ref a := rx
  obtain rfl : u = Value.ref b := ry
  obtain ⟨_, ya, va, ra, da⟩ := (show ObjOk X.prog X.w H s.heap a (.dK ks) from I.hok a _ ea)
  obtain ⟨_, yb, vb, rb, db⟩ := (show ObjOk X.prog X.w H s.heap b (.dK ls) from I.hok b _ eb)
  have hl : va.length = vb.length := by rw [← ra.length, ← rb.length]; exact hlen
  exact PySem.W.keq_ne (knd := mixKind X.prog X.w) (r := true) ya yb da db (by omega) (fun _ => hits_same I (by show X.A.units + 1 + 64 < cLine; omega) rb ra hp) ⟨.bl false, H, I, by simp [hl]; exact rfl, q⟩
end
theorem dpAll_map {K : PySem.W.Frag} {H : Hp} {α : Type} {v : α → V} {d : α → PyData} (h : ∀ a, Dp K H (v a) (d a)) : ∀ xs : List α, DpAll K H (xs.map v) (xs.map d)
  | [] => .nil
  | x :: xs => .cons (h x) (dpAll_map h xs)
theorem eqv_same {d : PyData} (h : SeqAt.shaped d = true) : PyData.eqv d d = true := SeqAt.eqv_refl d (SeqAt.canLay_of_shaped h)
/-- a comprehension as a fold -/
theorem lc_fold {α β : Type} {J : It} {G : Hp → Prop} {g : TG} {tt : TT} {te : TE} {vs : List Nat} {σ : L2.St} {H1 : Hp} {D : Addr} {Qd : Hp → Prop} (v : β → V) (ys : List β) {n : Nat} (hn : n = ys.length) (w : Walk J n G (YAt (ys.map v))) (f : α → β → α) (a0 : α) (Rp : α → Hp → Prop) (h0 : Rp a0 (upd H1 D (.lst []))) (hG : ∀ a H, Rp a H → G H)
    (hs : ∀ pre y post H, ys = pre ++ y :: post → Rp (pre.foldl f a0) H → g (v y) (wipe σ vs) H fun σ2 H2 => wipe σ2 vs = wipe σ vs ∧ tt σ2 H2 fun b H3 =>
      if b = true then te σ2 H3 fun z H4 => ∃ acc, H4 D = some (.lst acc) ∧ acc.length < sizeLine ∧ Rp (f (pre.foldl f a0) y) (upd H4 D (.lst (acc ++ [z]))) else Rp (f (pre.foldl f a0) y) H3) (hd : ∀ H, Rp (ys.foldl f a0) H → Qd H) :
    ∃ W : Nat → Nat → Hp → Prop, (∃ m, W 0 m (upd H1 D (.lst []))) ∧ ∀ i m H, W i m H →
      (J.stop i H ∧ Qd H) ∨ (J.go i H ∧ ∃ Nx : Hp → Prop, (∀ H', Nx H' → ∃ m', m' < m ∧ W (i + 1) m' H') ∧ ∀ x H', J.yld i H x H' → g x (wipe σ vs) H' fun σ2 H2 => wipe σ2 vs = wipe σ vs ∧ tt σ2 H2 fun b H3 =>
        if b = true then te σ2 H3 fun y H4 => ∃ acc, H4 D = some (.lst acc) ∧ acc.length < sizeLine ∧ Nx (upd H4 D (.lst (acc ++ [y]))) else Nx H3) := by
  subst hn
  refine lc_it w (fun i => Rp ((ys.take i).foldl f a0)) h0 (fun i H _ h => hG _ H h) (fun i x H H' hi h y => ?_) fun H h => hd H (by rw [List.take_length] at h; exact h)
  obtain ⟨rfl, e⟩ := y
  rw [List.getElem?_map] at e
  obtain ⟨y, e1, rfl⟩ := Option.map_eq_some_iff.mp e
  have e2 : ys = ys.take i ++ y :: ys.drop (i + 1) := by
    obtain ⟨h1, h2⟩ := List.getElem?_eq_some_iff.mp e1
    rw [← h2, ← List.drop_eq_getElem_cons h1, List.take_append_drop]
  have q := hs (ys.take i) y (ys.drop (i + 1)) H' e2 h
  have e3 : (ys.take (i + 1)).foldl f a0 = f ((ys.take i).foldl f a0) y := by
    rw [List.take_add_one, e1, List.foldl_append] <;> rfl
  show g (v y) (wipe σ vs) H' fun σ2 H2 => wipe σ2 vs = wipe σ vs ∧ tt σ2 H2 fun b H3 =>
      if b = true then te σ2 H3 fun z H4 => ∃ acc, H4 D = some (.lst acc) ∧ acc.length < sizeLine ∧ Rp ((ys.take (i + 1)).foldl f a0) (upd H4 D (.lst (acc ++ [z]))) else Rp ((ys.take (i + 1)).foldl f a0) H3
  rw [e3]
  exact q
theorem Go.drop {TL : List (Addr × Str)} {TG : List Addr} {S S' : Ad} {H H' : Hp} (g : Go TL TG S H H') (h : ∀ b, S b → S' b ∨ H b = none) : Go TL TG S' H H' := ⟨fun b o e n s => g.keep b o e n fun z => (h b z).elim s fun q => (by rw [q] at e; cases e), g.tb, g.free⟩
theorem Go.wide {TL : List (Addr × Str)} {TG : List Addr} {S : Ad} {H H' : Hp} (g : Go TL TG (fun _ => False) H H') : Go TL TG S H H' := g.mono fun _ z => z.elim
theorem tYes_ok {σ : L2.St} {H : Hp} {A B : Hp → Prop} (h : A H) : tYes σ H fun b H3 => if b = true then A H3 else B H3 := by
  show (if true = true then A H else B H)
  rw [if_pos rfl]
  exact h
theorem u65 {k : Nat} {A : Around} (r : Room k A) : A.units + 65 < cLine := by have := r.un; omega
/-- dead code -/
theorem pss_dead {X : Cx} {body : List Stmt} : PSs X body (fun _ _ _ => False) := ⟨fun _ _ _ _ _ _ h => h.elim⟩
theorem pe_dead {X : Cx} {e : Expr} : PE X e (fun _ _ _ => False) := ⟨fun _ _ _ _ _ _ h => h.elim⟩
end Fy
namespace Fy
open PySem PySem.Spec PyProof.Rows L2
theorem leS_trans (a b c : Str) (h : leS a b = true) (h' : leS b c = true) : leS a c = true :=
  decide_eq_true (List.le_trans (of_decide_eq_true h) (of_decide_eq_true h'))
theorem leS_total (a b : Str) : (leS a b || leS b a) = true := by
  rcases List.le_total a.cps.toList b.cps.toList with h | h
  · exact Bool.or_eq_true_iff.mpr (.inl (decide_eq_true h))
  · exact Bool.or_eq_true_iff.mpr (.inr (decide_eq_true h))
theorem leS_anti {a b : Str} (h : leS a b = true) (h' : leS b a = true) : a = b := by
  have e : a.cps.toList = b.cps.toList := List.le_antisymm (of_decide_eq_true h) (of_decide_eq_true h')
  cases a
  cases b
  congr 1
  exact Array.toList_inj.mp e
theorem sortS_pw (ns : List Str) : (sortS ns).Pairwise fun a b => leS a b = true := List.pairwise_mergeSort leS_trans leS_total ns
theorem sorted_uniq {xs ys : List Str} (p : xs.Perm ys) (h : xs.Pairwise fun a b => leS a b = true) (h' : ys.Pairwise fun a b => leS a b = true) : xs = ys :=
  p.eq_of_pairwise (fun a b _ _ z z' => leS_anti z z') h h'
theorem sortS_filter (ns : List Str) (q : Str → Bool) : sortS (ns.filter q) = (sortS ns).filter q :=
  sorted_uniq ((List.mergeSort_perm _ _).trans ((List.mergeSort_perm ns leS).symm.filter q)) (sortS_pw _) ((sortS_pw ns).filter q)
theorem sortS_perm {ns ms : List Str} (p : ns.Perm ms) : sortS ns = sortS ms :=
  sorted_uniq ((List.mergeSort_perm _ _).trans (p.trans (List.mergeSort_perm ms leS).symm)) (sortS_pw _) (sortS_pw _)
section
variable {X : Cx} (K : PySem.W.Frag) (e : X.K = K)
include e
theorem ix_listK : IxR X (rIxL K) := e ▸ ix_list
theorem ix_tupK : IxR X (rIxT K) := e ▸ ix_tup
theorem sl_listK : SlR X (rSlL K) := e ▸ sl_list
theorem sl_tupAK : SlR X (rSlA K) := e ▸ sl_tupA
theorem pe_fldK {o : Expr} {f : Str} {pos : Pos} {ta : TE} (he : PE X o ta) (hb : attributeBase o f X.env (eval o X.env) = eval o X.env) : PE X (.Attribute o f pos) (tFld K ta f) := e ▸ pe_fld he hb
theorem op_in_seqK : OpR X (compareOp .In) (rIn K false) := e ▸ op_in_seq
theorem op_notIn_seqK : OpR X (compareOp .NotIn) (rIn K true) := e ▸ op_notIn_seq
theorem cr_sumK (hc : X.calm = true) : CallR X (.builtin "sum") (rSum K) := e ▸ cr_sum hc
theorem call_list_ofK : CallR X (.type "list") (fun xs H Q => ∃ p ys, xs = [.ref p] ∧ (SqL K H p ys ∨ SqT K H p ys) ∧ ∀ l, H l = none → Q (.ref l) (upd H l (.lst ys))) := e ▸ call_list_of
theorem call_lenK : CallR X (.builtin "len") (fun xs H Q => ∃ x n, xs = [x] ∧ LenV K x H n ∧ Q (.int n) H) := e ▸ call_len
theorem op_eqDK (hu : X.A.units + 64 < cLine) : OpR X (compareOp .Eq) (rEqD K) := e ▸ op_eqD hu
theorem op_neDK (hu : X.A.units + 64 < cLine) : OpR X (compareOp .NotEq) (rNeD K) := e ▸ op_neD hu
theorem pi_listK {tg l : Expr} {tl : TE} (hl : PE X l tl) : PI X tg l (iList K tl) := e ▸ pi_list hl
theorem pi_tupK {tg l : Expr} {tl : TE} (hl : PE X l tl) : PI X tg l (iTup K tl) := e ▸ pi_tup hl
end
end Fy
namespace Fy
open PySem PySem.Spec PyProof.Rows L2
open GxR (TabG Tabbed)
open LamX (CodeO TabS Tabs TabB lamCx lamEnv LamS GivesTo TTold codeO_ne)
abbrev lamQ (X : Cx) : Str := X.env.qual ++ "<lambda>"
abbrev lamO (X : Cx) (params : Arguments) (body : Expr) (scope : Scope) (pm : Value) (c' : Addr) (ctv : Value) : Obj := PySem.W.kla_obj "<lambda>" (lamQ X) params body scope (cloFrom X.env.cells scope.names []) pm c' ctv
section
variable {X : Cx} {pins : List (Addr × Obj)} {σ : L2.St} {H : Hp} {s : Shared} {TL : List (Addr × Str)} {TG : List Addr}
/-- the table grows by one new code object -/
theorem go_table {P c : Addr} {q : Str} {ps : Array Value} {pos : Pos} (hm : (P, q) ∈ TL) (hu : ∀ p ∈ TL, p.1 = P → p.2 = q) (hd : P ∉ TG) (hP : H P = some (.tbl ps)) (ht : TriplesOk ps.toList) (ha : ∀ (pos : Pos) (cv : Value), codeAmong pos ps.toList = some cv → ∃ c, cv = .ref c ∧ H c = some (CodeO c q)) (hc : H c = none) {S : Ad} :
    Go TL TG S H (upd (upd H P (.tbl (ps ++ #[rawInt pos.line, rawInt pos.col, .ref c]))) c (CodeO c q)) := by
  have keep : ∀ b o, H b = some o → NoT o → upd (upd H P (.tbl (ps ++ #[rawInt pos.line, rawInt pos.col, .ref c]))) c (CodeO c q) b = some o := fun b o e n => by
    rw [upd_ne (ne_of_none e hc), upd_ne (fun z => n ps (Option.some.inj (e.symm.trans (by rw [z]; exact hP))))]
    exact e
  refine ⟨fun b o e n _ => keep b o e n, fun t => ⟨fun p hp => ?_, fun Q hQ => ?_⟩, fun p hp => ?_⟩
  · have eL : (ps ++ #[rawInt pos.line, rawInt pos.col, .ref c]).toList = ps.toList ++ [rawInt pos.line, rawInt pos.col, .ref c] := by simp
    by_cases hb : p.1 = P
    · rw [hu p hp hb, hb]
      refine ⟨_, by rw [upd_ne (ne_of_none hP hc), upd_same], by rw [eL]; exact PySem.TriplesOk_snoc _ _ _ _ ht, fun p' cv hcv => ?_⟩
      rw [eL] at hcv
      rcases LamX.among_app _ ht hcv with z | z
      · obtain ⟨c0, e1, e2⟩ := ha p' cv z
        exact ⟨c0, e1, keep _ _ e2 fun ps => codeO_ne ps⟩
      · exact ⟨c, z, upd_same⟩
    · obtain ⟨ps', a1, a2, a3⟩ := t.lam p hp
      refine ⟨ps', by rw [upd_ne (ne_of_none a1 hc), upd_ne hb]; exact a1, a2, fun p' cv hcv => ?_⟩
      obtain ⟨c0, e1, e2⟩ := a3 p' cv hcv
      exact ⟨c0, e1, keep _ _ e2 fun ps => codeO_ne ps⟩
  · obtain ⟨ps', a1, a2⟩ := t.gen Q hQ
    have nQ : Q ≠ P := fun z => hd (by rw [← z]; exact hQ)
    exact ⟨ps', by rw [upd_ne (ne_of_none a1 hc), upd_ne nQ]; exact a1, a2⟩
  · obtain ⟨n1, h1⟩ := upd_none.mp hp
    exact (upd_none.mp h1).2
/-- a lambda without parameters is made -/
theorem lam_go {c P : Addr} {params : Arguments} {body : Expr} {scope : Scope} {pos : Pos} {E : Value → Shared → Prop} {Q : Value → Shared → Prop} (I : Inv X pins σ H s) (TB : TabB X.base X.mg c P) (hcode : X.env.code = .ref c)
    (hm : (P, lamQ X) ∈ TL) (hu : ∀ p ∈ TL, p.1 = P → p.2 = lamQ X) (hd : P ∉ TG) (tb : Tb TL TG H) (hdef : defaultsOf params X.env = ([], [])) (L : LamS X.env.scope scope)
    (h : ∀ (f c' : Addr) (pm ctv : Value) (H1 : Hp) (s' : Shared), Inv X pins σ H1 s' → Go TL TG (fun _ => False) H H1 → s'.heap.get? f = some (lamO X params body scope pm c' ctv) → H1 f = none → f ∉ frs X.stack → H1 c' = some (CodeO c' (lamQ X)) → (∀ p ∈ X.pn ++ pins, p.1 ≠ f) → Q (.ref f) s') :
    wpAny (model X.prog X.w) X.A (eval (.Lambda params body scope pos) X.env) Q E s := by
  obtain ⟨ps, hP, ht, ha⟩ := tb.lam _ hm
  have hP' : s.heap.get? P = some { cls := .none, data := .fields ps } := I.hok P _ hP
  have bP : s.heap.BuiltinsAt X.mg P := TB.bm.keeps I.bk
  have nofr : ∀ f, s.heap.objs.size ≤ f → f ∉ frs X.stack := fun f hf z => by
    rcases List.mem_cons.mp (I.stkSub _ z) with e | e
    · have h1 := I.lt
      rw [← e] at h1
      exact Nat.lt_irrefl _ (Nat.lt_of_lt_of_le h1 hf)
    · exact I.nofs hf e
  have nopin : ∀ f, s.heap.objs.size ≤ f → ∀ p ∈ X.pn ++ pins, p.1 ≠ f := fun f hf p hp z => by
    obtain ⟨e, _⟩ := I.pin p hp
    rw [z] at e
    exact Nat.lt_irrefl _ (Nat.lt_of_lt_of_le (Heap.lt_size e) hf)
  refine PySem.W.kla_eval hdef ?_
  cases hc : codeAmong pos ps.toList with
  | none =>
    refine PySem.W.kla_makeFunction (mg := X.mg) (c := c) (P := P) (ps := ps) (closure_ok (L.has I.ok)) I.ok.glob (I.mod.glob.keeps I.bk) hcode (TB.code.keeps I.bk) hP' ht hc TB.gP bP fun c' ctv h' tk hx hge hlt hrec htb => ?_
    obtain ⟨c2, oc, vs, t, e2, hoc, hdd, hv⟩ := hrec
    cases e2
    have hsz : s.heap.objs.size ≤ h'.objs.size := Nat.le_trans hge (Nat.le_of_lt hlt)
    have I1 := LamX.inv_table (t' := tk) (more := #[rawInt pos.line, rawInt pos.col, .ref c']) (h' := h'.push (lamO X params body scope ((X.mg "__name__").getD .none) c' ctv)) I hP
      (fun b o hb e => Heap.get?_push_of_some _ (hx b o hb e)) (Heap.get?_push_of_some _ htb) hge ⟨oc, vs, t, Heap.get?_push_of_some _ hoc, hdd, hv⟩
    refine h h'.objs.size c' ((X.mg "__name__").getD .none) ctv _ _ I1 (go_table hm hu hd hP ht ha (I.hok.fresh hge)) (Heap.get?_push_size _ rfl) ?_ (nofr _ hsz) upd_same (nopin _ hsz)
    have n2 : h'.objs.size ≠ P := Nat.ne_of_gt (Nat.lt_of_lt_of_le (Heap.lt_size hP') hsz)
    rw [upd_ne (Nat.ne_of_gt hlt), upd_ne n2]
    exact I.hok.fresh hsz
  | some cv =>
    obtain ⟨c', e, hco⟩ := ha pos cv hc
    subst e
    refine PySem.W.kla_makeFunctionHit (mg := X.mg) (c := c) (P := P) (ps := ps) (closure_ok (L.has I.ok)) I.ok.glob (I.mod.glob.keeps I.bk) hcode (TB.code.keeps I.bk) hP' ht hc bP fun ctv h' tk hx hsz => ?_
    have I1 : Inv X pins σ H { s with heap := h'.push (lamO X params body scope ((X.mg "__name__").getD .none) c' ctv), toks := tk } := I.kept fun b o e => Heap.get?_push_of_some _ (hx b o e)
    exact h h'.objs.size c' ((X.mg "__name__").getD .none) ctv H _ I1 .refl (Heap.get?_push_size _ rfl) (I.hok.fresh hsz) (nofr _ hsz) hco (nopin _ hsz)
end
/-- x(lambda: body): what the reading asks -/
def tLamG (TL : List (Addr × Str)) (TG : List Addr) (TT : (XK → Hp → VK → Prop) → Hp → VK → Prop) (t : XK → TE) : TE := fun σ H Q => Tb TL TG H ∧ ∀ H1, Go TL TG (fun _ => False) H H1 → TT (fun E H' Q' => t E σ H' Q') H1 Q
section
variable {X : Cx} {TL : List (Addr × Str)} {TG : List Addr}
/-- what a lambda's body lets out goes on -/
theorem pxl {A : Around} {outer : List Env} {s : Shared} {H : Hp} {E : XK} {scope : Scope} {f c' : Addr} : Passes (L2.CX (lamCx X A outer s H E scope f c').prog (lamCx X A outer s H E scope f c').w) (lamCx X A outer s H E scope f c') E :=
  passes_call (X := lamCx X A outer s H E scope f c') (W := fun cls d σ H => E cls d H) (takes_of rfl rfl rfl rfl) fun _ _ _ _ h => h
/-- told(lambda: body), told: try: return a() / except e: return ret -/
theorem pe_told {x a e ret : Str} {c P CS : Addr} {k j : Nat} {dt : He.DefD} {params : Arguments} {body : Expr} {scope : Scope} {t : XK → TE} {p lpos pos p1 p2 p3 p4 p5 p6 p7 p8 : Pos} {Ng : List Str}
    (F : ∃ fd, FunD X.K dt.name dt.qual dt.params dt.body dt.scope (dt.dvs X.K) (dt.kws X.K) (He.fAd X.K dt.at_) fd) (hx1 : dt.name = x) (hx2 : dt.qual = x) (hd : dt.dfl = []) (hkw : dt.kwd = [])
    (hbd : dt.body = [.Try [.Return (some (.Call (.Name a p1) [] [] p2)) p3] [.ExceptHandler (some (.Name e p4)) none [.Return (some (.Constant (.str ret) j p5)) p6] p7] [] [] p8])
    (hbi : ∀ (kV doc pm : Value) (an : Option Addr) (cdv ct : Value) (us : List Value), us.length = [a].length → bindArgs (PySem.W.fnOf dt.name dt.qual dt.params dt.body dt.scope .none kV doc pm an cdv ct) ⟨us, []⟩ = pure ([a].zip us))
    (hg : Gl X x) (hm : X.mg x = some (.ref (He.fAd X.K dt.at_))) (Sg : FnScope Ng [a] dt.scope) (hNg : Ng[0]? = some a) (hva : Vis dt.scope a) (hge : dt.scope.names.lookup e = some .globalImplicit) (hme : X.mg e = some (.ref CS)) (h0 : ∀ f : Addr, (L2.start Ng [V.ref f])[0]? = some (some (V.ref f)))
    (TB : TabB X.base X.mg c P) (hcode : X.env.code = .ref c) (hmT : (P, lamQ X) ∈ TL) (hu : ∀ p ∈ TL, p.1 = P → p.2 = lamQ X) (hdT : P ∉ TG) (hr : Room (k + 2) X.A) (L : LamS X.env.scope scope) (hdef : defaultsOf params X.env = ([], []))
    (hbind : ∀ (q : Str) (cl : List (Str × Addr)) (pm cv ctv : Value), bindArgs (PySem.W.kla_fn "<lambda>" q params body scope cl pm cv ctv) ⟨[], []⟩ = pure [])
    (hbody : ∀ (A : Around) (outer : List Env) (s : Shared) (H : Hp) (E : XK) (f c' : Addr), Room k (A.deeper (lamEnv X scope s.heap.objs.size f c')) → PE (lamCx X A outer s H E scope f c') body (t E))
    (hdb : (x == ("__debug__" : Str)) = false := by decide) (hda : (a == ("__debug__" : Str)) = false := by decide) (hcd : (a == ("__classdict__" : Str)) = false := by decide) (hde : (e == ("__debug__" : Str)) = false := by decide) :
    PE X (.Call (.Name x p) [.Lambda params body scope lpos] [] pos) (tLamG TL TG (TTold X.K CS ret) t) := by
  obtain ⟨fd, F⟩ := F
  have hb : Binds X.K fd [a] [] := by
    have F' := F
    unfold He.DefD.dvs He.DefD.kws at F'
    rw [hd, hkw] at F'
    exact F'.bindsN hbi
  obtain ⟨oc, od, dV, kV, doc, pm, an, cdv, ct, osl, rfl, lk, hcdv, _, _⟩ := F.ex
  have hk := F.kp
  subst hx1
  rw [hx2] at lk hcdv hb
  refine ⟨fun pins s σ H Q I h => ?_⟩
  obtain ⟨tb, h⟩ := h
  refine wpAny_Call_Name_kw (ld_glob I hg hm ?_ hdb)
  refine PySem.W.callWith_K (h₀ := X.base) I.ok.mod.kin hk ?_ (by rfl) (by rfl)
  show wpAny _ _ (spliced ((false, eval (.Lambda params body scope lpos) X.env) :: backTo pos (starEach [] X.env))) _ _ s
  refine Calls.spliced_cons (lam_go I TB hcode hmT hu hdT tb hdef L fun f c' pm' ctv H1 s' I1 g1 hf hfn hfr hco _ => ?_)
  refine Calls.spliced_nil ⟨I1.kIn, ?_⟩
  have hG : GivesTo X Ng dt.name dt.scope (He.fAd X.K dt.at_) cdv dt.body a (lamQ X) (TTold X.K CS ret) := by
    rw [hbd]
    exact LamX.told_gives hge hme hde h0
  have rc : codeAny (model X.prog X.w) X.A (.call (.ref (He.fAd X.K dt.at_)) ⟨[.ref f], []⟩) (CR C8.CX0 X.stack X.prog X.w H1 s' Q C8.E0) s' := by
    refine LamX.run_ofS (N := Ng) (ps := [a]) (us := [.ref f]) (vs := [.ref f]) lk hcdv Sg hr I1.env0 (hb s' [.ref f] I1.kIn rfl) (.cons rfl .nil) rfl fun hr' => ?_
    obtain ⟨t', ht', hq'⟩ := hG f c' s' H1 Q (fun E H' Q' => t E σ H' Q') (fun W pn xe E p1 p2 tk hW => LamX.pe_act (i := 0) I1 L hf hfn hfr (hbind _ _ _ _ _) tk hW hr' (fun A outer s H hr2 => hbody A outer s H E f c' hr2) hNg hva hda hcd) hco (h H1 g1)
    exact ⟨t', ht'.nox, hq'⟩
  refine wpAny_call (codeAny_mono rc fun r s2 hq => ?_)
  cases r with
  | error e => exact (show False from hq).elim
  | ok fl =>
    cases fl with
    | ret u => exact I1.after hq
    | next => exact False.elim hq
    | brk => exact False.elim hq
    | cont => exact False.elim hq
end
/-- the suites of a statement -/
def subS : Stmt → List Stmt
  | .For _ _ b _ _ => b
  | .While _ b _ _ => b
  | .If _ b _ _ => b
  | _ => []
def elsS : Stmt → List Stmt
  | .If _ _ b _ => b
  | _ => []
abbrev noS : Stmt := .Pass ⟨0, 0, 0, 0⟩
end Fy
namespace Fy
open PySem PySem.Spec PyProof.Rows L2
theorem plain_frz {od : Obj} {u : HO} : Plain (.frz od u) := ⟨fun _ z => (by cases z), fun _ z => (by cases z)⟩
theorem Go.unlock {TL : List (Addr × Str)} {TG : List Addr} {S : Ad} {H H' : Hp} {o : Addr} {od : Obj} {u : HO} (g : Go TL TG S (upd H o (.frz od u)) H') (ho : H o = some u) (pl : Plain u) (e : H' o = some (.frz od u)) : Go TL TG S H (upd H' o u) := by
  refine ⟨fun b x hb n s => ?_, fun t => (g.tb (t.set ho pl)).set e plain_frz, fun p hp => ?_⟩
  · by_cases z : b = o
    · rw [z, upd_same, ← ho, ← z]; exact hb
    · rw [upd_ne z]
      exact g.keep b x (by rw [upd_ne z]; exact hb) n s
  · obtain ⟨n, h⟩ := upd_none.mp hp
    have := g.free p h
    rw [upd_ne n] at this
    exact this
theorem mergeK_nodup : ∀ (kvs acc : List (Key × V)), ((acc ++ kvs).map (·.1)).Nodup → mergeK acc kvs = acc ++ kvs
  | [], acc, _ => by simp [mergeK]
  | p :: r, acc, nd => by
    have h1 : valV acc p.1 = none := by
      cases e : valV acc p.1 with
      | none => rfl
      | some v =>
        have a : (acc.any fun kv => decide (kv.1 = p.1)) = true := by rw [valV_any, e] <;> rfl
        obtain ⟨q, hq, e2⟩ := List.any_eq_true.mp a
        have e3 : q.1 = p.1 := of_decide_eq_true e2
        rw [List.map_append, List.nodup_append] at nd
        exact absurd e3 (nd.2.2 _ (List.mem_map.mpr ⟨q, hq, rfl⟩) _ (List.mem_map.mpr ⟨p, List.mem_cons_self, rfl⟩))
    have h2 : mergeK acc (p :: r) = mergeK (putK acc p.1 p.2) r := by simp [mergeK]
    rw [h2, putK_new _ h1, mergeK_nodup r (acc ++ [(p.1, p.2)]) (by simpa using nd)]
    simp
end Fy
namespace Fy
open PySem PySem.Spec PyProof.Rows L2
open GxR (TabG Tabbed)
open LamX (CodeO TabS Tabs TabB lamCx lamEnv LamS GivesTo TTold codeO_ne)
/-- the lambda of X that stands at f -/
def LamL (X : Cx) (params : Arguments) (body : Expr) (scope : Scope) (f c' : Addr) : HO := .ext fun h => f ∉ frs X.stack ∧ ∃ pm ctv, h.get? f = some (lamO X params body scope pm c' ctv)
theorem lamL_ok {X : Cx} {P : Program} {w : World} {params : Arguments} {body : Expr} {scope : Scope} {f c' : Addr} {pm ctv : Value} {H : Hp} {h : Heap} (n : f ∉ frs X.stack) (e : h.get? f = some (lamO X params body scope pm c' ctv)) : ObjOk P w H h f (LamL X params body scope f c') :=
  ⟨⟨n, pm, ctv, e⟩, ⟨_, e⟩, fun h1 h2 ⟨n, pm, ctv, e1⟩ st => ⟨n, pm, ctv, st _ e1⟩⟩
def tLamV (X : Cx) (TL : List (Addr × Str)) (TG : List Addr) (params : Arguments) (body : Expr) (scope : Scope) : TE := fun σ H Q => Tb TL TG H ∧ ∀ f c' H1 H2, Go TL TG (fun _ => False) H H1 → H1 f = none → H1 c' = some (CodeO c' (lamQ X)) → H2 = upd H1 f (LamL X params body scope f c') → Q (.ref f) H2
section
variable {X : Cx} {TL : List (Addr × Str)} {TG : List Addr}
theorem pe_lamV {c P : Addr} {params : Arguments} {body : Expr} {scope : Scope} {pos : Pos} (TB : TabB X.base X.mg c P) (hcode : X.env.code = .ref c)
    (hm : (P, lamQ X) ∈ TL) (hu : ∀ p ∈ TL, p.1 = P → p.2 = lamQ X) (hd : P ∉ TG) (L : LamS X.env.scope scope) (hdef : defaultsOf params X.env = ([], [])) : PE X (.Lambda params body scope pos) (tLamV X TL TG params body scope) := by
  refine ⟨fun pins s σ H Q I h => ?_⟩
  obtain ⟨tb, h⟩ := h
  obtain ⟨ps, hP, ht, ha⟩ := tb.lam _ hm
  have hP' : s.heap.get? P = some { cls := .none, data := .fields ps } := I.hok P _ hP
  have bP : s.heap.BuiltinsAt X.mg P := TB.bm.keeps I.bk
  have lab : ∀ {H1 : Hp} {h' : Heap} {pm ctv : Value} {c' f : Addr}, s.heap.objs.size ≤ f → h'.get? f = some (lamO X params body scope pm c' ctv) → ObjOk X.prog X.w H1 h' f (LamL X params body scope f c') := fun {H1 h' pm ctv c' f} hf e => lamL_ok (fun z => by
    rcases List.mem_cons.mp (I.stkSub _ z) with q | q
    · have h1 := I.lt
      rw [← q] at h1
      exact Nat.lt_irrefl _ (Nat.lt_of_lt_of_le h1 hf)
    · exact I.nofs hf q) e
  refine PySem.W.kla_eval hdef ?_
  cases hc : codeAmong pos ps.toList with
  | none =>
    refine PySem.W.kla_makeFunction (mg := X.mg) (c := c) (P := P) (ps := ps) (closure_ok (L.has I.ok)) I.ok.glob (I.mod.glob.keeps I.bk) hcode (TB.code.keeps I.bk) hP' ht hc TB.gP bP fun c' ctv h' tk hx hge hlt hrec htb => ?_
    obtain ⟨c2, oc, vs, t, e2, hoc, hdd, hv⟩ := hrec
    cases e2
    have hsz : s.heap.objs.size ≤ h'.objs.size := Nat.le_trans hge (Nat.le_of_lt hlt)
    have I1 := LamX.inv_table (t' := tk) (more := #[rawInt pos.line, rawInt pos.col, .ref c']) (h' := h') I hP (fun b o hb e => hx b o hb e) htb hge ⟨oc, vs, t, hoc, hdd, hv⟩
    have I2 := I1.laid (a := h'.objs.size) (o := LamL X params body scope h'.objs.size c') (t' := tk) (h' := h'.push (lamO X params body scope ((X.mg "__name__").getD .none) c' ctv)) (fun b o e => Heap.get?_push_of_some _ e) (Nat.le_refl _) (lab hsz (Heap.get?_push_size _ rfl))
    have n2 : h'.objs.size ≠ P := Nat.ne_of_gt (Nat.lt_of_lt_of_le (Heap.lt_size hP') hsz)
    refine ⟨.ref h'.objs.size, _, I2, rfl, h _ c' _ _ (go_table (pos := pos) hm hu hd hP ht ha (I.hok.fresh hge)) ?_ upd_same rfl⟩
    rw [upd_ne (Nat.ne_of_gt hlt), upd_ne n2]
    exact I.hok.fresh hsz
  | some cv =>
    obtain ⟨c', e, hco⟩ := ha pos cv hc
    subst e
    refine PySem.W.kla_makeFunctionHit (mg := X.mg) (c := c) (P := P) (ps := ps) (closure_ok (L.has I.ok)) I.ok.glob (I.mod.glob.keeps I.bk) hcode (TB.code.keeps I.bk) hP' ht hc bP fun ctv h' tk hx hsz => ?_
    have I2 := I.laid (a := h'.objs.size) (o := LamL X params body scope h'.objs.size c') (t' := tk) (h' := h'.push (lamO X params body scope ((X.mg "__name__").getD .none) c' ctv)) (fun b o e => Heap.get?_push_of_some _ (hx b o e)) hsz (lab hsz (Heap.get?_push_size _ rfl))
    exact ⟨.ref h'.objs.size, _, I2, rfl, h _ c' _ _ .refl (I.hok.fresh hsz) hco rfl⟩
end
end Fy
namespace Fy
open PySem PySem.Spec PyProof.Rows L2
section
variable {X : Cx} {pins : List (Addr × Obj)} {σ : L2.St} {H : Hp} {s : Shared}
/-- out of the block, back in the maker's frame -/
theorem blk_back {sc : Scope} {ce : Env} {fp : List Addr} {pins' : List (Addr × Obj)} {σ' : L2.St} {H' : Hp} {s' : Shared} (I : Inv X pins σ H s) (f : ∀ b ∈ fp, FpOk X pins H b) (J : Inv (X.blk s H sc ce fp) pins' σ' H' s') : Inv X pins σ H' s' := by
  refine I.call' J.os J.base J.hok J.bare (ch := fp) fun b hb => ?_
  obtain ⟨_, h1, _, h3, h4, h5⟩ := f b hb
  exact ⟨h3, h1, h4, h5⟩
theorem fp_blk {sc : Scope} {ce : Env} {fp : List Addr} {σ' : L2.St} {H' : Hp} {s' : Shared} (J : Inv (X.blk s H sc ce fp) [] σ' H' s') (n : ∀ b ∈ fp, H' b = none) : ∀ b ∈ fp, FpOk (X.blk s H sc ce fp) [] H' b := by
  intro b hb
  obtain ⟨h1, h2⟩ := J.ok.exf b hb
  refine ⟨n b hb, h1, J.ok.exfs b hb, Or.inl hb, fun x c e => h2 x c e, fun p hp => ?_⟩
  simp at hp
/-- the loop: no item is taken -/
theorem no_loop {elt iter : Expr} {ifs : List Expr} {y : Str} {py pos : Pos} {sc : Scope} {ce : Env} {it a : Addr} {i : Nat} {tt : TT} {ys : List V} {R : Hp → Prop} {acc : Value} {POST : Result → Shared → Prop} {s4 : Shared}
    (hc : X.calm = true) (pg : PG (X.blk s H sc ce [it]) (.Name y py) (gName i)) (pt : PTs (X.blk s H sc ce [it]) ifs tt) (hR : ∀ H', R H' → SqL X.K H' a ys)
    (step : ∀ x ∈ ys, ∀ H', R H' → gName i x (wipe σ [i]) H' fun σ2 H2 => wipe σ2 [i] = wipe σ [i] ∧ tt σ2 H2 fun b H3 => b = false ∧ R H3)
    (J0 : Inv (X.blk s H sc ce [it]) [] (wipe σ [i]) H s4) (st : s4.heap.IsListIter it a 0) (n0 : H it = none) (r0 : R H)
    (fin : ∀ s' H', Inv (X.blk s H sc ce [it]) [] (wipe σ [i]) H' s' → R H' → POST (.ok .next) s') :
    codeAny (model X.prog X.w) X.A (.compLoop (.ListComp elt [⟨.Name y py, iter, ifs, 0⟩] sc pos) 0 (.ref it) acc ce) POST s4 := by
  have T := turn_list (P := X.prog) (w := X.w) (K := X.K) (tg := .Name y py) a it
  have one : ∀ {G : Hp}, G it = none → ∀ b ∈ [it], G b = none := fun h b hb => by
    rw [List.mem_singleton.mp hb]
    exact h
  refine compLoop_any (fun n s' => ∃ k H', Inv (X.blk s H sc ce [it]) [] (wipe σ [i]) H' s' ∧ s'.heap.IsListIter it a k ∧ H' it = none ∧ R H' ∧ k + n = ys.length) ?_ ys.length ⟨0, H, J0, st, n0, r0, Nat.zero_add _⟩
  rintro n s5 ⟨k, G, J, st5, ng, rg, hk⟩
  have ok5 := fp_blk J (one ng)
  have hq := hR G rg
  cases n with
  | zero =>
    refine thnF (T.done (X.blk s H sc ce [it]) rfl rfl rfl hc k [] s5 _ G (fun _ _ => False) J ok5 st5 ⟨ys, hq, by omega⟩) fun r s6 h6 => ?_
    rw [h6.1]
    exact fin s6 G h6.2 rg
  | succ n =>
    have lt : k < ys.length := by omega
    refine thnF (T.item (X.blk s H sc ce [it]) rfl rfl rfl hc k [] s5 _ G (fun _ _ => False) J ok5 st5 ⟨ys, ys[k], hq, by simp [lt]⟩) fun r s6 h6 => ?_
    obtain ⟨u, hr, h6⟩ := h6
    rw [hr]
    refine thnF h6 fun _ s7 h7 => ?_
    obtain ⟨x, G7, J7, rx, ⟨eG, hx⟩, st7, n7⟩ := h7
    rw [eG] at J7 n7
    have hm : x ∈ ys := List.mem_of_getElem? (hx ys hq)
    have P7 := J7.pinned (fp_blk J7 n7) (T.obj _ _ st7)
    refine thnF (pg.run _ s7 _ G x u _ P7 rx (step x hm G rg)) fun _ s8 h8 => ?_
    obtain ⟨σ8, G8, J8, w8, q8⟩ := h8
    refine thnF (pt.run _ s8 σ8 G8 _ J8 q8) fun b s9 h9 => ?_
    obtain ⟨G9, J9, eb, r9⟩ := h9
    rw [eb]
    simp only [Bool.false_eq_true, if_false]
    obtain ⟨oi, ei, _⟩ := T.obj _ _ st7 it (by simp)
    have pin := J9.pin (it, oi) (List.mem_append_right _ (List.mem_append_right _ (mem_pinsAt (by simp) ei)))
    refine ⟨n, Nat.lt_succ_self n, k + 1, G9, (J9.unpinned (pins := [])).weak ?_ (fun j v e => ?_), T.keep _ _ _ st7 (fun b hb o e => ?_), pin.2.1, r9, by omega⟩
    · rw [← wipe_length (σ := σ8) (vs := [i]), w8]
    · rw [← w8] at e
      exact (wipe_some e).1
    · rw [List.mem_singleton.mp hb] at e ⊢
      rw [ei] at e
      cases e
      exact pin.1
/-- into the block, through it, and out -/
theorem no_enter {elt iter : Expr} {ifs : List Expr} {y : Str} {py pos : Pos} {sc : Scope} {it a D : Addr} {i : Nat} {tt : L2.St → TT} {ys : List V} {R : Hp → Prop} {Q : VK}
    (I : Inv X pins σ H s) (hc : X.calm = true) (hN : X.N.Nodup) (ok : BlkOk X.N X.env.scope sc [(y, i)]) (st : s.heap.IsListIter it a 0) (f : FpOk X pins H it) (lt : it < s.heap.objs.size)
    (hg : ∀ (s : Shared) (H : Hp) (C : Addr) (cl : List (Str × Addr)) (fp : List Addr), PG (X.blk s H sc (compEnvC sc cl C X.env) fp) (.Name y py) (gName i))
    (ht : ∀ (pins : List (Addr × Obj)) (σ : L2.St) (s : Shared) (H : Hp) (C : Addr) (cl : List (Str × Addr)) (fp : List Addr), Inv X pins σ H s → (∀ b ∈ fp, FpOk X pins H b) → PTs (X.blk s H sc (compEnvC sc cl C X.env) fp) ifs (tt σ))
    (hR : ∀ H', R H' → SqL X.K H' a ys) (step : ∀ x ∈ ys, ∀ H', R H' → gName i x (wipe σ [i]) H' fun σ2 H2 => wipe σ2 [i] = wipe σ [i] ∧ tt σ σ2 H2 fun b H3 => b = false ∧ R H3) (r0 : R H) (hQ : ∀ H', R H' → Q (.ref D) H') :
    codeAny (model X.prog X.w) X.A (.compStart (.ListComp elt [⟨.Name y py, iter, ifs, 0⟩] sc pos) 0 (.ref it) (.ref D) (compEnvC sc (cellsFrom (s.heap.objs.size + 1) sc.names (cloFrom X.env.cells sc.names [])) s.heap.objs.size X.env))
      (compPost (model X.prog X.w) X.A X.xe none (EP X pins σ Q) (.ref D) s.heap.objs.size) { s with heap := pushCells (s.heap.push { cls := .type "dict", data := .dict #[] }) sc.names } := by
  have ff : ∀ b ∈ [it], FpOk X pins H b ∧ b < s.heap.objs.size := fun b hb => by
    rw [List.mem_singleton.mp hb]
    exact ⟨f, lt⟩
  have J := block_start I ok hN ff
  have st4 : (pushCells (s.heap.push { cls := .type "dict", data := .dict #[] }) sc.names).IsListIter it a 0 := by
    obtain ⟨o, e, r⟩ := st
    exact ⟨o, pushCells_keeps _ _ _ _ (Heap.get?_push_of_some _ e), r⟩
  have T := turn_list (P := X.prog) (w := X.w) (K := X.K) (tg := .Name y py) a it
  refine codeAny_compStart_list ?_ (T.self X.A 0 _ _ _ st4 ?_)
  all_goals refine no_loop (tt := tt σ) (ys := ys) (R := R) hc (hg ..) (ht pins σ s H _ _ _ I fun b hb => (ff b hb).1) hR step J st4 f.1 r0 fun s' H' K' r' => ?_
  all_goals
    obtain ⟨m, hn, _⟩ := K'.loc
    have I' := blk_back I (fun b hb => (ff b hb).1) K'
    obtain ⟨g0, g1, g2, g3, g4, g5⟩ := I.fpOk (H' := H') (Nat.le_refl s.heap.objs.size) K'.free
    exact ⟨m, hn, fun h' sb => ⟨.ref D, H', I'.turned (t' := s'.toks) (fun b o hb e => (sb.2 b hb).trans e) g0 g1 g3 g4 g5, rfl, hQ H' r'⟩⟩
/-- what the reading asks -/
def tNo (K : PySem.W.Frag) (te : TE) (i : Nat) (tt : L2.St → TT) : TE := fun σ H Q => te σ H fun v H1 => ∃ (a : Addr) (ys : List V), v = .ref a ∧ SqL K H1 a ys ∧ ∀ D, H1 D = none → ∃ R : Hp → Prop, R (upd H1 D (.lst [])) ∧ (∀ H', R H' → SqL K H' a ys) ∧
  (∀ x ∈ ys, ∀ H', R H' → gName i x (wipe σ [i]) H' fun σ2 H2 => wipe σ2 [i] = wipe σ [i] ∧ tt σ σ2 H2 fun b H3 => b = false ∧ R H3) ∧ ∀ H', R H' → Q (.ref D) H'
theorem pe_lcNo {elt iter : Expr} {ifs : List Expr} {y : Str} {py pos : Pos} {sc : Scope} {i : Nat} {te : TE} {tt : L2.St → TT} (hc : X.calm = true) (hN : X.N.Nodup) (hi : PE X iter te) (ok : BlkOk X.N X.env.scope sc [(y, i)])
    (hg : ∀ (s : Shared) (H : Hp) (C : Addr) (cl : List (Str × Addr)) (fp : List Addr), PG (X.blk s H sc (compEnvC sc cl C X.env) fp) (.Name y py) (gName i))
    (ht : ∀ (pins : List (Addr × Obj)) (σ : L2.St) (s : Shared) (H : Hp) (C : Addr) (cl : List (Str × Addr)) (fp : List Addr), Inv X pins σ H s → (∀ b ∈ fp, FpOk X pins H b) → PTs (X.blk s H sc (compEnvC sc cl C X.env) fp) ifs (tt σ))
    (hs : ∀ x, foldedSetIterable iter X.env x = pure x := by intro _; rfl) : PE X (.ListComp elt [⟨.Name y py, iter, ifs, 0⟩] sc pos) (tNo X.K te i tt) := by
  refine ⟨fun pins s σ H Q I h => ?_⟩
  have fr : ∀ z ∈ sc.names, z.2 = .free → ∃ c, X.env.cells.lookup z.1 = some c := fun z hz e => I.ok.has _ (ok.free z hz e)
  rw [eval_ListComp]
  refine wpAny_comprehension_free rfl hs (closure_ok fr) ok.kind (fun z hz e => by rw [ok.uniq z hz, e]) ?_
  refine thn (hi.run pins s σ H _ I h) fun u s1 h1 => ?_
  obtain ⟨v, H1, I1, ru, a, ys, ev, hq, q⟩ := h1
  subst ev
  cases ru
  obtain ⟨its, rv, pl, hz⟩ := I1.list hq
  refine wpAny_pyIter_list pl.isList ?_
  have I2 : Inv X pins σ H1 { s1 with heap := s1.heap.push { cls := .type "list_iterator", data := .fields #[.ref a, .int 0 0] } } := I1.kept (t' := s1.toks) fun b o e => Heap.get?_push_of_some _ e
  have st2 : (s1.heap.push { cls := .type "list_iterator", data := .fields #[.ref a, .int 0 0] }).IsListIter s1.heap.objs.size a 0 := ⟨_, Heap.get?_push_size _ rfl, rfl, rfl⟩
  have f2 : FpOk X pins H1 s1.heap.objs.size := I1.fpOk (Nat.le_refl _) (I1.hok.fresh (Nat.le_refl _))
  have lt2 : s1.heap.objs.size < (s1.heap.push { cls := .type "list_iterator", data := .fields #[.ref a, .int 0 0] }).objs.size := by rw [Heap.size_push]; exact Nat.lt_succ_self _
  generalize s1.heap.objs.size = it at st2 f2 lt2 ⊢
  generalize e2 : ({ s1 with heap := s1.heap.push { cls := .type "list_iterator", data := .fields #[.ref a, .int 0 0] } } : Shared) = s2 at I2 ⊢
  have eh : s1.heap.push { cls := .type "list_iterator", data := .fields #[.ref a, .int 0 0] } = s2.heap := by rw [← e2]
  rw [eh] at st2 lt2
  clear e2 eh
  obtain ⟨R, r0, hR, step, hQ⟩ := q s2.heap.objs.size (I2.hok.fresh (Nat.le_refl _))
  have I3 : Inv X pins σ (upd H1 s2.heap.objs.size (.lst [])) { s2 with heap := s2.heap.push { cls := .type "list", data := .seq ([] : List Value).toArray } } :=
    I2.laid (t' := s2.toks) (fun b o e => Heap.get?_push_of_some _ e) (Nat.le_refl _) ⟨Nat.zero_le _, [], 0, .nil, Heap.get?_push_size _ rfl⟩
  refine wpAny_newObj_type (newEnv_comp (no_enter I3 hc hN ok ?_ ⟨?_, f2.2⟩ ?_ hg ht hR step r0 hQ)) (Nat.zero_le _)
  · obtain ⟨o, e, r⟩ := st2
    exact ⟨o, Heap.get?_push_of_some _ e, r⟩
  · rw [upd_ne (Nat.ne_of_lt lt2)]
    exact f2.1
  · rw [Heap.size_push]
    exact Nat.lt_succ_of_lt lt2
end
end Fy
namespace Fy
open PySem PySem.Spec PyProof.Rows L2
open LamX (CodeO TabS Tabs TabB lamCx lamEnv LamS GivesTo TTold codeO_ne)
/-- what stands at f is forgotten -/
def drp (H : Hp) (f : Addr) : Hp := fun b => if b = f then none else H b
section
variable {H : Hp} {f b : Addr} {o : HO} {φ : Heap → Prop}
theorem drp_same : drp H f f = none := if_pos rfl
theorem drp_ne (h : b ≠ f) : drp H f b = H b := if_neg h
theorem drp_none (h : H b = none) : drp H f b = none := by
  unfold drp
  split <;> trivial
theorem drp_get (hf : H f = some (.ext φ)) (h : H b = some o) (n : ∀ ψ, o ≠ .ext ψ) : drp H f b = some o := by
  have e : b ≠ f := fun z => by
    rw [z, hf] at h
    exact n φ (Option.some.inj h).symm
  rw [drp_ne e]
  exact h
theorem drp_tb {TL : List (Addr × Str)} {TG : List Addr} (hf : H f = some (.ext φ)) (hc : ∀ c q, H c = some (CodeO c q) → c ≠ f) (t : Tb TL TG H) : Tb TL TG (drp H f) := by
  refine ⟨fun p hp => ?_, fun P hP => ?_⟩
  · obtain ⟨ps, h1, h2, h3⟩ := t.lam p hp
    refine ⟨ps, drp_get hf h1 (fun _ z => by cases z), h2, fun pos cv e => ?_⟩
    obtain ⟨c, e1, e2⟩ := h3 pos cv e
    exact ⟨c, e1, by rw [drp_ne (hc c _ e2)]; exact e2⟩
  · obtain ⟨ps, h1, h2⟩ := t.gen P hP
    exact ⟨ps, drp_get hf h1 (fun _ z => by cases z), h2⟩
/-- the label is put back -/
theorem Go.back {TL : List (Addr × Str)} {TG : List Addr} {S : Ad} {H' : Hp} (hf : H f = some (.ext φ)) (hc : ∀ c q, H c = some (CodeO c q) → c ≠ f) (g : Go TL TG S (drp H f) H') (n : H' f = none) : Go TL TG S H (upd H' f (.ext φ)) := by
  refine ⟨fun b o e h1 h2 => ?_, fun t => ?_, fun p hp => ?_⟩
  · by_cases z : b = f
    · rw [z, hf] at e
      rw [z, upd_same, e]
    · rw [upd_ne z]
      exact g.keep b o (by rw [drp_ne z]; exact e) h1 h2
  · exact (Go.new (TL := TL) (TG := TG) (S := S) n).tb (g.tb (drp_tb hf hc t))
  · obtain ⟨n1, h1⟩ := upd_none.mp hp
    have := g.free p h1
    rw [drp_ne n1] at this
    exact this
end
section
variable {X : Cx} {pins : List (Addr × Obj)} {σ : L2.St} {H H' : Hp} {s s' : Shared} {f : Addr} {φ : Heap → Prop}
theorem inv_drp (I : Inv X pins σ H s) (hf : H f = some (.ext φ)) : Inv X pins σ (drp H f) s where
  ok := I.ok
  os := I.os
  bare := I.bare
  base := ⟨I.base.keep, I.base.slot, fun b o h1 h2 h3 => drp_none (I.base.free b o h1 h2 h3), I.base.there, fun b xs h => drp_get hf (I.base.tups b xs h) (fun _ z => by cases z), fun b o u h => drp_get hf (I.base.frzs b o u h) (fun _ z => by cases z),
    fun b ps h => (I.base.tbls b ps h).imp fun _ e => drp_get hf e fun _ z => by cases z⟩
  loc := I.loc
  cell := I.cell
  free := drp_none I.free
  freeC := fun x c e => drp_none (I.freeC x c e)
  pin := fun p hp => let q := I.pin p hp; ⟨q.1, drp_none q.2.1, q.2.2⟩
  hok := fun b o e => by
    have ne : b ≠ f := fun z => by
      rw [z, drp_same] at e
      cases e
    rw [drp_ne ne] at e
    exact (I.hok b o e).stay (fun _ _ _ z => z) (fun c z => drp_get hf z fun _ y => by cases y) fun c xs z => drp_get hf z fun _ y => by cases y
  len := I.len
theorem inv_back (I : Inv X pins σ H s) (hf : H f = some (.ext φ)) (J : Inv X pins σ H' s') (n : H' f = none) (l : ∀ H2, ObjOk X.prog X.w H2 s'.heap f (.ext φ)) : Inv X pins σ (upd H' f (.ext φ)) s' := by
  have k : ∀ {b o}, H' b = some o → upd H' f (.ext φ) b = some o := fun {b o} e => by
    rw [upd_ne (ne_of_none e n)]
    exact e
  have kn : ∀ {b}, H' b = none → H b = none → upd H' f (.ext φ) b = none := fun {b} e e2 => by
    rw [upd_ne fun z => by rw [z, hf] at e2; cases e2]
    exact e
  refine ⟨J.ok, J.os, J.bare, ⟨J.base.keep, J.base.slot, fun b o h1 h2 h3 => kn (J.base.free b o h1 h2 h3) (I.base.free b o h1 h2 h3), J.base.there, fun b xs h => k (J.base.tups b xs h), fun b o u h => k (J.base.frzs b o u h), fun b ps h => (J.base.tbls b ps h).imp fun _ e => k e⟩,
    J.loc, J.cell, kn J.free I.free, fun x c e => kn (J.freeC x c e) (I.freeC x c e), fun p hp => let q := J.pin p hp; ⟨q.1, kn q.2.1 (I.pin p hp).2.1, q.2.2⟩, fun b o e => ?_, J.len⟩
  by_cases z : b = f
  · rw [z, upd_same] at e
    rw [z, ← Option.some.inj e]
    exact l _
  · rw [upd_ne z] at e
    exact (J.hok b o e).stay (fun _ _ _ q => q) (fun c q => k q) fun c xs q => k q
end
/-- a lambda of X, with what is known of its body -/
structure LamK (X : Cx) (k : Nat) where
  params : Arguments
  body : Expr
  scope : Scope
  t : XK → TE
  L : LamS X.env.scope scope
  hbind : ∀ (q : Str) (cl : List (Str × Addr)) (pm cv ctv : Value), bindArgs (PySem.W.kla_fn "<lambda>" q params body scope cl pm cv ctv) ⟨[], []⟩ = pure []
  hbody : ∀ (A : Around) (outer : List Env) (s : Shared) (H : Hp) (E : XK) (f c' : Addr), Room k (A.deeper (lamEnv X scope s.heap.objs.size f c')) → PE (lamCx X A outer s H E scope f c') body (t E)
/-- what the reading asks of told(f): f one of the lambdas -/
def tTold (X : Cx) (k i : Nat) (CS : Addr) (ret : Str) (σ : L2.St) : TE := fun σY H Q => ∃ (f c' : Addr) (M : LamK X k), σY[i]? = some (some (.ref f)) ∧ H f = some (LamL X M.params M.body M.scope f c') ∧ H c' = some (CodeO c' (lamQ X)) ∧
  ((∀ c q, H c = some (CodeO c q) → c ≠ f) → TTold X.K CS ret (fun E H' Q' => M.t E σ H' Q') (drp H f) fun v H' => H' f = none → Q v (upd H' f (LamL X M.params M.body M.scope f c')))
section
variable {X : Cx}
theorem pe_toldV {x a e ret fn : Str} {CS : Addr} {k j i : Nat} {dt : He.DefD} {pf p pos p1 p2 p3 p4 p5 p6 p7 p8 : Pos} {Ng : List Str} {pins : List (Addr × Obj)} {σ : L2.St} {s3 : Shared} {H3 : Hp} {scope : Scope} {ce : Env} {fp : List Addr}
    (I3 : Inv X pins σ H3 s3) (f3 : ∀ b ∈ fp, FpOk X pins H3 b)
    (F : ∃ fd, FunD X.K dt.name dt.qual dt.params dt.body dt.scope (dt.dvs X.K) (dt.kws X.K) (He.fAd X.K dt.at_) fd) (hx1 : dt.name = x) (hx2 : dt.qual = x) (hd : dt.dfl = []) (hkw : dt.kwd = [])
    (hbd : dt.body = [.Try [.Return (some (.Call (.Name a p1) [] [] p2)) p3] [.ExceptHandler (some (.Name e p4)) none [.Return (some (.Constant (.str ret) j p5)) p6] p7] [] [] p8])
    (hbi : ∀ (kV doc pm : Value) (an : Option Addr) (cdv ct : Value) (us : List Value), us.length = [a].length → bindArgs (PySem.W.fnOf dt.name dt.qual dt.params dt.body dt.scope .none kV doc pm an cdv ct) ⟨us, []⟩ = pure ([a].zip us))
    (hg : Gl (X.blk s3 H3 scope ce fp) x) (hm : X.mg x = some (.ref (He.fAd X.K dt.at_))) (Sg : FnScope Ng [a] dt.scope) (hNg : Ng[0]? = some a) (hva : Vis dt.scope a) (hge : dt.scope.names.lookup e = some .globalImplicit) (hme : X.mg e = some (.ref CS)) (h0 : ∀ f : Addr, (L2.start Ng [V.ref f])[0]? = some (some (V.ref f)))
    (hr : Room (k + 2) X.A) (hi : X.N[i]? = some fn) (hvf : Vis ce.scope fn)
    (hdb : (x == ("__debug__" : Str)) = false := by decide) (hda : (a == ("__debug__" : Str)) = false := by decide) (hcd : (a == ("__classdict__" : Str)) = false := by decide) (hde : (e == ("__debug__" : Str)) = false := by decide) (hdf : (fn == ("__debug__" : Str)) = false := by decide) (hcf : (fn == ("__classdict__" : Str)) = false := by decide) :
    PE (X.blk s3 H3 scope ce fp) (.Call (.Name x p) [.Name fn pf] [] pos) (tTold X k i CS ret σ) := by
  obtain ⟨fd, F⟩ := F
  have hb : Binds X.K fd [a] [] := by
    have F' := F
    unfold He.DefD.dvs He.DefD.kws at F'
    rw [hd, hkw] at F'
    exact F'.bindsN hbi
  obtain ⟨oc, od, dV, kV, doc, pm, an, cdv, ct, osl, rfl, lk, hcdv, _, _⟩ := F.ex
  have hk := F.kp
  subst hx1
  rw [hx2] at lk hcdv hb
  refine ⟨fun pinsY s σY H Q I h => ?_⟩
  obtain ⟨f, c', M, hσ, hl, hco, h⟩ := h
  refine wpAny_Call_Name_kw (ld_glob I hg hm ?_ hdb)
  refine PySem.W.callWith_K (h₀ := X.base) I.ok.mod.kin hk ?_ (by rfl) (by rfl)
  show wpAny _ _ (spliced ((false, eval (.Name fn pf) (X.blk s3 H3 scope ce fp).env) :: backTo pos (starEach [] (X.blk s3 H3 scope ce fp).env))) _ _ s
  refine Calls.spliced_cons (thn ((pe_var (X := X.blk s3 H3 scope ce fp) (pos := pf) (i := i) hi hvf hdf hcf).run pinsY s σY H (fun v H1 => v = .ref f ∧ H1 = H) I ⟨.ref f, hσ, rfl, rfl⟩) fun u s1 ⟨v, H1, I1, r1, ev, eH⟩ => ?_)
  subst ev
  subst eH
  obtain rfl : u = Value.ref f := r1
  refine Calls.spliced_nil ⟨I1.kIn, ?_⟩
  -- what the label says; it is forgotten
  obtain ⟨⟨nfr, pm', ctv, hf⟩, _, _⟩ := I1.hok f _ hl
  have nc : ∀ c q, H1 c = some (CodeO c q) → c ≠ f := fun c q e z => by
    subst z
    obtain ⟨⟨ob, vs, t, e1, e2, _⟩, _, _⟩ := I1.hok c _ e
    rw [hf] at e1
    rw [← Option.some.inj e1] at e2
    cases e2
  have lab : ∀ {h' : Heap} (H2 : Hp), h'.get? f = some (lamO X M.params M.body M.scope pm' c' ctv) → ObjOk X.prog X.w H2 h' f (LamL X M.params M.body M.scope f c') := fun {h'} H2 e => lamL_ok nfr e
  have IX := inv_drp (blk_back I3 f3 I1) hl
  have IY := inv_drp I1 hl
  have nf : drp H1 f f = none := drp_same
  have hco' : drp H1 f c' = some (CodeO c' (lamQ X)) := by rw [drp_ne (nc c' _ hco)]; exact hco
  have h := h nc
  have hG : GivesTo X Ng dt.name dt.scope (He.fAd X.K dt.at_) cdv dt.body a (lamQ X) (TTold X.K CS ret) := by
    rw [hbd]
    exact LamX.told_gives hge hme hde h0
  have rc : codeAny (model X.prog X.w) X.A (.call (.ref (He.fAd X.K dt.at_)) ⟨[.ref f], []⟩) (CR C8.CX0 X.stack X.prog X.w (drp H1 f) s1 (fun v H' => H' f = none → Q v (upd H' f (LamL X M.params M.body M.scope f c'))) C8.E0) s1 := by
    refine LamX.run_ofS (N := Ng) (ps := [a]) (us := [.ref f]) (vs := [.ref f]) lk hcdv Sg hr IX.env0 (hb s1 [.ref f] IX.kIn rfl) (.cons rfl .nil) rfl fun hr' => ?_
    obtain ⟨t', ht', hq'⟩ := hG f c' s1 (drp H1 f) _ (fun E H' Q' => M.t E σ H' Q') (fun W pn xe E p1 p2 tk hW => LamX.pe_act (i := 0) IX M.L hf nf nfr (M.hbind _ _ _ _ _) tk hW hr' (fun A outer s H hr2 => M.hbody A outer s H E f c' hr2) hNg hva hda hcd) hco' h
    exact ⟨t', ht'.nox, hq'⟩
  refine wpAny_call (codeAny_mono rc fun r s2 hq => ?_)
  cases r with
  | error e => exact (show False from hq).elim
  | ok fl =>
    cases fl with
    | next => exact False.elim hq
    | brk => exact False.elim hq
    | cont => exact False.elim hq
    | ret u =>
      have un : ∃ H2, H2 f = none ∧ s2.heap.get? f = some (lamO X M.params M.body M.scope pm' c' ctv) ∧ CE X.stack X.prog X.w (drp H1 f) s1 (fun v H' => H' = H2 ∧ Q v (upd H2 f (LamL X M.params M.body M.scope f c'))) u s2 := by
        obtain ⟨v, H2, q1, q2, q3, q4, q5, q6⟩ := hq
        have n2 := q3.free f _ hf nf (by simp)
        exact ⟨H2, n2, q3.keep f _ hf nf nfr (by simp), v, H2, q1, q2, q3, q4, q5, rfl, q6 n2⟩
      obtain ⟨H2, n2, e2, ce⟩ := un
      obtain ⟨v, H2', J, rv, eH, q⟩ := IY.after ce
      subst eH
      exact ⟨v, _, inv_back I1 hl J n2 fun H2 => lab H2 e2, rv, q⟩
end
end Fy
namespace Fy
open PySem PySem.Spec PyProof.Rows L2
open LamX (CodeO TabS Tabs TabB lamCx lamEnv LamS GivesTo TTold codeO_ne)
/-- the lambda M of X stands at f -/
def LamM (X : Cx) {k : Nat} (M : LamK X k) (f c' : Addr) : HO := LamL X M.params M.body M.scope f c'
def tLamM (X : Cx) (TL : List (Addr × Str)) (TG : List Addr) {k : Nat} (M : LamK X k) : TE := fun σ H Q => Tb TL TG H ∧ ∀ f c' H1 H2, Go TL TG (fun _ => False) H H1 → H1 f = none → H1 c' = some (CodeO c' (lamQ X)) → H2 = upd H1 f (LamM X M f c') → Q (.ref f) H2
/-- what a written list of lambdas holds -/
def lamB : Stmt → Nat → Expr
  | .Assign _ (.List es _) _, j => match es.getD j (.Constant .none 0 ⟨0, 0, 0, 0⟩) with
    | .Lambda _ b _ _ => b
    | e => e
  | _, _ => .Constant .none 0 ⟨0, 0, 0, 0⟩
def lamSc (sc : Scope) : Stmt → Nat → Scope
  | .Assign _ (.List es _) _, j => match es.getD j (.Constant .none 0 ⟨0, 0, 0, 0⟩) with
    | .Lambda _ _ s _ => s
    | e => sc
  | _, _ => sc
def lamP (p : Arguments) : Stmt → Nat → Arguments
  | .Assign _ (.List es _) _, j => match es.getD j (.Constant .none 0 ⟨0, 0, 0, 0⟩) with
    | .Lambda q _ _ _ => q
    | e => p
  | _, _ => p
def lamL : Stmt → Nat → Expr
  | .Assign _ (.List es _) _, j => es.getD j (.Constant .none 0 ⟨0, 0, 0, 0⟩)
  | _, _ => .Constant .none 0 ⟨0, 0, 0, 0⟩
section
variable {X : Cx} {TL : List (Addr × Str)} {TG : List Addr}
theorem pe_lamM {c P : Addr} {k : Nat} {params : Arguments} {body : Expr} {scope : Scope} {pos : Pos} {t : XK → TE} (TB : TabB X.base X.mg c P) (hcode : X.env.code = .ref c)
    (hm : (P, lamQ X) ∈ TL) (hu : ∀ p ∈ TL, p.1 = P → p.2 = lamQ X) (hd : P ∉ TG) (L : LamS X.env.scope scope) (hdef : defaultsOf params X.env = ([], []))
    (hbind : ∀ (q : Str) (cl : List (Str × Addr)) (pm cv ctv : Value), bindArgs (PySem.W.kla_fn "<lambda>" q params body scope cl pm cv ctv) ⟨[], []⟩ = pure [])
    (hbody : ∀ (A : Around) (outer : List Env) (s : Shared) (H : Hp) (E : XK) (f c' : Addr), Room k (A.deeper (lamEnv X scope s.heap.objs.size f c')) → PE (lamCx X A outer s H E scope f c') body (t E)) :
    PE X (.Lambda params body scope pos) (tLamM X TL TG (k := k) ⟨params, body, scope, t, L, hbind, hbody⟩) := pe_lamV TB hcode hm hu hd L hdef
/-- where G holds, the lambda raises what is caught, and changes nothing of old -/
def isBad (X : Cx) (CS : Addr) (ret : Str) (G : L2.St → Hp → Prop) (TL : List (Addr × Str)) (TG : List Addr) (t : XK → TE) : Prop := ∀ σ H Q, G σ H → (∀ H', Go TL TG (fun _ => False) H H' → Q (.str ret) H') →
  t (fun cls _ H' => ∃ b, PySem.W.exmOne X.K cls (.ref CS) = some b ∧ (b = true → Q (.str ret) H') ∧ (b = false → False)) σ H Q
def BadF (X : Cx) (k : Nat) (CS : Addr) (ret : Str) (G : L2.St → Hp → Prop) (TL : List (Addr × Str)) (TG : List Addr) (f : Addr) (H : Hp) : Prop :=
  ∃ (c' : Addr) (M : LamK X k), H f = some (LamM X M f c') ∧ H c' = some (CodeO c' (lamQ X)) ∧ isBad X CS ret G TL TG M.t
variable {k : Nat} {CS : Addr} {ret : Str} {G : L2.St → Hp → Prop} {H H1 H2 : Hp} {f c' : Addr} {fs : List Addr}
theorem BadF.go (B : BadF X k CS ret G TL TG f H) (g : Go TL TG (fun _ => False) H H1) : BadF X k CS ret G TL TG f H1 := by
  obtain ⟨c', M, h1, h2, h3⟩ := B
  exact ⟨c', M, g.keep _ _ h1 (by intro _ z; unfold LamM LamL at z; cases z) id, g.keep _ _ h2 (fun ps => codeO_ne ps) id, h3⟩
theorem bad_nil : ∀ x : Addr, x ∈ ([] : List Addr) → BadF X k CS ret G TL TG x H := fun _ z => (by cases z)
/-- one lambda more -/
theorem bad_step (M : LamK X k) (B : ∀ x ∈ fs, BadF X k CS ret G TL TG x H) (hM : isBad X CS ret G TL TG M.t) (tb : Tb TL TG H) (g : Go TL TG (fun _ => False) H H1) (fn : H1 f = none) (hc : H1 c' = some (CodeO c' (lamQ X))) (e : H2 = upd H1 f (LamM X M f c')) :
    (∀ x : Addr, x ∈ fs ++ [f] → BadF X k CS ret G TL TG x H2) ∧ Go TL TG (fun _ => False) H H2 ∧ Tb TL TG H2 := by
  subst e
  have g2 := g.trans (Go.new (o := LamM X M f c') fn)
  refine ⟨fun x hx => ?_, g2, g2.tb tb⟩
  rcases List.mem_append.mp hx with z | z
  · exact (B x z).go g2
  · rw [List.mem_singleton.mp z]
    exact ⟨c', M, upd_same, by rw [upd_ne (ne_of_none hc fn)]; exact hc, hM⟩
theorem tTold_bad {i : Nat} {σ σY : L2.St} {Q : VK} (gd : ∀ {σ : L2.St} {H : Hp} {f : Addr} {φ : Heap → Prop}, H f = some (.ext φ) → (∀ c q, H c = some (CodeO c q) → c ≠ f) → G σ H → G σ (drp H f)) (hσ : σY[i]? = some (some (.ref f))) (B : BadF X k CS ret G TL TG f H) (g : G σ H)
    (h : ∀ H', Go TL TG (fun _ => False) H H' → Q (.str ret) H') : tTold X k i CS ret σ σY H Q := by
  obtain ⟨c', M, h1, h2, h3⟩ := B
  exact ⟨f, c', M, hσ, h1, h2, fun nc => h3 σ (drp H f) (fun v H' => H' f = none → Q v (upd H' f (LamL X M.params M.body M.scope f c'))) (gd h1 nc g) fun H' g' n => h _ (g'.back h1 nc n)⟩
end
end Fy
namespace Fy
open PySem PySem.Spec PyProof.Rows L2
open GxR (TabG Tabbed)
section
variable {P : Program} {w : World} {K : PySem.W.Frag} {mg : Str → Option Value} {base : Heap} {k : Nat} {ps N : List Str} {sp : Sp}
theorem fnOk_of {d : He.DefD} {fd : FuncData} (D : FunD K d.name d.qual d.params d.body d.scope (d.dvs K) (d.kws K) (He.fAd K d.at_) fd) (S : FnScope N ps d.scope)
    (len : ∀ vs H Q E, sp vs H Q E → vs.length = ps.length)
    (hbody : ∀ (A : Around) (outer : List Env) (s : Shared) (H : Hp) (vs : List V) (Q : VK) (E : XK), Room k (A.deeper (envOfC d.qual d.scope s.heap.objs.size (He.fAd K d.at_) (.ref (He.codeOf K d.at_)))) → sp vs H Q E →
      ∃ t, PSs (bodyX P w K mg base N d A outer s H E) d.body t ∧ t { nx := fun _ H' => Q .non H', rt := Q } (L2.start N vs) H) : FnOk P w K mg base (L2.CX P w) (k + 1) (He.fAd K d.at_) fd ps sp := by
  obtain ⟨oc, od, dV, kV, doc, pm, an, cdv, ct, osl, rfl, lk, hcd, _, _⟩ := D.ex
  obtain ⟨c, rfl⟩ := He.codeIn_ref hcd
  have ec : He.codeOf K d.at_ = c := He.codeOf_eq lk rfl
  refine fn_of lk hcd S len fun A outer s H vs Q E hr hsp => ?_
  have q := hbody A outer s H vs Q E (by rw [ec]; exact hr) hsp
  unfold bodyX at q
  rw [ec] at q
  exact q
theorem tb_empty {TL : List (Addr × Str)} {TG : List Addr} {H : Hp} (h1 : ∀ q ∈ TL, H q.1 = some (.tbl #[])) (h2 : ∀ q ∈ TG, H q = some (.tbl #[])) : Tb TL TG H :=
  ⟨fun q hq => ⟨#[], h1 q hq, trivial, fun pos cv z => by cases z⟩, fun q hq => ⟨#[], h2 q hq, trivial⟩⟩
/-- the law's place, behind the head -/
theorem lawAt_of {l : PySem.W.OpenLaw} {h : Heap} {n : Nat} {fa : List He.Fa} {fn : List He.DefD} {tf : List He.Defn} {ex : PySem.W.Frag → Bool} {TL : List (Addr × Str)} {TG : List Addr} {d : He.DefD} {x : Str} {f : Addr} {fd : FuncData}
    (KX : K.In h) (c : He.SaysX fa fn [] tf ex w h K) (hf : f = He.fAd K d.at_) (hb : ∀ (s : Shared) (u : Value), BindsTo s fd ⟨[u], []⟩ [(x, u)])
    (hTL : ∀ q ∈ TL, ∃ p ∈ tf, q.1 = (He.cT K p).2) (hTG : ∀ q ∈ TG, ∃ p ∈ tf, q = (He.cT K p).2)
    (hsp : ∀ (H : Hp) (a : Addr) (ns : List Int), ns.length ≤ n → (∀ z ∈ ns, Builtin.Int.intBits z ≤ 1048576) → SqL K H a (ns.map V.int) → Tb TL TG H → sp [.ref a] H (fun v _ => v = .bl true) fun _ _ _ => False)
    (hF : ∀ base : Heap, K.In base → base.Ns mainGlobals mg → (∀ p ∈ tf, LamX.TabB base mg (He.cT K p).1 (He.cT K p).2) → FnOk l.prog w K mg base (L2.CX l.prog w) k (He.fAd K d.at_) fd [x] sp) :
    LamX.LawAtS l w K (L2.CX l.prog w) k n x mg f h := by
  subst hf
  refine ⟨fd, tf.map (He.cT K), sp, fun p hp => ?_, fun p hp => ?_, fun p hp => ?_, hb, fun H a ns h1 h2 h3 h4 => ?_, fun base KB GB TB => hF base KB GB fun p hp => TB _ (List.mem_map.mpr ⟨p, hp, rfl⟩)⟩
  · obtain ⟨q, hq, rfl⟩ := List.mem_map.mp hp
    exact c.empty q hq
  · obtain ⟨q, hq, rfl⟩ := List.mem_map.mp hp
    exact c.out q hq
  · obtain ⟨q, hq, rfl⟩ := List.mem_map.mp hp
    exact PySem.W.codeHd_of_K KX (c.hd q hq)
  · refine hsp H a ns h1 h2 h4 (tb_empty (fun q hq => ?_) fun q hq => ?_)
    · obtain ⟨p, hp, e⟩ := hTL q hq
      rw [e]
      exact h3 _ (List.mem_map.mpr ⟨p, hp, rfl⟩)
    · obtain ⟨p, hp, e⟩ := hTG q hq
      rw [e]
      exact h3 _ (List.mem_map.mpr ⟨p, hp, rfl⟩)
theorem cx_false {P : Program} {w : World} {H : Hp} {s : Shared} {e : Value} {s' : Shared} (h : L2.CX P w [] H s (fun _ _ _ => False) e s') : False := by
  obtain ⟨_, _, _, _, _, _, _, _, _, _, _, _, z⟩ := h
  exact z
end
end Fy
local macro_rules | `(tactic| walk_at "ne") => `(tactic| first | with_reducible assumption | (apply Ne.symm; with_reducible assumption) | (refine L2.ne_of_none (o := ?_) ?_ (by with_reducible assumption); rotate_left; walk_at "hp") | (refine (L2.ne_of_none (o := ?_) ?_ (by with_reducible assumption)).symm; rotate_left; walk_at "hp"))
local macro_rules | `(tactic| walk_at "hp") => `(tactic| first | with_reducible assumption | with_reducible exact L2.upd_same | (refine (L2.upd_ne ?_).trans ?_; (walk_at "ne"); walk_at "hp"))
local macro_rules | `(tactic| walk_at "v") => `(tactic| refine ⟨_, rfl, ?_⟩)
local macro_rules | `(tactic| walk_at "f") => `(tactic| refine ⟨_, _, _, _, _, rfl, (by walk_at "hp"), (by assumption), (by assumption), rfl, ?_⟩)
local macro_rules | `(tactic| walk_at "ix") => `(tactic| refine ⟨_, _, _, _, rfl, rfl, L2.SqL.of (by walk_at "hp"), (by rfl), ?_⟩)
local macro_rules | `(tactic| walk_at "ixt") => `(tactic| refine ⟨_, _, _, _, rfl, rfl, L2.SqT.of (by walk_at "hp"), (by rfl), ?_⟩)
local macro_rules | `(tactic| walk_at "go1") => `(tactic| first | refine ⟨_, rfl, ?_⟩ | refine ⟨_, _, rfl, rfl, ?_⟩ | refine ⟨rfl, ?_⟩ | walk_at "f" | walk_at "ix")
local macro_rules | `(tactic| walk_at "go") => `(tactic| repeat walk_at "go1")
namespace K3
open PySem PySem.Spec PyProof.Rows L2 Fy
abbrev R : PySem.W.OpenRow := PySem.W.OpenLaw.row PySem.Challenge.rw_firestack_k03_houses_that_burn
def top (i : Nat) : Stmt := PySem.Challenge.pw_firestack_k03_houses_that_burn.main.body.getD i (.Pass ⟨0, 0, 0, 0⟩)
abbrev s_Row_init : Stmt := inClass (top 6) 0
abbrev s_Row_build : Stmt := inClass (top 6) 1
abbrev s_Row_house : Stmt := inClass (top 6) 2
abbrev s_Row_light : Stmt := inClass (top 6) 3
abbrev s_Row_burning : Stmt := inClass (top 6) 4
abbrev s_Row_minute : Stmt := inClass (top 6) 5
abbrev s_Row_burnt : Stmt := inClass (top 6) 6
abbrev s_Row_heat_at : Stmt := inClass (top 6) 7
abbrev s_Row_minutes_until_burnt : Stmt := inClass (top 6) 8
abbrev s_law_dice : Stmt := top 8
abbrev s_law_roll : Stmt := top 9
abbrev s_law_rounds : Stmt := top 10
abbrev s_law_told : Stmt := top 11
abbrev s_law_burn : Stmt := top 12
abbrev s_law : Stmt := top 13
abbrev d_Row_init : He.DefD := ⟨("Row", some "__init__"), "__init__", "Row.__init__", defArgs s_Row_init, defBody s_Row_init, defScope s_Row_init, [], []⟩
abbrev d_Row_build : He.DefD := ⟨("Row", some "build"), "build", "Row.build", defArgs s_Row_build, defBody s_Row_build, defScope s_Row_build, [.adr (He.dflAt ("Row", some "build") 0)], []⟩
abbrev d_Row_house : He.DefD := ⟨("Row", some "house"), "house", "Row.house", defArgs s_Row_house, defBody s_Row_house, defScope s_Row_house, [], []⟩
abbrev d_Row_light : He.DefD := ⟨("Row", some "light"), "light", "Row.light", defArgs s_Row_light, defBody s_Row_light, defScope s_Row_light, [], []⟩
abbrev d_Row_burning : He.DefD := ⟨("Row", some "burning"), "burning", "Row.burning", defArgs s_Row_burning, defBody s_Row_burning, defScope s_Row_burning, [], []⟩
abbrev d_Row_minute : He.DefD := ⟨("Row", some "minute"), "minute", "Row.minute", defArgs s_Row_minute, defBody s_Row_minute, defScope s_Row_minute, [], []⟩
abbrev d_Row_burnt : He.DefD := ⟨("Row", some "burnt"), "burnt", "Row.burnt", defArgs s_Row_burnt, defBody s_Row_burnt, defScope s_Row_burnt, [], []⟩
abbrev d_Row_heat_at : He.DefD := ⟨("Row", some "heat_at"), "heat_at", "Row.heat_at", defArgs s_Row_heat_at, defBody s_Row_heat_at, defScope s_Row_heat_at, [], []⟩
abbrev d_Row_minutes_until_burnt : He.DefD := ⟨("Row", some "minutes_until_burnt"), "minutes_until_burnt", "Row.minutes_until_burnt", defArgs s_Row_minutes_until_burnt, defBody s_Row_minutes_until_burnt, defScope s_Row_minutes_until_burnt, [], []⟩
abbrev d_law_dice : He.DefD := ⟨("_law_dice", none), "_law_dice", "_law_dice", defArgs s_law_dice, defBody s_law_dice, defScope s_law_dice, [], []⟩
abbrev d_law_roll : He.DefD := ⟨("_law_roll", none), "_law_roll", "_law_roll", defArgs s_law_roll, defBody s_law_roll, defScope s_law_roll, [], []⟩
abbrev d_law_rounds : He.DefD := ⟨("_law_rounds", none), "_law_rounds", "_law_rounds", defArgs s_law_rounds, defBody s_law_rounds, defScope s_law_rounds, [], []⟩
abbrev d_law_told : He.DefD := ⟨("_law_told", none), "_law_told", "_law_told", defArgs s_law_told, defBody s_law_told, defScope s_law_told, [], []⟩
abbrev d_law_burn : He.DefD := ⟨("_law_burn", none), "_law_burn", "_law_burn", defArgs s_law_burn, defBody s_law_burn, defScope s_law_burn, [], []⟩
abbrev d_law : He.DefD := ⟨("law", none), "law", "law", defArgs s_law, defBody s_law, defScope s_law, [], []⟩
def fn : List He.DefD := ([d_Row_init, d_Row_build, d_Row_house, d_Row_light, d_Row_burning, d_Row_minute, d_Row_burnt, d_Row_heat_at, d_Row_minutes_until_burnt, d_law_dice, d_law_roll, d_law_rounds, d_law_told, d_law_burn, d_law] : List He.DefD)
def fa : List He.Fa := ([.glo "Row", .cls "Row", .mkr "Row", .meth "Row" "build", .meth "Row" "house", .meth "Row" "light", .meth "Row" "burning", .meth "Row" "minute", .meth "Row" "burnt", .meth "Row" "heat_at", .meth "Row" "minutes_until_burnt", .noat "Row" "houses", .glo "BrigadeError", .exc "BrigadeError", .glo "BlazeError", .exc "BlazeError", .exm "BrigadeError" "BlazeError" false, .exm "BlazeError" "BlazeError" true, .int "MOST_HOUSES" 60, .int "HOTTEST" 100, .glo "_law_dice", .glo "_law_roll", .glo "_law_rounds", .glo "_law_told", .glo "_law_burn", .glo "law", .free "abs", .free "any", .free "dict", .free "int"] : List He.Fa) ++ ([.free "len", .free "list", .free "max", .free "min", .free "range", .free "sorted", .free "str", .free "sum", .free "tuple"] : List He.Fa)
def tfL : List He.Defn := [("law", none)]
def tfG : List He.Defn := [("Row", some "build"), ("Row", some "burning"), ("Row", some "minute"), ("Row", some "burnt"), ("Row", some "heat_at")]
def tf : List He.Defn := tfL ++ tfG
def ex (K : PySem.W.Frag) : Bool := decide ((tf.map fun p => (He.cT K p).2).Nodup) && [(He.dflAt ("Row", some "build") 0 K)].all (etB K)
def loose : List PySem.Str := (["BrigadeError", "BlazeError", "MOST_HOUSES", "HOTTEST", "Row", "_law_dice", "_law_roll", "_law_rounds", "_law_told", "_law_burn"] : List PySem.Str)
abbrev hk : PySem.W.Hook := He.hookX 5 fa fn [] tf ex
def ob (s : PySem.W.SharedT) : He.AlX := He.obsX 5 fa fn [] tf ex (HandSHeadRun.getT s)
theorem ob_eq (s : PySem.W.SharedT) : ob s = hk.obs s.abs := He.obsX_eq (HandSHeadRun.getT_eq s)
/-- tables of lambdas, of generator expressions -/
def TL (K : PySem.W.Frag) : List (Addr × Str) := [((He.cT K ("law", none)).2, "law.<locals>.<lambda>")]
def TG (K : PySem.W.Frag) : List Addr := tfG.map fun p => (He.cT K p).2
theorem tl_mem {K : PySem.W.Frag} {q : Addr × Str} (h : q ∈ TL K) : ∃ a ∈ tfL, q.1 = (He.cT K a).2 := by
  simp only [TL, List.mem_cons, List.not_mem_nil, or_false] at h
  subst h
  all_goals exact ⟨_, by simp [tfL]; done, rfl⟩
theorem lq_law : ((d_law.qual ++ ".<locals>.") ++ "<lambda>" : PySem.Str) = "law.<locals>.<lambda>" := by decide +kernel
/-- all that the walk knows of the text -/
structure Txt (K : PySem.W.Frag) (mg : Str → Option Value) (base : Heap) : Prop where
  gl_Row : mg "Row" = some (.ref (He.ga K "Row"))
  cl_Row : Cls K (He.ga K "Row")
  mk_Row : Mk K (He.ga K "Row") (He.ma K (He.ga K "Row") "__init__")
  me_Row_build : Meth K (He.ga K "Row") "build" (He.ma K (He.ga K "Row") "build")
  me_Row_house : Meth K (He.ga K "Row") "house" (He.ma K (He.ga K "Row") "house")
  me_Row_light : Meth K (He.ga K "Row") "light" (He.ma K (He.ga K "Row") "light")
  me_Row_burning : Meth K (He.ga K "Row") "burning" (He.ma K (He.ga K "Row") "burning")
  me_Row_minute : Meth K (He.ga K "Row") "minute" (He.ma K (He.ga K "Row") "minute")
  me_Row_burnt : Meth K (He.ga K "Row") "burnt" (He.ma K (He.ga K "Row") "burnt")
  me_Row_heat_at : Meth K (He.ga K "Row") "heat_at" (He.ma K (He.ga K "Row") "heat_at")
  me_Row_minutes_until_burnt : Meth K (He.ga K "Row") "minutes_until_burnt" (He.ma K (He.ga K "Row") "minutes_until_burnt")
  no_Row_houses : NoAttr K (He.ga K "Row") "houses"
  gl_BrigadeError : mg "BrigadeError" = some (.ref (He.ga K "BrigadeError"))
  ex_BrigadeError : ExcF K (He.ga K "BrigadeError")
  gl_BlazeError : mg "BlazeError" = some (.ref (He.ga K "BlazeError"))
  ex_BlazeError : ExcF K (He.ga K "BlazeError")
  em_BrigadeError_BlazeError : PySem.W.exmOne K (.ref (He.ga K "BrigadeError")) (.ref (He.ga K "BlazeError")) = some false
  em_BlazeError_BlazeError : PySem.W.exmOne K (.ref (He.ga K "BlazeError")) (.ref (He.ga K "BlazeError")) = some true
  c_MOST_HOUSES : ∃ t, mg "MOST_HOUSES" = some (.int 60 t)
  c_HOTTEST : ∃ t, mg "HOTTEST" = some (.int 100 t)
  gl_law_dice : mg "_law_dice" = some (.ref (He.ga K "_law_dice"))
  gl_law_roll : mg "_law_roll" = some (.ref (He.ga K "_law_roll"))
  gl_law_rounds : mg "_law_rounds" = some (.ref (He.ga K "_law_rounds"))
  gl_law_told : mg "_law_told" = some (.ref (He.ga K "_law_told"))
  gl_law_burn : mg "_law_burn" = some (.ref (He.ga K "_law_burn"))
  gl_law : mg "law" = some (.ref (He.ga K "law"))
  fr_abs : mg "abs" = none
  fr_any : mg "any" = none
  fr_dict : mg "dict" = none
  fr_int : mg "int" = none
  fr_len : mg "len" = none
  fr_list : mg "list" = none
  fr_max : mg "max" = none
  fr_min : mg "min" = none
  fr_range : mg "range" = none
  fr_sorted : mg "sorted" = none
  fr_str : mg "str" = none
  fr_sum : mg "sum" = none
  fr_tuple : mg "tuple" = none
  fn_Row_init : ∃ fd, FunD K d_Row_init.name d_Row_init.qual d_Row_init.params d_Row_init.body d_Row_init.scope (d_Row_init.dvs K) (d_Row_init.kws K) (He.fAd K d_Row_init.at_) fd
  fn_Row_build : ∃ fd, FunD K d_Row_build.name d_Row_build.qual d_Row_build.params d_Row_build.body d_Row_build.scope (d_Row_build.dvs K) (d_Row_build.kws K) (He.fAd K d_Row_build.at_) fd
  fn_Row_house : ∃ fd, FunD K d_Row_house.name d_Row_house.qual d_Row_house.params d_Row_house.body d_Row_house.scope (d_Row_house.dvs K) (d_Row_house.kws K) (He.fAd K d_Row_house.at_) fd
  fn_Row_light : ∃ fd, FunD K d_Row_light.name d_Row_light.qual d_Row_light.params d_Row_light.body d_Row_light.scope (d_Row_light.dvs K) (d_Row_light.kws K) (He.fAd K d_Row_light.at_) fd
  fn_Row_burning : ∃ fd, FunD K d_Row_burning.name d_Row_burning.qual d_Row_burning.params d_Row_burning.body d_Row_burning.scope (d_Row_burning.dvs K) (d_Row_burning.kws K) (He.fAd K d_Row_burning.at_) fd
  fn_Row_minute : ∃ fd, FunD K d_Row_minute.name d_Row_minute.qual d_Row_minute.params d_Row_minute.body d_Row_minute.scope (d_Row_minute.dvs K) (d_Row_minute.kws K) (He.fAd K d_Row_minute.at_) fd
  fn_Row_burnt : ∃ fd, FunD K d_Row_burnt.name d_Row_burnt.qual d_Row_burnt.params d_Row_burnt.body d_Row_burnt.scope (d_Row_burnt.dvs K) (d_Row_burnt.kws K) (He.fAd K d_Row_burnt.at_) fd
  fn_Row_heat_at : ∃ fd, FunD K d_Row_heat_at.name d_Row_heat_at.qual d_Row_heat_at.params d_Row_heat_at.body d_Row_heat_at.scope (d_Row_heat_at.dvs K) (d_Row_heat_at.kws K) (He.fAd K d_Row_heat_at.at_) fd
  fn_Row_minutes_until_burnt : ∃ fd, FunD K d_Row_minutes_until_burnt.name d_Row_minutes_until_burnt.qual d_Row_minutes_until_burnt.params d_Row_minutes_until_burnt.body d_Row_minutes_until_burnt.scope (d_Row_minutes_until_burnt.dvs K) (d_Row_minutes_until_burnt.kws K) (He.fAd K d_Row_minutes_until_burnt.at_) fd
  fn_law_dice : ∃ fd, FunD K d_law_dice.name d_law_dice.qual d_law_dice.params d_law_dice.body d_law_dice.scope (d_law_dice.dvs K) (d_law_dice.kws K) (He.fAd K d_law_dice.at_) fd
  fn_law_roll : ∃ fd, FunD K d_law_roll.name d_law_roll.qual d_law_roll.params d_law_roll.body d_law_roll.scope (d_law_roll.dvs K) (d_law_roll.kws K) (He.fAd K d_law_roll.at_) fd
  fn_law_rounds : ∃ fd, FunD K d_law_rounds.name d_law_rounds.qual d_law_rounds.params d_law_rounds.body d_law_rounds.scope (d_law_rounds.dvs K) (d_law_rounds.kws K) (He.fAd K d_law_rounds.at_) fd
  fn_law_told : ∃ fd, FunD K d_law_told.name d_law_told.qual d_law_told.params d_law_told.body d_law_told.scope (d_law_told.dvs K) (d_law_told.kws K) (He.fAd K d_law_told.at_) fd
  fn_law_burn : ∃ fd, FunD K d_law_burn.name d_law_burn.qual d_law_burn.params d_law_burn.body d_law_burn.scope (d_law_burn.dvs K) (d_law_burn.kws K) (He.fAd K d_law_burn.at_) fd
  fn_law : ∃ fd, FunD K d_law.name d_law.qual d_law.params d_law.body d_law.scope (d_law.dvs K) (d_law.kws K) (He.fAd K d_law.at_) fd
  et_Row_build : etB K (He.dflAt ("Row", some "build") 0 K) = true
  tb_law : LamX.TabB base mg (He.cT K ("law", none)).1 (He.cT K ("law", none)).2
  tb_Row_build : LamX.TabB base mg (He.cT K ("Row", some "build")).1 (He.cT K ("Row", some "build")).2
  tb_Row_burning : LamX.TabB base mg (He.cT K ("Row", some "burning")).1 (He.cT K ("Row", some "burning")).2
  tb_Row_minute : LamX.TabB base mg (He.cT K ("Row", some "minute")).1 (He.cT K ("Row", some "minute")).2
  tb_Row_burnt : LamX.TabB base mg (He.cT K ("Row", some "burnt")).1 (He.cT K ("Row", some "burnt")).2
  tb_Row_heat_at : LamX.TabB base mg (He.cT K ("Row", some "heat_at")).1 (He.cT K ("Row", some "heat_at")).2
  tg_Row_build : (He.cT K ("Row", some "build")).2 ∈ TG K
  td_Row_build : ∀ q ∈ TL K, q.1 ≠ (He.cT K ("Row", some "build")).2
  tg_Row_burning : (He.cT K ("Row", some "burning")).2 ∈ TG K
  td_Row_burning : ∀ q ∈ TL K, q.1 ≠ (He.cT K ("Row", some "burning")).2
  tg_Row_minute : (He.cT K ("Row", some "minute")).2 ∈ TG K
  td_Row_minute : ∀ q ∈ TL K, q.1 ≠ (He.cT K ("Row", some "minute")).2
  tg_Row_burnt : (He.cT K ("Row", some "burnt")).2 ∈ TG K
  td_Row_burnt : ∀ q ∈ TL K, q.1 ≠ (He.cT K ("Row", some "burnt")).2
  tg_Row_heat_at : (He.cT K ("Row", some "heat_at")).2 ∈ TG K
  td_Row_heat_at : ∀ q ∈ TL K, q.1 ≠ (He.cT K ("Row", some "heat_at")).2
  tm_law : ((He.cT K ("law", none)).2, ((d_law.qual ++ ".<locals>.") ++ "<lambda>" : PySem.Str)) ∈ TL K
  tu_law : ∀ p ∈ TL K, p.1 = (He.cT K ("law", none)).2 → p.2 = ((d_law.qual ++ ".<locals>.") ++ "<lambda>" : PySem.Str)
  tn_law : (He.cT K ("law", none)).2 ∉ TG K
theorem tl_ne {K : PySem.W.Frag} {P : Addr} (h : P ∈ TG K) (e : ex K = true) : ∀ q ∈ TL K, q.1 ≠ P := by
  obtain ⟨b, hb, rfl⟩ := List.mem_map.mp h
  intro q hq
  obtain ⟨a, ha, e2⟩ := tl_mem hq
  rw [e2]
  exact nodup_apart (of_decide_eq_true (Bool.and_eq_true_iff.mp e).1) a ha b hb
theorem tl_q {K : PySem.W.Frag} (e : ex K = true) (a : He.Defn) (ha : a ∈ tfL) {q : PySem.Str} (hq : ((He.cT K a).2, q) ∈ TL K) : ∀ p ∈ TL K, p.1 = (He.cT K a).2 → p.2 = q := by
  have nd := of_decide_eq_true (Bool.and_eq_true_iff.mp e).1
  unfold tf at nd
  rw [List.map_append, List.nodup_append] at nd
  have nd1 := nd.1
  simp only [TL, List.mem_cons, List.not_mem_nil, or_false] at hq ⊢
  simp only [tfL, List.map_cons, List.map_nil, List.nodup_cons, List.mem_cons, List.not_mem_nil, or_false, not_or] at nd1
  intro p hp e1
  rw [hp]
  exact (Prod.mk.inj hq).2.symm
theorem txt_of {K : PySem.W.Frag} {mg : Str → Option Value} {base h : Heap} {w : World} (X : K.In h) (G : h.Ns mainGlobals mg) (c : He.SaysX fa fn [] tf ex w h K) (B : ∀ p ∈ tf, LamX.TabB base mg (He.cT K p).1 (He.cT K p).2) : Txt K mg base where
  gl_Row := He.glo_ok X G (c.t.d.fact 0)
  cl_Row := He.cls_ok (c.t.d.fact 1)
  mk_Row := He.mkr_ok (c.t.d.fact 2)
  me_Row_build := He.meth_ok (c.t.d.fact 3)
  me_Row_house := He.meth_ok (c.t.d.fact 4)
  me_Row_light := He.meth_ok (c.t.d.fact 5)
  me_Row_burning := He.meth_ok (c.t.d.fact 6)
  me_Row_minute := He.meth_ok (c.t.d.fact 7)
  me_Row_burnt := He.meth_ok (c.t.d.fact 8)
  me_Row_heat_at := He.meth_ok (c.t.d.fact 9)
  me_Row_minutes_until_burnt := He.meth_ok (c.t.d.fact 10)
  no_Row_houses := He.noat_ok (c.t.d.fact 11)
  gl_BrigadeError := He.glo_ok X G (c.t.d.fact 12)
  ex_BrigadeError := ExcF.of (He.exc_ok (c.t.d.fact 13))
  gl_BlazeError := He.glo_ok X G (c.t.d.fact 14)
  ex_BlazeError := ExcF.of (He.exc_ok (c.t.d.fact 15))
  em_BrigadeError_BlazeError := He.exm_ok (c.t.d.fact 16)
  em_BlazeError_BlazeError := He.exm_ok (c.t.d.fact 17)
  c_MOST_HOUSES := He.int_ok X G (c.t.d.fact 18)
  c_HOTTEST := He.int_ok X G (c.t.d.fact 19)
  gl_law_dice := He.glo_ok X G (c.t.d.fact 20)
  gl_law_roll := He.glo_ok X G (c.t.d.fact 21)
  gl_law_rounds := He.glo_ok X G (c.t.d.fact 22)
  gl_law_told := He.glo_ok X G (c.t.d.fact 23)
  gl_law_burn := He.glo_ok X G (c.t.d.fact 24)
  gl_law := He.glo_ok X G (c.t.d.fact 25)
  fr_abs := He.free_ok X G (c.t.d.fact 26)
  fr_any := He.free_ok X G (c.t.d.fact 27)
  fr_dict := He.free_ok X G (c.t.d.fact 28)
  fr_int := He.free_ok X G (c.t.d.fact 29)
  fr_len := He.free_ok X G (c.t.d.fact 30)
  fr_list := He.free_ok X G (c.t.d.fact 31)
  fr_max := He.free_ok X G (c.t.d.fact 32)
  fr_min := He.free_ok X G (c.t.d.fact 33)
  fr_range := He.free_ok X G (c.t.d.fact 34)
  fr_sorted := He.free_ok X G (c.t.d.fact 35)
  fr_str := He.free_ok X G (c.t.d.fact 36)
  fr_sum := He.free_ok X G (c.t.d.fact 37)
  fr_tuple := He.free_ok X G (c.t.d.fact 38)
  fn_Row_init := c.t.d.def_ 0
  fn_Row_build := c.t.d.def_ 1
  fn_Row_house := c.t.d.def_ 2
  fn_Row_light := c.t.d.def_ 3
  fn_Row_burning := c.t.d.def_ 4
  fn_Row_minute := c.t.d.def_ 5
  fn_Row_burnt := c.t.d.def_ 6
  fn_Row_heat_at := c.t.d.def_ 7
  fn_Row_minutes_until_burnt := c.t.d.def_ 8
  fn_law_dice := c.t.d.def_ 9
  fn_law_roll := c.t.d.def_ 10
  fn_law_rounds := c.t.d.def_ 11
  fn_law_told := c.t.d.def_ 12
  fn_law_burn := c.t.d.def_ 13
  fn_law := c.t.d.def_ 14
  et_Row_build := List.all_eq_true.mp (Bool.and_eq_true_iff.mp c.more).2 _ (by simp)
  tb_law := B ("law", none) (by simp [tf, tfL, tfG])
  tb_Row_build := B ("Row", some "build") (by simp [tf, tfL, tfG])
  tb_Row_burning := B ("Row", some "burning") (by simp [tf, tfL, tfG])
  tb_Row_minute := B ("Row", some "minute") (by simp [tf, tfL, tfG])
  tb_Row_burnt := B ("Row", some "burnt") (by simp [tf, tfL, tfG])
  tb_Row_heat_at := B ("Row", some "heat_at") (by simp [tf, tfL, tfG])
  tg_Row_build := List.mem_map.mpr ⟨("Row", some "build"), by simp [tfG], rfl⟩
  td_Row_build := tl_ne (List.mem_map.mpr ⟨("Row", some "build"), by simp [tfG], rfl⟩) c.more
  tg_Row_burning := List.mem_map.mpr ⟨("Row", some "burning"), by simp [tfG], rfl⟩
  td_Row_burning := tl_ne (List.mem_map.mpr ⟨("Row", some "burning"), by simp [tfG], rfl⟩) c.more
  tg_Row_minute := List.mem_map.mpr ⟨("Row", some "minute"), by simp [tfG], rfl⟩
  td_Row_minute := tl_ne (List.mem_map.mpr ⟨("Row", some "minute"), by simp [tfG], rfl⟩) c.more
  tg_Row_burnt := List.mem_map.mpr ⟨("Row", some "burnt"), by simp [tfG], rfl⟩
  td_Row_burnt := tl_ne (List.mem_map.mpr ⟨("Row", some "burnt"), by simp [tfG], rfl⟩) c.more
  tg_Row_heat_at := List.mem_map.mpr ⟨("Row", some "heat_at"), by simp [tfG], rfl⟩
  td_Row_heat_at := tl_ne (List.mem_map.mpr ⟨("Row", some "heat_at"), by simp [tfG], rfl⟩) c.more
  tm_law := by rw [lq_law]; simp [TL]
  tu_law := by rw [lq_law]; exact tl_q c.more ("law", none) (by simp [tfL]) (by simp [TL])
  tn_law := fun h => tl_ne h c.more ((He.cT K ("law", none)).2, "law.<locals>.<lambda>") (by simp [TL]) rfl
theorem run (w : World) : HandSHeadRun.RunEq R (PySem.W.view R.prog [13]) hk ob 8000 loose w := by
  intro os
  kernel_rfl
end K3
namespace K3
open PySem PySem.Spec PyProof.Rows L2 Fy
open GxR (TabG Tabbed)
structure House where
  corner : Str
  fuel : Int
  heat : Int
  beside : List Str
abbrev Hs := List (Str × House)
def hvals (h : House) (b : Addr) : List V := [.str h.corner, .int h.fuel, .int h.heat, .ref b]
/-- houses in the dict at d: their rows at fa, their neighbours' names at fb -/
structure HsAt (H : Hp) (d : Addr) (R : Hs) (fa fb : Str → Addr) : Prop where
  dc : H d = some (.dK (R.map fun p => (Sum.inr p.1, V.ref (fa p.1))))
  row : ∀ p ∈ R, H (fa p.1) = some (.lst (hvals p.2 (fb p.1)))
  bes : ∀ p ∈ R, H (fb p.1) = some (.lst (p.2.beside.map V.str))
  nd : (R.map (·.1)).Nodup
/-- a Row -/
structure RowAt (C : Addr) (H : Hp) (r d : Addr) (R : Hs) (fa fb : Str → Addr) : Prop where
  ob : ∃ dx, H r = some (.ins C dx [("houses", .ref d)])
  hs : HsAt H d R fa fb
  ia : ∀ p ∈ R, ∀ q ∈ R, fa p.1 = fa q.1 → p.1 = q.1
  ib : ∀ p ∈ R, ∀ q ∈ R, fb p.1 = fb q.1 → p.1 = q.1
abbrev CRow (K : PySem.W.Frag) : Addr := He.ga K "Row"
abbrev CErr (K : PySem.W.Frag) : Addr := He.ga K "BlazeError"
theorem val_look {R : Hs} {fa : Str → Addr} {n : Str} : valV (R.map fun p => ((Sum.inr p.1 : Key), V.ref (fa p.1))) (Sum.inr n) = (R.lookup n).map fun _ => V.ref (fa n) := by
  induction R with
  | nil => rfl
  | cons p r ih =>
    obtain ⟨m, h⟩ := p
    by_cases e : m = n
    · subst e
      rw [List.map_cons, valV_pos (by rfl), List.lookup_cons]
      simp
    · rw [List.map_cons, valV_neg (by intro z; exact e (Sum.inr.inj z)), ih, List.lookup_cons]
      have : (n == m) = false := by simpa using fun z => e z.symm
      rw [this]
theorem look_mem {α : Type} : ∀ {R : List (Str × α)} {n : Str} {h : α}, R.lookup n = some h → (n, h) ∈ R
  | [], _, _, e => by cases e
  | (m, x) :: r, n, h, e => by
    rw [List.lookup_cons] at e
    by_cases q : n = m
    · subst q
      simp at e
      subst e
      exact List.mem_cons_self
    · have : (n == m) = false := by simpa using q
      rw [this] at e
      exact List.mem_cons_of_mem _ (look_mem e)
theorem mem_look {α : Type} : ∀ {R : List (Str × α)} {n : Str} {h : α}, (R.map (·.1)).Nodup → (n, h) ∈ R → R.lookup n = some h
  | (m, x) :: r, n, h, nd, e => by
    rw [List.map_cons, List.nodup_cons] at nd
    rw [List.lookup_cons]
    rcases List.mem_cons.mp e with z | z
    · cases z
      simp
    · have : n ≠ m := fun q => nd.1 (by subst q; exact List.mem_map.mpr ⟨_, z, rfl⟩)
      have : (n == m) = false := by simpa using this
      rw [this]
      exact mem_look nd.2 z
theorem HsAt.get {H : Hp} {d : Addr} {R : Hs} {fa fb : Str → Addr} {n : Str} {h : House} (D : HsAt H d R fa fb) (e : R.lookup n = some h) : DGet H d (.str n) (some (.ref (fa n))) := by
  have := DGet.k (k := Sum.inr n) D.dc
  rw [val_look, e] at this
  exact this
theorem HsAt.no {H : Hp} {d : Addr} {R : Hs} {fa fb : Str → Addr} {n : Str} (D : HsAt H d R fa fb) : DGet H d (.str n) ((R.lookup n).map fun _ => V.ref (fa n)) := by
  have := DGet.k (k := Sum.inr n) D.dc
  rw [val_look] at this
  exact this
theorem HsAt.at_ {H : Hp} {d : Addr} {R : Hs} {fa fb : Str → Addr} {n : Str} {h : House} (D : HsAt H d R fa fb) (e : R.lookup n = some h) : H (fa n) = some (.lst (hvals h (fb n))) := D.row _ (look_mem e)
/-- one house changed -/
def updH (R : Hs) (n : Str) (f : House → House) : Hs := R.map fun p => if p.1 = n then (p.1, f p.2) else p
theorem keys_updH (R : Hs) (n : Str) (f : House → House) : (updH R n f).map (·.1) = R.map (·.1) := by
  unfold updH
  rw [List.map_map]
  refine List.map_congr_left fun p _ => ?_
  show (if p.1 = n then (p.1, f p.2) else p).1 = p.1
  split <;> rfl
theorem hv_ne {h : House} {b : Addr} {bs : List Str} : HO.lst (hvals h b) ≠ HO.lst (bs.map V.str) := fun z => by
  injection z with z
  unfold hvals at z
  match bs, z with
  | _ :: y :: _, z => simp at z
theorem RowAt.set {C : Addr} {H : Hp} {r d : Addr} {R : Hs} {fa fb : Str → Addr} {n : Str} {h : House} (D : RowAt C H r d R fa fb) (e : R.lookup n = some h) (f : House → House) (hb : ∀ x, (f x).beside = x.beside) :
    RowAt C (upd H (fa n) (.lst (hvals (f h) (fb n)))) r d (updH R n f) fa fb := by
  obtain ⟨⟨dx, h1⟩, ⟨dc, row, bes, nd⟩, ia, ib⟩ := D
  have hm := look_mem e
  have ha := row _ hm
  have n1 : r ≠ fa n := ne_of h1 ha (by intro z; cases z)
  have n2 : d ≠ fa n := ne_of dc ha (by intro z; cases z)
  have ex : ∀ p ∈ updH R n f, ∃ q ∈ R, q.1 = p.1 ∧ p.2 = if p.1 = n then f q.2 else q.2 := fun p hp => by
    obtain ⟨q, hq, rfl⟩ := List.mem_map.mp hp
    refine ⟨q, hq, ?_⟩
    by_cases z : q.1 = n
    · rw [if_pos z]; exact ⟨rfl, (if_pos z).symm⟩
    · rw [if_neg z]; exact ⟨rfl, (if_neg z).symm⟩
  refine ⟨⟨dx, by rw [upd_ne n1]; exact h1⟩, ⟨?_, fun p hp => ?_, fun p hp => ?_, by rw [keys_updH]; exact nd⟩, fun p hp q hq z => ?_, fun p hp q hq z => ?_⟩
  · rw [upd_ne n2, dc]
    have : (updH R n f).map (fun p => ((Sum.inr p.1 : Key), V.ref (fa p.1))) = R.map fun p => (Sum.inr p.1, V.ref (fa p.1)) := by
      have k := congrArg (List.map fun m => ((Sum.inr m : Key), V.ref (fa m))) (keys_updH R n f)
      rw [List.map_map, List.map_map] at k
      exact k
    rw [this]
  · obtain ⟨q, hq, e1, e2⟩ := ex p hp
    by_cases z : p.1 = n
    · rw [z, upd_same, e2, if_pos z]
      have : q.2 = h := by
        have hq' : R.lookup n = some q.2 := mem_look nd (by rw [← z, ← e1]; exact hq)
        rw [e] at hq'
        exact (Option.some.inj hq').symm
      rw [this]
    · rw [upd_ne (fun y => z ?_), e2, if_neg z, ← e1]
      · exact row q hq
      · rw [← e1] at y ⊢
        exact ia q hq _ hm y
  · obtain ⟨q, hq, e1, e2⟩ := ex p hp
    have hb' : p.2.beside = q.2.beside := by rw [e2]; split; exact hb _; rfl
    rw [hb', ← e1, upd_ne (ne_of (bes q hq) ha hv_ne.symm)]
    exact bes q hq
  · obtain ⟨p', hp', e1, _⟩ := ex p hp
    obtain ⟨q', hq', e2, _⟩ := ex q hq
    rw [← e1, ← e2] at z ⊢
    exact ia p' hp' q' hq' z
  · obtain ⟨p', hp', e1, _⟩ := ex p hp
    obtain ⟨q', hq', e2, _⟩ := ex q hq
    rw [← e1, ← e2] at z ⊢
    exact ib p' hp' q' hq' z
def sp_Row_init (K : PySem.W.Frag) : Sp := fun vs H Q _ => ∃ (r dx : Addr), vs = [.ref r] ∧ H r = some (.ins (CRow K) dx []) ∧ ∀ (d : Addr) (H' : Hp), H d = none → H' r = some (.ins (CRow K) dx [("houses", .ref d)]) → H' d = some (.dK []) → Go (TL K) (TG K) (fun b => b = r) H H' → Q .non H'
def sp_Row_house (K : PySem.W.Frag) : Sp := fun vs H Q E => ∃ (r d : Addr) (R : Hs) (fa fb : Str → Addr) (n : Str), vs = [.ref r, .str n] ∧ RowAt (CRow K) H r d R fa fb ∧
  (∀ h, R.lookup n = some h → Q (.ref (fa n)) H) ∧ (R.lookup n = none → E (.ref (CErr K)) none H)
def canLight (h : House) : Bool := !(decide (0 < h.heat) || decide (h.fuel = 0))
def sp_Row_light (K : PySem.W.Frag) : Sp := fun vs H Q E => ∃ (r d : Addr) (R : Hs) (fa fb : Str → Addr) (n : Str), vs = [.ref r, .str n] ∧ RowAt (CRow K) H r d R fa fb ∧
  (((R.lookup n).map canLight).getD false = false → E (.ref (CErr K)) none H) ∧
  (∀ h, R.lookup n = some h → canLight h = true → ∀ H', RowAt (CRow K) H' r d (updH R n fun x => { x with heat := 10 }) fa fb → Go (TL K) (TG K) (fun b => b = fa n) H H' → Q .non H')
section
variable {P : Program} {w : World} {K : PySem.W.Frag} {mg : Str → Option Value} {base : Heap}
abbrev N_Row_init : List Str := ["self"]
theorem sc_Row_init : FnScope N_Row_init ["self"] d_Row_init.scope := ⟨rfl, rfl, rfl, by decide +kernel, rfl, by decide +kernel, by decide +kernel⟩
theorem ok_Row_init (T : Txt K mg base) : Good P w K mg base 1 (He.fAd K d_Row_init.at_) ["self"] [] (sp_Row_init K) := by
  refine good_of0 T.fn_Row_init sc_Row_init rfl rfl (fun _ _ _ _ _ _ us hl => match us, hl with | [_], _ => rfl) (fun vs H Q E h => ?_) (fun A outer s H vs Q E hr h => ?_)
  · obtain ⟨r, dx, rfl, _⟩ := h
    rfl
  · obtain ⟨r, dx, rfl, h⟩ := h
    have cl_Row := T.cl_Row
    have no_Row_houses := T.no_Row_houses
    refine ⟨_, (pss_one (ps_fld (pv 0) pe_dnewK rfl)), ?_⟩
    obtain ⟨hp, k⟩ := h
    intro d hd
    have n1 := ne_of_none hp hd
    refine ⟨_, rfl, _, _, _, _, rfl, (by walk_at "hp"), T.cl_Row, T.no_Row_houses, (by show 0 < 1000; decide), ?_⟩
    refine k d _ hd upd_same (by walk_at "hp") ?_
    exact (Go.new hd).trans (Go.set (by walk_at "hp") plain_ins rfl)
abbrev N_Row_house : List Str := ["self", "name"]
theorem sc_Row_house : FnScope N_Row_house ["self", "name"] d_Row_house.scope := ⟨rfl, rfl, rfl, by decide +kernel, rfl, by decide +kernel, by decide +kernel⟩
theorem ok_Row_house (T : Txt K mg base) : Good P w K mg base 1 (He.fAd K d_Row_house.at_) ["self", "name"] [] (sp_Row_house K) := by
  refine good_of0 T.fn_Row_house sc_Row_house rfl rfl (fun _ _ _ _ _ _ us hl => match us, hl with | [_, _], _ => rfl) (fun vs H Q E h => ?_) (fun A outer s H vs Q E hr h => ?_)
  · obtain ⟨r, d, R, fa, fb, n, rfl, _⟩ := h
    rfl
  · obtain ⟨r, d, R, fa, fb, n, rfl, h⟩ := h
    have hu := hu_of hr
    have cl_Row := T.cl_Row
    have no_Row_houses := T.no_Row_houses
    refine ⟨_, (pss_cons (ps_if (pt_cmp (pc_dnotin hu (pv 1) (pe_fld (pv 0) rfl))) (pss_one (ps_raiseC rfl tkx T.ex_BlazeError T.gl_BlazeError rfl)) pss_nil)
    (pss_one (ps_ret (pe_dget hu (pe_fld (pv 0) rfl) (pv 1) (fun _ _ => rfl))))), ?_⟩
    obtain ⟨D, k1, k2⟩ := h
    obtain ⟨⟨dx, h1⟩, hs, ia, ib⟩ := id D
    walk_at "go"
    refine ⟨_, _, rfl, hs.no, _, rfl, ?_⟩
    cases e : R.lookup n with
    | none => exact iteT (k2 e)
    | some h =>
      refine iteF ?_
      walk_at "go"
      exact ⟨_, _, rfl, hs.get e, k1 h e⟩
abbrev N_Row_light : List Str := ["self", "name", "row"]
theorem sc_Row_light : FnScope N_Row_light ["self", "name"] d_Row_light.scope := ⟨rfl, rfl, rfl, by decide +kernel, rfl, by decide +kernel, by decide +kernel⟩
theorem ok_Row_light (T : Txt K mg base) : Good P w K mg base 2 (He.fAd K d_Row_light.at_) ["self", "name"] [] (sp_Row_light K) := by
  refine good_of0 T.fn_Row_light sc_Row_light rfl rfl (fun _ _ _ _ _ _ us hl => match us, hl with | [_, _], _ => rfl) (fun vs H Q E h => ?_) (fun A outer s H vs Q E hr h => ?_)
  · obtain ⟨r, d, R, fa, fb, n, rfl, _⟩ := h
    rfl
  · obtain ⟨r, d, R, fa, fb, n, rfl, h⟩ := h
    have cl_Row := T.cl_Row
    have no_Row_houses := T.no_Row_houses
    refine ⟨_, (pss_cons (ps_set (i := 2) sc_Row_light.nd rfl (by first | exact Or.inl rfl | exact Or.inr rfl) (pg_meth (ok_Row_house T) (hr.mono (by decide)) T.cl_Row T.me_Row_house px (pv 0) (pa_cons (pv 1) pa_nil)))
    (pss_cons (ps_if (PW.pt (pw_or (pt_cmpR op_gt (pe_ix ix_list (pv 2) pe_int (fun _ _ => rfl)) pe_int (nomark _)) (pw_or1 (pt_cmpR op_eq (pe_ix ix_list (pv 2) pe_int (fun _ _ => rfl)) pe_int (nomark _))))) (pss_one (ps_raiseC rfl tkx T.ex_BlazeError T.gl_BlazeError rfl)) pss_nil)
    (pss_one (ps_asg pe_int (pg_sub (pv 2) pe_int set_list))))), ?_⟩
    obtain ⟨D, k1, k2⟩ := h
    obtain ⟨⟨dx, h1⟩, hs, ia, ib⟩ := id D
    walk_at "v"
    refine ⟨_, _, _, rfl, h1, rfl, ?_⟩
    walk_at "v"
    refine ⟨r, d, R, fa, fb, n, rfl, D, fun h e => ?_, fun e => k1 (by rw [e] <;> rfl)⟩
    have ha := hs.at_ e
    walk_at "go"
    refine ite2 (fun z => ?_) (fun z => ?_)
    · refine iteT (k1 ?_)
      rw [e]
      simp [canLight, of_decide_eq_true z]
    · walk_at "go"
      refine ite2 (fun z2 => ?_) (fun z2 => ?_)
      · refine k1 ?_
        rw [e]
        have : h.fuel = 0 := by simpa using z2
        simp [canLight, this]
      · walk_at "v"
        refine ⟨_, _, _, 2, rfl, rfl, ha, rfl, ?_⟩
        refine k2 h e ?_ _ (D.set e (fun x => { x with heat := 10 }) fun _ => rfl) (Go.set ha plain_lst rfl)
        have e1 : ¬ 0 < h.heat := by simpa using z
        have e2 : ¬ h.fuel = 0 := by simpa using z2
        simp [canLight, e1, e2]
end
theorem names_kv {R : Hs} {fa : Str → Addr} : ((R.map fun p => ((Sum.inr p.1 : Key), V.ref (fa p.1))).map fun p => kV p.1) = (R.map (·.1)).map V.str := by
  rw [List.map_map, List.map_map]
  rfl
def namesBy (R : Hs) (q : House → Bool) : List Str := (sortS (R.map (·.1))).filter fun n => ((R.lookup n).map q).getD false
def burningS (R : Hs) : List Str := namesBy R fun h => decide (0 < h.heat)
def burntS (R : Hs) : List Str := namesBy R fun h => decide (h.fuel = 0)
def heatAt (R : Hs) (c : Str) : Int := ((R.filter fun p => decide (p.2.corner = c)).map fun p => p.2.heat).sum
theorem HsAt.go {TL : List (Addr × Str)} {TG : List Addr} {S : Ad} {H H' : Hp} {d : Addr} {R : Hs} {fa fb : Str → Addr} (D : HsAt H d R fa fb) (g : Go TL TG S H H') (sd : ¬ S d) (sa : ∀ p ∈ R, ¬ S (fa p.1)) (sb : ∀ p ∈ R, ¬ S (fb p.1)) : HsAt H' d R fa fb :=
  ⟨g.keep _ _ D.dc (by intro _ z; cases z) sd, fun p hp => g.keep _ _ (D.row p hp) (by intro _ z; cases z) (sa p hp), fun p hp => g.keep _ _ (D.bes p hp) (by intro _ z; cases z) (sb p hp), D.nd⟩
theorem RowAt.go {TL : List (Addr × Str)} {TG : List Addr} {S : Ad} {C : Addr} {H H' : Hp} {r d : Addr} {R : Hs} {fa fb : Str → Addr} (D : RowAt C H r d R fa fb) (g : Go TL TG S H H') (sr : ¬ S r) (sd : ¬ S d) (sa : ∀ p ∈ R, ¬ S (fa p.1)) (sb : ∀ p ∈ R, ¬ S (fb p.1)) : RowAt C H' r d R fa fb := by
  obtain ⟨⟨dx, h1⟩, hs, ia, ib⟩ := D
  exact ⟨⟨dx, g.keep _ _ h1 (by intro _ z; cases z) sr⟩, hs.go g sd sa sb, ia, ib⟩
theorem look_key {R : Hs} {n : Str} (h : n ∈ R.map (·.1)) (nd : (R.map (·.1)).Nodup) : ∃ x, R.lookup n = some x := by
  obtain ⟨p, hp, rfl⟩ := List.mem_map.mp h
  exact ⟨p.2, mem_look nd hp⟩
def strP (q : Str → Bool) : V → Bool
  | .str n => q n
  | _ => false
theorem filter_str (ns : List Str) (q : Str → Bool) : (ns.map V.str).filter (strP q) = (ns.filter q).map V.str := by
  rw [List.filter_map]
  rfl
def sp_names (K : PySem.W.Frag) (q : House → Bool) : Sp := fun vs H Q _ => ∃ (r d : Addr) (R : Hs) (fa fb : Str → Addr), vs = [.ref r] ∧ RowAt (CRow K) H r d R fa fb ∧ R.length ≤ 1000 ∧ Tb (TL K) (TG K) H ∧
  ∀ p H', H p = none → H' p = some (.tup ((namesBy R q).map V.str)) → Go (TL K) (TG K) (fun _ => False) H H' → Q (.ref p) H'
def sp_Row_burning (K : PySem.W.Frag) : Sp := sp_names K fun h => decide (0 < h.heat)
def sp_Row_burnt (K : PySem.W.Frag) : Sp := sp_names K fun h => decide (h.fuel = 0)
def sp_Row_heat_at (K : PySem.W.Frag) : Sp := fun vs H Q _ => ∃ (r d : Addr) (R : Hs) (fa fb : Str → Addr) (c : Str), vs = [.ref r, .str c] ∧ RowAt (CRow K) H r d R fa fb ∧ Tb (TL K) (TG K) H ∧
  ∀ H', Go (TL K) (TG K) (fun _ => False) H H' → Q (.int (heatAt R c)) H'
theorem names_len (R : Hs) (q : House → Bool) : (namesBy R q).length ≤ R.length := by
  unfold namesBy
  refine Nat.le_trans (List.length_filter_le _ _) ?_
  rw [len_sortS, List.length_map]
  exact Nat.le_refl _
theorem thou {n : Nat} (h : n ≤ 1000) : n ≤ sizeLine := Nat.le_trans h (by decide)
section
variable {P : Program} {w : World} {K : PySem.W.Frag} {mg : Str → Option Value} {base : Heap}
abbrev N_Row_burning : List Str := ["self", "name"]
theorem sc_Row_burning : FnScope N_Row_burning ["self"] d_Row_burning.scope := ⟨rfl, rfl, rfl, by decide +kernel, rfl, by decide +kernel, by decide +kernel⟩
theorem ok_Row_burning (T : Txt K mg base) : Good P w K mg base 1 (He.fAd K d_Row_burning.at_) ["self"] [] (sp_Row_burning K) := by
  refine good_of0 T.fn_Row_burning sc_Row_burning rfl rfl (fun _ _ _ _ _ _ us hl => match us, hl with | [_], _ => rfl) (fun vs H Q E h => ?_) (fun A outer s H vs Q E hr h => ?_)
  · obtain ⟨r, d, R, fa, fb, rfl, _⟩ := h
    rfl
  · obtain ⟨r, d, R, fa, fb, rfl, h⟩ := h
    have cl_Row := T.cl_Row
    have no_Row_houses := T.no_Row_houses
    refine ⟨_, (pss_one (ps_ret (pe_genT (i := 1) tk_tup (by rfl) T.fr_tuple (by decide +kernel) hr T.tb_Row_burning rfl sc_Row_burning.nd rfl (genS_by (N := N_Row_burning) (sc := d_Row_burning.scope) (by decide +kernel)) (pe_callB (cr_sortD hr) (by rfl) T.fr_sorted (by decide +kernel) (pa_cons (pe_fld (pv 0) rfl) pa_nil)) (fun _ _ _ => qts_one (qt_cmp oq_gt (q_ix (q_get (q_fld (q_var 0)) (q_var 1)) q_int) q_int)) (fun _ _ _ => (q_var 1)) (fun _ => rfl)))), ?_⟩
    obtain ⟨D, hz, tb, k⟩ := h
    obtain ⟨⟨dx, h1⟩, hs, ia, ib⟩ := id D
    walk_at "go"
    refine ⟨_, _, rfl, .inl hs.dc, (by rw [names_kv]; exact sortb_str _), fun p hp => ?_⟩
    rw [names_kv, sortV_str]
    have g1 : Go (TL K) (TG K) (fun _ => False) H (upd H p (.lst ((sortS (R.map (·.1))).map V.str))) := Go.new hp
    refine ⟨(g1.tb tb).gen _ T.tg_Row_burning, _, ⟨p, rfl, .inl (SqL.of upd_same)⟩, fun H2 hT => ?_⟩
    have g2 := g1.trans (Go.tab hT ((g1.tb tb).gen _ T.tg_Row_burning) T.tg_Row_burning T.td_Row_burning)
    have D2 := D.go g2 id id (fun _ _ => id) (fun _ _ => id)
    obtain ⟨⟨dx2, h2⟩, hs2, _, _⟩ := id D2
    refine ⟨strP fun n => ((R.lookup n).map fun h => decide (0 < h.heat)).getD false, fun x => x, fun x hx => ?_, fun x hx _ => ⟨_, rfl, rfl⟩, ?_⟩
    · obtain ⟨n, hn, rfl⟩ := List.mem_map.mp hx
      obtain ⟨h, e⟩ := look_key (mem_sortS.mp hn) D.hs.nd
      have ha := hs2.at_ e
      walk_at "v"; walk_at "f"; walk_at "v"
      refine ⟨_, _, Sum.inr n, _, rfl, rfl, .inl hs2.dc, (by rw [val_look, e] <;> rfl), ?_⟩
      refine ⟨_, _, 2, _, rfl, rfl, .inl (SqL.of ha), rfl, _, _, rfl, rfl, _, _, rfl, rfl, _, rfl, ?_⟩
      simp [strP, e]
    · rw [filter_str, List.map_id']
      refine ⟨?_, fun q hq => k q _ (g2.free q hq) upd_same (g2.trans (Go.new hq))⟩
      rw [List.length_map]
      exact thou (Nat.le_trans (names_len R _) hz)
abbrev N_Row_burnt : List Str := ["self", "name"]
theorem sc_Row_burnt : FnScope N_Row_burnt ["self"] d_Row_burnt.scope := ⟨rfl, rfl, rfl, by decide +kernel, rfl, by decide +kernel, by decide +kernel⟩
theorem ok_Row_burnt (T : Txt K mg base) : Good P w K mg base 1 (He.fAd K d_Row_burnt.at_) ["self"] [] (sp_Row_burnt K) := by
  refine good_of0 T.fn_Row_burnt sc_Row_burnt rfl rfl (fun _ _ _ _ _ _ us hl => match us, hl with | [_], _ => rfl) (fun vs H Q E h => ?_) (fun A outer s H vs Q E hr h => ?_)
  · obtain ⟨r, d, R, fa, fb, rfl, _⟩ := h
    rfl
  · obtain ⟨r, d, R, fa, fb, rfl, h⟩ := h
    have cl_Row := T.cl_Row
    have no_Row_houses := T.no_Row_houses
    refine ⟨_, (pss_one (ps_ret (pe_genT (i := 1) tk_tup (by rfl) T.fr_tuple (by decide +kernel) hr T.tb_Row_burnt rfl sc_Row_burnt.nd rfl (genS_by (N := N_Row_burnt) (sc := d_Row_burnt.scope) (by decide +kernel)) (pe_callB (cr_sortD hr) (by rfl) T.fr_sorted (by decide +kernel) (pa_cons (pe_fld (pv 0) rfl) pa_nil)) (fun _ _ _ => qts_one (qt_cmp oq_eq (q_ix (q_get (q_fld (q_var 0)) (q_var 1)) q_int) q_int)) (fun _ _ _ => (q_var 1)) (fun _ => rfl)))), ?_⟩
    obtain ⟨D, hz, tb, k⟩ := h
    obtain ⟨⟨dx, h1⟩, hs, ia, ib⟩ := id D
    walk_at "go"
    refine ⟨_, _, rfl, .inl hs.dc, (by rw [names_kv]; exact sortb_str _), fun p hp => ?_⟩
    rw [names_kv, sortV_str]
    have g1 : Go (TL K) (TG K) (fun _ => False) H (upd H p (.lst ((sortS (R.map (·.1))).map V.str))) := Go.new hp
    refine ⟨(g1.tb tb).gen _ T.tg_Row_burnt, _, ⟨p, rfl, .inl (SqL.of upd_same)⟩, fun H2 hT => ?_⟩
    have g2 := g1.trans (Go.tab hT ((g1.tb tb).gen _ T.tg_Row_burnt) T.tg_Row_burnt T.td_Row_burnt)
    have D2 := D.go g2 id id (fun _ _ => id) (fun _ _ => id)
    obtain ⟨⟨dx2, h2⟩, hs2, _, _⟩ := id D2
    refine ⟨strP fun n => ((R.lookup n).map fun h => decide (h.fuel = 0)).getD false, fun x => x, fun x hx => ?_, fun x hx _ => ⟨_, rfl, rfl⟩, ?_⟩
    · obtain ⟨n, hn, rfl⟩ := List.mem_map.mp hx
      obtain ⟨h, e⟩ := look_key (mem_sortS.mp hn) D.hs.nd
      have ha := hs2.at_ e
      walk_at "v"; walk_at "f"; walk_at "v"
      refine ⟨_, _, Sum.inr n, _, rfl, rfl, .inl hs2.dc, (by rw [val_look, e] <;> rfl), ?_⟩
      refine ⟨_, _, 1, _, rfl, rfl, .inl (SqL.of ha), rfl, _, _, rfl, rfl, rfl, _, rfl, ?_⟩
      show decide (V.int h.fuel = V.int 0) = _
      unfold strP
      simp [e]
    · rw [filter_str, List.map_id']
      refine ⟨?_, fun q hq => k q _ (g2.free q hq) upd_same (g2.trans (Go.new hq))⟩
      rw [List.length_map]
      exact thou (Nat.le_trans (names_len R _) hz)
abbrev N_Row_heat_at : List Str := ["self", "corner", "name"]
theorem sc_Row_heat_at : FnScope N_Row_heat_at ["self", "corner"] d_Row_heat_at.scope := ⟨rfl, rfl, rfl, by decide +kernel, rfl, by decide +kernel, by decide +kernel⟩
theorem ok_Row_heat_at (T : Txt K mg base) : Good P w K mg base 1 (He.fAd K d_Row_heat_at.at_) ["self", "corner"] [] (sp_Row_heat_at K) := by
  refine good_of0 T.fn_Row_heat_at sc_Row_heat_at rfl rfl (fun _ _ _ _ _ _ us hl => match us, hl with | [_, _], _ => rfl) (fun vs H Q E h => ?_) (fun A outer s H vs Q E hr h => ?_)
  · obtain ⟨r, d, R, fa, fb, c, rfl, _⟩ := h
    rfl
  · obtain ⟨r, d, R, fa, fb, c, rfl, h⟩ := h
    have cl_Row := T.cl_Row
    have no_Row_houses := T.no_Row_houses
    refine ⟨_, (pss_one (ps_ret (pe_genB (i := 2) tk_sum (by rfl) T.fr_sum (by decide +kernel) hr T.tb_Row_heat_at rfl sc_Row_heat_at.nd rfl (genS_by (N := N_Row_heat_at) (sc := d_Row_heat_at.scope) (by decide +kernel)) (pe_fld (pv 0) rfl) (fun _ _ _ => qts_one (qt_cmp oq_eq (q_ix (q_get (q_fld (q_var 0)) (q_var 2)) q_int) (q_var 1))) (fun _ _ _ => (q_ix (q_get (q_fld (q_var 0)) (q_var 2)) q_int)) (fun _ => rfl)))), ?_⟩
    obtain ⟨D, tb, k⟩ := h
    obtain ⟨⟨dx, h1⟩, hs, ia, ib⟩ := id D
    walk_at "go"
    refine ⟨tb.gen _ T.tg_Row_heat_at, _, ⟨d, rfl, .inr (.inr ⟨_, .inl hs.dc, rfl⟩)⟩, fun H2 hT => ?_⟩
    rw [names_kv]
    have g2 : Go (TL K) (TG K) (fun _ => False) H H2 := Go.tab hT (tb.gen _ T.tg_Row_heat_at) T.tg_Row_heat_at T.td_Row_heat_at
    have D2 := D.go g2 id id (fun _ _ => id) (fun _ _ => id)
    obtain ⟨⟨dx2, h2⟩, hs2, _, _⟩ := id D2
    refine ⟨strP fun n => ((R.lookup n).map fun h => decide (h.corner = c)).getD false, fun x => match x with | .str n => .int (((R.lookup n).map fun h => h.heat).getD 0) | _ => .non, fun x hx => ?_, fun x hx _ => ?_, ?_⟩
    · obtain ⟨n, hn, rfl⟩ := List.mem_map.mp hx
      obtain ⟨h, e⟩ := look_key hn D.hs.nd
      have ha := hs2.at_ e
      walk_at "v"; walk_at "f"; walk_at "v"
      refine ⟨_, _, Sum.inr n, _, rfl, rfl, .inl hs2.dc, (by rw [val_look, e] <;> rfl), ?_⟩
      refine ⟨_, _, 0, _, rfl, rfl, .inl (SqL.of ha), rfl, _, rfl, _, _, rfl, rfl, rfl, _, rfl, ?_⟩
      show decide (V.str h.corner = V.str c) = _
      unfold strP
      simp [e]
    · obtain ⟨n, hn, rfl⟩ := List.mem_map.mp hx
      obtain ⟨h, e⟩ := look_key hn D.hs.nd
      have ha := hs2.at_ e
      walk_at "v"; walk_at "f"; walk_at "v"
      refine ⟨_, _, Sum.inr n, _, rfl, rfl, .inl hs2.dc, (by rw [val_look, e] <;> rfl), ?_⟩
      refine ⟨_, _, 2, _, rfl, rfl, .inl (SqL.of ha), rfl, ?_⟩
      simp [e]
    · rw [filter_str, List.map_map]
      refine ⟨((R.map (·.1)).filter fun n => ((R.lookup n).map fun h => decide (h.corner = c)).getD false).map fun n => ((R.lookup n).map fun h => h.heat).getD 0, ?_, ?_⟩
      · rw [List.map_map]
        rfl
      · have e : heatAt R c = (((R.map (·.1)).filter fun n => ((R.lookup n).map fun h => decide (h.corner = c)).getD false).map fun n => ((R.lookup n).map fun h => h.heat).getD 0).sum := by
          unfold heatAt
          rw [List.filter_map, List.map_map]
          have q : ∀ p ∈ R, R.lookup p.1 = some p.2 := fun p hp => mem_look D.hs.nd hp
          have e1 : (R.filter fun p => decide (p.2.corner = c)) = R.filter ((fun n => ((R.lookup n).map fun h => decide (h.corner = c)).getD false) ∘ fun p => p.1) := by
            refine List.filter_congr fun p hp => ?_
            show _ = ((R.lookup p.1).map fun h => decide (h.corner = c)).getD false
            rw [q p hp] <;> rfl
          rw [e1]
          congr 1
          refine List.map_congr_left fun p hp => ?_
          have hp' := (List.mem_filter.mp hp).1
          show p.2.heat = ((R.lookup p.1).map fun h => h.heat).getD 0
          rw [q p hp'] <;> rfl
        rw [← e]
        exact k _ g2
end
end K3
namespace K3
open PySem PySem.Spec PyProof.Rows L2 Fy
open GxR (TabG Tabbed)
def mubN : Nat → Int → Int → Int → Int
  | 0, _, _, m => m
  | k + 1, f, h, m => if 0 < f then mubN k (f - (h + 9) / 10) (if h + 5 < 100 then h + 5 else 100) (m + 1) else m
theorem mubN_any : ∀ (k j : Nat) (f h m : Int), f.toNat ≤ k → f.toNat ≤ j → 10 ≤ h → mubN k f h m = mubN j f h m
  | 0, 0, _, _, _, _, _, _ => rfl
  | 0, j + 1, f, h, m, h1, _, _ => by
    rw [mubN, mubN, if_neg (by omega)]
  | k + 1, 0, f, h, m, _, h2, _ => by
    rw [mubN, mubN, if_neg (by omega)]
  | k + 1, j + 1, f, h, m, h1, h2, hh => by
    rw [mubN, mubN]
    by_cases e : 0 < f
    · rw [if_pos e, if_pos e]
      exact mubN_any k j _ _ _ (by omega) (by omega) (by split <;> omega)
    · rw [if_neg e, if_neg e]
def mub (h : House) : Int := mubN h.fuel.toNat h.fuel (if 10 > h.heat then 10 else h.heat) 0
def sp_Row_minutes_until_burnt (K : PySem.W.Frag) : Sp := fun vs H Q E => ∃ (r d : Addr) (R : Hs) (fa fb : Str → Addr) (n : Str), vs = [.ref r, .str n] ∧ RowAt (CRow K) H r d R fa fb ∧
  (R.lookup n = none → E (.ref (CErr K)) none H) ∧ (∀ h, R.lookup n = some h → Q (.int (mub h)) H)
section
variable {P : Program} {w : World} {K : PySem.W.Frag} {mg : Str → Option Value} {base : Heap}
abbrev N_Row_minutes_until_burnt : List Str := ["self", "name", "corner", "fuel", "heat", "beside", "many"]
theorem sc_Row_minutes_until_burnt : FnScope N_Row_minutes_until_burnt ["self", "name"] d_Row_minutes_until_burnt.scope := ⟨rfl, rfl, rfl, by decide +kernel, rfl, by decide +kernel, by decide +kernel⟩
theorem ok_Row_minutes_until_burnt (T : Txt K mg base) : Good P w K mg base 2 (He.fAd K d_Row_minutes_until_burnt.at_) ["self", "name"] [] (sp_Row_minutes_until_burnt K) := by
  refine good_of0 T.fn_Row_minutes_until_burnt sc_Row_minutes_until_burnt rfl rfl (fun _ _ _ _ _ _ us hl => match us, hl with | [_, _], _ => rfl) (fun vs H Q E h => ?_) (fun A outer s H vs Q E hr h => ?_)
  · obtain ⟨r, d, R, fa, fb, n, rfl, _⟩ := h
    rfl
  · obtain ⟨r, d, R, fa, fb, n, rfl, h⟩ := h
    have cl_Row := T.cl_Row
    have no_Row_houses := T.no_Row_houses
    obtain ⟨tk_HOTTEST, C_HOTTEST⟩ := T.c_HOTTEST
    refine ⟨_, (pss_cons (ps_asg (pg_meth (ok_Row_house T) (hr.mono (by decide)) T.cl_Row T.me_Row_house px (pv 0) (pa_cons (pv 1) pa_nil)) (pg_lst rfl (pgs_cons (pg_name (i := 2) sc_Row_minutes_until_burnt.nd rfl (by first | exact Or.inl rfl | exact Or.inr rfl)) (pgs_cons (pg_name (i := 3) sc_Row_minutes_until_burnt.nd rfl (by first | exact Or.inl rfl | exact Or.inr rfl)) (pgs_cons (pg_name (i := 4) sc_Row_minutes_until_burnt.nd rfl (by first | exact Or.inl rfl | exact Or.inr rfl)) (pgs_cons (pg_name (i := 5) sc_Row_minutes_until_burnt.nd rfl (by first | exact Or.inl rfl | exact Or.inr rfl)) pgs_nil))))))
    (pss_cons (ps_par (i := 6) (j := 4) rfl sc_Row_minutes_until_burnt.nd rfl rfl (by decide) rfl rfl (pa_cons pe_int (pa_cons (pe_callB (call_max2 rfl) (by rfl) T.fr_max (by decide +kernel) (pa_cons (pv 4) (pa_cons pe_int pa_nil))) pa_nil)) (by rfl))
    (pss_cons (ps_while (passes_of rfl) (pt_cmpR op_gt (pv 3) pe_int (nomark _)) (pss_cons (ps_aug (i := 3) sc_Row_minutes_until_burnt.nd rfl (by first | exact Or.inl rfl | exact Or.inr rfl) (pe_op op_fdiv (pe_op op_add (pv 4) pe_int) pe_int) ip_sub)
      (pss_cons (ps_set (i := 4) sc_Row_minutes_until_burnt.nd rfl (by first | exact Or.inl rfl | exact Or.inr rfl) (pe_callB (call_min2 rfl) (by rfl) T.fr_min (by decide +kernel) (pa_cons (pe_glob (v := .int 100) rfl C_HOTTEST ⟨_, rfl⟩) (pa_cons (pe_op op_add (pv 4) pe_int) pa_nil))))
      (pss_one (ps_aug (i := 6) sc_Row_minutes_until_burnt.nd rfl (by first | exact Or.inl rfl | exact Or.inr rfl) pe_int ip_add)))))
    (pss_one (ps_ret (pv 6)))))), ?_⟩
    obtain ⟨D, k1, k2⟩ := h
    obtain ⟨⟨dx, h1⟩, hs, ia, ib⟩ := id D
    walk_at "v"
    refine ⟨_, _, _, rfl, h1, rfl, ?_⟩
    walk_at "v"
    refine ⟨r, d, R, fa, fb, n, rfl, D, fun h e => ?_, fun e => k1 e⟩
    have ha := hs.at_ e
    refine ⟨_, _, rfl, SqL.of ha, rfl, ?_⟩
    refine ⟨_, _, rfl, _, _, rfl, _, _, rfl, _, _, rfl, rfl, ?_⟩
    walk_at "v"
    refine ⟨_, _, rfl, ?_⟩
    refine ⟨_, _, rfl, ?_⟩
    refine ⟨fun m σ H1 => ∃ f g k : Int, m = f.toNat ∧ 10 ≤ g ∧ mubN f.toNat f g k = mub h ∧ H1 = H ∧ σ = [some (.ref r), some (.str n), some (.str h.corner), some (.int f), some (.int g), some (.ref (fb n)), some (.int k)], ⟨_, _, _, _, rfl, ?_, rfl, rfl, rfl⟩, ?_⟩
    · split <;> omega
    rintro m σ H1 ⟨f, g, k, rfl, hg, em, rfl, rfl⟩
    walk_at "go"
    by_cases hf : 0 < f
    · have e1 : (decide (0 < f)) = true := decide_eq_true hf
      rw [e1]
      refine ⟨_, fun σ' H' q => q, ?_⟩
      walk_at "go"
      refine ⟨⟨(by decide), (by decide)⟩, ?_⟩
      walk_at "go"
      refine ⟨_, _, rfl, ?_⟩
      walk_at "go"
      refine ⟨(f - (g + 9) / 10).toNat, by omega, _, _, _, rfl, ?_, ?_, rfl, rfl⟩
      · split <;> omega
      · have : f.toNat = (f.toNat - 1) + 1 := by omega
        rw [this] at em
        rw [mubN, if_pos hf] at em
        rw [← em]
        exact mubN_any _ _ _ _ _ (Nat.le_refl _) (by omega) (by split <;> omega)
    · have e1 : (decide (0 < f)) = false := decide_eq_false hf
      rw [e1]
      walk_at "v"
      have : k = mub h := by
        rw [← em, show f.toNat = 0 by omega] <;> rfl
      rw [this]
      exact k2 h e
end
end K3
namespace K3
open PySem PySem.Spec PyProof.Rows L2 Fy
open GxR (TabG Tabbed)
theorem DGet.kr {H : Hp} {a : Addr} {kvs : List (Key × V)} {k : Key} (e : Rd H a (.dK kvs)) : DGet H a (kV k) (valV kvs k) := .inl ⟨kvs, k, e, rfl, rfl⟩
theorem look_none {α : Type} {R : List (Str × α)} {n : Str} (h : R.lookup n = none) : ∀ p ∈ R, p.1 ≠ n := fun p hp z => by
  induction R with
  | nil => cases hp
  | cons q r ih =>
    obtain ⟨m, x⟩ := q
    rw [List.lookup_cons] at h
    by_cases e : n = m
    · subst e
      simp at h
    · have e2 : (n == m) = false := by simpa using e
      rw [e2] at h
      rcases List.mem_cons.mp hp with y | y
      · rw [y] at z
        exact e z.symm
      · exact ih h y
theorem look_app {α : Type} {R : List (Str × α)} {n m : Str} {x : α} : (R ++ [(n, x)]).lookup m = (R.lookup m).or (if m = n then some x else none) := by
  induction R with
  | nil =>
    rw [List.nil_append, List.lookup_cons]
    by_cases e : m = n
    · subst e; simp
    · have e2 : (m == n) = false := by simpa using e
      rw [e2, if_neg e] <;> rfl
  | cons q r ih =>
    obtain ⟨k, y⟩ := q
    rw [List.cons_append, List.lookup_cons, List.lookup_cons, ih]
    by_cases e : m = k
    · subst e; simp
    · have e2 : (m == k) = false := by simpa using e
      rw [e2]
theorem RowAt.add {C : Addr} {H : Hp} {r d p q : Addr} {R : Hs} {fa fb : Str → Addr} {n c : Str} {f : Int} {bs : List Str} (D : RowAt C H r d R fa fb) (hn : R.lookup n = none) (hq : H q = none) (hp : upd H q (.lst (bs.map V.str)) p = none) :
    RowAt C (upd (upd (upd H q (.lst (bs.map V.str))) p (.lst [.str c, .int f, .int 0, .ref q])) d (.dK (putK (R.map fun p => (Sum.inr p.1, V.ref (fa p.1))) (Sum.inr n) (.ref p)))) r d (R ++ [(n, ⟨c, f, 0, bs⟩)]) (fun m => if m = n then p else fa m) (fun m => if m = n then q else fb m) := by
  obtain ⟨⟨dx, h1⟩, ⟨dc, row, bes, nd⟩, ia, ib⟩ := D
  obtain ⟨n1, hp'⟩ := upd_none.mp hp
  have n2 : r ≠ d := ne_of h1 dc (by intro z; cases z)
  have n3 := ne_of_none h1 hq
  have n4 := ne_of_none h1 hp'
  have n5 := ne_of_none dc hq
  have n6 := ne_of_none dc hp'
  have nn := look_none hn
  have keep : ∀ b o, H b = some o → b ≠ d → upd (upd (upd H q (.lst (bs.map V.str))) p (.lst [.str c, .int f, .int 0, .ref q])) d (.dK (putK (R.map fun p => (Sum.inr p.1, V.ref (fa p.1))) (Sum.inr n) (.ref p))) b = some o := fun b o e ne => by
    rw [upd_ne ne, upd_ne (ne_of_none e hp'), upd_ne (ne_of_none e hq)]
    exact e
  have eapp : ∀ x ∈ R ++ [(n, (⟨c, f, 0, bs⟩ : House))], (x ∈ R ∧ x.1 ≠ n) ∨ (x = (n, ⟨c, f, 0, bs⟩)) := fun x hx => by
    rcases List.mem_append.mp hx with y | y
    · exact .inl ⟨y, nn x y⟩
    · exact .inr (List.mem_singleton.mp y)
  refine ⟨⟨dx, keep _ _ h1 n2⟩, ⟨?_, fun x hx => ?_, fun x hx => ?_, ?_⟩, fun x hx y hy z => ?_, fun x hx y hy z => ?_⟩
  · rw [upd_same, putK_new _ (by rw [val_look, hn] <;> rfl), List.map_append]
    have e1 : R.map (fun x => ((Sum.inr x.1 : Key), V.ref (if x.1 = n then p else fa x.1))) = R.map fun p => (Sum.inr p.1, V.ref (fa p.1)) := List.map_congr_left fun x hx => by rw [if_neg (nn x hx)]
    rw [e1]
    simp
  · rcases eapp x hx with ⟨y, e⟩ | rfl
    · simp only [if_neg e]
      exact keep _ _ (row x y) (ne_of (row x y) dc (by intro z; cases z))
    · simp only [if_pos]
      rw [upd_ne (Ne.symm n6), upd_same] <;> rfl
  · rcases eapp x hx with ⟨y, e⟩ | rfl
    · simp only [if_neg e]
      exact keep _ _ (bes x y) (ne_of (bes x y) dc (by intro z; cases z))
    · simp only [if_pos]
      rw [upd_ne (Ne.symm n5), upd_ne (Ne.symm n1), upd_same]
  · rw [List.map_append, List.nodup_append]
    refine ⟨nd, by simp, fun a ha b hb => ?_⟩
    obtain ⟨x, hx, rfl⟩ := List.mem_map.mp ha
    have : b = n := by simpa using hb
    rw [this]
    exact nn x hx
  · rcases eapp x hx with ⟨hx, e⟩ | rfl <;> rcases eapp y hy with ⟨hy, e'⟩ | rfl
    · simp only [if_neg e, if_neg e'] at z
      exact ia x hx y hy z
    · simp only [if_neg e, if_pos] at z
      exact absurd z (ne_of_none (row x hx) hp')
    · simp only [if_neg e', if_pos] at z
      exact absurd z.symm (ne_of_none (row y hy) hp')
    · rfl
  · rcases eapp x hx with ⟨hx, e⟩ | rfl <;> rcases eapp y hy with ⟨hy, e'⟩ | rfl
    · simp only [if_neg e, if_neg e'] at z
      exact ib x hx y hy z
    · simp only [if_neg e, if_pos] at z
      exact absurd z (ne_of_none (bes x hx) hq)
    · simp only [if_neg e', if_pos] at z
      exact absurd z.symm (ne_of_none (bes y hy) hq)
    · rfl
theorem updH_mem {R : Hs} {n : Str} {f : House → House} {p : Str × House} (hp : p ∈ updH R n f) : ∃ q ∈ R, q.1 = p.1 ∧ p.2 = if p.1 = n then f q.2 else q.2 := by
  obtain ⟨q, hq, rfl⟩ := List.mem_map.mp hp
  refine ⟨q, hq, ?_⟩
  by_cases z : q.1 = n
  · rw [if_pos z]; exact ⟨rfl, (if_pos z).symm⟩
  · rw [if_neg z]; exact ⟨rfl, (if_neg z).symm⟩
theorem look_updH {R : Hs} {n m : Str} {f : House → House} : (updH R n f).lookup m = (R.lookup m).map fun x => if m = n then f x else x := by
  induction R with
  | nil => rfl
  | cons q r ih =>
    obtain ⟨k, y⟩ := q
    have e0 : updH ((k, y) :: r) n f = (k, if k = n then f y else y) :: updH r n f := by
      unfold updH
      rw [List.map_cons]
      congr 1
      show (if k = n then (k, f y) else (k, y)) = _
      split <;> rfl
    rw [e0, List.lookup_cons, List.lookup_cons, ih]
    by_cases e : m = k
    · subst e; simp
    · have e2 : (m == k) = false := by simpa using e
      rw [e2]
theorem RowAt.link {C : Addr} {H : Hp} {r d : Addr} {R : Hs} {fa fb : Str → Addr} {m n : Str} {h : House} (D : RowAt C H r d R fa fb) (e : R.lookup m = some h) :
    RowAt C (upd H (fb m) (.lst (h.beside.map V.str ++ [.str n]))) r d (updH R m fun x => { x with beside := x.beside ++ [n] }) fa fb := by
  obtain ⟨⟨dx, h1⟩, ⟨dc, row, bes, nd⟩, ia, ib⟩ := D
  have hm := look_mem e
  have ha := bes _ hm
  have n1 : r ≠ fb m := ne_of h1 ha (by intro z; cases z)
  have n2 : d ≠ fb m := ne_of dc ha (by intro z; cases z)
  have hq : ∀ q ∈ R, q.1 = m → q.2 = h := fun q hq z => by
    have hq' : R.lookup m = some q.2 := mem_look nd (by rw [← z]; exact hq)
    rw [e] at hq'
    exact (Option.some.inj hq').symm
  refine ⟨⟨dx, by rw [upd_ne n1]; exact h1⟩, ⟨?_, fun p hp => ?_, fun p hp => ?_, by rw [keys_updH]; exact nd⟩, fun p hp q hq z => ?_, fun p hp q hq z => ?_⟩
  · rw [upd_ne n2, dc]
    have k := congrArg (List.map fun x => ((Sum.inr x : Key), V.ref (fa x))) (keys_updH R m fun x => { x with beside := x.beside ++ [n] })
    rw [List.map_map, List.map_map] at k
    exact congrArg some (congrArg HO.dK k.symm)
  · obtain ⟨q, hq', e1, e2⟩ := updH_mem hp
    have : hvals p.2 (fb p.1) = hvals q.2 (fb p.1) := by
      rw [e2]
      split <;> rfl
    rw [this, ← e1, upd_ne (ne_of (row q hq') ha hv_ne)]
    exact row q hq'
  · obtain ⟨q, hq', e1, e2⟩ := updH_mem hp
    by_cases z : p.1 = m
    · have e3 : q.2 = h := hq q hq' (by rw [e1]; exact z)
      rw [z, upd_same, e2, if_pos z, e3]
      simp
    · rw [upd_ne (fun y => z ?_), e2, if_neg z, ← e1]
      · exact bes q hq'
      · rw [← e1] at y ⊢
        exact ib q hq' _ hm y
  · obtain ⟨p', hp', e1, _⟩ := updH_mem hp
    obtain ⟨q', hq', e2, _⟩ := updH_mem hq
    rw [← e1, ← e2] at z ⊢
    exact ia p' hp' q' hq' z
  · obtain ⟨p', hp', e1, _⟩ := updH_mem hp
    obtain ⟨q', hq', e2, _⟩ := updH_mem hq
    rw [← e1, ← e2] at z ⊢
    exact ib p' hp' q' hq' z
theorem link_look {n : Str} : ∀ (pre : List Str) {R : Hs} {m : Str} {h : House}, R.lookup m = some h → ∃ h', (pre.foldl (fun R m => updH R m fun x => { x with beside := x.beside ++ [n] }) R).lookup m = some h' ∧ h'.beside.length ≤ h.beside.length + pre.length
  | [], _, _, h, e => ⟨h, e, Nat.le_refl _⟩
  | a :: pre, R, m, h, e => by
    have e2 : (updH R a fun x => { x with beside := x.beside ++ [n] }).lookup m = some (if m = a then { h with beside := h.beside ++ [n] } else h) := by
      rw [look_updH, e] <;> rfl
    obtain ⟨h', q1, q2⟩ := link_look (n := n) pre e2
    refine ⟨h', q1, Nat.le_trans q2 ?_⟩
    rw [List.length_cons]
    split
    · simp
      omega
    · omega
def canBuild (R : Hs) (n : Str) (f : Int) (bs : List Str) : Bool := !((R.lookup n).isSome || decide (n = "") || decide (f < 1) || decide (60 ≤ R.length)) && bs.all fun o => (R.lookup o).isSome
def buildS (R : Hs) (n c : Str) (f : Int) (bs : List Str) : Hs := bs.foldl (fun R m => updH R m fun x => { x with beside := x.beside ++ [n] }) (R ++ [(n, ⟨c, f, 0, bs⟩)])
def sp_Row_build (K : PySem.W.Frag) : Sp := fun vs H Q E => ∃ (r d : Addr) (R : Hs) (fa fb : Str → Addr) (n c : Str) (f : Int) (b : Addr) (bs : List Str), vs = [.ref r, .str n, .str c, .int f, .ref b] ∧ RowAt (CRow K) H r d R fa fb ∧ Tb (TL K) (TG K) H ∧
  ((∀ H', Go (TL K) (TG K) (fun a => a = d ∨ ∃ p ∈ R, a = fb p.1) H H' → SqL K H' b (bs.map V.str)) ∨ (∀ H', Go (TL K) (TG K) (fun a => a = d ∨ ∃ p ∈ R, a = fb p.1) H H' → SqT K H' b (bs.map V.str))) ∧ (∀ p ∈ R, p.2.beside.length + bs.length ≤ 1000) ∧ bs.length ≤ 1000 ∧
  (canBuild R n f bs = false → ∀ H', Go (TL K) (TG K) (fun _ => False) H H' → E (.ref (CErr K)) none H') ∧
  (canBuild R n f bs = true → ∀ fa' fb' H', H (fa' n) = none → H (fb' n) = none → (∀ m, m ≠ n → fa' m = fa m ∧ fb' m = fb m) → RowAt (CRow K) H' r d (buildS R n c f bs) fa' fb' → Go (TL K) (TG K) (fun a => a = d ∨ ∃ p ∈ R, a = fb p.1) H H' → Q .non H')
section
variable {P : Program} {w : World} {K : PySem.W.Frag} {mg : Str → Option Value} {base : Heap}
theorem bi_Row_build4 (T : Txt K mg base) (fd : FuncData) (D : FunD K d_Row_build.name d_Row_build.qual d_Row_build.params d_Row_build.body d_Row_build.scope (d_Row_build.dvs K) (d_Row_build.kws K) (He.fAd K d_Row_build.at_) fd) :
    ∃ dvs, Vals [V.ref (He.dflAt ("Row", some "build") 0 K)] dvs ∧ Binds K fd ["self", "name", "corner", "fuel", "beside"] dvs :=
  D.binds1 (ps := ["self", "name", "corner", "fuel", "beside"]) 4 0 (fun z => by cases z) (by rfl) fun T kV doc pm an cdv ct us its hl hi => match us, its, hl, hi with
    | [_, _, _, _], [_], _, _ => ⟨_, rfl, rfl⟩
theorem bi_Row_build5 (T : Txt K mg base) (fd : FuncData) (D : FunD K d_Row_build.name d_Row_build.qual d_Row_build.params d_Row_build.body d_Row_build.scope (d_Row_build.dvs K) (d_Row_build.kws K) (He.fAd K d_Row_build.at_) fd) :
    ∃ dvs, Vals [] dvs ∧ Binds K fd ["self", "name", "corner", "fuel", "beside"] dvs :=
  D.binds1 (ps := ["self", "name", "corner", "fuel", "beside"]) 5 1 (fun z => by cases z) (by rfl) fun T kV doc pm an cdv ct us its hl hi => match us, its, hl, hi with
    | [_, _, _, _, _], [_], _, _ => ⟨_, rfl, rfl⟩
abbrev N_Row_build : List Str := ["self", "name", "corner", "fuel", "beside", "other"]
theorem sc_Row_build : FnScope N_Row_build ["self", "name", "corner", "fuel", "beside"] d_Row_build.scope := ⟨rfl, rfl, rfl, by decide +kernel, rfl, by decide +kernel, by decide +kernel⟩
theorem ok_Row_build_any (T : Txt K mg base) {ds : List V} (hb : ∀ fd, FunD K d_Row_build.name d_Row_build.qual d_Row_build.params d_Row_build.body d_Row_build.scope (d_Row_build.dvs K) (d_Row_build.kws K) (He.fAd K d_Row_build.at_) fd → ∃ dvs, Vals ds dvs ∧ Binds K fd ["self", "name", "corner", "fuel", "beside"] dvs) : Good P w K mg base 1 (He.fAd K d_Row_build.at_) ["self", "name", "corner", "fuel", "beside"] ds (sp_Row_build K) := by
  refine good_of T.fn_Row_build sc_Row_build hb (fun vs H Q E h => ?_) (fun A outer s H vs Q E hr h => ?_)
  · obtain ⟨r, d, R, fa, fb, n, c, f, b, bs, rfl, _⟩ := h
    rfl
  · obtain ⟨r, d, R, fa, fb, n, c, f, b, bs, rfl, h⟩ := h
    have hu := hu_of hr
    have cl_Row := T.cl_Row
    have no_Row_houses := T.no_Row_houses
    obtain ⟨tk_MOST_HOUSES, C_MOST_HOUSES⟩ := T.c_MOST_HOUSES
    refine ⟨_, (pss_cons (ps_if (PW.pt (pw_or (pt_cmp (pc_din hu (pv 1) (pe_fld (pv 0) rfl))) (pw_or (pt_cmpR op_eq (pv 1) pe_str (nomark _)) (pw_or (pt_cmpR op_lt (pv 3) pe_int (nomark _)) (pw_or1 (pt_cmpR op_ge (pe_callB call_lenD (by rfl) T.fr_len (PySem.boot_len) (pa_cons (pe_fld (pv 0) rfl) pa_nil)) (pe_glob (v := .int 60) rfl C_MOST_HOUSES ⟨_, rfl⟩) (nomark _))))))) (pss_one (ps_raiseC rfl tkx T.ex_BlazeError T.gl_BlazeError rfl)) pss_nil)
    (pss_cons (ps_if (pt_val (pe_genB (i := 5) tk_any (by rfl) T.fr_any (by decide +kernel) hr T.tb_Row_build rfl sc_Row_build.nd rfl (genS_by (N := N_Row_build) (sc := d_Row_build.scope) (by decide +kernel)) (pv 4) (fun _ _ _ => qts_nil) (fun _ _ _ => (q_cmp oq_dnotin (q_var 5) (q_fld (q_var 0)))) (fun _ => rfl))) (pss_one (ps_raiseC rfl tkx T.ex_BlazeError T.gl_BlazeError rfl)) pss_nil)
    (pss_cons (ps_dput hu (pe_fld (pv 0) rfl) (pv 1) (pe_lst (pa_cons (pv 2) (pa_cons (pv 3) (pa_cons pe_int (pa_cons (pe_callTy call_list_of (by rfl) T.fr_list (by decide +kernel) (pa_cons (pv 4) pa_nil)) pa_nil))))) rfl)
    (pss_one (ps_for (passes_of rfl) rfl (pi_seq (pv 4)) (pg_name (i := 5) sc_Row_build.nd rfl (by first | exact Or.inl rfl | exact Or.inr rfl)) (pss_one (ps_expr (pe_bm PySem.F.plainAttrs_list PySem.F.slot_list_append PySem.F.type_list_append mt_append (pe_ix ix_list (pe_dget hu (pe_fld (pv 0) rfl) (pv 5) (fun _ _ => rfl)) pe_int (fun _ _ => rfl)) (pa_cons (pv 1) pa_nil))))))))), ?_⟩
    obtain ⟨D, tb, src, hb1, hb2, k1, k2⟩ := h
    obtain ⟨⟨dx, h1⟩, hs, ia, ib⟩ := id D
    walk_at "go"
    refine ⟨_, _, rfl, hs.no, _, rfl, ?_⟩
    refine ite2 (fun z => iteT (k1 ?_ _ .refl)) (fun z => ?_)
    · have e : (R.lookup n).isSome = true := by rw [← z]; cases R.lookup n <;> rfl
      simp [canBuild, e]
    have c1 : R.lookup n = none := by
      cases e : R.lookup n with
      | none => rfl
      | some h => exact absurd (by rw [e] <;> rfl) z
    walk_at "go"
    refine ite2 (fun z => iteT (k1 ?_ _ .refl)) (fun z => ?_)
    · have e : n = "" := by simpa using z
      simp [canBuild, e]
    have c2 : ¬ n = "" := by simpa using z
    walk_at "go"
    refine ite2 (fun z => iteT (k1 ?_ _ .refl)) (fun z => ?_)
    · have e : f < 1 := by simpa using z
      simp [canBuild, e]
    have c3 : ¬ f < 1 := by simpa using z
    walk_at "go"
    refine ⟨_, _, rfl, hs.dc, ?_⟩
    walk_at "go"
    refine ite2 (fun z => k1 ?_ _ .refl) (fun z => ?_)
    · have e : 60 ≤ R.length := by
        have := of_decide_eq_true z
        simp at this
        omega
      simp [canBuild, e]
    have c4 : ¬ 60 ≤ R.length := fun e => z (decide_eq_true (by simp; omega))
    walk_at "go"
    refine ⟨tb.gen _ T.tg_Row_build, bs.map V.str, ⟨b, rfl, ?_⟩, fun H2 hT => ?_⟩
    · rcases src with q | q
      · exact .inl (q H .refl)
      · exact .inr (.inl (q H .refl))
    have g2 : Go (TL K) (TG K) (fun _ => False) H H2 := Go.tab hT (tb.gen _ T.tg_Row_build) T.tg_Row_build T.td_Row_build
    have D2 := D.go g2 id id (fun _ _ => id) (fun _ _ => id)
    obtain ⟨⟨dx2, h2⟩, hs2, _, _⟩ := id D2
    refine ⟨fun _ => true, fun x => match x with | .str o => .bl (!(R.lookup o).isSome) | _ => .non, fun x hx => rfl, fun x hx _ => ?_, bs.map fun o => !(R.lookup o).isSome, ?_, _, rfl, ?_⟩
    · obtain ⟨o, ho, rfl⟩ := List.mem_map.mp hx
      walk_at "v"; walk_at "v"; walk_at "f"
      refine ⟨_, _, rfl, rfl, _, _, Sum.inr o, rfl, rfl, .inl hs2.dc, ?_⟩
      rw [val_look, Option.isSome_map]
    · rw [List.map_map, List.filter_eq_self.mpr fun _ _ => rfl, List.map_map]
      rfl
    refine ite2 (fun z => k1 ?_ _ g2) (fun z => ?_)
    · have e : (bs.all fun o => (R.lookup o).isSome) = false := by
        rw [← Bool.not_eq_true]
        intro y
        obtain ⟨x, hx, e⟩ := List.any_eq_true.mp z
        obtain ⟨o, ho, rfl⟩ := List.mem_map.mp hx
        have := List.all_eq_true.mp y o ho
        simp [this] at e
      simp [canBuild, e]
    have c5 : ∀ o ∈ bs, (R.lookup o).isSome = true := fun o ho => by
      cases e : (R.lookup o).isSome with
      | true => rfl
      | false => exact absurd (List.any_eq_true.mpr ⟨_, List.mem_map.mpr ⟨o, ho, rfl⟩, by simp [e]⟩) z
    walk_at "go"
    have sb : ∀ H', Go (TL K) (TG K) (fun a => a = d ∨ ∃ p ∈ R, a = fb p.1) H H' → SqB K H' b (bs.map V.str) := fun H' g => by
      rcases src with q | q
      · exact .inl (q H' g)
      · exact .inr (q H' g)
    refine ⟨b, bs.map V.str, rfl, sb _ (g2.mono fun _ z => z.elim), fun q hq => ?_⟩
    refine ⟨(by show 4 ≤ sizeLine; decide), fun p hp => ?_⟩
    walk_at "v"
    walk_at "f"
    walk_at "v"
    have e5 : upd (upd H2 q (.lst (bs.map V.str))) p (.lst [.str c, .int f, .int 0, .ref q]) d = some (.dK (R.map fun p => (Sum.inr p.1, V.ref (fa p.1)))) := by
      rw [upd_ne (ne_of_none (by rw [upd_ne (ne_of_none hs2.dc hq)]; exact hs2.dc) hp), upd_ne (ne_of_none hs2.dc hq)]
      exact hs2.dc
    refine ⟨d, _, rfl, DPut.k (k := Sum.inr n) e5 (by rw [List.length_map]; exact Nat.lt_of_lt_of_le (Nat.lt_of_not_le c4) (by decide)), ?_⟩
    have D3 := D2.add (c := c) (f := f) c1 hq hp
    walk_at "v"
    have g3 := ((((g2.mono (S' := fun a => a = d ∨ ∃ p ∈ R, a = fb p.1) fun _ z => z.elim).trans (Go.new (o := .lst (bs.map V.str)) hq)).trans (Go.new (o := .lst [.str c, .int f, .int 0, .ref q]) hp))).trans (Go.set (o := .dK (putK (R.map fun p => (Sum.inr p.1, V.ref (fa p.1))) (Sum.inr n) (.ref p))) e5 plain_dK (.inl rfl))
    have f1 : H p = none := g2.free p (upd_none.mp hp).2
    have f2 : H q = none := g2.free q hq
    generalize (upd (upd (upd H2 q (.lst (bs.map V.str))) p (.lst [.str c, .int f, .int 0, .ref q])) d (.dK (putK (R.map fun p => (Sum.inr p.1, V.ref (fa p.1))) (Sum.inr n) (.ref p)))) = H3 at D3 g3 ⊢
    have nm : ∀ m ∈ bs, m ≠ n := fun m hm e => by
      have := c5 m hm
      rw [e, c1] at this
      cases this
    refine seq_fold V.str bs b (fun R m => updH R m fun x => { x with beside := x.beside ++ [n] }) (R ++ [(n, ⟨c, f, 0, bs⟩)])
      (fun R' σ H' => (∃ x5, σ = [some (.ref r), some (.str n), some (.str c), some (.int f), some (.ref b), x5]) ∧ RowAt (CRow K) H' r d R' (fun m => if m = n then p else fa m) (fun m => if m = n then q else fb m) ∧ Go (TL K) (TG K) (fun a => a = d ∨ ∃ p ∈ R, a = fb p.1) H H') ?_ ⟨⟨_, rfl⟩, D3, g3⟩ ?_ ?_
    · rcases src with z | z
      · exact .inl fun _ _ H' h => z H' h.2.2
      · exact .inr fun _ _ H' h => z H' h.2.2
    · rintro pre m post σ H' eb ⟨⟨x5, rfl⟩, D4, g4⟩
      have hm : m ∈ bs := by rw [eb]; simp
      obtain ⟨h0, eh⟩ := Option.isSome_iff_exists.mp (c5 m hm)
      obtain ⟨h4, e4, l4⟩ := link_look (n := n) pre (show (R ++ [(n, (⟨c, f, 0, bs⟩ : House))]).lookup m = some h0 by rw [look_app, eh] <;> rfl)
      obtain ⟨⟨dx4, h4r⟩, hs4, ia4, ib4⟩ := id D4
      have lb := hb1 _ (look_mem eh)
      have ln : pre.length ≤ bs.length := by rw [eb, List.length_append]; omega
      have hrow := hs4.at_ e4
      have hbes := hs4.bes _ (look_mem e4)
      walk_at "v"; walk_at "f"; walk_at "v"
      refine ⟨_, _, rfl, hs4.get e4, ?_⟩
      refine ⟨_, _, _, _, rfl, rfl, SqL.of hrow, rfl, ?_⟩
      refine ⟨.inl ⟨rfl, _, SqL.of hbes⟩, ?_⟩
      walk_at "v"
      refine ⟨_, _, _, rfl, rfl, hbes, ?_, ⟨_, rfl⟩, D4.link e4, g4.trans (Go.set hbes plain_lst (.inr ⟨_, look_mem eh, if_neg (nm m hm)⟩))⟩
      rw [List.length_map]
      have : h4.beside.length ≤ 1000 := by
        have : (m, h0).2.beside.length = h0.beside.length := rfl
        omega
      exact Nat.lt_of_le_of_lt this (by decide)
    · rintro σ H' ⟨_, D4, g4⟩
      refine k2 ?_ _ _ H' (by simpa using f1) (by simpa using f2) (fun m hm => ⟨if_neg hm, if_neg hm⟩) D4 g4
      simp [canBuild, c1, c2, c3, c4]
      intro x hx
      obtain ⟨h0, eh⟩ := Option.isSome_iff_exists.mp (c5 x hx)
      exact ⟨h0, look_mem eh⟩
end
section
variable {P : Program} {w : World} {K : PySem.W.Frag} {mg : Str → Option Value} {base : Heap}
theorem ok_Row_build (T : Txt K mg base) : Good P w K mg base 1 (He.fAd K d_Row_build.at_) ["self", "name", "corner", "fuel", "beside"] [] (sp_Row_build K) := ok_Row_build_any T (bi_Row_build5 T)
theorem ok_Row_build4 (T : Txt K mg base) : Good P w K mg base 1 (He.fAd K d_Row_build.at_) ["self", "name", "corner", "fuel", "beside"] [.ref (He.dflAt ("Row", some "build") 0 K)] (sp_Row_build K) := ok_Row_build_any T (bi_Row_build4 T)
end
end K3
namespace K3
open PySem PySem.Spec PyProof.Rows L2 Fy
open GxR (TabG Tabbed)
abbrev Wt := List (Str × Int)
def wkv (W : Wt) : List (Key × V) := W.map fun p => (Sum.inr p.1, V.int p.2)
def mx (a b : Int) : Int := if b > a then b else a
def mn (a b : Int) : Int := if b < a then b else a
def burn1 (wt : Int) (h : House) : House :=
  if 0 < mx 0 (h.heat - (wt + 1) / 2) then
    { h with fuel := mx 0 (h.fuel - (mx 0 (h.heat - (wt + 1) / 2) + 9) / 10), heat := if 0 < mx 0 (h.fuel - (mx 0 (h.heat - (wt + 1) / 2) + 9) / 10) then mn 100 (mx 0 (h.heat - (wt + 1) / 2) + 5) else 0 }
  else { h with heat := mx 0 (h.heat - (wt + 1) / 2) }
def heatOf (R : Hs) (o : Str) : Int := ((R.lookup o).map fun h => h.heat).getD 0
def topTwo (R : Hs) (h : House) : Int := ((sortI (h.beside.map (heatOf R))).reverse.take 2).sum
def freshQ (R : Hs) (h : House) : Bool := decide (h.heat = 0) && (decide (0 < h.fuel) && decide (120 ≤ topTwo R h))
def freshS (R : Hs) : List Str := namesBy R (freshQ R)
def wOf (W : Wt) (n : Str) : Int := (W.lookup n).getD 0
def burnAll (R : Hs) (W : Wt) : Hs := (burningS R).foldl (fun R n => updH R n (burn1 (wOf W n))) R
def lit (h : House) : House := { h with heat := 10 }
def lightAll (R : Hs) (ns : List Str) : Hs := ns.foldl (fun R n => updH R n lit) R
def minR (R : Hs) (W : Wt) : Hs := lightAll (burnAll R W) (freshS (burnAll R W))
def badW (R : Hs) (W : Wt) : Bool := W.any fun p => decide (p.2 < 0) || !(R.lookup p.1).isSome
/-- who stands beside one is there -/
structure WfR (R : Hs) : Prop where
  in_ : ∀ p ∈ R, ∀ x ∈ p.2.beside, x ∈ R.map (·.1)
  bz : ∀ p ∈ R, p.2.beside.length ≤ 1000
  len : R.length ≤ 1000
theorem len_updH {R : Hs} {n : Str} {f : House → House} : (updH R n f).length = R.length := List.length_map _
theorem WfR.upd {R : Hs} (W : WfR R) {n : Str} {f : House → House} (hf : ∀ x, (f x).beside = x.beside) : WfR (updH R n f) := by
  have hb : ∀ p ∈ updH R n f, ∃ q ∈ R, p.2.beside = q.2.beside := fun p hp => by
    obtain ⟨q, hq, e1, e2⟩ := updH_mem hp
    refine ⟨q, hq, ?_⟩
    rw [e2]
    split
    · exact hf _
    · rfl
  refine ⟨fun p hp x hx => ?_, fun p hp => ?_, by rw [len_updH]; exact W.len⟩
  · obtain ⟨q, hq, e⟩ := hb p hp
    rw [keys_updH]
    exact W.in_ q hq x (by rw [← e]; exact hx)
  · obtain ⟨q, hq, e⟩ := hb p hp
    rw [e]
    exact W.bz q hq
theorem fold_keys {g : Str → House → House} : ∀ (ns : List Str) (R : Hs), (ns.foldl (fun R n => updH R n (g n)) R).map (·.1) = R.map (·.1)
  | [], _ => rfl
  | n :: ns, R => by
    rw [List.foldl_cons, fold_keys ns, keys_updH]
theorem fold_wf {g : Str → House → House} (hg : ∀ n x, (g n x).beside = x.beside) : ∀ (ns : List Str) {R : Hs}, WfR R → WfR (ns.foldl (fun R n => updH R n (g n)) R)
  | [], _, w => w
  | n :: ns, R, w => fold_wf hg ns (w.upd (hg n))
theorem burn1_beside (wt : Int) (x : House) : (burn1 wt x).beside = x.beside := by
  unfold burn1
  split <;> rfl
theorem upd_back {H : Hp} {a : Addr} {x y : HO} (h : H a = some y) : upd (upd H a x) a y = H := by
  rw [upd_upd]
  funext b
  by_cases e : b = a
  · subst e; rw [upd_same, h]
  · rw [upd_ne e]
theorem cut_take {xs : List V} {k : Nat} : cutV xs none (some (k : Int)) = xs.take k := by
  unfold cutV
  rw [HT.sIx_nat, HT.sIx_none, List.drop_zero, Nat.sub_zero]
  rcases Nat.le_total k xs.length with h | h
  · rw [Nat.min_eq_left h]
  · rw [Nat.min_eq_right h, List.take_of_length_le h, List.take_length]
theorem foldl_snoc {α : Type} : ∀ (ys acc : List α), ys.foldl (fun l y => l ++ [y]) acc = acc ++ ys
  | [], acc => by simp
  | y :: ys, acc => by
    rw [List.foldl_cons, foldl_snoc ys]
    simp
theorem val_lookG {α : Type} {R : List (Str × α)} {g : Str → α → V} {n : Str} : valV (R.map fun p => ((Sum.inr p.1 : Key), g p.1 p.2)) (Sum.inr n) = (R.lookup n).map fun x => g n x := by
  induction R with
  | nil => rfl
  | cons p r ih =>
    obtain ⟨m, h⟩ := p
    by_cases e : m = n
    · subst e
      rw [List.map_cons, valV_pos (by rfl), List.lookup_cons]
      simp
    · rw [List.map_cons, valV_neg (by intro z; exact e (Sum.inr.inj z)), ih, List.lookup_cons]
      have : (n == m) = false := by simpa using fun z => e z.symm
      rw [this]
theorem foldl_filter {α : Type} (q : α → Bool) : ∀ (ys acc : List α), ys.foldl (fun acc n => if q n = true then acc ++ [n] else acc) acc = acc ++ ys.filter q
  | [], acc => by simp
  | y :: ys, acc => by
    rw [List.foldl_cons, foldl_filter q ys, List.filter_cons]
    by_cases e : q y = true
    · rw [if_pos e, if_pos e]; simp
    · rw [if_neg e, if_neg e]
def sp_Row_minute (K : PySem.W.Frag) : Sp := fun vs H Q E => ∃ (r d : Addr) (R : Hs) (fa fb : Str → Addr) (wd : Addr) (W : Wt), vs = [.ref r, .ref wd] ∧ RowAt (CRow K) H r d R fa fb ∧ H wd = some (.dK (wkv W)) ∧ wd ≠ d ∧ Tb (TL K) (TG K) H ∧ WfR R ∧ (W.map (·.1)).Nodup ∧
  (badW R W = true → ∀ H', Go (TL K) (TG K) (fun a => a = wd) H H' → E (.ref (CErr K)) none H') ∧
  (badW R W = false → ∀ p H', H p = none → H' p = some (.tup ((freshS (burnAll R W)).map V.str)) → RowAt (CRow K) H' r d (minR R W) fa fb → Go (TL K) (TG K) (fun a => ∃ q ∈ R, a = fa q.1) H H' → Q (.ref p) H')
section
variable {P : Program} {w : World} {K : PySem.W.Frag} {mg : Str → Option Value} {base : Heap}
abbrev N_Row_minute : List Str := ["self", "water", "name", "row", "found", "heats", "other"]
theorem sc_Row_minute : FnScope N_Row_minute ["self", "water"] d_Row_minute.scope := ⟨rfl, rfl, rfl, by decide +kernel, rfl, by decide +kernel, by decide +kernel⟩
theorem ok_Row_minute (T : Txt K mg base) : Good P w K mg base 2 (He.fAd K d_Row_minute.at_) ["self", "water"] [] (sp_Row_minute K) := by
  refine good_of0 T.fn_Row_minute sc_Row_minute rfl rfl (fun _ _ _ _ _ _ us hl => match us, hl with | [_, _], _ => rfl) (fun vs H Q E h => ?_) (fun A outer s H vs Q E hr h => ?_)
  · obtain ⟨r, d, R, fa, fb, wd, W, rfl, _⟩ := h
    rfl
  · obtain ⟨r, d, R, fa, fb, wd, W, rfl, h⟩ := h
    have hu := hu_of hr
    have cl_Row := T.cl_Row
    have no_Row_houses := T.no_Row_houses
    obtain ⟨tk_HOTTEST, C_HOTTEST⟩ := T.c_HOTTEST
    refine ⟨_, (pss_cons (ps_lock (ps_for (passes_of rfl) rfl (pi_keys (pv 1)) (pg_name (i := 2) sc_Row_minute.nd rfl (by first | exact Or.inl rfl | exact Or.inr rfl)) (pss_one (ps_if (PW.pt (pw_or (pt_cmpR op_lt (pe_dget hu (pv 1) (pv 2) (fun _ _ => rfl)) pe_int (nomark _)) (pw_or1 (pt_cmp (pc_dnotin hu (pv 2) (pe_fld (pv 0) rfl)))))) (pss_one (ps_raiseC rfl tkx T.ex_BlazeError T.gl_BlazeError rfl)) pss_nil))))
    (pss_cons (ps_for (passes_of rfl) rfl (pi_tup (pg_meth0 (ok_Row_burning T) (hr.mono (by decide)) T.cl_Row T.me_Row_burning px (pv 0))) (pg_name (i := 2) sc_Row_minute.nd rfl (by first | exact Or.inl rfl | exact Or.inr rfl)) (pss_cons (ps_set (i := 3) sc_Row_minute.nd rfl (by first | exact Or.inl rfl | exact Or.inr rfl) (pe_dget hu (pe_fld (pv 0) rfl) (pv 2) (fun _ _ => rfl)))
      (pss_cons (ps_asg (pe_callB (call_max2 rfl) (by rfl) T.fr_max (by decide +kernel) (pa_cons pe_int (pa_cons (pe_op op_sub (pe_ix ix_list (pv 3) pe_int (fun _ _ => rfl)) (pe_op op_fdiv (pe_op op_add (pe_dget2 hu (pv 1) (pv 2) pe_int ⟨by rfl, by rfl, by rfl, by rfl⟩) pe_int) pe_int)) pa_nil))) (pg_sub (pv 3) pe_int set_list))
      (pss_one (ps_if (pt_cmpR op_gt (pe_ix ix_list (pv 3) pe_int (fun _ _ => rfl)) pe_int (nomark _)) (pss_cons (ps_asg (pe_callB (call_max2 rfl) (by rfl) T.fr_max (by decide +kernel) (pa_cons pe_int (pa_cons (pe_op op_sub (pe_ix ix_list (pv 3) pe_int (fun _ _ => rfl)) (pe_op op_fdiv (pe_op op_add (pe_ix ix_list (pv 3) pe_int (fun _ _ => rfl)) pe_int) pe_int)) pa_nil))) (pg_sub (pv 3) pe_int set_list))
        (pss_one (ps_asg (pe_ifExp (pt_cmpR op_gt (pe_ix ix_list (pv 3) pe_int (fun _ _ => rfl)) pe_int (nomark _)) (pe_callB (call_min2 rfl) (by rfl) T.fr_min (by decide +kernel) (pa_cons (pe_glob (v := .int 100) rfl C_HOTTEST ⟨_, rfl⟩) (pa_cons (pe_op op_add (pe_ix ix_list (pv 3) pe_int (fun _ _ => rfl)) pe_int) pa_nil))) pe_int) (pg_sub (pv 3) pe_int set_list)))) pss_nil)))))
    (pss_cons (ps_set (i := 4) sc_Row_minute.nd rfl (by first | exact Or.inl rfl | exact Or.inr rfl) (pe_lst pa_nil))
    (pss_cons (ps_for (passes_of rfl) rfl (pi_list (pe_callB (cr_sortD hr) (by rfl) T.fr_sorted (by decide +kernel) (pa_cons (pe_fld (pv 0) rfl) pa_nil))) (pg_name (i := 2) sc_Row_minute.nd rfl (by first | exact Or.inl rfl | exact Or.inr rfl)) (pss_cons (ps_set (i := 3) sc_Row_minute.nd rfl (by first | exact Or.inl rfl | exact Or.inr rfl) (pe_dget hu (pe_fld (pv 0) rfl) (pv 2) (fun _ _ => rfl)))
      (pss_cons (ps_set (i := 5) sc_Row_minute.nd rfl (by first | exact Or.inl rfl | exact Or.inr rfl) (pe_revL (pe_genB (i := 6) (tk_sort hr) (by rfl) T.fr_sorted (by decide +kernel) hr T.tb_Row_minute rfl sc_Row_minute.nd rfl (genS_by (N := N_Row_minute) (sc := d_Row_minute.scope) (by decide +kernel)) (pe_ix ix_list (pv 3) pe_int (fun _ _ => rfl)) (fun _ _ _ => qts_nil) (fun _ _ _ => (q_ix (q_get (q_fld (q_var 0)) (q_var 6)) q_int)) (fun _ => rfl))))
      (pss_one (ps_if (PW.pt (pw_and (pt_cmpR op_eq (pe_ix ix_list (pv 3) pe_int (fun _ _ => rfl)) pe_int (nomark _)) (pw_and (pt_cmpR op_gt (pe_ix ix_list (pv 3) pe_int (fun _ _ => rfl)) pe_int (nomark _)) (pw_and1 (pt_cmpR op_ge (pe_callB (cr_sum rfl) (by rfl) T.fr_sum (by decide +kernel) (pa_cons (pe_slice sl_list (pv 5) po_none (po_some pe_int)) pa_nil)) pe_int (nomark _)))))) (pss_one (ps_expr (pe_bm PySem.F.plainAttrs_list PySem.F.slot_list_append PySem.F.type_list_append mt_append (pv 4) (pa_cons (pv 2) pa_nil)))) pss_nil)))))
    (pss_cons (ps_for (passes_of rfl) rfl (pi_list (pv 4)) (pg_name (i := 2) sc_Row_minute.nd rfl (by first | exact Or.inl rfl | exact Or.inr rfl)) (pss_one (ps_asg pe_int (pg_sub (pe_dget hu (pe_fld (pv 0) rfl) (pv 2) (fun _ _ => rfl)) pe_int set_list))))
    (pss_one (ps_ret (pe_callTy call_tuple_of (by rfl) T.fr_tuple (by decide +kernel) (pa_cons (pv 4) pa_nil))))))))), ?_⟩
    obtain ⟨D, hw, nwd, tb, wf, nw, k1, k2⟩ := h
    obtain ⟨⟨dx, h1⟩, hs, ia, ib⟩ := id D
    refine ⟨wd, _, hw, trivial, fun od => ?_⟩
    walk_at "v"
    have hw1 : upd H wd (.frz od (.dK (wkv W))) wd = some (.frz od (.dK (wkv W))) := upd_same
    have nr : r ≠ wd := ne_of h1 hw (by intro z; cases z)
    refine ⟨wd, od, rfl, .inl ⟨_, hw1, ?_⟩⟩
    have wk := walk_keysV (d := wd) (o := od) (kvs := wkv W)
    rw [show ((wkv W).map fun p => kV p.1) = W.map fun p => V.str p.1 by unfold wkv; rw [List.map_map]; rfl] at wk
    have gl : Go (TL K) (TG K) (fun a => a = wd) H (upd H wd (.frz od (.dK (wkv W)))) := Go.set hw plain_dK rfl
    refine for_fold (fun p : Str × Int => V.str p.1) W (by unfold wkv; rw [List.length_map]) wk (fun l y => l ++ [y]) [] (fun l σ H' => (∃ x2, σ = [some (.ref r), some (.ref wd), x2, none, none, none, none]) ∧ H' = upd H wd (.frz od (.dK (wkv W))) ∧ ∀ p ∈ l, (decide (p.2 < 0) || !(R.lookup p.1).isSome) = false) ⟨⟨_, rfl⟩, rfl, fun _ h => by cases h⟩ (fun _ σ H' h => by rw [h.2.1]; exact hw1) ?_ ?_
    · rintro pre ⟨m, i⟩ post σ H' eW ⟨⟨x2, rfl⟩, rfl, hp⟩
      have mW : (m, i) ∈ W := by rw [eW]; simp
      have lm : W.lookup m = some i := mem_look nw mW
      have gw : DGet (upd H wd (.frz od (.dK (wkv W)))) wd (.str m) (some (.int i)) := by
        have q := DGet.kr (H := upd H wd (.frz od (.dK (wkv W)))) (a := wd) (kvs := wkv W) (k := Sum.inr m) (.inr ⟨od, hw1⟩)
        unfold wkv at q
        rw [val_lookG (g := fun _ i => V.int i), lm] at q
        exact q
      have gd : DGet (upd H wd (.frz od (.dK (wkv W)))) d (.str m) ((R.lookup m).map fun _ => V.ref (fa m)) := by
        have q := DGet.kr (H := upd H wd (.frz od (.dK (wkv W)))) (a := d) (k := Sum.inr m) (.inl (by rw [upd_ne (Ne.symm nwd)]; exact hs.dc))
        rw [val_look] at q
        exact q
      have kb : (decide (i < 0) || !(R.lookup m).isSome) = true → E (.ref (CErr K)) none (upd H wd (.frz od (.dK (wkv W)))) := fun e => k1 (List.any_eq_true.mpr ⟨(m, i), mW, e⟩) _ gl
      walk_at "v"; walk_at "v"
      refine ⟨_, _, rfl, gw, ?_⟩
      walk_at "go"
      refine ite2 (fun z => iteT (kb (by rw [z]; rfl))) (fun z => ?_)
      walk_at "v"; walk_at "v"
      refine ⟨_, _, _, _, _, rfl, (by rw [upd_ne nr]; exact h1), (by assumption), (by assumption), rfl, ?_⟩
      refine ⟨_, _, rfl, gd, _, rfl, ?_⟩
      refine ite2 (fun y => kb ?_) (fun y => ?_)
      · rw [Option.isSome_map] at y
        rw [y, Bool.or_true]
      · refine ⟨⟨_, rfl⟩, rfl, fun p hpp => ?_⟩
        rcases List.mem_append.mp hpp with hpp | hpp
        · exact hp p hpp
        · rw [List.mem_singleton.mp hpp]
          rw [Option.isSome_map] at y
          simp at y z ⊢
          exact ⟨by omega, y⟩
    rintro σ H' ⟨⟨x2, rfl⟩, rfl, hgood⟩
    rw [foldl_snoc, List.nil_append] at hgood
    refine ⟨hw1, ?_⟩
    rw [upd_back hw]
    have nb : badW R W = false := by
      rw [← Bool.not_eq_true]
      intro z
      obtain ⟨p, hp, e⟩ := List.any_eq_true.mp z
      rw [hgood p hp] at e
      cases e
    walk_at "v"
    refine ⟨_, _, _, rfl, h1, rfl, ?_⟩
    refine ⟨r, d, R, fa, fb, rfl, D, wf.len, tb, fun p H1 hp e1 g1 => ?_⟩
    have D1 := D.go g1 id id (fun _ _ => id) (fun _ _ => id)
    have Swd : ∀ q ∈ R, wd ≠ fa q.1 := fun q hq => ne_of hw (hs.row q hq) (by intro z; cases z)
    have Sp : ∀ q ∈ R, p ≠ fa q.1 := fun q hq => (ne_of_none (hs.row q hq) hp).symm
    refine ⟨p, rfl, ⟨_, SqT.of e1⟩, for_fold V.str (burningS R) rfl walk_itt (fun R n => updH R n (burn1 (wOf W n))) R
      (fun R' σ H2 => (∃ x2 x3, σ = [some (.ref r), some (.ref wd), x2, x3, none, none, none]) ∧ RowAt (CRow K) H2 r d R' fa fb ∧ Go (TL K) (TG K) (fun a => ∃ q ∈ R, a = fa q.1) H1 H2) ⟨⟨_, _, rfl⟩, D1, .refl⟩
      (fun _ σ H2 h => SqT.of (h.2.2.keep _ _ e1 (by intro _ z; cases z) (fun ⟨q, hq, e⟩ => Sp q hq e))) ?_ ?_⟩
    · rintro pre n post σ H2 eb ⟨⟨x2, x3, rfl⟩, D2, g2⟩
      have kR : n ∈ R.map (·.1) := by
        have : n ∈ burningS R := by rw [eb]; simp
        exact mem_sortS.mp (List.mem_filter.mp this).1
      obtain ⟨⟨dx2, h2⟩, hs2, ia2, ib2⟩ := id D2
      obtain ⟨h, e⟩ := look_key (R := pre.foldl (fun R n => updH R n (burn1 (wOf W n))) R) (n := n) (by rw [fold_keys]; exact kR) hs2.nd
      have ha := hs2.at_ e
      have hw2 : H2 wd = some (.dK (wkv W)) := g2.keep _ _ (g1.keep _ _ hw (by intro _ z; cases z) id) (by intro _ z; cases z) (fun ⟨q, hq, e⟩ => Swd q hq e)
      have gw : ∃ o, DGet H2 wd (.str n) o ∧ o.getD (.int 0) = .int (wOf W n) := by
        have q := DGet.kr (H := H2) (a := wd) (kvs := wkv W) (k := Sum.inr n) (.inl hw2)
        unfold wkv at q
        rw [val_lookG (g := fun _ i => V.int i)] at q
        refine ⟨_, q, ?_⟩
        unfold wOf
        cases W.lookup n <;> rfl
      obtain ⟨o, gw, eo⟩ := gw
      walk_at "v"; walk_at "f"; walk_at "v"
      refine ⟨_, _, rfl, hs2.get e, ?_⟩
      walk_at "v"
      refine ⟨_, _, _, _, rfl, rfl, SqL.of ha, rfl, ?_⟩
      walk_at "v"
      refine ⟨wd, rfl, .inl ⟨_, .inl hw2⟩, ?_⟩
      walk_at "v"
      refine ⟨o, gw, ?_⟩
      rw [eo]
      walk_at "go"
      refine ⟨⟨(by decide), (by decide)⟩, ?_⟩
      walk_at "go"
      refine ⟨_, _, rfl, ?_⟩
      walk_at "v"
      refine ⟨_, _, _, 2, rfl, rfl, ha, rfl, ?_⟩
      have fin : ∀ x3 H3, H3 = upd H2 (fa n) (.lst (hvals (burn1 (wOf W n) h) (fb n))) →
          (∃ x2 x3', [some (V.ref r), some (V.ref wd), some (V.str n), x3, none, none, none] = [some (V.ref r), some (V.ref wd), x2, x3', none, none, none]) ∧
          RowAt (CRow K) H3 r d (updH (pre.foldl (fun R n => updH R n (burn1 (wOf W n))) R) n (burn1 (wOf W n))) fa fb ∧ Go (TL K) (TG K) (fun a => ∃ q ∈ R, a = fa q.1) H1 H3 := fun x3 H3 eH => by
        refine ⟨⟨_, _, rfl⟩, ?_, ?_⟩
        · rw [eH]
          exact D2.set e (burn1 (wOf W n)) (burn1_beside _)
        · rw [eH]
          obtain ⟨q, hq, eq⟩ := List.mem_map.mp kR
          exact g2.trans (Go.set ha plain_lst ⟨q, hq, by rw [eq]⟩)
      walk_at "v"
      refine ⟨_, _, _, _, rfl, rfl, SqL.of upd_same, rfl, ?_⟩
      walk_at "go"
      refine ite2 (fun z => ?_) (fun z => ?_)
      · have z1 : 0 < mx 0 (h.heat - (wOf W n + 1) / 2) := of_decide_eq_true z
        walk_at "v"
        refine ⟨_, _, _, _, rfl, rfl, SqL.of upd_same, rfl, ?_⟩
        walk_at "v"
        refine ⟨_, _, _, _, rfl, rfl, SqL.of upd_same, rfl, ?_⟩
        walk_at "go"
        refine ⟨⟨(by decide), (by decide)⟩, ?_⟩
        walk_at "go"
        refine ⟨_, _, rfl, ?_⟩
        walk_at "v"
        refine ⟨_, _, _, 1, rfl, rfl, upd_same, rfl, ?_⟩
        walk_at "v"
        refine ⟨_, _, _, _, rfl, rfl, SqL.of upd_same, rfl, ?_⟩
        walk_at "go"
        refine ite2 (fun y => ?_) (fun y => ?_)
        · have y1 : 0 < mx 0 (h.fuel - (mx 0 (h.heat - (wOf W n + 1) / 2) + 9) / 10) := of_decide_eq_true y
          walk_at "v"
          refine ⟨_, _, _, _, rfl, rfl, SqL.of upd_same, rfl, ?_⟩
          walk_at "go"
          refine ⟨_, _, rfl, ?_⟩
          walk_at "v"
          refine ⟨_, _, _, 2, rfl, rfl, upd_same, rfl, ?_⟩
          refine fin _ _ ?_
          rw [upd_upd, upd_upd]
          have eb1 : burn1 (wOf W n) h = { h with fuel := mx 0 (h.fuel - (mx 0 (h.heat - (wOf W n + 1) / 2) + 9) / 10), heat := mn 100 (mx 0 (h.heat - (wOf W n + 1) / 2) + 5) } := by
            unfold burn1
            rw [if_pos z1, if_pos y1]
          rw [eb1]
          rfl
        · have y1 : ¬ 0 < mx 0 (h.fuel - (mx 0 (h.heat - (wOf W n + 1) / 2) + 9) / 10) := fun q => y (decide_eq_true q)
          walk_at "v"
          refine ⟨_, _, _, 2, rfl, rfl, upd_same, rfl, ?_⟩
          refine fin _ _ ?_
          rw [upd_upd, upd_upd]
          have eb1 : burn1 (wOf W n) h = { h with fuel := mx 0 (h.fuel - (mx 0 (h.heat - (wOf W n + 1) / 2) + 9) / 10), heat := 0 } := by
            unfold burn1
            rw [if_pos z1, if_neg y1]
          rw [eb1]
          rfl
      · have z1 : ¬ 0 < mx 0 (h.heat - (wOf W n + 1) / 2) := fun q => z (decide_eq_true q)
        refine fin _ _ ?_
        have eb1 : burn1 (wOf W n) h = { h with heat := mx 0 (h.heat - (wOf W n + 1) / 2) } := by
          unfold burn1
          rw [if_neg z1]
        rw [eb1]
        rfl
    rintro σ H2 ⟨⟨x2, x3, rfl⟩, D2, g2⟩
    have D2' : RowAt (CRow K) H2 r d (burnAll R W) fa fb := D2
    clear D2
    have wf2 : WfR (burnAll R W) := fold_wf (fun n => burn1_beside (wOf W n)) _ wf
    have gA : Go (TL K) (TG K) (fun a => ∃ q ∈ R, a = fa q.1) H H2 := (g1.mono fun _ z => z.elim).trans g2
    have kk : (burnAll R W).map (·.1) = R.map (·.1) := fold_keys _ _
    generalize eR2 : burnAll R W = R2 at D2' wf2 kk k2
    have S2 : ∀ q ∈ R2, ∃ q' ∈ R, q'.1 = q.1 := fun q hq => by
      have : q.1 ∈ R2.map (·.1) := List.mem_map.mpr ⟨q, hq, rfl⟩
      rw [kk] at this
      exact List.mem_map.mp this
    refine ⟨(by decide), fun fl hfl => ?_⟩
    have gB := gA.trans (Go.new (o := .lst []) hfl)
    have D3 := D2'.go (Go.new (TL := TL K) (TG := TG K) (S := fun _ => False) (o := .lst []) hfl) id id (fun _ _ => id) (fun _ _ => id)
    obtain ⟨⟨dx3, h3⟩, hs3, _, _⟩ := id D3
    walk_at "v"; walk_at "f"
    refine ⟨_, _, rfl, .inl hs3.dc, (by rw [names_kv]; exact sortb_str _), fun sl hsl => ?_⟩
    rw [names_kv, sortV_str]
    have gC := gB.trans (Go.new (o := .lst ((sortS (R2.map (·.1))).map V.str)) hsl)
    have D4 := D3.go (Go.new (TL := TL K) (TG := TG K) (S := fun _ => False) (o := .lst ((sortS (R2.map (·.1))).map V.str)) hsl) id id (fun _ _ => id) (fun _ _ => id)
    have efl : upd (upd H2 fl (.lst [])) sl (.lst ((sortS (R2.map (·.1))).map V.str)) fl = some (.lst []) := by rw [upd_ne (ne_of_none upd_same hsl)]; exact upd_same
    have esl : upd (upd H2 fl (.lst [])) sl (.lst ((sortS (R2.map (·.1))).map V.str)) sl = some (.lst ((sortS (R2.map (·.1))).map V.str)) := upd_same
    have nfs : sl ≠ fl := (ne_of_none upd_same hsl).symm
    have pfl : H fl = none := gA.free fl hfl
    generalize upd (upd H2 fl (.lst [])) sl (.lst ((sortS (R2.map (·.1))).map V.str)) = H4 at gC D4 efl esl ⊢
    refine ⟨sl, rfl, ⟨_, SqL.of esl⟩, for_fold V.str (sortS (R2.map (·.1))) rfl walk_itl (fun acc n => if ((R2.lookup n).map (freshQ R2)).getD false = true then acc ++ [n] else acc) []
      (fun acc σ H5 => (∃ x2 x3 x5, σ = [some (.ref r), some (.ref wd), x2, x3, some (.ref fl), x5, none]) ∧ H5 fl = some (.lst (acc.map V.str)) ∧ Go (TL K) (TG K) (fun a => a = fl) H4 H5) ⟨⟨_, _, _, rfl⟩, efl, .refl⟩
      (fun _ σ H5 h => SqL.of (h.2.2.keep _ _ esl (by intro _ z; cases z) nfs)) ?_ ?_⟩
    · rintro pre n post σ H5 eb ⟨⟨x2, x3, x5, rfl⟩, e5, g5⟩
      have kR : n ∈ R2.map (·.1) := by
        have : n ∈ sortS (R2.map (·.1)) := by rw [eb]; simp
        exact mem_sortS.mp this
      have lacc : (pre.foldl (fun acc n => if ((R2.lookup n).map (freshQ R2)).getD false = true then acc ++ [n] else acc) []).length < sizeLine := by
        rw [foldl_filter, List.nil_append]
        have l1 := List.length_filter_le (fun n => ((R2.lookup n).map (freshQ R2)).getD false) pre
        have l2 : pre.length ≤ (sortS (R2.map (·.1))).length := by rw [eb, List.length_append]; omega
        rw [len_sortS, List.length_map] at l2
        have l3 := wf2.len
        exact Nat.lt_of_le_of_lt (Nat.le_trans l1 (Nat.le_trans l2 l3)) (by decide)
      generalize pre.foldl (fun acc n => if ((R2.lookup n).map (freshQ R2)).getD false = true then acc ++ [n] else acc) [] = acc at e5 lacc ⊢
      have nS : ∀ b o, H4 b = some o → o ≠ .lst [] → b ≠ fl := fun b o e n z => by
        rw [z, efl] at e
        exact n (Option.some.inj e).symm
      have D5 : RowAt (CRow K) H5 r d R2 fa fb := by
        refine D4.go g5 (ne_of D4.ob.choose_spec efl (by intro z; cases z)) (ne_of D4.hs.dc efl (by intro z; cases z)) (fun q hq => ne_of (D4.hs.row q hq) efl (by intro z; cases z)) (fun q hq z => ?_)
        obtain ⟨q', hq', e'⟩ := S2 q hq
        have := hs.bes q' hq'
        rw [e', z, pfl] at this
        cases this
      obtain ⟨⟨dx5, h5⟩, hs5, _, _⟩ := id D5
      obtain ⟨h, e⟩ := look_key kR hs5.nd
      have ha := hs5.at_ e
      have hbes := hs5.bes _ (look_mem e)
      walk_at "v"; walk_at "f"; walk_at "v"
      refine ⟨_, _, rfl, hs5.get e, ?_⟩
      walk_at "v"
      refine ⟨_, _, _, _, rfl, rfl, SqL.of ha, rfl, ?_⟩
      have tb5 := g5.tb (gC.tb tb)
      refine ⟨tb5.gen _ T.tg_Row_minute, h.beside.map V.str, ⟨fb n, rfl, .inl (SqL.of hbes)⟩, fun H6 hT => ?_⟩
      have g6 : Go (TL K) (TG K) (fun _ => False) H5 H6 := Go.tab hT (tb5.gen _ T.tg_Row_minute) T.tg_Row_minute T.td_Row_minute
      have D6 := D5.go g6 id id (fun _ _ => id) (fun _ _ => id)
      obtain ⟨⟨dx6, h6⟩, hs6, _, _⟩ := id D6
      refine ⟨fun _ => true, fun x => match x with | .str o => .int (heatOf R2 o) | _ => .non, fun x hx => rfl, fun x hx _ => ?_, ?_⟩
      · obtain ⟨o, ho, rfl⟩ := List.mem_map.mp hx
        obtain ⟨h', e'⟩ := look_key (wf2.in_ _ (look_mem e) o ho) hs6.nd
        have ha' := hs6.at_ e'
        walk_at "v"; walk_at "f"; walk_at "v"
        refine ⟨_, _, Sum.inr o, _, rfl, rfl, .inl hs6.dc, (by rw [val_look, e'] <;> rfl), ?_⟩
        refine ⟨_, _, 2, _, rfl, rfl, .inl (SqL.of ha'), rfl, ?_⟩
        unfold heatOf
        simp [e']
      · have ey : (List.filter (fun _ => true) (h.beside.map V.str)).map (fun x => match x with | .str o => V.int (heatOf R2 o) | _ => .non) = (h.beside.map (heatOf R2)).map V.int := by
          rw [List.filter_eq_self.mpr fun _ _ => rfl, List.map_map, List.map_map]
          rfl
        rw [ey]
        refine ⟨sortb_int _, ?_, fun hl hhl => ?_⟩
        · rw [List.length_map, List.length_map]
          exact thou (wf2.bz _ (look_mem e))
        rw [sortV_int]
        refine ⟨hl, _, rfl, SqL.of upd_same, fun rl hrl => ?_⟩
        have g8 := (g6.trans (Go.new (o := .lst ((sortI (h.beside.map (heatOf R2))).map V.int)) hhl)).trans (Go.new (o := .lst ((sortI (h.beside.map (heatOf R2))).map V.int).reverse) hrl)
        have e8 : upd (upd H6 hl (.lst ((sortI (h.beside.map (heatOf R2))).map V.int))) rl (.lst ((sortI (h.beside.map (heatOf R2))).map V.int).reverse) rl = some (.lst ((sortI (h.beside.map (heatOf R2))).reverse.map V.int)) := by
          rw [upd_same, List.map_reverse]
        have nfa : fa n ≠ fl := ne_of (D4.hs.at_ e) efl (by intro z; cases z)
        generalize upd (upd H6 hl (.lst ((sortI (h.beside.map (heatOf R2))).map V.int))) rl (.lst ((sortI (h.beside.map (heatOf R2))).map V.int).reverse) = H8 at g8 e8 ⊢
        have ha8 := g8.keep _ _ ha (by intro _ z; cases z) id
        have efl8 : H8 fl = some (.lst (acc.map V.str)) := g8.keep _ _ e5 (by intro _ z; cases z) id
        have done : freshQ R2 h = false → (∃ x2 x3 x5, [some (V.ref r), some (V.ref wd), some (V.str n), some (V.ref (fa n)), some (V.ref fl), some (V.ref rl), none] = [some (V.ref r), some (V.ref wd), x2, x3, some (V.ref fl), x5, none]) ∧ H8 fl = some (.lst ((if ((R2.lookup n).map (freshQ R2)).getD false = true then acc ++ [n] else acc).map V.str)) ∧ Go (TL K) (TG K) (fun a => a = fl) H4 H8 := fun z => by
          refine ⟨⟨_, _, _, rfl⟩, ?_, g5.trans (g8.mono fun _ z => z.elim)⟩
          rw [e]
          simp only [Option.map_some, Option.getD_some, z]
          exact efl8
        walk_at "v"
        refine ⟨_, _, _, _, rfl, rfl, SqL.of ha8, rfl, ?_⟩
        walk_at "go"
        refine ite2 (fun c1 => ?_) (fun c1 => ?_)
        · walk_at "v"
          refine ⟨_, _, _, _, rfl, rfl, SqL.of ha8, rfl, ?_⟩
          walk_at "go"
          refine ite2 (fun c2 => ?_) (fun c2 => ?_)
          · walk_at "v"
            refine ⟨2, rfl, rl, _, rfl, SqL.of e8, fun tl htl => ?_⟩
            have etl : upd H8 tl (.lst (cutV ((sortI (h.beside.map (heatOf R2))).reverse.map V.int) none (some 2))) tl = some (.lst (((sortI (h.beside.map (heatOf R2))).reverse.take 2).map V.int)) := by
              rw [upd_same, show (2 : Int) = ((2 : Nat) : Int) from rfl, cut_take, List.map_take]
            refine ⟨tl, _, rfl, SqL.of etl, ?_⟩
            have g9 := g8.trans (Go.new (o := .lst (cutV ((sortI (h.beside.map (heatOf R2))).reverse.map V.int) none (some 2))) htl)
            have efl9 := g9.keep _ _ e5 (by intro _ z; cases z) id
            generalize upd H8 tl (.lst (cutV ((sortI (h.beside.map (heatOf R2))).reverse.map V.int) none (some 2))) = H9 at g9 efl9 ⊢
            walk_at "go"
            have c1' : h.heat = 0 := V.int.inj (of_decide_eq_true c1)
            have hq : freshQ R2 h = decide (120 ≤ topTwo R2 h) := by
              unfold freshQ
              rw [show decide (0 < h.fuel) = true from c2, decide_eq_true c1', Bool.true_and, Bool.true_and]
            have g5' := g5.trans (g9.mono (S' := fun a => a = fl) fun _ z => z.elim)
            refine ite2 (fun c3 => ?_) (fun c3 => ⟨⟨_, _, _, rfl⟩, ?_, g5'⟩)
            · walk_at "v"
              refine ⟨.inl ⟨rfl, _, SqL.of efl9⟩, ?_⟩
              walk_at "v"
              refine ⟨_, _, _, rfl, rfl, efl9, (by rw [List.length_map]; exact lacc), ⟨_, _, _, rfl⟩, ?_, g5'.trans (Go.set efl9 plain_lst rfl)⟩
              have hq1 : freshQ R2 h = true := by rw [hq]; exact c3
              rw [upd_same, e]
              simp only [Option.map_some, Option.getD_some, hq1, if_pos, List.map_append, List.map_cons, List.map_nil]
            · have hq1 : freshQ R2 h = false := by rw [hq]; exact Bool.eq_false_iff.mpr c3
              rw [e]
              simp only [Option.map_some, Option.getD_some, hq1]
              exact efl9
          · have c2' : decide (0 < h.fuel) = false := Bool.eq_false_iff.mpr c2
            exact iteF (done (by unfold freshQ; rw [c2', Bool.false_and, Bool.and_false]))
        · have c1' : decide (h.heat = 0) = false := decide_eq_false fun z => c1 (decide_eq_true (by rw [z]))
          exact iteF (done (by unfold freshQ; rw [c1', Bool.false_and]))
    rintro σ H5 ⟨⟨x2, x3, x5, rfl⟩, e5, g5⟩
    rw [foldl_filter, List.nil_append] at e5
    have e5' : H5 fl = some (.lst ((freshS R2).map V.str)) := e5
    clear e5
    have D5 : RowAt (CRow K) H5 r d R2 fa fb := by
      refine D4.go g5 (ne_of D4.ob.choose_spec efl (by intro z; cases z)) (ne_of D4.hs.dc efl (by intro z; cases z)) (fun q hq => ne_of (D4.hs.row q hq) efl (by intro z; cases z)) (fun q hq z => ?_)
      obtain ⟨q', hq', e'⟩ := S2 q hq
      have := hs.bes q' hq'
      rw [e', z, pfl] at this
      cases this
    have gE : Go (TL K) (TG K) (fun a => a = fl ∨ ∃ q ∈ R, a = fa q.1) H H5 := (gC.mono fun _ z => .inr z).trans (g5.mono fun _ z => .inl z)
    have gF : Go (TL K) (TG K) (fun a => ∃ q ∈ R, a = fa q.1) H H5 := ⟨fun b o e n s => by
      by_cases z : b = fl
      · rw [z, pfl] at e
        cases e
      · exact gE.keep b o e n fun y => y.elim z s, gE.tb, gE.free⟩
    have Sfl : ∀ q ∈ R, fl ≠ fa q.1 := fun q hq => (ne_of_none (hs.row q hq) pfl).symm
    walk_at "v"
    refine ⟨fl, rfl, ⟨_, SqL.of e5'⟩, for_fold V.str (freshS R2) rfl walk_itl (fun R n => updH R n lit) R2
      (fun R' σ H6 => (∃ x2 x3 x5, σ = [some (.ref r), some (.ref wd), x2, x3, some (.ref fl), x5, none]) ∧ RowAt (CRow K) H6 r d R' fa fb ∧ Go (TL K) (TG K) (fun a => ∃ q ∈ R, a = fa q.1) H5 H6) ⟨⟨_, _, _, rfl⟩, D5, .refl⟩
      (fun _ σ H6 h => SqL.of (h.2.2.keep _ _ e5' (by intro _ z; cases z) (fun ⟨q, hq, e⟩ => Sfl q hq e))) ?_ ?_⟩
    · rintro pre n post σ H6 eb ⟨⟨x2, x3, x5, rfl⟩, D6, g6⟩
      have kR : n ∈ R2.map (·.1) := by
        have : n ∈ freshS R2 := by rw [eb]; simp
        exact mem_sortS.mp (List.mem_filter.mp this).1
      obtain ⟨⟨dx6, h6⟩, hs6, _, _⟩ := id D6
      obtain ⟨h, e⟩ := look_key (R := pre.foldl (fun R n => updH R n lit) R2) (n := n) (by rw [fold_keys (g := fun _ => lit)]; exact kR) hs6.nd
      have ha := hs6.at_ e
      walk_at "v"; walk_at "f"; walk_at "v"
      refine ⟨_, _, rfl, hs6.get e, ?_⟩
      refine ⟨_, _, _, 2, rfl, rfl, ha, rfl, ?_⟩
      refine ⟨⟨_, _, _, rfl⟩, D6.set e lit fun _ => rfl, g6.trans (Go.set ha plain_lst ?_)⟩
      rw [kk] at kR
      obtain ⟨q, hq, eq⟩ := List.mem_map.mp kR
      exact ⟨q, hq, by rw [eq]⟩
    rintro σ H6 ⟨⟨x2, x3, x5, rfl⟩, D6, g6⟩
    walk_at "v"
    refine ⟨fl, _, rfl, .inl ⟨SqL.of (g6.keep _ _ e5' (by intro _ z; cases z) (fun ⟨q, hq, e⟩ => Sfl q hq e)), fun l hl => ?_⟩⟩
    have gG := gF.trans g6
    refine k2 nb l _ (gG.free l hl) ?_ ?_ (gG.trans (Go.new hl))
    · rw [upd_same]
    · have D7 : RowAt (CRow K) H6 r d (minR R W) fa fb := by
        unfold minR
        rw [eR2]
        exact D6
      exact D7.go (Go.new (TL := TL K) (TG := TG K) (S := fun _ => False) hl) id id (fun _ _ => id) (fun _ _ => id)
end
end K3
namespace K3
open PySem PySem.Spec PyProof.Rows L2 Fy
open GxR (TabG Tabbed)
structure Dice where
  a : Int
  b : Int
  c : Int
def dvals (D : Dice) : List V := [.int D.a, .int D.b, .int D.c]
def dice0 (z : Int) : Dice := if -10 < z ∧ z < 10 then ⟨if z < 0 then -z else z, 0, 2⟩ else ⟨z, 1 + z % 1009, if 1000000000000000000 ≤ z then 1 else 0⟩
def easy (D : Dice) : Bool := decide (D.c = 2) || (decide (D.c = 1) && decide (0 < D.a))
def rollD (D : Dice) (m : Int) : Dice := if easy D = true then { D with a := D.a / m } else ⟨(D.a * 48271 + D.b * 69621 + 11) % 2147483647, D.b + 1, 0⟩
def rollV (D : Dice) (m : Int) : Int := if easy D = true then D.a % m else (D.a * 48271 + D.b * 69621 + 11) % 2147483647 / 7 % m
def sp_law_dice (K : PySem.W.Frag) : Sp := fun vs H Q _ => ∃ z : Int, vs = [.int z] ∧ ∀ p, H p = none → Q (.ref p) (upd H p (.lst (dvals (dice0 z))))
def sp_law_roll (K : PySem.W.Frag) : Sp := fun vs H Q _ => ∃ (da : Addr) (D : Dice) (m : Int), vs = [.ref da, .int m] ∧ H da = some (.lst (dvals D)) ∧ 0 < m ∧ m ≤ 100000000 ∧ Q (.int (rollV D m)) (upd H da (.lst (dvals (rollD D m))))
def cell1 (ns : List Int) : Int := ns.headD 0
def sp_law_rounds (K : PySem.W.Frag) : Sp := fun vs H Q _ => ∃ (sa : Addr) (ns : List Int), vs = [.ref sa, .int 1] ∧ SqL K H sa (ns.map V.int) ∧ ∀ p q H', H' p = some (.lst [.ref q]) → H' q = some (.lst (dvals (dice0 (cell1 ns)))) → p ≠ q → H q = none → Go (TL K) (TG K) (fun _ => False) H H' → Q (.ref p) H'
section
variable {P : Program} {w : World} {K : PySem.W.Frag} {mg : Str → Option Value} {base : Heap}
abbrev N_law_dice : List Str := ["cell"]
theorem sc_law_dice : FnScope N_law_dice ["cell"] d_law_dice.scope := ⟨rfl, rfl, rfl, by decide +kernel, rfl, by decide +kernel, by decide +kernel⟩
theorem ok_law_dice (T : Txt K mg base) : Good P w K mg base 1 (He.fAd K d_law_dice.at_) ["cell"] [] (sp_law_dice K) := by
  refine good_of0 T.fn_law_dice sc_law_dice rfl rfl (fun _ _ _ _ _ _ us hl => match us, hl with | [_], _ => rfl) (fun vs H Q E h => ?_) (fun A outer s H vs Q E hr h => ?_)
  · obtain ⟨z, rfl, _⟩ := h
    rfl
  · obtain ⟨z, rfl, h⟩ := h
    refine ⟨_, (pss_cons (ps_if (pt_chain op_lt op_lt (pe_op op_sub pe_int pe_int) (pv 0) pe_int) (pss_one (ps_ret (pe_lst (pa_cons (pe_callB call_abs (by rfl) T.fr_abs (by decide +kernel) (pa_cons (pv 0) pa_nil)) (pa_cons pe_int (pa_cons pe_int pa_nil)))))) pss_nil)
    (pss_one (ps_ret (pe_lst (pa_cons (pv 0) (pa_cons (pe_op op_add pe_int (pe_op op_mod (pe_callTy call_int1 (by rfl) T.fr_int (by decide +kernel) (pa_cons (pv 0) pa_nil)) pe_int)) (pa_cons (pe_callTy call_int1 (by rfl) T.fr_int (by decide +kernel) (pa_cons (pe_cmpR op_ge (pv 0) (pe_op op_pow pe_int pe_int) (nomark _)) pa_nil)) pa_nil))))))), ?_⟩
    have e10 : (0 : Int) - 10 = -10 := rfl
    have hno : (¬ (-10 < z ∧ z < 10)) → tRet (tLst (tCons (tVar 0) (tCons (tOp (rI0 fun i j => V.int (i + j)) (tC (V.int 1)) (tOp (rI (fun _ j => 0 < j) fun i j => V.int (i % j)) (tCB (fun xs H Q => (∃ i, xs = [V.int i] ∧ Q (V.int i) H) ∨ ∃ k, xs = [V.bl k] ∧ Q (V.int (if k = true then 1 else 0)) H) (tCons (tVar 0) tNil)) (tC (V.int 1009)))) (tCons (tCB (fun xs H Q => (∃ i, xs = [V.int i] ∧ Q (V.int i) H) ∨ ∃ k, xs = [V.bl k] ∧ Q (V.int (if k = true then 1 else 0)) H) (tCons (tOp (rI0 fun i j => V.bl (decide (j ≤ i))) (tVar 0) (tOp (rI CPow fun i j => V.int (i ^ j.toNat)) (tC (V.int 10)) (tC (V.int 18)))) tNil)) tNil)))) { nx := fun _ H' => Q V.non H', rt := Q } [some (V.int z)] H := fun hz => by
      walk_at "v"; walk_at "v"
      refine .inl ⟨_, rfl, ?_⟩
      refine ⟨_, _, rfl, rfl, (by show (0 : Int) < 1009; decide), ?_⟩
      refine ⟨_, _, rfl, rfl, ?_⟩
      walk_at "v"
      refine ⟨_, _, rfl, rfl, ⟨(by decide), (by decide), (by decide)⟩, ?_⟩
      refine ⟨_, _, rfl, rfl, ?_⟩
      refine .inr ⟨_, rfl, ?_⟩
      refine ⟨(by show 3 ≤ sizeLine; decide), fun p hp => ?_⟩
      have e : dvals (dice0 z) = [V.int z, V.int (1 + z % 1009), V.int (if decide ((10 : Int) ^ (18 : Int).toNat ≤ z) = true then 1 else 0)] := by
        unfold dice0
        rw [if_neg hz]
        have : (10 : Int) ^ (18 : Int).toNat = 1000000000000000000 := by decide
        rw [this]
        unfold dvals
        by_cases y : (1000000000000000000 : Int) ≤ z
        · rw [if_pos y, if_pos (decide_eq_true y)]
        · rw [if_neg y, if_neg (by simpa using y)]
      have q := h p hp
      rw [e] at q
      exact q
    walk_at "go"
    refine ite2 (fun y1 => ?_) (fun y1 => ?_)
    · walk_at "go"
      refine ite2 (fun y2 => ?_) (fun y2 => ?_)
      · walk_at "v"
        refine ⟨_, rfl, ?_⟩
        refine ⟨(by show 3 ≤ sizeLine; decide), fun p hp => ?_⟩
        have q := h p hp
        unfold dice0 at q
        have z1 : -10 < z := of_decide_eq_true y1
        have z2 : z < 10 := of_decide_eq_true y2
        rw [if_pos ⟨z1, z2⟩] at q
        exact q
      · exact hno fun y => y2 (decide_eq_true y.2)
    · exact ⟨_, rfl, iteF (hno fun y => y1 (decide_eq_true y.1))⟩
abbrev N_law_roll : List Str := ["dice", "many", "found"]
theorem sc_law_roll : FnScope N_law_roll ["dice", "many"] d_law_roll.scope := ⟨rfl, rfl, rfl, by decide +kernel, rfl, by decide +kernel, by decide +kernel⟩
theorem ok_law_roll (T : Txt K mg base) : Good P w K mg base 1 (He.fAd K d_law_roll.at_) ["dice", "many"] [] (sp_law_roll K) := by
  refine good_of0 T.fn_law_roll sc_law_roll rfl rfl (fun _ _ _ _ _ _ us hl => match us, hl with | [_, _], _ => rfl) (fun vs H Q E h => ?_) (fun A outer s H vs Q E hr h => ?_)
  · obtain ⟨da, D, m, rfl, _⟩ := h
    rfl
  · obtain ⟨da, D, m, rfl, h⟩ := h
    refine ⟨_, (pss_cons (ps_if (PW.pt (pw_or (pt_cmpR op_eq (pe_ix ix_list (pv 0) pe_int (fun _ _ => rfl)) pe_int (nomark _)) (pw_or1 (PW.pt (pw_and (pt_cmpR op_eq (pe_ix ix_list (pv 0) pe_int (fun _ _ => rfl)) pe_int (nomark _)) (pw_and1 (pt_cmpR op_gt (pe_ix ix_list (pv 0) pe_int (fun _ _ => rfl)) pe_int (nomark _)))))))) (pss_cons (ps_set (i := 2) sc_law_roll.nd rfl (by first | exact Or.inl rfl | exact Or.inr rfl) (pe_op op_mod (pe_callTy call_int1 (by rfl) T.fr_int (by decide +kernel) (pa_cons (pe_ix ix_list (pv 0) pe_int (fun _ _ => rfl)) pa_nil)) (pv 1)))
      (pss_cons (ps_asg (pe_op op_fdiv (pe_ix ix_list (pv 0) pe_int (fun _ _ => rfl)) (pv 1)) (pg_sub (pv 0) pe_int set_list))
      (pss_one (ps_ret (pv 2))))) pss_nil)
    (pss_cons (ps_asg pe_int (pg_sub (pv 0) pe_int set_list))
    (pss_cons (ps_if (pt_cmpR op_gt (pv 1) pe_int (nomark _)) pss_dead pss_nil)
    (pss_cons (ps_asg (pe_op op_mod (pe_callTy call_int1 (by rfl) T.fr_int (by decide +kernel) (pa_cons (pe_op op_add (pe_op op_add (pe_op op_mul (pe_ix ix_list (pv 0) pe_int (fun _ _ => rfl)) pe_int) (pe_op op_mul (pe_ix ix_list (pv 0) pe_int (fun _ _ => rfl)) pe_int)) pe_int) pa_nil)) pe_int) (pg_sub (pv 0) pe_int set_list))
    (pss_cons (ps_asg (pe_op op_add (pe_ix ix_list (pv 0) pe_int (fun _ _ => rfl)) pe_int) (pg_sub (pv 0) pe_int set_list))
    (pss_one (ps_ret (pe_op op_mod (pe_callTy call_int1 (by rfl) T.fr_int (by decide +kernel) (pa_cons (pe_op op_fdiv (pe_ix ix_list (pv 0) pe_int (fun _ _ => rfl)) pe_int) pa_nil)) (pv 1))))))))), ?_⟩
    obtain ⟨hd, hm1, hm2, k⟩ := h
    have kE : easy D = true → Q (.int (D.a % m)) (upd H da (.lst [.int (D.a / m), .int D.b, .int D.c])) := fun e => by
      unfold rollV rollD at k
      rw [if_pos e, if_pos e] at k
      exact k
    have kN : ¬ easy D = true → Q (.int ((D.a * 48271 + D.b * 69621 + 11) % 2147483647 / 7 % m)) (upd H da (.lst [.int ((D.a * 48271 + D.b * 69621 + 11) % 2147483647), .int (D.b + 1), .int 0])) := fun e => by
      unfold rollV rollD at k
      rw [if_neg e, if_neg e] at k
      exact k
    walk_at "v"
    refine ⟨_, _, _, _, rfl, rfl, SqL.of hd, rfl, ?_⟩
    walk_at "go"
    refine ite2 (fun z => ?_) (fun z => ?_)
    · have ee : easy D = true := by
        have : D.c = 2 := V.int.inj (of_decide_eq_true z)
        simp [easy, this]
      refine iteT ?_
      walk_at "v"
      refine ⟨_, _, _, _, rfl, rfl, SqL.of hd, rfl, ?_⟩
      refine .inl ⟨_, rfl, ?_⟩
      walk_at "v"
      refine ⟨_, _, rfl, rfl, hm1, ?_⟩
      walk_at "v"
      refine ⟨_, _, _, _, rfl, rfl, SqL.of hd, rfl, ?_⟩
      walk_at "v"
      refine ⟨_, _, rfl, rfl, ⟨hm1, by omega⟩, ?_⟩
      walk_at "v"
      refine ⟨_, _, _, 0, rfl, rfl, hd, rfl, ?_⟩
      walk_at "v"
      exact kE ee
    · have z1 : ¬ D.c = 2 := fun y => z (decide_eq_true (by rw [y]))
      walk_at "v"
      refine ⟨_, _, _, _, rfl, rfl, SqL.of hd, rfl, ?_⟩
      walk_at "go"
      refine ite2 (fun y => ?_) (fun y => ?_)
      · have y1 : D.c = 1 := V.int.inj (of_decide_eq_true y)
        walk_at "v"
        refine ⟨_, _, _, _, rfl, rfl, SqL.of hd, rfl, ?_⟩
        walk_at "go"
        refine ite2 (fun x => ?_) (fun x => ?_)
        · have ee : easy D = true := by
            have : 0 < D.a := of_decide_eq_true x
            simp [easy, y1, this]
          walk_at "v"
          refine ⟨_, _, _, _, rfl, rfl, SqL.of hd, rfl, ?_⟩
          refine .inl ⟨_, rfl, ?_⟩
          walk_at "v"
          refine ⟨_, _, rfl, rfl, hm1, ?_⟩
          walk_at "v"
          refine ⟨_, _, _, _, rfl, rfl, SqL.of hd, rfl, ?_⟩
          walk_at "v"
          refine ⟨_, _, rfl, rfl, ⟨hm1, by omega⟩, ?_⟩
          walk_at "v"
          refine ⟨_, _, _, 0, rfl, rfl, hd, rfl, ?_⟩
          walk_at "v"
          exact kE ee
        · have ee : ¬ easy D = true := by
            have : ¬ 0 < D.a := fun q => x (decide_eq_true q)
            simp [easy, y1, this]
          walk_at "v"
          refine ⟨_, _, _, 2, rfl, rfl, hd, rfl, ?_⟩
          walk_at "go"
          refine ite2 (fun y => absurd (of_decide_eq_true y) (by omega)) (fun y => ?_)
          walk_at "v"
          refine ⟨_, _, _, _, rfl, rfl, SqL.of upd_same, rfl, ?_⟩
          refine ⟨_, _, rfl, rfl, .inr ⟨by decide, by decide⟩, ?_⟩
          walk_at "v"
          refine ⟨_, _, _, _, rfl, rfl, SqL.of upd_same, rfl, ?_⟩
          refine ⟨_, _, rfl, rfl, .inr ⟨by decide, by decide⟩, ?_⟩
          walk_at "go"
          refine .inl ⟨_, rfl, ?_⟩
          refine ⟨_, _, rfl, rfl, (by show (0 : Int) < 2147483647; decide), ?_⟩
          walk_at "v"
          refine ⟨_, _, _, 0, rfl, rfl, upd_same, rfl, ?_⟩
          walk_at "v"
          refine ⟨_, _, _, _, rfl, rfl, SqL.of upd_same, rfl, ?_⟩
          walk_at "go"
          refine ⟨_, _, _, 1, rfl, rfl, upd_same, rfl, ?_⟩
          walk_at "v"
          refine ⟨_, _, _, _, rfl, rfl, SqL.of upd_same, rfl, ?_⟩
          refine ⟨_, _, rfl, rfl, ⟨by decide, by decide⟩, ?_⟩
          refine .inl ⟨_, rfl, ?_⟩
          walk_at "v"
          refine ⟨_, _, rfl, rfl, hm1, ?_⟩
          rw [upd_upd, upd_upd]
          exact kN ee
      · have ee : ¬ easy D = true := by
          have : ¬ D.c = 1 := fun q => y (decide_eq_true (by rw [q]))
          simp [easy, z1, this]
        refine iteF ?_
        walk_at "v"
        refine ⟨_, _, _, 2, rfl, rfl, hd, rfl, ?_⟩
        walk_at "go"
        refine ite2 (fun y => absurd (of_decide_eq_true y) (by omega)) (fun y => ?_)
        walk_at "v"
        refine ⟨_, _, _, _, rfl, rfl, SqL.of upd_same, rfl, ?_⟩
        refine ⟨_, _, rfl, rfl, .inr ⟨by decide, by decide⟩, ?_⟩
        walk_at "v"
        refine ⟨_, _, _, _, rfl, rfl, SqL.of upd_same, rfl, ?_⟩
        refine ⟨_, _, rfl, rfl, .inr ⟨by decide, by decide⟩, ?_⟩
        walk_at "go"
        refine .inl ⟨_, rfl, ?_⟩
        refine ⟨_, _, rfl, rfl, (by show (0 : Int) < 2147483647; decide), ?_⟩
        walk_at "v"
        refine ⟨_, _, _, 0, rfl, rfl, upd_same, rfl, ?_⟩
        walk_at "v"
        refine ⟨_, _, _, _, rfl, rfl, SqL.of upd_same, rfl, ?_⟩
        walk_at "go"
        refine ⟨_, _, _, 1, rfl, rfl, upd_same, rfl, ?_⟩
        walk_at "v"
        refine ⟨_, _, _, _, rfl, rfl, SqL.of upd_same, rfl, ?_⟩
        refine ⟨_, _, rfl, rfl, ⟨by decide, by decide⟩, ?_⟩
        refine .inl ⟨_, rfl, ?_⟩
        walk_at "v"
        refine ⟨_, _, rfl, rfl, hm1, ?_⟩
        rw [upd_upd, upd_upd]
        exact kN ee
abbrev N_law_rounds : List Str := ["script", "most", "cells", "cell"]
theorem sc_law_rounds : FnScope N_law_rounds ["script", "most"] d_law_rounds.scope := ⟨rfl, rfl, rfl, by decide +kernel, rfl, by decide +kernel, by decide +kernel⟩
theorem ok_law_rounds (T : Txt K mg base) : Good P w K mg base 2 (He.fAd K d_law_rounds.at_) ["script", "most"] [] (sp_law_rounds K) := by
  refine good_of0 T.fn_law_rounds sc_law_rounds rfl rfl (fun _ _ _ _ _ _ us hl => match us, hl with | [_, _], _ => rfl) (fun vs H Q E h => ?_) (fun A outer s H vs Q E hr h => ?_)
  · obtain ⟨sa, ns, rfl, _⟩ := h
    rfl
  · obtain ⟨sa, ns, rfl, h⟩ := h
    refine ⟨_, (pss_cons (ps_set (i := 2) sc_law_rounds.nd rfl (by first | exact Or.inl rfl | exact Or.inr rfl) (pe_slice sl_list (pv 0) po_none (po_some (pv 1))))
    (pss_cons (ps_if (pt_cmpR (op_eqD hr.units) (pv 2) (pe_lst pa_nil) (nomark _)) (pss_one (ps_set (i := 2) sc_law_rounds.nd rfl (by first | exact Or.inl rfl | exact Or.inr rfl) (pe_lst (pa_cons pe_int pa_nil)))) pss_nil)
    (pss_one (ps_ret (pe_lc (own := [("cell", 3)]) (g := gName 3) (tt := tYes) rfl sc_law_rounds.nd (pi_list (pv 2)) (blkOk_by (own := [("cell", 3)]) (N := N_law_rounds) (sc := d_law_rounds.scope) (by decide +kernel)) (fun _ _ _ _ _ => (pg_name (i := 3) sc_law_rounds.nd rfl (by first | exact Or.inl rfl | exact Or.inr rfl))) (fun _ _ _ _ _ => pts_nil) (fun _ _ _ _ _ => (pg_call (ok_law_dice T) (hr.mono (by decide)) rfl T.gl_law_dice passL (pa_cons (pv 3) pa_nil)))))))), ?_⟩
    obtain ⟨hs, k⟩ := h
    walk_at "v"; walk_at "v"
    refine ⟨_, rfl, sa, _, rfl, hs, fun ca hca => ?_⟩
    have ec : cutV (ns.map V.int) none (some 1) = (ns.take 1).map V.int := by
      rw [show (1 : Int) = ((1 : Nat) : Int) from rfl, cut_take, List.map_take]
    rw [ec]
    walk_at "v"
    refine ⟨(by decide), fun ea hea => ?_⟩
    have g0 : Go (TL K) (TG K) (fun _ => False) H (upd (upd H ca (.lst ((ns.take 1).map V.int))) ea (.lst [])) := (Go.new hca).trans (Go.new hea)
    have e1 : upd (upd H ca (.lst ((ns.take 1).map V.int))) ea (.lst []) ca = some (.lst ((ns.take 1).map V.int)) := by
      rw [upd_ne (ne_of_none upd_same hea), upd_same]
    have e2 : upd (upd H ca (.lst ((ns.take 1).map V.int))) ea (.lst []) ea = some (.lst []) := upd_same
    generalize upd (upd H ca (.lst ((ns.take 1).map V.int))) ea (.lst []) = H1 at g0 e1 e2 ⊢
    have se : SeqAt.shaped (PyData.list []) = true := PySem.W.shaped_ints []
    match ns, e1, k with
    | [], e1, k =>
      refine ⟨.list [], .list [], .lst (SqL.of e1) .nil, .lst (SqL.of e2) .nil, se, se, ?_⟩
      rw [eqv_same se]
      refine ⟨_, rfl, iteT ?_⟩
      refine ⟨(by show 1 ≤ sizeLine; decide), fun cb hcb => ?_⟩
      have g1 := g0.trans (Go.new (o := .lst [.int 0]) hcb)
      have e3 : upd H1 cb (.lst [.int 0]) cb = some (.lst [.int (cell1 [])]) := upd_same
      generalize upd H1 cb (.lst [.int 0]) = H2 at g1 e3 ⊢
      walk_at "v"
      refine ⟨cb, rfl, ⟨_, SqL.of e3⟩, fun D hD => lc_fold V.int [(cell1 [])] rfl walk_itl (fun _ _ => true) false
        (fun st H' => Go (TL K) (TG K) (fun a => a = D) H2 H' ∧ if st = true then ∃ q, H' D = some (.lst [.ref q]) ∧ H' q = some (.lst (dvals (dice0 (cell1 [])))) ∧ D ≠ q ∧ H q = none else H' D = some (.lst []))
        ⟨Go.new hD, upd_same⟩ (fun st H' h => SqL.of (h.1.keep _ _ e3 (by intro _ z; cases z) (ne_of_none e3 hD))) ?_ ?_⟩
      · intro pre y post H' ey h
        have ep : pre = [] := by
          cases pre with
          | nil => rfl
          | cons _ t => exact absurd (congrArg List.length ey) (by simp)
        subst ep
        injection ey with ey _
        subst ey
        obtain ⟨g3, eD⟩ := h
        have eD' : H' D = some (.lst []) := eD
        refine ⟨rfl, ?_⟩
        refine tYes_ok ?_
        walk_at "v"
        refine ⟨_, rfl, fun p hp => ⟨[], by rw [upd_ne (ne_of_none eD' hp)]; exact eD', (by decide), ?_⟩⟩
        have nDp : D ≠ p := ne_of_none eD' hp
        refine ⟨(g3.trans (Go.new hp)).trans (Go.set (by rw [upd_ne nDp]; exact eD') plain_lst rfl), p, upd_same, by rw [upd_ne nDp.symm]; exact upd_same, nDp, g1.free p (g3.free p hp)⟩
      · rintro H' ⟨g3, q, e4, e5, nq, fq⟩
        exact k D q H' e4 e5 nq fq ((g1.wide (S := fun a => a = D)).trans g3 |>.drop fun b e => .inr (by rw [e]; exact g1.free D hD))
    | z :: r, e1, k =>
      have sz : SeqAt.shaped (PyData.list [PyData.int z]) = true := PySem.W.shaped_ints [z]
      refine ⟨.list [.int z], .list [], .lst (SqL.of e1) (.cons (.int z) .nil), .lst (SqL.of e2) .nil, sz, se, ?_⟩
      rw [show PyData.eqv (.list [.int z]) (.list []) = false from rfl]
      refine ⟨_, rfl, iteF ?_⟩
      have g1 := g0
      have e3 : H1 ca = some (.lst [.int (cell1 (z :: r))]) := e1
      generalize H1 = H2 at g1 e3 ⊢
      generalize ca = cb at e3 ⊢
      walk_at "v"
      refine ⟨cb, rfl, ⟨_, SqL.of e3⟩, fun D hD => lc_fold V.int [(cell1 (z :: r))] rfl walk_itl (fun _ _ => true) false
        (fun st H' => Go (TL K) (TG K) (fun a => a = D) H2 H' ∧ if st = true then ∃ q, H' D = some (.lst [.ref q]) ∧ H' q = some (.lst (dvals (dice0 (cell1 (z :: r))))) ∧ D ≠ q ∧ H q = none else H' D = some (.lst []))
        ⟨Go.new hD, upd_same⟩ (fun st H' h => SqL.of (h.1.keep _ _ e3 (by intro _ z; cases z) (ne_of_none e3 hD))) ?_ ?_⟩
      · intro pre y post H' ey h
        have ep : pre = [] := by
          cases pre with
          | nil => rfl
          | cons _ t => exact absurd (congrArg List.length ey) (by simp)
        subst ep
        injection ey with ey _
        subst ey
        obtain ⟨g3, eD⟩ := h
        have eD' : H' D = some (.lst []) := eD
        refine ⟨rfl, ?_⟩
        refine tYes_ok ?_
        walk_at "v"
        refine ⟨_, rfl, fun p hp => ⟨[], by rw [upd_ne (ne_of_none eD' hp)]; exact eD', (by decide), ?_⟩⟩
        have nDp : D ≠ p := ne_of_none eD' hp
        refine ⟨(g3.trans (Go.new hp)).trans (Go.set (by rw [upd_ne nDp]; exact eD') plain_lst rfl), p, upd_same, by rw [upd_ne nDp.symm]; exact upd_same, nDp, g1.free p (g3.free p hp)⟩
      · rintro H' ⟨g3, q, e4, e5, nq, fq⟩
        exact k D q H' e4 e5 nq fq ((g1.wide (S := fun a => a = D)).trans g3 |>.drop fun b e => .inr (by rw [e]; exact g1.free D hD))
end
end K3
namespace K3
open PySem PySem.Spec PyProof.Rows L2 Fy
open GxR (TabG Tabbed)
theorem put_old {R : Hs} {ga : Str → Addr} {n : Str} {p : Addr} {f : House → House} (hk : n ∈ R.map (·.1)) : putK (R.map fun p => ((Sum.inr p.1 : Key), V.ref (ga p.1))) (Sum.inr n) (V.ref p) = (updH R n f).map fun q => (Sum.inr q.1, V.ref (if q.1 = n then p else ga q.1)) := by
  unfold putK
  have e : ((R.map fun p => ((Sum.inr p.1 : Key), V.ref (ga p.1))).any fun kv => decide (kv.1 = Sum.inr n)) = true := by
    obtain ⟨q, hq, e⟩ := List.mem_map.mp hk
    exact List.any_eq_true.mpr ⟨_, List.mem_map.mpr ⟨q, hq, rfl⟩, by rw [← e]; exact decide_eq_true rfl⟩
  rw [if_pos e]
  unfold updH
  rw [List.map_map, List.map_map]
  refine List.map_congr_left fun q hq => ?_
  show (if (Sum.inr q.1 : Key) = Sum.inr n then _ else _) = ((Sum.inr (if q.1 = n then (q.1, f q.2) else q).1 : Key), _)
  by_cases z : q.1 = n
  · have z1 : (Sum.inr q.1 : Key) = Sum.inr n := by rw [z]
    simp only [Function.comp_apply, if_pos z, if_pos z1]
  · have z1 : ¬ (Sum.inr q.1 : Key) = Sum.inr n := fun y => z (Sum.inr.inj y)
    simp only [Function.comp_apply, if_neg z, if_neg z1]
theorem HsAt.put {H : Hp} {o p : Addr} {R : Hs} {ga gb : Str → Addr} {n : Str} {h : House} (D : HsAt H o R ga gb) (e : R.lookup n = some h) (f : House → House) (hf : ∀ x, (f x).beside = x.beside) (hp : H p = none) :
    HsAt (upd (upd H p (.lst (hvals (f h) (gb n)))) o (.dK (putK (R.map fun p => ((Sum.inr p.1 : Key), V.ref (ga p.1))) (Sum.inr n) (.ref p)))) o (updH R n f) (fun m => if m = n then p else ga m) gb := by
  obtain ⟨dc, row, bes, nd⟩ := D
  have kn : n ∈ R.map (·.1) := List.mem_map.mpr ⟨_, look_mem e, rfl⟩
  have hq : ∀ q ∈ R, q.1 = n → q.2 = h := fun q hq z => by
    have hq' : R.lookup n = some q.2 := mem_look nd (by rw [← z]; exact hq)
    rw [e] at hq'
    exact (Option.some.inj hq').symm
  have keep : ∀ b u, H b = some u → b ≠ o → upd (upd H p (.lst (hvals (f h) (gb n)))) o (.dK (putK (R.map fun p => ((Sum.inr p.1 : Key), V.ref (ga p.1))) (Sum.inr n) (.ref p))) b = some u := fun b u eb ne => by
    rw [upd_ne ne, upd_ne (ne_of_none eb hp)]
    exact eb
  refine ⟨by rw [upd_same, put_old kn], fun x hx => ?_, fun x hx => ?_, by rw [keys_updH]; exact nd⟩
  · obtain ⟨q, hq', e1, e2⟩ := updH_mem hx
    by_cases z : x.1 = n
    · rw [if_pos z, e2, if_pos z, hq q hq' (by rw [e1]; exact z), z, upd_ne (ne_of_none dc hp).symm, upd_same]
    · rw [if_neg z, e2, if_neg z, ← e1]
      exact keep _ _ (row q hq') (ne_of (row q hq') dc (by intro z; cases z))
  · obtain ⟨q, hq', e1, e2⟩ := updH_mem hx
    have hb : x.2.beside = q.2.beside := by rw [e2]; split; exact hf _; rfl
    rw [hb, ← e1]
    exact keep _ _ (bes q hq') (ne_of (bes q hq') dc (by intro z; cases z))
theorem foldl_snocM {α β : Type} (g : α → β) : ∀ (ys : List α) (acc : List β), ys.foldl (fun l y => l ++ [g y]) acc = acc ++ ys.map g
  | [], acc => by simp
  | y :: ys, acc => by
    rw [List.foldl_cons, foldl_snocM g ys]
    simp
/-- fuel is never below 0 -/
def FuR (R : Hs) : Prop := ∀ p ∈ R, 0 ≤ p.2.fuel
theorem FuR.upd {R : Hs} {n : Str} {f : House → House} (h : FuR R) (hf : ∀ x, 0 ≤ x.fuel → 0 ≤ (f x).fuel) : FuR (updH R n f) := fun p hp => by
  obtain ⟨q, hq, _, e2⟩ := updH_mem hp
  rw [e2]
  split
  · exact hf _ (h q hq)
  · exact h q hq
theorem mx_ge (a b : Int) : a ≤ mx a b := by
  unfold mx
  split <;> omega
theorem burn1_fu (w : Int) (x : House) (h : 0 ≤ x.fuel) : 0 ≤ (burn1 w x).fuel := by
  unfold burn1
  split
  · exact mx_ge _ _
  · exact h
theorem fold_fu {g : Str → House → House} (hg : ∀ n x, 0 ≤ x.fuel → 0 ≤ (g n x).fuel) : ∀ (ns : List Str) {R : Hs}, FuR R → FuR (ns.foldl (fun R n => updH R n (g n)) R)
  | [], _, w => w
  | n :: ns, R, w => fold_fu hg ns (w.upd (hg n))
theorem burn_sort (R : Hs) (q : House → Bool) : namesBy R q = sortS ((R.map (·.1)).filter fun n => ((R.lookup n).map q).getD false) := (sortS_filter _ _).symm
/-- the law's row -/
def lrow (w : Int) (h : House) : House :=
  { h with fuel := mx 0 (h.fuel - -(-(mx 0 (h.heat - -(-w / 2))) / 10)), heat := if mx 0 (h.heat - -(-w / 2)) > 0 then (if mx 0 (h.fuel - -(-(mx 0 (h.heat - -(-w / 2))) / 10)) > 0 then mn 100 (mx 0 (h.heat - -(-w / 2)) + 5) else 0) else 0 }
theorem lrow_eq (w : Int) (h : House) (hf : 0 ≤ h.fuel) : lrow w h = burn1 w h := by
  have e1 : -(-w / 2) = (w + 1) / 2 := by omega
  unfold lrow burn1
  rw [e1]
  have hg := mx_ge 0 (h.heat - (w + 1) / 2)
  generalize mx 0 (h.heat - (w + 1) / 2) = g at hg
  have e2 : -(-g / 10) = (g + 9) / 10 := by omega
  rw [e2]
  by_cases z : 0 < g
  · rw [if_pos z, if_pos z]
  · rw [if_neg z, if_neg z]
    have e3 : g = 0 := by omega
    have e4 : mx 0 (h.fuel - (g + 9) / 10) = h.fuel := by
      rw [e3]
      unfold mx
      split <;> omega
    rw [e4, e3]
theorem lock_lst {H : Hp} {a l : Addr} {u x y : HO} (h : H a = some u) (n : l ≠ a) : upd (upd (upd H a x) l y) a u = upd H l y := by
  funext b
  by_cases e : b = a
  · subst e; rw [upd_same, upd_ne n.symm, h]
  · rw [upd_ne e]
    by_cases e2 : b = l
    · subst e2; rw [upd_same, upd_same]
    · rw [upd_ne e2, upd_ne e2, upd_ne e]
theorem names_kvS {R : Hs} {ga : Str → Addr} : ((R.map fun p => ((Sum.inr p.1 : Key), V.ref (ga p.1))).map fun p => kV p.1) = (R.map (·.1)).map V.str := names_kv
def sp_law_burn (K : PySem.W.Frag) : Sp := fun vs H Q _ => ∃ (o wd : Addr) (R : Hs) (ga gb : Str → Addr) (W : Wt), vs = [.ref o, .ref wd] ∧ HsAt H o R ga gb ∧ H wd = some (.dK (wkv W)) ∧ wd ≠ o ∧ WfR R ∧ FuR R ∧
  ∀ p ga' H', H p = none → H' p = some (.lst ((freshS (burnAll R W)).map V.str)) → HsAt H' o (minR R W) ga' gb → (∀ n, ga' n = ga n ∨ H (ga' n) = none) → Go (TL K) (TG K) (fun a => a = o) H H' → Q (.ref p) H'
section
variable {P : Program} {w : World} {K : PySem.W.Frag} {mg : Str → Option Value} {base : Heap}
abbrev N_law_burn : List Str := ["houses", "water", "name", "row", "heat", "fuel", "one", "fresh", "heats", "other"]
theorem sc_law_burn : FnScope N_law_burn ["houses", "water"] d_law_burn.scope := ⟨rfl, rfl, rfl, by decide +kernel, rfl, by decide +kernel, by decide +kernel⟩
theorem ok_law_burn (T : Txt K mg base) : Good P w K mg base 1 (He.fAd K d_law_burn.at_) ["houses", "water"] [] (sp_law_burn K) := by
  refine good_of0 T.fn_law_burn sc_law_burn rfl rfl (fun _ _ _ _ _ _ us hl => match us, hl with | [_, _], _ => rfl) (fun vs H Q E h => ?_) (fun A outer s H vs Q E hr h => ?_)
  · obtain ⟨o, wd, R, ga, gb, W, rfl, _⟩ := h
    rfl
  · obtain ⟨o, wd, R, ga, gb, W, rfl, h⟩ := h
    have hu := hu_of hr
    refine ⟨_, (pss_cons (ps_for (passes_of rfl) rfl (pi_list (pe_callB (cr_sortL hr) (by rfl) T.fr_sorted (by decide +kernel) (pa_cons (pe_lock (pe_lc (own := [("one", 6)]) (g := gName 6) rfl sc_law_burn.nd (pi_keys (pv 0)) (blkOk_by (own := [("one", 6)]) (N := N_law_burn) (sc := d_law_burn.scope) (by decide +kernel)) (fun _ _ _ _ _ => (pg_name (i := 6) sc_law_burn.nd rfl (by first | exact Or.inl rfl | exact Or.inr rfl))) (fun _ _ _ _ _ => pts_one (pt_cmpR op_gt (pe_ix (ix_listK K rfl) (pe_dget hu (pv 0) (pv 6) (fun _ _ => rfl)) pe_int (fun _ _ => rfl)) pe_int (nomark _))) (fun _ _ _ _ _ => (pv 6)))) pa_nil))) (pg_name (i := 2) sc_law_burn.nd rfl (by first | exact Or.inl rfl | exact Or.inr rfl)) (pss_cons (ps_set (i := 3) sc_law_burn.nd rfl (by first | exact Or.inl rfl | exact Or.inr rfl) (pe_dget hu (pv 0) (pv 2) (fun _ _ => rfl)))
      (pss_cons (ps_set (i := 4) sc_law_burn.nd rfl (by first | exact Or.inl rfl | exact Or.inr rfl) (pe_callB (call_max2 rfl) (by rfl) T.fr_max (by decide +kernel) (pa_cons pe_int (pa_cons (pe_op op_sub (pe_ix ix_list (pv 3) pe_int (fun _ _ => rfl)) (pe_un un_neg (pe_op op_fdiv (pe_un un_neg (pe_dget2 hu (pv 1) (pv 2) pe_int ⟨by rfl, by rfl, by rfl, by rfl⟩)) pe_int))) pa_nil))))
      (pss_cons (ps_set (i := 5) sc_law_burn.nd rfl (by first | exact Or.inl rfl | exact Or.inr rfl) (pe_callB (call_max2 rfl) (by rfl) T.fr_max (by decide +kernel) (pa_cons pe_int (pa_cons (pe_op op_sub (pe_ix ix_list (pv 3) pe_int (fun _ _ => rfl)) (pe_un un_neg (pe_op op_fdiv (pe_un un_neg (pv 4)) pe_int))) pa_nil))))
      (pss_cons (ps_set (i := 4) sc_law_burn.nd rfl (by first | exact Or.inl rfl | exact Or.inr rfl) (pe_ifExp (pt_cmpR op_gt (pv 4) pe_int (nomark _)) (pe_ifExp (pt_cmpR op_gt (pv 5) pe_int (nomark _)) (pe_callB (call_min2 rfl) (by rfl) T.fr_min (by decide +kernel) (pa_cons pe_int (pa_cons (pe_op op_add (pv 4) pe_int) pa_nil))) pe_int) pe_int))
      (pss_one (ps_dput hu (pv 0) (pv 2) (pe_lst (pa_cons (pe_ix ix_list (pv 3) pe_int (fun _ _ => rfl)) (pa_cons (pv 5) (pa_cons (pv 4) (pa_cons (pe_ix ix_list (pv 3) pe_int (fun _ _ => rfl)) pa_nil))))) rfl)))))))
    (pss_cons (ps_set (i := 7) sc_law_burn.nd rfl (by first | exact Or.inl rfl | exact Or.inr rfl) (pe_lst pa_nil))
    (pss_cons (ps_for (passes_of rfl) rfl (pi_list (pe_callB (cr_sortD hr) (by rfl) T.fr_sorted (by decide +kernel) (pa_cons (pv 0) pa_nil))) (pg_name (i := 2) sc_law_burn.nd rfl (by first | exact Or.inl rfl | exact Or.inr rfl)) (pss_cons (ps_set (i := 8) sc_law_burn.nd rfl (by first | exact Or.inl rfl | exact Or.inr rfl) (pe_callB (cr_sortL hr) (by rfl) T.fr_sorted (by decide +kernel) (pa_cons (pe_lc (own := [("other", 9)]) (g := gName 9) (tt := tYes) rfl sc_law_burn.nd (pi_list (pe_ix ix_list (pe_dget hu (pv 0) (pv 2) (fun _ _ => rfl)) pe_int (fun _ _ => rfl))) (blkOk_by (own := [("other", 9)]) (N := N_law_burn) (sc := d_law_burn.scope) (by decide +kernel)) (fun _ _ _ _ _ => (pg_name (i := 9) sc_law_burn.nd rfl (by first | exact Or.inl rfl | exact Or.inr rfl))) (fun _ _ _ _ _ => pts_nil) (fun _ _ _ _ _ => (pe_ix (ix_listK K rfl) (pe_dget hu (pv 0) (pv 9) (fun _ _ => rfl)) pe_int (fun _ _ => rfl)))) pa_nil)))
      (pss_one (ps_if (PW.pt (pw_and (pt_cmpR op_eq (pe_ix ix_list (pe_dget hu (pv 0) (pv 2) (fun _ _ => rfl)) pe_int (fun _ _ => rfl)) pe_int (nomark _)) (pw_and (pt_cmpR op_gt (pe_ix ix_list (pe_dget hu (pv 0) (pv 2) (fun _ _ => rfl)) pe_int (fun _ _ => rfl)) pe_int (nomark _)) (pw_and1 (pt_cmpR op_ge (pe_callB (cr_sum rfl) (by rfl) T.fr_sum (by decide +kernel) (pa_cons (pe_slice sl_list (pe_revL (pv 8)) po_none (po_some pe_int)) pa_nil)) pe_int (nomark _)))))) (pss_one (ps_set (i := 7) sc_law_burn.nd rfl (by first | exact Or.inl rfl | exact Or.inr rfl) (pe_op op_cat (pv 7) (pe_lst (pa_cons (pv 2) pa_nil))))) pss_nil))))
    (pss_cons (ps_for (passes_of rfl) rfl (pi_list (pv 7)) (pg_name (i := 2) sc_law_burn.nd rfl (by first | exact Or.inl rfl | exact Or.inr rfl)) (pss_one (ps_dput hu (pv 0) (pv 2) (pe_op op_cat (pe_op op_cat (pe_slice sl_list (pe_dget hu (pv 0) (pv 2) (fun _ _ => rfl)) po_none (po_some pe_int)) (pe_lst (pa_cons pe_int pa_nil))) (pe_slice sl_list (pe_dget hu (pv 0) (pv 2) (fun _ _ => rfl)) (po_some pe_int) po_none)) rfl)))
    (pss_one (ps_ret (pv 7))))))), ?_⟩
    obtain ⟨D, hw, nwo, wf, fu, k⟩ := h
    refine ⟨o, _, D.dc, trivial, fun od => ?_⟩
    walk_at "v"
    have wk := walk_keysV (d := o) (o := od) (kvs := R.map fun p => ((Sum.inr p.1 : Key), V.ref (ga p.1)))
    rw [names_kvS] at wk
    refine ⟨o, od, rfl, .inl ⟨_, upd_same, fun L hL => ?_⟩⟩
    have nLo : L ≠ o := fun z => by rw [z, upd_same] at hL; cases hL
    have hL0 : H L = none := by rw [upd_ne nLo] at hL; exact hL
    refine lc_fold V.str (R.map (·.1)) (by rw [List.length_map, List.length_map]) wk (fun acc n => if ((R.lookup n).map fun h => decide (0 < h.heat)).getD false = true then acc ++ [n] else acc) []
      (fun acc H' => H' = upd (upd H o (.frz od (.dK (R.map fun p => ((Sum.inr p.1 : Key), V.ref (ga p.1)))))) L (.lst (acc.map V.str))) rfl (fun acc H' h => by rw [h, upd_ne nLo.symm]; exact upd_same) ?_ ?_
    · rintro pre n post H' eb rfl
      have kn : n ∈ R.map (·.1) := by rw [eb]; simp
      obtain ⟨h, e⟩ := look_key kn D.nd
      refine ⟨rfl, ?_⟩
      have lacc : (pre.foldl (fun acc n => if ((R.lookup n).map fun h => decide (0 < h.heat)).getD false = true then acc ++ [n] else acc) []).length < sizeLine := by
        rw [foldl_filter, List.nil_append]
        have l1 := List.length_filter_le (fun n => ((R.lookup n).map fun h => decide (0 < h.heat)).getD false) pre
        have l2 : pre.length ≤ (R.map (·.1)).length := by rw [eb, List.length_append]; omega
        rw [List.length_map] at l2
        have l3 := wf.len
        exact Nat.lt_of_le_of_lt (Nat.le_trans l1 (Nat.le_trans l2 l3)) (by decide)
      generalize (pre.foldl (fun acc n => if ((R.lookup n).map fun h => decide (0 < h.heat)).getD false = true then acc ++ [n] else acc) []) = acc at lacc ⊢
      have h1 : upd (upd H o (.frz od (.dK (R.map fun p => ((Sum.inr p.1 : Key), V.ref (ga p.1)))))) L (.lst (acc.map V.str)) o = some (.frz od (.dK (R.map fun p => ((Sum.inr p.1 : Key), V.ref (ga p.1))))) := by
        rw [upd_ne nLo.symm, upd_same]
      have h2 : upd (upd H o (.frz od (.dK (R.map fun p => ((Sum.inr p.1 : Key), V.ref (ga p.1)))))) L (.lst (acc.map V.str)) (ga n) = some (.lst (hvals h (gb n))) := by
        have ha := D.at_ e
        rw [upd_ne (ne_of_none ha hL0), upd_ne (ne_of ha D.dc (by intro z; cases z))]
        exact ha
      have gd := DGet.kr (k := Sum.inr n) (.inr ⟨od, h1⟩)
      rw [val_look, e] at gd
      walk_at "v"; walk_at "v"
      refine ⟨_, _, rfl, gd, ?_⟩
      refine ⟨_, _, _, _, rfl, rfl, SqL.of h2, rfl, ?_⟩
      walk_at "go"
      simp only [e, Option.map_some, Option.getD_some]
      refine ite2 (fun z => ?_) (fun z => ?_)
      · walk_at "v"
        refine ⟨_, upd_same, (by rw [List.length_map]; exact lacc), ?_⟩
        rw [if_pos z, upd_upd, List.map_append]
        rfl
      · rw [if_neg z]
    rintro H' rfl
    rw [foldl_filter, List.nil_append]
    refine ⟨by rw [upd_ne nLo.symm, upd_same], ?_⟩
    rw [lock_lst D.dc nLo]
    refine ⟨L, _, rfl, SqL.of upd_same, sortb_str _, fun sl hsl => ?_⟩
    rw [sortV_str, ← burn_sort R fun h => decide (0 < h.heat), show (namesBy R fun h => decide (0 < h.heat)) = burningS R from rfl]
    have g1 : Go (TL K) (TG K) (fun _ => False) H (upd (upd H L (.lst (((R.map (·.1)).filter fun n => ((R.lookup n).map fun h => decide (0 < h.heat)).getD false).map V.str))) sl (.lst ((burningS R).map V.str))) := (Go.new hL0).trans (Go.new hsl)
    have e1 : upd (upd H L (.lst (((R.map (·.1)).filter fun n => ((R.lookup n).map fun h => decide (0 < h.heat)).getD false).map V.str))) sl (.lst ((burningS R).map V.str)) sl = some (.lst ((burningS R).map V.str)) := upd_same
    show ∃ a, _
    generalize upd (upd H L (.lst (((R.map (·.1)).filter fun n => ((R.lookup n).map fun h => decide (0 < h.heat)).getD false).map V.str))) sl (.lst ((burningS R).map V.str)) = H1 at g1 e1 ⊢
    have D1 := D.go g1 id (fun _ _ => id) (fun _ _ => id)
    refine ⟨sl, rfl, ⟨_, SqL.of e1⟩, for_fold V.str (burningS R) rfl walk_itl (fun R n => updH R n (burn1 (wOf W n))) R
      (fun R' σ H2 => (∃ x2 x3 x4 x5, σ = [some (.ref o), some (.ref wd), x2, x3, x4, x5, none, none, none, none]) ∧ (∃ ga', HsAt H2 o R' ga' gb ∧ ∀ n, ga' n = ga n ∨ H (ga' n) = none) ∧ Go (TL K) (TG K) (fun a => a = o) H1 H2) ⟨⟨_, _, _, _, rfl⟩, ⟨ga, D1, fun _ => .inl rfl⟩, .refl⟩
      (fun _ σ H2 h => SqL.of (h.2.2.keep _ _ e1 (by intro _ z; cases z) (ne_of e1 D1.dc (by intro z; cases z)))) ?_ ?_⟩
    · rintro pre n post σ H2 eb ⟨⟨x2, x3, x4, x5, rfl⟩, ⟨ga', D2, f2⟩, g2⟩
      have kR : n ∈ R.map (·.1) := by
        have : n ∈ burningS R := by rw [eb]; simp
        exact mem_sortS.mp (List.mem_filter.mp this).1
      have hs2 := D2
      have fu2 : FuR (pre.foldl (fun R n => updH R n (burn1 (wOf W n))) R) := fold_fu (fun n x hx => burn1_fu (wOf W n) x hx) pre fu
      have lR : (pre.foldl (fun R n => updH R n (burn1 (wOf W n))) R).length < sizeLine := by
        have := congrArg List.length (fold_keys (g := fun n => burn1 (wOf W n)) pre R)
        rw [List.length_map, List.length_map] at this
        rw [this]
        exact Nat.lt_of_le_of_lt wf.len (by decide)
      obtain ⟨h, e⟩ := look_key (R := pre.foldl (fun R n => updH R n (burn1 (wOf W n))) R) (n := n) (by rw [fold_keys]; exact kR) hs2.nd
      have ha := hs2.at_ e
      have hf := fu2 _ (look_mem e)
      generalize pre.foldl (fun R n => updH R n (burn1 (wOf W n))) R = R' at *
      have hw2 : H2 wd = some (.dK (wkv W)) := g2.keep _ _ (g1.keep _ _ hw (by intro _ z; cases z) id) (by intro _ z; cases z) nwo
      have gw : ∃ u, DGet H2 wd (.str n) u ∧ u.getD (.int 0) = .int (wOf W n) := by
        have q := DGet.kr (H := H2) (a := wd) (kvs := wkv W) (k := Sum.inr n) (.inl hw2)
        unfold wkv at q
        rw [val_lookG (g := fun _ i => V.int i)] at q
        refine ⟨_, q, ?_⟩
        unfold wOf
        cases W.lookup n <;> rfl
      obtain ⟨u, gw, eu⟩ := gw
      walk_at "v"; walk_at "v"
      refine ⟨_, _, rfl, hs2.get e, ?_⟩
      walk_at "v"
      refine ⟨_, _, _, _, rfl, rfl, SqL.of ha, rfl, ?_⟩
      walk_at "v"
      refine ⟨wd, rfl, .inl ⟨_, .inl hw2⟩, ?_⟩
      walk_at "v"
      refine ⟨u, gw, ?_⟩
      rw [eu]
      walk_at "go"
      refine ⟨⟨(by decide), (by decide)⟩, ?_⟩
      walk_at "go"
      refine ⟨_, _, rfl, ?_⟩
      walk_at "v"
      refine ⟨_, _, _, _, rfl, rfl, SqL.of ha, rfl, ?_⟩
      walk_at "go"
      refine ⟨⟨(by decide), (by decide)⟩, ?_⟩
      walk_at "go"
      refine ⟨_, _, rfl, ?_⟩
      have fin : ∀ p, H2 p = none → ∀ hh, hh = (lrow (wOf W n) h).heat →
          (∃ x2 x3 x4 x5, [some (V.ref o), some (V.ref wd), some (V.str n), some (V.ref (ga' n)), some (V.int hh), some (V.int (lrow (wOf W n) h).fuel), none, none, none, none] = [some (.ref o), some (.ref wd), x2, x3, x4, x5, none, none, none, none]) ∧
          (∃ ga'', HsAt (upd (upd H2 p (.lst [.str h.corner, .int (lrow (wOf W n) h).fuel, .int hh, .ref (gb n)])) o (.dK (putK (R'.map fun p => ((Sum.inr p.1 : Key), V.ref (ga' p.1))) (Sum.inr n) (.ref p)))) o (updH R' n (burn1 (wOf W n))) ga'' gb ∧ ∀ n, ga'' n = ga n ∨ H (ga'' n) = none) ∧
          Go (TL K) (TG K) (fun a => a = o) H1 (upd (upd H2 p (.lst [.str h.corner, .int (lrow (wOf W n) h).fuel, .int hh, .ref (gb n)])) o (.dK (putK (R'.map fun p => ((Sum.inr p.1 : Key), V.ref (ga' p.1))) (Sum.inr n) (.ref p)))) := fun p hp hh eh => by
        have el : HO.lst [.str h.corner, .int (lrow (wOf W n) h).fuel, .int hh, .ref (gb n)] = .lst (hvals (burn1 (wOf W n) h) (gb n)) := by
          rw [← lrow_eq _ _ hf, eh]
          rfl
        rw [el]
        refine ⟨⟨_, _, _, _, rfl⟩, ⟨_, hs2.put e (burn1 (wOf W n)) (burn1_beside _) hp, fun m => ?_⟩, (g2.trans (Go.new hp)).trans (Go.set (by rw [upd_ne (ne_of_none hs2.dc hp)]; exact hs2.dc) plain_dK rfl)⟩
        by_cases z : m = n
        · rw [if_pos z]
          exact .inr (g1.free p (g2.free p hp))
        · rw [if_neg z]
          exact f2 m
      walk_at "go"
      refine ite2 (fun z1 => ?_) (fun z1 => ?_)
      · have z1' : mx 0 (h.heat - -(-wOf W n / 2)) > 0 := of_decide_eq_true z1
        walk_at "go"
        refine ite2 (fun z2 => ?_) (fun z2 => ?_)
        · have z2' : mx 0 (h.fuel - -(-(mx 0 (h.heat - -(-wOf W n / 2))) / 10)) > 0 := of_decide_eq_true z2
          walk_at "go"
          refine ⟨_, _, rfl, ?_⟩
          walk_at "v"
          refine ⟨_, _, _, _, rfl, rfl, SqL.of ha, rfl, ?_⟩
          walk_at "v"; walk_at "v"; walk_at "v"
          refine ⟨_, _, _, _, rfl, rfl, SqL.of ha, rfl, ?_⟩
          refine ⟨(by show 4 ≤ sizeLine; decide), fun p hp => ?_⟩
          walk_at "v"; walk_at "v"
          refine ⟨o, _, rfl, DPut.k (k := Sum.inr n) (by rw [upd_ne (ne_of_none hs2.dc hp)]; exact hs2.dc) (by rw [List.length_map]; exact lR), ?_⟩
          exact fin p hp _ (by show _ = ite _ _ _; rw [if_pos z1', if_pos z2'] <;> rfl)
        · have z2' : ¬ mx 0 (h.fuel - -(-(mx 0 (h.heat - -(-wOf W n / 2))) / 10)) > 0 := fun q => z2 (decide_eq_true q)
          walk_at "v"
          refine ⟨_, _, _, _, rfl, rfl, SqL.of ha, rfl, ?_⟩
          walk_at "v"; walk_at "v"; walk_at "v"
          refine ⟨_, _, _, _, rfl, rfl, SqL.of ha, rfl, ?_⟩
          refine ⟨(by show 4 ≤ sizeLine; decide), fun p hp => ?_⟩
          walk_at "v"; walk_at "v"
          refine ⟨o, _, rfl, DPut.k (k := Sum.inr n) (by rw [upd_ne (ne_of_none hs2.dc hp)]; exact hs2.dc) (by rw [List.length_map]; exact lR), ?_⟩
          exact fin p hp _ (by show _ = ite _ _ _; rw [if_pos z1', if_neg z2'])
      · have z1' : ¬ mx 0 (h.heat - -(-wOf W n / 2)) > 0 := fun q => z1 (decide_eq_true q)
        walk_at "v"
        refine ⟨_, _, _, _, rfl, rfl, SqL.of ha, rfl, ?_⟩
        walk_at "v"; walk_at "v"; walk_at "v"
        refine ⟨_, _, _, _, rfl, rfl, SqL.of ha, rfl, ?_⟩
        refine ⟨(by show 4 ≤ sizeLine; decide), fun p hp => ?_⟩
        walk_at "v"; walk_at "v"
        refine ⟨o, _, rfl, DPut.k (k := Sum.inr n) (by rw [upd_ne (ne_of_none hs2.dc hp)]; exact hs2.dc) (by rw [List.length_map]; exact lR), ?_⟩
        exact fin p hp _ (by show _ = ite _ _ _; rw [if_neg z1'])
    rintro σ H2 ⟨⟨x2, x3, x4, x5, rfl⟩, ⟨ga1, D2, f2⟩, g2⟩
    have D2' : HsAt H2 o (burnAll R W) ga1 gb := D2
    clear D2
    have wf2 : WfR (burnAll R W) := fold_wf (fun n => burn1_beside (wOf W n)) _ wf
    have gA : Go (TL K) (TG K) (fun a => a = o) H H2 := g1.wide.trans g2
    have kk : (burnAll R W).map (·.1) = R.map (·.1) := fold_keys _ _
    generalize eR2 : burnAll R W = R2 at D2' wf2 kk k
    refine ⟨(by decide), fun fl hfl => ?_⟩
    walk_at "v"
    have D3 := D2'.go (Go.new (TL := TL K) (TG := TG K) (S := fun _ => False) (o := .lst []) hfl) id (fun _ _ => id) (fun _ _ => id)
    refine ⟨_, _, rfl, .inl D3.dc, (by rw [names_kv]; exact sortb_str _), fun sl hsl => ?_⟩
    rw [names_kv, sortV_str]
    have gC := (gA.trans (Go.new (o := .lst []) hfl)).trans (Go.new (o := .lst ((sortS (R2.map (·.1))).map V.str)) hsl)
    have D4 := D3.go (Go.new (TL := TL K) (TG := TG K) (S := fun _ => False) (o := .lst ((sortS (R2.map (·.1))).map V.str)) hsl) id (fun _ _ => id) (fun _ _ => id)
    have efl : upd (upd H2 fl (.lst [])) sl (.lst ((sortS (R2.map (·.1))).map V.str)) fl = some (.lst (([] : List Str).map V.str)) := by rw [upd_ne (ne_of_none upd_same hsl)]; exact upd_same
    have esl : upd (upd H2 fl (.lst [])) sl (.lst ((sortS (R2.map (·.1))).map V.str)) sl = some (.lst ((sortS (R2.map (·.1))).map V.str)) := upd_same
    have pfl : H fl = none := gA.free fl hfl
    generalize upd (upd H2 fl (.lst [])) sl (.lst ((sortS (R2.map (·.1))).map V.str)) = H4 at gC D4 efl esl ⊢
    refine ⟨sl, rfl, ⟨_, SqL.of esl⟩, for_fold V.str (sortS (R2.map (·.1))) rfl walk_itl (fun acc n => if ((R2.lookup n).map (freshQ R2)).getD false = true then acc ++ [n] else acc) []
      (fun acc σ H5 => (∃ x2 x3 x4 x5 x8 fl, σ = [some (.ref o), some (.ref wd), x2, x3, x4, x5, none, some (.ref fl), x8, none] ∧ H5 fl = some (.lst (acc.map V.str)) ∧ H fl = none) ∧ Go (TL K) (TG K) (fun _ => False) H4 H5) ⟨⟨_, _, _, _, _, fl, rfl, efl, pfl⟩, .refl⟩
      (fun _ σ H5 h => SqL.of (h.2.keep _ _ esl (by intro _ z; cases z) id)) ?_ ?_⟩
    · rintro pre n post σ H5 eb ⟨⟨x2, x3, x4, x5, x8, fl, rfl, e5, pfl⟩, g5⟩
      have kR : n ∈ R2.map (·.1) := by
        have : n ∈ sortS (R2.map (·.1)) := by rw [eb]; simp
        exact mem_sortS.mp this
      have lacc : (pre.foldl (fun acc n => if ((R2.lookup n).map (freshQ R2)).getD false = true then acc ++ [n] else acc) []).length < 1001 := by
        rw [foldl_filter, List.nil_append]
        have l1 := List.length_filter_le (fun n => ((R2.lookup n).map (freshQ R2)).getD false) pre
        have l2 : pre.length ≤ (sortS (R2.map (·.1))).length := by rw [eb, List.length_append]; omega
        rw [len_sortS, List.length_map] at l2
        have l3 := wf2.len
        omega
      generalize pre.foldl (fun acc n => if ((R2.lookup n).map (freshQ R2)).getD false = true then acc ++ [n] else acc) [] = acc at e5 lacc ⊢
      have D5 := D4.go g5 id (fun _ _ => id) (fun _ _ => id)
      obtain ⟨h, e⟩ := look_key kR D5.nd
      have ha := D5.at_ e
      have hbes := D5.bes _ (look_mem e)
      walk_at "v"; walk_at "v"
      refine ⟨_, _, rfl, D5.get e, ?_⟩
      refine ⟨_, _, _, _, rfl, rfl, SqL.of ha, rfl, ?_⟩
      refine ⟨gb n, rfl, ⟨_, SqL.of hbes⟩, fun L hL => lc_fold V.str h.beside rfl walk_itl (fun acc m => acc ++ [heatOf R2 m]) []
        (fun acc H' => H' = upd H5 L (.lst (acc.map V.int))) rfl (fun acc H' h' => by rw [h']; exact SqL.of (by rw [upd_ne (ne_of_none hbes hL)]; exact hbes)) ?_ ?_⟩
      · rintro pre2 m post2 H' eb2 rfl
        have lpre : pre2.length < sizeLine := by
          have l1 := wf2.bz _ (look_mem e)
          have l2 : h.beside.length = pre2.length + (post2.length + 1) := by rw [eb2, List.length_append, List.length_cons]
          have l3 : (n, h).2.beside.length = h.beside.length := rfl
          exact Nat.lt_of_le_of_lt (show pre2.length ≤ 1000 by omega) (by decide)
        have lacc2 : (pre2.foldl (fun acc m => acc ++ [heatOf R2 m]) []).length < sizeLine := by
          rw [foldl_snocM, List.nil_append, List.length_map]
          exact lpre
        generalize pre2.foldl (fun acc m => acc ++ [heatOf R2 m]) [] = acc2 at lacc2 ⊢
        have mb : m ∈ h.beside := by rw [eb2]; simp
        obtain ⟨h', e'⟩ := look_key (wf2.in_ _ (look_mem e) m mb) D5.nd
        have D6 := D5.go (Go.new (TL := TL K) (TG := TG K) (S := fun _ => False) (o := .lst (acc2.map V.int)) hL) id (fun _ _ => id) (fun _ _ => id)
        have ha' := D6.at_ e'
        refine ⟨rfl, ?_⟩
        refine tYes_ok ?_
        walk_at "v"; walk_at "v"
        refine ⟨_, _, rfl, D6.get e', ?_⟩
        refine ⟨_, _, _, _, rfl, rfl, SqL.of ha', rfl, ?_⟩
        refine ⟨_, upd_same, (by rw [List.length_map]; exact lacc2), ?_⟩
        rw [upd_upd, List.map_append]
        have : heatOf R2 m = h'.heat := by
          unfold heatOf
          rw [e'] <;> rfl
        rw [this]
        rfl
      · rintro H' rfl
        rw [foldl_snocM, List.nil_append]
        refine ⟨L, _, rfl, SqL.of upd_same, sortb_int _, fun hl hhl => ?_⟩
        rw [sortV_int]
        have g8 := ((Go.new (TL := TL K) (TG := TG K) (S := fun _ => False) (o := .lst ((h.beside.map (heatOf R2)).map V.int)) hL).trans (Go.new (o := .lst ((sortI (h.beside.map (heatOf R2))).map V.int)) hhl))
        have e8 : upd (upd H5 L (.lst ((h.beside.map (heatOf R2)).map V.int))) hl (.lst ((sortI (h.beside.map (heatOf R2))).map V.int)) hl = some (.lst ((sortI (h.beside.map (heatOf R2))).map V.int)) := upd_same
        generalize upd (upd H5 L (.lst ((h.beside.map (heatOf R2)).map V.int))) hl (.lst ((sortI (h.beside.map (heatOf R2))).map V.int)) = H8 at g8 e8 ⊢
        have D8 := D5.go g8 id (fun _ _ => id) (fun _ _ => id)
        have ha8 := D8.at_ e
        have efl8 := g8.keep _ _ e5 (by intro _ z; cases z) id
        have done : freshQ R2 h = false → (∃ x2 x3' x4' x5' x8' fl', [some (V.ref o), some (V.ref wd), some (V.str n), x3, x4, x5, none, some (V.ref fl), some (V.ref hl), none] = [some (V.ref o), some (V.ref wd), x2, x3', x4', x5', none, some (V.ref fl'), x8', none] ∧ H8 fl' = some (.lst ((if ((R2.lookup n).map (freshQ R2)).getD false = true then acc ++ [n] else acc).map V.str)) ∧ H fl' = none) ∧ Go (TL K) (TG K) (fun _ => False) H4 H8 := fun z => by
          refine ⟨⟨_, _, _, _, _, fl, rfl, ?_, pfl⟩, g5.trans g8⟩
          rw [e]
          simp only [Option.map_some, Option.getD_some, z]
          exact efl8
        walk_at "v"; walk_at "v"
        refine ⟨_, _, rfl, D8.get e, ?_⟩
        refine ⟨_, _, _, _, rfl, rfl, SqL.of ha8, rfl, ?_⟩
        walk_at "go"
        refine ite2 (fun c1 => ?_) (fun c1 => ?_)
        · walk_at "v"; walk_at "v"
          refine ⟨_, _, rfl, D8.get e, ?_⟩
          refine ⟨_, _, _, _, rfl, rfl, SqL.of ha8, rfl, ?_⟩
          walk_at "go"
          refine ite2 (fun c2 => ?_) (fun c2 => ?_)
          · walk_at "v"
            refine ⟨hl, _, rfl, SqL.of e8, fun rl hrl => ?_⟩
            refine ⟨2, rfl, rl, _, rfl, SqL.of upd_same, fun tl htl => ?_⟩
            have etl : upd (upd H8 rl (.lst ((sortI (h.beside.map (heatOf R2))).map V.int).reverse)) tl (.lst (cutV ((sortI (h.beside.map (heatOf R2))).map V.int).reverse none (some 2))) tl = some (.lst (((sortI (h.beside.map (heatOf R2))).reverse.take 2).map V.int)) := by
              rw [upd_same, show (2 : Int) = ((2 : Nat) : Int) from rfl, cut_take, List.map_take, List.map_reverse]
            refine ⟨tl, _, rfl, SqL.of etl, ?_⟩
            have g9 := (g8.trans (Go.new (o := .lst ((sortI (h.beside.map (heatOf R2))).map V.int).reverse) hrl)).trans (Go.new (o := .lst (cutV ((sortI (h.beside.map (heatOf R2))).map V.int).reverse none (some 2))) htl)
            have efl9 := g9.keep _ _ e5 (by intro _ z; cases z) id
            generalize upd (upd H8 rl (.lst ((sortI (h.beside.map (heatOf R2))).map V.int).reverse)) tl (.lst (cutV ((sortI (h.beside.map (heatOf R2))).map V.int).reverse none (some 2))) = H9 at g9 efl9 ⊢
            walk_at "go"
            have c1' : h.heat = 0 := V.int.inj (of_decide_eq_true c1)
            have hq : freshQ R2 h = decide (120 ≤ topTwo R2 h) := by
              unfold freshQ
              rw [show decide (0 < h.fuel) = true from c2, decide_eq_true c1', Bool.true_and, Bool.true_and]
            refine ite2 (fun c3 => ?_) (fun c3 => ⟨⟨_, _, _, _, _, fl, rfl, ?_, pfl⟩, g5.trans g9⟩)
            · have hq1 : freshQ R2 h = true := by rw [hq]; exact c3
              walk_at "v"; walk_at "v"
              refine ⟨(by show 1 ≤ sizeLine; decide), fun q hq => ?_⟩
              refine ⟨fl, q, acc.map V.str, [.str n], rfl, rfl, (by rw [upd_ne (ne_of_none efl9 hq)]; exact efl9), upd_same, ?_, fun p hp => ?_⟩
              · rw [List.length_map]
                show acc.length + 1 ≤ sizeLine
                exact Nat.le_trans (show acc.length + 1 ≤ 1001 by omega) (by decide)
              · have g10 := ((g5.trans g9).trans (Go.new (o := .lst [.str n]) hq)).trans (Go.new (o := .lst (acc.map V.str ++ [.str n])) hp)
                refine ⟨⟨_, _, _, _, _, p, rfl, ?_, ?_⟩, g10⟩
                · rw [upd_same, e]
                  simp only [Option.map_some, Option.getD_some, hq1, if_pos, List.map_append, List.map_cons, List.map_nil]
                · exact gC.free p (g5.free p (g9.free p ((Go.new (TL := TL K) (TG := TG K) (S := fun _ => False) hq).free p hp)))
            · have hq1 : freshQ R2 h = false := by rw [hq]; exact Bool.eq_false_iff.mpr c3
              rw [e]
              simp only [Option.map_some, Option.getD_some, hq1]
              exact efl9
          · have c2' : decide (0 < h.fuel) = false := Bool.eq_false_iff.mpr c2
            exact iteF (done (by unfold freshQ; rw [c2', Bool.false_and, Bool.and_false]))
        · have c1' : decide (h.heat = 0) = false := decide_eq_false fun z => c1 (decide_eq_true (by rw [z]))
          exact iteF (done (by unfold freshQ; rw [c1', Bool.false_and]))
    rintro σ H5 ⟨⟨x2, x3, x4, x5, x8, fl, rfl, e5, pfl⟩, g5⟩
    rw [foldl_filter, List.nil_append] at e5
    have e5' : H5 fl = some (.lst ((freshS R2).map V.str)) := e5
    clear e5
    have D5 := D4.go g5 id (fun _ _ => id) (fun _ _ => id)
    have gF : Go (TL K) (TG K) (fun a => a = o) H H5 := gC.trans g5.wide
    have nflo : fl ≠ o := fun z => by rw [z, D.dc] at pfl; cases pfl
    walk_at "v"
    refine ⟨fl, rfl, ⟨_, SqL.of e5'⟩, for_fold V.str (freshS R2) rfl walk_itl (fun R n => updH R n lit) R2
      (fun R' σ H6 => (∃ x2 x3 x4 x5 x8, σ = [some (.ref o), some (.ref wd), x2, x3, x4, x5, none, some (.ref fl), x8, none]) ∧ (∃ ga', HsAt H6 o R' ga' gb ∧ ∀ n, ga' n = ga n ∨ H (ga' n) = none) ∧ Go (TL K) (TG K) (fun a => a = o) H5 H6) ⟨⟨_, _, _, _, _, rfl⟩, ⟨ga1, D5, f2⟩, .refl⟩
      (fun _ σ H6 h => SqL.of (h.2.2.keep _ _ e5' (by intro _ z; cases z) nflo)) ?_ ?_⟩
    · rintro pre n post σ H6 eb ⟨⟨x2, x3, x4, x5, x8, rfl⟩, ⟨ga2, D6, f3⟩, g6⟩
      have kR : n ∈ R2.map (·.1) := by
        have : n ∈ freshS R2 := by rw [eb]; simp
        exact mem_sortS.mp (List.mem_filter.mp this).1
      have lR : (pre.foldl (fun R n => updH R n lit) R2).length < sizeLine := by
        have := congrArg List.length (fold_keys (g := fun _ => lit) pre R2)
        rw [List.length_map, List.length_map] at this
        rw [this]
        exact Nat.lt_of_le_of_lt wf2.len (by decide)
      obtain ⟨h, e⟩ := look_key (R := pre.foldl (fun R n => updH R n lit) R2) (n := n) (by rw [fold_keys (g := fun _ => lit)]; exact kR) D6.nd
      have ha := D6.at_ e
      generalize pre.foldl (fun R n => updH R n lit) R2 = R' at *
      walk_at "v"; walk_at "v"
      refine ⟨_, _, rfl, D6.get e, ?_⟩
      refine ⟨2, rfl, ga2 n, _, rfl, SqL.of ha, fun a1 q1 => ?_⟩
      have g7 := Go.new (TL := TL K) (TG := TG K) (S := fun _ => False) (o := .lst (cutV (hvals h (gb n)) none (some 2))) q1
      have w1 : upd H6 a1 (.lst (cutV (hvals h (gb n)) none (some 2))) a1 = some (.lst [.str h.corner, .int h.fuel]) := by rw [upd_same] <;> rfl
      generalize upd H6 a1 (.lst (cutV (hvals h (gb n)) none (some 2))) = H7 at g7 w1 ⊢
      refine ⟨(by show 1 ≤ sizeLine; decide), fun a2 q2 => ?_⟩
      have g8 := g7.trans (Go.new (o := .lst [.int 10]) q2)
      have w2 : upd H7 a2 (.lst [.int 10]) a1 = some (.lst [.str h.corner, .int h.fuel]) := by rw [upd_ne (ne_of_none w1 q2)]; exact w1
      have w3 : upd H7 a2 (.lst [.int 10]) a2 = some (.lst [.int 10]) := upd_same
      generalize upd H7 a2 (.lst [.int 10]) = H8 at g8 w2 w3 ⊢
      refine ⟨a1, a2, _, _, rfl, rfl, w2, w3, (by show 3 ≤ sizeLine; decide), fun a3 q3 => ?_⟩
      have g9 := g8.trans (Go.new (o := .lst ([.str h.corner, .int h.fuel] ++ [.int 10])) q3)
      have w4 : upd H8 a3 (.lst ([.str h.corner, .int h.fuel] ++ [.int 10])) a3 = some (.lst [.str h.corner, .int h.fuel, .int 10]) := upd_same
      generalize upd H8 a3 (.lst ([.str h.corner, .int h.fuel] ++ [.int 10])) = H9 at g9 w4 ⊢
      have D9 := D6.go g9 id (fun _ _ => id) (fun _ _ => id)
      have ha9 := D9.at_ e
      walk_at "v"; walk_at "v"
      refine ⟨_, _, rfl, D9.get e, ?_⟩
      refine ⟨3, rfl, ga2 n, _, rfl, SqL.of ha9, fun a4 q4 => ?_⟩
      have g10 := g9.trans (Go.new (o := .lst (cutV (hvals h (gb n)) (some 3) none)) q4)
      have w5 : upd H9 a4 (.lst (cutV (hvals h (gb n)) (some 3) none)) a3 = some (.lst [.str h.corner, .int h.fuel, .int 10]) := by rw [upd_ne (ne_of_none w4 q4)]; exact w4
      have w6 : upd H9 a4 (.lst (cutV (hvals h (gb n)) (some 3) none)) a4 = some (.lst [.ref (gb n)]) := by rw [upd_same] <;> rfl
      generalize upd H9 a4 (.lst (cutV (hvals h (gb n)) (some 3) none)) = H10 at g10 w5 w6 ⊢
      have D10 := D6.go g10 id (fun _ _ => id) (fun _ _ => id)
      refine ⟨a3, a4, _, _, rfl, rfl, w5, w6, (by show 4 ≤ sizeLine; decide), fun p hp => ?_⟩
      walk_at "v"; walk_at "v"
      refine ⟨o, _, rfl, DPut.k (k := Sum.inr n) (by rw [upd_ne (ne_of_none D10.dc hp)]; exact D10.dc) (by rw [List.length_map]; exact lR), ?_⟩
      refine ⟨⟨_, _, _, _, _, rfl⟩, ⟨_, D10.put e lit (fun _ => rfl) hp, fun m => ?_⟩, ((g6.trans g10.wide).trans (Go.new hp)).trans (Go.set (by rw [upd_ne (ne_of_none D10.dc hp)]; exact D10.dc) plain_dK rfl)⟩
      by_cases z : m = n
      · rw [if_pos z]
        exact .inr (gF.free p (g6.free p (g10.free p hp)))
      · rw [if_neg z]
        exact f3 m
    rintro σ H6 ⟨⟨x2, x3, x4, x5, x8, rfl⟩, ⟨ga2, D6, f3⟩, g6⟩
    walk_at "v"
    have D7 : HsAt H6 o (minR R W) ga2 gb := by
      unfold minR
      rw [eR2]
      exact D6
    exact k fl ga2 H6 pfl (g6.keep _ _ e5' (by intro _ z; cases z) nflo) D7 f3 (gF.trans g6)
end
end K3
namespace K3
open PySem PySem.Spec PyProof.Rows L2 Fy
open GxR (TabG Tabbed)
abbrev N_law_told : List Str := ["what"]
theorem sc_law_told : FnScope N_law_told ["what"] d_law_told.scope := ⟨rfl, rfl, rfl, by decide +kernel, rfl, by decide +kernel, by decide +kernel⟩
abbrev N_law : List Str := ["script", "dice", "k", "step", "name", "row", "own", "beside", "good", "fuel", "corner", "water", "alone", "many", "one", "bad", "f"]
theorem sc_law : FnScope N_law ["script"] d_law.scope := ⟨rfl, rfl, rfl, by decide +kernel, rfl, by decide +kernel, by decide +kernel⟩
def hn (k : Nat) : Str := ("h" : Str) ++ Str.ofString (toString (k : Int))
theorem hn_inj : ∀ j, j < 60 → ∀ k, k < 60 → hn j = hn k → j = k := by decide +kernel
theorem hn_ok : ∀ k, k < 60 → PyData.strOk (hn k) = true := by decide +kernel
theorem hn_len : ∀ k, k < 60 → (hn k).length ≤ 1000 ∧ ¬ hn k = "" := by decide +kernel
theorem hn_sum : ∀ k : Nat, k < 60 → ("h" : Str).length + (Str.ofString (toString (k : Int))).length ≤ 1000 := by decide +kernel
/-- the two keepers of houses, the program's and the law's -/
structure W3 (K : PySem.W.Frag) (H : Hp) (q r d o : Addr) (R : Hs) (fa fb ga gb : Str → Addr) : Prop where
  row : RowAt (CRow K) H r d R fa fb
  own : HsAt H o R ga gb
  dice : ∃ Dc, H q = some (.lst (dvals Dc))
  od : o ≠ d
  da : ∀ p ∈ R, ∀ p' ∈ R, fa p.1 ≠ ga p'.1
  db : ∀ p ∈ R, ∀ p' ∈ R, fb p.1 ≠ gb p'.1
  wf : WfR R
  fu : FuR R
  tb : Tb (TL K) (TG K) H
/-- the names are the law's own -/
structure Nm (k b : Nat) (R : Hs) : Prop where
  key : ∀ p ∈ R, ∃ j, j < k ∧ p.1 = hn j
  len : R.length ≤ k
  cor : ∀ p ∈ R, p.2.corner = "a" ∨ p.2.corner = "b"
  bes : ∀ p ∈ R, p.2.beside.length ≤ b
  he : ∀ p ∈ R, 0 ≤ p.2.heat
def LSt (sc q r o : V) (σ : L2.St) : Prop := ∃ x2 x3 x4 x7 x8 x9 x10 x11 x12 x13 x14 x15 x16 : Option V, σ = [some sc, some q, x2, x3, x4, some r, some o, x7, x8, x9, x10, x11, x12, x13, x14, x15, x16]
theorem dv_hv {Dc : Dice} {h : House} {b : Addr} : HO.lst (dvals Dc) ≠ .lst (hvals h b) := fun z => by
  injection z with z
  exact absurd (congrArg List.length z) (by simp [dvals, hvals])
theorem dv_bs {Dc : Dice} {bs : List Str} : HO.lst (dvals Dc) ≠ .lst (bs.map V.str) := fun z => by
  injection z with z
  unfold dvals at z
  match bs, z with
  | _ :: _, z => simp at z
theorem roll_lt {Dc : Dice} {m : Int} (h : 0 < m) : 0 ≤ rollV Dc m ∧ rollV Dc m < m := by
  unfold rollV
  split
  · exact ⟨Int.emod_nonneg _ (by omega), Int.emod_lt_of_pos _ h⟩
  · exact ⟨Int.emod_nonneg _ (by omega), Int.emod_lt_of_pos _ h⟩
/-- what neither keeper owns may change -/
theorem W3.go {K : PySem.W.Frag} {H H' : Hp} {q r d o : Addr} {R : Hs} {fa fb ga gb : Str → Addr} {S : Ad} (w : W3 K H q r d o R fa fb ga gb) (g : Go (TL K) (TG K) S H H') (hq : ∃ Dc, H' q = some (.lst (dvals Dc))) (hS : ∀ b, S b → b = q ∨ H b = none) : W3 K H' q r d o R fa fb ga gb := by
  obtain ⟨Dc, e⟩ := w.dice
  obtain ⟨⟨dx, h1⟩, hs, ia, ib⟩ := id w.row
  have n : ∀ b u, H b = some u → u ≠ .lst (dvals Dc) → ¬ S b := fun b u e1 n z => by
    rcases hS b z with y | y
    · rw [y, e] at e1
      exact n (Option.some.inj e1).symm
    · rw [y] at e1
      cases e1
  exact ⟨w.row.go g (n _ _ h1 (by intro z; cases z)) (n _ _ hs.dc (by intro z; cases z)) (fun p hp => n _ _ (hs.row p hp) fun z => dv_hv z.symm) (fun p hp => n _ _ (hs.bes p hp) fun z => dv_bs z.symm),
    w.own.go g (n _ _ w.own.dc (by intro z; cases z)) (fun p hp => n _ _ (w.own.row p hp) fun z => dv_hv z.symm) (fun p hp => n _ _ (w.own.bes p hp) fun z => dv_bs z.symm), hq, w.od, w.da, w.db, w.wf, w.fu, g.tb w.tb⟩
section
variable {P : Program} {w : World} {K : PySem.W.Frag} {mg : Str → Option Value} {base : Heap}
theorem told_law (T : Txt K mg base) {A : Around} {outer : List Env} {s : Shared} {H0 : Hp} {E0 : XK} (hr : Room 6 (A.deeper (envOfC d_law.qual d_law.scope s.heap.objs.size (He.fAd K d_law.at_) (.ref (He.codeOf K d_law.at_))))) {p lpos pos : Pos} {params : Arguments} {body : Expr} {scope : Scope} {t : XK → TE}
  (L : LamX.LamS d_law.scope scope)   (hdef : defaultsOf params (bodyX P w K mg base N_law d_law A outer s H0 E0).env = ([], [])) (hbind : ∀ (q : Str) (cl : List (Str × Addr)) (pm cv ctv : Value), bindArgs (PySem.W.kla_fn "<lambda>" q params body scope cl pm cv ctv) ⟨[], []⟩ = pure [])
    (hbody : ∀ (A' : Around) (outer' : List Env) (s' : Shared) (H : Hp) (E : XK) (f c' : Addr), Room 3 (A'.deeper (LamX.lamEnv (bodyX P w K mg base N_law d_law A outer s H0 E0) scope s'.heap.objs.size f c')) → PE (LamX.lamCx (bodyX P w K mg base N_law d_law A outer s H0 E0) A' outer' s' H E scope f c') body (t E)) :
   PE (bodyX P w K mg base N_law d_law A outer s H0 E0) (.Call (.Name "_law_told" p) [.Lambda params body scope lpos] [] pos) (tLamG (TL K) (TG K) (LamX.TTold K (CErr K) "BlazeError") t) := by
  refine pe_told (k := 3) (TL := TL K) (TG := TG K) (Ng := N_law_told) (a := "what") (e := "BlazeError") (c := (He.cT K ("law", none)).1) (P := (He.cT K ("law", none)).2) (dt := d_law_told) T.fn_law_told ?g1 ?g2 ?g3 ?g4 (show d_law_told.body = [.Try [.Return (some (.Call (.Name _ _) [] [] _)) _] [.ExceptHandler (some (.Name _ _)) none [.Return (some (.Constant (.str _) _ _)) _] _] [] [] _] from rfl) ?g6 ?g7 ?g8 ?g9 ?g10 ?g11 ?g12 ?g13 ?g14 ?g15 ?g16 ?g17 ?g18 ?g19 ?g20 ?g21 ?g22 ?g23 ?g24
  case g1 => rfl
  case g2 => rfl
  case g3 => rfl
  case g4 => rfl
  case g6 => exact (fun _ _ _ _ _ _ us hl => match us, hl with | [_], _ => rfl)
  case g7 => exact rfl
  case g8 => exact T.gl_law_told
  case g9 => exact sc_law_told
  case g10 => rfl
  case g11 => exact .inl rfl
  case g12 => rfl
  case g13 => exact T.gl_BlazeError
  case g14 => exact fun _ => rfl
  case g15 => exact T.tb_law
  case g16 => rfl
  case g17 => exact T.tm_law
  case g18 => exact T.tu_law
  case g19 => exact T.tn_law
  case g20 => exact (hr.mono (by decide))
  case g21 => exact L
  case g22 => exact hdef
  case g23 => exact hbind
  case g24 => exact hbody
/-- beside = [name for name in sorted(own) if ..] -/
theorem law_b0 (T : Txt K mg base) {A : Around} {outer : List Env} {s : Shared} {H0 : Hp} {E0 : XK} (hr : Room 6 (A.deeper (envOfC d_law.qual d_law.scope s.heap.objs.size (He.fAd K d_law.at_) (.ref (He.codeOf K d_law.at_))))) :
    ∃ t, PS (bodyX P w K mg base N_law d_law A outer s H0 E0) ((subS ((subS ((d_law.body).getD 0 noS)).getD 1 noS)).getD 0 noS) t ∧ ∀ (D : Ends) (H : Hp) (sc : V) (q r d o : Addr) (R : Hs) (fa fb ga gb : Str → Addr) (x2 x3 x4 x7 x8 x9 x10 x11 x12 x13 x14 x15 x16 : Option V), W3 K H q r d o R fa fb ga gb →
      (∀ (bl : Addr) (bs : List Str) (H' : Hp), H bl = none → H' bl = some (.lst (bs.map V.str)) → (∀ m ∈ bs, m ∈ R.map (·.1)) → bs.length ≤ R.length → W3 K H' q r d o R fa fb ga gb → Go (TL K) (TG K) (fun a => a = q) H H' →
        D.nx [some sc, some (.ref q), x2, x3, x4, some (.ref r), some (.ref o), some (.ref bl), x8, x9, x10, x11, x12, x13, x14, x15, x16] H') →
      t D [some sc, some (.ref q), x2, x3, x4, some (.ref r), some (.ref o), x7, x8, x9, x10, x11, x12, x13, x14, x15, x16] H := by
  have hu := hu_of hr
  refine ⟨_, (ps_set (i := 7) sc_law.nd rfl (by first | exact Or.inl rfl | exact Or.inr rfl) (pe_lc (own := [("name", 4)]) (g := gName 4) rfl sc_law.nd (pi_list (pe_callB (cr_sortD hr) (by rfl) T.fr_sorted (by decide +kernel) (pa_cons (pv 6) pa_nil))) (blkOk_by (own := [("name", 4)]) (N := N_law) (sc := d_law.scope) (by decide +kernel)) (fun _ _ _ _ _ => (pg_name (i := 4) sc_law.nd rfl (by first | exact Or.inl rfl | exact Or.inr rfl))) (fun _ _ _ _ _ => pts_one (pt_cmpR op_eq (pg_call (ok_law_roll T) (hr.mono (by decide)) rfl T.gl_law_roll passL (pa_cons (pv 1) (pa_cons pe_int pa_nil))) pe_int (nomark _))) (fun _ _ _ _ _ => (pv 4)))), fun D H sc q r d o R fa fb ga gb x2 x3 x4 x7 x8 x9 x10 x11 x12 x13 x14 x15 x16 W k => ?_⟩
  obtain ⟨Dc0, hq0⟩ := W.dice
  walk_at "v"
  refine ⟨_, _, rfl, .inl W.own.dc, (by rw [names_kv]; exact sortb_str _), fun sl hsl => ?_⟩
  rw [names_kv, sortV_str]
  have g1 := Go.new (TL := TL K) (TG := TG K) (S := fun _ => False) (o := .lst ((sortS (R.map (·.1))).map V.str)) hsl
  have e1 : upd H sl (.lst ((sortS (R.map (·.1))).map V.str)) sl = some (.lst ((sortS (R.map (·.1))).map V.str)) := upd_same
  generalize upd H sl (.lst ((sortS (R.map (·.1))).map V.str)) = H1 at g1 e1 ⊢
  have W1 := W.go g1 ⟨Dc0, g1.get hq0⟩ fun _ z => z.elim
  have nsq : sl ≠ q := (ne_of_none hq0 hsl).symm
  refine ⟨sl, rfl, ⟨_, SqL.of e1⟩, fun L hL => lc_fold V.str (sortS (R.map (·.1))) rfl walk_itl (fun l y => l ++ [y]) []
    (fun l H' => (∃ bs Dc, H' L = some (.lst (bs.map V.str)) ∧ (∀ m ∈ bs, m ∈ l) ∧ bs.length ≤ l.length ∧ H' q = some (.lst (dvals Dc))) ∧ Go (TL K) (TG K) (fun a => a = q ∨ a = L) H1 H')
    ⟨⟨[], Dc0, upd_same, fun _ z => (by cases z), Nat.le_refl _, by rw [upd_ne (ne_of_none (g1.get hq0) hL)]; exact g1.get hq0⟩, Go.new hL⟩
    (fun l H' h => SqL.of (h.2.keep _ _ e1 (by intro _ z; cases z) fun z => z.elim nsq (fun z => ne_of_none e1 hL z))) ?_ ?_⟩
  · rintro pre y post H' ey ⟨⟨bs, Dc, eL, hb, lb, eq⟩, g2⟩
    rw [foldl_snoc, List.nil_append] at hb lb ⊢
    have lp : pre.length < R.length := by
      have := congrArg List.length ey
      rw [len_sortS, List.length_map, List.length_append, List.length_cons] at this
      omega
    have nqL : q ≠ L := ne_of_none (g1.get hq0) hL
    refine ⟨rfl, ?_⟩
    walk_at "v"
    refine ⟨q, Dc, 2, rfl, eq, by decide, by decide, ?_⟩
    have g3 := g2.trans (Go.set (o := .lst (dvals (rollD Dc 2))) eq plain_lst (.inl rfl))
    walk_at "go"
    refine ite2 (fun z => ?_) (fun z => ?_)
    · walk_at "v"
      have eL' : upd H' q (.lst (dvals (rollD Dc 2))) L = some (.lst (bs.map V.str)) := by rw [upd_ne nqL.symm]; exact eL
      refine ⟨_, eL', ?_, ⟨bs ++ [y], rollD Dc 2, ?_, ?_, ?_, ?_⟩, g3.trans (Go.set eL' plain_lst (.inr rfl))⟩
      · rw [List.length_map]
        have := W.wf.len
        exact Nat.lt_of_le_of_lt (show bs.length ≤ 1000 by omega) (by decide)
      · rw [upd_same, List.map_append]
        rfl
      · intro m hm
        rcases List.mem_append.mp hm with z | z
        · exact List.mem_append_left _ (hb m z)
        · exact List.mem_append_right _ z
      · rw [List.length_append, List.length_append]
        exact Nat.add_le_add_right lb 1
      · rw [upd_ne nqL]; exact upd_same
    · refine ⟨⟨bs, rollD Dc 2, by rw [upd_ne nqL.symm]; exact eL, fun m hm => List.mem_append_left _ (hb m hm), Nat.le_trans lb (by rw [List.length_append]; omega), upd_same⟩, g3⟩
  · rintro H' ⟨⟨bs, Dc, eL, hb, lb, eq⟩, g2⟩
    rw [foldl_snoc, List.nil_append] at hb lb
    have fL : H L = none := g1.free L hL
    have g3 : Go (TL K) (TG K) (fun a => a = q) H H' := (g1.wide.trans g2).drop fun b z => z.elim .inl fun z => .inr (by rw [z]; exact fL)
    refine k L bs H' fL eL (fun m hm => mem_sortS.mp (hb m hm)) (by rw [len_sortS, List.length_map] at lb; exact lb) (W.go g3 ⟨Dc, eq⟩ fun b z => .inl z) g3
end
end K3
namespace K3
open PySem PySem.Spec PyProof.Rows L2 Fy
open GxR (TabG Tabbed)
theorem HsAt.add {H : Hp} {o p q : Addr} {R : Hs} {ga gb : Str → Addr} {n c : Str} {f : Int} {bs : List Str} (D : HsAt H o R ga gb) (hn : R.lookup n = none) (hq : H q = none) (hp : upd H q (.lst (bs.map V.str)) p = none) :
    HsAt (upd (upd (upd H q (.lst (bs.map V.str))) p (.lst [.str c, .int f, .int 0, .ref q])) o (.dK (putK (R.map fun p => (Sum.inr p.1, V.ref (ga p.1))) (Sum.inr n) (.ref p)))) o (R ++ [(n, ⟨c, f, 0, bs⟩)]) (fun m => if m = n then p else ga m) (fun m => if m = n then q else gb m) := by
  obtain ⟨dc, row, bes, nd⟩ := D
  obtain ⟨n1, hp'⟩ := upd_none.mp hp
  have n5 := ne_of_none dc hq
  have n6 := ne_of_none dc hp'
  have nn := look_none hn
  have keep : ∀ b u, H b = some u → b ≠ o → upd (upd (upd H q (.lst (bs.map V.str))) p (.lst [.str c, .int f, .int 0, .ref q])) o (.dK (putK (R.map fun p => (Sum.inr p.1, V.ref (ga p.1))) (Sum.inr n) (.ref p))) b = some u := fun b u e ne => by
    rw [upd_ne ne, upd_ne (ne_of_none e hp'), upd_ne (ne_of_none e hq)]
    exact e
  have eapp : ∀ x ∈ R ++ [(n, (⟨c, f, 0, bs⟩ : House))], (x ∈ R ∧ x.1 ≠ n) ∨ (x = (n, ⟨c, f, 0, bs⟩)) := fun x hx => by
    rcases List.mem_append.mp hx with y | y
    · exact .inl ⟨y, nn x y⟩
    · exact .inr (List.mem_singleton.mp y)
  refine ⟨?_, fun x hx => ?_, fun x hx => ?_, ?_⟩
  · rw [upd_same, putK_new _ (by rw [val_look, hn] <;> rfl), List.map_append]
    have e1 : R.map (fun x => ((Sum.inr x.1 : Key), V.ref (if x.1 = n then p else ga x.1))) = R.map fun p => (Sum.inr p.1, V.ref (ga p.1)) := List.map_congr_left fun x hx => by rw [if_neg (nn x hx)]
    rw [e1]
    simp
  · rcases eapp x hx with ⟨y, e⟩ | rfl
    · simp only [if_neg e]
      exact keep _ _ (row x y) (ne_of (row x y) dc (by intro z; cases z))
    · simp only [if_pos]
      rw [upd_ne (Ne.symm n6), upd_same] <;> rfl
  · rcases eapp x hx with ⟨y, e⟩ | rfl
    · simp only [if_neg e]
      exact keep _ _ (bes x y) (ne_of (bes x y) dc (by intro z; cases z))
    · simp only [if_pos]
      rw [upd_ne (Ne.symm n5), upd_ne (Ne.symm n1), upd_same]
  · rw [List.map_append, List.nodup_append]
    refine ⟨nd, by simp, fun a ha b hb => ?_⟩
    obtain ⟨x, hx, rfl⟩ := List.mem_map.mp ha
    have : b = n := by simpa using hb
    rw [this]
    exact nn x hx
theorem HsAt.relink {H : Hp} {o p p' : Addr} {R : Hs} {ga gb : Str → Addr} {n m : Str} {h : House} (D : HsAt H o R ga gb) (e : R.lookup n = some h) (hp : H p = none) (hp' : H p' = some (.lst (h.beside.map V.str ++ [.str m]))) :
    HsAt (upd (upd H p (.lst [.str h.corner, .int h.fuel, .int h.heat, .ref p'])) o (.dK (putK (R.map fun p => ((Sum.inr p.1 : Key), V.ref (ga p.1))) (Sum.inr n) (.ref p)))) o (updH R n fun x => { x with beside := x.beside ++ [m] }) (fun y => if y = n then p else ga y) (fun y => if y = n then p' else gb y) := by
  obtain ⟨dc, row, bes, nd⟩ := D
  have kn : n ∈ R.map (·.1) := List.mem_map.mpr ⟨_, look_mem e, rfl⟩
  have hq : ∀ q ∈ R, q.1 = n → q.2 = h := fun q hq z => by
    have hq' : R.lookup n = some q.2 := mem_look nd (by rw [← z]; exact hq)
    rw [e] at hq'
    exact (Option.some.inj hq').symm
  have keep : ∀ b u, H b = some u → b ≠ o → upd (upd H p (.lst [.str h.corner, .int h.fuel, .int h.heat, .ref p'])) o (.dK (putK (R.map fun p => ((Sum.inr p.1 : Key), V.ref (ga p.1))) (Sum.inr n) (.ref p))) b = some u := fun b u eb ne => by
    rw [upd_ne ne, upd_ne (ne_of_none eb hp)]
    exact eb
  refine ⟨by rw [upd_same, put_old (f := fun x => { x with beside := x.beside ++ [m] }) kn], fun x hx => ?_, fun x hx => ?_, by rw [keys_updH]; exact nd⟩
  · obtain ⟨q, hq', e1, e2⟩ := updH_mem hx
    by_cases z : x.1 = n
    · rw [if_pos z, if_pos z, e2, if_pos z, hq q hq' (by rw [e1]; exact z), upd_ne (ne_of_none dc hp).symm, upd_same]
      rfl
    · rw [if_neg z, if_neg z, e2, if_neg z, ← e1]
      exact keep _ _ (row q hq') (ne_of (row q hq') dc (by intro z; cases z))
  · obtain ⟨q, hq', e1, e2⟩ := updH_mem hx
    by_cases z : x.1 = n
    · rw [if_pos z, e2, if_pos z, hq q hq' (by rw [e1]; exact z)]
      simp only [List.map_append, List.map_cons, List.map_nil]
      exact keep _ _ hp' (ne_of hp' dc (by intro z; cases z))
    · rw [if_neg z, e2, if_neg z, ← e1]
      exact keep _ _ (bes q hq') (ne_of (bes q hq') dc (by intro z; cases z))
section
variable {P : Program} {w : World} {K : PySem.W.Frag} {mg : Str → Option Value} {base : Heap}
/-- if good: own[..] = [..]; for name in beside: .. -/
theorem law_b4 (T : Txt K mg base) {A : Around} {outer : List Env} {s : Shared} {H0 : Hp} {E0 : XK} (hr : Room 6 (A.deeper (envOfC d_law.qual d_law.scope s.heap.objs.size (He.fAd K d_law.at_) (.ref (He.codeOf K d_law.at_))))) :
    ∃ t, PS (bodyX P w K mg base N_law d_law A outer s H0 E0) ((subS ((subS ((d_law.body).getD 0 noS)).getD 1 noS)).getD 4 noS) t ∧ (∀ (D : Ends) (H : Hp) (sc : V) (q r o bl : Addr) (R : Hs) (ga gb : Str → Addr) (bs : List Str) (kk : Nat) (c : Str) (f : Int) (x3 x4 x11 x12 x13 x14 x15 x16 : Option V), HsAt H o R ga gb → R.lookup (hn kk) = none → kk < 60 → R.length ≤ 1000 →
      H bl = some (.lst (bs.map V.str)) → (∀ m ∈ bs, m ∈ R.map (·.1)) → (∀ p ∈ R, p.2.beside.length + bs.length ≤ 1000) →
      (∀ (x4 : Option V) (ga' gb' : Str → Addr) (H' : Hp), HsAt H' o (buildS R (hn kk) c f bs) ga' gb' → (∀ m, (m ≠ hn kk ∧ ga' m = ga m) ∨ H (ga' m) = none) → (∀ m, (m ≠ hn kk ∧ gb' m = gb m) ∨ H (gb' m) = none) → Go (TL K) (TG K) (fun a => a = o) H H' →
        D.nx [some sc, some (.ref q), some (.int kk), x3, x4, some (.ref r), some (.ref o), some (.ref bl), some (.bl true), some (.int f), some (.str c), x11, x12, x13, x14, x15, x16] H') →
      t D [some sc, some (.ref q), some (.int kk), x3, x4, some (.ref r), some (.ref o), some (.ref bl), some (.bl true), some (.int f), some (.str c), x11, x12, x13, x14, x15, x16] H) ∧
    ∀ (D : Ends) (H : Hp) (x0 x1 x2 x3 x4 x5 x6 x7 x9 x10 x11 x12 x13 x14 x15 x16 : Option V), D.nx [x0, x1, x2, x3, x4, x5, x6, x7, some (.bl false), x9, x10, x11, x12, x13, x14, x15, x16] H → t D [x0, x1, x2, x3, x4, x5, x6, x7, some (.bl false), x9, x10, x11, x12, x13, x14, x15, x16] H := by
  have hu := hu_of hr
  refine ⟨_, (ps_if (pt_val (pv 8)) (pss_cons (ps_dput hu (pv 6) (pe_op op_add_str pe_str (pe_callTy call_str_int (by rfl) T.fr_str (by decide +kernel) (pa_cons (pv 2) pa_nil))) (pe_lst (pa_cons (pv 10) (pa_cons (pv 9) (pa_cons pe_int (pa_cons (pe_callTy call_list_of (by rfl) T.fr_list (by decide +kernel) (pa_cons (pv 7) pa_nil)) pa_nil))))) rfl)
        (pss_one (ps_for (passes_of rfl) rfl (pi_list (pv 7)) (pg_name (i := 4) sc_law.nd rfl (by first | exact Or.inl rfl | exact Or.inr rfl)) (pss_one (ps_dput hu (pv 6) (pv 4) (pe_op op_cat (pe_slice sl_list (pe_dget hu (pv 6) (pv 4) (fun _ _ => rfl)) po_none (po_some pe_int)) (pe_lst (pa_cons (pe_op op_cat (pe_ix ix_list (pe_dget hu (pv 6) (pv 4) (fun _ _ => rfl)) pe_int (fun _ _ => rfl)) (pe_lst (pa_cons (pe_op op_add_str pe_str (pe_callTy call_str_int (by rfl) T.fr_str (by decide +kernel) (pa_cons (pv 2) pa_nil))) pa_nil))) pa_nil))) rfl))))) pss_nil), fun D H sc q r o bl R ga gb bs kk c f x3 x4 x11 x12 x13 x14 x15 x16 W hn0 hk lR hbl hbs lbs k => ?_, fun D H x0 x1 x2 x3 x4 x5 x6 x7 x9 x10 x11 x12 x13 x14 x15 x16 k => ⟨_, rfl, _, rfl, iteF k⟩⟩
  have lg : ((kk : Nat) : Int).natAbs.log2 < 1920 := by
    rw [Int.natAbs_natCast]
    exact Nat.lt_of_le_of_lt (Nat.log2_le_self kk) (by omega)
  have ls : ("h" : Str).length + (Str.ofString (toString ((kk : Nat) : Int))).length ≤ sizeLine := Nat.le_trans (hn_sum kk hk) (by decide)
  walk_at "v"
  refine ⟨_, rfl, iteT ?_⟩
  walk_at "v"; walk_at "v"; walk_at "v"
  refine ⟨bl, _, rfl, .inl (SqL.of hbl), fun q1 hq1 => ?_⟩
  refine ⟨(by show 4 ≤ sizeLine; decide), fun p1 hp1 => ?_⟩
  walk_at "v"; walk_at "v"
  refine ⟨_, rfl, lg, ?_⟩
  refine ⟨_, _, rfl, rfl, ls, ?_⟩
  have hp1' := (upd_none.mp hp1).2
  have eo : upd (upd H q1 (.lst (bs.map V.str))) p1 (.lst [.str c, .int f, .int 0, .ref q1]) o = some (.dK (R.map fun p => (Sum.inr p.1, V.ref (ga p.1)))) := by
    rw [upd_ne (ne_of_none W.dc hp1'), upd_ne (ne_of_none W.dc hq1)]
    exact W.dc
  refine ⟨o, _, rfl, DPut.k (k := Sum.inr (hn kk)) eo (by rw [List.length_map]; exact Nat.lt_of_le_of_lt lR (by decide)), ?_⟩
  have W1 := W.add (c := c) (f := f) hn0 hq1 hp1
  have g1 := ((Go.new (TL := TL K) (TG := TG K) (S := fun a => a = o) (o := .lst (bs.map V.str)) hq1).trans (Go.new (o := .lst [.str c, .int f, .int 0, .ref q1]) hp1)).trans (Go.set (o := .dK (putK (R.map fun p => (Sum.inr p.1, V.ref (ga p.1))) (Sum.inr (hn kk)) (.ref p1))) eo plain_dK rfl)
  generalize upd (upd (upd H q1 (.lst (bs.map V.str))) p1 (.lst [.str c, .int f, .int 0, .ref q1])) o (.dK (putK (R.map fun p => (Sum.inr p.1, V.ref (ga p.1))) (Sum.inr (hn kk)) (.ref p1))) = H1 at W1 g1 ⊢
  have nblo : bl ≠ o := ne_of hbl W.dc (by intro z; cases z)
  have hbl1 := g1.keep _ _ hbl (by intro _ z; cases z) nblo
  have nm : ∀ m ∈ bs, m ≠ hn kk := fun m hm e => by
    obtain ⟨x, hx⟩ := look_key (hbs m hm) W.nd
    rw [e, hn0] at hx
    cases hx
  walk_at "v"
  refine ⟨bl, rfl, ⟨_, SqL.of hbl1⟩, for_fold V.str bs rfl walk_itl (fun R m => updH R m fun x => { x with beside := x.beside ++ [hn kk] }) (R ++ [(hn kk, ⟨c, f, 0, bs⟩)])
    (fun R' σ H' => (∃ x4, σ = [some sc, some (.ref q), some (.int kk), x3, x4, some (.ref r), some (.ref o), some (.ref bl), some (.bl true), some (.int f), some (.str c), x11, x12, x13, x14, x15, x16]) ∧
      (∃ ga' gb', HsAt H' o R' ga' gb' ∧ (∀ m, (m ≠ hn kk ∧ ga' m = ga m) ∨ H (ga' m) = none) ∧ (∀ m, (m ≠ hn kk ∧ gb' m = gb m) ∨ H (gb' m) = none)) ∧ Go (TL K) (TG K) (fun a => a = o) H1 H')
    ⟨⟨_, rfl⟩, ⟨_, _, W1, fun m => ?_, fun m => ?_⟩, .refl⟩ (fun _ σ H' h => SqL.of (h.2.2.keep _ _ hbl1 (by intro _ z; cases z) nblo)) ?_ ?_⟩
  · by_cases z : m = hn kk
    · rw [if_pos z]; exact .inr hp1'
    · rw [if_neg z]; exact .inl ⟨z, rfl⟩
  · by_cases z : m = hn kk
    · rw [if_pos z]; exact .inr hq1
    · rw [if_neg z]; exact .inl ⟨z, rfl⟩
  · rintro pre m post σ H2 eb ⟨⟨x4, rfl⟩, ⟨ga', gb', W2, f2, f3⟩, g2⟩
    have hm : m ∈ bs := by rw [eb]; simp
    obtain ⟨h0, eh⟩ := look_key (hbs m hm) W.nd
    obtain ⟨h, e, l4⟩ := link_look (n := hn kk) pre (show (R ++ [(hn kk, (⟨c, f, 0, bs⟩ : House))]).lookup m = some h0 by rw [look_app, eh] <;> rfl)
    have lb := lbs _ (look_mem eh)
    have lp : pre.length ≤ bs.length := by rw [eb, List.length_append]; omega
    have lR' : (pre.foldl (fun R m => updH R m fun x => { x with beside := x.beside ++ [hn kk] }) (R ++ [(hn kk, ⟨c, f, 0, bs⟩)])).length < sizeLine := by
      have := congrArg List.length (fold_keys (g := fun _ x => { x with beside := x.beside ++ [hn kk] }) pre (R ++ [(hn kk, ⟨c, f, 0, bs⟩)]))
      rw [List.length_map, List.length_map, List.length_append] at this
      rw [this]
      exact Nat.lt_of_le_of_lt (show R.length + 1 ≤ 1001 by omega) (by decide)
    generalize pre.foldl (fun R m => updH R m fun x => { x with beside := x.beside ++ [hn kk] }) (R ++ [(hn kk, ⟨c, f, 0, bs⟩)]) = R' at *
    have ha := W2.at_ e
    have hbe := W2.bes _ (look_mem e)
    walk_at "v"; walk_at "v"
    refine ⟨_, _, rfl, W2.get e, ?_⟩
    refine ⟨3, rfl, ga' m, _, rfl, SqL.of ha, fun a1 q1 => ?_⟩
    have g7 := Go.new (TL := TL K) (TG := TG K) (S := fun _ => False) (o := .lst (cutV (hvals h (gb' m)) none (some 3))) q1
    have w1 : upd H2 a1 (.lst (cutV (hvals h (gb' m)) none (some 3))) a1 = some (.lst [.str h.corner, .int h.fuel, .int h.heat]) := by rw [upd_same] <;> rfl
    generalize upd H2 a1 (.lst (cutV (hvals h (gb' m)) none (some 3))) = H7 at g7 w1 ⊢
    have W7 := W2.go g7 id (fun _ _ => id) (fun _ _ => id)
    walk_at "v"; walk_at "v"
    refine ⟨_, _, rfl, W7.get e, ?_⟩
    refine ⟨_, _, _, _, rfl, rfl, SqL.of (W7.at_ e), rfl, ?_⟩
    walk_at "v"
    refine ⟨_, rfl, lg, ?_⟩
    refine ⟨_, _, rfl, rfl, ls, ?_⟩
    refine ⟨(by show 1 ≤ sizeLine; decide), fun a2 q2 => ?_⟩
    have g8 := g7.trans (Go.new (o := .lst [.str (hn kk)]) q2)
    have w2 : upd H7 a2 (.lst [.str (hn kk)]) a1 = some (.lst [.str h.corner, .int h.fuel, .int h.heat]) := by rw [upd_ne (ne_of_none w1 q2)]; exact w1
    have w3 : upd H7 a2 (.lst [.str (hn kk)]) a2 = some (.lst [.str (hn kk)]) := upd_same
    have w4 : upd H7 a2 (.lst [.str (hn kk)]) (gb' m) = some (.lst (h.beside.map V.str)) := g8.keep _ _ hbe (by intro _ z; cases z) id
    change rCat (V.ref (gb' m)) (V.ref a2) (upd H7 a2 (.lst [.str (hn kk)])) _
    generalize upd H7 a2 (.lst [.str (hn kk)]) = H8 at g8 w2 w3 w4 ⊢
    have lbs2 : (h.beside.map V.str).length + [V.str (hn kk)].length ≤ sizeLine := by
      rw [List.length_map]
      show h.beside.length + 1 ≤ sizeLine
      have : (m, h0).2.beside.length = h0.beside.length := rfl
      exact Nat.le_trans (show h.beside.length + 1 ≤ 1001 by omega) (by decide)
    refine ⟨gb' m, a2, _, _, rfl, rfl, w4, w3, lbs2, fun p' q3 => ?_⟩
    have g9 := g8.trans (Go.new (o := .lst (h.beside.map V.str ++ [.str (hn kk)])) q3)
    have w5 : upd H8 p' (.lst (h.beside.map V.str ++ [.str (hn kk)])) p' = some (.lst (h.beside.map V.str ++ [.str (hn kk)])) := upd_same
    have w6 : upd H8 p' (.lst (h.beside.map V.str ++ [.str (hn kk)])) a1 = some (.lst [.str h.corner, .int h.fuel, .int h.heat]) := by rw [upd_ne (ne_of_none w2 q3)]; exact w2
    have fp' : H p' = none := g1.free _ (g2.free _ (g8.free _ q3))
    generalize upd H8 p' (.lst (h.beside.map V.str ++ [.str (hn kk)])) = H9 at g9 w5 w6 ⊢
    refine ⟨(by show 1 ≤ sizeLine; decide), fun a3 q4 => ?_⟩
    have g10 := g9.trans (Go.new (o := .lst [.ref p']) q4)
    have w7 : upd H9 a3 (.lst [.ref p']) p' = some (.lst (h.beside.map V.str ++ [.str (hn kk)])) := by rw [upd_ne (ne_of_none w5 q4)]; exact w5
    have w8 : upd H9 a3 (.lst [.ref p']) a1 = some (.lst [.str h.corner, .int h.fuel, .int h.heat]) := by rw [upd_ne (ne_of_none w6 q4)]; exact w6
    have w9 : upd H9 a3 (.lst [.ref p']) a3 = some (.lst [.ref p']) := upd_same
    generalize upd H9 a3 (.lst [.ref p']) = H10 at g10 w7 w8 w9 ⊢
    have W10 := W2.go g10 id (fun _ _ => id) (fun _ _ => id)
    refine ⟨a1, a3, _, _, rfl, rfl, w8, w9, (by show 4 ≤ sizeLine; decide), fun p hp => ?_⟩
    have fp : H p = none := g1.free _ (g2.free _ (g10.free _ hp))
    walk_at "v"; walk_at "v"
    refine ⟨o, _, rfl, DPut.k (k := Sum.inr m) (by rw [upd_ne (ne_of_none W10.dc hp)]; exact W10.dc) (by rw [List.length_map]; exact lR'), ?_⟩
    refine ⟨⟨_, rfl⟩, ⟨_, _, W10.relink e hp w7, fun y => ?_, fun y => ?_⟩, ((g2.trans g10.wide).trans (Go.new hp)).trans (Go.set (by rw [upd_ne (ne_of_none W10.dc hp)]; exact W10.dc) plain_dK rfl)⟩
    · by_cases z : y = m
      · rw [if_pos z]; exact .inr fp
      · rw [if_neg z]; exact f2 y
    · by_cases z : y = m
      · rw [if_pos z]; exact .inr fp'
      · rw [if_neg z]; exact f3 y
  · rintro σ H' ⟨⟨x4, rfl⟩, ⟨ga', gb', W2, f2, f3⟩, g2⟩
    exact k x4 ga' gb' H' W2 f2 f3 (g1.trans g2)
end
end K3
namespace K3
open PySem PySem.Spec PyProof.Rows L2 Fy
open GxR (TabG Tabbed)
section
variable {P : Program} {w : World} {K : PySem.W.Frag} {mg : Str → Option Value} {base : Heap}
theorem lg60 {kk : Nat} (h : kk < 60) : ((kk : Nat) : Int).natAbs.log2 < 1920 := by
  rw [Int.natAbs_natCast]
  exact Nat.lt_of_le_of_lt (Nat.log2_le_self kk) (by omega)
theorem ls60 {kk : Nat} (h : kk < 60) : ("h" : Str).length + (Str.ofString (toString ((kk : Nat) : Int))).length ≤ sizeLine := Nat.le_trans (hn_sum kk h) (by decide)
/-- the program builds a house, or does not -/
theorem law_b3 (T : Txt K mg base) {A : Around} {outer : List Env} {s : Shared} {H0 : Hp} {E0 : XK} (hr : Room 6 (A.deeper (envOfC d_law.qual d_law.scope s.heap.objs.size (He.fAd K d_law.at_) (.ref (He.codeOf K d_law.at_))))) :
    ∃ t, PS (bodyX P w K mg base N_law d_law A outer s H0 E0) ((subS ((subS ((d_law.body).getD 0 noS)).getD 1 noS)).getD 3 noS) t ∧ ∀ (D : Ends) (H : Hp) (sc : V) (q r d o bl : Addr) (R : Hs) (fa fb ga gb : Str → Addr) (bs : List Str) (kk : Nat) (c : Str) (f : Int) (x3 x4 x11 x12 x13 x14 x15 x16 : Option V), W3 K H q r d o R fa fb ga gb → R.lookup (hn kk) = none → kk < 60 → R.length < 60 → 0 ≤ f →
      H bl = some (.lst (bs.map V.str)) → (∀ p ∈ R, bl ≠ fb p.1) → (∀ m ∈ bs, m ∈ R.map (·.1)) → bs.length ≤ 1000 → (∀ p ∈ R, p.2.beside.length + bs.length ≤ 1000) →
      (∀ H', ¬ 0 < f → W3 K H' q r d o R fa fb ga gb → Go (TL K) (TG K) (fun _ => False) H H' →
        D.nx [some sc, some (.ref q), some (.int kk), x3, x4, some (.ref r), some (.ref o), some (.ref bl), some (.bl (decide (0 < f))), some (.int f), some (.str c), x11, x12, x13, x14, x15, x16] H') →
      (∀ fa' fb' H', 0 < f → H (fa' (hn kk)) = none → H (fb' (hn kk)) = none → (∀ m, m ≠ hn kk → fa' m = fa m ∧ fb' m = fb m) → RowAt (CRow K) H' r d (buildS R (hn kk) c f bs) fa' fb' → Go (TL K) (TG K) (fun a => a = d ∨ ∃ p ∈ R, a = fb p.1) H H' →
        D.nx [some sc, some (.ref q), some (.int kk), x3, x4, some (.ref r), some (.ref o), some (.ref bl), some (.bl (decide (0 < f))), some (.int f), some (.str c), x11, x12, x13, x14, x15, x16] H') →
      t D [some sc, some (.ref q), some (.int kk), x3, x4, some (.ref r), some (.ref o), some (.ref bl), some (.bl (decide (0 < f))), some (.int f), some (.str c), x11, x12, x13, x14, x15, x16] H := by
  have hu := hu_of hr
  refine ⟨_, (ps_if (pt_cmpR op_eq (pe_cmpR op_eq (told_law T hr (LamX.lamS_by (by decide +kernel)) rfl (fun _ _ _ _ _ => rfl) (fun A outer s H E f c' hr2 => (pg_meth (ok_Row_build T) (hr2.mono (by decide)) T.cl_Row T.me_Row_build pxl (pv 5) (pa_cons (pe_op op_add_str pe_str (pe_callTy call_str_int (by rfl) T.fr_str (by decide +kernel) (pa_cons (pv 2) pa_nil))) (pa_cons (pv 10) (pa_cons (pv 9) (pa_cons (pv 7) pa_nil))))))) pe_str (nomark _)) (pv 8) (nomark _)) (pss_one (ps_ret pe_bl)) pss_nil), fun D H sc q r d o bl R fa fb ga gb bs kk c f x3 x4 x11 x12 x13 x14 x15 x16 W hn0 hk lR hf hbl nbl hbs lb1 lbs k1 k2 => ?_⟩
  refine ⟨W.tb, fun H1 g1 => ?_⟩
  have W1 := W.go g1 (W.dice.imp fun _ h => g1.get h) fun _ z => z.elim
  have hbl1 := g1.get hbl
  obtain ⟨⟨dx, h1⟩, hs, ia, ib⟩ := id W1.row
  have cb : canBuild R (hn kk) f bs = decide (0 < f) := by
    have e1 : (bs.all fun o => (R.lookup o).isSome) = true := List.all_eq_true.mpr fun m hm => by
      obtain ⟨x, hx⟩ := look_key (hbs m hm) W.own.nd
      rw [hx] <;> rfl
    unfold canBuild
    rw [hn0, e1, decide_eq_false (hn_len kk hk).2, decide_eq_false (show ¬ 60 ≤ R.length by omega)]
    by_cases z : 0 < f
    · rw [decide_eq_false (show ¬ f < 1 by omega), decide_eq_true z] <;> rfl
    · rw [decide_eq_true (show f < 1 by omega), decide_eq_false z] <;> rfl
  walk_at "v"
  refine ⟨_, _, _, rfl, h1, rfl, ?_⟩
  walk_at "v"
  refine ⟨_, rfl, lg60 hk, ?_⟩
  refine ⟨_, _, rfl, rfl, ls60 hk, ?_⟩
  walk_at "v"; walk_at "v"; walk_at "v"
  refine ⟨r, d, R, fa, fb, hn kk, c, f, bl, bs, rfl, W1.row, W1.tb, .inl fun H' g => ?_, lbs, lb1, fun z H' g => ?_, fun z fa' fb' H' f1 f2 f3 hrow g => ?_⟩
  · refine SqL.of (g.keep _ _ hbl1 (by intro _ z; cases z) fun z => ?_)
    rcases z with z | ⟨p, hp, z⟩
    · exact ne_of hbl1 hs.dc (by intro z; cases z) z
    · exact nbl p hp z
  · have zf : ¬ 0 < f := by
      rw [cb] at z
      exact of_decide_eq_false z
    refine ⟨true, T.em_BlazeError_BlazeError, fun _ => ?_, fun z => by cases z⟩
    refine ⟨rfl, ?_⟩
    walk_at "v"
    refine ⟨rfl, ?_⟩
    refine ⟨_, rfl, ?_⟩
    refine ite2 (fun y => absurd (of_decide_eq_true y) ?_) (fun _ => ?_)
    · rw [decide_eq_false zf]
      intro y
      have y2 := V.bl.inj y
      rw [decide_eq_true rfl] at y2
      cases y2
    · have g2 := g1.trans g
      exact k1 H' zf (W.go g2 (W.dice.imp fun _ h => g2.get h) fun _ z => z.elim) g2
  · have zf : 0 < f := by
      rw [cb] at z
      exact of_decide_eq_true z
    refine ⟨rfl, ?_⟩
    walk_at "v"
    refine ⟨rfl, ?_⟩
    refine ⟨_, rfl, ?_⟩
    refine ite2 (fun y => absurd (of_decide_eq_true y) ?_) (fun _ => ?_)
    · rw [decide_eq_true zf]
      intro y
      have y2 := V.bl.inj y
      rw [decide_eq_false (by intro z; cases z)] at y2
      cases y2
    · exact k2 fa' fb' H' zf (g1.free _ f1) (g1.free _ f2) f3 hrow (g1.wide.trans g)
end
end K3
namespace K3
open PySem PySem.Spec PyProof.Rows L2 Fy
open GxR (TabG Tabbed)
section
variable {P : Program} {w : World} {K : PySem.W.Frag} {mg : Str → Option Value} {base : Heap}
theorem ab_ok (v : Int) (h0 : 0 ≤ v) (h1 : v < 2) : ∃ c, atI ("ab" : Str).cps.toList v = some c ∧ ((⟨#[c]⟩ : Str) = "a" ∨ (⟨#[c]⟩ : Str) = "b") := by
  have : v = 0 ∨ v = 1 := by omega
  rcases this with rfl | rfl
  · exact ⟨97, by decide +kernel, .inl (by decide +kernel)⟩
  · exact ⟨98, by decide +kernel, .inr (by decide +kernel)⟩
theorem build_keys (R : Hs) (n c : Str) (f : Int) (bs : List Str) : (buildS R n c f bs).map (·.1) = R.map (·.1) ++ [n] := by
  unfold buildS
  rw [fold_keys (g := fun _ x => { x with beside := x.beside ++ [n] }), List.map_append]
  rfl
theorem link_mem {n : Str} : ∀ (bs : List Str) (R : Hs) (p : Str × House), p ∈ bs.foldl (fun R m => updH R m fun x => { x with beside := x.beside ++ [n] }) R → ∃ q ∈ R, q.1 = p.1 ∧ p.2.corner = q.2.corner ∧ (p.2.fuel = q.2.fuel ∧ p.2.heat = q.2.heat) ∧ p.2.beside.length ≤ q.2.beside.length + bs.length ∧ ∀ x ∈ p.2.beside, x ∈ q.2.beside ∨ x = n
  | [], R, p, h => ⟨p, h, rfl, rfl, ⟨rfl, rfl⟩, Nat.le_refl _, fun x hx => .inl hx⟩
  | m :: bs, R, p, h => by
    obtain ⟨q, hq, e1, e2, e3, e4, e5⟩ := link_mem bs (updH R m fun x => { x with beside := x.beside ++ [n] }) p h
    obtain ⟨q0, hq0, f1, f2⟩ := updH_mem hq
    refine ⟨q0, hq0, f1.trans e1, ?_⟩
    rw [f2] at e2 e3 e4 e5
    by_cases z : q.1 = m
    · rw [if_pos z] at e2 e3 e4 e5
      refine ⟨e2, e3, ?_, fun x hx => ?_⟩
      · simp only [List.length_append, List.length_cons, List.length_nil] at e4 ⊢
        omega
      · rcases e5 x hx with y | y
        · rcases List.mem_append.mp y with y | y
          · exact .inl y
          · exact .inr (List.mem_singleton.mp y)
        · exact .inr y
    · rw [if_neg z] at e2 e3 e4 e5
      refine ⟨e2, e3, ?_, e5⟩
      simp only [List.length_cons]
      omega
theorem build_mem {R : Hs} {n c : Str} {f : Int} {bs : List Str} {p : Str × House} (h : p ∈ buildS R n c f bs) : (p.1 = n ∧ p.2.corner = c ∧ (p.2.fuel = f ∧ p.2.heat = 0) ∧ p.2.beside.length ≤ bs.length + bs.length ∧ ∀ x ∈ p.2.beside, x ∈ bs ∨ x = n) ∨
    ∃ q ∈ R, q.1 = p.1 ∧ p.2.corner = q.2.corner ∧ (p.2.fuel = q.2.fuel ∧ p.2.heat = q.2.heat) ∧ p.2.beside.length ≤ q.2.beside.length + bs.length ∧ ∀ x ∈ p.2.beside, x ∈ q.2.beside ∨ x = n := by
  obtain ⟨q, hq, e1, e2, e3, e4, e5⟩ := link_mem bs _ p h
  rcases List.mem_append.mp hq with z | z
  · exact .inr ⟨q, z, e1, e2, e3, e4, e5⟩
  · rw [List.mem_singleton.mp z] at e1 e2 e3 e4 e5
    exact .inl ⟨e1.symm, e2, e3, e4, e5⟩
/-- the houses are built -/
theorem law_build (T : Txt K mg base) {A : Around} {outer : List Env} {s : Shared} {H0 : Hp} {E0 : XK} (hr : Room 6 (A.deeper (envOfC d_law.qual d_law.scope s.heap.objs.size (He.fAd K d_law.at_) (.ref (He.codeOf K d_law.at_))))) :
    ∃ t, PS (bodyX P w K mg base N_law d_law A outer s H0 E0) ((subS ((d_law.body).getD 0 noS)).getD 1 noS) t ∧ ∀ (D : Ends) (H : Hp) (sc : V) (q r d o : Addr) (fa fb ga gb : Str → Addr) (σ : L2.St), LSt sc (.ref q) (.ref r) (.ref o) σ → W3 K H q r d o [] fa fb ga gb →
      (∀ (R : Hs) (fa fb ga gb : Str → Addr) (σ : L2.St) (H' : Hp), LSt sc (.ref q) (.ref r) (.ref o) σ → W3 K H' q r d o R fa fb ga gb → Nm 8 100 R → Go (TL K) (TG K) (fun a => a = q ∨ a = d ∨ a = o) H H' → D.nx σ H') → t D σ H := by
  have hu := hu_of hr
  obtain ⟨t0, p0, r0⟩ := law_b0 (P := P) (w := w) (E0 := E0) (H0 := H0) T hr
  obtain ⟨t3, p3, r3⟩ := law_b3 (P := P) (w := w) (E0 := E0) (H0 := H0) T hr
  obtain ⟨t4, p4, r4, r4f⟩ := law_b4 (P := P) (w := w) (E0 := E0) (H0 := H0) T hr
  refine ⟨_, (ps_for (passes_of rfl) rfl (pi_range1 rfl T.fr_range (pa_cons (pe_op op_add pe_int (pg_call (ok_law_roll T) (hr.mono (by decide)) rfl T.gl_law_roll px (pa_cons (pv 1) (pa_cons pe_int pa_nil)))) pa_nil)) (pg_name (i := 2) sc_law.nd rfl (by first | exact Or.inl rfl | exact Or.inr rfl)) (pss_cons p0
        (pss_cons (ps_asg (pe_tup (pa_cons (pg_call (ok_law_roll T) (hr.mono (by decide)) rfl T.gl_law_roll px (pa_cons (pv 1) (pa_cons pe_int pa_nil))) (pa_cons (pe_ix ix_str pe_str (pg_call (ok_law_roll T) (hr.mono (by decide)) rfl T.gl_law_roll px (pa_cons (pv 1) (pa_cons pe_int pa_nil))) (fun _ _ => rfl)) pa_nil))) (pg_tup rfl (pgs_cons (pg_name (i := 9) sc_law.nd rfl (by first | exact Or.inl rfl | exact Or.inr rfl)) (pgs_cons (pg_name (i := 10) sc_law.nd rfl (by first | exact Or.inl rfl | exact Or.inr rfl)) pgs_nil))))
        (pss_cons (ps_set (i := 8) sc_law.nd rfl (by first | exact Or.inl rfl | exact Or.inr rfl) (pe_cmpR op_gt (pv 9) pe_int (nomark _)))
        (pss_cons p3
        (pss_one p4)))))), fun D H sc q r d o fa fb ga gb σ hσ W k => ?_⟩
  obtain ⟨x2, x3, x4, x7, x8, x9, x10, x11, x12, x13, x14, x15, x16, rfl⟩ := hσ
  obtain ⟨Dc, hq⟩ := W.dice
  walk_at "v"
  refine ⟨q, Dc, 8, rfl, hq, by decide, by decide, ?_⟩
  refine ⟨_, _, rfl, rfl, ?_⟩
  have hb := roll_lt (Dc := Dc) (m := 8) (by decide)
  refine ⟨_, rfl, (by show -(2 ^ 62) ≤ 1 + rollV Dc 8; omega), (by show 1 + rollV Dc 8 < 2 ^ 62; omega), ?_⟩
  have hn8 : (1 + rollV Dc 8).toNat ≤ 8 := by omega
  show ∃ W, _
  have g0 : Go (TL K) (TG K) (fun a => a = q ∨ a = d ∨ a = o) H (upd H q (.lst (dvals (rollD Dc 8)))) := Go.set hq plain_lst (.inl rfl)
  have W0 := W.go (Go.set (TL := TL K) (TG := TG K) (S := fun a => a = q) (o := .lst (dvals (rollD Dc 8))) hq plain_lst rfl) ⟨_, upd_same⟩ fun _ z => .inl z
  refine for_range (n := (1 + rollV Dc 8).toNat) (fun i σ H' => LSt sc (.ref q) (.ref r) (.ref o) σ ∧ ∃ R fa fb ga gb, W3 K H' q r d o R fa fb ga gb ∧ Nm i (9 * i) R ∧ (∀ p ∈ R, H (fb p.1) = none) ∧ Go (TL K) (TG K) (fun a => a = q ∨ a = d ∨ a = o) H H')
    ⟨⟨_, _, _, _, _, _, _, _, _, _, _, _, _, rfl⟩, [], fa, fb, ga, gb, W0, ⟨fun p hp => (by cases hp), Nat.le_refl _, fun p hp => (by cases hp), fun p hp => (by cases hp), fun p hp => (by cases hp)⟩, fun p hp => (by cases hp), g0⟩ ?_ ?_
  · rintro i σ H1 hi ⟨⟨x2, x3, x4, x7, x8, x9, x10, x11, x12, x13, x14, x15, x16, rfl⟩, R, fa, fb, ga, gb, W1, nm, fr, g1⟩
    rw [Int.zero_add]
    refine r0 _ H1 sc q r d o R fa fb ga gb _ _ _ _ _ _ _ _ _ _ _ _ _ W1 fun bl bs H2 f1 e1 hm lb W2 g2 => ?_
    have hi60 : i < 60 := by omega
    have ln : R.lookup (hn i) = none := by
      cases e : R.lookup (hn i) with
      | none => rfl
      | some x =>
        obtain ⟨j, hj, ej⟩ := nm.key _ (look_mem e)
        have := hn_inj i hi60 j (by omega) ej
        omega
    obtain ⟨Dc1, eq1⟩ := W2.dice
    have r1 := roll_lt (Dc := Dc1) (m := 200) (by decide)
    walk_at "v"
    refine ⟨q, Dc1, 200, rfl, eq1, by decide, by decide, ?_⟩
    walk_at "v"
    refine ⟨q, rollD Dc1 200, 2, rfl, upd_same, by decide, by decide, ?_⟩
    rw [upd_upd]
    have r2 := roll_lt (Dc := rollD Dc1 200) (m := 2) (by decide)
    obtain ⟨cc, hcc, hab⟩ := ab_ok _ r2.1 r2.2
    refine ⟨_, _, cc, rfl, rfl, (by decide +kernel), hcc, ?_⟩
    refine ⟨(by show 2 ≤ sizeLine; decide), fun t ht => ?_⟩
    generalize rollV Dc1 200 = f at r1 ⊢
    generalize (⟨#[cc]⟩ : Str) = c at hab ⊢
    have g3 := (Go.set (TL := TL K) (TG := TG K) (S := fun a => a = q) (o := .lst (dvals (rollD (rollD Dc1 200) 2))) eq1 plain_lst rfl).trans (Go.new (o := .tup [.int f, .str c]) ht)
    have et : upd (upd H2 q (.lst (dvals (rollD (rollD Dc1 200) 2)))) t (.tup [.int f, .str c]) t = some (.tup [.int f, .str c]) := upd_same
    have eq3 : upd (upd H2 q (.lst (dvals (rollD (rollD Dc1 200) 2)))) t (.tup [.int f, .str c]) q = some (.lst (dvals (rollD (rollD Dc1 200) 2))) := by rw [upd_ne (ne_of_none upd_same ht)]; exact upd_same
    generalize upd (upd H2 q (.lst (dvals (rollD (rollD Dc1 200) 2)))) t (.tup [.int f, .str c]) = H3 at g3 et eq3 ⊢
    have W3' := W2.go g3 ⟨_, eq3⟩ fun _ z => .inl z
    have nbq : bl ≠ q := fun z => by rw [z, eq1] at e1; exact dv_bs (Option.some.inj e1)
    have e3 := g3.keep _ _ e1 (by intro _ z; cases z) nbq
    refine ⟨t, _, rfl, SqT.of et, rfl, ?_⟩
    refine ⟨_, _, rfl, _, _, rfl, rfl, ?_⟩
    walk_at "go"
    have lR : R.length < 60 := Nat.lt_of_le_of_lt nm.len hi60
    have lbs : ∀ p ∈ R, p.2.beside.length + bs.length ≤ 1000 := fun p hp => by
      have h1 := nm.bes p hp
      have h2 := nm.len
      omega
    have nbl : ∀ p ∈ R, bl ≠ fb p.1 := fun p hp => (ne_of_none (W1.row.hs.bes p hp) f1).symm
    refine r3 _ H3 sc q r d o bl R fa fb ga gb bs i c f _ _ _ _ _ _ _ _ W3' ln hi60 lR r1.1 e3 nbl hm (by have := nm.len; omega) lbs (fun H4 zf W4 g4 => ?_) (fun fa' fb' H4 zf n1 n2 n3 row4 g4 => ?_)
    · have e : decide (0 < f) = false := decide_eq_false zf
      rw [e]
      refine r4f _ _ _ _ _ _ _ _ _ _ _ _ _ _ _ _ _ _ ⟨⟨_, _, _, _, _, _, _, _, _, _, _, _, _, rfl⟩, R, fa, fb, ga, gb, W4, ⟨fun p hp => ?_, Nat.le_trans nm.len (Nat.le_succ i), nm.cor, fun p hp => Nat.le_trans (nm.bes p hp) (by omega), nm.he⟩, fr, ((g1.trans (g2.mono fun _ z => .inl z)).trans (g3.mono fun _ z => .inl z)).trans g4.wide⟩
      obtain ⟨j, hj, e⟩ := nm.key p hp
      exact ⟨j, Nat.lt_succ_of_lt hj, e⟩
    · have e : decide (0 < f) = true := decide_eq_true zf
      rw [e]
      have S3 : ∀ b u, H3 b = some u → (∀ kvs, u ≠ .dK kvs) → (∀ bs : List Str, u ≠ .lst (bs.map V.str)) → ¬ (b = d ∨ ∃ p ∈ R, b = fb p.1) := fun b u eb z1 z2 y => by
        rcases y with y | ⟨p, hp, y⟩
        · rw [y, W3'.row.hs.dc] at eb
          exact z1 _ (Option.some.inj eb).symm
        · rw [y, W3'.row.hs.bes p hp] at eb
          exact z2 _ (Option.some.inj eb).symm
      have own4 : HsAt H4 o R ga gb := by
        refine W3'.own.go g4 (fun z => z.elim W3'.od fun ⟨p, hp, z⟩ => ?_) (fun p hp => S3 _ _ (W3'.own.row p hp) (fun _ z => by cases z) fun _ z => hv_ne z) (fun p hp z => z.elim (fun z => ?_) fun ⟨p', hp', z⟩ => W3'.db p' hp' p hp z.symm)
        · exact ne_of W3'.own.dc (W3'.row.hs.bes p hp) (by intro z; cases z) z
        · exact ne_of (W3'.own.bes p hp) W3'.row.hs.dc (by intro z; cases z) z
      have e4 := g4.keep _ _ e3 (by intro _ z; cases z) (fun z => z.elim (fun z => ne_of e3 W3'.row.hs.dc (by intro z; cases z) z) fun ⟨p, hp, z⟩ => nbl p hp z)
      refine r4 _ H4 sc q r o bl R ga gb bs i c f _ _ _ _ _ _ _ _ own4 ln hi60 (by omega) e4 hm lbs fun x4' ga' gb' H5 own5 h1 h2 g5 => ?_
      have kk : (buildS R (hn i) c f bs).map (·.1) = R.map (·.1) ++ [hn i] := build_keys R (hn i) c f bs
      have lk : (buildS R (hn i) c f bs).length = R.length + 1 := by
        have := congrArg List.length kk
        rw [List.length_map, List.length_append, List.length_map] at this
        exact this
      have row5 : RowAt (CRow K) H5 r d (buildS R (hn i) c f bs) fa' fb' := by
        obtain ⟨⟨dx4, h4⟩, hs4, _, _⟩ := id row4
        exact row4.go g5 (ne_of h4 own4.dc (by intro z; cases z)) (fun z => W1.od z.symm) (fun p hp => ne_of (hs4.row p hp) own4.dc (by intro z; cases z)) (fun p hp => ne_of (hs4.bes p hp) own4.dc (by intro z; cases z))
      have eq5 : H5 q = some (.lst (dvals (rollD (rollD Dc1 200) 2))) := by
        refine g5.keep _ _ (g4.keep _ _ eq3 (by intro _ z; cases z) (S3 _ _ eq3 (fun _ z => by cases z) fun _ z => dv_bs z)) (by intro _ z; cases z) (ne_of eq3 W3'.own.dc (by intro z; cases z))
      have old : ∀ m ∈ (buildS R (hn i) c f bs).map (·.1), m ≠ hn i → ∃ x, (m, x) ∈ R := fun m hm ne => by
        rw [kk] at hm
        rcases List.mem_append.mp hm with y | y
        · obtain ⟨x, hx, e⟩ := List.mem_map.mp y
          exact ⟨x.2, by rw [← e]; exact hx⟩
        · exact absurd (List.mem_singleton.mp y) ne
      have apart : ∀ (ga ga' fa fa' : Str → Addr), (∀ m x, (m, x) ∈ R → ∃ u, H3 (ga m) = some u) → (∀ m x, (m, x) ∈ R → ∀ m' x', (m', x') ∈ R → fa m ≠ ga m') → (∀ m, (m ≠ hn i ∧ ga' m = ga m) ∨ H4 (ga' m) = none) → H3 (fa' (hn i)) = none → (∀ m, m ≠ hn i → fa' m = fa m) → (∀ m ∈ (buildS R (hn i) c f bs).map (·.1), ∃ u, H4 (fa' m) = some u) →
          ∀ m ∈ (buildS R (hn i) c f bs).map (·.1), ∀ m' ∈ (buildS R (hn i) c f bs).map (·.1), fa' m ≠ ga' m' := fun ga ga' fa fa' q1 q2 q3 q4 q5 q6 m hm m' hm' z => by
        rcases q3 m' with ⟨ne, y⟩ | y
        · obtain ⟨x', hx'⟩ := old m' hm' ne
          by_cases y2 : m = hn i
          · obtain ⟨u, hu⟩ := q1 m' x' hx'
            rw [← y, ← z, y2, q4] at hu
            cases hu
          · obtain ⟨x, hx⟩ := old m hm y2
            exact q2 m x hx m' x' hx' (by rw [← q5 m y2, z, y])
        · obtain ⟨u, hu⟩ := q6 m hm
          rw [z, y] at hu
          cases hu
      have mk : ∀ p ∈ buildS R (hn i) c f bs, p.1 ∈ (buildS R (hn i) c f bs).map (·.1) := fun p hp => List.mem_map.mpr ⟨p, hp, rfl⟩
      have km : ∀ m ∈ (buildS R (hn i) c f bs).map (·.1), ∃ p ∈ buildS R (hn i) c f bs, p.1 = m := fun m hm => List.mem_map.mp hm
      refine ⟨⟨_, _, _, _, _, _, _, _, _, _, _, _, _, rfl⟩, buildS R (hn i) c f bs, fa', fb', ga', gb', ⟨row5, own5, ⟨_, eq5⟩, W1.od, fun p hp p' hp' => ?_, fun p hp p' hp' => ?_, ⟨fun p hp x hx => ?_, fun p hp => ?_, by rw [lk]; omega⟩, fun p hp => ?_, g5.tb (g4.tb W3'.tb)⟩, ⟨fun p hp => ?_, by rw [lk]; exact Nat.succ_le_succ nm.len, fun p hp => ?_, fun p hp => ?_, fun p hp => ?_⟩, fun p hp => ?_, ?_⟩
      · exact apart ga ga' fa fa' (fun m x h => ⟨_, W3'.own.row _ h⟩) (fun m x h m' x' h' => W3'.da _ h _ h') h1 n1 (fun m h => (n3 m h).1) (fun m hm => by obtain ⟨p, hp, e⟩ := km m hm; exact ⟨_, by rw [← e]; exact row4.hs.row p hp⟩) _ (mk p hp) _ (mk p' hp')
      · exact apart gb gb' fb fb' (fun m x h => ⟨_, W3'.own.bes _ h⟩) (fun m x h m' x' h' => W3'.db _ h _ h') h2 n2 (fun m h => (n3 m h).2) (fun m hm => by obtain ⟨p, hp, e⟩ := km m hm; exact ⟨_, by rw [← e]; exact row4.hs.bes p hp⟩) _ (mk p hp) _ (mk p' hp')
      · rw [kk]
        rcases build_mem hp with ⟨_, _, _, _, y⟩ | ⟨p0, hp0, _, _, _, _, y⟩
        · rcases y x hx with y | y
          · exact List.mem_append_left _ (hm x y)
          · exact List.mem_append_right _ (List.mem_singleton.mpr y)
        · rcases y x hx with y | y
          · exact List.mem_append_left _ (W1.wf.in_ p0 hp0 x y)
          · exact List.mem_append_right _ (List.mem_singleton.mpr y)
      · have l1 := nm.len
        rcases build_mem hp with ⟨_, _, _, y, _⟩ | ⟨p0, hp0, _, _, _, y, _⟩
        · omega
        · have := nm.bes p0 hp0
          omega
      · rcases build_mem hp with ⟨_, _, y, _, _⟩ | ⟨p0, hp0, _, _, y, _, _⟩
        · rw [y.1]; exact r1.1
        · rw [y.1]; exact W1.fu p0 hp0
      · rcases build_mem hp with ⟨y, _, _, _, _⟩ | ⟨p0, hp0, y, _, _, _, _⟩
        · exact ⟨i, Nat.lt_succ_self i, y⟩
        · obtain ⟨j, hj, e⟩ := nm.key p0 hp0
          exact ⟨j, Nat.lt_succ_of_lt hj, by rw [← y]; exact e⟩
      · rcases build_mem hp with ⟨_, y, _, _, _⟩ | ⟨p0, hp0, _, y, _, _, _⟩
        · rw [y]; exact hab
        · rw [y]; exact nm.cor p0 hp0
      · have l1 := nm.len
        rcases build_mem hp with ⟨_, _, _, y, _⟩ | ⟨p0, hp0, _, _, _, y, _⟩
        · omega
        · have := nm.bes p0 hp0
          omega
      · rcases build_mem hp with ⟨_, _, y, _, _⟩ | ⟨p0, hp0, _, _, y, _, _⟩
        · rw [y.2]; exact Int.le_refl 0
        · rw [y.2]; exact nm.he p0 hp0
      · by_cases z : p.1 = hn i
        · rw [z]
          exact g1.free _ (g2.free _ (g3.free _ n2))
        · rw [(n3 _ z).2]
          obtain ⟨x, hx⟩ := old p.1 (mk p hp) z
          exact fr (p.1, x) hx
      · refine Go.drop (S := fun a => (a = q ∨ a = d ∨ a = o) ∨ ∃ p ∈ R, a = fb p.1) (((((g1.mono fun _ z => .inl z).trans (g2.mono fun _ z => .inl (.inl z))).trans (g3.mono fun _ z => .inl (.inl z))).trans (g4.mono fun _ z => ?_)).trans (g5.mono fun _ z => .inl (.inr (.inr z)))) fun b z => ?_
        · rcases z with z | z
          · exact .inl (.inr (.inl z))
          · exact .inr z
        · rcases z with z | ⟨p, hp, z⟩
          · exact .inl z
          · exact .inr (by rw [z]; exact fr p hp)
  · rintro σ H1 ⟨hσ, R, fa, fb, ga, gb, W1, nm, fr, g1⟩
    refine k R fa fb ga gb σ H1 hσ W1 ⟨fun p hp => ?_, Nat.le_trans nm.len hn8, nm.cor, fun p hp => Nat.le_trans (nm.bes p hp) (by omega), nm.he⟩ g1
    obtain ⟨j, hj, e⟩ := nm.key p hp
    exact ⟨j, by omega, e⟩
end
end K3
namespace K3
open PySem PySem.Spec PyProof.Rows L2 Fy
open GxR (TabG Tabbed)
section
variable {P : Program} {w : World} {K : PySem.W.Frag} {mg : Str → Option Value} {base : Heap}
def canL (h : House) : Bool := decide (h.heat = 0) && decide (0 < h.fuel)
def goodL (R : Hs) (n : Str) : Bool := ((R.lookup n).map canL).getD false
theorem canL_eq {h : House} (h1 : 0 ≤ h.heat) (h2 : 0 ≤ h.fuel) : canLight h = canL h := by
  unfold canLight canL
  by_cases a : h.heat = 0
  · by_cases b : 0 < h.fuel
    · rw [decide_eq_true a, decide_eq_true b, decide_eq_false (show ¬ 0 < h.heat by omega), decide_eq_false (show ¬ h.fuel = 0 by omega)] <;> rfl
    · rw [decide_eq_true a, decide_eq_false b, decide_eq_false (show ¬ 0 < h.heat by omega), decide_eq_true (show h.fuel = 0 by omega)] <;> rfl
  · rw [decide_eq_false a, decide_eq_true (show 0 < h.heat by omega)] <;> rfl
/-- good = name in own and .. -/
theorem law_l0 (T : Txt K mg base) {A : Around} {outer : List Env} {s : Shared} {H0 : Hp} {E0 : XK} (hr : Room 6 (A.deeper (envOfC d_law.qual d_law.scope s.heap.objs.size (He.fAd K d_law.at_) (.ref (He.codeOf K d_law.at_))))) :
    ∃ t, PS (bodyX P w K mg base N_law d_law A outer s H0 E0) ((subS ((subS ((subS ((d_law.body).getD 0 noS)).getD 2 noS)).getD 1 noS)).getD 0 noS) t ∧ ∀ (D : Ends) (H : Hp) (o : Addr) (R : Hs) (ga gb : Str → Addr) (n : Str) (x0 x1 x2 x3 x5 x7 x8 x9 x10 x11 x12 x13 x14 x15 x16 : Option V), HsAt H o R ga gb →
      D.nx [x0, x1, x2, x3, some (.str n), x5, some (.ref o), x7, some (.bl (goodL R n)), x9, x10, x11, x12, x13, x14, x15, x16] H → t D [x0, x1, x2, x3, some (.str n), x5, some (.ref o), x7, x8, x9, x10, x11, x12, x13, x14, x15, x16] H := by
  have hu := hu_of hr
  refine ⟨_, (ps_set (i := 8) sc_law.nd rfl (by first | exact Or.inl rfl | exact Or.inr rfl) (pe_and (pe_cmp (pc_din hu (pv 4) (pv 6))) (pe_and (pe_cmpR op_eq (pe_ix ix_list (pe_dget hu (pv 6) (pv 4) (fun _ _ => rfl)) pe_int (fun _ _ => rfl)) pe_int (nomark _)) (pe_one (pe_cmpR op_gt (pe_ix ix_list (pe_dget hu (pv 6) (pv 4) (fun _ _ => rfl)) pe_int (fun _ _ => rfl)) pe_int (nomark _)))))), fun D H o R ga gb n x0 x1 x2 x3 x5 x7 x8 x9 x10 x11 x12 x13 x14 x15 x16 W k => ?_⟩
  walk_at "v"; walk_at "v"
  refine ⟨_, _, rfl, W.no, ?_⟩
  cases e : R.lookup n with
  | none =>
    refine ⟨_, rfl, iteF ?_⟩
    have : goodL R n = false := by unfold goodL; rw [e] <;> rfl
    rw [this] at k
    exact k
  | some h =>
    have eg : goodL R n = canL h := by unfold goodL; rw [e] <;> rfl
    rw [eg] at k
    refine ⟨_, rfl, iteT ?_⟩
    walk_at "v"; walk_at "v"
    refine ⟨_, _, rfl, W.get e, ?_⟩
    refine ⟨_, _, _, _, rfl, rfl, SqL.of (W.at_ e), rfl, ?_⟩
    refine ⟨rfl, ?_⟩
    refine ⟨_, rfl, ?_⟩
    refine ite2 (fun z => ?_) (fun z => ?_)
    · have z1 : h.heat = 0 := V.int.inj (of_decide_eq_true z)
      walk_at "v"; walk_at "v"
      refine ⟨_, _, rfl, W.get e, ?_⟩
      refine ⟨_, _, _, _, rfl, rfl, SqL.of (W.at_ e), rfl, ?_⟩
      refine ⟨_, _, rfl, rfl, ?_⟩
      unfold canL at k
      rw [decide_eq_true z1, Bool.true_and] at k
      exact k
    · have z1 : ¬ h.heat = 0 := fun y => z (decide_eq_true (by rw [y]))
      unfold canL at k
      rw [decide_eq_false z1, Bool.false_and] at k
      exact k
/-- if (told(lambda: row.light(name)) == ..) == good: return False -/
theorem law_l1 (T : Txt K mg base) {A : Around} {outer : List Env} {s : Shared} {H0 : Hp} {E0 : XK} (hr : Room 6 (A.deeper (envOfC d_law.qual d_law.scope s.heap.objs.size (He.fAd K d_law.at_) (.ref (He.codeOf K d_law.at_))))) :
    ∃ t, PS (bodyX P w K mg base N_law d_law A outer s H0 E0) ((subS ((subS ((subS ((d_law.body).getD 0 noS)).getD 2 noS)).getD 1 noS)).getD 1 noS) t ∧ ∀ (D : Ends) (H : Hp) (q r d o : Addr) (R : Hs) (fa fb ga gb : Str → Addr) (n : Str) (x0 x2 x3 x7 x9 x10 x11 x12 x13 x14 x15 x16 : Option V), W3 K H q r d o R fa fb ga gb → (∀ p ∈ R, 0 ≤ p.2.heat) →
      (∀ H', goodL R n = false → W3 K H' q r d o R fa fb ga gb → Go (TL K) (TG K) (fun _ => False) H H' → D.nx [x0, some (.ref q), x2, x3, some (.str n), some (.ref r), some (.ref o), x7, some (.bl (goodL R n)), x9, x10, x11, x12, x13, x14, x15, x16] H') →
      (∀ H', goodL R n = true → RowAt (CRow K) H' r d (updH R n lit) fa fb → Go (TL K) (TG K) (fun a => a = fa n) H H' → D.nx [x0, some (.ref q), x2, x3, some (.str n), some (.ref r), some (.ref o), x7, some (.bl (goodL R n)), x9, x10, x11, x12, x13, x14, x15, x16] H') →
      t D [x0, some (.ref q), x2, x3, some (.str n), some (.ref r), some (.ref o), x7, some (.bl (goodL R n)), x9, x10, x11, x12, x13, x14, x15, x16] H := by
  have hu := hu_of hr
  refine ⟨_, (ps_if (pt_cmpR op_eq (pe_cmpR op_eq (told_law T hr (LamX.lamS_by (by decide +kernel)) rfl (fun _ _ _ _ _ => rfl) (fun A outer s H E f c' hr2 => (pg_meth (ok_Row_light T) (hr2.mono (by decide)) T.cl_Row T.me_Row_light pxl (pv 5) (pa_cons (pv 4) pa_nil)))) pe_str (nomark _)) (pv 8) (nomark _)) (pss_one (ps_ret pe_bl)) pss_nil), fun D H q r d o R fa fb ga gb n x0 x2 x3 x7 x9 x10 x11 x12 x13 x14 x15 x16 W hh k1 k2 => ?_⟩
  refine ⟨W.tb, fun H1 g1 => ?_⟩
  have W1 := W.go g1 (W.dice.imp fun _ h => g1.get h) fun _ z => z.elim
  obtain ⟨⟨dx, h1⟩, hs, ia, ib⟩ := id W1.row
  have cb : ((R.lookup n).map canLight).getD false = goodL R n := by
    unfold goodL
    cases e : R.lookup n with
    | none => rfl
    | some h => exact canL_eq (hh _ (look_mem e)) (W.fu _ (look_mem e))
  walk_at "v"
  refine ⟨_, _, _, rfl, h1, rfl, ?_⟩
  walk_at "v"
  refine ⟨r, d, R, fa, fb, n, rfl, W1.row, fun z => ?_, fun h e z H' hrow g => ?_⟩
  · have zf : goodL R n = false := by rw [← cb]; exact z
    refine ⟨true, T.em_BlazeError_BlazeError, fun _ => ?_, fun z => by cases z⟩
    refine ⟨rfl, ?_⟩
    walk_at "v"
    refine ⟨rfl, ?_⟩
    refine ⟨_, rfl, ?_⟩
    refine ite2 (fun y => absurd (of_decide_eq_true y) ?_) (fun _ => k1 H1 zf W1 g1)
    rw [zf]
    intro y
    have y2 := V.bl.inj y
    rw [decide_eq_true rfl] at y2
    cases y2
  · have zf : goodL R n = true := by
      rw [← cb, e]
      exact z
    refine ⟨rfl, ?_⟩
    walk_at "v"
    refine ⟨rfl, ?_⟩
    refine ⟨_, rfl, ?_⟩
    refine ite2 (fun y => absurd (of_decide_eq_true y) ?_) (fun _ => k2 H' zf hrow (g1.wide.trans g))
    rw [zf]
    intro y
    have y2 := V.bl.inj y
    rw [decide_eq_false (by intro z; cases z)] at y2
    cases y2
/-- if good: own[name] = own[name][:2] + [10] + own[name][3:] -/
theorem law_l2 (T : Txt K mg base) {A : Around} {outer : List Env} {s : Shared} {H0 : Hp} {E0 : XK} (hr : Room 6 (A.deeper (envOfC d_law.qual d_law.scope s.heap.objs.size (He.fAd K d_law.at_) (.ref (He.codeOf K d_law.at_))))) :
    ∃ t, PS (bodyX P w K mg base N_law d_law A outer s H0 E0) ((subS ((subS ((subS ((d_law.body).getD 0 noS)).getD 2 noS)).getD 1 noS)).getD 2 noS) t ∧ ∀ (D : Ends) (H : Hp) (o : Addr) (R : Hs) (ga gb : Str → Addr) (n : Str) (x0 x1 x2 x3 x5 x7 x9 x10 x11 x12 x13 x14 x15 x16 : Option V), HsAt H o R ga gb → R.length ≤ 1000 →
      (goodL R n = false → D.nx [x0, x1, x2, x3, some (.str n), x5, some (.ref o), x7, some (.bl (goodL R n)), x9, x10, x11, x12, x13, x14, x15, x16] H) →
      (∀ ga' H', goodL R n = true → HsAt H' o (updH R n lit) ga' gb → (∀ m, ga' m = ga m ∨ H (ga' m) = none) → Go (TL K) (TG K) (fun a => a = o) H H' → D.nx [x0, x1, x2, x3, some (.str n), x5, some (.ref o), x7, some (.bl (goodL R n)), x9, x10, x11, x12, x13, x14, x15, x16] H') →
      t D [x0, x1, x2, x3, some (.str n), x5, some (.ref o), x7, some (.bl (goodL R n)), x9, x10, x11, x12, x13, x14, x15, x16] H := by
  have hu := hu_of hr
  refine ⟨_, (ps_if (pt_val (pv 8)) (pss_one (ps_dput hu (pv 6) (pv 4) (pe_op op_cat (pe_op op_cat (pe_slice sl_list (pe_dget hu (pv 6) (pv 4) (fun _ _ => rfl)) po_none (po_some pe_int)) (pe_lst (pa_cons pe_int pa_nil))) (pe_slice sl_list (pe_dget hu (pv 6) (pv 4) (fun _ _ => rfl)) (po_some pe_int) po_none)) rfl)) pss_nil), fun D H o R ga gb n x0 x1 x2 x3 x5 x7 x9 x10 x11 x12 x13 x14 x15 x16 W lR k1 k2 => ?_⟩
  walk_at "v"
  refine ⟨_, rfl, ?_⟩
  refine ite2 (fun z => ?_) (fun z => k1 (Bool.eq_false_iff.mpr z))
  have ex : ∃ h, R.lookup n = some h := by
    cases e : R.lookup n with
    | some h => exact ⟨h, rfl⟩
    | none =>
      unfold goodL at z
      rw [e] at z
      cases z
  obtain ⟨h, e⟩ := ex
  have ha := W.at_ e
  walk_at "v"; walk_at "v"
  refine ⟨_, _, rfl, W.get e, ?_⟩
  refine ⟨2, rfl, ga n, _, rfl, SqL.of ha, fun a1 q1 => ?_⟩
  have g7 := Go.new (TL := TL K) (TG := TG K) (S := fun _ => False) (o := .lst (cutV (hvals h (gb n)) none (some 2))) q1
  have w1 : upd H a1 (.lst (cutV (hvals h (gb n)) none (some 2))) a1 = some (.lst [.str h.corner, .int h.fuel]) := by rw [upd_same] <;> rfl
  generalize upd H a1 (.lst (cutV (hvals h (gb n)) none (some 2))) = H7 at g7 w1 ⊢
  refine ⟨(by show 1 ≤ sizeLine; decide), fun a2 q2 => ?_⟩
  have g8 := g7.trans (Go.new (o := .lst [.int 10]) q2)
  have w2 : upd H7 a2 (.lst [.int 10]) a1 = some (.lst [.str h.corner, .int h.fuel]) := by rw [upd_ne (ne_of_none w1 q2)]; exact w1
  have w3 : upd H7 a2 (.lst [.int 10]) a2 = some (.lst [.int 10]) := upd_same
  generalize upd H7 a2 (.lst [.int 10]) = H8 at g8 w2 w3 ⊢
  refine ⟨a1, a2, _, _, rfl, rfl, w2, w3, (by show 3 ≤ sizeLine; decide), fun a3 q3 => ?_⟩
  have g9 := g8.trans (Go.new (o := .lst ([.str h.corner, .int h.fuel] ++ [.int 10])) q3)
  have w4 : upd H8 a3 (.lst ([.str h.corner, .int h.fuel] ++ [.int 10])) a3 = some (.lst [.str h.corner, .int h.fuel, .int 10]) := upd_same
  generalize upd H8 a3 (.lst ([.str h.corner, .int h.fuel] ++ [.int 10])) = H9 at g9 w4 ⊢
  have D9 := W.go g9 id (fun _ _ => id) (fun _ _ => id)
  have ha9 := D9.at_ e
  walk_at "v"; walk_at "v"
  refine ⟨_, _, rfl, D9.get e, ?_⟩
  refine ⟨3, rfl, ga n, _, rfl, SqL.of ha9, fun a4 q4 => ?_⟩
  have g10 := g9.trans (Go.new (o := .lst (cutV (hvals h (gb n)) (some 3) none)) q4)
  have w5 : upd H9 a4 (.lst (cutV (hvals h (gb n)) (some 3) none)) a3 = some (.lst [.str h.corner, .int h.fuel, .int 10]) := by rw [upd_ne (ne_of_none w4 q4)]; exact w4
  have w6 : upd H9 a4 (.lst (cutV (hvals h (gb n)) (some 3) none)) a4 = some (.lst [.ref (gb n)]) := by rw [upd_same] <;> rfl
  generalize upd H9 a4 (.lst (cutV (hvals h (gb n)) (some 3) none)) = H10 at g10 w5 w6 ⊢
  have D10 := W.go g10 id (fun _ _ => id) (fun _ _ => id)
  refine ⟨a3, a4, _, _, rfl, rfl, w5, w6, (by show 4 ≤ sizeLine; decide), fun p hp => ?_⟩
  walk_at "v"; walk_at "v"
  refine ⟨o, _, rfl, DPut.k (k := Sum.inr n) (by rw [upd_ne (ne_of_none D10.dc hp)]; exact D10.dc) (by rw [List.length_map]; exact Nat.lt_of_le_of_lt lR (by decide)), ?_⟩
  refine k2 _ _ z (D10.put e lit (fun _ => rfl) hp) (fun m => ?_) ((g10.wide.trans (Go.new hp)).trans (Go.set (by rw [upd_ne (ne_of_none D10.dc hp)]; exact D10.dc) plain_dK rfl))
  by_cases y : m = n
  · rw [if_pos y]
    exact .inr (g10.free p hp)
  · rw [if_neg y]
    exact .inl rfl
end
end K3
namespace K3
open PySem PySem.Spec PyProof.Rows L2 Fy
open GxR (TabG Tabbed)
section
variable {P : Program} {w : World} {K : PySem.W.Frag} {mg : Str → Option Value} {base : Heap}
theorem paired_ts {K : PySem.W.Frag} {H : Hp} : ∀ ts : List (Addr × Str × Int), (∀ t ∈ ts, SqT K H t.1 [.str t.2.1, .int t.2.2]) → Paired (fun (p : Addr) (kv : Key × V) => SqT K H p [kV kv.1, kv.2]) (ts.map (·.1)) (wkv (ts.map (·.2)))
  | [], _ => .nil
  | t :: ts, h => .cons (h t List.mem_cons_self) (paired_ts ts fun t' ht => h t' (List.mem_cons_of_mem _ ht))
theorem nodup_inr {xs : List Str} (h : xs.Nodup) : (xs.map fun x => (Sum.inr x : Key)).Nodup :=
  List.Pairwise.map _ (fun a b (n : a ≠ b) z => n (Sum.inr.inj z)) h
/-- water = dict([..]) -/
theorem law_w0 (T : Txt K mg base) {A : Around} {outer : List Env} {s : Shared} {H0 : Hp} {E0 : XK} (hr : Room 6 (A.deeper (envOfC d_law.qual d_law.scope s.heap.objs.size (He.fAd K d_law.at_) (.ref (He.codeOf K d_law.at_))))) :
    ∃ t, PS (bodyX P w K mg base N_law d_law A outer s H0 E0) ((elsS ((subS ((subS ((d_law.body).getD 0 noS)).getD 2 noS)).getD 1 noS)).getD 0 noS) t ∧ ∀ (D : Ends) (H : Hp) (q o : Addr) (R : Hs) (ga : Str → Addr) (Dc : Dice) (x0 x2 x3 x4 x5 x7 x8 x9 x10 x11 x12 x13 x14 x15 x16 : Option V), H o = some (.dK (R.map fun p => (Sum.inr p.1, V.ref (ga p.1)))) → (R.map (·.1)).Nodup → R.length ≤ 1000 → H q = some (.lst (dvals Dc)) →
      (∀ (wd : Addr) (W : Wt) (Dc' : Dice) (H' : Hp), H wd = none → H' wd = some (.dK (wkv W)) → (∀ p ∈ W, 0 ≤ p.2 ∧ p.1 ∈ R.map (·.1)) → (W.map (·.1)).Nodup → H' q = some (.lst (dvals Dc')) → Go (TL K) (TG K) (fun a => a = q) H H' → D.nx [x0, some (.ref q), x2, x3, x4, x5, some (.ref o), x7, x8, x9, x10, some (.ref wd), x12, x13, x14, x15, x16] H') →
      t D [x0, some (.ref q), x2, x3, x4, x5, some (.ref o), x7, x8, x9, x10, x11, x12, x13, x14, x15, x16] H := by
  have hu := hu_of hr
  refine ⟨_, (ps_set (i := 11) sc_law.nd rfl (by first | exact Or.inl rfl | exact Or.inr rfl) (pe_callTy (call_dictP rfl) (by rfl) T.fr_dict (by decide +kernel) (pa_cons (pe_lock (pe_lc (own := [("one", 14)]) (g := gName 14) rfl sc_law.nd (pi_keys (pv 6)) (blkOk_by (own := [("one", 14)]) (N := N_law) (sc := d_law.scope) (by decide +kernel)) (fun _ _ _ _ _ => (pg_name (i := 14) sc_law.nd rfl (by first | exact Or.inl rfl | exact Or.inr rfl))) (fun _ _ _ _ _ => pts_one (pt_cmpR op_eq (pg_call (ok_law_roll T) (hr.mono (by decide)) rfl T.gl_law_roll passL (pa_cons (pv 1) (pa_cons pe_int pa_nil))) pe_int (nomark _))) (fun _ _ _ _ _ => (pe_tup (pa_cons (pv 14) (pa_cons (pg_call (ok_law_roll T) (hr.mono (by decide)) rfl T.gl_law_roll passL (pa_cons (pv 1) (pa_cons pe_int pa_nil))) pa_nil)))))) pa_nil))), fun D H q o R ga Dc x0 x2 x3 x4 x5 x7 x8 x9 x10 x11 x12 x13 x14 x15 x16 ho nd lR hq k => ?_⟩
  refine ⟨o, _, ho, trivial, fun od => ?_⟩
  walk_at "v"
  have wk := walk_keysV (d := o) (o := od) (kvs := R.map fun p => ((Sum.inr p.1 : Key), V.ref (ga p.1)))
  rw [names_kvS] at wk
  refine ⟨o, od, rfl, .inl ⟨_, upd_same, fun L hL => ?_⟩⟩
  have nLo : L ≠ o := fun z => by rw [z, upd_same] at hL; cases hL
  have hL0 : H L = none := by rw [upd_ne nLo] at hL; exact hL
  have nqo : q ≠ o := ne_of hq ho (by intro z; cases z)
  have nqL : q ≠ L := ne_of_none hq hL0
  refine lc_fold V.str (R.map (·.1)) (by rw [List.length_map, List.length_map]) wk (fun l y => l ++ [y]) []
    (fun l H' => (∃ (ts : List (Addr × Str × Int)) (Dc : Dice), H' L = some (.lst (ts.map fun t => V.ref t.1)) ∧ (∀ t ∈ ts, H' t.1 = some (.tup [.str t.2.1, .int t.2.2]) ∧ 0 ≤ t.2.2) ∧ (ts.map (·.2.1)).Sublist l ∧ H' q = some (.lst (dvals Dc))) ∧ Go (TL K) (TG K) (fun a => a = q ∨ a = L) (upd H o (.frz od (.dK (R.map fun p => ((Sum.inr p.1 : Key), V.ref (ga p.1)))))) H')
    ⟨⟨[], Dc, upd_same, fun _ z => (by cases z), .slnil, by rw [upd_ne nqL, upd_ne nqo]; exact hq⟩, Go.new hL⟩
    (fun l H' h => h.2.keep _ _ upd_same (by intro _ z; cases z) fun z => z.elim (fun z => nqo z.symm) fun z => nLo z.symm) ?_ ?_
  · rintro pre y post H' ey ⟨⟨ts, Dc, eL, et, sl, eq⟩, g⟩
    rw [foldl_snoc, List.nil_append] at sl ⊢
    have lts : ts.length < sizeLine := by
      have h1 := sl.length_le
      rw [List.length_map] at h1
      have h2 := congrArg List.length ey
      rw [List.length_map, List.length_append, List.length_cons] at h2
      exact Nat.lt_of_le_of_lt (show ts.length ≤ 1000 by omega) (by decide)
    refine ⟨rfl, ?_⟩
    walk_at "v"
    refine ⟨q, Dc, 4, rfl, eq, by decide, by decide, ?_⟩
    have nqt : ∀ t ∈ ts, t.1 ≠ q := fun t ht => ne_of (et t ht).1 eq (by intro z; cases z)
    have nLt : ∀ t ∈ ts, t.1 ≠ L := fun t ht => ne_of (et t ht).1 eL (by intro z; cases z)
    have g3 := g.trans (Go.set (o := .lst (dvals (rollD Dc 4))) eq plain_lst (.inl rfl))
    walk_at "go"
    refine ite2 (fun z => ?_) (fun z => ?_)
    · walk_at "v"; walk_at "v"
      refine ⟨q, rollD Dc 4, 40, rfl, upd_same, by decide, by decide, ?_⟩
      rw [upd_upd]
      have hv := (roll_lt (Dc := rollD Dc 4) (m := 40) (by decide)).1
      generalize rollV (rollD Dc 4) 40 = v at hv ⊢
      refine ⟨(by show 2 ≤ sizeLine; decide), fun p hp => ?_⟩
      have g4 := (g.trans (Go.set (o := .lst (dvals (rollD (rollD Dc 4) 40))) eq plain_lst (.inl rfl))).trans (Go.new (o := .tup [.str y, .int v]) hp)
      have k1 : ∀ b u, H' b = some u → b ≠ q → upd (upd H' q (.lst (dvals (rollD (rollD Dc 4) 40)))) p (.tup [.str y, .int v]) b = some u := fun b u e n => by
        rw [upd_ne (ne_of_none (by rw [upd_ne n]; exact e) hp), upd_ne n]
        exact e
      have eL2 := k1 _ _ eL nqL.symm
      refine ⟨_, eL2, (by rw [List.length_map]; exact lts), ⟨ts ++ [(p, y, v)], rollD (rollD Dc 4) 40, ?_, ?_, ?_, ?_⟩, g4.trans (Go.set eL2 plain_lst (.inr rfl))⟩
      · rw [upd_same, List.map_append]
        rfl
      · intro t ht
        rcases List.mem_append.mp ht with y1 | y1
        · rw [upd_ne (nLt t y1)]
          exact ⟨k1 _ _ (et t y1).1 (nqt t y1), (et t y1).2⟩
        · rw [List.mem_singleton.mp y1]
          refine ⟨?_, hv⟩
          have : p ≠ L := (ne_of_none (by rw [upd_ne nqL.symm]; exact eL) hp).symm
          rw [upd_ne this, upd_same]
      · rw [List.map_append]
        exact sl.append (List.Sublist.refl _)
      · rw [upd_ne nqL, upd_ne (ne_of_none upd_same hp)]
        exact upd_same
    · refine ⟨⟨ts, rollD Dc 4, by rw [upd_ne nqL.symm]; exact eL, fun t ht => ⟨by rw [upd_ne (nqt t ht)]; exact (et t ht).1, (et t ht).2⟩, sl.trans (List.sublist_append_left _ _), upd_same⟩, g3⟩
  · rintro H' ⟨⟨ts, Dc, eL, et, sl, eq⟩, g⟩
    rw [foldl_snoc, List.nil_append] at sl
    have eo := g.keep _ _ upd_same (by intro _ z; cases z) fun z => z.elim (fun z => nqo z.symm) fun z => nLo z.symm
    refine ⟨eo, ?_⟩
    have gu := g.unlock ho plain_dK eo
    have gd : Go (TL K) (TG K) (fun a => a = q) H (upd H' o (.dK (R.map fun p => ((Sum.inr p.1 : Key), V.ref (ga p.1))))) := gu.drop fun b z => z.elim .inl fun z => .inr (by rw [z]; exact hL0)
    have nto : ∀ t ∈ ts, t.1 ≠ o := fun t ht => ne_of (et t ht).1 eo (by intro z; cases z)
    have sl2 := sl.nodup nd
    refine ⟨L, ts.map (·.1), wkv (ts.map (·.2)), rfl, SqL.of (by rw [upd_ne nLo, List.map_map]; exact eL), ?_, fun wd hwd => ?_⟩
    · exact paired_ts ts fun t ht => SqT.of (by rw [upd_ne (nto t ht)]; exact (et t ht).1)
    · have em : mergeK [] (wkv (ts.map (·.2))) = wkv (ts.map (·.2)) := by
        rw [mergeK_nodup]
        · rfl
        · have : ((([] : List (Key × V)) ++ wkv (ts.map (·.2))).map (·.1)) = (ts.map (·.2.1)).map fun x => (Sum.inr x : Key) := by
            unfold wkv
            rw [List.nil_append, List.map_map, List.map_map, List.map_map]
            rfl
          rw [this]
          exact nodup_inr sl2
      rw [em]
      refine k wd (ts.map (·.2)) Dc _ (gd.free wd hwd) upd_same (fun p hp => ?_) ?_ ?_ (gd.trans (Go.new hwd))
      · obtain ⟨t, ht, rfl⟩ := List.mem_map.mp hp
        exact ⟨(et t ht).2, sl.subset (List.mem_map.mpr ⟨t, ht, rfl⟩)⟩
      · rw [List.map_map]
        exact sl2
      · have : upd H' o (.dK (R.map fun p => ((Sum.inr p.1 : Key), V.ref (ga p.1)))) q = some (.lst (dvals Dc)) := by rw [upd_ne nqo]; exact eq
        rw [upd_ne (ne_of_none this hwd)]
        exact this
end
end K3
namespace K3
open PySem PySem.Spec PyProof.Rows L2 Fy
open GxR (TabG Tabbed)
theorem shaped_strs (ns : List Str) (h : ∀ n ∈ ns, PyData.strOk n = true) : SeqAt.shaped (.list (ns.map PyData.str)) = true := by
  have h1 : PyData.canLayAll0 (ns.map PyData.str) = true := by
    induction ns with
    | nil => rfl
    | cons a r ih =>
      simp only [List.map_cons, PyData.canLayAll0, PyData.canLay0, Bool.and_eq_true]
      exact ⟨h a List.mem_cons_self, ih fun n hn => h n (List.mem_cons_of_mem _ hn)⟩
  have h2 : PyData.depthAll (ns.map PyData.str) ≤ 1 := by
    clear h h1
    induction ns with
    | nil => simp [PyData.depthAll]
    | cons a r ih =>
      simp only [List.map_cons, PyData.depthAll, PyData.depth]
      omega
  show (PyData.canLay0 (.list (ns.map PyData.str)) && decide (PyData.depth (.list (ns.map PyData.str)) ≤ 64)) = true
  rw [Bool.and_eq_true]
  refine ⟨by simp only [PyData.canLay0]; exact h1, decide_eq_true ?_⟩
  simp only [PyData.depth]
  omega
theorem Nm.upd {k b : Nat} {R : Hs} (N : Nm k b R) {n : Str} {f : House → House} (h1 : ∀ x, (f x).corner = x.corner) (h2 : ∀ x, (f x).beside = x.beside) (h3 : ∀ x, 0 ≤ x.heat → 0 ≤ (f x).heat) : Nm k b (updH R n f) := by
  refine ⟨fun p hp => ?_, by rw [len_updH]; exact N.len, fun p hp => ?_, fun p hp => ?_, fun p hp => ?_⟩ <;> obtain ⟨q, hq, e1, e2⟩ := updH_mem hp
  · obtain ⟨j, hj, e⟩ := N.key q hq
    exact ⟨j, hj, by rw [← e1]; exact e⟩
  · have : p.2.corner = q.2.corner := by rw [e2]; split; exact h1 _; rfl
    rw [this]
    exact N.cor q hq
  · have : p.2.beside = q.2.beside := by rw [e2]; split; exact h2 _; rfl
    rw [this]
    exact N.bes q hq
  · rw [e2]
    split
    · exact h3 _ (N.he q hq)
    · exact N.he q hq
theorem Nm.fold {k b : Nat} {g : Str → House → House} (h1 : ∀ n x, (g n x).corner = x.corner) (h2 : ∀ n x, (g n x).beside = x.beside) (h3 : ∀ n x, 0 ≤ x.heat → 0 ≤ (g n x).heat) : ∀ (ns : List Str) {R : Hs}, Nm k b R → Nm k b (ns.foldl (fun R n => updH R n (g n)) R)
  | [], _, w => w
  | n :: ns, R, w => Nm.fold h1 h2 h3 ns (w.upd (h1 n) (h2 n) (h3 n))
theorem burn1_corner (w : Int) (x : House) : (burn1 w x).corner = x.corner := by
  unfold burn1
  split <;> rfl
theorem burn1_he (w : Int) (x : House) : 0 ≤ (burn1 w x).heat := by
  unfold burn1
  split
  · rename_i h
    dsimp only
    split
    · unfold mn
      split <;> omega
    · exact Int.le_refl 0
  · exact mx_ge _ _
theorem Nm.min {k b : Nat} {R : Hs} (N : Nm k b R) (W : Wt) : Nm k b (minR R W) :=
  (N.fold (g := fun n => burn1 (wOf W n)) (fun n x => burn1_corner _ x) (fun n x => burn1_beside _ x) (fun n x _ => burn1_he _ x) (burningS R)).fold (g := fun _ => lit) (fun _ _ => rfl) (fun _ _ => rfl) (fun _ _ _ => by show (0 : Int) ≤ 10; decide) _
theorem WfR.min {R : Hs} (w : WfR R) (W : Wt) : WfR (minR R W) := fold_wf (g := fun _ => lit) (fun _ _ => rfl) _ (fold_wf (fun n => burn1_beside (wOf W n)) _ w)
theorem FuR.min {R : Hs} (w : FuR R) (W : Wt) : FuR (minR R W) := fold_fu (g := fun _ => lit) (fun _ _ h => h) _ (fold_fu (fun n x hx => burn1_fu (wOf W n) x hx) _ w)
theorem min_keys (R : Hs) (W : Wt) : (minR R W).map (·.1) = R.map (·.1) := by
  unfold minR lightAll burnAll
  rw [fold_keys (g := fun _ => lit), fold_keys]
section
variable {P : Program} {w : World} {K : PySem.W.Frag} {mg : Str → Option Value} {base : Heap}
/-- if list(row.minute(water)) != _law_burn(own, water): return False -/
theorem law_w1 (T : Txt K mg base) {A : Around} {outer : List Env} {s : Shared} {H0 : Hp} {E0 : XK} (hr : Room 6 (A.deeper (envOfC d_law.qual d_law.scope s.heap.objs.size (He.fAd K d_law.at_) (.ref (He.codeOf K d_law.at_))))) :
    ∃ t, PS (bodyX P w K mg base N_law d_law A outer s H0 E0) ((elsS ((subS ((subS ((d_law.body).getD 0 noS)).getD 2 noS)).getD 1 noS)).getD 1 noS) t ∧ ∀ (D : Ends) (H : Hp) (q r d o wd : Addr) (R : Hs) (fa fb ga gb : Str → Addr) (W : Wt) (x0 x2 x3 x4 x7 x8 x9 x10 x12 x13 x14 x15 x16 : Option V), W3 K H q r d o R fa fb ga gb → (∀ p ∈ R, PyData.strOk p.1 = true) →
      H wd = some (.dK (wkv W)) → wd ≠ d → wd ≠ o → (∀ p ∈ W, 0 ≤ p.2 ∧ p.1 ∈ R.map (·.1)) → (W.map (·.1)).Nodup →
      (∀ ga' H', W3 K H' q r d o (minR R W) fa fb ga' gb → Go (TL K) (TG K) (fun a => a = o ∨ ∃ p ∈ R, a = fa p.1) H H' → D.nx [x0, some (.ref q), x2, x3, x4, some (.ref r), some (.ref o), x7, x8, x9, x10, some (.ref wd), x12, x13, x14, x15, x16] H') →
      t D [x0, some (.ref q), x2, x3, x4, some (.ref r), some (.ref o), x7, x8, x9, x10, some (.ref wd), x12, x13, x14, x15, x16] H := by
  have hu := hu_of hr
  refine ⟨_, (ps_if (pt_cmpR (op_neD hr.units) (pe_callTy call_list_of (by rfl) T.fr_list (by decide +kernel) (pa_cons (pg_meth (ok_Row_minute T) (hr.mono (by decide)) T.cl_Row T.me_Row_minute px (pv 5) (pa_cons (pv 11) pa_nil)) pa_nil)) (pg_call (ok_law_burn T) (hr.mono (by decide)) rfl T.gl_law_burn px (pa_cons (pv 6) (pa_cons (pv 11) pa_nil))) (nomark _)) (pss_one (ps_ret pe_bl)) pss_nil), fun D H q r d o wd R fa fb ga gb W x0 x2 x3 x4 x7 x8 x9 x10 x12 x13 x14 x15 x16 V3 sok hwd nd no hW nW k => ?_⟩
  obtain ⟨⟨dx, h1⟩, hs, ia, ib⟩ := id V3.row
  have nb : badW R W = false := by
    rw [← Bool.not_eq_true]
    intro z
    obtain ⟨p, hp, e⟩ := List.any_eq_true.mp z
    obtain ⟨h2, h3⟩ := hW p hp
    obtain ⟨x, hx⟩ := look_key h3 hs.nd
    rw [hx, decide_eq_false (show ¬ p.2 < 0 by omega)] at e
    cases e
  walk_at "v"
  refine ⟨_, _, _, rfl, h1, rfl, ?_⟩
  walk_at "v"
  refine ⟨r, d, R, fa, fb, wd, W, rfl, V3.row, hwd, nd, V3.tb, V3.wf, nW, fun z => absurd z (by rw [nb]; decide), fun _ p H1 hp e1 row1 g1 => ?_⟩
  refine ⟨p, _, rfl, .inr (SqT.of e1), fun l hl => ?_⟩
  have g2 := g1.trans (Go.new (o := .lst ((freshS (burnAll R W)).map V.str)) hl)
  have el : upd H1 l (.lst ((freshS (burnAll R W)).map V.str)) l = some (.lst ((freshS (burnAll R W)).map V.str)) := upd_same
  have row2 := row1.go (Go.new (TL := TL K) (TG := TG K) (S := fun _ => False) (o := .lst ((freshS (burnAll R W)).map V.str)) hl) id id (fun _ _ => id) (fun _ _ => id)
  generalize upd H1 l (.lst ((freshS (burnAll R W)).map V.str)) = H2 at g2 el row2 ⊢
  obtain ⟨Dc, hq⟩ := V3.dice
  have nS : ∀ b u, H b = some u → (∀ h a, u ≠ .lst (hvals h a)) → ¬ ∃ p ∈ R, b = fa p.1 := fun b u e n ⟨p, hp, z⟩ => by
    rw [z, hs.row p hp] at e
    exact n _ _ (Option.some.inj e).symm
  have own2 : HsAt H2 o R ga gb := V3.own.go g2 (nS _ _ V3.own.dc (fun _ _ z => by cases z)) (fun p hp ⟨p', hp', z⟩ => V3.da p' hp' p hp z.symm) (fun p hp => nS _ _ (V3.own.bes p hp) fun h a z => hv_ne z.symm)
  have hwd2 := g2.keep _ _ hwd (by intro _ z; cases z) (nS _ _ hwd (fun _ _ z => by cases z))
  walk_at "v"; walk_at "v"
  refine ⟨o, wd, R, ga, gb, W, rfl, own2, hwd2, no, V3.wf, V3.fu, fun p2 ga' H3 hp2 e2 own3 f3 g3 => ?_⟩
  have el3 := g3.keep _ _ el (by intro _ z; cases z) (ne_of el own2.dc (by intro z; cases z))
  have sh : SeqAt.shaped (.list ((freshS (burnAll R W)).map PyData.str)) = true := shaped_strs _ fun n hn => by
    have h1 := mem_sortS.mp (List.mem_filter.mp hn).1
    rw [show (burnAll R W).map (·.1) = R.map (·.1) from fold_keys _ _] at h1
    obtain ⟨p, hp, e⟩ := List.mem_map.mp h1
    rw [← e]
    exact sok p hp
  refine ⟨_, _, .lst (SqL.of el3) (dpAll_map (d := PyData.str) (fun a => .str a) _), .lst (SqL.of e2) (dpAll_map (d := PyData.str) (fun a => .str a) _), sh, sh, ?_⟩
  rw [eqv_same sh]
  refine ⟨_, rfl, iteF ?_⟩
  have row3 : RowAt (CRow K) H3 r d (minR R W) fa fb := by
    obtain ⟨⟨dx2, h2⟩, hs2, _, _⟩ := id row2
    exact row2.go g3 (ne_of h2 own2.dc (by intro z; cases z)) (fun z => V3.od z.symm) (fun p hp => ne_of (hs2.row p hp) own2.dc (by intro z; cases z)) (fun p hp => ne_of (hs2.bes p hp) own2.dc (by intro z; cases z))
  have mem : ∀ p ∈ minR R W, ∃ x, (p.1, x) ∈ R := fun p hp => by
    have : p.1 ∈ (minR R W).map (·.1) := List.mem_map.mpr ⟨p, hp, rfl⟩
    rw [min_keys] at this
    obtain ⟨q, hq, e⟩ := List.mem_map.mp this
    exact ⟨q.2, by rw [← e]; exact hq⟩
  refine k ga' H3 ⟨row3, own3, ⟨Dc, ?_⟩, V3.od, fun p hp p' hp' z => ?_, fun p hp p' hp' => ?_, V3.wf.min W, V3.fu.min W, g3.tb (g2.tb V3.tb)⟩ ((g2.mono fun _ z => .inr z).trans (g3.mono fun _ z => .inl z))
  · exact g3.keep _ _ (g2.keep _ _ hq (by intro _ z; cases z) (nS _ _ hq fun h a z => dv_hv z)) (by intro _ z; cases z) (ne_of hq V3.own.dc (by intro z; cases z))
  · obtain ⟨x, hx⟩ := mem p hp
    obtain ⟨x', hx'⟩ := mem p' hp'
    rcases f3 p'.1 with y | y
    · exact V3.da _ hx _ hx' (by rw [← y]; exact z)
    · rw [← z] at y
      have := row2.hs.row p hp
      rw [y] at this
      cases this
  · obtain ⟨x, hx⟩ := mem p hp
    obtain ⟨x', hx'⟩ := mem p' hp'
    exact V3.db (p.1, x) hx (p'.1, x') hx'
end
end K3
namespace K3
open PySem PySem.Spec PyProof.Rows L2 Fy
open GxR (TabG Tabbed)
def hdata (h : House) : PyData := .list [.str h.corner, .int h.fuel, .int h.heat, .list (h.beside.map PyData.str)]
theorem ab_str {c : Str} (h : c = "a" ∨ c = "b") : PyData.strOk c = true := by
  rcases h with rfl | rfl <;> decide +kernel
theorem shaped_row {h : House} (h1 : PyData.strOk h.corner = true) (h2 : ∀ n ∈ h.beside, PyData.strOk n = true) : SeqAt.shaped (hdata h) = true := by
  have q := shaped_strs h.beside h2
  obtain ⟨q1, q2⟩ := Bool.and_eq_true_iff.mp (show (PyData.canLay0 (.list (h.beside.map PyData.str)) && decide (PyData.depth (.list (h.beside.map PyData.str)) ≤ 64)) = true from q)
  have q3 : PyData.depthAll (h.beside.map PyData.str) ≤ 1 := by
    clear h2 q q1 q2
    induction h.beside with
    | nil => simp [PyData.depthAll]
    | cons a r ih =>
      simp only [List.map_cons, PyData.depthAll, PyData.depth]
      omega
  show (PyData.canLay0 (hdata h) && decide (PyData.depth (hdata h) ≤ 64)) = true
  rw [Bool.and_eq_true]
  refine ⟨?_, decide_eq_true ?_⟩
  · unfold hdata
    simp only [PyData.canLay0, PyData.canLayAll0, Bool.and_eq_true] at q1 ⊢
    exact ⟨h1, trivial, trivial, q1, trivial⟩
  · unfold hdata
    simp only [PyData.depth, PyData.depthAll]
    omega
theorem dp_row {K : PySem.W.Frag} {H : Hp} {a b : Addr} {h : House} (h1 : H a = some (.lst (hvals h b))) (h2 : H b = some (.lst (h.beside.map V.str))) : Dp K H (.ref a) (hdata h) :=
  .lst (SqL.of h1) (.cons (.str _) (.cons (.int _) (.cons (.int _) (.cons (.lst (SqL.of h2) (dpAll_map (d := PyData.str) (fun a => .str a) _)) .nil))))
theorem nm_ok {k b : Nat} {R : Hs} (N : Nm k b R) (hk : k ≤ 60) : ∀ p ∈ R, PyData.strOk p.1 = true := fun p hp => by
  obtain ⟨j, hj, e⟩ := N.key p hp
  rw [e]
  exact hn_ok j (by omega)
theorem bes_ok {k b : Nat} {R : Hs} (N : Nm k b R) (hk : k ≤ 60) (w : WfR R) : ∀ p ∈ R, ∀ n ∈ p.2.beside, PyData.strOk n = true := fun p hp n hn => by
  obtain ⟨q, hq, e⟩ := List.mem_map.mp (w.in_ p hp n hn)
  rw [← e]
  exact nm_ok N hk q hq
theorem W3.same {K : PySem.W.Frag} {H : Hp} {q r d o : Addr} {R : Hs} {fa fb ga gb : Str → Addr} {k b : Nat} (W : W3 K H q r d o R fa fb ga gb) (N : Nm k b R) (hk : k ≤ 60) : ∀ p ∈ R, SameD K H (.ref (fa p.1)) (.ref (ga p.1)) := fun p hp =>
  ⟨hdata p.2, dp_row (W.row.hs.row p hp) (W.row.hs.bes p hp), dp_row (W.own.row p hp) (W.own.bes p hp), shaped_row (ab_str (N.cor p hp)) (bes_ok N hk W.wf p hp)⟩
section
variable {P : Program} {w : World} {K : PySem.W.Frag} {mg : Str → Option Value} {base : Heap}
/-- the rows are the law's; who burns, who is burnt -/
theorem law_c2 (T : Txt K mg base) {A : Around} {outer : List Env} {s : Shared} {H0 : Hp} {E0 : XK} (hr : Room 6 (A.deeper (envOfC d_law.qual d_law.scope s.heap.objs.size (He.fAd K d_law.at_) (.ref (He.codeOf K d_law.at_))))) :
    ∃ t, PS (bodyX P w K mg base N_law d_law A outer s H0 E0) ((subS ((subS ((d_law.body).getD 0 noS)).getD 2 noS)).getD 2 noS) t ∧ ∀ (D : Ends) (H : Hp) (q r d o : Addr) (R : Hs) (fa fb ga gb : Str → Addr) (x0 x2 x3 x4 x7 x8 x9 x10 x11 x12 x13 x14 x15 x16 : Option V), W3 K H q r d o R fa fb ga gb → Nm 8 100 R →
      (∀ H', W3 K H' q r d o R fa fb ga gb → Go (TL K) (TG K) (fun _ => False) H H' → D.nx [x0, some (.ref q), x2, x3, x4, some (.ref r), some (.ref o), x7, x8, x9, x10, x11, x12, x13, x14, x15, x16] H') →
      t D [x0, some (.ref q), x2, x3, x4, some (.ref r), some (.ref o), x7, x8, x9, x10, x11, x12, x13, x14, x15, x16] H := by
  have hu := hu_of hr
  have cl_Row := T.cl_Row
  have no_Row_houses := T.no_Row_houses
  refine ⟨_, (ps_if (PW.pt (pw_or (pt_cmpR (op_neDD (u65 hr)) (pe_fld (pv 5) rfl) (pv 6) (nomark _)) (pw_or (pt_cmpR (op_neD hr.units) (pe_callTy call_list_of (by rfl) T.fr_list (by decide +kernel) (pa_cons (pg_meth0 (ok_Row_burning T) (hr.mono (by decide)) T.cl_Row T.me_Row_burning px (pv 5)) pa_nil)) (pe_lc (own := [("one", 14)]) (g := gName 14) rfl sc_law.nd (pi_list (pe_callB (cr_sortD hr) (by rfl) T.fr_sorted (by decide +kernel) (pa_cons (pv 6) pa_nil))) (blkOk_by (own := [("one", 14)]) (N := N_law) (sc := d_law.scope) (by decide +kernel)) (fun _ _ _ _ _ => (pg_name (i := 14) sc_law.nd rfl (by first | exact Or.inl rfl | exact Or.inr rfl))) (fun _ _ _ _ _ => pts_one (pt_cmpR op_gt (pe_ix (ix_listK K rfl) (pe_dget hu (pv 6) (pv 14) (fun _ _ => rfl)) pe_int (fun _ _ => rfl)) pe_int (nomark _))) (fun _ _ _ _ _ => (pv 14))) (nomark _)) (pw_or1 (pt_cmpR (op_neD hr.units) (pe_callTy call_list_of (by rfl) T.fr_list (by decide +kernel) (pa_cons (pg_meth0 (ok_Row_burnt T) (hr.mono (by decide)) T.cl_Row T.me_Row_burnt px (pv 5)) pa_nil)) (pe_lc (own := [("one", 14)]) (g := gName 14) rfl sc_law.nd (pi_list (pe_callB (cr_sortD hr) (by rfl) T.fr_sorted (by decide +kernel) (pa_cons (pv 6) pa_nil))) (blkOk_by (own := [("one", 14)]) (N := N_law) (sc := d_law.scope) (by decide +kernel)) (fun _ _ _ _ _ => (pg_name (i := 14) sc_law.nd rfl (by first | exact Or.inl rfl | exact Or.inr rfl))) (fun _ _ _ _ _ => pts_one (pt_cmpR op_eq (pe_ix (ix_listK K rfl) (pe_dget hu (pv 6) (pv 14) (fun _ _ => rfl)) pe_int (fun _ _ => rfl)) pe_int (nomark _))) (fun _ _ _ _ _ => (pv 14))) (nomark _)))))) (pss_one (ps_ret pe_bl)) pss_nil), fun D H q r d o R fa fb ga gb x0 x2 x3 x4 x7 x8 x9 x10 x11 x12 x13 x14 x15 x16 V3 N k => ?_⟩
  obtain ⟨⟨dx, h1⟩, hs, ia, ib⟩ := id V3.row
  walk_at "v"; walk_at "f"; walk_at "v"
  refine ⟨d, o, _, _, rfl, rfl, hs.dc, V3.own.dc, (by rw [List.length_map, List.length_map]), fun p hp => ?_, ?_⟩
  · obtain ⟨x, hx, rfl⟩ := List.mem_map.mp hp
    refine ⟨.ref (ga x.1), ?_, V3.same N (by decide) x hx⟩
    rw [val_look, mem_look hs.nd (show (x.1, x.2) ∈ R from hx)] <;> rfl
  refine ⟨_, rfl, iteF ?_⟩
  walk_at "v"
  refine ⟨_, _, _, rfl, h1, rfl, ?_⟩
  refine ⟨r, d, R, fa, fb, rfl, V3.row, (by have := N.len; omega), V3.tb, fun p H1 hp e1 g1 => ?_⟩
  refine ⟨p, _, rfl, .inr (SqT.of e1), fun l hl => ?_⟩
  have g2 := g1.trans (Go.new (o := .lst ((namesBy R fun h => decide (0 < h.heat)).map V.str)) hl)
  have el : upd H1 l (.lst ((namesBy R fun h => decide (0 < h.heat)).map V.str)) l = some (.lst ((namesBy R fun h => decide (0 < h.heat)).map V.str)) := upd_same
  show tLc _ _ _ _ _ _ _ _
  generalize upd H1 l (.lst ((namesBy R fun h => decide (0 < h.heat)).map V.str)) = H2 at g2 el ⊢
  have W2 := V3.go g2 (V3.dice.imp fun _ h => g2.get h) fun _ z => z.elim
  walk_at "v"
  refine ⟨_, _, rfl, .inl W2.own.dc, (by rw [names_kv]; exact sortb_str _), fun sl hsl => ?_⟩
  rw [names_kv, sortV_str]
  have g3 := g2.trans (Go.new (o := .lst ((sortS (R.map (·.1))).map V.str)) hsl)
  have es : upd H2 sl (.lst ((sortS (R.map (·.1))).map V.str)) sl = some (.lst ((sortS (R.map (·.1))).map V.str)) := upd_same
  have el3 : upd H2 sl (.lst ((sortS (R.map (·.1))).map V.str)) l = some (.lst ((namesBy R fun h => decide (0 < h.heat)).map V.str)) := by rw [upd_ne (ne_of_none el hsl)]; exact el
  generalize upd H2 sl (.lst ((sortS (R.map (·.1))).map V.str)) = H3 at g3 es el3 ⊢
  have W3' := V3.go g3 (V3.dice.imp fun _ h => g3.get h) fun _ z => z.elim
  refine ⟨sl, rfl, ⟨_, SqL.of es⟩, fun L hL => lc_fold V.str (sortS (R.map (·.1))) rfl walk_itl (fun acc n => if ((R.lookup n).map (fun h : House => decide (0 < h.heat))).getD false = true then acc ++ [n] else acc) []
    (fun acc H' => H' = upd H3 L (.lst (acc.map V.str))) rfl (fun acc H' h => SqL.of (by rw [h, upd_ne (ne_of_none es hL)]; exact es)) ?_ ?_⟩
  · rintro pre n post H' eb rfl
    have kn : n ∈ R.map (·.1) := mem_sortS.mp (by rw [eb]; simp)
    obtain ⟨h, e⟩ := look_key kn W3'.own.nd
    have lacc : (pre.foldl (fun acc n => if ((R.lookup n).map (fun h : House => decide (0 < h.heat))).getD false = true then acc ++ [n] else acc) []).length < sizeLine := by
      rw [foldl_filter, List.nil_append]
      have l1 := List.length_filter_le (fun n => ((R.lookup n).map (fun h : House => decide (0 < h.heat))).getD false) pre
      have l2 := congrArg List.length eb
      rw [len_sortS, List.length_map, List.length_append, List.length_cons] at l2
      have l3 := N.len
      exact Nat.lt_of_le_of_lt (show _ ≤ 1000 by omega) (by decide)
    generalize (pre.foldl (fun acc n => if ((R.lookup n).map (fun h : House => decide (0 < h.heat))).getD false = true then acc ++ [n] else acc) []) = acc at lacc ⊢
    have own4 := W3'.own.go (Go.new (TL := TL K) (TG := TG K) (S := fun _ => False) (o := .lst (acc.map V.str)) hL) id (fun _ _ => id) (fun _ _ => id)
    refine ⟨rfl, ?_⟩
    walk_at "v"; walk_at "v"
    refine ⟨_, _, rfl, own4.get e, ?_⟩
    refine ⟨_, _, _, _, rfl, rfl, SqL.of (own4.at_ e), rfl, ?_⟩
    walk_at "go"
    simp only [e, Option.map_some, Option.getD_some]
    refine ite2 (fun z => ?_) (fun z => ?_)
    · walk_at "v"
      refine ⟨_, upd_same, (by rw [List.length_map]; exact lacc), ?_⟩
      have z' : (fun h : House => decide (0 < h.heat)) h = true := z
      rw [if_pos z', upd_upd, List.map_append]
      rfl
    · have z' : ¬ (fun h : House => decide (0 < h.heat)) h = true := z
      rw [if_neg z']
  · rintro H' rfl
    rw [foldl_filter, List.nil_append]
    have g4 := g3.trans (Go.new (o := .lst (((sortS (R.map (·.1))).filter fun n => ((R.lookup n).map (fun h : House => decide (0 < h.heat))).getD false).map V.str)) hL)
    have W4 := V3.go g4 (V3.dice.imp fun _ h => g4.get h) fun _ z => z.elim
    have sh : SeqAt.shaped (.list ((namesBy R fun h => decide (0 < h.heat)).map PyData.str)) = true := shaped_strs _ fun n hn => by
      obtain ⟨q, hq, e⟩ := List.mem_map.mp (mem_sortS.mp (List.mem_filter.mp hn).1)
      rw [← e]
      exact nm_ok N (by decide) q hq
    refine ⟨.list ((namesBy R fun h => decide (0 < h.heat)).map PyData.str), .list ((namesBy R fun h => decide (0 < h.heat)).map PyData.str), .lst (SqL.of (by rw [upd_ne (ne_of_none el3 hL)]; exact el3)) (dpAll_map (d := PyData.str) (fun a => .str a) _), .lst (SqL.of upd_same) (dpAll_map (d := PyData.str) (fun a => .str a) _), sh, sh, ?_⟩
    rw [eqv_same sh]
    refine ⟨_, rfl, ?_⟩
    refine iteF ?_
    obtain ⟨⟨dx4, h4⟩, _, _, _⟩ := id W4.row
    walk_at "v"
    refine ⟨_, _, _, rfl, h4, rfl, ?_⟩
    generalize upd H3 L (.lst (((sortS (R.map (·.1))).filter fun n => ((R.lookup n).map (fun h : House => decide (0 < h.heat))).getD false).map V.str)) = H4 at g4 W4 h4 ⊢
    have gA := g4
    clear el3 es el e1 sh
    refine ⟨r, d, R, fa, fb, rfl, W4.row, (by have := N.len; omega), W4.tb, fun p J1 hp e1 k1 => ?_⟩
    refine ⟨p, _, rfl, .inr (SqT.of e1), fun l hl => ?_⟩
    have g2 := k1.trans (Go.new (o := .lst ((namesBy R fun h => decide (h.fuel = 0)).map V.str)) hl)
    have el : upd J1 l (.lst ((namesBy R fun h => decide (h.fuel = 0)).map V.str)) l = some (.lst ((namesBy R fun h => decide (h.fuel = 0)).map V.str)) := upd_same
    show tLc _ _ _ _ _ _ _ _
    generalize upd J1 l (.lst ((namesBy R fun h => decide (h.fuel = 0)).map V.str)) = J2 at g2 el ⊢
    have U2 := W4.go g2 (W4.dice.imp fun _ h => g2.get h) fun _ z => z.elim
    walk_at "v"
    refine ⟨_, _, rfl, .inl U2.own.dc, (by rw [names_kv]; exact sortb_str _), fun sl hsl => ?_⟩
    rw [names_kv, sortV_str]
    have g3 := g2.trans (Go.new (o := .lst ((sortS (R.map (·.1))).map V.str)) hsl)
    have es : upd J2 sl (.lst ((sortS (R.map (·.1))).map V.str)) sl = some (.lst ((sortS (R.map (·.1))).map V.str)) := upd_same
    have el3 : upd J2 sl (.lst ((sortS (R.map (·.1))).map V.str)) l = some (.lst ((namesBy R fun h => decide (h.fuel = 0)).map V.str)) := by rw [upd_ne (ne_of_none el hsl)]; exact el
    generalize upd J2 sl (.lst ((sortS (R.map (·.1))).map V.str)) = J3 at g3 es el3 ⊢
    have U3 := W4.go g3 (W4.dice.imp fun _ h => g3.get h) fun _ z => z.elim
    refine ⟨sl, rfl, ⟨_, SqL.of es⟩, fun L hL => lc_fold V.str (sortS (R.map (·.1))) rfl walk_itl (fun acc n => if ((R.lookup n).map (fun h : House => decide (h.fuel = 0))).getD false = true then acc ++ [n] else acc) []
      (fun acc H' => H' = upd J3 L (.lst (acc.map V.str))) rfl (fun acc H' h => SqL.of (by rw [h, upd_ne (ne_of_none es hL)]; exact es)) ?_ ?_⟩
    · rintro pre n post H' eb rfl
      have kn : n ∈ R.map (·.1) := mem_sortS.mp (by rw [eb]; simp)
      obtain ⟨h, e⟩ := look_key kn U3.own.nd
      have lacc : (pre.foldl (fun acc n => if ((R.lookup n).map (fun h : House => decide (h.fuel = 0))).getD false = true then acc ++ [n] else acc) []).length < sizeLine := by
        rw [foldl_filter, List.nil_append]
        have l1 := List.length_filter_le (fun n => ((R.lookup n).map (fun h : House => decide (h.fuel = 0))).getD false) pre
        have l2 := congrArg List.length eb
        rw [len_sortS, List.length_map, List.length_append, List.length_cons] at l2
        have l3 := N.len
        exact Nat.lt_of_le_of_lt (show _ ≤ 1000 by omega) (by decide)
      generalize (pre.foldl (fun acc n => if ((R.lookup n).map (fun h : House => decide (h.fuel = 0))).getD false = true then acc ++ [n] else acc) []) = acc at lacc ⊢
      have own4 := U3.own.go (Go.new (TL := TL K) (TG := TG K) (S := fun _ => False) (o := .lst (acc.map V.str)) hL) id (fun _ _ => id) (fun _ _ => id)
      refine ⟨rfl, ?_⟩
      walk_at "v"; walk_at "v"
      refine ⟨_, _, rfl, own4.get e, ?_⟩
      refine ⟨_, _, _, _, rfl, rfl, SqL.of (own4.at_ e), rfl, ?_⟩
      walk_at "go"
      simp only [e, Option.map_some, Option.getD_some]
      refine ite2 (fun z => ?_) (fun z => ?_)
      · walk_at "v"
        refine ⟨_, upd_same, (by rw [List.length_map]; exact lacc), ?_⟩
        have z' : (fun h : House => decide (h.fuel = 0)) h = true := (decide_eq_true (V.int.inj (of_decide_eq_true z)))
        rw [if_pos z', upd_upd, List.map_append]
        rfl
      · have z' : ¬ (fun h : House => decide (h.fuel = 0)) h = true := (fun y => z (decide_eq_true (by rw [of_decide_eq_true y])))
        rw [if_neg z']
    · rintro H' rfl
      rw [foldl_filter, List.nil_append]
      have g4 := g3.trans (Go.new (o := .lst (((sortS (R.map (·.1))).filter fun n => ((R.lookup n).map (fun h : House => decide (h.fuel = 0))).getD false).map V.str)) hL)
      have U4 := W4.go g4 (W4.dice.imp fun _ h => g4.get h) fun _ z => z.elim
      have sh : SeqAt.shaped (.list ((namesBy R fun h => decide (h.fuel = 0)).map PyData.str)) = true := shaped_strs _ fun n hn => by
        obtain ⟨q, hq, e⟩ := List.mem_map.mp (mem_sortS.mp (List.mem_filter.mp hn).1)
        rw [← e]
        exact nm_ok N (by decide) q hq
      refine ⟨.list ((namesBy R fun h => decide (h.fuel = 0)).map PyData.str), .list ((namesBy R fun h => decide (h.fuel = 0)).map PyData.str), .lst (SqL.of (by rw [upd_ne (ne_of_none el3 hL)]; exact el3)) (dpAll_map (d := PyData.str) (fun a => .str a) _), .lst (SqL.of upd_same) (dpAll_map (d := PyData.str) (fun a => .str a) _), sh, sh, ?_⟩
      rw [eqv_same sh]
      refine ⟨_, rfl, ?_⟩
      refine iteF (k _ U4 (gA.trans g4))
end
end K3
namespace K3
open PySem PySem.Spec PyProof.Rows L2 Fy
open GxR (TabG Tabbed)
theorem walk_ab : Walk (Its "ab") 2 (fun _ => True) (YAt ([("a" : Str), "b"].map V.str)) := by
  have w := walk_str (z := "ab")
  have e : ("ab" : Str).cps.size = 2 := by decide +kernel
  rw [e] at w
  refine w.mono (fun _ h => h) fun i H x H' hi _ y => ?_
  obtain ⟨rfl, c, e1, rfl⟩ := y
  refine ⟨rfl, ?_⟩
  have e2 : ("ab" : Str).cps = #[97, 98] := by decide +kernel
  rw [e2] at e1
  have : i = 0 ∨ i = 1 := by omega
  rcases this with rfl | rfl
  · have : c = 97 := by simpa using e1.symm
    rw [this, show (⟨#[97]⟩ : Str) = "a" by decide +kernel]
    rfl
  · have : c = 98 := by simpa using e1.symm
    rw [this, show (⟨#[98]⟩ : Str) = "b" by decide +kernel]
    rfl
def atQ (R : Hs) (c n : Str) : Bool := ((R.lookup n).map fun h => decide (h.corner = c)).getD false
theorem heatAt_names {R : Hs} (nd : (R.map (·.1)).Nodup) (c : Str) : heatAt R c = (((R.map (·.1)).filter (atQ R c)).map (heatOf R)).sum := by
  unfold heatAt atQ heatOf
  rw [List.filter_map, List.map_map]
  have q : ∀ p ∈ R, R.lookup p.1 = some p.2 := fun p hp => mem_look nd hp
  have e1 : (R.filter fun p => decide (p.2.corner = c)) = R.filter ((fun n => ((R.lookup n).map fun h => decide (h.corner = c)).getD false) ∘ fun p => p.1) := by
    refine List.filter_congr fun p hp => ?_
    show _ = ((R.lookup p.1).map fun h => decide (h.corner = c)).getD false
    rw [q p hp] <;> rfl
  rw [e1]
  congr 1
  refine List.map_congr_left fun p hp => ?_
  have hp' := (List.mem_filter.mp hp).1
  show p.2.heat = ((R.lookup p.1).map fun h => h.heat).getD 0
  rw [q p hp'] <;> rfl
theorem foldl_filterM {α β : Type} (q : α → Bool) (g : α → β) : ∀ (ys : List α) (acc : List β), ys.foldl (fun acc n => if q n = true then acc ++ [g n] else acc) acc = acc ++ (ys.filter q).map g
  | [], acc => by simp
  | y :: ys, acc => by
    rw [List.foldl_cons, foldl_filterM q g ys, List.filter_cons]
    by_cases e : q y = true
    · rw [if_pos e, if_pos e]; simp
    · rw [if_neg e, if_neg e]
section
variable {P : Program} {w : World} {K : PySem.W.Frag} {mg : Str → Option Value} {base : Heap}
/-- the heat at a corner -/
theorem law_c3 (T : Txt K mg base) {A : Around} {outer : List Env} {s : Shared} {H0 : Hp} {E0 : XK} (hr : Room 6 (A.deeper (envOfC d_law.qual d_law.scope s.heap.objs.size (He.fAd K d_law.at_) (.ref (He.codeOf K d_law.at_))))) :
    ∃ t, PS (bodyX P w K mg base N_law d_law A outer s H0 E0) ((subS ((subS ((d_law.body).getD 0 noS)).getD 2 noS)).getD 3 noS) t ∧ ∀ (D : Ends) (H : Hp) (q r d o : Addr) (R : Hs) (fa fb ga gb : Str → Addr) (x0 x2 x3 x4 x7 x8 x9 x10 x11 x12 x13 x14 x15 x16 : Option V), W3 K H q r d o R fa fb ga gb → Nm 8 100 R →
      (∀ H', W3 K H' q r d o R fa fb ga gb → Go (TL K) (TG K) (fun _ => False) H H' → D.nx [x0, some (.ref q), x2, x3, x4, some (.ref r), some (.ref o), x7, x8, x9, x10, x11, x12, x13, x14, x15, x16] H') →
      t D [x0, some (.ref q), x2, x3, x4, some (.ref r), some (.ref o), x7, x8, x9, x10, x11, x12, x13, x14, x15, x16] H := by
  have hu := hu_of hr
  refine ⟨_, (ps_if (pt_cmpR (op_neD hr.units) (pe_lc (own := [("corner", 10)]) (g := gName 10) (tt := tYes) rfl sc_law.nd (pi_str pe_str) (blkOk_by (own := [("corner", 10)]) (N := N_law) (sc := d_law.scope) (by decide +kernel)) (fun _ _ _ _ _ => (pg_name (i := 10) sc_law.nd rfl (by first | exact Or.inl rfl | exact Or.inr rfl))) (fun _ _ _ _ _ => pts_nil) (fun _ _ _ _ _ => (pg_meth (ok_Row_heat_at T) (hr.mono (by decide)) T.cl_Row T.me_Row_heat_at passL (pv 5) (pa_cons (pv 10) pa_nil)))) (pe_lc (own := [("corner", 10)]) (g := gName 10) (tt := tYes) rfl sc_law.nd (pi_str pe_str) (blkOk_by (own := [("corner", 10)]) (N := N_law) (sc := d_law.scope) (by decide +kernel)) (fun _ _ _ _ _ => (pg_name (i := 10) sc_law.nd rfl (by first | exact Or.inl rfl | exact Or.inr rfl))) (fun _ _ _ _ _ => pts_nil) (fun _ _ _ _ _ => (pe_callB (cr_sumK K rfl rfl) (by rfl) T.fr_sum (by decide +kernel) (pa_cons (pe_lock (pe_lc (own := [("one", 14)]) (g := gName 14) rfl sc_law.nd (pi_keys (pv 6)) (blkOk_by (own := [("one", 14)]) rfl) (fun _ _ _ _ _ => (pg_name (i := 14) sc_law.nd rfl (by first | exact Or.inl rfl | exact Or.inr rfl))) (fun _ _ _ _ _ => pts_one (pt_cmpR op_eq (pe_ix (ix_listK K rfl) (pe_dget hu (pv 6) (pv 14) (fun _ _ => rfl)) pe_int (fun _ _ => rfl)) (pv 10) (nomark _))) (fun _ _ _ _ _ => (pe_ix (ix_listK K rfl) (pe_dget hu (pv 6) (pv 14) (fun _ _ => rfl)) pe_int (fun _ _ => rfl))))) pa_nil)))) (nomark _)) (pss_one (ps_ret pe_bl)) pss_nil), fun D H q r d o R fa fb ga gb x0 x2 x3 x4 x7 x8 x9 x10 x11 x12 x13 x14 x15 x16 V3 N k => ?_⟩
  obtain ⟨⟨dx, h1⟩, hs, ia, ib⟩ := id V3.row
  refine ⟨_, rfl, fun L hL => lc_fold V.str [("a" : Str), "b"] rfl walk_ab (fun acc c => acc ++ [heatAt R c]) []
    (fun acc H' => H' L = some (.lst (acc.map V.int)) ∧ Go (TL K) (TG K) (fun a => a = L) H H') ⟨upd_same, Go.new hL⟩ (fun _ _ _ => trivial) ?_ ?_⟩
  · rintro pre c post H' eb ⟨eL, g1⟩
    rw [foldl_snocM, List.nil_append] at eL ⊢
    have lp : pre.length ≤ 1 := by
      have := congrArg List.length eb
      rw [List.length_append, List.length_cons] at this
      simp at this
      omega
    have g1' : Go (TL K) (TG K) (fun _ => False) H H' := g1.drop fun b z => .inr (by rw [z]; exact hL)
    have W1 := V3.go g1' (V3.dice.imp fun _ h => g1'.get h) fun _ z => z.elim
    obtain ⟨⟨dx1, h1'⟩, _, _, _⟩ := id W1.row
    refine ⟨rfl, tYes_ok ?_⟩
    walk_at "v"
    refine ⟨_, _, _, rfl, h1', rfl, ?_⟩
    walk_at "v"
    refine ⟨r, d, R, fa, fb, c, rfl, W1.row, W1.tb, fun H2 g2 => ?_⟩
    have eL2 := g2.keep _ _ eL (by intro _ z; cases z) id
    refine ⟨_, eL2, (by rw [List.length_map, List.length_map]; exact Nat.lt_of_le_of_lt lp (by decide)), ?_, (g1.trans g2.wide).trans (Go.set eL2 plain_lst rfl)⟩
    rw [upd_same, List.map_append]
    rfl
  · rintro H1 ⟨eL, g1⟩
    have g1' : Go (TL K) (TG K) (fun _ => False) H H1 := g1.drop fun b z => .inr (by rw [z]; exact hL)
    rw [foldl_snocM, List.nil_append] at eL
    refine ⟨_, rfl, fun L2 hL2 => lc_fold V.str [("a" : Str), "b"] rfl walk_ab (fun acc c => acc ++ [heatAt R c]) []
      (fun acc H' => H' L2 = some (.lst (acc.map V.int)) ∧ Go (TL K) (TG K) (fun a => a = L2) H1 H') ⟨upd_same, Go.new hL2⟩ (fun _ _ _ => trivial) ?_ ?_⟩
    · rintro pre c post H' eb ⟨eL2, g2⟩
      rw [foldl_snocM, List.nil_append] at eL2 ⊢
      have lp : pre.length ≤ 1 := by
        have := congrArg List.length eb
        rw [List.length_append, List.length_cons] at this
        simp at this
        omega
      have g2' : Go (TL K) (TG K) (fun _ => False) H H' := g1'.trans (g2.drop fun b z => .inr (by rw [z]; exact hL2))
      have W1 := V3.go g2' (V3.dice.imp fun _ h => g2'.get h) fun _ z => z.elim
      refine ⟨rfl, tYes_ok ?_⟩
      refine ⟨o, _, W1.own.dc, trivial, fun od => ?_⟩
      walk_at "v"
      have wk := walk_keysV (d := o) (o := od) (kvs := R.map fun p => ((Sum.inr p.1 : Key), V.ref (ga p.1)))
      rw [names_kvS] at wk
      refine ⟨o, od, rfl, .inl ⟨_, upd_same, fun M hM => ?_⟩⟩
      have nMo : M ≠ o := fun z => by rw [z, upd_same] at hM; cases hM
      have hM0 : H' M = none := by rw [upd_ne nMo] at hM; exact hM
      refine lc_fold V.str (R.map (·.1)) (by rw [List.length_map, List.length_map]) wk (fun acc n => if atQ R c n = true then acc ++ [heatOf R n] else acc) []
        (fun acc J => J = upd (upd H' o (.frz od (.dK (R.map fun p => ((Sum.inr p.1 : Key), V.ref (ga p.1)))))) M (.lst (acc.map V.int))) rfl (fun acc J h => by rw [h, upd_ne nMo.symm]; exact upd_same) ?_ ?_
      · rintro pre2 n post2 J eb2 rfl
        have kn : n ∈ R.map (·.1) := by rw [eb2]; simp
        obtain ⟨h, e⟩ := look_key kn W1.own.nd
        have lacc : (pre2.foldl (fun acc n => if atQ R c n = true then acc ++ [heatOf R n] else acc) []).length < sizeLine := by
          rw [foldl_filterM, List.nil_append, List.length_map]
          have l1 := List.length_filter_le (atQ R c) pre2
          have l2 := congrArg List.length eb2
          rw [List.length_map, List.length_append, List.length_cons] at l2
          have l3 := N.len
          exact Nat.lt_of_le_of_lt (show _ ≤ 1000 by omega) (by decide)
        generalize (pre2.foldl (fun acc n => if atQ R c n = true then acc ++ [heatOf R n] else acc) []) = acc at lacc ⊢
        have e1 : upd (upd H' o (.frz od (.dK (R.map fun p => ((Sum.inr p.1 : Key), V.ref (ga p.1)))))) M (.lst (acc.map V.int)) o = some (.frz od (.dK (R.map fun p => ((Sum.inr p.1 : Key), V.ref (ga p.1))))) := by
          rw [upd_ne nMo.symm, upd_same]
        have e2 : upd (upd H' o (.frz od (.dK (R.map fun p => ((Sum.inr p.1 : Key), V.ref (ga p.1)))))) M (.lst (acc.map V.int)) (ga n) = some (.lst (hvals h (gb n))) := by
          have ha := W1.own.at_ e
          rw [upd_ne (ne_of_none ha hM0), upd_ne (ne_of ha W1.own.dc (by intro z; cases z))]
          exact ha
        have gd := DGet.kr (k := Sum.inr n) (.inr ⟨od, e1⟩)
        rw [val_look, e] at gd
        have eq : atQ R c n = decide (h.corner = c) := by unfold atQ; rw [e] <;> rfl
        have eh : heatOf R n = h.heat := by unfold heatOf; rw [e] <;> rfl
        rw [eq, eh]
        refine ⟨rfl, ?_⟩
        walk_at "v"; walk_at "v"
        refine ⟨_, _, rfl, gd, ?_⟩
        refine ⟨_, _, _, _, rfl, rfl, SqL.of e2, rfl, ?_⟩
        walk_at "v"
        refine ⟨rfl, ?_⟩
        refine ⟨_, rfl, ?_⟩
        refine ite2 (fun z => ?_) (fun z => ?_)
        · have z' : h.corner = c := V.str.inj (of_decide_eq_true z)
          walk_at "v"; walk_at "v"
          refine ⟨_, _, rfl, gd, ?_⟩
          refine ⟨_, _, _, _, rfl, rfl, SqL.of e2, rfl, ?_⟩
          refine ⟨_, upd_same, (by rw [List.length_map]; exact lacc), ?_⟩
          rw [if_pos (decide_eq_true z'), upd_upd, List.map_append]
          rfl
        · have z' : ¬ h.corner = c := fun y => z (decide_eq_true (by rw [y]))
          rw [if_neg (by rw [decide_eq_false z']; decide)]
      · rintro J rfl
        rw [foldl_filterM, List.nil_append]
        refine ⟨by rw [upd_ne nMo.symm, upd_same], ?_⟩
        rw [lock_lst W1.own.dc nMo]
        refine ⟨M, _, rfl, SqL.of upd_same, ?_⟩
        rw [← heatAt_names W1.own.nd c]
        have eL3 : upd H' M (.lst ((((R.map (·.1)).filter (atQ R c)).map (heatOf R)).map V.int)) L2 = some (.lst ((pre.map (heatAt R)).map V.int)) := by
          rw [upd_ne (ne_of_none eL2 hM0)]
          exact eL2
        refine ⟨_, eL3, (by rw [List.length_map, List.length_map]; exact Nat.lt_of_le_of_lt lp (by decide)), ?_, (g2.trans (Go.new hM0)).trans (Go.set eL3 plain_lst rfl)⟩
        rw [upd_same, List.map_append]
        rfl
    · rintro H2 ⟨eL2, g2⟩
      rw [foldl_snocM, List.nil_append] at eL2
      have g2' : Go (TL K) (TG K) (fun _ => False) H1 H2 := g2.drop fun b z => .inr (by rw [z]; exact hL2)
      have gA := g1'.trans g2'
      have eLz := g2'.get eL
      have sh := PySem.W.shaped_ints ([("a" : Str), "b"].map (heatAt R))
      refine ⟨_, _, .lst (SqL.of eLz) (dpAll_map (d := PyData.int) (fun a => .int a) _), .lst (SqL.of eL2) (dpAll_map (d := PyData.int) (fun a => .int a) _), sh, sh, ?_⟩
      rw [eqv_same sh]
      exact ⟨_, rfl, iteF (k _ (V3.go gA (V3.dice.imp fun _ h => gA.get h) fun _ z => z.elim) gA)⟩
end
end K3
namespace K3
open PySem PySem.Spec PyProof.Rows L2 Fy
open GxR (TabG Tabbed)
section
variable {P : Program} {w : World} {K : PySem.W.Frag} {mg : Str → Option Value} {base : Heap}
/-- the steps -/
theorem law_steps (T : Txt K mg base) {A : Around} {outer : List Env} {s : Shared} {H0 : Hp} {E0 : XK} (hr : Room 6 (A.deeper (envOfC d_law.qual d_law.scope s.heap.objs.size (He.fAd K d_law.at_) (.ref (He.codeOf K d_law.at_))))) :
    ∃ t, PS (bodyX P w K mg base N_law d_law A outer s H0 E0) ((subS ((d_law.body).getD 0 noS)).getD 2 noS) t ∧ ∀ (D : Ends) (H : Hp) (sc : V) (q r d o : Addr) (R : Hs) (fa fb ga gb : Str → Addr) (σ : L2.St), LSt sc (.ref q) (.ref r) (.ref o) σ → W3 K H q r d o R fa fb ga gb → Nm 8 100 R →
      (∀ (R' : Hs) (ga' : Str → Addr) (σ : L2.St) (H' : Hp), LSt sc (.ref q) (.ref r) (.ref o) σ → W3 K H' q r d o R' fa fb ga' gb → Nm 8 100 R' → Go (TL K) (TG K) (fun a => a = q ∨ a = o ∨ ∃ p ∈ R, a = fa p.1) H H' → D.nx σ H') → t D σ H := by
  have hu := hu_of hr
  obtain ⟨tl0, pl0, rl0⟩ := law_l0 (P := P) (w := w) (E0 := E0) (H0 := H0) T hr
  obtain ⟨tl1, pl1, rl1⟩ := law_l1 (P := P) (w := w) (E0 := E0) (H0 := H0) T hr
  obtain ⟨tl2, pl2, rl2⟩ := law_l2 (P := P) (w := w) (E0 := E0) (H0 := H0) T hr
  obtain ⟨tw0, pw0, rw0⟩ := law_w0 (P := P) (w := w) (E0 := E0) (H0 := H0) T hr
  obtain ⟨tw1, pw1, rw1⟩ := law_w1 (P := P) (w := w) (E0 := E0) (H0 := H0) T hr
  obtain ⟨tc2, pc2, rc2⟩ := law_c2 (P := P) (w := w) (E0 := E0) (H0 := H0) T hr
  obtain ⟨tc3, pc3, rc3⟩ := law_c3 (P := P) (w := w) (E0 := E0) (H0 := H0) T hr
  refine ⟨_, (ps_for (passes_of rfl) rfl (pi_range1 rfl T.fr_range (pa_cons (pg_call (ok_law_roll T) (hr.mono (by decide)) rfl T.gl_law_roll px (pa_cons (pv 1) (pa_cons pe_int pa_nil))) pa_nil)) (pg_name (i := 3) sc_law.nd rfl (by first | exact Or.inl rfl | exact Or.inr rfl)) (pss_cons (ps_set (i := 4) sc_law.nd rfl (by first | exact Or.inl rfl | exact Or.inr rfl) (pe_op op_add_str pe_str (pe_callTy call_str_int (by rfl) T.fr_str (by decide +kernel) (pa_cons (pg_call (ok_law_roll T) (hr.mono (by decide)) rfl T.gl_law_roll px (pa_cons (pv 1) (pa_cons pe_int pa_nil))) pa_nil))))
        (pss_cons (ps_if (pt_cmpR op_eq (pg_call (ok_law_roll T) (hr.mono (by decide)) rfl T.gl_law_roll px (pa_cons (pv 1) (pa_cons pe_int pa_nil))) pe_int (nomark _)) (pss_cons pl0
          (pss_cons pl1
          (pss_one pl2))) (pss_cons pw0
          (pss_one pw1)))
        (pss_cons pc2
        (pss_one pc3))))), fun D H sc q r d o R fa fb ga gb σ hσ W N k => ?_⟩
  obtain ⟨x2, x3, x4, x7, x8, x9, x10, x11, x12, x13, x14, x15, x16, rfl⟩ := hσ
  obtain ⟨Dc, hq⟩ := W.dice
  walk_at "v"
  refine ⟨q, Dc, 61, rfl, hq, by decide, by decide, ?_⟩
  have hb := roll_lt (Dc := Dc) (m := 61) (by decide)
  refine ⟨_, rfl, (by omega), (by omega), ?_⟩
  have g0 : Go (TL K) (TG K) (fun a => a = q) H (upd H q (.lst (dvals (rollD Dc 61)))) := Go.set hq plain_lst rfl
  have W0 := W.go g0 ⟨_, upd_same⟩ fun _ z => .inl z
  refine for_range (n := (rollV Dc 61).toNat) (fun i σ H' => LSt sc (.ref q) (.ref r) (.ref o) σ ∧ ∃ R' ga', W3 K H' q r d o R' fa fb ga' gb ∧ Nm 8 100 R' ∧ R'.map (·.1) = R.map (·.1) ∧ Go (TL K) (TG K) (fun a => a = q ∨ a = o ∨ ∃ p ∈ R, a = fa p.1) H H')
    ⟨⟨_, _, _, _, _, _, _, _, _, _, _, _, _, rfl⟩, R, ga, W0, N, rfl, g0.mono fun _ z => .inl z⟩ ?_ ?_
  · rintro i σ H1 hi ⟨⟨x2, x3, x4, x7, x8, x9, x10, x11, x12, x13, x14, x15, x16, rfl⟩, R1, ga1, W1, N1, kk, g1⟩
    have mem : ∀ p ∈ R1, ∃ p' ∈ R, p'.1 = p.1 := fun p hp => by
      have : p.1 ∈ R1.map (·.1) := List.mem_map.mpr ⟨p, hp, rfl⟩
      rw [kk] at this
      exact List.mem_map.mp this
    obtain ⟨Dc1, hq1⟩ := W1.dice
    have hb1 := roll_lt (Dc := Dc1) (m := 9) (by decide)
    walk_at "v"
    refine ⟨q, Dc1, 9, rfl, hq1, by decide, by decide, ?_⟩
    obtain ⟨jn, hjn⟩ : ∃ j : Nat, rollV Dc1 9 = (j : Int) := ⟨(rollV Dc1 9).toNat, by omega⟩
    rw [hjn]
    have hj9 : jn < 60 := by omega
    refine ⟨_, rfl, lg60 hj9, ?_⟩
    refine ⟨_, _, rfl, rfl, ls60 hj9, ?_⟩
    walk_at "v"
    refine ⟨q, rollD Dc1 9, 6, rfl, upd_same, by decide, by decide, ?_⟩
    rw [upd_upd]
    have g2 : Go (TL K) (TG K) (fun a => a = q) H1 (upd H1 q (.lst (dvals (rollD (rollD Dc1 9) 6)))) := Go.set hq1 plain_lst rfl
    have W2 := W1.go g2 ⟨_, upd_same⟩ fun _ z => .inl z
    generalize upd H1 q (.lst (dvals (rollD (rollD Dc1 9) 6))) = H2 at g2 W2 ⊢
    have gB := g1.trans (g2.mono fun _ z => .inl z)
    have fin : ∀ (y2 y3 y4 y7 y8 y9 y10 y11 y12 y13 y14 y15 y16 : Option V) (R3 : Hs) (ga3 : Str → Addr) (H3 : Hp), W3 K H3 q r d o R3 fa fb ga3 gb → Nm 8 100 R3 → R3.map (·.1) = R.map (·.1) → Go (TL K) (TG K) (fun a => a = q ∨ a = o ∨ ∃ p ∈ R, a = fa p.1) H H3 →
        tSeq tc2 tc3 { D with nx := (fun σ H' => LSt sc (.ref q) (.ref r) (.ref o) σ ∧ ∃ R' ga', W3 K H' q r d o R' fa fb ga' gb ∧ Nm 8 100 R' ∧ R'.map (·.1) = R.map (·.1) ∧ Go (TL K) (TG K) (fun a => a = q ∨ a = o ∨ ∃ p ∈ R, a = fa p.1) H H'), ct := (fun σ H' => LSt sc (.ref q) (.ref r) (.ref o) σ ∧ ∃ R' ga', W3 K H' q r d o R' fa fb ga' gb ∧ Nm 8 100 R' ∧ R'.map (·.1) = R.map (·.1) ∧ Go (TL K) (TG K) (fun a => a = q ∨ a = o ∨ ∃ p ∈ R, a = fa p.1) H H'), bk := D.nx }
          [some sc, some (.ref q), y2, y3, y4, some (.ref r), some (.ref o), y7, y8, y9, y10, y11, y12, y13, y14, y15, y16] H3 := fun y2 y3 y4 y7 y8 y9 y10 y11 y12 y13 y14 y15 y16 R3 ga3 H3 W3a N3 k3 g3 => by
      refine rc2 _ H3 q r d o R3 fa fb ga3 gb _ _ _ _ _ _ _ _ _ _ _ _ _ _ W3a N3 fun H4 W4 g4 => ?_
      refine rc3 _ H4 q r d o R3 fa fb ga3 gb _ _ _ _ _ _ _ _ _ _ _ _ _ _ W4 N3 fun H5 W5 g5 => ?_
      exact ⟨⟨_, _, _, _, _, _, _, _, _, _, _, _, _, rfl⟩, R3, ga3, W5, N3, k3, g3.trans (g4.trans g5).wide⟩
    walk_at "go"
    refine ite2 (fun z => ?_) (fun z => ?_)
    · refine rl0 _ H2 o R1 ga1 gb (hn jn) _ _ _ _ _ _ _ _ _ _ _ _ _ _ _ W2.own ?_
      refine rl1 _ H2 q r d o R1 fa fb ga1 gb (hn jn) _ _ _ _ _ _ _ _ _ _ _ _ W2 N1.he (fun H3 z3 W3a g3 => ?_) (fun H3 z3 row3 g3 => ?_)
      · refine rl2 _ H3 o R1 ga1 gb (hn jn) _ _ _ _ _ _ _ _ _ _ _ _ _ _ W3a.own (by have := N1.len; omega) (fun _ => ?_) (fun ga' H4 z4 _ _ _ => absurd z3 (by rw [z4]; decide))
        exact fin _ _ _ _ _ _ _ _ _ _ _ _ _ R1 ga1 H3 W3a N1 kk (gB.trans g3.wide)
      · have ex : ∃ h, R1.lookup (hn jn) = some h := by
          cases e : R1.lookup (hn jn) with
          | some h => exact ⟨h, rfl⟩
          | none =>
            unfold goodL at z3
            rw [e] at z3
            cases z3
        obtain ⟨h, e⟩ := ex
        have hfa := W2.row.hs.at_ e
        have own3 : HsAt H3 o R1 ga1 gb := W2.own.go g3 (ne_of W2.own.dc hfa (by intro z; cases z)) (fun p hp z => W2.da _ (look_mem e) p hp z.symm) (fun p hp => ne_of (W2.own.bes p hp) hfa hv_ne.symm)
        refine rl2 _ H3 o R1 ga1 gb (hn jn) _ _ _ _ _ _ _ _ _ _ _ _ _ _ own3 (by have := N1.len; omega) (fun z4 => absurd z3 (by rw [z4]; decide)) (fun ga' H4 _ own4 f4 g4 => ?_)
        have row4 : RowAt (CRow K) H4 r d (updH R1 (hn jn) lit) fa fb := by
          obtain ⟨⟨dx3, h3⟩, hs3, _, _⟩ := id row3
          exact row3.go g4 (ne_of h3 own3.dc (by intro z; cases z)) (fun z => W.od z.symm) (fun p hp => ne_of (hs3.row p hp) own3.dc (by intro z; cases z)) (fun p hp => ne_of (hs3.bes p hp) own3.dc (by intro z; cases z))
        obtain ⟨Dc2, hq2⟩ := W2.dice
        have hq4 := g4.keep _ _ (g3.keep _ _ hq2 (by intro _ z; cases z) (ne_of hq2 hfa dv_hv)) (by intro _ z; cases z) (ne_of hq2 W2.own.dc (by intro z; cases z))
        have mem2 : ∀ p ∈ updH R1 (hn jn) lit, ∃ x, (p.1, x) ∈ R1 := fun p hp => by
          obtain ⟨p', hp', e1, _⟩ := updH_mem hp
          exact ⟨p'.2, by rw [← e1]; exact hp'⟩
        refine fin _ _ _ _ _ _ _ _ _ _ _ _ _ (updH R1 (hn jn) lit) ga' H4 ⟨row4, own4, ⟨Dc2, hq4⟩, W.od, fun p hp p' hp' z => ?_, fun p hp p' hp' => ?_, W2.wf.upd fun _ => rfl, W2.fu.upd fun _ h => h, g4.tb (g3.tb W2.tb)⟩ (N1.upd (fun _ => rfl) (fun _ => rfl) fun _ _ => (by show (0 : Int) ≤ 10; decide)) (by rw [keys_updH]; exact kk) ((gB.trans (g3.mono fun b z => ?_)).trans (g4.mono fun b z => .inr (.inl z)))
        · obtain ⟨x, hx⟩ := mem2 p hp
          obtain ⟨x', hx'⟩ := mem2 p' hp'
          rcases f4 p'.1 with y | y
          · exact W2.da _ hx _ hx' (by rw [← y]; exact z)
          · rw [← z] at y
            have := row3.hs.row p hp
            rw [y] at this
            cases this
        · obtain ⟨x, hx⟩ := mem2 p hp
          obtain ⟨x', hx'⟩ := mem2 p' hp'
          exact W2.db (p.1, x) hx (p'.1, x') hx'
        · obtain ⟨p', hp', ep⟩ := mem _ (look_mem e)
          exact .inr (.inr ⟨p', hp', by rw [z, ep]⟩)
    · obtain ⟨Dc2, hq2⟩ := W2.dice
      refine rw0 _ H2 q o R1 ga1 Dc2 _ _ _ _ _ _ _ _ _ _ _ _ _ _ _ W2.own.dc W2.own.nd (by have := N1.len; omega) hq2 fun wd Wt Dc3 H3 fw ew hW nW hq3 g3 => ?_
      have W3a := W2.go g3 ⟨_, hq3⟩ fun _ z => .inl z
      refine rw1 _ H3 q r d o wd R1 fa fb ga1 gb Wt _ _ _ _ _ _ _ _ _ _ _ _ _ W3a (nm_ok N1 (by decide)) ew (ne_of_none W2.row.hs.dc fw).symm (ne_of_none W2.own.dc fw).symm hW nW fun ga' H4 W4 g4 => ?_
      refine fin _ _ _ _ _ _ _ _ _ _ _ _ _ (minR R1 Wt) ga' H4 W4 (N1.min Wt) (by rw [min_keys]; exact kk) ((gB.trans (g3.mono fun _ z => .inl z)).trans (g4.mono fun b z => ?_))
      rcases z with z | ⟨p, hp, z⟩
      · exact .inr (.inl z)
      · obtain ⟨p', hp', ep⟩ := mem p hp
        exact .inr (.inr ⟨p', hp', by rw [z, ep]⟩)
  · rintro σ H1 ⟨hσ, R1, ga1, W1, N1, kk, g1⟩
    exact k R1 ga1 σ H1 hσ W1 N1 g1
end
end K3
namespace K3
open PySem PySem.Spec PyProof.Rows L2 Fy
open GxR (TabG Tabbed)
abbrev alone1 (h : House) : Hs := [(("x" : Str), h)]
/-- a house by itself, for a minute -/
theorem alone_burn (h : House) (hb : h.beside = []) : freshS (burnAll (alone1 h) []) = [] ∧ minR (alone1 h) [] = (alone1 (if 0 < h.heat then burn1 0 h else h)) := by
  have e1 : burnAll (alone1 h) [] = (alone1 (if 0 < h.heat then burn1 0 h else h)) := by
    by_cases z : 0 < h.heat
    · have e : burningS (alone1 h) = [("x" : Str)] := by
        unfold burningS namesBy
        rw [show sortS ((alone1 h).map (·.1)) = [("x" : Str)] from List.mergeSort_singleton _]
        simp [List.lookup_cons, z]
      unfold burnAll
      rw [e, if_pos z]
      simp [updH, wOf]
    · have e : burningS (alone1 h) = [] := by
        unfold burningS namesBy
        rw [show sortS ((alone1 h).map (·.1)) = [("x" : Str)] from List.mergeSort_singleton _]
        simp [List.lookup_cons, z]
      unfold burnAll
      rw [e, if_neg z]
      rfl
  have hb2 : (if 0 < h.heat then burn1 0 h else h).beside = [] := by
    split
    · rw [burn1_beside, hb]
    · exact hb
  have e2 : freshS (alone1 (if 0 < h.heat then burn1 0 h else h)) = [] := by
    generalize (if 0 < h.heat then burn1 0 h else h) = h2 at hb2
    unfold freshS namesBy
    rw [show sortS ((alone1 h2).map (·.1)) = [("x" : Str)] from List.mergeSort_singleton _]
    have : freshQ (alone1 h2) h2 = false := by
      unfold freshQ topTwo
      rw [hb2]
      have : sortI (([] : List Str).map (heatOf (alone1 h2))) = [] := List.mergeSort_nil
      rw [this]
      simp
    simp [List.lookup_cons, this]
  refine ⟨by rw [e1, e2], ?_⟩
  unfold minR
  rw [e1, e2]
  rfl
theorem mubN_le : ∀ (k : Nat) (f g m : Int), f ≤ 0 → mubN k f g m = m
  | 0, _, _, _, _ => rfl
  | k + 1, f, g, m, h => by rw [mubN, if_neg (by omega)]
theorem alone_step (h : House) (hf : 0 < h.fuel) (hg : 10 ≤ h.heat) (kk : Int) : (burn1 0 h).fuel.toNat < h.fuel.toNat ∧ 0 ≤ (burn1 0 h).fuel ∧ (0 < (burn1 0 h).fuel → 10 ≤ (burn1 0 h).heat) ∧ mubN (burn1 0 h).fuel.toNat (burn1 0 h).fuel (burn1 0 h).heat (kk + 1) = mubN h.fuel.toNat h.fuel h.heat kk := by
  have e0 : mx 0 (h.heat - (0 + 1) / 2) = h.heat := by
    unfold mx
    split <;> omega
  have e1 : burn1 0 h = { h with fuel := mx 0 (h.fuel - (h.heat + 9) / 10), heat := if 0 < mx 0 (h.fuel - (h.heat + 9) / 10) then mn 100 (h.heat + 5) else 0 } := by
    unfold burn1
    rw [e0, if_pos (by omega)]
  rw [e1]
  dsimp only
  have e2 : h.fuel.toNat = (h.fuel.toNat - 1) + 1 := by omega
  have e3 : mubN h.fuel.toNat h.fuel h.heat kk = mubN (h.fuel.toNat - 1) (h.fuel - (h.heat + 9) / 10) (if h.heat + 5 < 100 then h.heat + 5 else 100) (kk + 1) := by
    rw [e2, mubN, if_pos hf]
    simp
  rw [e3]
  by_cases z : 0 < h.fuel - (h.heat + 9) / 10
  · have e4 : mx 0 (h.fuel - (h.heat + 9) / 10) = h.fuel - (h.heat + 9) / 10 := by unfold mx; rw [if_pos z]
    rw [e4, if_pos z]
    refine ⟨by omega, by omega, fun _ => by unfold mn; split <;> omega, ?_⟩
    unfold mn
    exact mubN_any _ _ _ _ _ (Nat.le_refl _) (by omega) (by split <;> omega)
  · have e4 : mx 0 (h.fuel - (h.heat + 9) / 10) = 0 := by unfold mx; rw [if_neg z]
    rw [e4, if_neg (by decide)]
    refine ⟨by omega, by omega, fun y => absurd y (by decide), ?_⟩
    rw [mubN_le _ _ _ _ (by decide), mubN_le _ _ _ _ (by omega)]
section
variable {P : Program} {w : World} {K : PySem.W.Frag} {mg : Str → Option Value} {base : Heap}
/-- how long one burns by itself -/
theorem law_alone (T : Txt K mg base) {A : Around} {outer : List Env} {s : Shared} {H0 : Hp} {E0 : XK} (hr : Room 6 (A.deeper (envOfC d_law.qual d_law.scope s.heap.objs.size (He.fAd K d_law.at_) (.ref (He.codeOf K d_law.at_))))) :
    ∃ t, PS (bodyX P w K mg base N_law d_law A outer s H0 E0) ((subS ((d_law.body).getD 0 noS)).getD 3 noS) t ∧ ∀ (D : Ends) (H : Hp) (sc : V) (q r d o : Addr) (R : Hs) (fa fb ga gb : Str → Addr) (σ : L2.St), LSt sc (.ref q) (.ref r) (.ref o) σ → W3 K H q r d o R fa fb ga gb → Nm 8 100 R →
      (∀ (σ : L2.St) (H' : Hp), LSt sc (.ref q) (.ref r) (.ref o) σ → Tb (TL K) (TG K) H' → Go (TL K) (TG K) (fun _ => False) H H' → D.nx σ H') → t D σ H := by
  have hu := hu_of hr
  refine ⟨_, (ps_lock (ps_for (passes_of rfl) rfl (pi_keys (pv 6)) (pg_name (i := 4) sc_law.nd rfl (by first | exact Or.inl rfl | exact Or.inr rfl)) (pss_cons (ps_par (i := 12) (j := 13) rfl sc_law.nd rfl rfl (by decide) rfl rfl (pa_cons (pe_disp (pps_cons pe_str (pe_lst (pa_cons (pe_ix ix_list (pe_dget hu (pv 6) (pv 4) (fun _ _ => rfl)) pe_int (fun _ _ => rfl)) (pa_cons (pe_ix ix_list (pe_dget hu (pv 6) (pv 4) (fun _ _ => rfl)) pe_int (fun _ _ => rfl)) (pa_cons (pe_callB (call_max2 rfl) (by rfl) T.fr_max (by decide +kernel) (pa_cons pe_int (pa_cons (pe_ix ix_list (pe_dget hu (pv 6) (pv 4) (fun _ _ => rfl)) pe_int (fun _ _ => rfl)) pa_nil))) (pa_cons (pe_lst pa_nil) pa_nil))))) pps_nil) (by rfl) (by rfl) (fun z => by cases z) (by decide)) (pa_cons pe_int pa_nil)) (by rfl))
        (pss_cons (ps_while (passes_of rfl) (pt_cmpR op_gt (pe_ix ix_list (pe_dget hu (pv 12) pe_str (fun _ _ => rfl)) pe_int (fun _ _ => rfl)) pe_int (nomark _)) (pss_one (ps_set (i := 13) sc_law.nd rfl (by first | exact Or.inl rfl | exact Or.inr rfl) (pe_op op_add (pv 13) (pe_callTy call_int1 (by rfl) T.fr_int (by decide +kernel) (pa_cons (pe_cmpR (op_eqD hr.units) (pg_call (ok_law_burn T) (hr.mono (by decide)) rfl T.gl_law_burn px (pa_cons (pv 12) (pa_cons pe_dnewK pa_nil))) (pe_lst pa_nil) (nomark _)) pa_nil))))))
        (pss_one (ps_if (PW.pt (pw_or (pt_cmpR op_ne (pg_meth (ok_Row_minutes_until_burnt T) (hr.mono (by decide)) T.cl_Row T.me_Row_minutes_until_burnt px (pv 5) (pa_cons (pv 4) pa_nil)) (pv 13) (nomark _)) (pw_or1 (pt_cmpR (op_neD hr.units) (pg_meth (ok_Row_house T) (hr.mono (by decide)) T.cl_Row T.me_Row_house px (pv 5) (pa_cons (pv 4) pa_nil)) (pe_dget hu (pv 6) (pv 4) (fun _ _ => rfl)) (nomark _))))) (pss_one (ps_ret pe_bl)) pss_nil)))))), fun D H sc q r d o R fa fb ga gb σ hσ W N k => ?_⟩
  obtain ⟨x2, x3, x4, x7, x8, x9, x10, x11, x12, x13, x14, x15, x16, rfl⟩ := hσ
  refine ⟨o, _, W.own.dc, trivial, fun od => ?_⟩
  walk_at "v"
  have wk := walk_keysV (d := o) (o := od) (kvs := R.map fun p => ((Sum.inr p.1 : Key), V.ref (ga p.1)))
  rw [names_kvS] at wk
  have gl : Go (TL K) (TG K) (fun a => a = o) H (upd H o (.frz od (.dK (R.map fun p => ((Sum.inr p.1 : Key), V.ref (ga p.1)))))) := Go.set W.own.dc plain_dK rfl
  have eo : upd H o (.frz od (.dK (R.map fun p => ((Sum.inr p.1 : Key), V.ref (ga p.1))))) o = some (.frz od (.dK (R.map fun p => ((Sum.inr p.1 : Key), V.ref (ga p.1))))) := upd_same
  have gu : ∀ H', Go (TL K) (TG K) (fun _ => False) (upd H o (.frz od (.dK (R.map fun p => ((Sum.inr p.1 : Key), V.ref (ga p.1)))))) H' → Go (TL K) (TG K) (fun _ => False) H (upd H' o (.dK (R.map fun p => ((Sum.inr p.1 : Key), V.ref (ga p.1))))) := fun H' g => g.unlock W.own.dc plain_dK (g.get eo)
  have rowL := W.row.go gl (by obtain ⟨⟨dx, h1⟩, _⟩ := W.row; exact ne_of h1 W.own.dc (by intro z; cases z)) (fun z => W.od z.symm) (fun p hp => ne_of (W.row.hs.row p hp) W.own.dc (by intro z; cases z)) (fun p hp => ne_of (W.row.hs.bes p hp) W.own.dc (by intro z; cases z))
  have rL : ∀ p ∈ R, upd H o (.frz od (.dK (R.map fun p => ((Sum.inr p.1 : Key), V.ref (ga p.1))))) (ga p.1) = some (.lst (hvals p.2 (gb p.1))) := fun p hp => gl.keep _ _ (W.own.row p hp) (by intro _ z; cases z) (ne_of (W.own.row p hp) W.own.dc (by intro z; cases z))
  have bL : ∀ p ∈ R, upd H o (.frz od (.dK (R.map fun p => ((Sum.inr p.1 : Key), V.ref (ga p.1))))) (gb p.1) = some (.lst (p.2.beside.map V.str)) := fun p hp => gl.keep _ _ (W.own.bes p hp) (by intro _ z; cases z) (ne_of (W.own.bes p hp) W.own.dc (by intro z; cases z))
  have tbL := gl.tb W.tb
  refine ⟨o, od, rfl, .inl ⟨_, eo, ?_⟩⟩
  generalize upd H o (.frz od (.dK (R.map fun p => ((Sum.inr p.1 : Key), V.ref (ga p.1))))) = Hl at gl eo gu rowL rL bL tbL ⊢
  refine for_fold V.str (R.map (·.1)) (by rw [List.length_map, List.length_map]) wk (fun (u : Unit) _ => u) () (fun _ σ H' => LSt sc (.ref q) (.ref r) (.ref o) σ ∧ Go (TL K) (TG K) (fun _ => False) Hl H') ⟨⟨_, _, _, _, _, _, _, _, _, _, _, _, _, rfl⟩, .refl⟩ (fun _ σ H' h => h.2.get eo) ?_ ?_
  · rintro pre n post σ H1 eb ⟨⟨x2, x3, x4, x7, x8, x9, x10, x11, x12, x13, x14, x15, x16, rfl⟩, g1⟩
    have kn : n ∈ R.map (·.1) := by rw [eb]; simp
    obtain ⟨h, e⟩ := look_key kn W.own.nd
    have hR := look_mem e
    have gdAt : ∀ J, Go (TL K) (TG K) (fun _ => False) Hl J → DGet J o (.str n) (some (.ref (ga n))) ∧ J (ga n) = some (.lst (hvals h (gb n))) := fun J g => by
      have q := DGet.kr (k := Sum.inr n) (.inr ⟨od, g.get eo⟩)
      rw [val_look, e] at q
      exact ⟨q, g.get (rL _ hR)⟩
    refine fun a ha0 => ?_
    have gA := g1.trans (Go.new (o := .dK []) ha0)
    obtain ⟨gd, er⟩ := gdAt _ gA
    walk_at "v"; walk_at "v"
    refine ⟨_, _, rfl, gd, ?_⟩
    refine ⟨_, _, _, _, rfl, rfl, SqL.of er, rfl, ?_⟩
    walk_at "v"; walk_at "v"
    refine ⟨_, _, rfl, gd, ?_⟩
    refine ⟨_, _, _, _, rfl, rfl, SqL.of er, rfl, ?_⟩
    walk_at "v"; walk_at "v"
    refine ⟨_, _, rfl, gd, ?_⟩
    refine ⟨_, _, _, _, rfl, rfl, SqL.of er, rfl, ?_⟩
    refine ⟨_, _, rfl, ?_⟩
    refine ⟨(by decide), fun b2 hb2 => ?_⟩
    refine ⟨(by show 4 ≤ sizeLine; decide), fun l hl => ?_⟩
    have hl' := (upd_none.mp hl).2
    have nal : a ≠ l := ne_of_none upd_same hl'
    have nab : a ≠ b2 := ne_of_none upd_same hb2
    refine ⟨by rw [upd_ne nal, upd_ne nab]; exact upd_same, [(Sum.inr "x", .ref l)], rfl, (by show 1 ≤ 15; decide), ?_⟩
    have em : mergeK [] [((Sum.inr "x" : Key), V.ref l)] = (alone1 ⟨h.corner, h.fuel, if h.heat > 10 then h.heat else 10, []⟩).map fun p => (Sum.inr p.1, V.ref ((fun _ => l) p.1)) := by
      rw [mergeK_nodup _ _ (by simp)]
      rfl
    rw [em]
    have gB := ((gA.trans (Go.new (o := .lst []) hb2)).trans (Go.new (o := .lst [.str h.corner, .int h.fuel, .int (if h.heat > 10 then h.heat else 10), .ref b2]) hl))
    have ea : upd (upd (upd H1 a (.dK [])) b2 (.lst [])) l (.lst [.str h.corner, .int h.fuel, .int (if h.heat > 10 then h.heat else 10), .ref b2]) a = some (.dK []) := by rw [upd_ne nal, upd_ne nab]; exact upd_same
    have eb2 : upd (upd (upd H1 a (.dK [])) b2 (.lst [])) l (.lst [.str h.corner, .int h.fuel, .int (if h.heat > 10 then h.heat else 10), .ref b2]) b2 = some (.lst []) := by rw [upd_ne (ne_of_none upd_same hl)]; exact upd_same
    have el : upd (upd (upd H1 a (.dK [])) b2 (.lst [])) l (.lst [.str h.corner, .int h.fuel, .int (if h.heat > 10 then h.heat else 10), .ref b2]) l = some (.lst [.str h.corner, .int h.fuel, .int (if h.heat > 10 then h.heat else 10), .ref b2]) := upd_same
    have fa0 : Hl a = none := g1.free a ha0
    generalize upd (upd (upd H1 a (.dK [])) b2 (.lst [])) l (.lst [.str h.corner, .int h.fuel, .int (if h.heat > 10 then h.heat else 10), .ref b2]) = H4 at gB ea eb2 el ⊢
    have D4 : HsAt (upd H4 a (.dK ((alone1 ⟨h.corner, h.fuel, if h.heat > 10 then h.heat else 10, []⟩).map fun p => ((Sum.inr p.1 : Key), V.ref ((fun _ => l) p.1))))) a (alone1 ⟨h.corner, h.fuel, if h.heat > 10 then h.heat else 10, []⟩) (fun _ => l) (fun _ => b2) :=
      ⟨upd_same, fun p hp => by rw [List.mem_singleton.mp hp, upd_ne nal.symm]; exact el, fun p hp => by rw [List.mem_singleton.mp hp, upd_ne nab.symm]; exact eb2, by simp⟩
    have gC : Go (TL K) (TG K) (fun _ => False) Hl (upd H4 a (.dK ((alone1 ⟨h.corner, h.fuel, if h.heat > 10 then h.heat else 10, []⟩).map fun p => ((Sum.inr p.1 : Key), V.ref ((fun _ => l) p.1))))) :=
      Go.drop (S := fun b => b = a) (gB.wide.trans (Go.set ea plain_dK rfl)) fun b z => .inr (by rw [z]; exact fa0)
    generalize upd H4 a (.dK ((alone1 ⟨h.corner, h.fuel, if h.heat > 10 then h.heat else 10, []⟩).map fun p => ((Sum.inr p.1 : Key), V.ref ((fun _ => l) p.1)))) = H5 at D4 gC ⊢
    refine ⟨_, _, rfl, ?_⟩
    refine ⟨fun m σ H' => ∃ (h' : House) (kk : Int) (ga' : Str → Addr), m = h'.fuel.toNat ∧ h'.beside = [] ∧ (0 < h'.fuel → 10 ≤ h'.heat) ∧ 0 ≤ h'.fuel ∧ mubN h'.fuel.toNat h'.fuel h'.heat kk = mub h ∧ HsAt H' a (alone1 h') ga' (fun _ => b2) ∧ Go (TL K) (TG K) (fun _ => False) Hl H' ∧
      σ = [some sc, some (.ref q), x2, x3, some (.str n), some (.ref r), some (.ref o), x7, x8, x9, x10, x11, some (.ref a), some (.int kk), x14, x15, x16], ⟨_, ⟨h.corner, h.fuel, if h.heat > 10 then h.heat else 10, []⟩, 0, _, rfl, rfl, fun _ => ?_, W.fu _ hR, ?_, D4, gC, rfl⟩, ?_⟩
    · dsimp only
      split <;> omega
    · unfold mub
      dsimp only
      congr 1
      split <;> split <;> omega
    rintro m σ H6 ⟨h', kk, ga', rfl, hbe, hh, hf, hm, D6, g6, rfl⟩
    have lx : (alone1 h').lookup ("x" : Str) = some h' := by simp [List.lookup_cons]
    walk_at "v"
    refine ⟨a, _, rfl, D6.get lx, ?_⟩
    refine ⟨_, _, _, _, rfl, rfl, SqL.of (D6.at_ lx), rfl, ?_⟩
    walk_at "go"
    by_cases z : 0 < h'.fuel
    · rw [decide_eq_true z]
      refine ⟨_, fun σ' H' q => q, ?_⟩
      walk_at "v"; walk_at "v"
      refine fun wd hwd => ?_
      have D7 := D6.go (Go.new (TL := TL K) (TG := TG K) (S := fun _ => False) (o := .dK []) hwd) id (fun _ _ => id) (fun _ _ => id)
      obtain ⟨ab1, ab2⟩ := alone_burn h' hbe
      obtain ⟨s1, s2, s3, s4⟩ := alone_step h' z (hh z) kk
      refine ⟨a, wd, alone1 h', ga', fun _ => b2, [], rfl, D7, upd_same, (ne_of_none D6.dc hwd).symm, ⟨fun p hp x hx => ?_, fun p hp => ?_, by show 1 ≤ 1000; decide⟩, fun p hp => ?_, fun p ga2 H8 hp ep D8 f8 g8 => ?_⟩
      · rw [List.mem_singleton.mp hp, hbe] at hx
        cases hx
      · rw [List.mem_singleton.mp hp, hbe]
        decide
      · rw [List.mem_singleton.mp hp]
        exact hf
      rw [ab1] at ep
      rw [ab2, if_pos (by have := hh z; omega)] at D8
      refine ⟨(by decide), fun e2 he2 => ?_⟩
      have se : SeqAt.shaped (PyData.list []) = true := PySem.W.shaped_ints []
      refine ⟨.list [], .list [], .lst (SqL.of (by rw [upd_ne (ne_of_none ep he2)]; exact ep)) .nil, .lst (SqL.of upd_same) .nil, se, se, ?_⟩
      rw [eqv_same se]
      refine .inr ⟨_, rfl, ?_⟩
      walk_at "go"
      have fa6 : Hl a = none := fa0
      have D9 := D8.go (Go.new (TL := TL K) (TG := TG K) (S := fun _ => False) (o := .lst []) he2) id (fun _ _ => id) (fun _ _ => id)
      refine ⟨_, s1, burn1 0 h', kk + 1, ga2, rfl, by rw [burn1_beside]; exact hbe, s3, s2, by rw [s4]; exact hm, D9, Go.drop (S := fun b => b = a) (((g6.wide.trans (Go.new hwd)).trans g8).trans (Go.new he2)) fun b z => .inr (by rw [z]; exact fa0), rfl⟩
    · rw [decide_eq_false z]
      have ek : kk = mub h := by
        rw [← hm, mubN_le _ _ _ _ (by omega)]
      have row6 := rowL.go g6 id id (fun _ _ => id) (fun _ _ => id)
      obtain ⟨⟨dx6, h6⟩, _, _, _⟩ := id row6
      obtain ⟨gd6, er6⟩ := gdAt _ g6
      show (if false = true then _ else _)
      refine iteF ?_
      walk_at "v"
      refine ⟨_, _, _, rfl, h6, rfl, ?_⟩
      walk_at "v"
      refine ⟨r, d, R, fa, fb, n, rfl, row6, fun e' => absurd (e'.symm.trans e) (by intro z; cases z), fun h'' e' => ?_⟩
      obtain rfl : h = h'' := Option.some.inj (e.symm.trans e')
      walk_at "v"
      refine ⟨rfl, ?_⟩
      refine ⟨_, rfl, ?_⟩
      refine ite2 (fun y => ?_) (fun _ => ?_)
      · rw [ek, decide_eq_true rfl] at y
        cases y
      walk_at "v"
      refine ⟨_, _, _, rfl, h6, rfl, ?_⟩
      walk_at "v"
      refine ⟨r, d, R, fa, fb, n, rfl, row6, fun h'' e' => ?_, fun e' => absurd (e'.symm.trans e) (by intro z; cases z)⟩
      obtain rfl : h = h'' := Option.some.inj (e.symm.trans e')
      walk_at "v"; walk_at "v"
      refine ⟨_, _, rfl, gd6, ?_⟩
      have sh : SeqAt.shaped (hdata h) = true := shaped_row (ab_str (N.cor _ hR)) (bes_ok N (by decide) W.wf _ hR)
      refine ⟨hdata h, hdata h, dp_row (row6.hs.row _ hR) (row6.hs.bes _ hR), dp_row er6 (g6.get (bL _ hR)), sh, sh, ?_⟩
      rw [eqv_same sh]
      exact ⟨_, rfl, iteF ⟨⟨_, _, _, _, _, _, _, _, _, _, _, _, _, rfl⟩, g6⟩⟩
  · rintro σ H1 ⟨hσ, g1⟩
    exact ⟨g1.get eo, k σ _ hσ ((gu _ g1).tb W.tb) (gu _ g1)⟩
end
end K3
namespace K3
open PySem PySem.Spec PyProof.Rows L2 Fy
open GxR (TabG Tabbed)
section
variable {P : Program} {w : World} {K : PySem.W.Frag} {mg : Str → Option Value} {base : Heap}
/-- the loop over the dice -/
theorem law_outer (T : Txt K mg base) {A : Around} {outer : List Env} {s : Shared} {H0 : Hp} {E0 : XK} (hr : Room 6 (A.deeper (envOfC d_law.qual d_law.scope s.heap.objs.size (He.fAd K d_law.at_) (.ref (He.codeOf K d_law.at_))))) :
    ∃ t, PS (bodyX P w K mg base N_law d_law A outer s H0 E0) ((d_law.body).getD 0 noS) t ∧ ∀ (D : Ends) (H : Hp) (sa : Addr) (ns : List Int) (x1 x2 x3 x4 x5 x6 x7 x8 x9 x10 x11 x12 x13 x14 x15 x16 : Option V), SqL K H sa (ns.map V.int) → Tb (TL K) (TG K) H →
      (∀ (x1 x2 x3 x4 x5 x6 x7 x8 x9 x10 x11 x12 x13 x14 x15 x16 : Option V) (H' : Hp), Tb (TL K) (TG K) H' → D.nx [some (.ref sa), x1, x2, x3, x4, x5, x6, x7, x8, x9, x10, x11, x12, x13, x14, x15, x16] H') →
      t D [some (.ref sa), x1, x2, x3, x4, x5, x6, x7, x8, x9, x10, x11, x12, x13, x14, x15, x16] H := by
  have hu := hu_of hr
  obtain ⟨tb, pb, rb⟩ := law_build (P := P) (w := w) (E0 := E0) (H0 := H0) T hr
  obtain ⟨tst, pst, rst⟩ := law_steps (P := P) (w := w) (E0 := E0) (H0 := H0) T hr
  obtain ⟨tal, pal, ral⟩ := law_alone (P := P) (w := w) (E0 := E0) (H0 := H0) T hr
  refine ⟨_, (ps_for (passes_of rfl) rfl (pi_list (pg_call (ok_law_rounds T) (hr.mono (by decide)) rfl T.gl_law_rounds px (pa_cons (pv 0) (pa_cons pe_int pa_nil)))) (pg_name (i := 1) sc_law.nd rfl (by first | exact Or.inl rfl | exact Or.inr rfl)) (pss_cons (ps_asg (pe_tup (pa_cons (pg_make0 T.mk_Row (ok_Row_init T) (hr.mono (by decide)) rfl T.gl_Row px) (pa_cons pe_dnewK pa_nil))) (pg_tup rfl (pgs_cons (pg_name (i := 5) sc_law.nd rfl (by first | exact Or.inl rfl | exact Or.inr rfl)) (pgs_cons (pg_name (i := 6) sc_law.nd rfl (by first | exact Or.inl rfl | exact Or.inr rfl)) pgs_nil))))
        (pss_cons pb
        (pss_cons pst
        (pss_one pal))))), fun D H sa ns x1 x2 x3 x4 x5 x6 x7 x8 x9 x10 x11 x12 x13 x14 x15 x16 hs tB k => ?_⟩
  walk_at "v"
  refine ⟨sa, ns, rfl, hs, fun p q H1 ep eq npq fq g1 => ?_⟩
  refine ⟨p, rfl, ⟨_, SqL.of ep⟩, for_fold V.ref [q] rfl walk_itl (fun _ _ => true) false
    (fun st σ H' => (∃ x1 x2 x3 x4 x5 x6 x7 x8 x9 x10 x11 x12 x13 x14 x15 x16 : Option V, σ = [some (.ref sa), x1, x2, x3, x4, x5, x6, x7, x8, x9, x10, x11, x12, x13, x14, x15, x16]) ∧ Tb (TL K) (TG K) H' ∧ H' p = some (.lst [.ref q]) ∧ (st = false → H' = H1))
    ⟨⟨_, _, _, _, _, _, _, _, _, _, _, _, _, _, _, _, rfl⟩, g1.tb tB, ep, fun _ => rfl⟩ (fun _ σ H' h => SqL.of h.2.2.1) ?_ ?_⟩
  · intro pre y post σ H2 ey h
    have ep2 : pre = [] := by
      cases pre with
      | nil => rfl
      | cons _ t => exact absurd (congrArg List.length ey) (by simp)
    subst ep2
    injection ey with ey _
    subst ey
    obtain ⟨⟨x1, x2, x3, x4, x5, x6, x7, x8, x9, x10, x11, x12, x13, x14, x15, x16, rfl⟩, _, _, eH⟩ := h
    obtain rfl := eH rfl
    refine fun r dx hr0 hdx ndr => ?_
    have gm : Go (TL K) (TG K) (fun _ => False) H2 (upd (upd H2 dx (.own r)) r (.ins (CRow K) dx [])) := (Go.new hdx).trans (Go.new (by rw [upd_ne ndr.symm]; exact hr0))
    refine ⟨r, dx, rfl, upd_same, fun d H3 hd e1 e2 g => ⟨rfl, ?_⟩⟩
    have g3 : Go (TL K) (TG K) (fun _ => False) H2 H3 := (gm.wide.trans g).drop fun b z => .inr (by rw [z]; exact hr0)
    refine fun o ho => ?_
    have g4 := g3.trans (Go.new (o := .dK []) ho)
    have f1 : upd H3 o (.dK []) r = some (.ins (CRow K) dx [("houses", .ref d)]) := by rw [upd_ne (ne_of_none e1 ho)]; exact e1
    have f2 : upd H3 o (.dK []) d = some (.dK []) := by rw [upd_ne (ne_of_none e2 ho)]; exact e2
    have f3 : upd H3 o (.dK []) o = some (.dK []) := upd_same
    have nod : o ≠ d := (ne_of_none e2 ho).symm
    generalize upd H3 o (.dK []) = H4 at g4 f1 f2 f3 ⊢
    refine ⟨(by show 2 ≤ sizeLine; decide), fun t ht => ?_⟩
    have g5 := g4.trans (Go.new (o := .tup [.ref r, .ref o]) ht)
    have f4 : upd H4 t (.tup [.ref r, .ref o]) t = some (.tup [.ref r, .ref o]) := upd_same
    have k1 : ∀ b u, H4 b = some u → upd H4 t (.tup [.ref r, .ref o]) b = some u := fun b u e => by rw [upd_ne (ne_of_none e ht)]; exact e
    have f5 := k1 _ _ f1
    have f6 := k1 _ _ f2
    have f7 := k1 _ _ f3
    generalize upd H4 t (.tup [.ref r, .ref o]) = H5 at g5 f4 f5 f6 f7 ⊢
    have W5 : W3 K H5 q r d o [] (fun _ => 0) (fun _ => 0) (fun _ => 0) (fun _ => 0) :=
      ⟨⟨⟨dx, f5⟩, ⟨f6, fun _ z => (by cases z), fun _ z => (by cases z), .nil⟩, fun _ z => (by cases z), fun _ z => (by cases z)⟩, ⟨f7, fun _ z => (by cases z), fun _ z => (by cases z), .nil⟩, ⟨_, g5.get eq⟩, nod, fun _ z => (by cases z), fun _ z => (by cases z), ⟨fun _ z => (by cases z), fun _ z => (by cases z), by decide⟩, fun _ z => (by cases z), g5.tb (g1.tb tB)⟩
    have ep5 := g5.get ep
    refine ⟨t, _, rfl, SqT.of f4, rfl, ?_⟩
    refine ⟨_, _, rfl, _, _, rfl, rfl, ?_⟩
    have npc : ∀ u, H5 p = some u → u = .lst [.ref q] := fun u e => Option.some.inj (e.symm.trans ep5)
    refine rb _ H5 (.ref sa) q r d o _ _ _ _ _ ⟨_, _, _, _, _, _, _, _, _, _, _, _, _, rfl⟩ W5 fun R fa fb ga gb σ H6 hσ W6 N6 g6 => ?_
    have ep6 : H6 p = some (.lst [.ref q]) := g6.keep _ _ ep5 (by intro _ z; cases z) fun z => by
      rcases z with z | z | z
      · exact npq z
      · exact ne_of ep5 f6 (by intro z; cases z) z
      · exact ne_of ep5 f7 (by intro z; cases z) z
    refine rst _ H6 (.ref sa) q r d o R fa fb ga gb σ hσ W6 N6 fun R' ga' σ' H7 hσ' W7 N7 g7 => ?_
    have ep7 : H7 p = some (.lst [.ref q]) := g7.keep _ _ ep6 (by intro _ z; cases z) fun z => by
      rcases z with z | z | ⟨x, hx, z⟩
      · exact npq z
      · exact ne_of ep6 W6.own.dc (by intro z; cases z) z
      · refine ne_of ep6 (W6.row.hs.row x hx) (fun z => ?_) z
        injection z with z
        exact absurd (congrArg List.length z) (by simp [hvals])
    refine ral _ H7 (.ref sa) q r d o R' fa fb ga' gb σ' hσ' W7 N7 fun σ'' H8 hσ'' t8 g8 => ?_
    obtain ⟨y2, y3, y4, y7, y8, y9, y10, y11, y12, y13, y14, y15, y16, rfl⟩ := hσ''
    exact ⟨⟨_, _, _, _, _, _, _, _, _, _, _, _, _, _, _, _, rfl⟩, t8, g8.get ep7, fun z => by cases z⟩
  · rintro σ H2 ⟨⟨x1, x2, x3, x4, x5, x6, x7, x8, x9, x10, x11, x12, x13, x14, x15, x16, rfl⟩, t2, _, _⟩
    exact k _ _ _ _ _ _ _ _ _ _ _ _ _ _ _ _ H2 t2
end
end K3
namespace K3
open PySem PySem.Spec PyProof.Rows L2 Fy
open GxR (TabG Tabbed)
def h60 : House := ⟨"a", 5, 0, []⟩
def Rk (k : Nat) : Hs := (List.range k).map fun j => (hn j, h60)
theorem Rk_succ (k : Nat) : Rk (k + 1) = Rk k ++ [(hn k, h60)] := by
  unfold Rk
  rw [List.range_succ, List.map_append]
  rfl
theorem Rk_len (k : Nat) : (Rk k).length = k := by
  unfold Rk
  rw [List.length_map, List.length_range]
theorem Rk_mem {k : Nat} {p : Str × House} (h : p ∈ Rk k) : p.2 = h60 ∧ ∃ j, j < k ∧ p.1 = hn j := by
  unfold Rk at h
  obtain ⟨j, hj, rfl⟩ := List.mem_map.mp h
  exact ⟨rfl, j, List.mem_range.mp hj, rfl⟩
theorem Rk_none {k : Nat} (h : k < 60) : (Rk k).lookup (hn k) = none := by
  cases e : (Rk k).lookup (hn k) with
  | none => rfl
  | some x =>
    obtain ⟨_, j, hj, ej⟩ := Rk_mem (look_mem e)
    have := hn_inj k h j (by omega) ej
    omega
theorem build_Rk (k : Nat) : buildS (Rk k) (hn k) "a" 5 [] = Rk (k + 1) := by
  rw [Rk_succ]
  rfl
theorem hn_no : ∀ k, k < 60 → ¬ hn k = "x" ∧ ¬ hn k = "z" ∧ ¬ hn k = "y" := by decide +kernel
theorem R60_no {n : Str} (h : ∀ k, k < 60 → ¬ hn k = n) : (Rk 60).lookup n = none := by
  cases e : (Rk 60).lookup n with
  | none => rfl
  | some x =>
    obtain ⟨_, j, hj, ej⟩ := Rk_mem (look_mem e)
    exact absurd ej.symm (h j hj)
theorem R60_wf : WfR (Rk 60) := by
  refine ⟨fun p hp x hx => ?_, fun p hp => ?_, by rw [Rk_len]; decide⟩
  · rw [(Rk_mem hp).1] at hx
    cases hx
  · rw [(Rk_mem hp).1]
    decide
/-- cold houses with nothing beside them -/
theorem cold_burning {R : Hs} (h : ∀ p ∈ R, p.2.heat = 0) : burningS R = [] := by
  unfold burningS namesBy
  refine List.filter_eq_nil_iff.mpr fun n hn => ?_
  cases e : R.lookup n with
  | none => simp
  | some x =>
    have := h _ (look_mem e)
    simp at this
    simp [this]
theorem cold_fresh {R : Hs} (h : ∀ p ∈ R, p.2.beside = []) : freshS R = [] := by
  unfold freshS namesBy
  refine List.filter_eq_nil_iff.mpr fun n hn => ?_
  cases e : R.lookup n with
  | none => simp
  | some x =>
    have hb := h _ (look_mem e)
    have : freshQ R x = false := by
      unfold freshQ topTwo
      rw [show x.beside = [] from hb]
      have : sortI (([] : List Str).map (heatOf R)) = [] := List.mergeSort_nil
      rw [this]
      simp
    simp [this]
theorem cold_heat {R : Hs} (h : ∀ p ∈ R, p.2.heat = 0) (c : Str) : heatAt R c = 0 := by
  unfold heatAt
  induction R with
  | nil => rfl
  | cons p r ih =>
    have h1 := h p List.mem_cons_self
    have h2 := ih fun q hq => h q (List.mem_cons_of_mem _ hq)
    rw [List.filter_cons]
    split
    · rw [List.map_cons, List.sum_cons, h1, h2] <;> rfl
    · exact h2
theorem R60_burn (W : Wt) : burnAll (Rk 60) W = Rk 60 := by
  unfold burnAll
  rw [cold_burning fun p hp => by rw [(Rk_mem hp).1] <;> rfl]
  rfl
theorem R60_fresh : freshS (Rk 60) = [] := cold_fresh fun p hp => by rw [(Rk_mem hp).1] <;> rfl
theorem R60_min (W : Wt) : minR (Rk 60) W = Rk 60 := by
  unfold minR
  rw [R60_burn, R60_fresh]
  rfl
theorem hn0 : hn 0 = ("h0" : Str) := by decide +kernel
theorem R60_h0 (nd : ((Rk 60).map (·.1)).Nodup) : (Rk 60).lookup ("h0" : Str) = some h60 :=
  mem_look nd (List.mem_map.mpr ⟨0, List.mem_range.mpr (by decide), by rw [hn0]⟩)
theorem mub_h60 : mub h60 = 3 := by decide
end K3
namespace K3
open PySem PySem.Spec PyProof.Rows L2 Fy
open GxR (TabG Tabbed)
/-- where the program's sixty houses stand -/
def G3 (K : PySem.W.Frag) : L2.St → Hp → Prop := fun σ H => ∃ (r d : Addr) (fa fb : Str → Addr), σ[5]? = some (some (.ref r)) ∧ RowAt (CRow K) H r d (Rk 60) fa fb ∧ Tb (TL K) (TG K) H
section
variable {P : Program} {w : World} {K : PySem.W.Frag} {mg : Str → Option Value} {base : Heap}
theorem RowAt.drp {C : Addr} {H : Hp} {r d f : Addr} {R : Hs} {fa fb : Str → Addr} {φ : Heap → Prop} (hf : H f = some (.ext φ)) (D : RowAt C H r d R fa fb) : RowAt C (drp H f) r d R fa fb := by
  obtain ⟨⟨dx, h1⟩, hs, ia, ib⟩ := D
  exact ⟨⟨dx, drp_get hf h1 (fun _ z => by cases z)⟩, ⟨drp_get hf hs.dc (fun _ z => by cases z), fun p hp => drp_get hf (hs.row p hp) (fun _ z => by cases z), fun p hp => drp_get hf (hs.bes p hp) (fun _ z => by cases z), hs.nd⟩, ia, ib⟩
theorem G3.drp {σ : L2.St} {H : Hp} {f : Addr} {φ : Heap → Prop} (hf : H f = some (.ext φ)) (hc : ∀ c q, H c = some (LamX.CodeO c q) → c ≠ f) (g : G3 K σ H) : G3 K σ (Fy.drp H f) := by
  obtain ⟨r, d, fa, fb, h1, D, tb⟩ := g
  exact ⟨r, d, fa, fb, h1, D.drp hf, drp_tb hf hc tb⟩
theorem law_bad0 (T : Txt K mg base) {A : Around} {outer : List Env} {s : Shared} {H0 : Hp} {E0 : XK} :
    ∃ t : XK → TE, (∀ (A' : Around) (outer' : List Env) (s' : Shared) (H : Hp) (E : XK) (f c' : Addr), Room 3 (A'.deeper (LamX.lamEnv (bodyX P w K mg base N_law d_law A outer s H0 E0) (lamSc d_law.scope ((d_law.body).getD 3 noS) 0) s'.heap.objs.size f c')) → PE (LamX.lamCx (bodyX P w K mg base N_law d_law A outer s H0 E0) A' outer' s' H E (lamSc d_law.scope ((d_law.body).getD 3 noS) 0) f c') (lamB ((d_law.body).getD 3 noS) 0) (t E)) ∧
      isBad (bodyX P w K mg base N_law d_law A outer s H0 E0) (CErr K) "BlazeError" (G3 K) (TL K) (TG K) t := by
  refine ⟨_, fun A' outer' s' H E f c' hr2 => (pg_meth (ok_Row_build4 T) (hr2.mono (by decide)) T.cl_Row T.me_Row_build pxl (pv 5) (pa_cons pe_str (pa_cons pe_str (pa_cons pe_int pa_nil)))), fun σ H Q hG k => ?_⟩
  · obtain ⟨r, d, fa, fb, hσ, D, tb⟩ := hG
    obtain ⟨⟨dx, h1⟩, hs, ia, ib⟩ := id D
    refine ⟨_, hσ, ?_⟩
    refine ⟨_, _, _, rfl, h1, rfl, ?_⟩
    refine ⟨r, d, Rk 60, fa, fb, "x", "a", 5, _, [], rfl, D, tb, .inr fun H' _ => etB_ok T.et_Row_build H', fun p hp => by rw [(Rk_mem hp).1]; decide, by decide, fun _ H' g => ⟨true, T.em_BlazeError_BlazeError, fun _ => k _ (g), fun z => by cases z⟩, fun z => absurd z (by simp [canBuild, Rk_len])⟩
theorem law_lam0 (T : Txt K mg base) {A : Around} {outer : List Env} {s : Shared} {H0 : Hp} {E0 : XK} :
    ∃ M : LamK (bodyX P w K mg base N_law d_law A outer s H0 E0) 3, PE (bodyX P w K mg base N_law d_law A outer s H0 E0) (lamL ((d_law.body).getD 3 noS) 0) (tLamM (bodyX P w K mg base N_law d_law A outer s H0 E0) (TL K) (TG K) M) ∧ isBad (bodyX P w K mg base N_law d_law A outer s H0 E0) (CErr K) "BlazeError" (G3 K) (TL K) (TG K) M.t := by
  obtain ⟨t, p, b⟩ := law_bad0 (P := P) (w := w) (A := A) (outer := outer) (s := s) (E0 := E0) (H0 := H0) T
  have L : LamX.LamS d_law.scope (lamSc d_law.scope ((d_law.body).getD 3 noS) 0) := LamX.lamS_by (by decide +kernel)
  exact ⟨⟨lamP d_law.params ((d_law.body).getD 3 noS) 0, lamB ((d_law.body).getD 3 noS) 0, lamSc d_law.scope ((d_law.body).getD 3 noS) 0, t, L, fun _ _ _ _ _ => rfl, p⟩, pe_lamV T.tb_law rfl T.tm_law T.tu_law T.tn_law L rfl, b⟩
theorem law_bad1 (T : Txt K mg base) {A : Around} {outer : List Env} {s : Shared} {H0 : Hp} {E0 : XK} :
    ∃ t : XK → TE, (∀ (A' : Around) (outer' : List Env) (s' : Shared) (H : Hp) (E : XK) (f c' : Addr), Room 3 (A'.deeper (LamX.lamEnv (bodyX P w K mg base N_law d_law A outer s H0 E0) (lamSc d_law.scope ((d_law.body).getD 3 noS) 1) s'.heap.objs.size f c')) → PE (LamX.lamCx (bodyX P w K mg base N_law d_law A outer s H0 E0) A' outer' s' H E (lamSc d_law.scope ((d_law.body).getD 3 noS) 1) f c') (lamB ((d_law.body).getD 3 noS) 1) (t E)) ∧
      isBad (bodyX P w K mg base N_law d_law A outer s H0 E0) (CErr K) "BlazeError" (G3 K) (TL K) (TG K) t := by
  refine ⟨_, fun A' outer' s' H E f c' hr2 => (pg_meth (ok_Row_build4 T) (hr2.mono (by decide)) T.cl_Row T.me_Row_build pxl (pg_make0 T.mk_Row (ok_Row_init T) (hr2.mono (by decide)) rfl T.gl_Row pxl) (pa_cons pe_str (pa_cons pe_str (pa_cons pe_int pa_nil)))), fun σ H Q hG k => ?_⟩
  · obtain ⟨r, d, fa, fb, hσ, D, tb⟩ := hG
    obtain ⟨⟨dx, h1⟩, hs, ia, ib⟩ := id D
    refine fun r dx hr0 hdx ndr => ?_
    have gm : Go (TL K) (TG K) (fun _ => False) H (upd (upd H dx (.own r)) r (.ins (CRow K) dx [])) := (Go.new hdx).trans (Go.new (by rw [upd_ne ndr.symm]; exact hr0))
    refine ⟨r, dx, rfl, upd_same, fun d H3 hd e1 e2 g => ⟨rfl, ?_⟩⟩
    have g3 : Go (TL K) (TG K) (fun _ => False) H H3 := (gm.wide.trans g).drop fun b z => .inr (by rw [z]; exact hr0)
    have D3 : RowAt (CRow K) H3 r d [] (fun _ => 0) (fun _ => 0) := ⟨⟨dx, e1⟩, ⟨e2, fun _ z => (by cases z), fun _ z => (by cases z), .nil⟩, fun _ z => (by cases z), fun _ z => (by cases z)⟩
    have t3 := g3.tb tb
    refine ⟨_, _, _, rfl, e1, rfl, ?_⟩
    refine ⟨r, d, [], fun _ => 0, fun _ => 0, "", "a", 5, _, [], rfl, D3, t3, .inr fun H' _ => etB_ok T.et_Row_build H', fun p hp => (by cases hp), by decide, fun _ H' g => ⟨true, T.em_BlazeError_BlazeError, fun _ => k _ (g3.trans g), fun z => by cases z⟩, fun z => absurd z (by decide)⟩
theorem law_lam1 (T : Txt K mg base) {A : Around} {outer : List Env} {s : Shared} {H0 : Hp} {E0 : XK} :
    ∃ M : LamK (bodyX P w K mg base N_law d_law A outer s H0 E0) 3, PE (bodyX P w K mg base N_law d_law A outer s H0 E0) (lamL ((d_law.body).getD 3 noS) 1) (tLamM (bodyX P w K mg base N_law d_law A outer s H0 E0) (TL K) (TG K) M) ∧ isBad (bodyX P w K mg base N_law d_law A outer s H0 E0) (CErr K) "BlazeError" (G3 K) (TL K) (TG K) M.t := by
  obtain ⟨t, p, b⟩ := law_bad1 (P := P) (w := w) (A := A) (outer := outer) (s := s) (E0 := E0) (H0 := H0) T
  have L : LamX.LamS d_law.scope (lamSc d_law.scope ((d_law.body).getD 3 noS) 1) := LamX.lamS_by (by decide +kernel)
  exact ⟨⟨lamP d_law.params ((d_law.body).getD 3 noS) 1, lamB ((d_law.body).getD 3 noS) 1, lamSc d_law.scope ((d_law.body).getD 3 noS) 1, t, L, fun _ _ _ _ _ => rfl, p⟩, pe_lamV T.tb_law rfl T.tm_law T.tu_law T.tn_law L rfl, b⟩
theorem law_bad2 (T : Txt K mg base) {A : Around} {outer : List Env} {s : Shared} {H0 : Hp} {E0 : XK} :
    ∃ t : XK → TE, (∀ (A' : Around) (outer' : List Env) (s' : Shared) (H : Hp) (E : XK) (f c' : Addr), Room 3 (A'.deeper (LamX.lamEnv (bodyX P w K mg base N_law d_law A outer s H0 E0) (lamSc d_law.scope ((d_law.body).getD 3 noS) 2) s'.heap.objs.size f c')) → PE (LamX.lamCx (bodyX P w K mg base N_law d_law A outer s H0 E0) A' outer' s' H E (lamSc d_law.scope ((d_law.body).getD 3 noS) 2) f c') (lamB ((d_law.body).getD 3 noS) 2) (t E)) ∧
      isBad (bodyX P w K mg base N_law d_law A outer s H0 E0) (CErr K) "BlazeError" (G3 K) (TL K) (TG K) t := by
  refine ⟨_, fun A' outer' s' H E f c' hr2 => (pg_meth (ok_Row_build4 T) (hr2.mono (by decide)) T.cl_Row T.me_Row_build pxl (pg_make0 T.mk_Row (ok_Row_init T) (hr2.mono (by decide)) rfl T.gl_Row pxl) (pa_cons pe_str (pa_cons pe_str (pa_cons pe_int pa_nil)))), fun σ H Q hG k => ?_⟩
  · obtain ⟨r, d, fa, fb, hσ, D, tb⟩ := hG
    obtain ⟨⟨dx, h1⟩, hs, ia, ib⟩ := id D
    refine fun r dx hr0 hdx ndr => ?_
    have gm : Go (TL K) (TG K) (fun _ => False) H (upd (upd H dx (.own r)) r (.ins (CRow K) dx [])) := (Go.new hdx).trans (Go.new (by rw [upd_ne ndr.symm]; exact hr0))
    refine ⟨r, dx, rfl, upd_same, fun d H3 hd e1 e2 g => ⟨rfl, ?_⟩⟩
    have g3 : Go (TL K) (TG K) (fun _ => False) H H3 := (gm.wide.trans g).drop fun b z => .inr (by rw [z]; exact hr0)
    have D3 : RowAt (CRow K) H3 r d [] (fun _ => 0) (fun _ => 0) := ⟨⟨dx, e1⟩, ⟨e2, fun _ z => (by cases z), fun _ z => (by cases z), .nil⟩, fun _ z => (by cases z), fun _ z => (by cases z)⟩
    have t3 := g3.tb tb
    refine ⟨_, _, _, rfl, e1, rfl, ?_⟩
    refine ⟨r, d, [], fun _ => 0, fun _ => 0, "x", "a", 0, _, [], rfl, D3, t3, .inr fun H' _ => etB_ok T.et_Row_build H', fun p hp => (by cases hp), by decide, fun _ H' g => ⟨true, T.em_BlazeError_BlazeError, fun _ => k _ (g3.trans g), fun z => by cases z⟩, fun z => absurd z (by decide)⟩
theorem law_lam2 (T : Txt K mg base) {A : Around} {outer : List Env} {s : Shared} {H0 : Hp} {E0 : XK} :
    ∃ M : LamK (bodyX P w K mg base N_law d_law A outer s H0 E0) 3, PE (bodyX P w K mg base N_law d_law A outer s H0 E0) (lamL ((d_law.body).getD 3 noS) 2) (tLamM (bodyX P w K mg base N_law d_law A outer s H0 E0) (TL K) (TG K) M) ∧ isBad (bodyX P w K mg base N_law d_law A outer s H0 E0) (CErr K) "BlazeError" (G3 K) (TL K) (TG K) M.t := by
  obtain ⟨t, p, b⟩ := law_bad2 (P := P) (w := w) (A := A) (outer := outer) (s := s) (E0 := E0) (H0 := H0) T
  have L : LamX.LamS d_law.scope (lamSc d_law.scope ((d_law.body).getD 3 noS) 2) := LamX.lamS_by (by decide +kernel)
  exact ⟨⟨lamP d_law.params ((d_law.body).getD 3 noS) 2, lamB ((d_law.body).getD 3 noS) 2, lamSc d_law.scope ((d_law.body).getD 3 noS) 2, t, L, fun _ _ _ _ _ => rfl, p⟩, pe_lamV T.tb_law rfl T.tm_law T.tu_law T.tn_law L rfl, b⟩
theorem law_bad3 (T : Txt K mg base) {A : Around} {outer : List Env} {s : Shared} {H0 : Hp} {E0 : XK} :
    ∃ t : XK → TE, (∀ (A' : Around) (outer' : List Env) (s' : Shared) (H : Hp) (E : XK) (f c' : Addr), Room 3 (A'.deeper (LamX.lamEnv (bodyX P w K mg base N_law d_law A outer s H0 E0) (lamSc d_law.scope ((d_law.body).getD 3 noS) 3) s'.heap.objs.size f c')) → PE (LamX.lamCx (bodyX P w K mg base N_law d_law A outer s H0 E0) A' outer' s' H E (lamSc d_law.scope ((d_law.body).getD 3 noS) 3) f c') (lamB ((d_law.body).getD 3 noS) 3) (t E)) ∧
      isBad (bodyX P w K mg base N_law d_law A outer s H0 E0) (CErr K) "BlazeError" (G3 K) (TL K) (TG K) t := by
  refine ⟨_, fun A' outer' s' H E f c' hr2 => (pg_meth (ok_Row_build T) (hr2.mono (by decide)) T.cl_Row T.me_Row_build pxl (pg_make0 T.mk_Row (ok_Row_init T) (hr2.mono (by decide)) rfl T.gl_Row pxl) (pa_cons pe_str (pa_cons pe_str (pa_cons pe_int (pa_cons (pe_lst (pa_cons pe_str pa_nil)) pa_nil))))), fun σ H Q hG k => ?_⟩
  · obtain ⟨r, d, fa, fb, hσ, D, tb⟩ := hG
    obtain ⟨⟨dx, h1⟩, hs, ia, ib⟩ := id D
    refine fun r dx hr0 hdx ndr => ?_
    have gm : Go (TL K) (TG K) (fun _ => False) H (upd (upd H dx (.own r)) r (.ins (CRow K) dx [])) := (Go.new hdx).trans (Go.new (by rw [upd_ne ndr.symm]; exact hr0))
    refine ⟨r, dx, rfl, upd_same, fun d H3 hd e1 e2 g => ⟨rfl, ?_⟩⟩
    have g3 : Go (TL K) (TG K) (fun _ => False) H H3 := (gm.wide.trans g).drop fun b z => .inr (by rw [z]; exact hr0)
    have D3 : RowAt (CRow K) H3 r d [] (fun _ => 0) (fun _ => 0) := ⟨⟨dx, e1⟩, ⟨e2, fun _ z => (by cases z), fun _ z => (by cases z), .nil⟩, fun _ z => (by cases z), fun _ z => (by cases z)⟩
    have t3 := g3.tb tb
    refine ⟨_, _, _, rfl, e1, rfl, ?_⟩
    refine ⟨(by show 1 ≤ sizeLine; decide), fun b hb => ?_⟩
    have g4 := g3.trans (Go.new (o := .lst [.str "y"]) hb)
    have D4 := D3.go (Go.new (TL := TL K) (TG := TG K) (S := fun _ => False) (o := .lst [.str "y"]) hb) id id (fun _ _ => id) (fun _ _ => id)
    refine ⟨r, d, [], fun _ => 0, fun _ => 0, "x", "a", 5, b, ["y"], rfl, D4, g4.tb tb, .inl fun H' g => SqL.of (g.keep _ _ upd_same (by intro _ z; cases z) fun z => ?_), fun p hp => (by cases hp), by decide, fun _ H' g => ⟨true, T.em_BlazeError_BlazeError, fun _ => k _ (g4.trans g), fun z => by cases z⟩, fun z => absurd z (by decide)⟩
    rcases z with z | ⟨p, hp, _⟩
    · exact (ne_of_none e2 hb) z.symm
    · cases hp
theorem law_lam3 (T : Txt K mg base) {A : Around} {outer : List Env} {s : Shared} {H0 : Hp} {E0 : XK} :
    ∃ M : LamK (bodyX P w K mg base N_law d_law A outer s H0 E0) 3, PE (bodyX P w K mg base N_law d_law A outer s H0 E0) (lamL ((d_law.body).getD 3 noS) 3) (tLamM (bodyX P w K mg base N_law d_law A outer s H0 E0) (TL K) (TG K) M) ∧ isBad (bodyX P w K mg base N_law d_law A outer s H0 E0) (CErr K) "BlazeError" (G3 K) (TL K) (TG K) M.t := by
  obtain ⟨t, p, b⟩ := law_bad3 (P := P) (w := w) (A := A) (outer := outer) (s := s) (E0 := E0) (H0 := H0) T
  have L : LamX.LamS d_law.scope (lamSc d_law.scope ((d_law.body).getD 3 noS) 3) := LamX.lamS_by (by decide +kernel)
  exact ⟨⟨lamP d_law.params ((d_law.body).getD 3 noS) 3, lamB ((d_law.body).getD 3 noS) 3, lamSc d_law.scope ((d_law.body).getD 3 noS) 3, t, L, fun _ _ _ _ _ => rfl, p⟩, pe_lamV T.tb_law rfl T.tm_law T.tu_law T.tn_law L rfl, b⟩
theorem law_bad4 (T : Txt K mg base) {A : Around} {outer : List Env} {s : Shared} {H0 : Hp} {E0 : XK} :
    ∃ t : XK → TE, (∀ (A' : Around) (outer' : List Env) (s' : Shared) (H : Hp) (E : XK) (f c' : Addr), Room 3 (A'.deeper (LamX.lamEnv (bodyX P w K mg base N_law d_law A outer s H0 E0) (lamSc d_law.scope ((d_law.body).getD 3 noS) 4) s'.heap.objs.size f c')) → PE (LamX.lamCx (bodyX P w K mg base N_law d_law A outer s H0 E0) A' outer' s' H E (lamSc d_law.scope ((d_law.body).getD 3 noS) 4) f c') (lamB ((d_law.body).getD 3 noS) 4) (t E)) ∧
      isBad (bodyX P w K mg base N_law d_law A outer s H0 E0) (CErr K) "BlazeError" (G3 K) (TL K) (TG K) t := by
  refine ⟨_, fun A' outer' s' H E f c' hr2 => (pg_meth (ok_Row_house T) (hr2.mono (by decide)) T.cl_Row T.me_Row_house pxl (pv 5) (pa_cons pe_str pa_nil)), fun σ H Q hG k => ?_⟩
  · obtain ⟨r, d, fa, fb, hσ, D, tb⟩ := hG
    obtain ⟨⟨dx, h1⟩, hs, ia, ib⟩ := id D
    refine ⟨_, hσ, ?_⟩
    refine ⟨_, _, _, rfl, h1, rfl, ?_⟩
    exact ⟨r, d, Rk 60, fa, fb, "z", rfl, D, fun h e => absurd e (by rw [R60_no fun k hk => (hn_no k hk).2.1]; intro z; cases z), fun _ => ⟨true, T.em_BlazeError_BlazeError, fun _ => k _ (.refl), fun z => by cases z⟩⟩
theorem law_lam4 (T : Txt K mg base) {A : Around} {outer : List Env} {s : Shared} {H0 : Hp} {E0 : XK} :
    ∃ M : LamK (bodyX P w K mg base N_law d_law A outer s H0 E0) 3, PE (bodyX P w K mg base N_law d_law A outer s H0 E0) (lamL ((d_law.body).getD 3 noS) 4) (tLamM (bodyX P w K mg base N_law d_law A outer s H0 E0) (TL K) (TG K) M) ∧ isBad (bodyX P w K mg base N_law d_law A outer s H0 E0) (CErr K) "BlazeError" (G3 K) (TL K) (TG K) M.t := by
  obtain ⟨t, p, b⟩ := law_bad4 (P := P) (w := w) (A := A) (outer := outer) (s := s) (E0 := E0) (H0 := H0) T
  have L : LamX.LamS d_law.scope (lamSc d_law.scope ((d_law.body).getD 3 noS) 4) := LamX.lamS_by (by decide +kernel)
  exact ⟨⟨lamP d_law.params ((d_law.body).getD 3 noS) 4, lamB ((d_law.body).getD 3 noS) 4, lamSc d_law.scope ((d_law.body).getD 3 noS) 4, t, L, fun _ _ _ _ _ => rfl, p⟩, pe_lamV T.tb_law rfl T.tm_law T.tu_law T.tn_law L rfl, b⟩
theorem law_bad5 (T : Txt K mg base) {A : Around} {outer : List Env} {s : Shared} {H0 : Hp} {E0 : XK} :
    ∃ t : XK → TE, (∀ (A' : Around) (outer' : List Env) (s' : Shared) (H : Hp) (E : XK) (f c' : Addr), Room 3 (A'.deeper (LamX.lamEnv (bodyX P w K mg base N_law d_law A outer s H0 E0) (lamSc d_law.scope ((d_law.body).getD 3 noS) 5) s'.heap.objs.size f c')) → PE (LamX.lamCx (bodyX P w K mg base N_law d_law A outer s H0 E0) A' outer' s' H E (lamSc d_law.scope ((d_law.body).getD 3 noS) 5) f c') (lamB ((d_law.body).getD 3 noS) 5) (t E)) ∧
      isBad (bodyX P w K mg base N_law d_law A outer s H0 E0) (CErr K) "BlazeError" (G3 K) (TL K) (TG K) t := by
  refine ⟨_, fun A' outer' s' H E f c' hr2 => (pg_meth (ok_Row_light T) (hr2.mono (by decide)) T.cl_Row T.me_Row_light pxl (pv 5) (pa_cons pe_str pa_nil)), fun σ H Q hG k => ?_⟩
  · obtain ⟨r, d, fa, fb, hσ, D, tb⟩ := hG
    obtain ⟨⟨dx, h1⟩, hs, ia, ib⟩ := id D
    refine ⟨_, hσ, ?_⟩
    refine ⟨_, _, _, rfl, h1, rfl, ?_⟩
    exact ⟨r, d, Rk 60, fa, fb, "z", rfl, D, fun _ => ⟨true, T.em_BlazeError_BlazeError, fun _ => k _ (.refl), fun z => by cases z⟩, fun h e => absurd e (by rw [R60_no fun k hk => (hn_no k hk).2.1]; intro z; cases z)⟩
theorem law_lam5 (T : Txt K mg base) {A : Around} {outer : List Env} {s : Shared} {H0 : Hp} {E0 : XK} :
    ∃ M : LamK (bodyX P w K mg base N_law d_law A outer s H0 E0) 3, PE (bodyX P w K mg base N_law d_law A outer s H0 E0) (lamL ((d_law.body).getD 3 noS) 5) (tLamM (bodyX P w K mg base N_law d_law A outer s H0 E0) (TL K) (TG K) M) ∧ isBad (bodyX P w K mg base N_law d_law A outer s H0 E0) (CErr K) "BlazeError" (G3 K) (TL K) (TG K) M.t := by
  obtain ⟨t, p, b⟩ := law_bad5 (P := P) (w := w) (A := A) (outer := outer) (s := s) (E0 := E0) (H0 := H0) T
  have L : LamX.LamS d_law.scope (lamSc d_law.scope ((d_law.body).getD 3 noS) 5) := LamX.lamS_by (by decide +kernel)
  exact ⟨⟨lamP d_law.params ((d_law.body).getD 3 noS) 5, lamB ((d_law.body).getD 3 noS) 5, lamSc d_law.scope ((d_law.body).getD 3 noS) 5, t, L, fun _ _ _ _ _ => rfl, p⟩, pe_lamV T.tb_law rfl T.tm_law T.tu_law T.tn_law L rfl, b⟩
theorem law_bad6 (T : Txt K mg base) {A : Around} {outer : List Env} {s : Shared} {H0 : Hp} {E0 : XK} :
    ∃ t : XK → TE, (∀ (A' : Around) (outer' : List Env) (s' : Shared) (H : Hp) (E : XK) (f c' : Addr), Room 3 (A'.deeper (LamX.lamEnv (bodyX P w K mg base N_law d_law A outer s H0 E0) (lamSc d_law.scope ((d_law.body).getD 3 noS) 6) s'.heap.objs.size f c')) → PE (LamX.lamCx (bodyX P w K mg base N_law d_law A outer s H0 E0) A' outer' s' H E (lamSc d_law.scope ((d_law.body).getD 3 noS) 6) f c') (lamB ((d_law.body).getD 3 noS) 6) (t E)) ∧
      isBad (bodyX P w K mg base N_law d_law A outer s H0 E0) (CErr K) "BlazeError" (G3 K) (TL K) (TG K) t := by
  refine ⟨_, fun A' outer' s' H E f c' hr2 => (pg_meth (ok_Row_minute T) (hr2.mono (by decide)) T.cl_Row T.me_Row_minute pxl (pv 5) (pa_cons (pe_disp (pps_cons pe_str pe_int pps_nil) (by rfl) (by rfl) (fun z => by cases z) (by decide)) pa_nil)), fun σ H Q hG k => ?_⟩
  · obtain ⟨r, d, fa, fb, hσ, D, tb⟩ := hG
    obtain ⟨⟨dx, h1⟩, hs, ia, ib⟩ := id D
    refine ⟨_, hσ, ?_⟩
    refine ⟨_, _, _, rfl, h1, rfl, ?_⟩
    refine fun a ha => ?_
    refine ⟨upd_same, [(Sum.inr "z", .int (1))], rfl, (by show 1 ≤ 15; decide), ?_⟩
    have em : mergeK [] [((Sum.inr "z" : Key), V.int (1))] = wkv [("z", 1)] := mergeK_nodup _ _ (by simp)
    rw [em]
    have g5 : Go (TL K) (TG K) (fun b => b = a) H (upd (upd H a (.dK [])) a (.dK (wkv [("z", 1)]))) := ((Go.refl (TL := TL K) (TG := TG K) (S := fun _ => False) (H := H)).wide.trans (Go.new ha)).trans (Go.set upd_same plain_dK rfl)
    have g6 : Go (TL K) (TG K) (fun b => b = a) H (upd (upd H a (.dK [])) a (.dK (wkv [("z", 1)]))) := (Go.new ha).trans (Go.set upd_same plain_dK rfl)
    have D5 := D.go g6 (ne_of_none D.ob.choose_spec ha) (ne_of_none D.hs.dc ha) (fun p hp => ne_of_none (D.hs.row p hp) ha) (fun p hp => ne_of_none (D.hs.bes p hp) ha)
    have ha0 : H a = none := (Go.refl (TL := TL K) (TG := TG K) (S := fun _ => False) (H := H)).free a ha
    refine ⟨r, d, Rk 60, fa, fb, a, [("z", 1)], rfl, D5, upd_same, (ne_of_none D.hs.dc ha).symm, g5.tb tb, R60_wf, by simp, fun _ H' g => ⟨true, T.em_BlazeError_BlazeError, fun _ => k _ ((g5.trans g).drop fun b z => .inr (by rw [z]; exact ha0)), fun z => by cases z⟩, fun z => absurd z (by rw [show badW (Rk 60) [("z", 1)] = true from by unfold badW; rw [List.any_cons, R60_no fun k hk => (hn_no k hk).2.1] <;> rfl]; intro z; cases z)⟩
theorem law_lam6 (T : Txt K mg base) {A : Around} {outer : List Env} {s : Shared} {H0 : Hp} {E0 : XK} :
    ∃ M : LamK (bodyX P w K mg base N_law d_law A outer s H0 E0) 3, PE (bodyX P w K mg base N_law d_law A outer s H0 E0) (lamL ((d_law.body).getD 3 noS) 6) (tLamM (bodyX P w K mg base N_law d_law A outer s H0 E0) (TL K) (TG K) M) ∧ isBad (bodyX P w K mg base N_law d_law A outer s H0 E0) (CErr K) "BlazeError" (G3 K) (TL K) (TG K) M.t := by
  obtain ⟨t, p, b⟩ := law_bad6 (P := P) (w := w) (A := A) (outer := outer) (s := s) (E0 := E0) (H0 := H0) T
  have L : LamX.LamS d_law.scope (lamSc d_law.scope ((d_law.body).getD 3 noS) 6) := LamX.lamS_by (by decide +kernel)
  exact ⟨⟨lamP d_law.params ((d_law.body).getD 3 noS) 6, lamB ((d_law.body).getD 3 noS) 6, lamSc d_law.scope ((d_law.body).getD 3 noS) 6, t, L, fun _ _ _ _ _ => rfl, p⟩, pe_lamV T.tb_law rfl T.tm_law T.tu_law T.tn_law L rfl, b⟩
theorem law_bad7 (T : Txt K mg base) {A : Around} {outer : List Env} {s : Shared} {H0 : Hp} {E0 : XK} :
    ∃ t : XK → TE, (∀ (A' : Around) (outer' : List Env) (s' : Shared) (H : Hp) (E : XK) (f c' : Addr), Room 3 (A'.deeper (LamX.lamEnv (bodyX P w K mg base N_law d_law A outer s H0 E0) (lamSc d_law.scope ((d_law.body).getD 3 noS) 7) s'.heap.objs.size f c')) → PE (LamX.lamCx (bodyX P w K mg base N_law d_law A outer s H0 E0) A' outer' s' H E (lamSc d_law.scope ((d_law.body).getD 3 noS) 7) f c') (lamB ((d_law.body).getD 3 noS) 7) (t E)) ∧
      isBad (bodyX P w K mg base N_law d_law A outer s H0 E0) (CErr K) "BlazeError" (G3 K) (TL K) (TG K) t := by
  refine ⟨_, fun A' outer' s' H E f c' hr2 => (pg_meth (ok_Row_minute T) (hr2.mono (by decide)) T.cl_Row T.me_Row_minute pxl (pv 5) (pa_cons (pe_disp (pps_cons pe_str (pe_un un_neg pe_int) pps_nil) (by rfl) (by rfl) (fun z => by cases z) (by decide)) pa_nil)), fun σ H Q hG k => ?_⟩
  · obtain ⟨r, d, fa, fb, hσ, D, tb⟩ := hG
    obtain ⟨⟨dx, h1⟩, hs, ia, ib⟩ := id D
    refine ⟨_, hσ, ?_⟩
    refine ⟨_, _, _, rfl, h1, rfl, ?_⟩
    refine fun a ha => ?_
    refine ⟨_, rfl, ?_⟩
    refine ⟨upd_same, [(Sum.inr "h0", .int (-1))], rfl, (by show 1 ≤ 15; decide), ?_⟩
    have em : mergeK [] [((Sum.inr "h0" : Key), V.int (-1))] = wkv [("h0", -1)] := mergeK_nodup _ _ (by simp)
    rw [em]
    have g5 : Go (TL K) (TG K) (fun b => b = a) H (upd (upd H a (.dK [])) a (.dK (wkv [("h0", -1)]))) := ((Go.refl (TL := TL K) (TG := TG K) (S := fun _ => False) (H := H)).wide.trans (Go.new ha)).trans (Go.set upd_same plain_dK rfl)
    have g6 : Go (TL K) (TG K) (fun b => b = a) H (upd (upd H a (.dK [])) a (.dK (wkv [("h0", -1)]))) := (Go.new ha).trans (Go.set upd_same plain_dK rfl)
    have D5 := D.go g6 (ne_of_none D.ob.choose_spec ha) (ne_of_none D.hs.dc ha) (fun p hp => ne_of_none (D.hs.row p hp) ha) (fun p hp => ne_of_none (D.hs.bes p hp) ha)
    have ha0 : H a = none := (Go.refl (TL := TL K) (TG := TG K) (S := fun _ => False) (H := H)).free a ha
    refine ⟨r, d, Rk 60, fa, fb, a, [("h0", -1)], rfl, D5, upd_same, (ne_of_none D.hs.dc ha).symm, g5.tb tb, R60_wf, by simp, fun _ H' g => ⟨true, T.em_BlazeError_BlazeError, fun _ => k _ ((g5.trans g).drop fun b z => .inr (by rw [z]; exact ha0)), fun z => by cases z⟩, fun z => absurd z (by rw [show badW (Rk 60) [("h0", -1)] = true from by unfold badW; rw [List.any_cons] <;> rfl]; intro z; cases z)⟩
theorem law_lam7 (T : Txt K mg base) {A : Around} {outer : List Env} {s : Shared} {H0 : Hp} {E0 : XK} :
    ∃ M : LamK (bodyX P w K mg base N_law d_law A outer s H0 E0) 3, PE (bodyX P w K mg base N_law d_law A outer s H0 E0) (lamL ((d_law.body).getD 3 noS) 7) (tLamM (bodyX P w K mg base N_law d_law A outer s H0 E0) (TL K) (TG K) M) ∧ isBad (bodyX P w K mg base N_law d_law A outer s H0 E0) (CErr K) "BlazeError" (G3 K) (TL K) (TG K) M.t := by
  obtain ⟨t, p, b⟩ := law_bad7 (P := P) (w := w) (A := A) (outer := outer) (s := s) (E0 := E0) (H0 := H0) T
  have L : LamX.LamS d_law.scope (lamSc d_law.scope ((d_law.body).getD 3 noS) 7) := LamX.lamS_by (by decide +kernel)
  exact ⟨⟨lamP d_law.params ((d_law.body).getD 3 noS) 7, lamB ((d_law.body).getD 3 noS) 7, lamSc d_law.scope ((d_law.body).getD 3 noS) 7, t, L, fun _ _ _ _ _ => rfl, p⟩, pe_lamV T.tb_law rfl T.tm_law T.tu_law T.tn_law L rfl, b⟩
theorem law_bad8 (T : Txt K mg base) {A : Around} {outer : List Env} {s : Shared} {H0 : Hp} {E0 : XK} :
    ∃ t : XK → TE, (∀ (A' : Around) (outer' : List Env) (s' : Shared) (H : Hp) (E : XK) (f c' : Addr), Room 3 (A'.deeper (LamX.lamEnv (bodyX P w K mg base N_law d_law A outer s H0 E0) (lamSc d_law.scope ((d_law.body).getD 3 noS) 8) s'.heap.objs.size f c')) → PE (LamX.lamCx (bodyX P w K mg base N_law d_law A outer s H0 E0) A' outer' s' H E (lamSc d_law.scope ((d_law.body).getD 3 noS) 8) f c') (lamB ((d_law.body).getD 3 noS) 8) (t E)) ∧
      isBad (bodyX P w K mg base N_law d_law A outer s H0 E0) (CErr K) "BlazeError" (G3 K) (TL K) (TG K) t := by
  refine ⟨_, fun A' outer' s' H E f c' hr2 => (pg_meth (ok_Row_minutes_until_burnt T) (hr2.mono (by decide)) T.cl_Row T.me_Row_minutes_until_burnt pxl (pv 5) (pa_cons pe_str pa_nil)), fun σ H Q hG k => ?_⟩
  · obtain ⟨r, d, fa, fb, hσ, D, tb⟩ := hG
    obtain ⟨⟨dx, h1⟩, hs, ia, ib⟩ := id D
    refine ⟨_, hσ, ?_⟩
    refine ⟨_, _, _, rfl, h1, rfl, ?_⟩
    exact ⟨r, d, Rk 60, fa, fb, "z", rfl, D, fun _ => ⟨true, T.em_BlazeError_BlazeError, fun _ => k _ (.refl), fun z => by cases z⟩, fun h e => absurd e (by rw [R60_no fun k hk => (hn_no k hk).2.1]; intro z; cases z)⟩
theorem law_lam8 (T : Txt K mg base) {A : Around} {outer : List Env} {s : Shared} {H0 : Hp} {E0 : XK} :
    ∃ M : LamK (bodyX P w K mg base N_law d_law A outer s H0 E0) 3, PE (bodyX P w K mg base N_law d_law A outer s H0 E0) (lamL ((d_law.body).getD 3 noS) 8) (tLamM (bodyX P w K mg base N_law d_law A outer s H0 E0) (TL K) (TG K) M) ∧ isBad (bodyX P w K mg base N_law d_law A outer s H0 E0) (CErr K) "BlazeError" (G3 K) (TL K) (TG K) M.t := by
  obtain ⟨t, p, b⟩ := law_bad8 (P := P) (w := w) (A := A) (outer := outer) (s := s) (E0 := E0) (H0 := H0) T
  have L : LamX.LamS d_law.scope (lamSc d_law.scope ((d_law.body).getD 3 noS) 8) := LamX.lamS_by (by decide +kernel)
  exact ⟨⟨lamP d_law.params ((d_law.body).getD 3 noS) 8, lamB ((d_law.body).getD 3 noS) 8, lamSc d_law.scope ((d_law.body).getD 3 noS) 8, t, L, fun _ _ _ _ _ => rfl, p⟩, pe_lamV T.tb_law rfl T.tm_law T.tu_law T.tn_law L rfl, b⟩
theorem law_bad9 (T : Txt K mg base) {A : Around} {outer : List Env} {s : Shared} {H0 : Hp} {E0 : XK} :
    ∃ t : XK → TE, (∀ (A' : Around) (outer' : List Env) (s' : Shared) (H : Hp) (E : XK) (f c' : Addr), Room 3 (A'.deeper (LamX.lamEnv (bodyX P w K mg base N_law d_law A outer s H0 E0) (lamSc d_law.scope ((d_law.body).getD 3 noS) 9) s'.heap.objs.size f c')) → PE (LamX.lamCx (bodyX P w K mg base N_law d_law A outer s H0 E0) A' outer' s' H E (lamSc d_law.scope ((d_law.body).getD 3 noS) 9) f c') (lamB ((d_law.body).getD 3 noS) 9) (t E)) ∧
      isBad (bodyX P w K mg base N_law d_law A outer s H0 E0) (CErr K) "BlazeError" (G3 K) (TL K) (TG K) t := by
  refine ⟨_, fun A' outer' s' H E f c' hr2 => (pg_meth (ok_Row_minute T) (hr2.mono (by decide)) T.cl_Row T.me_Row_minute pxl (pg_make0 T.mk_Row (ok_Row_init T) (hr2.mono (by decide)) rfl T.gl_Row pxl) (pa_cons (pe_disp (pps_cons pe_str pe_int pps_nil) (by rfl) (by rfl) (fun z => by cases z) (by decide)) pa_nil)), fun σ H Q hG k => ?_⟩
  · obtain ⟨r, d, fa, fb, hσ, D, tb⟩ := hG
    obtain ⟨⟨dx, h1⟩, hs, ia, ib⟩ := id D
    refine fun r dx hr0 hdx ndr => ?_
    have gm : Go (TL K) (TG K) (fun _ => False) H (upd (upd H dx (.own r)) r (.ins (CRow K) dx [])) := (Go.new hdx).trans (Go.new (by rw [upd_ne ndr.symm]; exact hr0))
    refine ⟨r, dx, rfl, upd_same, fun d H3 hd e1 e2 g => ⟨rfl, ?_⟩⟩
    have g3 : Go (TL K) (TG K) (fun _ => False) H H3 := (gm.wide.trans g).drop fun b z => .inr (by rw [z]; exact hr0)
    have D3 : RowAt (CRow K) H3 r d [] (fun _ => 0) (fun _ => 0) := ⟨⟨dx, e1⟩, ⟨e2, fun _ z => (by cases z), fun _ z => (by cases z), .nil⟩, fun _ z => (by cases z), fun _ z => (by cases z)⟩
    have t3 := g3.tb tb
    refine ⟨_, _, _, rfl, e1, rfl, ?_⟩
    refine fun a ha => ?_
    refine ⟨upd_same, [(Sum.inr "h0", .int (0))], rfl, (by show 1 ≤ 15; decide), ?_⟩
    have em : mergeK [] [((Sum.inr "h0" : Key), V.int (0))] = wkv [("h0", 0)] := mergeK_nodup _ _ (by simp)
    rw [em]
    have g5 : Go (TL K) (TG K) (fun b => b = a) H (upd (upd H3 a (.dK [])) a (.dK (wkv [("h0", 0)]))) := (g3.wide.trans (Go.new ha)).trans (Go.set upd_same plain_dK rfl)
    have g6 : Go (TL K) (TG K) (fun b => b = a) H3 (upd (upd H3 a (.dK [])) a (.dK (wkv [("h0", 0)]))) := (Go.new ha).trans (Go.set upd_same plain_dK rfl)
    have D5 := D3.go g6 (ne_of_none D3.ob.choose_spec ha) (ne_of_none D3.hs.dc ha) (fun p hp => ne_of_none (D3.hs.row p hp) ha) (fun p hp => ne_of_none (D3.hs.bes p hp) ha)
    have ha0 : H a = none := g3.free a ha
    refine ⟨r, d, [], fun _ => 0, fun _ => 0, a, [("h0", 0)], rfl, D5, upd_same, (ne_of_none D3.hs.dc ha).symm, g5.tb tb, ⟨fun p hp => (by cases hp), fun p hp => (by cases hp), by decide⟩, by simp, fun _ H' g => ⟨true, T.em_BlazeError_BlazeError, fun _ => k _ ((g5.trans g).drop fun b z => .inr (by rw [z]; exact ha0)), fun z => by cases z⟩, fun z => absurd z (by rw [show badW ([]) [("h0", 0)] = true from rfl]; intro z; cases z)⟩
theorem law_lam9 (T : Txt K mg base) {A : Around} {outer : List Env} {s : Shared} {H0 : Hp} {E0 : XK} :
    ∃ M : LamK (bodyX P w K mg base N_law d_law A outer s H0 E0) 3, PE (bodyX P w K mg base N_law d_law A outer s H0 E0) (lamL ((d_law.body).getD 3 noS) 9) (tLamM (bodyX P w K mg base N_law d_law A outer s H0 E0) (TL K) (TG K) M) ∧ isBad (bodyX P w K mg base N_law d_law A outer s H0 E0) (CErr K) "BlazeError" (G3 K) (TL K) (TG K) M.t := by
  obtain ⟨t, p, b⟩ := law_bad9 (P := P) (w := w) (A := A) (outer := outer) (s := s) (E0 := E0) (H0 := H0) T
  have L : LamX.LamS d_law.scope (lamSc d_law.scope ((d_law.body).getD 3 noS) 9) := LamX.lamS_by (by decide +kernel)
  exact ⟨⟨lamP d_law.params ((d_law.body).getD 3 noS) 9, lamB ((d_law.body).getD 3 noS) 9, lamSc d_law.scope ((d_law.body).getD 3 noS) 9, t, L, fun _ _ _ _ _ => rfl, p⟩, pe_lamV T.tb_law rfl T.tm_law T.tu_law T.tn_law L rfl, b⟩
end
end K3
namespace K3
open PySem PySem.Spec PyProof.Rows L2 Fy
open GxR (TabG Tabbed)
section
variable {P : Program} {w : World} {K : PySem.W.Frag} {mg : Str → Option Value} {base : Heap}
/-- for k in range(60): row.build(..) -/
theorem law_sixty (T : Txt K mg base) {A : Around} {outer : List Env} {s : Shared} {H0 : Hp} {E0 : XK} (hr : Room 6 (A.deeper (envOfC d_law.qual d_law.scope s.heap.objs.size (He.fAd K d_law.at_) (.ref (He.codeOf K d_law.at_))))) :
    ∃ t, PS (bodyX P w K mg base N_law d_law A outer s H0 E0) ((d_law.body).getD 2 noS) t ∧ ∀ (D : Ends) (H : Hp) (r d : Addr) (x0 x1 x2 x3 x4 x6 x7 x8 x9 x10 x11 x12 x13 x14 x15 x16 : Option V), RowAt (CRow K) H r d [] (fun _ => 0) (fun _ => 0) → Tb (TL K) (TG K) H →
      (∀ (x2 : Option V) (fa fb : Str → Addr) (H' : Hp), RowAt (CRow K) H' r d (Rk 60) fa fb → Tb (TL K) (TG K) H' → D.nx [x0, x1, x2, x3, x4, some (.ref r), x6, x7, x8, x9, x10, x11, x12, x13, x14, x15, x16] H') →
      t D [x0, x1, x2, x3, x4, some (.ref r), x6, x7, x8, x9, x10, x11, x12, x13, x14, x15, x16] H := by
  have hu := hu_of hr
  refine ⟨_, (ps_for (passes_of rfl) rfl (pi_range1 rfl T.fr_range (pa_cons pe_int pa_nil)) (pg_name (i := 2) sc_law.nd rfl (by first | exact Or.inl rfl | exact Or.inr rfl)) (pss_one (ps_expr (pg_meth (ok_Row_build4 T) (hr.mono (by decide)) T.cl_Row T.me_Row_build px (pv 5) (pa_cons (pe_op op_add_str pe_str (pe_callTy call_str_int (by rfl) T.fr_str (by decide +kernel) (pa_cons (pv 2) pa_nil))) (pa_cons pe_str (pa_cons pe_int pa_nil))))))), fun D H r d x0 x1 x2 x3 x4 x6 x7 x8 x9 x10 x11 x12 x13 x14 x15 x16 W tb k => ?_⟩
  refine ⟨60, rfl, by decide, by decide, ?_⟩
  refine for_range (n := 60) (fun i σ H' => (∃ x2, σ = [x0, x1, x2, x3, x4, some (.ref r), x6, x7, x8, x9, x10, x11, x12, x13, x14, x15, x16]) ∧ ∃ fa fb, RowAt (CRow K) H' r d (Rk i) fa fb ∧ Tb (TL K) (TG K) H')
    ⟨⟨_, rfl⟩, _, _, W, tb⟩ ?_ ?_
  · rintro i σ H1 hi ⟨⟨x2, rfl⟩, fa, fb, D1, tb1⟩
    have hi60 : i < 60 := hi
    rw [Int.zero_add]
    obtain ⟨⟨dx, h1⟩, hs, ia, ib⟩ := id D1
    walk_at "v"
    refine ⟨_, _, _, rfl, h1, rfl, ?_⟩
    walk_at "v"
    refine ⟨_, rfl, lg60 hi60, ?_⟩
    refine ⟨_, _, rfl, rfl, ls60 hi60, ?_⟩
    refine ⟨r, d, Rk i, fa, fb, hn i, "a", 5, _, [], rfl, D1, tb1, .inr fun H' _ => etB_ok T.et_Row_build H', fun p hp => by rw [(Rk_mem hp).1]; decide, by decide, fun z => ?_, fun _ fa' fb' H' _ _ _ D2 g => ?_⟩
    · exfalso
      have e : canBuild (Rk i) (hn i) 5 [] = true := by
        unfold canBuild
        rw [Rk_none hi60, decide_eq_false (hn_len i hi60).2, decide_eq_false (show ¬ 60 ≤ (Rk i).length by rw [Rk_len]; omega)]
        rfl
      rw [e] at z
      cases z
    · rw [build_Rk] at D2
      exact ⟨⟨_, rfl⟩, fa', fb', D2, g.tb tb1⟩
  · rintro σ H1 ⟨⟨x2, rfl⟩, fa, fb, D1, tb1⟩
    exact k _ fa fb H1 D1 tb1
/-- bad = [..] -/
theorem law_bad (T : Txt K mg base) {A : Around} {outer : List Env} {s : Shared} {H0 : Hp} {E0 : XK} (hr : Room 6 (A.deeper (envOfC d_law.qual d_law.scope s.heap.objs.size (He.fAd K d_law.at_) (.ref (He.codeOf K d_law.at_))))) :
    ∃ t, PS (bodyX P w K mg base N_law d_law A outer s H0 E0) ((d_law.body).getD 3 noS) t ∧ ∀ (D : Ends) (H : Hp) (x0 x1 x2 x3 x4 x5 x6 x7 x8 x9 x10 x11 x12 x13 x14 x15 x16 : Option V), Tb (TL K) (TG K) H →
      (∀ (bd : Addr) (fs : List Addr) (H' : Hp), H' bd = some (.lst (fs.map V.ref)) → fs.length = 10 → (∀ f ∈ fs, BadF (bodyX P w K mg base N_law d_law A outer s H0 E0) 3 (CErr K) "BlazeError" (G3 K) (TL K) (TG K) f H') → Go (TL K) (TG K) (fun _ => False) H H' → D.nx [x0, x1, x2, x3, x4, x5, x6, x7, x8, x9, x10, x11, x12, x13, x14, some (.ref bd), x16] H') →
      t D [x0, x1, x2, x3, x4, x5, x6, x7, x8, x9, x10, x11, x12, x13, x14, x15, x16] H := by
  obtain ⟨M0, p0, b0⟩ := law_lam0 (P := P) (w := w) (A := A) (outer := outer) (s := s) (E0 := E0) (H0 := H0) T
  obtain ⟨M1, p1, b1⟩ := law_lam1 (P := P) (w := w) (A := A) (outer := outer) (s := s) (E0 := E0) (H0 := H0) T
  obtain ⟨M2, p2, b2⟩ := law_lam2 (P := P) (w := w) (A := A) (outer := outer) (s := s) (E0 := E0) (H0 := H0) T
  obtain ⟨M3, p3, b3⟩ := law_lam3 (P := P) (w := w) (A := A) (outer := outer) (s := s) (E0 := E0) (H0 := H0) T
  obtain ⟨M4, p4, b4⟩ := law_lam4 (P := P) (w := w) (A := A) (outer := outer) (s := s) (E0 := E0) (H0 := H0) T
  obtain ⟨M5, p5, b5⟩ := law_lam5 (P := P) (w := w) (A := A) (outer := outer) (s := s) (E0 := E0) (H0 := H0) T
  obtain ⟨M6, p6, b6⟩ := law_lam6 (P := P) (w := w) (A := A) (outer := outer) (s := s) (E0 := E0) (H0 := H0) T
  obtain ⟨M7, p7, b7⟩ := law_lam7 (P := P) (w := w) (A := A) (outer := outer) (s := s) (E0 := E0) (H0 := H0) T
  obtain ⟨M8, p8, b8⟩ := law_lam8 (P := P) (w := w) (A := A) (outer := outer) (s := s) (E0 := E0) (H0 := H0) T
  obtain ⟨M9, p9, b9⟩ := law_lam9 (P := P) (w := w) (A := A) (outer := outer) (s := s) (E0 := E0) (H0 := H0) T
  refine ⟨_, (ps_set (i := 15) sc_law.nd rfl (by first | exact Or.inl rfl | exact Or.inr rfl) (pe_lst (pa_cons p0 (pa_cons p1 (pa_cons p2 (pa_cons p3 (pa_cons p4 (pa_cons p5 (pa_cons p6 (pa_cons p7 (pa_cons p8 (pa_cons p9 pa_nil)))))))))))), fun D H x0 x1 x2 x3 x4 x5 x6 x7 x8 x9 x10 x11 x12 x13 x14 x15 x16 tb k => ?_⟩
  refine ⟨tb, fun f0 c0 G0 I0 g0 n0 hc0 e0 => ?_⟩
  obtain ⟨B0, h0, tb0⟩ := bad_step _ bad_nil b0 tb g0 n0 hc0 e0
  refine ⟨tb0, fun f1 c1 G1 I1 g1 n1 hc1 e1 => ?_⟩
  obtain ⟨B1, h1, tb1⟩ := bad_step _ B0 b1 tb0 g1 n1 hc1 e1
  have h1 := h0.trans h1
  refine ⟨tb1, fun f2 c2 G2 I2 g2 n2 hc2 e2 => ?_⟩
  obtain ⟨B2, h2, tb2⟩ := bad_step _ B1 b2 tb1 g2 n2 hc2 e2
  have h2 := h1.trans h2
  refine ⟨tb2, fun f3 c3 G3 I3 g3 n3 hc3 e3 => ?_⟩
  obtain ⟨B3, h3, tb3⟩ := bad_step _ B2 b3 tb2 g3 n3 hc3 e3
  have h3 := h2.trans h3
  refine ⟨tb3, fun f4 c4 G4 I4 g4 n4 hc4 e4 => ?_⟩
  obtain ⟨B4, h4, tb4⟩ := bad_step _ B3 b4 tb3 g4 n4 hc4 e4
  have h4 := h3.trans h4
  refine ⟨tb4, fun f5 c5 G5 I5 g5 n5 hc5 e5 => ?_⟩
  obtain ⟨B5, h5, tb5⟩ := bad_step _ B4 b5 tb4 g5 n5 hc5 e5
  have h5 := h4.trans h5
  refine ⟨tb5, fun f6 c6 G6 I6 g6 n6 hc6 e6 => ?_⟩
  obtain ⟨B6, h6, tb6⟩ := bad_step _ B5 b6 tb5 g6 n6 hc6 e6
  have h6 := h5.trans h6
  refine ⟨tb6, fun f7 c7 G7 I7 g7 n7 hc7 e7 => ?_⟩
  obtain ⟨B7, h7, tb7⟩ := bad_step _ B6 b7 tb6 g7 n7 hc7 e7
  have h7 := h6.trans h7
  refine ⟨tb7, fun f8 c8 G8 I8 g8 n8 hc8 e8 => ?_⟩
  obtain ⟨B8, h8, tb8⟩ := bad_step _ B7 b8 tb7 g8 n8 hc8 e8
  have h8 := h7.trans h8
  refine ⟨tb8, fun f9 c9 G9 I9 g9 n9 hc9 e9 => ?_⟩
  obtain ⟨B9, h9, tb9⟩ := bad_step _ B8 b9 tb8 g9 n9 hc9 e9
  have h9 := h8.trans h9
  refine ⟨(by show 10 ≤ sizeLine; decide), fun bd hbd => ?_⟩
  have gb := Go.new (TL := TL K) (TG := TG K) (S := fun _ => False) (o := .lst ([f0, f1, f2, f3, f4, f5, f6, f7, f8, f9].map V.ref)) hbd
  exact k bd [f0, f1, f2, f3, f4, f5, f6, f7, f8, f9] _ upd_same rfl (fun x hx => (B9 x hx).go gb) (h9.trans gb)
end
end K3
namespace K3
open PySem PySem.Spec PyProof.Rows L2 Fy
open GxR (TabG Tabbed)
section
variable {P : Program} {w : World} {K : PySem.W.Frag} {mg : Str → Option Value} {base : Heap}
theorem toldV_law (T : Txt K mg base) {A : Around} {outer : List Env} {s : Shared} {H0 : Hp} {E0 : XK} (hr : Room 6 (A.deeper (envOfC d_law.qual d_law.scope s.heap.objs.size (He.fAd K d_law.at_) (.ref (He.codeOf K d_law.at_))))) {p pf pos : Pos} {pins : List (Addr × Obj)} {σ : L2.St} {s3 : Shared} {H3 : Hp} {scope : Scope} {ce : Env} {fp : List Addr}
    (I3 : Inv (bodyX P w K mg base N_law d_law A outer s H0 E0) pins σ H3 s3) (f3 : ∀ b ∈ fp, FpOk (bodyX P w K mg base N_law d_law A outer s H0 E0) pins H3 b) (hg : Gl ((bodyX P w K mg base N_law d_law A outer s H0 E0).blk s3 H3 scope ce fp) "_law_told") (hvf : Vis ce.scope "f") :
    PE ((bodyX P w K mg base N_law d_law A outer s H0 E0).blk s3 H3 scope ce fp) (.Call (.Name "_law_told" p) [.Name "f" pf] [] pos) (tTold (bodyX P w K mg base N_law d_law A outer s H0 E0) 3 16 (CErr K) "BlazeError" σ) := by
  refine pe_toldV (k := 3) (Ng := N_law_told) (a := "what") (e := "BlazeError") (dt := d_law_told) I3 f3 T.fn_law_told ?g1 ?g2 ?g3 ?g4 (show d_law_told.body = [.Try [.Return (some (.Call (.Name _ _) [] [] _)) _] [.ExceptHandler (some (.Name _ _)) none [.Return (some (.Constant (.str _) _ _)) _] _] [] [] _] from rfl) ?g6 ?g7 ?g8 ?g9 ?g10 ?g11 ?g12 ?g13 ?g14 ?g15 ?g16 ?g17
  case g1 => rfl
  case g2 => rfl
  case g3 => rfl
  case g4 => rfl
  case g6 => exact (fun _ _ _ _ _ _ us hl => match us, hl with | [_], _ => rfl)
  case g7 => exact hg
  case g8 => exact T.gl_law_told
  case g9 => exact sc_law_told
  case g10 => rfl
  case g11 => exact .inl rfl
  case g12 => rfl
  case g13 => exact T.gl_BlazeError
  case g14 => exact fun _ => rfl
  case g15 => exact (hr.mono (by decide))
  case g16 => rfl
  case g17 => exact hvf
theorem law_ret (T : Txt K mg base) {A : Around} {outer : List Env} {s : Shared} {H0 : Hp} {E0 : XK} (hr : Room 6 (A.deeper (envOfC d_law.qual d_law.scope s.heap.objs.size (He.fAd K d_law.at_) (.ref (He.codeOf K d_law.at_))))) :
    ∃ t, PS (bodyX P w K mg base N_law d_law A outer s H0 E0) ((d_law.body).getD 4 noS) t ∧ ∀ (D : Ends) (H : Hp) (r d bd : Addr) (fa fb : Str → Addr) (fs : List Addr) (x0 x1 x2 x3 x4 x6 x7 x8 x9 x10 x11 x12 x13 x14 x16 : Option V), RowAt (CRow K) H r d (Rk 60) fa fb → Tb (TL K) (TG K) H → H bd = some (.lst (fs.map V.ref)) → fs.length = 10 →
      (∀ f ∈ fs, BadF (bodyX P w K mg base N_law d_law A outer s H0 E0) 3 (CErr K) "BlazeError" (G3 K) (TL K) (TG K) f H) → (∀ H', D.rt (.bl true) H') →
      t D [x0, x1, x2, x3, x4, some (.ref r), x6, x7, x8, x9, x10, x11, x12, x13, x14, some (.ref bd), x16] H := by
  have hu := hu_of hr
  obtain ⟨tk_HOTTEST, C_HOTTEST⟩ := T.c_HOTTEST
  obtain ⟨tk_MOST_HOUSES, C_MOST_HOUSES⟩ := T.c_MOST_HOUSES
  refine ⟨_, (ps_ret (pe_and (pe_cmpR (op_eqD hr.units) (pe_lcNo (i := 16) rfl sc_law.nd (pv 15) (blkOk_by (own := [("f", 16)]) (N := N_law) (sc := d_law.scope) (by decide +kernel)) (fun _ _ _ _ _ => (pg_name (i := 16) sc_law.nd rfl (by first | exact Or.inl rfl | exact Or.inr rfl))) (fun _ _ _ _ _ _ _ I3 f3 => pts_one (pt_cmpR op_ne (toldV_law T hr I3 f3 rfl (by first | exact Or.inl rfl | exact Or.inr (Or.inl rfl) | exact Or.inr (Or.inr rfl))) pe_str (nomark _)))) (pe_lst pa_nil) (nomark _)) (pe_and (pe_cmpR (op_eqD hr.units) (pe_tup (pa_cons (pe_glob (v := .int 100) rfl C_HOTTEST ⟨_, rfl⟩) (pa_cons (pe_glob (v := .int 60) rfl C_MOST_HOUSES ⟨_, rfl⟩) pa_nil))) (pe_tup (pa_cons pe_int (pa_cons pe_int pa_nil))) (nomark _)) (pe_and (pe_cmpR op_eq (pg_meth (ok_Row_minutes_until_burnt T) (hr.mono (by decide)) T.cl_Row T.me_Row_minutes_until_burnt px (pv 5) (pa_cons pe_str pa_nil)) pe_int (nomark _)) (pe_and (pe_cmpR (op_eqD hr.units) (pg_meth (ok_Row_minute T) (hr.mono (by decide)) T.cl_Row T.me_Row_minute px (pv 5) (pa_cons pe_dnewK pa_nil)) (pe_tup pa_nil) (nomark _)) (pe_one (pe_cmpR op_eq (pg_meth (ok_Row_heat_at T) (hr.mono (by decide)) T.cl_Row T.me_Row_heat_at px (pv 5) (pa_cons pe_str pa_nil)) pe_int (nomark _)))))))), fun D H r d bd fa fb fs x0 x1 x2 x3 x4 x6 x7 x8 x9 x10 x11 x12 x13 x14 x16 W tb hbd lf hB k => ?_⟩
  refine ⟨_, rfl, bd, fs.map V.ref, rfl, SqL.of hbd, fun L hL => ?_⟩
  have g0 := Go.new (TL := TL K) (TG := TG K) (S := fun _ => False) (o := .lst []) hL
  have eL : upd H L (.lst []) L = some (.lst []) := upd_same
  refine ⟨fun H' => Go (TL K) (TG K) (fun _ => False) (upd H L (.lst [])) H', .refl, fun H' g => SqL.of (g.get (g0.get hbd)), fun x hx H' g => ?_, ?_⟩
  · obtain ⟨f, hf, rfl⟩ := List.mem_map.mp hx
    refine ⟨rfl, ?_⟩
    have gH := g0.trans g
    unfold tTest tOp
    dsimp only
    refine tTold_bad (G := G3 K) G3.drp rfl ((hB f hf).go gH) ?_ fun H2 g2 => ?_
    · exact ⟨r, d, fa, fb, rfl, W.go gH id id (fun _ _ => id) (fun _ _ => id), gH.tb tb⟩
    · exact ⟨rfl, _, rfl, by simp, g.trans g2⟩
  intro H1 g1
  have gA := g0.trans g1
  refine ⟨(by decide), fun e2 he2 => ?_⟩
  have eL1 := g1.get eL
  have gB := gA.trans (Go.new (o := .lst []) he2)
  have se : SeqAt.shaped (PyData.list []) = true := PySem.W.shaped_ints []
  refine ⟨.list [], .list [], .lst (SqL.of (by rw [upd_ne (ne_of_none eL1 he2)]; exact eL1)) .nil, .lst (SqL.of upd_same) .nil, se, se, ?_⟩
  rw [eqv_same se]
  generalize upd H1 e2 (.lst []) = H2 at gB ⊢
  refine ⟨_, rfl, iteT ?_⟩
  refine ⟨(by show 2 ≤ sizeLine; decide), fun t1 ht1 => ⟨(by show 2 ≤ sizeLine; decide), fun t2 ht2 => ?_⟩⟩
  have gC := (gB.trans (Go.new ht1)).trans (Go.new (o := .tup [.int 100, .int 60]) ht2)
  have st : SeqAt.shaped (PyData.tuple [.int 100, .int 60]) = true := by decide +kernel
  refine ⟨.tuple [.int 100, .int 60], .tuple [.int 100, .int 60], .tup (SqT.of (by rw [upd_ne (ne_of_none upd_same ht2)]; exact upd_same)) (.cons (.int _) (.cons (.int _) .nil)), .tup (SqT.of upd_same) (.cons (.int _) (.cons (.int _) .nil)), st, st, ?_⟩
  rw [eqv_same st]
  have g5 := gC
  generalize upd (upd H2 t1 (.tup [.int 100, .int 60])) t2 (.tup [.int 100, .int 60]) = H3 at g5 ⊢
  refine ⟨_, rfl, iteT ?_⟩
  have W3 := W.go g5 id id (fun _ _ => id) (fun _ _ => id)
  obtain ⟨⟨dx3, h3⟩, hs3, _, _⟩ := id W3
  walk_at "v"
  refine ⟨_, _, _, rfl, h3, rfl, ?_⟩
  have e0 := R60_h0 hs3.nd
  refine ⟨r, d, Rk 60, fa, fb, "h0", rfl, W3, fun z => absurd z (by rw [e0]; intro z; cases z), fun h e => ?_⟩
  obtain rfl : h60 = h := Option.some.inj (e0.symm.trans e)
  rw [mub_h60]
  refine ⟨rfl, ?_⟩
  refine ⟨_, rfl, iteT ?_⟩
  walk_at "v"
  refine ⟨_, _, _, rfl, h3, rfl, ?_⟩
  refine fun wd hwd => ?_
  have g6 := g5.trans (Go.new (o := .dK []) hwd)
  have W4 := W3.go (Go.new (TL := TL K) (TG := TG K) (S := fun _ => False) (o := .dK []) hwd) id id (fun _ _ => id) (fun _ _ => id)
  refine ⟨r, d, Rk 60, fa, fb, wd, [], rfl, W4, upd_same, (ne_of_none hs3.dc hwd).symm, g6.tb tb, R60_wf, .nil, fun z => (by cases z), fun _ p H5 hp ep W5 g7 => ?_⟩
  rw [R60_burn, R60_fresh] at ep
  rw [R60_min] at W5
  refine ⟨(by decide), fun t3 ht3 => ?_⟩
  have s0 : SeqAt.shaped (PyData.tuple []) = true := by decide +kernel
  refine ⟨.tuple [], .tuple [], .tup (SqT.of (by rw [upd_ne (ne_of_none ep ht3)]; exact ep)) .nil, .tup (SqT.of upd_same) .nil, s0, s0, ?_⟩
  rw [eqv_same s0]
  refine ⟨_, rfl, iteT ?_⟩
  have W6 := W5.go (Go.new (TL := TL K) (TG := TG K) (S := fun _ => False) (o := .tup []) ht3) id id (fun _ _ => id) (fun _ _ => id)
  have tb6 : Tb (TL K) (TG K) (upd H5 t3 (.tup [])) := (Go.new (TL := TL K) (TG := TG K) (S := fun _ => False) ht3).tb (g7.tb (g6.tb tb))
  generalize upd H5 t3 (.tup []) = H6 at W6 tb6 ⊢
  obtain ⟨⟨dx6, h6⟩, hs6, _, _⟩ := id W6
  walk_at "v"
  refine ⟨_, _, _, rfl, h6, rfl, ?_⟩
  refine ⟨r, d, Rk 60, fa, fb, "a", rfl, W6, tb6, fun H7 g8 => ?_⟩
  rw [cold_heat fun p hp => by rw [(Rk_mem hp).1] <;> rfl]
  exact ⟨rfl, k H7⟩
end
end K3
namespace K3
open PySem PySem.Spec PyProof.Rows L2 Fy
open GxR (TabG Tabbed)
def sp_law (K : PySem.W.Frag) : Sp := fun vs H Q _ => ∃ (sa : Addr) (ns : List Int), vs = [.ref sa] ∧ SqL K H sa (ns.map V.int) ∧ Tb (TL K) (TG K) H ∧ ∀ H', Q (.bl true) H'
section
variable {P : Program} {w : World} {K : PySem.W.Frag} {mg : Str → Option Value} {base : Heap}
theorem ok_law (T : Txt K mg base) {fd : FuncData} (F : FunD K d_law.name d_law.qual d_law.params d_law.body d_law.scope (d_law.dvs K) (d_law.kws K) (He.fAd K d_law.at_) fd) : FnOk P w K mg base (L2.CX P w) 7 (He.fAd K d_law.at_) fd ["script"] (sp_law K) := by
  refine fnOk_of F sc_law (fun vs H Q E h => ?_) (fun A outer s H vs Q E hr h => ?_)
  · obtain ⟨sa, ns, rfl, _⟩ := h
    rfl
  obtain ⟨sa, ns, rfl, hs, tb, k⟩ := h
  obtain ⟨t0, p0, r0⟩ := law_outer (P := P) (w := w) (E0 := E) (H0 := H) T hr
  obtain ⟨t2, p2, r2⟩ := law_sixty (P := P) (w := w) (E0 := E) (H0 := H) T hr
  obtain ⟨t3, p3, r3⟩ := law_bad (P := P) (w := w) (E0 := E) (H0 := H) T hr
  obtain ⟨t4, p4, r4⟩ := law_ret (P := P) (w := w) (E0 := E) (H0 := H) T hr
  refine ⟨_, pss_cons p0 (pss_cons (ps_set (i := 5) sc_law.nd rfl (by first | exact Or.inl rfl | exact Or.inr rfl) (pg_make0 T.mk_Row (ok_Row_init T) (hr.mono (by decide)) rfl T.gl_Row px)) (pss_cons p2 (pss_cons p3 (pss_one p4)))), ?_⟩
  refine r0 _ H sa ns _ _ _ _ _ _ _ _ _ _ _ _ _ _ _ _ hs tb fun x1 x2 x3 x4 x5 x6 x7 x8 x9 x10 x11 x12 x13 x14 x15 x16 H1 tb1 => ?_
  refine fun r dx hr0 hdx ndr => ?_
  have gm : Go (TL K) (TG K) (fun _ => False) H1 (upd (upd H1 dx (.own r)) r (.ins (CRow K) dx [])) := (Go.new hdx).trans (Go.new (by rw [upd_ne ndr.symm]; exact hr0))
  refine ⟨r, dx, rfl, upd_same, fun d H3 hd e1 e2 g => ⟨rfl, ?_⟩⟩
  have D3 : RowAt (CRow K) H3 r d [] (fun _ => 0) (fun _ => 0) := ⟨⟨dx, e1⟩, ⟨e2, fun _ z => (by cases z), fun _ z => (by cases z), .nil⟩, fun _ z => (by cases z), fun _ z => (by cases z)⟩
  refine r2 _ H3 r d _ _ _ _ _ _ _ _ _ _ _ _ _ _ _ _ D3 (g.tb (gm.tb tb1)) fun x2' fa fb H4 D4 tb4 => ?_
  refine r3 _ H4 _ _ _ _ _ _ _ _ _ _ _ _ _ _ _ _ _ tb4 fun bd fs H5 e5 lf hB g5 => ?_
  exact r4 _ H5 r d bd fa fb fs _ _ _ _ _ _ _ _ _ _ _ _ _ _ _ (D4.go g5 id id (fun _ _ => id) (fun _ _ => id)) (g5.tb tb4) e5 lf hB k
end
end K3
namespace K3
open PySem PySem.Spec PyProof.Rows L2 Fy
open GxR (TabG Tabbed)
theorem law_at {l : PySem.W.OpenLaw} {w : World} {K : PySem.W.Frag} {h : Heap} {mg : Str → Option Value} {f : Addr} (KX : K.In h) (G : h.Ns mainGlobals mg) (c : He.SaysX fa fn [] tf ex w h K) (hmg : mg "law" = some (.ref f)) : LamX.LawAtS l w K (L2.CX l.prog w) 7 63 "script" mg f h := by
  have e0 : mg "law" = some (.ref (He.fAd K d_law.at_)) := He.glo_ok KX G (c.t.d.facts (f := .glo "law") (by simp [fa]))
  obtain ⟨fd, D⟩ := c.t.d.defs (d := d_law) (by simp [fn])
  have hf : f = He.fAd K d_law.at_ := Value.ref.inj (Option.some.inj (hmg.symm.trans e0))
  have hb := FunD.bindsA (ps := ["script"]) D fun _ _ _ _ _ _ us hl => match us, hl with | [_], _ => rfl
  refine lawAt_of (TL := TL K) (TG := TG K) (sp := sp_law K) KX c hf (fun s u => hb s [u] rfl) (fun q hq => ?_) (fun q hq => ?_) (fun H a ns h1 h2 h3 h4 => ⟨a, ns, rfl, h3, h4, fun _ => rfl⟩) fun base KB GB TB => ok_law (txt_of KX G c TB) D
  · obtain ⟨a, ha, e⟩ := tl_mem hq
    exact ⟨a, List.mem_append_left _ ha, e⟩
  · obtain ⟨a, ha, rfl⟩ := List.mem_map.mp hq
    exact ⟨a, List.mem_append_right _ ha, rfl⟩
end K3
set_option maxHeartbeats 0
open PySem PySem.W PySem.Calls PyProof.Rows
theorem PySem.Challenge.cw_firestack_k03_houses_that_burn_holds : PySem.Challenge.rw_firestack_k03_houses_that_burn.Holds := by
  w_on; o_law
  refine HandSHeadRun.head_any (r := K3.R) (q := view K3.R.prog [13]) (H := K3.hk) (ob := K3.ob) (M := 8000) (loose := K3.loose) (d := HandSHeadRun.topDef K3.R.prog 13) (kwd := []) K3.ob_eq
    (by kernel_rfl) (fun s => by kernel_rfl) K3.run (by kernel_rfl) (by kernel_rfl) (by kernel_rfl) (by rfl) (by first | assumption | decide +kernel) (by decide +kernel) ⟨rfl, rfl, rfl, rfl, rfl, by decide +kernel⟩ ?hw ?hc
  case hw => w_witness2
  case hc =>
    refine LamX.walk_ofTsE (l := PySem.Challenge.rw_firestack_k03_houses_that_burn) (n := 63) (k := 7) (x := "script") (CX := fun w => L2.CX (PySem.Challenge.rw_firestack_k03_houses_that_burn).prog w) rfl (by decide) (by kernel_rfl) ⟨rfl, by decide, by decide⟩ ?F (fun _ _ _ _ _ z => Fy.cx_false z)
    intro w mg fa h Y G hmg0
    obtain ⟨K, KX, c⟩ := Y
    have hmg : mg ("law" : PySem.Str) = some (.ref fa) := by
      have e : (HandSHeadRun.topDef K3.R.prog 13).name = ("law" : PySem.Str) := by kernel_rfl
      rw [← e]
      exact hmg0
    exact ⟨K, KX, K3.law_at KX G c hmg⟩
