import PyProof.Rows.All
import Wide.All
import OpenK.AllK
import Wide.FinOn
import HandS.ForMost
import HandS.Exc
import HandS.TryOnly
import HandS.ExcOwn
import HandS.WordsExc
import HandS.AnyAll
import HandS.Lambda
import PyProof.Rows.SeqGenD
import PyProof.TupleOfGen
import PyProof.SumAny
import KE.DataMinMax
import KE.SortData
import HandS.More
import HandS.Defaults
import HandS.HeadHook4
import HandS.HeadWalk
import HandS.NoneIn
import HandS.DictComp
import HandS.Wide
import HandS.DeepEq
import HandS.Style
import HandS.Walk
import PyProof.EqLayable
import PyProof.P3Eq
import HandS.TupAny
import HandS.NestedK
import PyProof.ConsumeS
import PyProof.DictValues
import PyProof.DictWalks
import PyProof.WalkInts
import HandS.Sort
import HandS.ListItems
import HandS.Small
import HandS.Head0
import HandS.Head1
import HandS.Head2
import HandS.HeadEnd
import KE.KStateDown
import PySem.Challenge.RW_firestack_k02_water_from_mains
set_option Elab.async false
set_option linter.all false
set_option maxRecDepth 100000
set_option maxHeartbeats 8000000
namespace Fy
open PySem PySem.Spec PyProof.Rows L2
/-- a quiet value: a plain one, or a tuple of plain ones that is new -/
inductive QV where
  | v (x : V)
  | t (xs : List V)
def RelQ (h : Heap) : QV → Value → Prop
  | .v x, u => RelV x u
  | .t xs, u => ∃ (a : Addr) (us : List Value), u = .ref a ∧ Vals xs us ∧ IsTup h a us.toArray
/-- the view out of a generator's frame -/
structure GV (P : Program) (w : World) (K : PySem.W.Frag) (cenv : Env) (N : List Str) (σ : L2.St) (H : Hp) (s : Shared) : Prop where
  kin : K.In s.heap
  kind : cenv.scope.kind = .function
  loc : ∃ m, s.heap.Ns cenv.locals m ∧ ∀ (i : Nat) (x : Str) (v : V), N[i]? = some x → σ[i]? = some (some v) → Vis cenv.scope x → ∃ u, RelV v u ∧ Look cenv s.heap m x u
  hok : HOk P w H s.heap
theorem kGet {s s' : Shared} (k : Keeps s s') : ∀ b o, s.heap.get? b = some o → s'.heap.get? b = some o := by
  obtain ⟨h, t, rfl, k⟩ := k
  exact k
theorem kRfl (s : Shared) : Keeps s s := ⟨s.heap, s.toks, rfl, fun _ _ e => e⟩
theorem kTok (s : Shared) (k : Nat) : Keeps s { s with toks := k } := ⟨s.heap, k, rfl, fun _ _ e => e⟩
theorem kTr {s s' s'' : Shared} (a : Keeps s s') (b : Keeps s' s'') : Keeps s s'' := by
  obtain ⟨h, t, rfl, k⟩ := a
  obtain ⟨h2, t2, rfl, k2⟩ := b
  exact ⟨h2, t2, rfl, fun b o e => k2 b o (k b o e)⟩
theorem RelQ.keeps {h h' : Heap} {q : QV} {u : Value} (r : RelQ h q u) (k : ∀ b o, h.get? b = some o → h'.get? b = some o) : RelQ h' q u := by
  cases q with
  | v x => exact r
  | t xs =>
    obtain ⟨a, us, e, rv, ob, ho, c⟩ := r
    exact ⟨a, us, e, rv, ob, k _ _ ho, c⟩
section
variable {P : Program} {w : World} {K : PySem.W.Frag} {cenv : Env} {N : List Str}
theorem GV.keeps {σ : L2.St} {H : Hp} {s s' : Shared} (g : GV P w K cenv N σ H s) (k : Keeps s s') : GV P w K cenv N σ H s' := by
  have kk := kGet k
  refine ⟨g.kin.keeps kk, g.kind, ?_, g.hok.kept kk⟩
  obtain ⟨m, hn, hl⟩ := g.loc
  refine ⟨m, hn.keeps kk, fun i x v e1 e2 e3 => ?_⟩
  obtain ⟨u, r, l⟩ := hl i x v e1 e2 e3
  refine ⟨u, r, ?_⟩
  rcases l with l | ⟨h1, c, h2, o, ho, hd⟩
  · exact .inl l
  · exact .inr ⟨h1, c, h2, o, kk _ _ ho, hd⟩
abbrev QT := L2.St → Hp → (QV → Prop) → Prop
abbrev QB := L2.St → Hp → (Bool → Prop) → Prop
/-- an element -/
structure QE (P : Program) (w : World) (K : PySem.W.Frag) (cenv : Env) (N : List Str) (e : Expr) (t : QT) : Prop where
  run : ∀ (A : Around) (E : Value → Shared → Prop) (s : Shared) (σ : L2.St) (H : Hp) (R : QV → Prop), A.handled = none → A.units + 1 < cLine → GV P w K cenv N σ H s → t σ H R →
    wpAny (model P w) A (eval e cenv) (fun y s' => Keeps s s' ∧ ∃ q, RelQ s'.heap q y ∧ R q) E s
/-- a test, whatever its whole is -/
structure QW (P : Program) (w : World) (K : PySem.W.Frag) (cenv : Env) (N : List Str) (e : Expr) (t : QB) : Prop where
  run : ∀ (whole : Sem Value) (A : Around) (E : Value → Shared → Prop) (s : Shared) (σ : L2.St) (H : Hp) (R : Bool → Prop), A.handled = none → A.units + 1 < cLine → GV P w K cenv N σ H s → t σ H R →
    wpAny (model P w) A (isTrue e cenv whole) (fun b s' => Keeps s s' ∧ R b) E s
structure QB' (P : Program) (w : World) (K : PySem.W.Frag) (cenv : Env) (N : List Str) (e : Expr) (t : QB) : Prop where
  run : ∀ (A : Around) (E : Value → Shared → Prop) (s : Shared) (σ : L2.St) (H : Hp) (R : Bool → Prop), A.handled = none → A.units + 1 < cLine → GV P w K cenv N σ H s → t σ H R →
    wpAny (model P w) A (isTrue e cenv (eval e cenv)) (fun b s' => Keeps s s' ∧ R b) E s
theorem QW.b {e : Expr} {t : QB} (h : QW P w K cenv N e t) : QB' P w K cenv N e t := ⟨h.run _⟩
def qVar (i : Nat) : QT := fun σ _ R => ∃ v, σ[i]? = some (some v) ∧ R (.v v)
def qC (v : V) : QT := fun _ _ R => R (.v v)
theorem q_var (i : Nat) {x : Str} {pos : Pos} (hN : N[i]? = some x := by rfl) (hv : Vis cenv.scope x := by first | exact Or.inl rfl | exact Or.inr (Or.inl rfl) | exact Or.inr (Or.inr rfl)) (hd : (x == ("__debug__" : Str)) = false := by decide) (hcd : (x == ("__classdict__" : Str)) = false := by decide) : QE P w K cenv N (.Name x pos) (qVar i) := by
  refine ⟨fun A E s σ H R hh hu g h => ?_⟩
  obtain ⟨v, e, h⟩ := h
  obtain ⟨m, hn, hl⟩ := g.loc
  obtain ⟨u, r, l⟩ := hl i x v hN e hv
  have fin : Keeps s s ∧ ∃ q, RelQ s.heap q u ∧ R q := ⟨kRfl s, .v v, r, h⟩
  rcases l with ⟨hk, hm⟩ | ⟨hk, c, hc, hcell⟩
  · exact wpAny_Name (wpAny_loadName_local g.kind hk hn hm fin) hd
  · rcases hk with hk | hk
    · exact wpAny_Name (wpAny_loadName_cell g.kind hk hc hcell fin) hd
    · exact wpAny_Name (wpAny_loadName_free g.kind hk hc hcell fin hcd) hd
theorem q_int {i : Int} {j : Nat} {pos : Pos} : QE P w K cenv N (.Constant (.int i) j pos) (qC (.int i)) := ⟨fun _ _ s _ _ _ _ _ _ h => wpAny_Constant_int ⟨kTok s _, .v (.int i), ⟨_, rfl⟩, h⟩⟩
theorem q_non {j : Nat} {pos : Pos} : QE P w K cenv N (.Constant .none j pos) (qC .non) := ⟨fun _ _ s _ _ _ _ _ _ h => Constant_none ⟨kRfl s, .v .non, rfl, h⟩⟩
theorem q_str {x : Str} {j : Nat} {pos : Pos} : QE P w K cenv N (.Constant (.str x) j pos) (qC (.str x)) := ⟨fun _ _ s _ _ _ _ _ _ h => Calls.Constant_str ⟨kTok s _, .v (.str x), ⟨_, rfl⟩, h⟩⟩
/-- two in a row, plain values -/
theorem qbin {a b : Expr} {ta tb : QT} (ha : QE P w K cenv N a ta) (hb : QE P w K cenv N b tb) {A : Around} {E : Value → Shared → Prop} {s : Shared} {σ : L2.St} {H : Hp} {R : QV → QV → Prop} (hh : A.handled = none) (hu : A.units + 1 < cLine) (g : GV P w K cenv N σ H s)
    (h : ta σ H fun x => tb σ H fun y => R x y) {α : Type} {Q : α → Shared → Prop} {f : Value → Value → Sem α}
    (hf : ∀ v u s2 x y, Keeps s s2 → GV P w K cenv N σ H s2 → RelQ s2.heap x v → RelQ s2.heap y u → R x y → wpAny (model P w) A (f v u) Q E s2) :
    wpAny (model P w) A (eval a cenv) (fun v s₁ => wpAny (model P w) A (eval b cenv) (fun u s₂ => wpAny (model P w) A (f v u) Q E s₂) E s₁) E s := by
  refine thn (ha.run A E s σ H _ hh hu g h) fun v s1 ⟨k1, x, r1, q1⟩ => ?_
  refine thn (hb.run A E s1 σ H _ hh hu (g.keeps k1) q1) fun u s2 ⟨k2, y, r2, q2⟩ => ?_
  exact hf v u s2 x y (kTr k1 k2) (g.keeps (kTr k1 k2)) (r1.keeps (kGet k2)) r2 q2
def qFld (K : PySem.W.Frag) (ta : QT) (f : Str) : QT := fun σ H R => ta σ H fun x => ∃ a C dx fs v, x = .v (.ref a) ∧ H a = some (.ins C dx fs) ∧ Cls K C ∧ NoAttr K C f ∧ fs.lookup f = some v ∧ R (.v v)
theorem q_fld {e : Expr} {f : Str} {pos : Pos} {ta : QT} (he : QE P w K cenv N e ta) (hb : attributeBase e f cenv (eval e cenv) = eval e cenv := by rfl) : QE P w K cenv N (.Attribute e f pos) (qFld K ta f) := by
  refine ⟨fun A E s σ H R hh hu g h => ?_⟩
  refine attr_of hb (thn (he.run A E s σ H _ hh hu g h) fun u s1 ⟨k1, x, rx, a, C, dx, fs, v, ex, ea, c, n, l, q⟩ => ?_)
  subst ex
  obtain rfl : u = Value.ref a := rx
  have g1 := g.keeps k1
  obtain ⟨mA, O, r, _, _, _⟩ := ins_get g1.hok ea
  obtain ⟨u', hu, ru⟩ := RelO.some_of (v := v) (o := mA f) (by rw [← l]; exact r f)
  exact get_map g1.kin O (c.get f) c.hd n hu (handed_of ru) ⟨kTr k1 (kTok _ _), .v v, ru, q⟩
def qGet (td ty : QT) : QT := fun σ H R => td σ H fun x => ty σ H fun y => ∃ (a : Addr) (kvs : List (Key × V)) (k : Key) (v : V), x = .v (.ref a) ∧ y = .v (kV k) ∧ Rd H a (.dK kvs) ∧ valV kvs k = some v ∧ R (.v v)
theorem q_get {o i : Expr} {pos : Pos} {td ty : QT} (ho : QE P w K cenv N o td) (hi : QE P w K cenv N i ty) (hs : NoSl i := by intro _ _; rfl) : QE P w K cenv N (.Subscript o i pos) (qGet td ty) := by
  refine ⟨fun A E s σ H R hh hu g h => ?_⟩
  refine subD_of PySem.F.slot_dict_getitem.lookup hs ?_
  refine thn (ho.run A E s σ H _ hh hu g h) fun v s1 ⟨k1, x, r1, q1⟩ => ?_
  refine thn (hi.run A E s1 σ H _ hh hu (g.keeps k1) q1) fun u s2 ⟨k2, y, r2, q2⟩ => ?_
  obtain ⟨a, kvs, k, z, rfl, rfl, e, l, q⟩ := q2
  obtain rfl : v = Value.ref a := r1
  have g2 := g.keeps (kTr k1 k2)
  obtain ⟨zz, hd, vs, rel, dd⟩ := dk_rd g2.hok e
  obtain ⟨w', hw, rw'⟩ := RelO.some_of (v := z) (o := valueAt vs k) (by rw [← l]; exact rel.val k)
  exact ⟨dd.typeIs, wpAny_getItem_of (kV_is r2) dd.mapOf hw ⟨kTr (kTr k1 k2) (kTok _ _), .v z, rw', q⟩⟩
/-- xs[i], a list or a tuple, the place not below 0 -/
def qIx (K : PySem.W.Frag) (td ty : QT) : QT := fun σ H R => td σ H fun x => ty σ H fun y => ∃ (a : Addr) (xs : List V) (i : Nat) (v : V), x = .v (.ref a) ∧ y = .v (.int i) ∧ (SqL K H a xs ∨ SqT K H a xs) ∧ xs[i]? = some v ∧ R (.v v)
theorem GV.list {σ : L2.St} {H : Hp} {s : Shared} {a : Addr} {xs : List V} (I : GV P w K cenv N σ H s) (h : SqL K H a xs) : ∃ its : List Value, Vals xs its ∧ PlainL s.heap a its.toArray ∧ xs.length ≤ sizeLine := by
  rcases h with h | ⟨o, its, n, hk, hc, hd, hs, hz, r⟩
  · obtain ⟨z, its, n, r, e⟩ := h.ok I.hok
    exact ⟨its, r, ⟨_, n, e, rfl, rfl, rfl⟩, z⟩
  · refine ⟨its.toList, r, ⟨o, n, I.kin a o hk, hc, hd, by simpa using hs⟩, ?_⟩
    have e := r.length
    simp only [Array.length_toList] at e
    omega
theorem GV.tuple {σ : L2.St} {H : Hp} {s : Shared} {a : Addr} {xs : List V} (I : GV P w K cenv N σ H s) (h : SqT K H a xs) : ∃ its : List Value, Vals xs its ∧ IsTup s.heap a its.toArray ∧ xs.length ≤ sizeLine := by
  rcases h with h | ⟨o, its, n, hk, hc, hs, hz, r⟩
  · obtain ⟨z, its, r, p⟩ := h.ok I.hok
    exact ⟨its, r, p, z⟩
  · refine ⟨its.toList, r, ⟨o, I.kin a o hk, hc, n, by simpa using hs⟩, ?_⟩
    have e := r.length
    simp only [Array.length_toList] at e
    omega
theorem q_ix {o i : Expr} {pos : Pos} {td ty : QT} (ho : QE P w K cenv N o td) (hi : QE P w K cenv N i ty) (hs : PlainIx i := by intro _ _; rfl) : QE P w K cenv N (.Subscript o i pos) (qIx K td ty) := by
  refine ⟨fun A E s σ H R hh hu g h => ?_⟩
  refine Subscript_ ?_
  refine thn (ho.run A E s σ H _ hh hu g h) fun v s1 ⟨k1, x, r1, q1⟩ => ?_
  refine thn (hi.run A E s1 σ H _ hh hu (g.keeps k1) q1) fun u s2 ⟨k2, y, r2, q2⟩ => ?_
  obtain ⟨a, xs, j, z, rfl, rfl, hq, e, q⟩ := q2
  obtain rfl : v = Value.ref a := r1
  obtain ⟨t, rfl⟩ := r2
  have g2 := g.keeps (kTr k1 k2)
  have hn := line63
  rcases hq with hq | hq
  · obtain ⟨its, r, pl, hz⟩ := g2.list hq
    obtain ⟨w', ew, rw'⟩ := r.get e
    have hl := r.length
    have hj : j < xs.length := (List.getElem?_eq_some_iff.mp e).1
    exact item_listR pl.isList (by omega) (by omega) (by simpa using ew) ⟨kTr k1 k2, .v z, rw', q⟩ (hs _ _)
  · obtain ⟨its, r, pl, hz⟩ := g2.tuple hq
    obtain ⟨w', ew, rw'⟩ := r.get e
    have hl := r.length
    have hj : j < xs.length := (List.getElem?_eq_some_iff.mp e).1
    exact subscriptTail_builtinR (x := w') pl.typeIs slot_tuple_getitem.lookup
      (getItem_tuple (j := j) (Q := fun r s' => r = w' ∧ (Keeps s s' ∧ ∃ q, RelQ s'.heap q r ∧ R q)) pl (by omega) (by omega) (by rw [List.size_toArray, ← hl, seqIndex_of (by omega) (by omega)]; simp) (by simpa using ew) ⟨rfl, kTr k1 k2, .v z, rw', q⟩) (hs _ _)
/-- d[(x, y)], a dict whose keys are tuples; the key is made new -/
def qGetT (td ty : QT) : QT := fun σ H R => td σ H fun x => ty σ H fun y => ∃ (a : Addr) (kvs : List (List Key × V)) (k : List Key) (v : V), x = .v (.ref a) ∧ y = .t (k.map kV) ∧ Rd H a (.dT kvs) ∧ valV kvs k = some v ∧ R (.v v)
theorem q_getT {o i : Expr} {pos : Pos} {td ty : QT} (ho : QE P w K cenv N o td) (hi : QE P w K cenv N i ty) (hs : NoSl i := by intro _ _; rfl) : QE P w K cenv N (.Subscript o i pos) (qGetT td ty) := by
  refine ⟨fun A E s σ H R hh hu g h => ?_⟩
  refine subD_of PySem.F.slot_dict_getitem.lookup hs ?_
  refine thn (ho.run A E s σ H _ hh hu g h) fun v s1 ⟨k1, x, r1, q1⟩ => ?_
  refine thn (hi.run A E s1 σ H _ hh hu (g.keeps k1) q1) fun u s2 ⟨k2, y, r2, q2⟩ => ?_
  obtain ⟨a, kvs, k, z, rfl, rfl, e, l, q⟩ := q2
  obtain rfl : v = Value.ref a := r1
  obtain ⟨b, us, rfl, rv, it⟩ := r2
  have g2 := g.keeps (kTr k1 k2)
  obtain ⟨zz, hd, xs, rel, dd⟩ := dt_rd g2.hok e
  obtain ⟨w', hw, rw'⟩ := RelO.some_of (v := z) (o := (atKey xs k).map (·.2)) (by rw [← l]; exact rel.val k)
  obtain ⟨p, hp, hp2⟩ := Option.map_eq_some_iff.mp hw
  have ik : (tupleKind (mixKind P w)).is s2.heap k b := by
    obtain ⟨o, h1, h2, n, h3⟩ := it
    exact ⟨o, us.toArray, n, h1, h2, h3, by simpa using items_are rv⟩
  refine ⟨dd.typeIs, wpAny_getItem_heap (tupleKind_room_in1 hu) ik dd hp ?_⟩
  rw [hp2]
  exact ⟨kTr (kTr k1 k2) (kTok _ _), .v z, rw', q⟩
def qOp (r : V → V → Hp → (V → Prop) → Prop) (ta tb : QT) : QT := fun σ H R => ta σ H fun x => tb σ H fun y => ∃ a b, x = .v a ∧ y = .v b ∧ r a b H fun z => R (.v z)
/-- a rule for two values -/
def OpQ (P : Program) (w : World) (K : PySem.W.Frag) (cenv : Env) (N : List Str) (f : Value → Value → Sem Value) (r : V → V → Hp → (V → Prop) → Prop) : Prop :=
  ∀ (A : Around) (E : Value → Shared → Prop) (s : Shared) (σ : L2.St) (H : Hp) (x y : V) (v u : Value) (R : V → Prop), A.handled = none → A.units + 1 < cLine → GV P w K cenv N σ H s → RelV x v → RelV y u → r x y H R →
    wpAny (model P w) A (f v u) (fun c s' => Keeps s s' ∧ ∃ z, RelV z c ∧ R z) E s
theorem q_op {op : Operator} {a b : Expr} {pos : Pos} {r : V → V → Hp → (V → Prop) → Prop} {ta tb : QT} (ho : OpQ P w K cenv N (binaryOp op) r) (ha : QE P w K cenv N a ta) (hb : QE P w K cenv N b tb) : QE P w K cenv N (.BinOp a op b pos) (qOp r ta tb) := by
  refine ⟨fun A E s σ H R hh hu g h => ?_⟩
  refine wpAny_BinOp (qbin ha hb hh hu g h fun v u s2 x y k2 g2 rx ry q => ?_)
  obtain ⟨a', b', rfl, rfl, q⟩ := q
  exact thn (ho A E s2 σ H a' b' v u _ hh hu g2 rx ry q) fun c s3 ⟨k3, z, rz, qz⟩ => ⟨kTr k2 k3, .v z, rz, qz⟩
def qrI (f : Int → Int → Int) : V → V → Hp → (V → Prop) → Prop := fun x y _ R => ∃ i j, x = .int i ∧ y = .int j ∧ R (.int (f i j))
def qrB (f : Int → Int → Bool) : V → V → Hp → (V → Prop) → Prop := fun x y _ R => ∃ i j, x = .int i ∧ y = .int j ∧ R (.bl (f i j))
theorem oq_sub : OpQ P w K cenv N (binaryOp .Sub) (qrI fun i j => i - j) := by
  rintro A E s σ H x y v u R hh hu g rx ry ⟨i, j, rfl, rfl, q⟩
  obtain ⟨t, rfl⟩ := rx
  obtain ⟨t', rfl⟩ := ry
  exact sub_int ⟨kTok s _, .int _, ⟨_, rfl⟩, q⟩
theorem oq_add : OpQ P w K cenv N (binaryOp .Add) (qrI fun i j => i + j) := by
  rintro A E s σ H x y v u R hh hu g rx ry ⟨i, j, rfl, rfl, q⟩
  obtain ⟨t, rfl⟩ := rx
  obtain ⟨t', rfl⟩ := ry
  exact add_int ⟨kTok s _, .int _, ⟨_, rfl⟩, q⟩
theorem fin_q {R : V → Prop} {s : Shared} {k k' : Bool} (q : R (.bl k)) (e : k = k') : Keeps s s ∧ ∃ z, RelV z (.bool k') ∧ R z := by
  subst e
  exact ⟨kRfl s, .bl k, rfl, q⟩
theorem oq_lt : OpQ P w K cenv N (compareOp .Lt) (qrB fun i j => decide (i < j)) := by
  rintro A E s σ H x y v u R hh hu g rx ry ⟨i, j, rfl, rfl, q⟩
  obtain ⟨t, rfl⟩ := rx
  obtain ⟨t', rfl⟩ := ry
  exact lt_int (fin_q q rfl)
theorem oq_le : OpQ P w K cenv N (compareOp .LtE) (qrB fun i j => decide (i ≤ j)) := by
  rintro A E s σ H x y v u R hh hu g rx ry ⟨i, j, rfl, rfl, q⟩
  obtain ⟨t, rfl⟩ := rx
  obtain ⟨t', rfl⟩ := ry
  exact le_int (fin_q q rfl)
theorem oq_gt : OpQ P w K cenv N (compareOp .Gt) (qrB fun i j => decide (j < i)) := by
  rintro A E s σ H x y v u R hh hu g rx ry ⟨i, j, rfl, rfl, q⟩
  obtain ⟨t, rfl⟩ := rx
  obtain ⟨t', rfl⟩ := ry
  exact gt_int (fin_q q rfl)
/-- == of plain values: ints, texts, None, bools -/
theorem oq_eq : OpQ P w K cenv N (compareOp .Eq) (fun x y _ R => scal x y = true ∧ R (.bl (decide (x = y)))) := by
  rintro A E s σ H x y v u R hh hu g rx ry ⟨hs, q⟩
  cases x with
  | non =>
    cases rx
    cases y with
    | non => cases ry; exact PySem.EqNone.eq_none_none (fin_q q (by simp))
    | bl j => cases ry; exact PySem.EqNone.eq_none_bool (fin_q q (by simp))
    | int j => obtain ⟨t', rfl⟩ := ry; exact PySem.EqNone.eq_none_int (fin_q q (by simp))
    | str j => obtain ⟨t', rfl⟩ := ry; exact PySem.EqNone.eq_none_str (fin_q q (by simp))
    | _ => exact absurd (show false = true from hs) Bool.false_ne_true
  | int i =>
    obtain ⟨t, rfl⟩ := rx
    cases y with
    | non => cases ry; exact PySem.EqNone.eq_int_none (fin_q q (by simp))
    | int j => obtain ⟨t', rfl⟩ := ry; exact eq_int (fin_q q dec_int)
    | str j => obtain ⟨t', rfl⟩ := ry; exact PySem.EqMixed.eq_int_str (fin_q q (by simp))
    | _ => exact absurd (show false = true from hs) Bool.false_ne_true
  | str i =>
    obtain ⟨t, rfl⟩ := rx
    cases y with
    | non => cases ry; exact PySem.EqNone.eq_str_none (fin_q q (by simp))
    | bl j => cases ry; exact PySem.EqMixed.eq_str_bool (fin_q q (by simp))
    | int j => obtain ⟨t', rfl⟩ := ry; exact PySem.EqMixed.eq_str_int (fin_q q (by simp))
    | str j => obtain ⟨t', rfl⟩ := ry; exact eq_str (fin_q q dec_str)
    | _ => exact absurd (show false = true from hs) Bool.false_ne_true
  | bl i =>
    cases rx
    cases y with
    | non => cases ry; exact PySem.EqNone.eq_bool_none (fin_q q (by simp))
    | bl j => cases ry; exact eq_bool (fin_q q dec_bl)
    | str j => obtain ⟨t', rfl⟩ := ry; exact PySem.EqMixed.eq_bool_str (fin_q q (by simp))
    | _ => exact absurd (show false = true from hs) Bool.false_ne_true
  | byt i =>
    obtain ⟨t, rfl⟩ := rx
    cases y with
    | byt j => obtain ⟨t', rfl⟩ := ry; exact PySem.W.eq_bytes (fin_q q dec_byt)
    | _ => exact absurd (show false = true from hs) Bool.false_ne_true
  | _ => cases y <;> exact absurd (show false = true from hs) Bool.false_ne_true
theorem oq_isN : OpQ P w K cenv N (compareOp .Is) (fun x y _ R => y = .non ∧ R (.bl (decide (x = .non)))) := by
  rintro A E s σ H x y v u R hh hu g rx ry ⟨rfl, q⟩
  cases ry
  exact is_none_gen (fin_q q rx.none_iff.symm)
theorem oq_notN : OpQ P w K cenv N (compareOp .IsNot) (fun x y _ R => y = .non ∧ R (.bl (!decide (x = .non)))) := by
  rintro A E s σ H x y v u R hh hu g rx ry ⟨rfl, q⟩
  cases ry
  exact isnot_none_gen (fin_q q (by rw [rx.none_iff]))
/-- k in d, k not in d: a dict of ints and texts -/
theorem oq_din : OpQ P w K cenv N (compareOp .In) (fun x y H R => ∃ (a : Addr) (kvs : List (Key × V)) (k : Key), y = .ref a ∧ x = kV k ∧ Rd H a (.dK kvs) ∧ R (.bl (valV kvs k).isSome)) := by
  rintro A E s σ H x y v u R hh hu g rx ry ⟨a, kvs, k, rfl, rfl, e, q⟩
  obtain rfl : u = Value.ref a := ry
  obtain ⟨z, hd, vs, rel, dd⟩ := dk_rd g.hok e
  refine wpAny_in_of (kV_is rx) hd dd.mapOf ⟨kTok s _, .bl _, rfl, ?_⟩
  rw [← (rel.val k).isSome_eq]
  exact q
theorem oq_dnotin : OpQ P w K cenv N (compareOp .NotIn) (fun x y H R => ∃ (a : Addr) (kvs : List (Key × V)) (k : Key), y = .ref a ∧ x = kV k ∧ Rd H a (.dK kvs) ∧ R (.bl (!(valV kvs k).isSome))) := by
  rintro A E s σ H x y v u R hh hu g rx ry ⟨a, kvs, k, rfl, rfl, e, q⟩
  obtain rfl : u = Value.ref a := ry
  obtain ⟨z, hd, vs, rel, dd⟩ := dk_rd g.hok e
  refine wpAny_notIn_of (kV_is rx) hd dd.mapOf ⟨kTok s _, .bl _, rfl, ?_⟩
  rw [← (rel.val k).isSome_eq]
  exact q
/-- x in xs, x not in xs: a list of plain values -/
theorem oq_lin : OpQ P w K cenv N (compareOp .In) (fun x y H R => ∃ (a : Addr) (xs : List V), y = .ref a ∧ SqL K H a xs ∧ flatV x = true ∧ xs.all flatV = true ∧ R (.bl (inV x xs))) := by
  rintro A E s σ H x y v u R hh hu g rx ry ⟨a, xs, rfl, hq, fx, fs, q⟩
  obtain rfl : u = Value.ref a := ry
  obtain ⟨its, r, pl, hz⟩ := g.list hq
  refine SeqAt.in_listAt (eqU x) pl.isList (fun w hw => mem_eqAt rx fx r fs w (by simpa using hw)) ⟨kRfl s, .bl _, rfl, ?_⟩
  rw [show its.toArray.any (eqU x) = its.any (eqU x) by simp, any_eqU r fs]
  exact q
theorem oq_lnotin : OpQ P w K cenv N (compareOp .NotIn) (fun x y H R => ∃ (a : Addr) (xs : List V), y = .ref a ∧ SqL K H a xs ∧ flatV x = true ∧ xs.all flatV = true ∧ R (.bl (!inV x xs))) := by
  rintro A E s σ H x y v u R hh hu g rx ry ⟨a, xs, rfl, hq, fx, fs, q⟩
  obtain rfl : u = Value.ref a := ry
  obtain ⟨its, r, pl, hz⟩ := g.list hq
  refine SeqAt.notIn_listAt (eqU x) pl.isList (fun w hw => mem_eqAt rx fx r fs w (by simpa using hw)) ⟨kRfl s, .bl _, rfl, ?_⟩
  rw [show its.toArray.any (eqU x) = its.any (eqU x) by simp, any_eqU r fs]
  exact q
theorem q_cmp {op : CmpOp} {a b : Expr} {pos : Pos} {r : V → V → Hp → (V → Prop) → Prop} {ta tb : QT} (ho : OpQ P w K cenv N (compareOp op) r) (ha : QE P w K cenv N a ta) (hb : QE P w K cenv N b tb) (hm : behindInMarks op b = false := by first | exact nobehind _ (by decide) (by decide) | rfl) :
    QE P w K cenv N (.Compare a [op] [b] pos) (qOp r ta tb) := by
  refine ⟨fun A E s σ H R hh hu g h => ?_⟩
  refine wpAny_Compare1 (qbin ha hb hh hu g h fun v u s2 x y k2 g2 rx ry q => ?_) hm
  obtain ⟨a', b', rfl, rfl, q⟩ := q
  exact thn (ho A E s2 σ H a' b' v u _ hh hu g2 rx ry q) fun c s3 ⟨k3, z, rz, qz⟩ => ⟨kTr k2 k3, .v z, rz, qz⟩
/-- .. as a test -/
def qTst (t : QT) : QB := fun σ H R => t σ H fun x => ∃ k, x = .v (.bl k) ∧ R k
theorem qt_cmp {op : CmpOp} {a b : Expr} {pos : Pos} {r : V → V → Hp → (V → Prop) → Prop} {ta tb : QT} (ho : OpQ P w K cenv N (compareOp op) r) (ha : QE P w K cenv N a ta) (hb : QE P w K cenv N b tb) (hm : behindInMarks op b = false := by first | exact nobehind _ (by decide) (by decide) | rfl) :
    QB' P w K cenv N (.Compare a [op] [b] pos) (qTst (qOp r ta tb)) := by
  refine ⟨fun A E s σ H R hh hu g h => ?_⟩
  refine wpAny_isTrue_Compare1 (qbin ha hb hh hu g h fun v u s2 x y k2 g2 rx ry q => ?_) hm
  obtain ⟨a', b', rfl, rfl, q⟩ := q
  refine thn (ho A E s2 σ H a' b' v u _ hh hu g2 rx ry q) fun c s3 ⟨k3, z, rz, k, ez, qz⟩ => ?_
  cases ez
  cases rz
  exact wpAny_truthy_bool ⟨kTr k2 k3, qz⟩
def qAnd (t u : QB) : QB := fun σ H R => t σ H fun c => if c = true then u σ H R else R false
def qOr (t u : QB) : QB := fun σ H R => t σ H fun c => if c = true then R true else u σ H R
theorem qw_and1 {a : Expr} {pos : Pos} {ta : QB} (ha : QB' P w K cenv N a ta) : QW P w K cenv N (.BoolOp .And [a] pos) ta := by
  refine ⟨fun wh A E s σ H R hh hu g h => isTrue_and (thn (ha.run A E s σ H R hh hu g h) fun c s1 e => ?_)⟩
  cases c with
  | true => exact isTrue_and_nil e
  | false => exact e
theorem qw_and {a b : Expr} {rest : List Expr} {pos : Pos} {ta tb : QB} (ha : QB' P w K cenv N a ta) (hb : QW P w K cenv N (.BoolOp .And (b :: rest) pos) tb) : QW P w K cenv N (.BoolOp .And (a :: b :: rest) pos) (qAnd ta tb) := by
  refine ⟨fun wh A E s σ H R hh hu g h => isTrue_and (thn (ha.run A E s σ H _ hh hu g h) fun c s1 e => ?_)⟩
  obtain ⟨k, q⟩ := e
  cases c with
  | true => exact thn (hb.run wh A E s1 σ H R hh hu (g.keeps k) q) fun d s2 ⟨k2, q2⟩ => ⟨kTr k k2, q2⟩
  | false => exact ⟨k, q⟩
/-- and, or as values of truth values -/
def qAndV (ta tb : QT) : QT := fun σ H R => ta σ H fun x => ∃ c, x = .v (.bl c) ∧ if c = true then tb σ H R else R (.v (.bl false))
def qOrV (ta tb : QT) : QT := fun σ H R => ta σ H fun x => ∃ c, x = .v (.bl c) ∧ if c = true then R (.v (.bl true)) else tb σ H R
theorem q_one {op} {a : Expr} {pos : Pos} {t : QT} (h : QE P w K cenv N a t) : QE P w K cenv N (.BoolOp op [a] pos) t := ⟨fun A E s σ H R hh hu g hw => BoolOp_one (h.run A E s σ H R hh hu g hw)⟩
theorem q_and {a b : Expr} {rest : List Expr} {pos : Pos} {ta tb : QT} (ha : QE P w K cenv N a ta) (hb : QE P w K cenv N (.BoolOp .And (b :: rest) pos) tb) : QE P w K cenv N (.BoolOp .And (a :: b :: rest) pos) (qAndV ta tb) := by
  refine ⟨fun A E s σ H R hh hu g h => BoolOp_and (thn (ha.run A E s σ H _ hh hu g h) fun v s1 ⟨k, x, r1, c, ex, q1⟩ => ?_)⟩
  subst ex
  cases r1
  refine wpAny_truthy_bool ?_
  cases c with
  | true => exact thn (hb.run A E s1 σ H R hh hu (g.keeps k) q1) fun d s2 ⟨k2, q2⟩ => ⟨kTr k k2, q2⟩
  | false => exact ⟨k, .v (.bl false), rfl, q1⟩
theorem q_or {a b : Expr} {rest : List Expr} {pos : Pos} {ta tb : QT} (ha : QE P w K cenv N a ta) (hb : QE P w K cenv N (.BoolOp .Or (b :: rest) pos) tb) : QE P w K cenv N (.BoolOp .Or (a :: b :: rest) pos) (qOrV ta tb) := by
  refine ⟨fun A E s σ H R hh hu g h => BoolOp_or (thn (ha.run A E s σ H _ hh hu g h) fun v s1 ⟨k, x, r1, c, ex, q1⟩ => ?_)⟩
  subst ex
  cases r1
  refine wpAny_truthy_bool ?_
  cases c with
  | false => exact thn (hb.run A E s1 σ H R hh hu (g.keeps k) q1) fun d s2 ⟨k2, q2⟩ => ⟨kTr k k2, q2⟩
  | true => exact ⟨k, .v (.bl true), rfl, q1⟩
def qTup2 (ta tb : QT) : QT := fun σ H R => ta σ H fun x => tb σ H fun y => ∃ a b, x = .v a ∧ y = .v b ∧ R (.t [a, b])
theorem q_tup2 {a b : Expr} {j : Nat} {pos : Pos} {ta tb : QT} (ha : QE P w K cenv N a ta) (hb : QE P w K cenv N b tb)
    (hs : starEach [a, b] cenv = [(false, eval a cenv), (false, eval b cenv)] := by rfl) : QE P w K cenv N (.Tuple [a, b] j pos) (qTup2 ta tb) := by
  refine ⟨fun A E s σ H R hh hu g h => ?_⟩
  refine Tuple_ ?_
  rw [hs]
  show wpAny _ _ (spliced (backTo pos [(false, eval a cenv), (false, eval b cenv)])) _ _ s
  refine Calls.spliced_cons (thn (ha.run A E s σ H _ hh hu g h) fun v s1 ⟨k1, x, r1, q1⟩ => ?_)
  refine Calls.spliced_cons (thn (hb.run A E s1 σ H _ hh hu (g.keeps k1) q1) fun u s2 ⟨k2, y, r2, q2⟩ => ?_)
  refine Calls.spliced_nil ?_
  obtain ⟨p, q, rfl, rfl, qq⟩ := q2
  refine wpAny_newObj_type ?_ (by show 2 ≤ sizeLine; decide)
  have kp : Keeps s2 { s2 with heap := s2.heap.push { cls := .type "tuple", data := .seq [v, u].toArray } } := ⟨_, s2.toks, rfl, fun b o e => Heap.get?_push_of_some _ e⟩
  exact ⟨kTr (kTr k1 k2) kp, .t [p, q], ⟨_, [v, u], rfl, .cons r1 (.cons r2 .nil), IsTup.new s2.heap _⟩, qq⟩
end
end Fy
namespace Fy
open PySem PySem.Spec PyProof.Rows L2
open GxR (TabG Tabbed inv_tab sh_eta)
/-- what a value gives when it is walked -/
def Src (K : PySem.W.Frag) (H : Hp) (x : V) (items : List V) : Prop :=
  ∃ a, x = .ref a ∧ (SqL K H a items ∨ SqT K H a items ∨ ∃ kvs : List (Key × V), Rd H a (.dK kvs) ∧ items = kvs.map fun p => kV p.1)
theorem tup_at {h h' : Heap} {a : Addr} {its : Array Value} (x : IsTup h a its) (e : ∀ o, h.get? a = some o → h'.get? a = some o) : IsTup h' a its := by
  obtain ⟨o, q, r⟩ := x
  exact ⟨o, e o q, r⟩
theorem vals_at {xs : List V} {its : List Value} (rv : Vals xs its) {i : Nat} {v : Value} (hv : its[i]? = some v) : ∃ y, xs[i]? = some y ∧ RelV y v := by
  have hl := rv.length
  have hi : i < xs.length := by rw [hl]; exact (List.getElem?_eq_some_iff.mp hv).1
  obtain ⟨v', e1, e2⟩ := rv.get (i := i) (x := xs[i]) (by simp [hi])
  rw [hv] at e1
  cases e1
  exact ⟨xs[i], by simp [hi], e2⟩
section
variable {X : Cx} {pins : List (Addr × Obj)} {σ : L2.St} {H : Hp} {s : Shared}
theorem src_iter {E : Value → Shared → Prop} {x : V} {u : Value} {items : List V} {Q : Value → Shared → Prop} (I : Inv X pins σ H s) (h : Src X.K H x items) (rx : RelV x u)
    (hQ : ∀ (o : Obj) (a : Addr) (F : Nat → Value → Prop) (St : Nat → Heap → Prop), a < s.heap.objs.size → (∀ ps, H a ≠ some (.tbl ps)) → (∀ A' : Around, A'.handled = none → Walks X.prog X.w A' s.heap.objs.size [s.heap.objs.size, a] [s.heap.objs.size] items.length F St) →
      St 0 (s.heap.push o) → (∀ i v, F i v → ∃ y, items[i]? = some y ∧ RelV y v) → Q (.ref s.heap.objs.size) { s with heap := s.heap.push o }) :
    wpAny (model X.prog X.w) X.A (pyIter u) Q E s := by
  obtain ⟨a, rfl, h⟩ := h
  obtain rfl : u = Value.ref a := rx
  have nt : ∀ {u : HO}, Rd H a u → (∀ ps, u ≠ .tbl ps) → ∀ ps, H a ≠ some (.tbl ps) := fun {u} r n ps z => by
    rcases r with r | ⟨o, r⟩
    · rw [r] at z; exact n ps (Option.some.inj z)
    · rw [r] at z; cases z
  have ntK : ∀ {o : Obj}, X.K.lookup a = some o → ∀ ps, H a ≠ some (.tbl ps) := fun {o} r ps z => by
    rw [(I.bs a o (I.mod.kin a o r)).2] at z
    cases z
  rcases h with h | h | ⟨kvs, h, rfl⟩
  · obtain ⟨its, rv, pl, hz⟩ := I.list h
    have lt : a < s.heap.objs.size := let ⟨o, n, e, _⟩ := pl; Heap.lt_size e
    have hl := rv.length
    refine wpAny_pyIter_list pl.isList ?_
    refine hQ _ a (fun i v => its.toArray[i]? = some v) (fun i h => h.IsListIter s.heap.objs.size a i ∧ h.IsList a its.toArray) lt (h.elim (fun r => nt r fun _ z => by cases z) fun ⟨_, _, _, r, _⟩ => ntK r) (fun A' hA => ?_) ⟨⟨_, Heap.get?_push_size _ rfl, rfl, rfl⟩, ?_⟩ fun i v hv => vals_at rv (by simpa using hv)
    · have W := Walks.list (prog := X.prog) (w := X.w) hA s.heap.objs.size a (Nat.ne_of_lt lt) its.toArray
      rw [show its.toArray.size = items.length by rw [hl]; simp] at W
      exact W
    · exact pl.isList.at fun o e => Heap.get?_push_of_some _ e
  · obtain ⟨its, rv, pl, hz⟩ := I.tuple h
    have lt : a < s.heap.objs.size := pl.lt
    have hl := rv.length
    refine wpAny_pyIter_tuple (show s.heap.IsTuple a its.toArray from pl) ?_
    refine hQ _ a (fun i v => its.toArray[i]? = some v) (fun i h => h.IsTupleIter s.heap.objs.size a i ∧ h.IsTuple a its.toArray) lt (h.elim (fun r => nt r fun _ z => by cases z) fun ⟨_, _, _, r, _⟩ => ntK r) (fun A' hA => ?_) ⟨⟨_, Heap.get?_push_size _ rfl, rfl, rfl⟩, ?_⟩ fun i v hv => vals_at rv (by simpa using hv)
    · have W := Walks.tuple (prog := X.prog) (w := X.w) hA s.heap.objs.size a (Nat.ne_of_lt lt) its.toArray
      rw [show its.toArray.size = items.length by rw [hl]; simp] at W
      exact W
    · exact tup_at pl fun o e => Heap.get?_push_of_some _ e
  · obtain ⟨z, hd, vs, rel, dd⟩ := dk_rd I.hok h
    obtain ⟨ep, da⟩ := dd.dictAt
    have lt : a < s.heap.objs.size := let ⟨o, es, e, _⟩ := da; Heap.lt_size e
    have hl := rel.length
    refine wpAny_pyIter_dict hd da ?_
    refine hQ _ a (fun i v => ∃ k x, vs[i]? = some (k, x) ∧ (mixKind X.prog X.w).is k v = true) (fun i h => h.IsKeyIter s.heap.objs.size a i vs.length ep ∧ h.DictAt (mixKind X.prog X.w) a vs ep) lt (nt h fun _ z => by cases z) (fun A' hA => ?_) ⟨?_, ?_⟩ fun i v hv => ?_
    · have W := Walks.dictKeys (prog := X.prog) (w := X.w) (knd := mixKind X.prog X.w) hA s.heap.objs.size a (Nat.ne_of_lt lt) vs ep
      rw [← hl] at W
      rw [← hl, List.length_map]
      exact W
    · exact ⟨_, Heap.get?_push_size _ rfl, rfl, rfl⟩
    · exact da.at' fun o e => Heap.get?_push_of_some _ e
    · obtain ⟨k, x, e, hk⟩ := hv
      have hi : i < kvs.length := by rw [hl]; exact (List.getElem?_eq_some_iff.mp e).1
      have ek : kvs.map (·.1) = vs.map (·.1) := rel.keys
      have e2 : (kvs.map (·.1))[i]? = some k := by rw [ek, List.getElem?_map, e] <;> rfl
      refine ⟨kV k, ?_, relV_key hk⟩
      rw [List.getElem?_map] at e2 ⊢
      cases q : kvs[i]? with
      | none => rw [q] at e2; cases e2
      | some y =>
        rw [q] at e2
        have e3 : y.1 = k := Option.some.inj e2
        show some (kV y.1) = some (kV k)
        rw [e3]
end
/-- the tests of a generator expression -/
structure QTs (P : Program) (w : World) (K : PySem.W.Frag) (cenv : Env) (N : List Str) (ifs : List Expr) (t : QB) : Prop where
  run : ∀ (A : Around) (E : Value → Shared → Prop) (s : Shared) (σ : L2.St) (H : Hp) (R : Bool → Prop), A.handled = none → A.units + 1 < cLine → GV P w K cenv N σ H s → t σ H R →
    wpAny (model P w) A (forIn ifs true fun c r => if r = true then do let ok ← isTrue c cenv (eval c cenv); pure (ForInStep.yield ok) else pure (ForInStep.yield r)) (fun b s' => Keeps s s' ∧ R b) E s
def qYes : QB := fun _ _ R => R true
section
variable {P : Program} {w : World} {K : PySem.W.Frag} {cenv : Env} {N : List Str}
theorem qts_nil : QTs P w K cenv N [] qYes := ⟨fun A E s σ H R hh hu g h => by
  simp only [List.forIn_nil]
  exact wpAny_pure ⟨kRfl s, h⟩⟩
theorem qts_one {c : Expr} {t : QB} (h : QB' P w K cenv N c t) : QTs P w K cenv N [c] t := ⟨fun A E s σ H R hh hu g hw => wpAny_tests_one (h.run A E s σ H R hh hu g hw)⟩
end
/-- the generator's scope: its own name x, captured names that the def has as cells -/
structure GenSc (N : List Str) (sc scope : Scope) (x : Str) : Prop where
  kind : scope.kind = .function
  co : scope.isCoroutine = false
  cell : ∀ y ∈ scope.names, y.2 ≠ .cell
  loc : ∀ y ∈ scope.names, y.2 = .local → y.1 = x ∨ y.1 = ".0"
  free : ∀ y ∈ scope.names, y.2 = .free → sc.names.lookup y.1 = some .cell ∨ sc.names.lookup y.1 = some .free
  dot : scope.names.lookup (".0" : Str) = some NameKind.local
  own : scope.names.lookup x = some .local
  nodot : (".0" : Str) ∉ N
def genSB (N : List Str) (sc scope : Scope) (x : Str) : Bool :=
  decide (scope.kind = .function) && (!scope.isCoroutine && (scope.names.all (fun y => !decide (y.2 = .cell) && ((!decide (y.2 = .local) || (decide (y.1 = x) || decide (y.1 = ".0"))) && (!decide (y.2 = .free) || (decide (sc.names.lookup y.1 = some .cell) || decide (sc.names.lookup y.1 = some .free))))) &&
    (decide (scope.names.lookup (".0" : Str) = some NameKind.local) && (decide (scope.names.lookup x = some .local) && !decide ((".0" : Str) ∈ N)))))
theorem genS_by {N : List Str} {sc scope : Scope} {x : Str} (h : genSB N sc scope x = true) : GenSc N sc scope x := by
  unfold genSB at h
  simp only [Bool.and_eq_true, Bool.or_eq_true, Bool.not_eq_true', decide_eq_true_eq, decide_eq_false_iff_not, List.all_eq_true] at h
  obtain ⟨h1, h2, h3, h4, h5, h6⟩ := h
  refine ⟨h1, h2, fun y hy => (h3 y hy).1, fun y hy e => ?_, fun y hy e => ?_, h4, h5, h6⟩
  · rcases (h3 y hy).2.1 with z | z
    · exact absurd e z
    · exact z
  · rcases (h3 y hy).2.2 with z | z
    · exact absurd e z
    · exact z
theorem GenSc.has {X : Cx} {N : List Str} {scope : Scope} {x : Str} (L : GenSc N X.env.scope scope x) (ok : X.Ok) : ∀ y ∈ scope.names, y.2 = .free → ∃ c, X.env.cells.lookup y.1 = some c := fun y hy e => by
  rcases L.free y hy e with k | k
  · exact ok.has _ (.inl k)
  · exact ok.has _ (.inr k)
section
variable {X : Cx} {pins : List (Addr × Obj)} {σ : L2.St} {H H1 : Hp} {s s1 : Shared}
/-- the view in the generator's frame -/
theorem gv_of {scope : Scope} {x : Str} {i : Nat} {C : Addr} {code : Value} {bi : Addr} {s2 : Shared} {m2 : Str → Option Value} {v : Value} {y : V} (I : Inv X pins σ H s) (hN : X.N.Nodup) (hi : X.N[i]? = some x) (L : GenSc X.N X.env.scope scope x)
    (hm : m2 x = some v) (rv : RelV y v) (hn : s2.heap.Ns C m2) (it : Addr) (hit : H it = none) (nit : ∀ b o, X.base.get? b = some o → b ≠ it) (ncell : ∀ z c, X.env.cells.lookup z = some c → c ≠ it)
    (k : ∀ b o, b ≠ it → s.heap.get? b = some o → s2.heap.get? b = some o) :
    GV X.prog X.w X.K (genEnv scope (cloFrom X.env.cells scope.names []) C code bi X.env) X.N (σ.set i (some y)) H s2 := by
  have hfree := L.has I.ok
  have cm : ∀ {y c}, (cloFrom X.env.cells scope.names []).lookup y = some c → X.env.cells.lookup y = some c := fun {y c} e => by
    rcases cloFrom_mem (PySem.mem_of_lookup e) with hm | ⟨h1, h2⟩
    · cases hm
    · obtain ⟨c1, hc⟩ := hfree _ h1 rfl
      have hc : X.env.cells.lookup y = some c1 := hc
      have e2 : c = c1 := by
        rw [h2, hc] <;> rfl
      rw [e2]
      exact hc
  refine ⟨I.mod.kin.keeps fun b o e => k b o (nit b o e) (I.bk b o e), L.kind, ⟨m2, hn, fun j z u e1 e2 e3 => ?_⟩, fun b u e => ?_⟩
  · by_cases hj : j = i
    · subst hj
      rw [hi] at e1
      cases e1
      have hlt : j < σ.length := by rw [I.len]; exact (List.getElem?_eq_some_iff.mp hi).1
      rw [List.getElem?_set_self hlt] at e2
      cases e2
      exact ⟨v, rv, .inl ⟨L.own, hm⟩⟩
    · rw [List.getElem?_set_ne (Ne.symm hj)] at e2
      have e3 : Vis scope z := e3
      rcases e3 with k1 | k1 | k1
      · rcases L.loc _ (PySem.mem_of_lookup k1) rfl with q | q
        · have q : z = x := q
          subst q
          exact absurd (nodup_ix hN e1 hi) hj
        · have q : z = ".0" := q
          subst q
          exact absurd (List.mem_of_getElem? e1) L.nodot
      · exact absurd rfl (L.cell _ (PySem.mem_of_lookup k1))
      · obtain ⟨m, hns, hl⟩ := I.loc
        have hvis : Vis X.env.scope z := (L.free _ (PySem.mem_of_lookup k1) rfl).elim (fun k => .inr (.inl k)) (fun k => .inr (.inr k))
        obtain ⟨w', r, q⟩ := hl j z u e1 e2 hvis
        obtain ⟨c2, h2⟩ := mem_lookup (cloFrom_has (cells := X.env.cells) (acc := []) (PySem.mem_of_lookup k1 : (z, NameKind.free) ∈ scope.names))
        refine ⟨w', r, .inr ⟨.inr k1, c2, h2, ?_⟩⟩
        have c1 := cm h2
        rcases q with ⟨k', _⟩ | ⟨_, c3, e', zz⟩
        · have k' : X.env.scope.names.lookup z = some .local := k'
          rcases L.free _ (PySem.mem_of_lookup k1) rfl with k2 | k2 <;> rw [show X.env.scope.names.lookup z = _ from k2] at k' <;> cases k'
        · rw [c1] at e'
          cases e'
          obtain ⟨o, ho, hd⟩ := zz
          exact ⟨o, k _ _ (ncell _ _ c1) ho, hd⟩
  · have tr : ∀ c u, H c = some u → c ≠ it := fun c u e z => by rw [z, hit] at e; cases e
    refine (I.hok b u e).stay (fun c v' hc q => k c v' ?_ q) (fun _ q => q) fun _ _ q => q
    rcases hc with z | z
    · rw [z]; exact tr _ _ e
    · exact tr _ _ z
end
end Fy
namespace Fy
open PySem PySem.Spec PyProof.Rows L2
open GxR (TabG Tabbed inv_tab sh_eta)
/-- a generator at g that will give the values ys; behind it the table at P may have grown -/
def ReadyV (X : Cx) (pins : List (Addr × Obj)) (σ : L2.St) (H1 : Hp) (P : Addr) (R : List V → Hp → Prop) (g : Addr) (s5 : Shared) : Prop :=
  ∃ (ys : List V) (fp wr : List Addr) (G : Array GenState → Array GenState → Prop) (F : Nat → Value → Prop) (St : Nat → Shared → Prop),
    WalksS X.prog X.w X.A.in4 g fp wr G ys.length F St ∧ St 0 s5 ∧ (∀ b ∈ fp, b < s5.heap.objs.size) ∧ g ∈ fp ∧ (∀ i s, St i s → s.TypeIs (.ref g) "generator") ∧
    (∀ j y, F j y → ∃ x, ys[j]? = some x ∧ RelV x y) ∧ ∃ H2, Tabbed P H1 H2 ∧ R ys H2 ∧ ∀ s', Moved wr G s5 s' → Inv X pins σ H2 s'
/-- what the reading of a generator expression asks -/
def gRd (K : PySem.W.Frag) (P : Addr) (te : TE) (i : Nat) (tt : QB) (tel : QT) (R : List V → Hp → Prop) : L2.St → Hp → Prop := fun σ H =>
  te σ H fun v H1 => TabG H1 P ∧ ∃ items : List V, Src K H1 v items ∧ ∀ H2, Tabbed P H1 H2 → ∃ (p : V → Bool) (f : V → V),
    (∀ x ∈ items, tt (σ.set i (some x)) H2 (fun b => b = p x)) ∧ (∀ x ∈ items, p x = true → tel (σ.set i (some x)) H2 (fun q => q = .v (f x))) ∧ R ((items.filter p).map f) H2
theorem passing_ys {items : List V} {p : V → Bool} {f : V → V} {j i : Nat} (h : (passing (fun i => (items[i]?.map p).getD false) items.length 0)[j]? = some i) :
    ∃ x, items[i]? = some x ∧ p x = true ∧ ((items.filter p).map f)[j]? = some (f x) := by
  have e := PyProof.Rows.idx_map items p
  have hp : passing (fun i => (items[i]?.map p).getD false) items.length 0 = (List.range items.length).filter fun i => (items[i]?.map p).getD false := by simp [passing]
  rw [hp] at h
  have hm := List.mem_of_getElem? h
  obtain ⟨h1, h2⟩ := List.mem_filter.mp hm
  have hi : i < items.length := List.mem_range.mp h1
  have hx : items[i]? = some items[i] := by simp [hi]
  refine ⟨items[i], hx, by rw [hx] at h2; simpa using h2, ?_⟩
  have q := congrArg (fun l => l[j]?) e
  simp only [List.getElem?_map, h, Option.map_some] at q
  rw [hx] at q
  rw [List.getElem?_map]
  cases hq : (items.filter p)[j]? with
  | none => rw [hq] at q; cases q
  | some y =>
    rw [hq] at q
    have e3 : items[i] = y := Option.some.inj (Option.some.inj q)
    rw [e3] <;> rfl
theorem passing_len (items : List V) (p : V → Bool) (f : V → V) : (passing (fun i => (items[i]?.map p).getD false) items.length 0).length = ((items.filter p).map f).length := by
  have e := congrArg List.length (PyProof.Rows.idx_map items p)
  have hp : passing (fun i => (items[i]?.map p).getD false) items.length 0 = (List.range items.length).filter fun i => (items[i]?.map p).getD false := by simp [passing]
  rw [hp]
  simpa using e
section
variable {X : Cx} {pins : List (Addr × Obj)} {σ : L2.St} {H : Hp} {s : Shared}
theorem gen_make {c P : Addr} {elt iter : Expr} {x : Str} {px gpos : Pos} {ifs : List Expr} {scope : Scope} {te : TE} {i k : Nat} {tt : QB} {tel : QT} {Q' : Value → Shared → Prop} {R : List V → Hp → Prop}
    (hr : Room k X.A) (TB : LamX.TabB X.base X.mg c P) (hcode : X.env.code = .ref c) (hN : X.N.Nodup) (hi : X.N[i]? = some x) (L : GenSc X.N X.env.scope scope x) (hit : PE X iter te)
    (ht : ∀ (C : Addr) (code : Value) (bi : Addr), QTs X.prog X.w X.K (genEnv scope (cloFrom X.env.cells scope.names []) C code bi X.env) X.N ifs tt) (hel : ∀ (C : Addr) (code : Value) (bi : Addr), QE X.prog X.w X.K (genEnv scope (cloFrom X.env.cells scope.names []) C code bi X.env) X.N elt tel)
    (hs : ∀ v, genFold iter X.env v = pure v) (I : Inv X pins σ H s) (h : gRd X.K P te i tt tel R σ H)
    (hQ : ∀ g s5 H1, ReadyV X pins σ H1 P R g s5 → Q' (.ref g) s5) :
    wpAny (model X.prog X.w) X.A (eval (.GeneratorExp elt [⟨.Name x px, iter, ifs, 0⟩] scope gpos) X.env) Q' X.xe s := by
  refine wpAny_GeneratorExp_walksQD hr.hd L.co (closure_ok (L.has I.ok)) L.cell L.dot L.own L.kind (by have := hr.dp; omega) ?_ hs
  refine thn (hit.run pins s σ H _ I h) fun xv s1 ⟨v, H1, I1, r1, q1⟩ => ?_
  obtain ⟨⟨ps, hP, htr⟩, items, hsrc, hrest⟩ := q1
  refine src_iter I1 hsrc r1 fun o a0 F0 St0 ha0 hnt W hst hF0 => ?_
  have hPs : s1.heap.get? P = some { cls := .none, data := .fields ps } := I1.hok P _ hP
  have hPlt : P < s1.heap.objs.size := Heap.lt_size hPs
  have hP2 : (s1.heap.push o).get? P = some { cls := .none, data := .fields ps } := Heap.get?_push_of_some _ hPs
  have cd : PySem.W.CodeHd (s1.heap.push o) c P := TB.code.keeps fun b u e => Heap.get?_push_of_some _ (I1.bk b u e)
  have lim2 : (s1.heap.push o).NoLimit := I1.nolimit.push o
  have a0P : a0 ≠ P := fun z => by
    rw [z] at hnt
    exact hnt ps hP
  refine ⟨lim2, thn (Q := fun _ s3 => ∃ (h3 : Heap) (tk : Nat) (more : Array Value), s3 = { s1 with heap := h3, toks := tk } ∧ Heap.ExtBut P (s1.heap.push o) h3 ∧ (s1.heap.push o).objs.size ≤ h3.objs.size ∧ h3.get? P = some { cls := .none, data := .fields (ps ++ more) } ∧ TriplesOk (ps ++ more).toList) ?_ fun code s3 h3 => ?_⟩
  · -- the code object: made, or there
    cases hf : codeAmong gpos ps.toList with
    | some cv => exact wpAny_genexprCode_hit hcode (cd.code hP2 htr) hf ⟨_, s1.toks, #[], rfl, .refl _ _, Nat.le_refl _, by simpa using hP2, by simpa using htr⟩
    | none =>
      refine wpAny_genexprCodeX hcode (cd.code hP2 htr) (cd.tab hP2) hf fun c' h' tk hx hge hlt hco' _ htab' _ => ⟨h', tk, _, rfl, hx, Nat.le_trans hge (Nat.le_of_lt hlt), htab'.2, ?_⟩
      obtain ⟨_, _, _, _, _, _, _, _, _, _, _, _, _, _, _, _, _, _, _, z, _⟩ := hco'
      exact z
  obtain ⟨h3, tk, more, rfl, hx, hsz, hP3, ht3⟩ := h3
  obtain ⟨bm, ob, e1, e2, e3, e4, e5, e6, e7, e8⟩ := TB.bm
  have hcP : cStatics ≠ P := fun e => by
    obtain ⟨_, hns, _⟩ := I1.nolimit
    obtain ⟨o', es, ep, ho, hd, _⟩ := hns
    rw [e, hPs] at ho
    cases ho
    cases hd
  have hcl : cStatics < s1.heap.objs.size := let ⟨_, hns, _⟩ := I1.nolimit; hns.lt
  have sz2 : (s1.heap.push o).objs.size = s1.heap.objs.size + 1 := Heap.size_push ..
  have keep3 : ∀ b u, b ≠ P → s1.heap.get? b = some u → h3.get? b = some u := fun b u hb e => hx b u hb (Heap.get?_push_of_some _ e)
  -- the view of the def, behind the code object
  have J3 : Inv X pins σ (upd H1 P (.tbl (ps ++ more))) { s1 with heap := h3, gens := s1.gens, drawn := s1.drawn, toks := tk } := inv_tab (t' := tk) (g' := s1.gens) (d' := s1.drawn) I1 hP (fun b o hb e => keep3 b o hb e) hP3 I1.bare
  have hT2 : Tabbed P H1 (upd H1 P (.tbl (ps ++ more))) := ⟨⟨ps ++ more, upd_same, ht3⟩, fun b hb => upd_ne hb⟩
  obtain ⟨p, f, hp1, hp2, hR⟩ := hrest _ hT2
  refine wpAny_builtinsFor (m := X.mg) (by rw [I1.ok.glob]; exact ((I1.mod.glob.keeps I1.bk).push o).extBut hx TB.gP) e1 e2 (keep3 _ _ e4 (I1.bk _ _ e5)) e6 e7 e8 ?_
  have nitB : ∀ b o, X.base.get? b = some o → b ≠ s1.heap.objs.size := fun b o e => Nat.ne_of_lt (Heap.lt_size (I1.bk b o e))
  have ncell : ∀ z c, X.env.cells.lookup z = some c → c ≠ s1.heap.objs.size := fun z c e => by
    obtain ⟨v, q⟩ := I1.cell z c e
    exact Nat.ne_of_lt q.lt
  have hitN : upd H1 P (.tbl (ps ++ more)) s1.heap.objs.size = none := by
    rw [upd_ne (Nat.ne_of_gt hPlt)]
    exact I1.hok.fresh (Nat.le_refl _)
  have hun := hr.un
  refine ⟨s1.heap.objs.size, [s1.heap.objs.size, a0], [s1.heap.objs.size], items.length, F0, St0, (fun i => (items[i]?.map p).getD false), (fun i y => ∃ z, items[i]? = some z ∧ RelV (f z) y), rfl, W, ?_, ?_, lim2.extBut hx hcP, ?_, ?_, ?_⟩
  · refine (W X.A hr.hd).frame _ _ _ hst fun b hb u e => hx b u (fun z => ?_) e
    rcases List.mem_cons.mp hb with z2 | z2
    · exact Nat.ne_of_lt hPlt (z.symm.trans z2)
    · rcases List.mem_cons.mp z2 with z3 | z3
      · exact a0P (z3.symm.trans z)
      · cases z3
  · intro b hb
    rcases List.mem_cons.mp hb with z | z
    · rw [z]
      show s1.heap.objs.size < h3.objs.size
      omega
    · rcases List.mem_cons.mp z with z | z
      · rw [z]
        show a0 < h3.objs.size
        have h9 : a0 < s1.heap.objs.size := ha0
        have h8 : s1.heap.objs.size ≤ h3.objs.size := by omega
        exact Nat.lt_of_lt_of_le h9 h8
      · cases z
  · intro z
    rcases List.mem_cons.mp z with z | z
    · exact Nat.ne_of_lt hcl z
    · cases z
  · intro href hhref
    have kk : ∀ (s₂ : Shared), (∀ b ∈ List.range h3.objs.size, b ∉ [s1.heap.objs.size] → ∀ o, href.get? b = some o → s₂.heap.get? b = some o) → ∀ b o, b ≠ s1.heap.objs.size → h3.get? b = some o → s₂.heap.get? b = some o := fun s₂ hk b o hb e =>
      hk b (List.mem_range.mpr (Heap.lt_size e)) (by simpa using hb) o (hhref b o e)
    refine ⟨fun A' E' i' v' s₂ m₂ hA hD hU hPv hn hm hk => ?_, fun A' E' i' v' s₂ m₂ hA hD hU hPv hp hn hm hk => ?_⟩
    · obtain ⟨y, hy, ry⟩ := hF0 i' v' hPv
      have g := gv_of (code := code) (bi := builtinsNs) J3 hN hi L hm ry hn s1.heap.objs.size hitN nitB ncell (kk s₂ hk)
      have q := (ht h3.objs.size code builtinsNs).run A' E' s₂ _ _ _ hA (by have : A'.units ≤ X.A.units + 8 := hU; omega) g (hp1 y (List.mem_of_getElem? hy))
      refine thn q fun b s3 hb => ⟨?_, hb.1⟩
      rw [hb.2, hy] <;> rfl
    · obtain ⟨y, hy, ry⟩ := hF0 i' v' hPv
      have hpy : p y = true := by rw [hy] at hp; exact hp
      have g := gv_of (code := code) (bi := builtinsNs) J3 hN hi L hm ry hn s1.heap.objs.size hitN nitB ncell (kk s₂ hk)
      have q := (hel h3.objs.size code builtinsNs).run A' E' s₂ _ _ _ hA (by have : A'.units ≤ X.A.units + 8 := hU; omega) g (hp2 y (List.mem_of_getElem? hy) hpy)
      refine thn q fun z s3 hz => ?_
      obtain ⟨k3, q3, rq, eq⟩ := hz
      subst eq
      exact ⟨⟨y, hy, rq⟩, k3⟩
  · intro g h5 tk5 gs hgb hag hsz5 hk5 W5 hat
    rw [passing_len items p f] at W5
    refine hQ g _ H1 ⟨(items.filter p).map f, _, _, _, _, _, W5, hat, fun b hb => ?_, List.mem_cons_self, fun i s st => ?_, fun j y hy => ?_, _, hT2, hR, fun s' hm => ?_⟩
    · show b < h5.objs.size
      rcases List.mem_cons.mp hb with z | z
      · rw [z, hsz5]; exact Nat.lt_succ_self _
      · have hb2 : b ≤ h3.objs.size := by
          rcases List.mem_cons.mp z with z | z
          · exact Nat.le_of_eq z
          · exact Nat.le_of_lt (List.mem_range.mp z)
        have : h3.objs.size < g := hag
        have hb3 : (b : Nat) ≤ h3.objs.size := hb2
        have hg3 : (h3.objs.size : Nat) < g := hag
        rw [hsz5]
        exact Nat.lt_succ_of_lt (Nat.lt_of_le_of_lt hb3 hg3)
    · exact st.1.typeIs
    · obtain ⟨i', hij, z, hz, rz⟩ := hy
      obtain ⟨x', hx1, hx2, hx3⟩ := passing_ys (f := f) hij
      rw [hz] at hx1
      cases hx1
      exact ⟨_, hx3, rz⟩
    · have nwr : ∀ b u, s1.heap.get? b = some u → b ∉ h3.objs.size :: [s1.heap.objs.size] := fun b u e hb => by
        have hl := Heap.lt_size e
        rcases List.mem_cons.mp hb with z | z
        · rw [z] at hl
          have h9 : (h3.objs.size : Nat) < s1.heap.objs.size := hl
          omega
        · rcases List.mem_cons.mp z with z | z
          · rw [z] at hl
            exact Nat.lt_irrefl _ hl
          · cases z
      have J := inv_tab (more := more) (h' := s'.heap) (g' := s'.gens) (d' := s'.drawn) (t' := s'.toks) I1 hP (fun b u hb e => hm.heap b u (nwr b u e) (hk5 b u (keep3 b u hb e)))
        (hm.heap P _ (nwr P _ hPs) (hk5 P _ hP3)) (AllBare.movedS (I1.bare.push hgb) hm)
      rw [sh_eta s1 s' hm.os] at J
      exact J
end
end Fy
namespace Fy
open PySem PySem.Spec PyProof.Rows L2
open GxR (TabG Tabbed)
/-- a generator expression handed to a taker -/
def tGen (K : PySem.W.Frag) (P : Addr) (te : TE) (i : Nat) (tt : QB) (tel : QT) (cons : List V → Hp → VK → Prop) : TE := fun σ H Q => gRd K P te i tt tel (fun ys H2 => cons ys H2 Q) σ H
/-- a taker, by its rule -/
def Taker (X : Cx) (f : Value) (cons : List V → Hp → VK → Prop) : Prop :=
  ∀ (pins : List (Addr × Obj)) (σ : L2.St) (H1 : Hp) (P : Addr) (g : Addr) (s : Shared) (Q : VK), ReadyV X pins σ H1 P (fun ys H2 => cons ys H2 Q) g s → wpAny (model X.prog X.w) X.A (call f [.ref g]) (EP X pins σ Q) X.xe s
section
variable {X : Cx}
theorem pe_genB {id : String} {c P : Addr} {b x : Str} {elt iter : Expr} {px p pos gpos : Pos} {ifs : List Expr} {scope : Scope} {te : TE} {i k : Nat} {tt : QB} {tel : QT} {cons : List V → Hp → VK → Prop}
    (T : Taker X (.builtin id) cons) (hg : Gl X b) (hm : X.mg b = none) (hv : bootBuiltins b = some (.builtin id))
    (hr : Room k X.A) (TB : LamX.TabB X.base X.mg c P) (hcode : X.env.code = .ref c) (hN : X.N.Nodup) (hi : X.N[i]? = some x) (L : GenSc X.N X.env.scope scope x) (hit : PE X iter te)
    (ht : ∀ (C : Addr) (code : Value) (bi : Addr), QTs X.prog X.w X.K (genEnv scope (cloFrom X.env.cells scope.names []) C code bi X.env) X.N ifs tt) (hel : ∀ (C : Addr) (code : Value) (bi : Addr), QE X.prog X.w X.K (genEnv scope (cloFrom X.env.cells scope.names []) C code bi X.env) X.N elt tel)
    (hs : ∀ v, genFold iter X.env v = pure v) (hn : b ≠ "__name__" := by decide) (hdb : (b == ("__debug__" : Str)) = false := by decide)
    (he : starEach [.GeneratorExp elt [⟨.Name x px, iter, ifs, 0⟩] scope gpos] X.env = (false, eval (.GeneratorExp elt [⟨.Name x px, iter, ifs, 0⟩] scope gpos) X.env) :: starEach [] X.env := by rfl) :
    PE X (.Call (.Name b p) [.GeneratorExp elt [⟨.Name x px, iter, ifs, 0⟩] scope gpos] [] pos) (tGen X.K P te i tt tel cons) := by
  refine ⟨fun pins s σ H Q I h => ?_⟩
  refine wpAny_Call_Name_kw (ld_blt I hg hm hv ?_ hn hdb)
  refine PyProof.Rows.callWith_builtin1 ?_ he (by rfl)
  rw [he]
  show wpAny _ _ (spliced ((false, eval (.GeneratorExp elt [⟨.Name x px, iter, ifs, 0⟩] scope gpos) X.env) :: backTo pos (starEach [] X.env))) _ _ s
  refine Calls.spliced_cons (gen_make (R := fun ys H2 => cons ys H2 Q) hr TB hcode hN hi L hit ht hel hs I h fun g s5 H1 hR => ?_)
  refine Calls.spliced_nil ?_
  exact T pins σ H1 P g s5 Q hR
theorem pe_genT {T' : String} {c P : Addr} {b x : Str} {elt iter : Expr} {px p pos gpos : Pos} {ifs : List Expr} {scope : Scope} {te : TE} {i k : Nat} {tt : QB} {tel : QT} {cons : List V → Hp → VK → Prop}
    (T : Taker X (.type T') cons) (hg : Gl X b) (hm : X.mg b = none) (hv : bootBuiltins b = some (.type T'))
    (hr : Room k X.A) (TB : LamX.TabB X.base X.mg c P) (hcode : X.env.code = .ref c) (hN : X.N.Nodup) (hi : X.N[i]? = some x) (L : GenSc X.N X.env.scope scope x) (hit : PE X iter te)
    (ht : ∀ (C : Addr) (code : Value) (bi : Addr), QTs X.prog X.w X.K (genEnv scope (cloFrom X.env.cells scope.names []) C code bi X.env) X.N ifs tt) (hel : ∀ (C : Addr) (code : Value) (bi : Addr), QE X.prog X.w X.K (genEnv scope (cloFrom X.env.cells scope.names []) C code bi X.env) X.N elt tel)
    (hs : ∀ v, genFold iter X.env v = pure v) (hn : b ≠ "__name__" := by decide) (hdb : (b == ("__debug__" : Str)) = false := by decide)
    (he : starEach [.GeneratorExp elt [⟨.Name x px, iter, ifs, 0⟩] scope gpos] X.env = (false, eval (.GeneratorExp elt [⟨.Name x px, iter, ifs, 0⟩] scope gpos) X.env) :: starEach [] X.env := by rfl) :
    PE X (.Call (.Name b p) [.GeneratorExp elt [⟨.Name x px, iter, ifs, 0⟩] scope gpos] [] pos) (tGen X.K P te i tt tel cons) := by
  refine ⟨fun pins s σ H Q I h => ?_⟩
  refine wpAny_Call_Name_kw (ld_blt I hg hm hv ?_ hn hdb)
  refine PyProof.Rows.callWith_type1 ?_ he (by rfl)
  rw [he]
  show wpAny _ _ (spliced ((false, eval (.GeneratorExp elt [⟨.Name x px, iter, ifs, 0⟩] scope gpos) X.env) :: backTo pos (starEach [] X.env))) _ _ s
  refine Calls.spliced_cons (gen_make (R := fun ys H2 => cons ys H2 Q) hr TB hcode hN hi L hit ht hel hs I h fun g s5 H1 hR => ?_)
  refine Calls.spliced_nil ?_
  exact T pins σ H1 P g s5 Q hR
def cAny : List V → Hp → VK → Prop := fun ys H Q => ∃ bs : List Bool, ys = bs.map V.bl ∧ Q (.bl (bs.any id)) H
def cAll : List V → Hp → VK → Prop := fun ys H Q => ∃ bs : List Bool, ys = bs.map V.bl ∧ Q (.bl (bs.all id)) H
theorem bl_at {bs : List Bool} {j : Nat} {x : V} {u : Value} (e : (bs.map V.bl)[j]? = some x) (r : RelV x u) : ∃ b, bs[j]? = some b ∧ u = .bool b := by
  rw [List.getElem?_map] at e
  cases h : bs[j]? with
  | none => rw [h] at e; cases e
  | some b =>
    rw [h] at e
    have e2 : V.bl b = x := Option.some.inj e
    subst e2
    exact ⟨b, rfl, r⟩
theorem tk_any : Taker X (.builtin "any") cAny := by
  intro pins σ H1 P g s Q h
  obtain ⟨ys, fp, wr, G, F, St, W, hst, hfp, hgm, hty, hF, H2, hT, ⟨bs, rfl, q⟩, hI⟩ := h
  refine call_any_walkS (W.in4_1.self 0 _ _ _ hst ⟨g, fp, wr, G, _, F, St, fun j => (bs[j]?).getD false, rfl, W.in4_1, hst, ?_, fun s' hm => ?_⟩)
  · intro j y sj Qj Ej hy hQj
    obtain ⟨x, e, r⟩ := hF j y hy
    obtain ⟨b, e1, rfl⟩ := bl_at e r
    refine wpAny_truthy_bool ?_
    have hQ2 : Qj ((bs[j]?).getD false) sj := hQj
    rw [e1] at hQ2
    exact hQ2
  · refine ⟨.bl _, H2, hI s' hm, rfl, ?_⟩
    have e : (List.range (bs.map V.bl).length).any (fun j => (bs[j]?).getD false) = bs.any id := by
      rw [List.length_map]
      have := PyProof.Rows.any_rangeD bs id
      rw [← this]
      congr 1
    rw [e]
    exact q
theorem tk_all : Taker X (.builtin "all") cAll := by
  intro pins σ H1 P g s Q h
  obtain ⟨ys, fp, wr, G, F, St, W, hst, hfp, hgm, hty, hF, H2, hT, ⟨bs, rfl, q⟩, hI⟩ := h
  refine call_all_walkS (W.in4_1.self 0 _ _ _ hst ⟨g, fp, wr, G, _, F, St, fun j => (bs[j]?).getD true, rfl, W.in4_1, hst, ?_, fun s' hm => ?_⟩)
  · intro j y sj Qj Ej hy hQj
    obtain ⟨x, e, r⟩ := hF j y hy
    obtain ⟨b, e1, rfl⟩ := bl_at e r
    refine wpAny_truthy_bool ?_
    have hQ2 : Qj ((bs[j]?).getD true) sj := hQj
    rw [e1] at hQ2
    exact hQ2
  · refine ⟨.bl _, H2, hI s' hm, rfl, ?_⟩
    have e : (List.range (bs.map V.bl).length).all (fun j => (bs[j]?).getD true) = bs.all id := by
      rw [List.length_map]
      have := PyProof.Rows.all_rangeD bs id
      rw [← this]
      congr 1
    rw [e]
    exact q
def cSum : List V → Hp → VK → Prop := fun ys H Q => ∃ ns : List Int, ys = ns.map V.int ∧ Q (.int ns.sum) H
theorem int_at {ns : List Int} {j : Nat} {x : V} {u : Value} (e : (ns.map V.int)[j]? = some x) (r : RelV x u) : ∃ n, ns[j]? = some n ∧ ∃ t, u = .int n t := by
  rw [List.getElem?_map] at e
  cases h : ns[j]? with
  | none => rw [h] at e; cases e
  | some b =>
    rw [h] at e
    have e2 : V.int b = x := Option.some.inj e
    subst e2
    exact ⟨b, rfl, r⟩
theorem preSum_ints (ns : List Int) : ∀ k, k ≤ ns.length → preSum (fun j => (ns[j]?).getD 0) k = (ns.take k).sum := by
  intro k
  induction k with
  | zero => intro _; simp [preSum]
  | succ k ih =>
    intro h
    have hk : k < ns.length := h
    rw [List.take_succ_eq_append_getElem hk]
    simp only [preSum, List.sum_append, List.sum_cons, List.sum_nil]
    rw [ih (Nat.le_of_lt hk)]
    simp [hk]
theorem tk_sum : Taker X (.builtin "sum") cSum := by
  intro pins σ H1 P g s Q h
  obtain ⟨ys, fp, wr, G, F, St, W, hst, hfp, hgm, hty, hF, H2, hT, ⟨ns, rfl, q⟩, hI⟩ := h
  refine call_sum_walkAnyS (W.in4_1.self 0 _ _ _ hst ⟨g, fp, wr, G, _, F, St, fun j => (ns[j]?).getD 0, rfl, W.in4_1, hst, hfp, ?_, fun s' t' hm => ?_⟩)
  · intro j y hy
    obtain ⟨x, e, r⟩ := hF j y hy
    obtain ⟨n, e1, t, rfl⟩ := int_at e r
    exact ⟨t, by show Value.int n t = Value.int ((ns[j]?).getD 0) t; rw [e1] <;> rfl⟩
  · refine ⟨.int ns.sum, H2, hI s' hm, ⟨t', ?_⟩, q⟩
    rw [List.length_map, preSum_ints ns ns.length (Nat.le_refl _), List.take_length]
def cTup : List V → Hp → VK → Prop := fun ys H Q => ys.length ≤ sizeLine ∧ ∀ p, H p = none → Q (.ref p) (upd H p (.tup ys))
theorem vals_of_items : ∀ {ys : List V} {acc : List Value}, acc.length = ys.length → (∀ (j : Nat) (v : Value), acc[j]? = some v → ∃ x, ys[j]? = some x ∧ RelV x v) → Vals ys acc
  | [], [], _, _ => .nil
  | [], _ :: _, h, _ => by simp at h
  | _ :: _, [], h, _ => by simp at h
  | y :: ys, a :: acc, h, hv => by
    refine .cons ?_ (vals_of_items (by simpa using h) fun j v e => hv (j + 1) v (by simpa using e))
    obtain ⟨x, e, r⟩ := hv 0 a rfl
    have e2 : y = x := Option.some.inj e
    rw [e2]
    exact r
theorem items_vals {ys : List V} {F : Nat → Value → Prop} {acc : Array Value} (hF : ∀ j y, F j y → ∃ x, ys[j]? = some x ∧ RelV x y) (h : ItemsOf F acc ys.length) : Vals ys acc.toList :=
  vals_of_items (by simpa using h.1) fun j v e => hF j v (h.2 j v (by simpa using e))
theorem tk_tup : Taker X (.type "tuple") cTup := by
  intro pins σ H1 P g s Q h
  obtain ⟨ys, fp, wr, G, F, St, W, hst, hfp, hgm, hty, hF, H2, hT, ⟨hz, q⟩, hI⟩ := h
  refine call_tuple_gen (WalksS.of_in1 (A := X.A.in1.in1.in1) W) hty hst hfp hgm (fun s' acc hm ha => ?_) hz
  have I := hI s' hm
  have hf := I.hok.fresh (Nat.le_refl s'.heap.objs.size)
  have rv := items_vals hF ha
  refine ⟨.ref s'.heap.objs.size, _, I.laid (t' := s'.toks) (o := .tup ys) (fun b u e => Heap.get?_push_of_some _ e) (Nat.le_refl _) ⟨hz, acc.toList, rv, ?_⟩, rfl, q _ hf⟩
  have := IsTup.new s'.heap acc
  simpa using this
end
end Fy
namespace Fy
open PySem PySem.Spec PyProof.Rows L2 PySem.W
open GxR (TabG Tabbed)
section
variable {prog : Program} {w : World} {A : Around} {E : Value → Shared → Prop} {s : Shared} {β : Type} {enc : β → PyData} {R : Value → β → Prop}
theorem sorted_coll {x : Value} {Q : Value → Shared → Prop}
    (hc : wpAny (model prog w) A.in1 (collect x) (fun vs s1 => ∃ bs : List β, EachIs R vs bs ∧ EachIs (fun v b => ∃ as, Reads s1.heap v (enc b) as) vs bs ∧ AllAlike (bs.map enc) ∧ Sortable (bs.map enc) ∧ bs.length ≤ sizeLine ∧
      (∀ b, b ∈ bs → A.units + 2 + (enc b).depth < cLine) ∧ ∀ out, out.length = bs.length → EachIs R out (bs.mergeSort (dataLe false enc)) →
        Q (.ref s1.heap.objs.size) { s1 with heap := sortedHeap (s1.heap.push (seqObj "list" vs.toArray 0)) s1.heap.objs.size vs (List.toArray out) }) E s) :
    wpAny (model prog w) A (call (.builtin "sorted") [x]) Q E s := by
  refine call_function_entry_kw kind_sorted plain_sorted entry_sorted (args_sorted1 _) ?_
  unfold Builtin.«sorted»
  refine wpAny_bind (m := checkCount "sorted" 1 1 _) (wpAny_pure ?_)
  refine wpAny_bind (wpAny_mono hc (fun vs s1 h => ?_) fun _ _ e => e)
  obtain ⟨bs, e, er, hal, hk, hL, hu, h⟩ := h
  have hz : vs.length ≤ sizeLine := by rw [e.length]; exact hL
  refine wpAny_bind (wpAny_newList ?_ hz)
  have h0 : (s1.heap.push (seqObj "list" vs.toArray 0)).get? s1.heap.objs.size = some (seqObj "list" vs.toArray 0) := Heap.get?_push_size _ rfl
  have er' : EachIs (fun v b => ∃ as, Reads (sortingHeap (s1.heap.push (seqObj "list" vs.toArray 0)) s1.heap.objs.size vs) v (enc b) as) vs bs := er.mono fun _ _ ⟨as, r⟩ => ⟨as, PyProof.Rows.Reads.keeps (fun b o q => sortingHeap_old (Nat.ne_of_lt (Heap.lt_size q)) (Heap.get?_push_of_some _ q)) r⟩
  show wpAny _ _ _ _ _ { s1 with heap := s1.heap.push (seqObj "list" vs.toArray 0) }
  refine wpAny_bind (wpAny_holding (wpAny_call_entry_kw slot_list_sort ⟨_, h0, rfl⟩ entry_list_sort ?body (args_list_sort _)))
  case body =>
    show wpAny (model prog w) A.in1.in1 (Builtin.«list.sort» ⟨[.ref s1.heap.objs.size], []⟩) _ _ _
    refine list_sort_vals (s := { s1 with heap := s1.heap.push (seqObj "list" vs.toArray 0) }) h0 (SortsAt.data (s := { s1 with heap := sortingHeap (s1.heap.push (seqObj "list" vs.toArray 0)) s1.heap.objs.size vs }) (each_map (R := fun v d => ∃ as, Reads (sortingHeap (s1.heap.push (seqObj "list" vs.toArray 0)) s1.heap.objs.size vs) v d as) enc er') hal hk (bound_map hu)) hz ?_
    exact ⟨_, rfl, wpAny_pure ⟨_, rfl, h _ (by rw [sortVals_length false rfl]; exact e.length) (sortVals_data false e er' hal)⟩⟩
end
/-- ints, or texts -/
def encV : V → PyData
  | .int i => .int i
  | .str x => .str x
  | .bl b => .bool b
  | _ => .none
def isInt : V → Bool
  | .int _ => true
  | _ => false
def isStr : V → Bool
  | .str _ => true
  | _ => false
/-- all ints, or all texts -/
def Sortb (ys : List V) : Prop := (∀ y ∈ ys, isInt y = true) ∨ (∀ y ∈ ys, isStr y = true)
def leV : V → V → Bool := dataLe false encV
/-- the one sorted list -/
def sortV (ys : List V) : List V := ys.mergeSort leV
theorem vals_each : ∀ {xs : List V} {us : List Value}, Vals xs us → EachIs (fun u x => RelV x u) us xs
  | _, _, .nil => .nil
  | _, _, .cons r t => .cons r (vals_each t)
theorem each_vals : ∀ {us : List Value} {xs : List V}, EachIs (fun u x => RelV x u) us xs → Vals xs us
  | _, _, .nil => .nil
  | _, _, .cons r t => .cons r (each_vals t)
theorem vals_reads {h : Heap} : ∀ {xs : List V} {us : List Value}, Vals xs us → (∀ y ∈ xs, isInt y = true ∨ isStr y = true) → EachIs (fun u x => ∃ as, Reads h u (encV x) as) us xs
  | _, _, .nil, _ => .nil
  | _, _, .cons (a := x) r t, hp => by
    refine .cons ?_ (vals_reads t fun y hy => hp y (List.mem_cons_of_mem _ hy))
    rcases hp _ List.mem_cons_self with h | h
    · cases x with
      | int i => obtain ⟨t, rfl⟩ := r; exact ⟨[], .int i t⟩
      | _ => cases h
    · cases x with
      | str i => obtain ⟨t, rfl⟩ := r; exact ⟨[], .str i t⟩
      | _ => cases h
theorem Sortb.each {ys : List V} (h : Sortb ys) : ∀ y ∈ ys, isInt y = true ∨ isStr y = true := fun y hy => by
  rcases h with h | h
  · exact .inl (h y hy)
  · exact .inr (h y hy)
theorem Sortb.alike {ys : List V} (h : Sortb ys) : AllAlike (ys.map encV) := by
  intro d hd d' hd'
  obtain ⟨b, hb, rfl⟩ := List.mem_map.mp hd
  obtain ⟨b', hb', rfl⟩ := List.mem_map.mp hd'
  rcases h with h | h
  · have h1 := h b hb
    have h2 := h b' hb'
    cases b <;> cases h1
    cases b' <;> cases h2
    rfl
  · have h1 := h b hb
    have h2 := h b' hb'
    cases b <;> cases h1
    cases b' <;> cases h2
    rfl
theorem Sortb.sortable {ys : List V} (h : Sortb ys) : Sortable (ys.map encV) := .inr fun d hd => by
  obtain ⟨b, hb, rfl⟩ := List.mem_map.mp hd
  have e : encV b ≠ .none ∧ ∀ xs, encV b ≠ .tuple xs := by
    rcases h.each b hb with h1 | h1
    · cases b with
      | int i => exact ⟨fun z => (by cases z), fun xs z => (by cases z)⟩
      | _ => cases h1
    · cases b with
      | str i => exact ⟨fun z => (by cases z), fun xs z => (by cases z)⟩
      | _ => cases h1
  exact e
theorem Sortb.depth {ys : List V} (h : Sortb ys) : ∀ y ∈ ys, (encV y).depth = 0 := fun y hy => by
  rcases h.each y hy with h1 | h1
  · cases y <;> cases h1
    rfl
  · cases y <;> cases h1
    rfl
section
variable {X : Cx} {pins : List (Addr × Obj)} {σ : L2.St} {H : Hp} {s : Shared}
/-- behind the sort: the new list stands at the heap's end -/
theorem sorted_laid {zs : List V} {vs out : List Value} {Q : VK} (I : Inv X pins σ H s) (hz : zs.length ≤ sizeLine) (r : Vals zs out) (q : ∀ p, H p = none → Q (.ref p) (upd H p (.lst zs))) :
    EP X pins σ Q (.ref s.heap.objs.size) { s with heap := sortedHeap (s.heap.push (seqObj "list" vs.toArray 0)) s.heap.objs.size vs (List.toArray out) } := by
  have h0 : (s.heap.push (seqObj "list" vs.toArray 0)).get? s.heap.objs.size = some (seqObj "list" vs.toArray 0) := Heap.get?_push_size _ rfl
  obtain ⟨e, he⟩ := PyProof.Rows.sortedHeap_at (vs := vs) (out := List.toArray out) h0
  have k : ∀ b u, s.heap.get? b = some u → (sortedHeap (s.heap.push (seqObj "list" vs.toArray 0)) s.heap.objs.size vs (List.toArray out)).get? b = some u := fun b u q => by
    have hb := Heap.lt_size q
    rw [PyProof.Rows.sortedHeap_old (Nat.ne_of_lt hb) (by rw [size_push']; exact Nat.lt_succ_of_lt hb)]
    exact Heap.get?_push_of_some _ q
  refine ⟨.ref s.heap.objs.size, _, I.laid (t' := s.toks) (o := .lst zs) k (Nat.le_refl _) ⟨hz, out, e, r, ?_⟩, rfl, q _ (I.hok.fresh (Nat.le_refl _))⟩
  exact he
theorem len_sortV (ys : List V) : (sortV ys).length = ys.length := List.length_mergeSort ys
def cSort : List V → Hp → VK → Prop := fun ys H Q => Sortb ys ∧ ys.length ≤ sizeLine ∧ ∀ p, H p = none → Q (.ref p) (upd H p (.lst (sortV ys)))
theorem sort_fin {ys : List V} {vs : List Value} {Q : VK} {A : Around} (hu : A.units + 64 < cLine) (I : Inv X pins σ H s) (rv : Vals ys vs) (hs : Sortb ys) (hz : ys.length ≤ sizeLine) (q : ∀ p, H p = none → Q (.ref p) (upd H p (.lst (sortV ys)))) :
    ∃ bs : List V, EachIs (fun u x => RelV x u) vs bs ∧ EachIs (fun v b => ∃ as, Reads s.heap v (encV b) as) vs bs ∧ AllAlike (bs.map encV) ∧ Sortable (bs.map encV) ∧ bs.length ≤ sizeLine ∧
      (∀ b, b ∈ bs → A.units + 2 + (encV b).depth < cLine) ∧ ∀ out, out.length = bs.length → EachIs (fun u x => RelV x u) out (bs.mergeSort (dataLe false encV)) →
        EP X pins σ Q (.ref s.heap.objs.size) { s with heap := sortedHeap (s.heap.push (seqObj "list" vs.toArray 0)) s.heap.objs.size vs (List.toArray out) } := by
  refine ⟨ys, vals_each rv, vals_reads rv hs.each, hs.alike, hs.sortable, hz, fun b hb => by rw [hs.depth b hb]; omega, fun out hl r => ?_⟩
  exact sorted_laid (zs := sortV ys) I (by rw [len_sortV]; exact hz) (each_vals r) q
theorem tk_sort {k : Nat} (hr : Room k X.A) : Taker X (.builtin "sorted") cSort := by
  intro pins σ H1 P g s Q h
  obtain ⟨ys, fp, wr, G, F, St, W, hst, hfp, hgm, hty, hF, H2, hT, ⟨hs, hz, q⟩, hI⟩ := h
  refine sorted_coll (β := V) (enc := encV) (R := fun u x => RelV x u) (wpAny_collect_gen (A := X.A.in1) W.in4_2 hty hst hfp hgm (fun s' acc hm ha => ?_) hz)
  exact sort_fin hr.units (hI s' hm) (items_vals hF ha) hs hz q
/-- sorted(xs) of a list or a tuple -/
theorem cr_sortL {k : Nat} (hr : Room k X.A) : CallR X (.builtin "sorted") (fun xs H Q => ∃ a ys, xs = [.ref a] ∧ SqL X.K H a ys ∧ Sortb ys ∧ ∀ p, H p = none → Q (.ref p) (upd H p (.lst (sortV ys)))) := by
  intro pins s σ H xs us Q I r h
  obtain ⟨a, ys, rfl, hq, hs, q⟩ := h
  obtain ⟨u, rfl, ru⟩ := vals1 r
  obtain rfl : u = Value.ref a := ru
  obtain ⟨its, rv, pl, hz⟩ := I.list hq
  have hl := rv.length
  refine sorted_coll (β := V) (enc := encV) (R := fun u x => RelV x u) (PyProof.Rows.collect_list pl.isList ?_ (by omega))
  have I2 : Inv X pins σ H { s with heap := (s.heap.push (seqObj "list" #[] 0)).update s.heap.objs.size (Obj.mapSeq (· ++ its.toArray)) } := I.kept (t' := s.toks) fun b o e => by
    have hb : b ≠ s.heap.objs.size := Nat.ne_of_lt (Heap.lt_size e)
    rw [Heap.get?_update_ne _ _ _ _ hb]
    exact Heap.get?_push_of_some _ e
  exact sort_fin hr.units I2 rv hs hz q
/-- sorted(d) of a dict -/
theorem cr_sortD {k : Nat} (hr : Room k X.A) : CallR X (.builtin "sorted") (fun xs H Q => ∃ a kvs, xs = [.ref a] ∧ Rd H a (.dK kvs) ∧ Sortb (kvs.map fun p => kV p.1) ∧ ∀ p, H p = none → Q (.ref p) (upd H p (.lst (sortV (kvs.map fun p => kV p.1))))) := by
  intro pins s σ H xs us Q I r h
  obtain ⟨a, kvs, rfl, hd, hs, q⟩ := h
  obtain ⟨u, rfl, ru⟩ := vals1 r
  obtain rfl : u = Value.ref a := ru
  obtain ⟨z, lo, vs, rel, dd⟩ := dk_rd I.hok hd
  obtain ⟨ep, hat⟩ := dd.dictAt
  have hl := rel.length
  refine sorted_coll (β := V) (enc := encV) (R := fun u x => RelV x u) (PySem.W.kdu_collect (A := X.A.in1) (PySem.W.kdl_dict (knd := mixKind X.prog X.w) (kvs := vs) (ep := ep) lo) hr.hd hat (by omega) fun h' tk acc hk hacc => ?_)
  have rv : Vals (kvs.map fun p => kV p.1) acc.toList := vals_of_items (by rw [Array.length_toList, hacc.1, List.length_map, hl]) fun j v e => by
    obtain ⟨k, x, e1, e2⟩ := hacc.2 j v (by rw [← Array.getElem?_toList]; exact e)
    have ek : kvs.map (·.1) = vs.map (·.1) := rel.keys
    have e3 : (kvs.map (·.1))[j]? = some k := by rw [ek, List.getElem?_map, e1] <;> rfl
    refine ⟨kV k, ?_, relV_key e2⟩
    rw [List.getElem?_map] at e3 ⊢
    cases q : kvs[j]? with
    | none => rw [q] at e3; cases e3
    | some y =>
      rw [q] at e3
      have e4 : y.1 = k := Option.some.inj e3
      show some (kV y.1) = some (kV k)
      rw [e4]
  have I1 : Inv X pins σ H { s with heap := h', toks := tk } := I.kept hk
  exact sort_fin hr.units I1 rv hs (by rw [List.length_map]; exact z) q
end
def leS (a b : Str) : Bool := decide (a.cps.toList ≤ b.cps.toList)
def sortS (ns : List Str) : List Str := ns.mergeSort leS
def sortI (ns : List Int) : List Int := ns.mergeSort fun a b => decide (a ≤ b)
theorem sortV_str (ns : List Str) : sortV (ns.map V.str) = (sortS ns).map V.str := by
  refine (sort_maps (r := leS) (s := leV) V.str fun a _ b _ => ?_).symm
  exact (congrFun (congrFun (dataLe_str (fun x : Str => x)) a) b).symm
theorem sortV_int (ns : List Int) : sortV (ns.map V.int) = (sortI ns).map V.int := by
  refine (sort_maps (r := fun a b => decide (a ≤ b)) (s := leV) V.int fun a _ b _ => ?_).symm
  exact (congrFun (congrFun (dataLe_int (fun x : Int => x)) a) b).symm
theorem sortb_str (ns : List Str) : Sortb (ns.map V.str) := .inr fun y hy => by
  obtain ⟨x, _, rfl⟩ := List.mem_map.mp hy
  rfl
theorem sortb_int (ns : List Int) : Sortb (ns.map V.int) := .inl fun y hy => by
  obtain ⟨x, _, rfl⟩ := List.mem_map.mp hy
  rfl
theorem mem_sortS {ns : List Str} {n : Str} : n ∈ sortS ns ↔ n ∈ ns := List.mem_mergeSort
theorem len_sortS (ns : List Str) : (sortS ns).length = ns.length := List.length_mergeSort ns
end Fy
namespace Fy
open PySem PySem.Spec PyProof.Rows L2
open GxR (TabG Tabbed)
abbrev Ad := Addr → Prop
/-- the code objects' tables are as they should be -/
structure Tb (TL : List (Addr × Str)) (TG : List Addr) (H : Hp) : Prop where
  lam : LamX.Tabs TL H
  gen : ∀ P ∈ TG, TabG H P
def NoT (o : HO) : Prop := ∀ ps, o ≠ .tbl ps
/-- from H to H': what is tracked stays, but for S and the tables -/
structure Go (TL : List (Addr × Str)) (TG : List Addr) (S : Ad) (H H' : Hp) : Prop where
  keep : ∀ b o, H b = some o → NoT o → ¬ S b → H' b = some o
  tb : Tb TL TG H → Tb TL TG H'
  free : ∀ p, H' p = none → H p = none
section
variable {TL : List (Addr × Str)} {TG : List Addr} {S S' : Ad} {H H1 H2 : Hp} {p P : Addr} {o o' : HO}
theorem Go.refl : Go TL TG S H H := ⟨fun _ _ h _ _ => h, id, fun _ h => h⟩
theorem Go.mono (g : Go TL TG S H H1) (h : ∀ b, S b → S' b) : Go TL TG S' H H1 := ⟨fun b o e n s => g.keep b o e n fun z => s (h b z), g.tb, g.free⟩
theorem Go.trans (a : Go TL TG S H H1) (b : Go TL TG S H1 H2) : Go TL TG S H H2 := ⟨fun c o e n s => b.keep c o (a.keep c o e n s) n s, fun t => b.tb (a.tb t), fun p h => a.free p (b.free p h)⟩
theorem Go.ext (e : ∀ b o, H b = some o → H1 b = some o) (f : ∀ p, H1 p = none → H p = none) : Go TL TG S H H1 :=
  ⟨fun b o h _ _ => e b o h, fun t => ⟨t.lam.ext e, fun P hP => by obtain ⟨ps, h1, h2⟩ := t.gen P hP; exact ⟨ps, e _ _ h1, h2⟩⟩, f⟩
theorem Go.new (hp : H p = none) : Go TL TG S H (upd H p o) := Go.ext (fun b o e => by rw [upd_ne (ne_of_none e hp)]; exact e) fun q h => by
  by_cases e : q = p
  · subst e; exact hp
  · rw [upd_ne e] at h; exact h
theorem noT_ext {φ : Heap → Prop} : NoT (.ext φ) := fun ps z => by cases z
/-- an object of a kind that may be written -/
def Plain (o : HO) : Prop := NoT o ∧ ∀ φ, o ≠ .ext φ
theorem plain_lst {xs : List V} : Plain (.lst xs) := ⟨fun _ z => (by cases z), fun _ z => (by cases z)⟩
theorem plain_dK {xs : List (Key × V)} : Plain (.dK xs) := ⟨fun _ z => (by cases z), fun _ z => (by cases z)⟩
theorem plain_dT {xs : List (List Key × V)} : Plain (.dT xs) := ⟨fun _ z => (by cases z), fun _ z => (by cases z)⟩
theorem plain_ins {C dx : Addr} {fs : List (Str × V)} : Plain (.ins C dx fs) := ⟨fun _ z => (by cases z), fun _ z => (by cases z)⟩
theorem Tb.set (t : Tb TL TG H) (hp : H p = some o') (pl : Plain o') : Tb TL TG (upd H p o) := by
  have nt : ∀ {P ps}, H P = some (HO.tbl ps) → P ≠ p := fun {P ps} e z => by
    rw [z, hp] at e
    exact pl.1 ps (Option.some.inj e)
  refine ⟨fun q hq => ?_, fun P hP => ?_⟩
  · obtain ⟨ps, h1, h2, h3⟩ := t.lam q hq
    refine ⟨ps, by rw [upd_ne (nt h1)]; exact h1, h2, fun pos cv hc => ?_⟩
    obtain ⟨c, e1, e2⟩ := h3 pos cv hc
    refine ⟨c, e1, ?_⟩
    have : c ≠ p := fun z => by
      rw [z, hp] at e2
      exact pl.2 _ (Option.some.inj e2)
    rw [upd_ne this]
    exact e2
  · obtain ⟨ps, h1, h2⟩ := t.gen P hP
    exact ⟨ps, by rw [upd_ne (nt h1)]; exact h1, h2⟩
theorem Go.set (hp : H p = some o') (pl : Plain o') (hs : S p) : Go TL TG S H (upd H p o) := ⟨fun b u e n s => by
    rw [upd_ne (fun z => s (by rw [z]; exact hs))]
    exact e, fun t => t.set hp pl, fun q h => by
    by_cases e : q = p
    · subst e; rw [upd_same] at h; cases h
    · rw [upd_ne e] at h; exact h⟩
/-- a generator's table has grown -/
theorem Go.tab (hT : Tabbed P H H1) (hg : TabG H P) (hP : P ∈ TG) (hd : ∀ q ∈ TL, q.1 ≠ P) : Go TL TG S H H1 := by
  obtain ⟨ps0, e0, _⟩ := hg
  have ne : ∀ {b o}, H b = some o → NoT o → b ≠ P := fun {b o} e n z => by
    rw [z, e0] at e
    exact n ps0 (Option.some.inj e).symm
  refine ⟨fun b o e n _ => by rw [hT.2 b (ne e n)]; exact e, fun t => ⟨fun q hq => ?_, fun Q hQ => ?_⟩, fun q h => ?_⟩
  · obtain ⟨ps, h1, h2, h3⟩ := t.lam q hq
    refine ⟨ps, by rw [hT.2 _ (hd q hq)]; exact h1, h2, fun pos cv hc => ?_⟩
    obtain ⟨c, e1, e2⟩ := h3 pos cv hc
    exact ⟨c, e1, by rw [hT.2 c (ne e2 (by unfold LamX.CodeO; exact noT_ext))]; exact e2⟩
  · by_cases e : Q = P
    · subst e; exact hT.1
    · obtain ⟨ps, h1, h2⟩ := t.gen Q hQ
      exact ⟨ps, by rw [hT.2 Q e]; exact h1, h2⟩
  · by_cases e : q = P
    · obtain ⟨ps, h1, _⟩ := hT.1
      rw [e, h1] at h
      cases h
    · rw [← hT.2 q e]; exact h
theorem Go.get (g : Go TL TG S H H1) (e : H p = some o) (n : NoT o := by intro _ z; cases z) (s : ¬ S p := by first | assumption | exact id) : H1 p = some o := g.keep p o e n s
theorem upd_none {q : Addr} : upd H p o q = none ↔ q ≠ p ∧ H q = none := by
  by_cases e : q = p
  · subst e
    rw [upd_same]
    exact ⟨fun h => (by cases h), fun h => absurd rfl h.1⟩
  · rw [upd_ne e]
    exact ⟨fun h => ⟨e, h⟩, fun h => h.2⟩
end
structure Good (P : Program) (w : World) (K : PySem.W.Frag) (mg : Str → Option Value) (base : Heap) (k : Nat) (f : Addr) (ps : List Str) (ds : List V) (sp : Sp) : Prop where
  ex : ∃ (fd : FuncData) (dvs : List Value), FnOk P w K mg base (L2.CX P w) k f fd ps sp ∧ Binds K fd ps dvs ∧ Vals ds dvs
  kp : PySem.W.keepIn K (.ref f) = true
section
variable {P : Program} {w : World} {K : PySem.W.Frag} {mg : Str → Option Value} {base : Heap} {k j : Nat} {f : Addr} {ps N : List Str} {ds : List V} {sp sp' : Sp}
theorem Good.mono (G : Good P w K mg base j f ps ds sp) (h : j ≤ k) : Good P w K mg base k f ps ds sp := by
  obtain ⟨⟨fd, dvs, F, b, v⟩, kp⟩ := G
  exact ⟨⟨fd, dvs, F.mono h, b, v⟩, kp⟩
theorem Good.imp (G : Good P w K mg base k f ps ds sp) (h : ∀ vs H Q E, sp' vs H Q E → sp vs H Q E) : Good P w K mg base k f ps ds sp' := by
  obtain ⟨⟨fd, dvs, F, b, v⟩, kp⟩ := G
  exact ⟨⟨fd, dvs, F.imp h, b, v⟩, kp⟩
/-- the context of a def's body -/
abbrev bodyX (P : Program) (w : World) (K : PySem.W.Frag) (mg : Str → Option Value) (base : Heap) (N : List Str) (d : He.DefD) (A : Around) (outer : List Env) (s : Shared) (H : Hp) (E : XK) : Cx :=
  cxOf (L2.CX P w) P w K mg base N d.qual d.scope (He.fAd K d.at_) (.ref (He.codeOf K d.at_)) A outer s H E
/-- THE RULE of a def: its body as a term, and the term's reading -/
theorem good_of {d : He.DefD} (F : ∃ fd, FunD K d.name d.qual d.params d.body d.scope (d.dvs K) (d.kws K) (He.fAd K d.at_) fd) (S : FnScope N ps d.scope)
    (hb : ∀ fd, FunD K d.name d.qual d.params d.body d.scope (d.dvs K) (d.kws K) (He.fAd K d.at_) fd → ∃ dvs, Vals ds dvs ∧ Binds K fd ps dvs)
    (len : ∀ vs H Q E, sp vs H Q E → vs.length = ps.length)
    (hbody : ∀ (A : Around) (outer : List Env) (s : Shared) (H : Hp) (vs : List V) (Q : VK) (E : XK), Room k (A.deeper (envOfC d.qual d.scope s.heap.objs.size (He.fAd K d.at_) (.ref (He.codeOf K d.at_)))) → sp vs H Q E →
      ∃ t, PSs (bodyX P w K mg base N d A outer s H E) d.body t ∧ t { nx := fun _ H' => Q .non H', rt := Q } (L2.start N vs) H) : Good P w K mg base (k + 1) (He.fAd K d.at_) ps ds sp := by
  obtain ⟨fd, D⟩ := F
  obtain ⟨dvs, rv, hbi⟩ := hb fd D
  refine ⟨⟨fd, dvs, ?_, hbi, rv⟩, D.kp⟩
  obtain ⟨oc, od, dV, kV, doc, pm, an, cdv, ct, osl, rfl, lk, hcd, _, _⟩ := D.ex
  obtain ⟨c, rfl⟩ := He.codeIn_ref hcd
  have ec : He.codeOf K d.at_ = c := He.codeOf_eq lk rfl
  refine fn_of lk hcd S len fun A outer s H vs Q E hr hsp => ?_
  have q := hbody A outer s H vs Q E (by rw [ec]; exact hr) hsp
  unfold bodyX at q
  rw [ec] at q
  exact q
/-- .. of no defaults -/
theorem good_of0 {d : He.DefD} (F : ∃ fd, FunD K d.name d.qual d.params d.body d.scope (d.dvs K) (d.kws K) (He.fAd K d.at_) fd) (S : FnScope N ps d.scope) (hd : d.dfl = [] := by rfl) (hk : d.kwd = [] := by rfl)
    (hb : ∀ (kV doc pm : Value) (an : Option Addr) (cdv ct : Value) (us : List Value), us.length = ps.length → bindArgs (PySem.W.fnOf d.name d.qual d.params d.body d.scope .none kV doc pm an cdv ct) ⟨us, []⟩ = pure (ps.zip us))
    (len : ∀ vs H Q E, sp vs H Q E → vs.length = ps.length)
    (hbody : ∀ (A : Around) (outer : List Env) (s : Shared) (H : Hp) (vs : List V) (Q : VK) (E : XK), Room k (A.deeper (envOfC d.qual d.scope s.heap.objs.size (He.fAd K d.at_) (.ref (He.codeOf K d.at_)))) → sp vs H Q E →
      ∃ t, PSs (bodyX P w K mg base N d A outer s H E) d.body t ∧ t { nx := fun _ H' => Q .non H', rt := Q } (L2.start N vs) H) : Good P w K mg base (k + 1) (He.fAd K d.at_) ps [] sp := by
  refine good_of F S (fun fd D => ⟨[], .nil, ?_⟩) len hbody
  unfold He.DefD.dvs He.DefD.kws at D
  rw [hd, hk] at D
  exact D.bindsN hb
end
section
variable {X : Cx} {k : Nat} {f C : Addr} {ps : List Str} {sp : Sp} {ds : List V} {E : XK} {x m : Str} {p pos apos : Pos} {e o : Expr} {es : List Expr} {ta : TE} {t : TA}
/-- what a def's body lets out goes on -/
theorem px {P : Program} {w : World} {K : PySem.W.Frag} {mg : Str → Option Value} {base : Heap} {N : List Str} {q : Str} {sc : Scope} {f : Addr} {cd : Value} {A : Around} {outer : List Env} {s : Shared} {H : Hp} {E : XK} :
    Passes (L2.CX P w) (cxOf (L2.CX P w) P w K mg base N q sc f cd A outer s H E) E :=
  passes_call (X := cxOf (L2.CX P w) P w K mg base N q sc f cd A outer s H E) (W := fun cls d σ H => E cls d H) (takes_of rfl rfl rfl rfl) fun _ _ _ _ h => h
theorem tkx {P : Program} {w : World} {K : PySem.W.Frag} {mg : Str → Option Value} {base : Heap} {N : List Str} {q : Str} {sc : Scope} {f : Addr} {cd : Value} {A : Around} {outer : List Env} {s : Shared} {H : Hp} {E : XK} :
    Takes (cxOf (L2.CX P w) P w K mg base N q sc f cd A outer s H E) (fun cls d _ H => E cls d H) := takes_of rfl rfl rfl rfl
/-- f(e, ..) -/
theorem pg_call (G : Good X.prog X.w X.K X.mg X.base k f ps ds sp) (hr : Room k X.A) (hg : Gl X x) (hm : X.mg x = some (.ref f)) (hx : Passes (L2.CX X.prog X.w) X E) (ha : PA X (e :: es) t) (hdb : (x == ("__debug__" : Str)) = false := by decide)
    (he : starEach (e :: es) X.env = (false, eval e X.env) :: starEach es X.env := by rfl) (hpl : (backTo pos (starEach es X.env)).any (·.1) = false := by rfl) : PE X (.Call (.Name x p) (e :: es) [] pos) (tCall sp ds E t) := by
  obtain ⟨⟨fd, dvs, F, b, v⟩, kp⟩ := G
  exact pe_call F hr hg hm kp b v hx ha hdb he hpl
theorem pg_call0 (G : Good X.prog X.w X.K X.mg X.base k f ps ds sp) (hr : Room k X.A) (hg : Gl X x) (hm : X.mg x = some (.ref f)) (hx : Passes (L2.CX X.prog X.w) X E) (hdb : (x == ("__debug__" : Str)) = false := by decide) : PE X (.Call (.Name x p) [] [] pos) (tCall sp ds E tNil) := by
  obtain ⟨⟨fd, dvs, F, b, v⟩, kp⟩ := G
  exact pe_call0 F hr hg hm kp b v hx hdb
/-- o.m(e, ..) -/
theorem pg_meth {pl : Sem Bool} (G : Good X.prog X.w X.K X.mg X.base k f ps ds sp) (hr : Room k X.A) (c : Cls X.K C) (hm : Meth X.K C m f) (hx : Passes (L2.CX X.prog X.w) X E) (he : PE X o ta) (ha : PA X (e :: es) t)
    (hst : starEach (e :: es) X.env = (false, eval e X.env) :: starEach es X.env := by rfl) (hpl : (backTo pos (starEach es X.env)).any (·.1) = false := by rfl)
    (ht : eval (.Call (.Attribute o m apos) (e :: es) [] pos) X.env = (do
      let ov ← eval o X.env
      standAt apos.atName
      let (f, first) ← holding [ov] (getMethod ov m pl)
      callWith pos f first (backTo pos (starEach (e :: es) X.env)) (backToKw pos (keywordEach [] X.env))) := by rfl) :
    PE X (.Call (.Attribute o m apos) (e :: es) [] pos) (tMeth C m sp ds E ta t) := by
  obtain ⟨⟨fd, dvs, F, b, v⟩, kp⟩ := G
  exact pe_meth he c hm F hr b v hx ha hst hpl ht
theorem pg_meth0 {pl : Sem Bool} (G : Good X.prog X.w X.K X.mg X.base k f ps ds sp) (hr : Room k X.A) (c : Cls X.K C) (hm : Meth X.K C m f) (hx : Passes (L2.CX X.prog X.w) X E) (he : PE X o ta)
    (ht : eval (.Call (.Attribute o m apos) [] [] pos) X.env = (do
      let ov ← eval o X.env
      standAt apos.atName
      let (f, first) ← holding [ov] (getMethod ov m pl)
      callWith pos f first (backTo pos (starEach [] X.env)) (backToKw pos (keywordEach [] X.env))) := by rfl) :
    PE X (.Call (.Attribute o m apos) [] [] pos) (tMeth C m sp ds E ta tNil) := by
  obtain ⟨⟨fd, dvs, F, b, v⟩, kp⟩ := G
  exact pe_meth0 he c hm F hr b v hx ht
/-- C(e, ..), C() -/
theorem pg_make (M : Mk X.K C f) (G : Good X.prog X.w X.K X.mg X.base k f ps ds sp) (hr : Room (k + 1) X.A) (hg : Gl X x) (hm : X.mg x = some (.ref C)) (hx : Passes (L2.CX X.prog X.w) X E) (ha : PA X (e :: es) t) (hdb : (x == ("__debug__" : Str)) = false := by decide)
    (he : starEach (e :: es) X.env = (false, eval e X.env) :: starEach es X.env := by rfl) (hpl : (backTo pos (starEach es X.env)).any (·.1) = false := by rfl) : PE X (.Call (.Name x p) (e :: es) [] pos) (tMake C sp ds E t) := by
  obtain ⟨⟨fd, dvs, F, b, v⟩, kp⟩ := G
  exact pe_make M F hr hg hm b v hx ha hdb he hpl
theorem pg_make0 (M : Mk X.K C f) (G : Good X.prog X.w X.K X.mg X.base k f ps ds sp) (hr : Room (k + 1) X.A) (hg : Gl X x) (hm : X.mg x = some (.ref C)) (hx : Passes (L2.CX X.prog X.w) X E) (hdb : (x == ("__debug__" : Str)) = false := by decide) :
    PE X (.Call (.Name x p) [] [] pos) (tMake C sp ds E tNil) := by
  obtain ⟨⟨fd, dvs, F, b, v⟩, kp⟩ := G
  exact pe_make0 M F hr hg hm b v hx hdb
end
end Fy
namespace Fy
open PySem PySem.Spec PyProof.Rows L2
/-- an own exception class over ValueError without __init__ -/
structure ExcF (K : PySem.W.Frag) (C : Addr) : Prop where
  ex : PySem.W.excIn K C He.veBase "ValueError.__new__" = true
  kp : PySem.W.keepIn K (.ref C) = true
  sb : PySem.W.subIn K (.ref C) (.type "BaseException") = some true
  ty : PySem.W.typeIn K (.ref C) = some (.type "type")
theorem ExcF.of {K : PySem.W.Frag} {C : Addr} (h : PySem.W.excIn K C He.veBase "ValueError.__new__" = true ∧ PySem.W.keepIn K (.ref C) = true ∧ PySem.W.subIn K (.ref C) (.type "BaseException") = some true ∧ PySem.W.typeIn K (.ref C) = some (.type "type")) : ExcF K C := ⟨h.1, h.2.1, h.2.2.1, h.2.2.2⟩
/-- raise C('..') -/
theorem ps_raiseC {X : Cx} {W : WX} {C : Addr} {x m : Str} {j : Nat} {p p2 pos rpos : Pos} (hc : X.calm = true) (tk : Takes X W) (F : ExcF X.K C) (gC : X.mg x = some (.ref C)) (hg : Gl X x) (hdb : (x == ("__debug__" : Str)) = false := by decide) :
    PS X (.Raise (some (.Call (.Name x p) [.Constant (.str m) j p2] [] pos)) none rpos) (fun _ σ H => W (.ref C) none σ H) :=
  ps_raise hc tk (pmk_own PySem.F.excBase_ValueError F.ex gC F.kp (raises_own F.sb F.ty) hg hdb)
theorem nodup_apart {α β : Type} {f : α → β} {A B : List α} (h : ((A ++ B).map f).Nodup) : ∀ a ∈ A, ∀ b ∈ B, f a ≠ f b := by
  rw [List.map_append, List.nodup_append] at h
  intro a ha b hb
  exact h.2.2 _ (List.mem_map.mpr ⟨a, ha, rfl⟩) _ (List.mem_map.mpr ⟨b, hb, rfl⟩)
end Fy
namespace Fy
open PySem PySem.Spec PyProof.Rows L2
def iSeq (K : PySem.W.Frag) (tl : TE) : TI := fun σ H R => tl σ H fun x H1 => ∃ a, x = .ref a ∧ (((∃ xs, SqL K H1 a xs) ∧ R (Itl K a) H1) ∨ ((∃ xs, SqT K H1 a xs) ∧ R (Itt K a) H1))
section
variable {X : Cx} {tg : Expr}
theorem pi_seq {l : Expr} {tl : TE} (hl : PE X l tl) : PI X tg l (iSeq X.K tl) := by
  refine ⟨fun pins s σ H R I h => ?_⟩
  refine thn (hl.run pins s σ H _ I h) fun v s1 ⟨x, H1, I1, r1, q1⟩ => ?_
  obtain ⟨a, e, q1⟩ := q1
  subst e
  cases r1
  rcases q1 with ⟨⟨xs, hq⟩, q⟩ | ⟨⟨xs, hq⟩, q⟩
  · obtain ⟨its, rv, p, hz⟩ := I1.list hq
    refine wpAny_pyIter_list p.isList ?_
    refine ⟨s1.heap.objs.size, [s1.heap.objs.size], _, _, H1, rfl, I1.kept (t' := s1.toks) fun b o e => Heap.get?_push_of_some _ e, turn_list a _, ⟨_, Heap.get?_push_size _ rfl, rfl, rfl⟩, fun b hb => ?_, q⟩
    have e : b = s1.heap.objs.size := by simpa using hb
    subst e
    exact I1.fpOk (Nat.le_refl _) (I1.hok.fresh (Nat.le_refl _))
  · obtain ⟨its, rv, p, hz⟩ := I1.tuple hq
    refine wpAny_pyIter_tuple (show s1.heap.IsTuple a its.toArray from p) ?_
    refine ⟨s1.heap.objs.size, [s1.heap.objs.size], _, _, H1, rfl, I1.kept (t' := s1.toks) fun b o e => Heap.get?_push_of_some _ e, turn_tuple a _, ⟨_, Heap.get?_push_size _ rfl, rfl, rfl⟩, fun b hb => ?_, q⟩
    have e : b = s1.heap.objs.size := by simpa using hb
    subst e
    exact I1.fpOk (Nat.le_refl _) (I1.hok.fresh (Nat.le_refl _))
end
/-- an empty tuple stands at a -/
def etB (K : PySem.W.Frag) (a : Addr) : Bool := match K.lookup a with
  | some ⟨.type c, _, .seq its _, _⟩ => decide (c = "tuple") && its.isEmpty
  | _ => false
theorem etB_ok {K : PySem.W.Frag} {a : Addr} (h : etB K a = true) (H : Hp) : SqT K H a [] := by
  unfold etB at h
  cases q : K.lookup a with
  | none => rw [q] at h; cases h
  | some o =>
    obtain ⟨oc, od, dt, osl⟩ := o
    rw [q] at h
    cases oc with
    | type c =>
      cases dt with
      | seq its n =>
        obtain ⟨h1, h2⟩ := Bool.and_eq_true_iff.mp h
        refine .inr ⟨_, its, n, q, by rw [of_decide_eq_true h1], rfl, by rw [Array.isEmpty_iff.mp h2]; decide, ?_⟩
        rw [Array.isEmpty_iff.mp h2]
        exact .nil
      | _ => cases h
    | _ => cases h
/-- a for loop as a fold -/
theorem for_fold {α β : Type} {J : It} {G : Hp → Prop} {g : TG} {tb : TS} {D : Ends} {σ : L2.St} {H : Hp} (v : β → V) (ys : List β) {n : Nat} (hn : n = ys.length) (w : Walk J n G (YAt (ys.map v))) (f : α → β → α) (a0 : α) (Rp : α → L2.St → Hp → Prop) (h0 : Rp a0 σ H) (hG : ∀ a σ H, Rp a σ H → G H)
    (hs : ∀ pre y post σ H, ys = pre ++ y :: post → Rp (pre.foldl f a0) σ H → g (v y) σ H fun σ2 H2 => tb { D with nx := Rp (f (pre.foldl f a0) y), ct := Rp (f (pre.foldl f a0) y), bk := D.nx } σ2 H2) (hd : ∀ σ H, Rp (ys.foldl f a0) σ H → D.nx σ H) :
    ∃ W : Nat → Nat → L2.St → Hp → Prop, (∃ m, W 0 m σ H) ∧ ∀ i m σ H, W i m σ H →
      (J.stop i H ∧ D.nx σ H) ∨ (J.go i H ∧ ∃ N : L2.St → Hp → Prop, (∀ σ' H', N σ' H' → ∃ m', m' < m ∧ W (i + 1) m' σ' H') ∧ ∀ x H', J.yld i H x H' → g x σ H' fun σ2 H2 => tb { D with nx := N, ct := N, bk := D.nx } σ2 H2) := by
  subst hn
  refine for_it w (fun i => Rp ((ys.take i).foldl f a0)) h0 (fun i σ H _ h => hG _ σ H h) (fun i x σ H H' hi h y => ?_) fun σ H h => hd σ H (by rw [List.take_length] at h; exact h)
  obtain ⟨rfl, e⟩ := y
  rw [List.getElem?_map] at e
  obtain ⟨y, e1, rfl⟩ := Option.map_eq_some_iff.mp e
  have e2 : ys = ys.take i ++ y :: ys.drop (i + 1) := by
    obtain ⟨h1, h2⟩ := List.getElem?_eq_some_iff.mp e1
    rw [← h2, ← List.drop_eq_getElem_cons h1, List.take_append_drop]
  have q := hs (ys.take i) y (ys.drop (i + 1)) σ H' e2 h
  have e3 : (ys.take (i + 1)).foldl f a0 = f ((ys.take i).foldl f a0) y := by
    rw [List.take_add_one, e1, List.foldl_append] <;> rfl
  show g (v y) σ H' fun σ2 H2 => tb { D with nx := Rp ((ys.take (i + 1)).foldl f a0), ct := Rp ((ys.take (i + 1)).foldl f a0), bk := D.nx } σ2 H2
  rw [e3]
  exact q
theorem walk_keysV {d : Addr} {o : Obj} {kvs : List (Key × V)} : Walk (Itk d o kvs) kvs.length (fun H => H d = some (.frz o (.dK kvs))) (YAt (kvs.map fun p => kV p.1)) :=
  walk_keys.mono (fun _ h => h) fun i H x H' _ _ y => by
    obtain ⟨e, k, v, e1, rfl⟩ := y
    exact ⟨e, by rw [List.getElem?_map, e1] <;> rfl⟩
theorem walk_itl {K : PySem.W.Frag} {a : Addr} {β : Type} {v : β → V} {ys : List β} : Walk (Itl K a) ys.length (fun H => SqL K H a (ys.map v)) (YAt (ys.map v)) := by
  have := walk_list (K := K) (a := a) (xs := ys.map v)
  rw [List.length_map] at this
  exact this
theorem walk_itt {K : PySem.W.Frag} {a : Addr} {β : Type} {v : β → V} {ys : List β} : Walk (Itt K a) ys.length (fun H => SqT K H a (ys.map v)) (YAt (ys.map v)) := by
  have := walk_tup (K := K) (a := a) (xs := ys.map v)
  rw [List.length_map] at this
  exact this
/-- a for over a list or a tuple, as a fold -/
theorem seq_fold {K : PySem.W.Frag} {α β : Type} {g : TG} {tb : TS} {D : Ends} {σ : L2.St} {H : Hp} (v : β → V) (ys : List β) (b : Addr) (f : α → β → α) (a0 : α) (Rp : α → L2.St → Hp → Prop)
    (hb : (∀ a σ H, Rp a σ H → SqL K H b (ys.map v)) ∨ (∀ a σ H, Rp a σ H → SqT K H b (ys.map v))) (h0 : Rp a0 σ H)
    (hs : ∀ pre y post σ H, ys = pre ++ y :: post → Rp (pre.foldl f a0) σ H → g (v y) σ H fun σ2 H2 => tb { D with nx := Rp (f (pre.foldl f a0) y), ct := Rp (f (pre.foldl f a0) y), bk := D.nx } σ2 H2) (hd : ∀ σ H, Rp (ys.foldl f a0) σ H → D.nx σ H) :
    ∃ a, V.ref b = .ref a ∧ (((∃ xs, SqL K H a xs) ∧ (fun (J : It) (H : Hp) => ∃ W : Nat → Nat → L2.St → Hp → Prop, (∃ m, W 0 m σ H) ∧ ∀ i m σ H, W i m σ H →
      (J.stop i H ∧ D.nx σ H) ∨ (J.go i H ∧ ∃ N : L2.St → Hp → Prop, (∀ σ' H', N σ' H' → ∃ m', m' < m ∧ W (i + 1) m' σ' H') ∧ ∀ x H', J.yld i H x H' → g x σ H' fun σ2 H2 => tb { D with nx := N, ct := N, bk := D.nx } σ2 H2)) (Itl K a) H) ∨
      ((∃ xs, SqT K H a xs) ∧ (fun (J : It) (H : Hp) => ∃ W : Nat → Nat → L2.St → Hp → Prop, (∃ m, W 0 m σ H) ∧ ∀ i m σ H, W i m σ H →
      (J.stop i H ∧ D.nx σ H) ∨ (J.go i H ∧ ∃ N : L2.St → Hp → Prop, (∀ σ' H', N σ' H' → ∃ m', m' < m ∧ W (i + 1) m' σ' H') ∧ ∀ x H', J.yld i H x H' → g x σ H' fun σ2 H2 => tb { D with nx := N, ct := N, bk := D.nx } σ2 H2)) (Itt K a) H)) := by
  refine ⟨b, rfl, ?_⟩
  rcases hb with hb | hb
  · exact .inl ⟨⟨_, hb _ _ _ h0⟩, for_fold v ys rfl walk_itl f a0 Rp h0 (fun a σ H h => hb a σ H h) hs hd⟩
  · exact .inr ⟨⟨_, hb _ _ _ h0⟩, for_fold v ys rfl walk_itt f a0 Rp h0 (fun a σ H h => hb a σ H h) hs hd⟩
/-- a list or a tuple -/
def SqB (K : PySem.W.Frag) (H : Hp) (a : Addr) (xs : List V) : Prop := SqL K H a xs ∨ SqT K H a xs
section
variable {K : PySem.W.Frag} {TL : List (Addr × Str)} {TG : List Addr} {S : Ad} {H H' : Hp} {a : Addr} {xs : List V}
theorem Rd.go {u : HO} (h : Rd H a u) (g : Go TL TG S H H') (n : NoT u) (s : ¬ S a) : Rd H' a u := by
  rcases h with h | ⟨o, h⟩
  · exact .inl (g.keep _ _ h n s)
  · exact .inr ⟨o, g.keep _ _ h (by intro _ z; cases z) s⟩
theorem SqB.go (h : SqB K H a xs) (g : Go TL TG S H H') (s : ¬ S a) : SqB K H' a xs := by
  rcases h with (h | h) | (h | h)
  · exact .inl (.inl (Rd.go h g (by intro _ z; cases z) s))
  · exact .inl (.inr h)
  · exact .inr (.inl (Rd.go h g (by intro _ z; cases z) s))
  · exact .inr (.inr h)
end
end Fy
namespace Fy
open PySem PySem.Spec PyProof.Rows L2
section
variable {X : Cx} {pins : List (Addr × Obj)} {σ : L2.St} {H : Hp} {s : Shared}
/-- two values of the same data -/
def SameD (K : PySem.W.Frag) (H : Hp) (x y : V) : Prop := ∃ d, Dp K H x d ∧ Dp K H y d ∧ SeqAt.shaped d = true
theorem SameD.at_ (I : Inv X pins σ H s) {A : Around} (hu : A.units + 64 < cLine) {x y : V} {v u : Value} (h : SameD X.K H x y) (rx : RelV x v) (ry : RelV y u) : SeqAt.EqAt A s v u true := by
  obtain ⟨d, h1, h2, sd⟩ := h
  obtain ⟨as, r1⟩ := Dp.reads I d x v h1 rx
  obtain ⟨bs, r2⟩ := Dp.reads I d y u h2 ry
  have e := SeqAt.eqAt_reads d d A s v u as bs r1 r2 (SeqAt.canLay_of_shaped sd) (SeqAt.canLay_of_shaped sd) (SeqAt.room_of_shaped sd hu)
  rw [SeqAt.eqv_refl d (SeqAt.canLay_of_shaped sd)] at e
  exact e
theorem hits_same {κ : Type} [DecidableEq κ] (I : Inv X pins σ H s) {A : Around} (hu : A.units + 64 < cLine) {ls : List (κ × V)} {vb : List (κ × Value)} (rb : KV ls vb) {ks : List (κ × V)} {va : List (κ × Value)} (ra : KV ks va) :
    (∀ p ∈ ks, ∃ u, valV ls p.1 = some u ∧ SameD X.K H p.2 u) → PySem.W.KeqHits A s vb va true := by
  unfold KV at ra
  induction ra with
  | nil => intro _; exact .nil
  | @cons p q ps qs h t ih =>
    intro hp
    obtain ⟨h1, h2⟩ := h
    obtain ⟨u, e, f⟩ := hp p List.mem_cons_self
    have rr : RelO (some u) (valueAt vb p.1) := by rw [← e]; exact rb.val p.1
    obtain ⟨y, hy, ry⟩ := rr.some_of
    obtain ⟨k, v⟩ := q
    have h1' : p.1 = k := h1
    rw [h1'] at hy
    show PySem.W.KeqHits A s vb ((k, v) :: qs) (true && true)
    exact .hit hy (f.at_ I hu h2 ry) (ih fun p' hm => hp p' (List.mem_cons_of_mem _ hm))
end
section
variable {X : Cx}
/-- two dicts of the same keys and the same data -/
def rSameD (K : PySem.W.Frag) (b : Bool) : R2 := fun x y H Q => ∃ c d ks ls, x = .ref c ∧ y = .ref d ∧ H c = some (.dK ks) ∧ H d = some (.dK ls) ∧ ks.length = ls.length ∧ (∀ p ∈ ks, ∃ u, valV ls p.1 = some u ∧ SameD K H p.2 u) ∧ Q (.bl b) H
theorem op_eqDD (hu : X.A.units + 65 < cLine) : OpR X (compareOp .Eq) (rSameD X.K true) := by
  intro pins s σ H x y v u Q I rx ry h
  obtain ⟨a, b, ks, ls, rfl, rfl, ea, eb, hlen, hp, q⟩ := h
  obtain rfl : v = Value.ref a := rx
  obtain rfl : u = Value.ref b := ry
  obtain ⟨_, ya, va, ra, da⟩ := (show ObjOk X.prog X.w H s.heap a (.dK ks) from I.hok a _ ea)
  obtain ⟨_, yb, vb, rb, db⟩ := (show ObjOk X.prog X.w H s.heap b (.dK ls) from I.hok b _ eb)
  have hl : va.length = vb.length := by rw [← ra.length, ← rb.length]; exact hlen
  exact PySem.W.keq_eq (knd := mixKind X.prog X.w) (r := true) ya yb da db (by omega) (fun _ => hits_same I (by show X.A.units + 1 + 64 < cLine; omega) rb ra hp) ⟨.bl true, H, I, by simp [hl]; exact rfl, q⟩
theorem op_neDD (hu : X.A.units + 65 < cLine) : OpR X (compareOp .NotEq) (rSameD X.K false) := by
  intro pins s σ H x y v u Q I rx ry h
  obtain ⟨a, b, ks, ls, rfl, rfl, ea, eb, hlen, hp, q⟩ := h
  obtain rfl : v = Value.ref a := rx
  obtain rfl : u = Value.ref b := ry
  obtain ⟨_, ya, va, ra, da⟩ := (show ObjOk X.prog X.w H s.heap a (.dK ks) from I.hok a _ ea)
  obtain ⟨_, yb, vb, rb, db⟩ := (show ObjOk X.prog X.w H s.heap b (.dK ls) from I.hok b _ eb)
  have hl : va.length = vb.length := by rw [← ra.length, ← rb.length]; exact hlen
  exact PySem.W.keq_ne (knd := mixKind X.prog X.w) (r := true) ya yb da db (by omega) (fun _ => hits_same I (by show X.A.units + 1 + 64 < cLine; omega) rb ra hp) ⟨.bl false, H, I, by simp [hl]; exact rfl, q⟩
end
theorem dpAll_map {K : PySem.W.Frag} {H : Hp} {α : Type} {v : α → V} {d : α → PyData} (h : ∀ a, Dp K H (v a) (d a)) : ∀ xs : List α, DpAll K H (xs.map v) (xs.map d)
  | [] => .nil
  | x :: xs => .cons (h x) (dpAll_map h xs)
theorem eqv_same {d : PyData} (h : SeqAt.shaped d = true) : PyData.eqv d d = true := SeqAt.eqv_refl d (SeqAt.canLay_of_shaped h)
/-- a comprehension as a fold -/
theorem lc_fold {α β : Type} {J : It} {G : Hp → Prop} {g : TG} {tt : TT} {te : TE} {vs : List Nat} {σ : L2.St} {H1 : Hp} {D : Addr} {Qd : Hp → Prop} (v : β → V) (ys : List β) {n : Nat} (hn : n = ys.length) (w : Walk J n G (YAt (ys.map v))) (f : α → β → α) (a0 : α) (Rp : α → Hp → Prop) (h0 : Rp a0 (upd H1 D (.lst []))) (hG : ∀ a H, Rp a H → G H)
    (hs : ∀ pre y post H, ys = pre ++ y :: post → Rp (pre.foldl f a0) H → g (v y) (wipe σ vs) H fun σ2 H2 => wipe σ2 vs = wipe σ vs ∧ tt σ2 H2 fun b H3 =>
      if b = true then te σ2 H3 fun z H4 => ∃ acc, H4 D = some (.lst acc) ∧ acc.length < sizeLine ∧ Rp (f (pre.foldl f a0) y) (upd H4 D (.lst (acc ++ [z]))) else Rp (f (pre.foldl f a0) y) H3) (hd : ∀ H, Rp (ys.foldl f a0) H → Qd H) :
    ∃ W : Nat → Nat → Hp → Prop, (∃ m, W 0 m (upd H1 D (.lst []))) ∧ ∀ i m H, W i m H →
      (J.stop i H ∧ Qd H) ∨ (J.go i H ∧ ∃ Nx : Hp → Prop, (∀ H', Nx H' → ∃ m', m' < m ∧ W (i + 1) m' H') ∧ ∀ x H', J.yld i H x H' → g x (wipe σ vs) H' fun σ2 H2 => wipe σ2 vs = wipe σ vs ∧ tt σ2 H2 fun b H3 =>
        if b = true then te σ2 H3 fun y H4 => ∃ acc, H4 D = some (.lst acc) ∧ acc.length < sizeLine ∧ Nx (upd H4 D (.lst (acc ++ [y]))) else Nx H3) := by
  subst hn
  refine lc_it w (fun i => Rp ((ys.take i).foldl f a0)) h0 (fun i H _ h => hG _ H h) (fun i x H H' hi h y => ?_) fun H h => hd H (by rw [List.take_length] at h; exact h)
  obtain ⟨rfl, e⟩ := y
  rw [List.getElem?_map] at e
  obtain ⟨y, e1, rfl⟩ := Option.map_eq_some_iff.mp e
  have e2 : ys = ys.take i ++ y :: ys.drop (i + 1) := by
    obtain ⟨h1, h2⟩ := List.getElem?_eq_some_iff.mp e1
    rw [← h2, ← List.drop_eq_getElem_cons h1, List.take_append_drop]
  have q := hs (ys.take i) y (ys.drop (i + 1)) H' e2 h
  have e3 : (ys.take (i + 1)).foldl f a0 = f ((ys.take i).foldl f a0) y := by
    rw [List.take_add_one, e1, List.foldl_append] <;> rfl
  show g (v y) (wipe σ vs) H' fun σ2 H2 => wipe σ2 vs = wipe σ vs ∧ tt σ2 H2 fun b H3 =>
      if b = true then te σ2 H3 fun z H4 => ∃ acc, H4 D = some (.lst acc) ∧ acc.length < sizeLine ∧ Rp ((ys.take (i + 1)).foldl f a0) (upd H4 D (.lst (acc ++ [z]))) else Rp ((ys.take (i + 1)).foldl f a0) H3
  rw [e3]
  exact q
theorem Go.drop {TL : List (Addr × Str)} {TG : List Addr} {S S' : Ad} {H H' : Hp} (g : Go TL TG S H H') (h : ∀ b, S b → S' b ∨ H b = none) : Go TL TG S' H H' := ⟨fun b o e n s => g.keep b o e n fun z => (h b z).elim s fun q => (by rw [q] at e; cases e), g.tb, g.free⟩
theorem Go.wide {TL : List (Addr × Str)} {TG : List Addr} {S : Ad} {H H' : Hp} (g : Go TL TG (fun _ => False) H H') : Go TL TG S H H' := g.mono fun _ z => z.elim
theorem tYes_ok {σ : L2.St} {H : Hp} {A B : Hp → Prop} (h : A H) : tYes σ H fun b H3 => if b = true then A H3 else B H3 := by
  show (if true = true then A H else B H)
  rw [if_pos rfl]
  exact h
theorem u65 {k : Nat} {A : Around} (r : Room k A) : A.units + 65 < cLine := by have := r.un; omega
/-- dead code -/
theorem pss_dead {X : Cx} {body : List Stmt} : PSs X body (fun _ _ _ => False) := ⟨fun _ _ _ _ _ _ h => h.elim⟩
theorem pe_dead {X : Cx} {e : Expr} : PE X e (fun _ _ _ => False) := ⟨fun _ _ _ _ _ _ h => h.elim⟩
end Fy
namespace Fy
open PySem PySem.Spec PyProof.Rows L2
theorem leS_trans (a b c : Str) (h : leS a b = true) (h' : leS b c = true) : leS a c = true :=
  decide_eq_true (List.le_trans (of_decide_eq_true h) (of_decide_eq_true h'))
theorem leS_total (a b : Str) : (leS a b || leS b a) = true := by
  rcases List.le_total a.cps.toList b.cps.toList with h | h
  · exact Bool.or_eq_true_iff.mpr (.inl (decide_eq_true h))
  · exact Bool.or_eq_true_iff.mpr (.inr (decide_eq_true h))
theorem leS_anti {a b : Str} (h : leS a b = true) (h' : leS b a = true) : a = b := by
  have e : a.cps.toList = b.cps.toList := List.le_antisymm (of_decide_eq_true h) (of_decide_eq_true h')
  cases a
  cases b
  congr 1
  exact Array.toList_inj.mp e
theorem sortS_pw (ns : List Str) : (sortS ns).Pairwise fun a b => leS a b = true := List.pairwise_mergeSort leS_trans leS_total ns
theorem sorted_uniq {xs ys : List Str} (p : xs.Perm ys) (h : xs.Pairwise fun a b => leS a b = true) (h' : ys.Pairwise fun a b => leS a b = true) : xs = ys :=
  p.eq_of_pairwise (fun a b _ _ z z' => leS_anti z z') h h'
theorem sortS_filter (ns : List Str) (q : Str → Bool) : sortS (ns.filter q) = (sortS ns).filter q :=
  sorted_uniq ((List.mergeSort_perm _ _).trans ((List.mergeSort_perm ns leS).symm.filter q)) (sortS_pw _) ((sortS_pw ns).filter q)
theorem sortS_perm {ns ms : List Str} (p : ns.Perm ms) : sortS ns = sortS ms :=
  sorted_uniq ((List.mergeSort_perm _ _).trans (p.trans (List.mergeSort_perm ms leS).symm)) (sortS_pw _) (sortS_pw _)
section
variable {X : Cx} (K : PySem.W.Frag) (e : X.K = K)
include e
theorem ix_listK : IxR X (rIxL K) := e ▸ ix_list
theorem ix_tupK : IxR X (rIxT K) := e ▸ ix_tup
theorem sl_listK : SlR X (rSlL K) := e ▸ sl_list
theorem sl_tupAK : SlR X (rSlA K) := e ▸ sl_tupA
theorem pe_fldK {o : Expr} {f : Str} {pos : Pos} {ta : TE} (he : PE X o ta) (hb : attributeBase o f X.env (eval o X.env) = eval o X.env) : PE X (.Attribute o f pos) (tFld K ta f) := e ▸ pe_fld he hb
theorem op_in_seqK : OpR X (compareOp .In) (rIn K false) := e ▸ op_in_seq
theorem op_notIn_seqK : OpR X (compareOp .NotIn) (rIn K true) := e ▸ op_notIn_seq
theorem cr_sumK (hc : X.calm = true) : CallR X (.builtin "sum") (rSum K) := e ▸ cr_sum hc
theorem call_list_ofK : CallR X (.type "list") (fun xs H Q => ∃ p ys, xs = [.ref p] ∧ (SqL K H p ys ∨ SqT K H p ys) ∧ ∀ l, H l = none → Q (.ref l) (upd H l (.lst ys))) := e ▸ call_list_of
theorem call_lenK : CallR X (.builtin "len") (fun xs H Q => ∃ x n, xs = [x] ∧ LenV K x H n ∧ Q (.int n) H) := e ▸ call_len
theorem op_eqDK (hu : X.A.units + 64 < cLine) : OpR X (compareOp .Eq) (rEqD K) := e ▸ op_eqD hu
theorem op_neDK (hu : X.A.units + 64 < cLine) : OpR X (compareOp .NotEq) (rNeD K) := e ▸ op_neD hu
theorem pi_listK {tg l : Expr} {tl : TE} (hl : PE X l tl) : PI X tg l (iList K tl) := e ▸ pi_list hl
theorem pi_tupK {tg l : Expr} {tl : TE} (hl : PE X l tl) : PI X tg l (iTup K tl) := e ▸ pi_tup hl
end
end Fy
namespace Fy
open PySem PySem.Spec PyProof.Rows L2
open GxR (TabG Tabbed)
open LamX (CodeO TabS Tabs TabB lamCx lamEnv LamS GivesTo TTold codeO_ne)
abbrev lamQ (X : Cx) : Str := X.env.qual ++ "<lambda>"
abbrev lamO (X : Cx) (params : Arguments) (body : Expr) (scope : Scope) (pm : Value) (c' : Addr) (ctv : Value) : Obj := PySem.W.kla_obj "<lambda>" (lamQ X) params body scope (cloFrom X.env.cells scope.names []) pm c' ctv
section
variable {X : Cx} {pins : List (Addr × Obj)} {σ : L2.St} {H : Hp} {s : Shared} {TL : List (Addr × Str)} {TG : List Addr}
/-- the table grows by one new code object -/
theorem go_table {P c : Addr} {q : Str} {ps : Array Value} {pos : Pos} (hm : (P, q) ∈ TL) (hu : ∀ p ∈ TL, p.1 = P → p.2 = q) (hd : P ∉ TG) (hP : H P = some (.tbl ps)) (ht : TriplesOk ps.toList) (ha : ∀ (pos : Pos) (cv : Value), codeAmong pos ps.toList = some cv → ∃ c, cv = .ref c ∧ H c = some (CodeO c q)) (hc : H c = none) {S : Ad} :
    Go TL TG S H (upd (upd H P (.tbl (ps ++ #[rawInt pos.line, rawInt pos.col, .ref c]))) c (CodeO c q)) := by
  have keep : ∀ b o, H b = some o → NoT o → upd (upd H P (.tbl (ps ++ #[rawInt pos.line, rawInt pos.col, .ref c]))) c (CodeO c q) b = some o := fun b o e n => by
    rw [upd_ne (ne_of_none e hc), upd_ne (fun z => n ps (Option.some.inj (e.symm.trans (by rw [z]; exact hP))))]
    exact e
  refine ⟨fun b o e n _ => keep b o e n, fun t => ⟨fun p hp => ?_, fun Q hQ => ?_⟩, fun p hp => ?_⟩
  · have eL : (ps ++ #[rawInt pos.line, rawInt pos.col, .ref c]).toList = ps.toList ++ [rawInt pos.line, rawInt pos.col, .ref c] := by simp
    by_cases hb : p.1 = P
    · rw [hu p hp hb, hb]
      refine ⟨_, by rw [upd_ne (ne_of_none hP hc), upd_same], by rw [eL]; exact PySem.TriplesOk_snoc _ _ _ _ ht, fun p' cv hcv => ?_⟩
      rw [eL] at hcv
      rcases LamX.among_app _ ht hcv with z | z
      · obtain ⟨c0, e1, e2⟩ := ha p' cv z
        exact ⟨c0, e1, keep _ _ e2 fun ps => codeO_ne ps⟩
      · exact ⟨c, z, upd_same⟩
    · obtain ⟨ps', a1, a2, a3⟩ := t.lam p hp
      refine ⟨ps', by rw [upd_ne (ne_of_none a1 hc), upd_ne hb]; exact a1, a2, fun p' cv hcv => ?_⟩
      obtain ⟨c0, e1, e2⟩ := a3 p' cv hcv
      exact ⟨c0, e1, keep _ _ e2 fun ps => codeO_ne ps⟩
  · obtain ⟨ps', a1, a2⟩ := t.gen Q hQ
    have nQ : Q ≠ P := fun z => hd (by rw [← z]; exact hQ)
    exact ⟨ps', by rw [upd_ne (ne_of_none a1 hc), upd_ne nQ]; exact a1, a2⟩
  · obtain ⟨n1, h1⟩ := upd_none.mp hp
    exact (upd_none.mp h1).2
/-- a lambda without parameters is made -/
theorem lam_go {c P : Addr} {params : Arguments} {body : Expr} {scope : Scope} {pos : Pos} {E : Value → Shared → Prop} {Q : Value → Shared → Prop} (I : Inv X pins σ H s) (TB : TabB X.base X.mg c P) (hcode : X.env.code = .ref c)
    (hm : (P, lamQ X) ∈ TL) (hu : ∀ p ∈ TL, p.1 = P → p.2 = lamQ X) (hd : P ∉ TG) (tb : Tb TL TG H) (hdef : defaultsOf params X.env = ([], [])) (L : LamS X.env.scope scope)
    (h : ∀ (f c' : Addr) (pm ctv : Value) (H1 : Hp) (s' : Shared), Inv X pins σ H1 s' → Go TL TG (fun _ => False) H H1 → s'.heap.get? f = some (lamO X params body scope pm c' ctv) → H1 f = none → f ∉ frs X.stack → H1 c' = some (CodeO c' (lamQ X)) → (∀ p ∈ X.pn ++ pins, p.1 ≠ f) → Q (.ref f) s') :
    wpAny (model X.prog X.w) X.A (eval (.Lambda params body scope pos) X.env) Q E s := by
  obtain ⟨ps, hP, ht, ha⟩ := tb.lam _ hm
  have hP' : s.heap.get? P = some { cls := .none, data := .fields ps } := I.hok P _ hP
  have bP : s.heap.BuiltinsAt X.mg P := TB.bm.keeps I.bk
  have nofr : ∀ f, s.heap.objs.size ≤ f → f ∉ frs X.stack := fun f hf z => by
    rcases List.mem_cons.mp (I.stkSub _ z) with e | e
    · have h1 := I.lt
      rw [← e] at h1
      exact Nat.lt_irrefl _ (Nat.lt_of_lt_of_le h1 hf)
    · exact I.nofs hf e
  have nopin : ∀ f, s.heap.objs.size ≤ f → ∀ p ∈ X.pn ++ pins, p.1 ≠ f := fun f hf p hp z => by
    obtain ⟨e, _⟩ := I.pin p hp
    rw [z] at e
    exact Nat.lt_irrefl _ (Nat.lt_of_lt_of_le (Heap.lt_size e) hf)
  refine PySem.W.kla_eval hdef ?_
  cases hc : codeAmong pos ps.toList with
  | none =>
    refine PySem.W.kla_makeFunction (mg := X.mg) (c := c) (P := P) (ps := ps) (closure_ok (L.has I.ok)) I.ok.glob (I.mod.glob.keeps I.bk) hcode (TB.code.keeps I.bk) hP' ht hc TB.gP bP fun c' ctv h' tk hx hge hlt hrec htb => ?_
    obtain ⟨c2, oc, vs, t, e2, hoc, hdd, hv⟩ := hrec
    cases e2
    have hsz : s.heap.objs.size ≤ h'.objs.size := Nat.le_trans hge (Nat.le_of_lt hlt)
    have I1 := LamX.inv_table (t' := tk) (more := #[rawInt pos.line, rawInt pos.col, .ref c']) (h' := h'.push (lamO X params body scope ((X.mg "__name__").getD .none) c' ctv)) I hP
      (fun b o hb e => Heap.get?_push_of_some _ (hx b o hb e)) (Heap.get?_push_of_some _ htb) hge ⟨oc, vs, t, Heap.get?_push_of_some _ hoc, hdd, hv⟩
    refine h h'.objs.size c' ((X.mg "__name__").getD .none) ctv _ _ I1 (go_table hm hu hd hP ht ha (I.hok.fresh hge)) (Heap.get?_push_size _ rfl) ?_ (nofr _ hsz) upd_same (nopin _ hsz)
    have n2 : h'.objs.size ≠ P := Nat.ne_of_gt (Nat.lt_of_lt_of_le (Heap.lt_size hP') hsz)
    rw [upd_ne (Nat.ne_of_gt hlt), upd_ne n2]
    exact I.hok.fresh hsz
  | some cv =>
    obtain ⟨c', e, hco⟩ := ha pos cv hc
    subst e
    refine PySem.W.kla_makeFunctionHit (mg := X.mg) (c := c) (P := P) (ps := ps) (closure_ok (L.has I.ok)) I.ok.glob (I.mod.glob.keeps I.bk) hcode (TB.code.keeps I.bk) hP' ht hc bP fun ctv h' tk hx hsz => ?_
    have I1 : Inv X pins σ H { s with heap := h'.push (lamO X params body scope ((X.mg "__name__").getD .none) c' ctv), toks := tk } := I.kept fun b o e => Heap.get?_push_of_some _ (hx b o e)
    exact h h'.objs.size c' ((X.mg "__name__").getD .none) ctv H _ I1 .refl (Heap.get?_push_size _ rfl) (I.hok.fresh hsz) (nofr _ hsz) hco (nopin _ hsz)
end
/-- x(lambda: body): what the reading asks -/
def tLamG (TL : List (Addr × Str)) (TG : List Addr) (TT : (XK → Hp → VK → Prop) → Hp → VK → Prop) (t : XK → TE) : TE := fun σ H Q => Tb TL TG H ∧ ∀ H1, Go TL TG (fun _ => False) H H1 → TT (fun E H' Q' => t E σ H' Q') H1 Q
section
variable {X : Cx} {TL : List (Addr × Str)} {TG : List Addr}
/-- what a lambda's body lets out goes on -/
theorem pxl {A : Around} {outer : List Env} {s : Shared} {H : Hp} {E : XK} {scope : Scope} {f c' : Addr} : Passes (L2.CX (lamCx X A outer s H E scope f c').prog (lamCx X A outer s H E scope f c').w) (lamCx X A outer s H E scope f c') E :=
  passes_call (X := lamCx X A outer s H E scope f c') (W := fun cls d σ H => E cls d H) (takes_of rfl rfl rfl rfl) fun _ _ _ _ h => h
/-- told(lambda: body), told: try: return a() / except e: return ret -/
theorem pe_told {x a e ret : Str} {c P CS : Addr} {k j : Nat} {dt : He.DefD} {params : Arguments} {body : Expr} {scope : Scope} {t : XK → TE} {p lpos pos p1 p2 p3 p4 p5 p6 p7 p8 : Pos} {Ng : List Str}
    (F : ∃ fd, FunD X.K dt.name dt.qual dt.params dt.body dt.scope (dt.dvs X.K) (dt.kws X.K) (He.fAd X.K dt.at_) fd) (hx1 : dt.name = x) (hx2 : dt.qual = x) (hd : dt.dfl = []) (hkw : dt.kwd = [])
    (hbd : dt.body = [.Try [.Return (some (.Call (.Name a p1) [] [] p2)) p3] [.ExceptHandler (some (.Name e p4)) none [.Return (some (.Constant (.str ret) j p5)) p6] p7] [] [] p8])
    (hbi : ∀ (kV doc pm : Value) (an : Option Addr) (cdv ct : Value) (us : List Value), us.length = [a].length → bindArgs (PySem.W.fnOf dt.name dt.qual dt.params dt.body dt.scope .none kV doc pm an cdv ct) ⟨us, []⟩ = pure ([a].zip us))
    (hg : Gl X x) (hm : X.mg x = some (.ref (He.fAd X.K dt.at_))) (Sg : FnScope Ng [a] dt.scope) (hNg : Ng[0]? = some a) (hva : Vis dt.scope a) (hge : dt.scope.names.lookup e = some .globalImplicit) (hme : X.mg e = some (.ref CS)) (h0 : ∀ f : Addr, (L2.start Ng [V.ref f])[0]? = some (some (V.ref f)))
    (TB : TabB X.base X.mg c P) (hcode : X.env.code = .ref c) (hmT : (P, lamQ X) ∈ TL) (hu : ∀ p ∈ TL, p.1 = P → p.2 = lamQ X) (hdT : P ∉ TG) (hr : Room (k + 2) X.A) (L : LamS X.env.scope scope) (hdef : defaultsOf params X.env = ([], []))
    (hbind : ∀ (q : Str) (cl : List (Str × Addr)) (pm cv ctv : Value), bindArgs (PySem.W.kla_fn "<lambda>" q params body scope cl pm cv ctv) ⟨[], []⟩ = pure [])
    (hbody : ∀ (A : Around) (outer : List Env) (s : Shared) (H : Hp) (E : XK) (f c' : Addr), Room k (A.deeper (lamEnv X scope s.heap.objs.size f c')) → PE (lamCx X A outer s H E scope f c') body (t E))
    (hdb : (x == ("__debug__" : Str)) = false := by decide) (hda : (a == ("__debug__" : Str)) = false := by decide) (hcd : (a == ("__classdict__" : Str)) = false := by decide) (hde : (e == ("__debug__" : Str)) = false := by decide) :
    PE X (.Call (.Name x p) [.Lambda params body scope lpos] [] pos) (tLamG TL TG (TTold X.K CS ret) t) := by
  obtain ⟨fd, F⟩ := F
  have hb : Binds X.K fd [a] [] := by
    have F' := F
    unfold He.DefD.dvs He.DefD.kws at F'
    rw [hd, hkw] at F'
    exact F'.bindsN hbi
  obtain ⟨oc, od, dV, kV, doc, pm, an, cdv, ct, osl, rfl, lk, hcdv, _, _⟩ := F.ex
  have hk := F.kp
  subst hx1
  rw [hx2] at lk hcdv hb
  refine ⟨fun pins s σ H Q I h => ?_⟩
  obtain ⟨tb, h⟩ := h
  refine wpAny_Call_Name_kw (ld_glob I hg hm ?_ hdb)
  refine PySem.W.callWith_K (h₀ := X.base) I.ok.mod.kin hk ?_ (by rfl) (by rfl)
  show wpAny _ _ (spliced ((false, eval (.Lambda params body scope lpos) X.env) :: backTo pos (starEach [] X.env))) _ _ s
  refine Calls.spliced_cons (lam_go I TB hcode hmT hu hdT tb hdef L fun f c' pm' ctv H1 s' I1 g1 hf hfn hfr hco _ => ?_)
  refine Calls.spliced_nil ⟨I1.kIn, ?_⟩
  have hG : GivesTo X Ng dt.name dt.scope (He.fAd X.K dt.at_) cdv dt.body a (lamQ X) (TTold X.K CS ret) := by
    rw [hbd]
    exact LamX.told_gives hge hme hde h0
  have rc : codeAny (model X.prog X.w) X.A (.call (.ref (He.fAd X.K dt.at_)) ⟨[.ref f], []⟩) (CR C8.CX0 X.stack X.prog X.w H1 s' Q C8.E0) s' := by
    refine LamX.run_ofS (N := Ng) (ps := [a]) (us := [.ref f]) (vs := [.ref f]) lk hcdv Sg hr I1.env0 (hb s' [.ref f] I1.kIn rfl) (.cons rfl .nil) rfl fun hr' => ?_
    obtain ⟨t', ht', hq'⟩ := hG f c' s' H1 Q (fun E H' Q' => t E σ H' Q') (fun W pn xe E p1 p2 tk hW => LamX.pe_act (i := 0) I1 L hf hfn hfr (hbind _ _ _ _ _) tk hW hr' (fun A outer s H hr2 => hbody A outer s H E f c' hr2) hNg hva hda hcd) hco (h H1 g1)
    exact ⟨t', ht'.nox, hq'⟩
  refine wpAny_call (codeAny_mono rc fun r s2 hq => ?_)
  cases r with
  | error e => exact (show False from hq).elim
  | ok fl =>
    cases fl with
    | ret u => exact I1.after hq
    | next => exact False.elim hq
    | brk => exact False.elim hq
    | cont => exact False.elim hq
end
/-- the suites of a statement -/
def subS : Stmt → List Stmt
  | .For _ _ b _ _ => b
  | .While _ b _ _ => b
  | .If _ b _ _ => b
  | _ => []
def elsS : Stmt → List Stmt
  | .If _ _ b _ => b
  | _ => []
abbrev noS : Stmt := .Pass ⟨0, 0, 0, 0⟩
end Fy
namespace Fy
open PySem PySem.Spec PyProof.Rows L2
theorem plain_frz {od : Obj} {u : HO} : Plain (.frz od u) := ⟨fun _ z => (by cases z), fun _ z => (by cases z)⟩
theorem Go.unlock {TL : List (Addr × Str)} {TG : List Addr} {S : Ad} {H H' : Hp} {o : Addr} {od : Obj} {u : HO} (g : Go TL TG S (upd H o (.frz od u)) H') (ho : H o = some u) (pl : Plain u) (e : H' o = some (.frz od u)) : Go TL TG S H (upd H' o u) := by
  refine ⟨fun b x hb n s => ?_, fun t => (g.tb (t.set ho pl)).set e plain_frz, fun p hp => ?_⟩
  · by_cases z : b = o
    · rw [z, upd_same, ← ho, ← z]; exact hb
    · rw [upd_ne z]
      exact g.keep b x (by rw [upd_ne z]; exact hb) n s
  · obtain ⟨n, h⟩ := upd_none.mp hp
    have := g.free p h
    rw [upd_ne n] at this
    exact this
theorem mergeK_nodup : ∀ (kvs acc : List (Key × V)), ((acc ++ kvs).map (·.1)).Nodup → mergeK acc kvs = acc ++ kvs
  | [], acc, _ => by simp [mergeK]
  | p :: r, acc, nd => by
    have h1 : valV acc p.1 = none := by
      cases e : valV acc p.1 with
      | none => rfl
      | some v =>
        have a : (acc.any fun kv => decide (kv.1 = p.1)) = true := by rw [valV_any, e] <;> rfl
        obtain ⟨q, hq, e2⟩ := List.any_eq_true.mp a
        have e3 : q.1 = p.1 := of_decide_eq_true e2
        rw [List.map_append, List.nodup_append] at nd
        exact absurd e3 (nd.2.2 _ (List.mem_map.mpr ⟨q, hq, rfl⟩) _ (List.mem_map.mpr ⟨p, List.mem_cons_self, rfl⟩))
    have h2 : mergeK acc (p :: r) = mergeK (putK acc p.1 p.2) r := by simp [mergeK]
    rw [h2, putK_new _ h1, mergeK_nodup r (acc ++ [(p.1, p.2)]) (by simpa using nd)]
    simp
end Fy
namespace Fy
open PySem PySem.Spec PyProof.Rows L2
open GxR (TabG Tabbed)
open LamX (CodeO TabS Tabs TabB lamCx lamEnv LamS GivesTo TTold codeO_ne)
/-- the lambda of X that stands at f -/
def LamL (X : Cx) (params : Arguments) (body : Expr) (scope : Scope) (f c' : Addr) : HO := .ext fun h => f ∉ frs X.stack ∧ ∃ pm ctv, h.get? f = some (lamO X params body scope pm c' ctv)
theorem lamL_ok {X : Cx} {P : Program} {w : World} {params : Arguments} {body : Expr} {scope : Scope} {f c' : Addr} {pm ctv : Value} {H : Hp} {h : Heap} (n : f ∉ frs X.stack) (e : h.get? f = some (lamO X params body scope pm c' ctv)) : ObjOk P w H h f (LamL X params body scope f c') :=
  ⟨⟨n, pm, ctv, e⟩, ⟨_, e⟩, fun h1 h2 ⟨n, pm, ctv, e1⟩ st => ⟨n, pm, ctv, st _ e1⟩⟩
def tLamV (X : Cx) (TL : List (Addr × Str)) (TG : List Addr) (params : Arguments) (body : Expr) (scope : Scope) : TE := fun σ H Q => Tb TL TG H ∧ ∀ f c' H1 H2, Go TL TG (fun _ => False) H H1 → H1 f = none → H1 c' = some (CodeO c' (lamQ X)) → H2 = upd H1 f (LamL X params body scope f c') → Q (.ref f) H2
section
variable {X : Cx} {TL : List (Addr × Str)} {TG : List Addr}
theorem pe_lamV {c P : Addr} {params : Arguments} {body : Expr} {scope : Scope} {pos : Pos} (TB : TabB X.base X.mg c P) (hcode : X.env.code = .ref c)
    (hm : (P, lamQ X) ∈ TL) (hu : ∀ p ∈ TL, p.1 = P → p.2 = lamQ X) (hd : P ∉ TG) (L : LamS X.env.scope scope) (hdef : defaultsOf params X.env = ([], [])) : PE X (.Lambda params body scope pos) (tLamV X TL TG params body scope) := by
  refine ⟨fun pins s σ H Q I h => ?_⟩
  obtain ⟨tb, h⟩ := h
  obtain ⟨ps, hP, ht, ha⟩ := tb.lam _ hm
  have hP' : s.heap.get? P = some { cls := .none, data := .fields ps } := I.hok P _ hP
  have bP : s.heap.BuiltinsAt X.mg P := TB.bm.keeps I.bk
  have lab : ∀ {H1 : Hp} {h' : Heap} {pm ctv : Value} {c' f : Addr}, s.heap.objs.size ≤ f → h'.get? f = some (lamO X params body scope pm c' ctv) → ObjOk X.prog X.w H1 h' f (LamL X params body scope f c') := fun {H1 h' pm ctv c' f} hf e => lamL_ok (fun z => by
    rcases List.mem_cons.mp (I.stkSub _ z) with q | q
    · have h1 := I.lt
      rw [← q] at h1
      exact Nat.lt_irrefl _ (Nat.lt_of_lt_of_le h1 hf)
    · exact I.nofs hf q) e
  refine PySem.W.kla_eval hdef ?_
  cases hc : codeAmong pos ps.toList with
  | none =>
    refine PySem.W.kla_makeFunction (mg := X.mg) (c := c) (P := P) (ps := ps) (closure_ok (L.has I.ok)) I.ok.glob (I.mod.glob.keeps I.bk) hcode (TB.code.keeps I.bk) hP' ht hc TB.gP bP fun c' ctv h' tk hx hge hlt hrec htb => ?_
    obtain ⟨c2, oc, vs, t, e2, hoc, hdd, hv⟩ := hrec
    cases e2
    have hsz : s.heap.objs.size ≤ h'.objs.size := Nat.le_trans hge (Nat.le_of_lt hlt)
    have I1 := LamX.inv_table (t' := tk) (more := #[rawInt pos.line, rawInt pos.col, .ref c']) (h' := h') I hP (fun b o hb e => hx b o hb e) htb hge ⟨oc, vs, t, hoc, hdd, hv⟩
    have I2 := I1.laid (a := h'.objs.size) (o := LamL X params body scope h'.objs.size c') (t' := tk) (h' := h'.push (lamO X params body scope ((X.mg "__name__").getD .none) c' ctv)) (fun b o e => Heap.get?_push_of_some _ e) (Nat.le_refl _) (lab hsz (Heap.get?_push_size _ rfl))
    have n2 : h'.objs.size ≠ P := Nat.ne_of_gt (Nat.lt_of_lt_of_le (Heap.lt_size hP') hsz)
    refine ⟨.ref h'.objs.size, _, I2, rfl, h _ c' _ _ (go_table (pos := pos) hm hu hd hP ht ha (I.hok.fresh hge)) ?_ upd_same rfl⟩
    rw [upd_ne (Nat.ne_of_gt hlt), upd_ne n2]
    exact I.hok.fresh hsz
  | some cv =>
    obtain ⟨c', e, hco⟩ := ha pos cv hc
    subst e
    refine PySem.W.kla_makeFunctionHit (mg := X.mg) (c := c) (P := P) (ps := ps) (closure_ok (L.has I.ok)) I.ok.glob (I.mod.glob.keeps I.bk) hcode (TB.code.keeps I.bk) hP' ht hc bP fun ctv h' tk hx hsz => ?_
    have I2 := I.laid (a := h'.objs.size) (o := LamL X params body scope h'.objs.size c') (t' := tk) (h' := h'.push (lamO X params body scope ((X.mg "__name__").getD .none) c' ctv)) (fun b o e => Heap.get?_push_of_some _ (hx b o e)) hsz (lab hsz (Heap.get?_push_size _ rfl))
    exact ⟨.ref h'.objs.size, _, I2, rfl, h _ c' _ _ .refl (I.hok.fresh hsz) hco rfl⟩
end
end Fy
namespace Fy
open PySem PySem.Spec PyProof.Rows L2
section
variable {X : Cx} {pins : List (Addr × Obj)} {σ : L2.St} {H : Hp} {s : Shared}
/-- out of the block, back in the maker's frame -/
theorem blk_back {sc : Scope} {ce : Env} {fp : List Addr} {pins' : List (Addr × Obj)} {σ' : L2.St} {H' : Hp} {s' : Shared} (I : Inv X pins σ H s) (f : ∀ b ∈ fp, FpOk X pins H b) (J : Inv (X.blk s H sc ce fp) pins' σ' H' s') : Inv X pins σ H' s' := by
  refine I.call' J.os J.base J.hok J.bare (ch := fp) fun b hb => ?_
  obtain ⟨_, h1, _, h3, h4, h5⟩ := f b hb
  exact ⟨h3, h1, h4, h5⟩
theorem fp_blk {sc : Scope} {ce : Env} {fp : List Addr} {σ' : L2.St} {H' : Hp} {s' : Shared} (J : Inv (X.blk s H sc ce fp) [] σ' H' s') (n : ∀ b ∈ fp, H' b = none) : ∀ b ∈ fp, FpOk (X.blk s H sc ce fp) [] H' b := by
  intro b hb
  obtain ⟨h1, h2⟩ := J.ok.exf b hb
  refine ⟨n b hb, h1, J.ok.exfs b hb, Or.inl hb, fun x c e => h2 x c e, fun p hp => ?_⟩
  simp at hp
/-- the loop: no item is taken -/
theorem no_loop {elt iter : Expr} {ifs : List Expr} {y : Str} {py pos : Pos} {sc : Scope} {ce : Env} {it a : Addr} {i : Nat} {tt : TT} {ys : List V} {R : Hp → Prop} {acc : Value} {POST : Result → Shared → Prop} {s4 : Shared}
    (hc : X.calm = true) (pg : PG (X.blk s H sc ce [it]) (.Name y py) (gName i)) (pt : PTs (X.blk s H sc ce [it]) ifs tt) (hR : ∀ H', R H' → SqL X.K H' a ys)
    (step : ∀ x ∈ ys, ∀ H', R H' → gName i x (wipe σ [i]) H' fun σ2 H2 => wipe σ2 [i] = wipe σ [i] ∧ tt σ2 H2 fun b H3 => b = false ∧ R H3)
    (J0 : Inv (X.blk s H sc ce [it]) [] (wipe σ [i]) H s4) (st : s4.heap.IsListIter it a 0) (n0 : H it = none) (r0 : R H)
    (fin : ∀ s' H', Inv (X.blk s H sc ce [it]) [] (wipe σ [i]) H' s' → R H' → POST (.ok .next) s') :
    codeAny (model X.prog X.w) X.A (.compLoop (.ListComp elt [⟨.Name y py, iter, ifs, 0⟩] sc pos) 0 (.ref it) acc ce) POST s4 := by
  have T := turn_list (P := X.prog) (w := X.w) (K := X.K) (tg := .Name y py) a it
  have one : ∀ {G : Hp}, G it = none → ∀ b ∈ [it], G b = none := fun h b hb => by
    rw [List.mem_singleton.mp hb]
    exact h
  refine compLoop_any (fun n s' => ∃ k H', Inv (X.blk s H sc ce [it]) [] (wipe σ [i]) H' s' ∧ s'.heap.IsListIter it a k ∧ H' it = none ∧ R H' ∧ k + n = ys.length) ?_ ys.length ⟨0, H, J0, st, n0, r0, Nat.zero_add _⟩
  rintro n s5 ⟨k, G, J, st5, ng, rg, hk⟩
  have ok5 := fp_blk J (one ng)
  have hq := hR G rg
  cases n with
  | zero =>
    refine thnF (T.done (X.blk s H sc ce [it]) rfl rfl rfl hc k [] s5 _ G (fun _ _ => False) J ok5 st5 ⟨ys, hq, by omega⟩) fun r s6 h6 => ?_
    rw [h6.1]
    exact fin s6 G h6.2 rg
  | succ n =>
    have lt : k < ys.length := by omega
    refine thnF (T.item (X.blk s H sc ce [it]) rfl rfl rfl hc k [] s5 _ G (fun _ _ => False) J ok5 st5 ⟨ys, ys[k], hq, by simp [lt]⟩) fun r s6 h6 => ?_
    obtain ⟨u, hr, h6⟩ := h6
    rw [hr]
    refine thnF h6 fun _ s7 h7 => ?_
    obtain ⟨x, G7, J7, rx, ⟨eG, hx⟩, st7, n7⟩ := h7
    rw [eG] at J7 n7
    have hm : x ∈ ys := List.mem_of_getElem? (hx ys hq)
    have P7 := J7.pinned (fp_blk J7 n7) (T.obj _ _ st7)
    refine thnF (pg.run _ s7 _ G x u _ P7 rx (step x hm G rg)) fun _ s8 h8 => ?_
    obtain ⟨σ8, G8, J8, w8, q8⟩ := h8
    refine thnF (pt.run _ s8 σ8 G8 _ J8 q8) fun b s9 h9 => ?_
    obtain ⟨G9, J9, eb, r9⟩ := h9
    rw [eb]
    simp only [Bool.false_eq_true, if_false]
    obtain ⟨oi, ei, _⟩ := T.obj _ _ st7 it (by simp)
    have pin := J9.pin (it, oi) (List.mem_append_right _ (List.mem_append_right _ (mem_pinsAt (by simp) ei)))
    refine ⟨n, Nat.lt_succ_self n, k + 1, G9, (J9.unpinned (pins := [])).weak ?_ (fun j v e => ?_), T.keep _ _ _ st7 (fun b hb o e => ?_), pin.2.1, r9, by omega⟩
    · rw [← wipe_length (σ := σ8) (vs := [i]), w8]
    · rw [← w8] at e
      exact (wipe_some e).1
    · rw [List.mem_singleton.mp hb] at e ⊢
      rw [ei] at e
      cases e
      exact pin.1
/-- into the block, through it, and out -/
theorem no_enter {elt iter : Expr} {ifs : List Expr} {y : Str} {py pos : Pos} {sc : Scope} {it a D : Addr} {i : Nat} {tt : L2.St → TT} {ys : List V} {R : Hp → Prop} {Q : VK}
    (I : Inv X pins σ H s) (hc : X.calm = true) (hN : X.N.Nodup) (ok : BlkOk X.N X.env.scope sc [(y, i)]) (st : s.heap.IsListIter it a 0) (f : FpOk X pins H it) (lt : it < s.heap.objs.size)
    (hg : ∀ (s : Shared) (H : Hp) (C : Addr) (cl : List (Str × Addr)) (fp : List Addr), PG (X.blk s H sc (compEnvC sc cl C X.env) fp) (.Name y py) (gName i))
    (ht : ∀ (pins : List (Addr × Obj)) (σ : L2.St) (s : Shared) (H : Hp) (C : Addr) (cl : List (Str × Addr)) (fp : List Addr), Inv X pins σ H s → (∀ b ∈ fp, FpOk X pins H b) → PTs (X.blk s H sc (compEnvC sc cl C X.env) fp) ifs (tt σ))
    (hR : ∀ H', R H' → SqL X.K H' a ys) (step : ∀ x ∈ ys, ∀ H', R H' → gName i x (wipe σ [i]) H' fun σ2 H2 => wipe σ2 [i] = wipe σ [i] ∧ tt σ σ2 H2 fun b H3 => b = false ∧ R H3) (r0 : R H) (hQ : ∀ H', R H' → Q (.ref D) H') :
    codeAny (model X.prog X.w) X.A (.compStart (.ListComp elt [⟨.Name y py, iter, ifs, 0⟩] sc pos) 0 (.ref it) (.ref D) (compEnvC sc (cellsFrom (s.heap.objs.size + 1) sc.names (cloFrom X.env.cells sc.names [])) s.heap.objs.size X.env))
      (compPost (model X.prog X.w) X.A X.xe none (EP X pins σ Q) (.ref D) s.heap.objs.size) { s with heap := pushCells (s.heap.push { cls := .type "dict", data := .dict #[] }) sc.names } := by
  have ff : ∀ b ∈ [it], FpOk X pins H b ∧ b < s.heap.objs.size := fun b hb => by
    rw [List.mem_singleton.mp hb]
    exact ⟨f, lt⟩
  have J := block_start I ok hN ff
  have st4 : (pushCells (s.heap.push { cls := .type "dict", data := .dict #[] }) sc.names).IsListIter it a 0 := by
    obtain ⟨o, e, r⟩ := st
    exact ⟨o, pushCells_keeps _ _ _ _ (Heap.get?_push_of_some _ e), r⟩
  have T := turn_list (P := X.prog) (w := X.w) (K := X.K) (tg := .Name y py) a it
  refine codeAny_compStart_list ?_ (T.self X.A 0 _ _ _ st4 ?_)
  all_goals refine no_loop (tt := tt σ) (ys := ys) (R := R) hc (hg ..) (ht pins σ s H _ _ _ I fun b hb => (ff b hb).1) hR step J st4 f.1 r0 fun s' H' K' r' => ?_
  all_goals
    obtain ⟨m, hn, _⟩ := K'.loc
    have I' := blk_back I (fun b hb => (ff b hb).1) K'
    obtain ⟨g0, g1, g2, g3, g4, g5⟩ := I.fpOk (H' := H') (Nat.le_refl s.heap.objs.size) K'.free
    exact ⟨m, hn, fun h' sb => ⟨.ref D, H', I'.turned (t' := s'.toks) (fun b o hb e => (sb.2 b hb).trans e) g0 g1 g3 g4 g5, rfl, hQ H' r'⟩⟩
/-- what the reading asks -/
def tNo (K : PySem.W.Frag) (te : TE) (i : Nat) (tt : L2.St → TT) : TE := fun σ H Q => te σ H fun v H1 => ∃ (a : Addr) (ys : List V), v = .ref a ∧ SqL K H1 a ys ∧ ∀ D, H1 D = none → ∃ R : Hp → Prop, R (upd H1 D (.lst [])) ∧ (∀ H', R H' → SqL K H' a ys) ∧
  (∀ x ∈ ys, ∀ H', R H' → gName i x (wipe σ [i]) H' fun σ2 H2 => wipe σ2 [i] = wipe σ [i] ∧ tt σ σ2 H2 fun b H3 => b = false ∧ R H3) ∧ ∀ H', R H' → Q (.ref D) H'
theorem pe_lcNo {elt iter : Expr} {ifs : List Expr} {y : Str} {py pos : Pos} {sc : Scope} {i : Nat} {te : TE} {tt : L2.St → TT} (hc : X.calm = true) (hN : X.N.Nodup) (hi : PE X iter te) (ok : BlkOk X.N X.env.scope sc [(y, i)])
    (hg : ∀ (s : Shared) (H : Hp) (C : Addr) (cl : List (Str × Addr)) (fp : List Addr), PG (X.blk s H sc (compEnvC sc cl C X.env) fp) (.Name y py) (gName i))
    (ht : ∀ (pins : List (Addr × Obj)) (σ : L2.St) (s : Shared) (H : Hp) (C : Addr) (cl : List (Str × Addr)) (fp : List Addr), Inv X pins σ H s → (∀ b ∈ fp, FpOk X pins H b) → PTs (X.blk s H sc (compEnvC sc cl C X.env) fp) ifs (tt σ))
    (hs : ∀ x, foldedSetIterable iter X.env x = pure x := by intro _; rfl) : PE X (.ListComp elt [⟨.Name y py, iter, ifs, 0⟩] sc pos) (tNo X.K te i tt) := by
  refine ⟨fun pins s σ H Q I h => ?_⟩
  have fr : ∀ z ∈ sc.names, z.2 = .free → ∃ c, X.env.cells.lookup z.1 = some c := fun z hz e => I.ok.has _ (ok.free z hz e)
  rw [eval_ListComp]
  refine wpAny_comprehension_free rfl hs (closure_ok fr) ok.kind (fun z hz e => by rw [ok.uniq z hz, e]) ?_
  refine thn (hi.run pins s σ H _ I h) fun u s1 h1 => ?_
  obtain ⟨v, H1, I1, ru, a, ys, ev, hq, q⟩ := h1
  subst ev
  cases ru
  obtain ⟨its, rv, pl, hz⟩ := I1.list hq
  refine wpAny_pyIter_list pl.isList ?_
  have I2 : Inv X pins σ H1 { s1 with heap := s1.heap.push { cls := .type "list_iterator", data := .fields #[.ref a, .int 0 0] } } := I1.kept (t' := s1.toks) fun b o e => Heap.get?_push_of_some _ e
  have st2 : (s1.heap.push { cls := .type "list_iterator", data := .fields #[.ref a, .int 0 0] }).IsListIter s1.heap.objs.size a 0 := ⟨_, Heap.get?_push_size _ rfl, rfl, rfl⟩
  have f2 : FpOk X pins H1 s1.heap.objs.size := I1.fpOk (Nat.le_refl _) (I1.hok.fresh (Nat.le_refl _))
  have lt2 : s1.heap.objs.size < (s1.heap.push { cls := .type "list_iterator", data := .fields #[.ref a, .int 0 0] }).objs.size := by rw [Heap.size_push]; exact Nat.lt_succ_self _
  generalize s1.heap.objs.size = it at st2 f2 lt2 ⊢
  generalize e2 : ({ s1 with heap := s1.heap.push { cls := .type "list_iterator", data := .fields #[.ref a, .int 0 0] } } : Shared) = s2 at I2 ⊢
  have eh : s1.heap.push { cls := .type "list_iterator", data := .fields #[.ref a, .int 0 0] } = s2.heap := by rw [← e2]
  rw [eh] at st2 lt2
  clear e2 eh
  obtain ⟨R, r0, hR, step, hQ⟩ := q s2.heap.objs.size (I2.hok.fresh (Nat.le_refl _))
  have I3 : Inv X pins σ (upd H1 s2.heap.objs.size (.lst [])) { s2 with heap := s2.heap.push { cls := .type "list", data := .seq ([] : List Value).toArray } } :=
    I2.laid (t' := s2.toks) (fun b o e => Heap.get?_push_of_some _ e) (Nat.le_refl _) ⟨Nat.zero_le _, [], 0, .nil, Heap.get?_push_size _ rfl⟩
  refine wpAny_newObj_type (newEnv_comp (no_enter I3 hc hN ok ?_ ⟨?_, f2.2⟩ ?_ hg ht hR step r0 hQ)) (Nat.zero_le _)
  · obtain ⟨o, e, r⟩ := st2
    exact ⟨o, Heap.get?_push_of_some _ e, r⟩
  · rw [upd_ne (Nat.ne_of_lt lt2)]
    exact f2.1
  · rw [Heap.size_push]
    exact Nat.lt_succ_of_lt lt2
end
end Fy
namespace Fy
open PySem PySem.Spec PyProof.Rows L2
open LamX (CodeO TabS Tabs TabB lamCx lamEnv LamS GivesTo TTold codeO_ne)
/-- what stands at f is forgotten -/
def drp (H : Hp) (f : Addr) : Hp := fun b => if b = f then none else H b
section
variable {H : Hp} {f b : Addr} {o : HO} {φ : Heap → Prop}
theorem drp_same : drp H f f = none := if_pos rfl
theorem drp_ne (h : b ≠ f) : drp H f b = H b := if_neg h
theorem drp_none (h : H b = none) : drp H f b = none := by
  unfold drp
  split <;> trivial
theorem drp_get (hf : H f = some (.ext φ)) (h : H b = some o) (n : ∀ ψ, o ≠ .ext ψ) : drp H f b = some o := by
  have e : b ≠ f := fun z => by
    rw [z, hf] at h
    exact n φ (Option.some.inj h).symm
  rw [drp_ne e]
  exact h
theorem drp_tb {TL : List (Addr × Str)} {TG : List Addr} (hf : H f = some (.ext φ)) (hc : ∀ c q, H c = some (CodeO c q) → c ≠ f) (t : Tb TL TG H) : Tb TL TG (drp H f) := by
  refine ⟨fun p hp => ?_, fun P hP => ?_⟩
  · obtain ⟨ps, h1, h2, h3⟩ := t.lam p hp
    refine ⟨ps, drp_get hf h1 (fun _ z => by cases z), h2, fun pos cv e => ?_⟩
    obtain ⟨c, e1, e2⟩ := h3 pos cv e
    exact ⟨c, e1, by rw [drp_ne (hc c _ e2)]; exact e2⟩
  · obtain ⟨ps, h1, h2⟩ := t.gen P hP
    exact ⟨ps, drp_get hf h1 (fun _ z => by cases z), h2⟩
/-- the label is put back -/
theorem Go.back {TL : List (Addr × Str)} {TG : List Addr} {S : Ad} {H' : Hp} (hf : H f = some (.ext φ)) (hc : ∀ c q, H c = some (CodeO c q) → c ≠ f) (g : Go TL TG S (drp H f) H') (n : H' f = none) : Go TL TG S H (upd H' f (.ext φ)) := by
  refine ⟨fun b o e h1 h2 => ?_, fun t => ?_, fun p hp => ?_⟩
  · by_cases z : b = f
    · rw [z, hf] at e
      rw [z, upd_same, e]
    · rw [upd_ne z]
      exact g.keep b o (by rw [drp_ne z]; exact e) h1 h2
  · exact (Go.new (TL := TL) (TG := TG) (S := S) n).tb (g.tb (drp_tb hf hc t))
  · obtain ⟨n1, h1⟩ := upd_none.mp hp
    have := g.free p h1
    rw [drp_ne n1] at this
    exact this
end
section
variable {X : Cx} {pins : List (Addr × Obj)} {σ : L2.St} {H H' : Hp} {s s' : Shared} {f : Addr} {φ : Heap → Prop}
theorem inv_drp (I : Inv X pins σ H s) (hf : H f = some (.ext φ)) : Inv X pins σ (drp H f) s where
  ok := I.ok
  os := I.os
  bare := I.bare
  base := ⟨I.base.keep, I.base.slot, fun b o h1 h2 h3 => drp_none (I.base.free b o h1 h2 h3), I.base.there, fun b xs h => drp_get hf (I.base.tups b xs h) (fun _ z => by cases z), fun b o u h => drp_get hf (I.base.frzs b o u h) (fun _ z => by cases z),
    fun b ps h => (I.base.tbls b ps h).imp fun _ e => drp_get hf e fun _ z => by cases z⟩
  loc := I.loc
  cell := I.cell
  free := drp_none I.free
  freeC := fun x c e => drp_none (I.freeC x c e)
  pin := fun p hp => let q := I.pin p hp; ⟨q.1, drp_none q.2.1, q.2.2⟩
  hok := fun b o e => by
    have ne : b ≠ f := fun z => by
      rw [z, drp_same] at e
      cases e
    rw [drp_ne ne] at e
    exact (I.hok b o e).stay (fun _ _ _ z => z) (fun c z => drp_get hf z fun _ y => by cases y) fun c xs z => drp_get hf z fun _ y => by cases y
  len := I.len
theorem inv_back (I : Inv X pins σ H s) (hf : H f = some (.ext φ)) (J : Inv X pins σ H' s') (n : H' f = none) (l : ∀ H2, ObjOk X.prog X.w H2 s'.heap f (.ext φ)) : Inv X pins σ (upd H' f (.ext φ)) s' := by
  have k : ∀ {b o}, H' b = some o → upd H' f (.ext φ) b = some o := fun {b o} e => by
    rw [upd_ne (ne_of_none e n)]
    exact e
  have kn : ∀ {b}, H' b = none → H b = none → upd H' f (.ext φ) b = none := fun {b} e e2 => by
    rw [upd_ne fun z => by rw [z, hf] at e2; cases e2]
    exact e
  refine ⟨J.ok, J.os, J.bare, ⟨J.base.keep, J.base.slot, fun b o h1 h2 h3 => kn (J.base.free b o h1 h2 h3) (I.base.free b o h1 h2 h3), J.base.there, fun b xs h => k (J.base.tups b xs h), fun b o u h => k (J.base.frzs b o u h), fun b ps h => (J.base.tbls b ps h).imp fun _ e => k e⟩,
    J.loc, J.cell, kn J.free I.free, fun x c e => kn (J.freeC x c e) (I.freeC x c e), fun p hp => let q := J.pin p hp; ⟨q.1, kn q.2.1 (I.pin p hp).2.1, q.2.2⟩, fun b o e => ?_, J.len⟩
  by_cases z : b = f
  · rw [z, upd_same] at e
    rw [z, ← Option.some.inj e]
    exact l _
  · rw [upd_ne z] at e
    exact (J.hok b o e).stay (fun _ _ _ q => q) (fun c q => k q) fun c xs q => k q
end
/-- a lambda of X, with what is known of its body -/
structure LamK (X : Cx) (k : Nat) where
  params : Arguments
  body : Expr
  scope : Scope
  t : XK → TE
  L : LamS X.env.scope scope
  hbind : ∀ (q : Str) (cl : List (Str × Addr)) (pm cv ctv : Value), bindArgs (PySem.W.kla_fn "<lambda>" q params body scope cl pm cv ctv) ⟨[], []⟩ = pure []
  hbody : ∀ (A : Around) (outer : List Env) (s : Shared) (H : Hp) (E : XK) (f c' : Addr), Room k (A.deeper (lamEnv X scope s.heap.objs.size f c')) → PE (lamCx X A outer s H E scope f c') body (t E)
/-- what the reading asks of told(f): f one of the lambdas -/
def tTold (X : Cx) (k i : Nat) (CS : Addr) (ret : Str) (σ : L2.St) : TE := fun σY H Q => ∃ (f c' : Addr) (M : LamK X k), σY[i]? = some (some (.ref f)) ∧ H f = some (LamL X M.params M.body M.scope f c') ∧ H c' = some (CodeO c' (lamQ X)) ∧
  ((∀ c q, H c = some (CodeO c q) → c ≠ f) → TTold X.K CS ret (fun E H' Q' => M.t E σ H' Q') (drp H f) fun v H' => H' f = none → Q v (upd H' f (LamL X M.params M.body M.scope f c')))
section
variable {X : Cx}
theorem pe_toldV {x a e ret fn : Str} {CS : Addr} {k j i : Nat} {dt : He.DefD} {pf p pos p1 p2 p3 p4 p5 p6 p7 p8 : Pos} {Ng : List Str} {pins : List (Addr × Obj)} {σ : L2.St} {s3 : Shared} {H3 : Hp} {scope : Scope} {ce : Env} {fp : List Addr}
    (I3 : Inv X pins σ H3 s3) (f3 : ∀ b ∈ fp, FpOk X pins H3 b)
    (F : ∃ fd, FunD X.K dt.name dt.qual dt.params dt.body dt.scope (dt.dvs X.K) (dt.kws X.K) (He.fAd X.K dt.at_) fd) (hx1 : dt.name = x) (hx2 : dt.qual = x) (hd : dt.dfl = []) (hkw : dt.kwd = [])
    (hbd : dt.body = [.Try [.Return (some (.Call (.Name a p1) [] [] p2)) p3] [.ExceptHandler (some (.Name e p4)) none [.Return (some (.Constant (.str ret) j p5)) p6] p7] [] [] p8])
    (hbi : ∀ (kV doc pm : Value) (an : Option Addr) (cdv ct : Value) (us : List Value), us.length = [a].length → bindArgs (PySem.W.fnOf dt.name dt.qual dt.params dt.body dt.scope .none kV doc pm an cdv ct) ⟨us, []⟩ = pure ([a].zip us))
    (hg : Gl (X.blk s3 H3 scope ce fp) x) (hm : X.mg x = some (.ref (He.fAd X.K dt.at_))) (Sg : FnScope Ng [a] dt.scope) (hNg : Ng[0]? = some a) (hva : Vis dt.scope a) (hge : dt.scope.names.lookup e = some .globalImplicit) (hme : X.mg e = some (.ref CS)) (h0 : ∀ f : Addr, (L2.start Ng [V.ref f])[0]? = some (some (V.ref f)))
    (hr : Room (k + 2) X.A) (hi : X.N[i]? = some fn) (hvf : Vis ce.scope fn)
    (hdb : (x == ("__debug__" : Str)) = false := by decide) (hda : (a == ("__debug__" : Str)) = false := by decide) (hcd : (a == ("__classdict__" : Str)) = false := by decide) (hde : (e == ("__debug__" : Str)) = false := by decide) (hdf : (fn == ("__debug__" : Str)) = false := by decide) (hcf : (fn == ("__classdict__" : Str)) = false := by decide) :
    PE (X.blk s3 H3 scope ce fp) (.Call (.Name x p) [.Name fn pf] [] pos) (tTold X k i CS ret σ) := by
  obtain ⟨fd, F⟩ := F
  have hb : Binds X.K fd [a] [] := by
    have F' := F
    unfold He.DefD.dvs He.DefD.kws at F'
    rw [hd, hkw] at F'
    exact F'.bindsN hbi
  obtain ⟨oc, od, dV, kV, doc, pm, an, cdv, ct, osl, rfl, lk, hcdv, _, _⟩ := F.ex
  have hk := F.kp
  subst hx1
  rw [hx2] at lk hcdv hb
  refine ⟨fun pinsY s σY H Q I h => ?_⟩
  obtain ⟨f, c', M, hσ, hl, hco, h⟩ := h
  refine wpAny_Call_Name_kw (ld_glob I hg hm ?_ hdb)
  refine PySem.W.callWith_K (h₀ := X.base) I.ok.mod.kin hk ?_ (by rfl) (by rfl)
  show wpAny _ _ (spliced ((false, eval (.Name fn pf) (X.blk s3 H3 scope ce fp).env) :: backTo pos (starEach [] (X.blk s3 H3 scope ce fp).env))) _ _ s
  refine Calls.spliced_cons (thn ((pe_var (X := X.blk s3 H3 scope ce fp) (pos := pf) (i := i) hi hvf hdf hcf).run pinsY s σY H (fun v H1 => v = .ref f ∧ H1 = H) I ⟨.ref f, hσ, rfl, rfl⟩) fun u s1 ⟨v, H1, I1, r1, ev, eH⟩ => ?_)
  subst ev
  subst eH
  obtain rfl : u = Value.ref f := r1
  refine Calls.spliced_nil ⟨I1.kIn, ?_⟩
  -- what the label says; it is forgotten
  obtain ⟨⟨nfr, pm', ctv, hf⟩, _, _⟩ := I1.hok f _ hl
  have nc : ∀ c q, H1 c = some (CodeO c q) → c ≠ f := fun c q e z => by
    subst z
    obtain ⟨⟨ob, vs, t, e1, e2, _⟩, _, _⟩ := I1.hok c _ e
    rw [hf] at e1
    rw [← Option.some.inj e1] at e2
    cases e2
  have lab : ∀ {h' : Heap} (H2 : Hp), h'.get? f = some (lamO X M.params M.body M.scope pm' c' ctv) → ObjOk X.prog X.w H2 h' f (LamL X M.params M.body M.scope f c') := fun {h'} H2 e => lamL_ok nfr e
  have IX := inv_drp (blk_back I3 f3 I1) hl
  have IY := inv_drp I1 hl
  have nf : drp H1 f f = none := drp_same
  have hco' : drp H1 f c' = some (CodeO c' (lamQ X)) := by rw [drp_ne (nc c' _ hco)]; exact hco
  have h := h nc
  have hG : GivesTo X Ng dt.name dt.scope (He.fAd X.K dt.at_) cdv dt.body a (lamQ X) (TTold X.K CS ret) := by
    rw [hbd]
    exact LamX.told_gives hge hme hde h0
  have rc : codeAny (model X.prog X.w) X.A (.call (.ref (He.fAd X.K dt.at_)) ⟨[.ref f], []⟩) (CR C8.CX0 X.stack X.prog X.w (drp H1 f) s1 (fun v H' => H' f = none → Q v (upd H' f (LamL X M.params M.body M.scope f c'))) C8.E0) s1 := by
    refine LamX.run_ofS (N := Ng) (ps := [a]) (us := [.ref f]) (vs := [.ref f]) lk hcdv Sg hr IX.env0 (hb s1 [.ref f] IX.kIn rfl) (.cons rfl .nil) rfl fun hr' => ?_
    obtain ⟨t', ht', hq'⟩ := hG f c' s1 (drp H1 f) _ (fun E H' Q' => M.t E σ H' Q') (fun W pn xe E p1 p2 tk hW => LamX.pe_act (i := 0) IX M.L hf nf nfr (M.hbind _ _ _ _ _) tk hW hr' (fun A outer s H hr2 => M.hbody A outer s H E f c' hr2) hNg hva hda hcd) hco' h
    exact ⟨t', ht'.nox, hq'⟩
  refine wpAny_call (codeAny_mono rc fun r s2 hq => ?_)
  cases r with
  | error e => exact (show False from hq).elim
  | ok fl =>
    cases fl with
    | next => exact False.elim hq
    | brk => exact False.elim hq
    | cont => exact False.elim hq
    | ret u =>
      have un : ∃ H2, H2 f = none ∧ s2.heap.get? f = some (lamO X M.params M.body M.scope pm' c' ctv) ∧ CE X.stack X.prog X.w (drp H1 f) s1 (fun v H' => H' = H2 ∧ Q v (upd H2 f (LamL X M.params M.body M.scope f c'))) u s2 := by
        obtain ⟨v, H2, q1, q2, q3, q4, q5, q6⟩ := hq
        have n2 := q3.free f _ hf nf (by simp)
        exact ⟨H2, n2, q3.keep f _ hf nf nfr (by simp), v, H2, q1, q2, q3, q4, q5, rfl, q6 n2⟩
      obtain ⟨H2, n2, e2, ce⟩ := un
      obtain ⟨v, H2', J, rv, eH, q⟩ := IY.after ce
      subst eH
      exact ⟨v, _, inv_back I1 hl J n2 fun H2 => lab H2 e2, rv, q⟩
end
end Fy
namespace Fy
open PySem PySem.Spec PyProof.Rows L2
open LamX (CodeO TabS Tabs TabB lamCx lamEnv LamS GivesTo TTold codeO_ne)
/-- the lambda M of X stands at f -/
def LamM (X : Cx) {k : Nat} (M : LamK X k) (f c' : Addr) : HO := LamL X M.params M.body M.scope f c'
def tLamM (X : Cx) (TL : List (Addr × Str)) (TG : List Addr) {k : Nat} (M : LamK X k) : TE := fun σ H Q => Tb TL TG H ∧ ∀ f c' H1 H2, Go TL TG (fun _ => False) H H1 → H1 f = none → H1 c' = some (CodeO c' (lamQ X)) → H2 = upd H1 f (LamM X M f c') → Q (.ref f) H2
/-- what a written list of lambdas holds -/
def lamB : Stmt → Nat → Expr
  | .Assign _ (.List es _) _, j => match es.getD j (.Constant .none 0 ⟨0, 0, 0, 0⟩) with
    | .Lambda _ b _ _ => b
    | e => e
  | _, _ => .Constant .none 0 ⟨0, 0, 0, 0⟩
def lamSc (sc : Scope) : Stmt → Nat → Scope
  | .Assign _ (.List es _) _, j => match es.getD j (.Constant .none 0 ⟨0, 0, 0, 0⟩) with
    | .Lambda _ _ s _ => s
    | e => sc
  | _, _ => sc
def lamP (p : Arguments) : Stmt → Nat → Arguments
  | .Assign _ (.List es _) _, j => match es.getD j (.Constant .none 0 ⟨0, 0, 0, 0⟩) with
    | .Lambda q _ _ _ => q
    | e => p
  | _, _ => p
def lamL : Stmt → Nat → Expr
  | .Assign _ (.List es _) _, j => es.getD j (.Constant .none 0 ⟨0, 0, 0, 0⟩)
  | _, _ => .Constant .none 0 ⟨0, 0, 0, 0⟩
section
variable {X : Cx} {TL : List (Addr × Str)} {TG : List Addr}
theorem pe_lamM {c P : Addr} {k : Nat} {params : Arguments} {body : Expr} {scope : Scope} {pos : Pos} {t : XK → TE} (TB : TabB X.base X.mg c P) (hcode : X.env.code = .ref c)
    (hm : (P, lamQ X) ∈ TL) (hu : ∀ p ∈ TL, p.1 = P → p.2 = lamQ X) (hd : P ∉ TG) (L : LamS X.env.scope scope) (hdef : defaultsOf params X.env = ([], []))
    (hbind : ∀ (q : Str) (cl : List (Str × Addr)) (pm cv ctv : Value), bindArgs (PySem.W.kla_fn "<lambda>" q params body scope cl pm cv ctv) ⟨[], []⟩ = pure [])
    (hbody : ∀ (A : Around) (outer : List Env) (s : Shared) (H : Hp) (E : XK) (f c' : Addr), Room k (A.deeper (lamEnv X scope s.heap.objs.size f c')) → PE (lamCx X A outer s H E scope f c') body (t E)) :
    PE X (.Lambda params body scope pos) (tLamM X TL TG (k := k) ⟨params, body, scope, t, L, hbind, hbody⟩) := pe_lamV TB hcode hm hu hd L hdef
/-- where G holds, the lambda raises what is caught, and changes nothing of old -/
def isBad (X : Cx) (CS : Addr) (ret : Str) (G : L2.St → Hp → Prop) (TL : List (Addr × Str)) (TG : List Addr) (t : XK → TE) : Prop := ∀ σ H Q, G σ H → (∀ H', Go TL TG (fun _ => False) H H' → Q (.str ret) H') →
  t (fun cls _ H' => ∃ b, PySem.W.exmOne X.K cls (.ref CS) = some b ∧ (b = true → Q (.str ret) H') ∧ (b = false → False)) σ H Q
def BadF (X : Cx) (k : Nat) (CS : Addr) (ret : Str) (G : L2.St → Hp → Prop) (TL : List (Addr × Str)) (TG : List Addr) (f : Addr) (H : Hp) : Prop :=
  ∃ (c' : Addr) (M : LamK X k), H f = some (LamM X M f c') ∧ H c' = some (CodeO c' (lamQ X)) ∧ isBad X CS ret G TL TG M.t
variable {k : Nat} {CS : Addr} {ret : Str} {G : L2.St → Hp → Prop} {H H1 H2 : Hp} {f c' : Addr} {fs : List Addr}
theorem BadF.go (B : BadF X k CS ret G TL TG f H) (g : Go TL TG (fun _ => False) H H1) : BadF X k CS ret G TL TG f H1 := by
  obtain ⟨c', M, h1, h2, h3⟩ := B
  exact ⟨c', M, g.keep _ _ h1 (by intro _ z; unfold LamM LamL at z; cases z) id, g.keep _ _ h2 (fun ps => codeO_ne ps) id, h3⟩
theorem bad_nil : ∀ x : Addr, x ∈ ([] : List Addr) → BadF X k CS ret G TL TG x H := fun _ z => (by cases z)
/-- one lambda more -/
theorem bad_step (M : LamK X k) (B : ∀ x ∈ fs, BadF X k CS ret G TL TG x H) (hM : isBad X CS ret G TL TG M.t) (tb : Tb TL TG H) (g : Go TL TG (fun _ => False) H H1) (fn : H1 f = none) (hc : H1 c' = some (CodeO c' (lamQ X))) (e : H2 = upd H1 f (LamM X M f c')) :
    (∀ x : Addr, x ∈ fs ++ [f] → BadF X k CS ret G TL TG x H2) ∧ Go TL TG (fun _ => False) H H2 ∧ Tb TL TG H2 := by
  subst e
  have g2 := g.trans (Go.new (o := LamM X M f c') fn)
  refine ⟨fun x hx => ?_, g2, g2.tb tb⟩
  rcases List.mem_append.mp hx with z | z
  · exact (B x z).go g2
  · rw [List.mem_singleton.mp z]
    exact ⟨c', M, upd_same, by rw [upd_ne (ne_of_none hc fn)]; exact hc, hM⟩
theorem tTold_bad {i : Nat} {σ σY : L2.St} {Q : VK} (gd : ∀ {σ : L2.St} {H : Hp} {f : Addr} {φ : Heap → Prop}, H f = some (.ext φ) → (∀ c q, H c = some (CodeO c q) → c ≠ f) → G σ H → G σ (drp H f)) (hσ : σY[i]? = some (some (.ref f))) (B : BadF X k CS ret G TL TG f H) (g : G σ H)
    (h : ∀ H', Go TL TG (fun _ => False) H H' → Q (.str ret) H') : tTold X k i CS ret σ σY H Q := by
  obtain ⟨c', M, h1, h2, h3⟩ := B
  exact ⟨f, c', M, hσ, h1, h2, fun nc => h3 σ (drp H f) (fun v H' => H' f = none → Q v (upd H' f (LamL X M.params M.body M.scope f c'))) (gd h1 nc g) fun H' g' n => h _ (g'.back h1 nc n)⟩
end
end Fy
namespace Fy
open PySem PySem.Spec PyProof.Rows L2
open GxR (TabG Tabbed)
section
variable {P : Program} {w : World} {K : PySem.W.Frag} {mg : Str → Option Value} {base : Heap} {k : Nat} {ps N : List Str} {sp : Sp}
theorem fnOk_of {d : He.DefD} {fd : FuncData} (D : FunD K d.name d.qual d.params d.body d.scope (d.dvs K) (d.kws K) (He.fAd K d.at_) fd) (S : FnScope N ps d.scope)
    (len : ∀ vs H Q E, sp vs H Q E → vs.length = ps.length)
    (hbody : ∀ (A : Around) (outer : List Env) (s : Shared) (H : Hp) (vs : List V) (Q : VK) (E : XK), Room k (A.deeper (envOfC d.qual d.scope s.heap.objs.size (He.fAd K d.at_) (.ref (He.codeOf K d.at_)))) → sp vs H Q E →
      ∃ t, PSs (bodyX P w K mg base N d A outer s H E) d.body t ∧ t { nx := fun _ H' => Q .non H', rt := Q } (L2.start N vs) H) : FnOk P w K mg base (L2.CX P w) (k + 1) (He.fAd K d.at_) fd ps sp := by
  obtain ⟨oc, od, dV, kV, doc, pm, an, cdv, ct, osl, rfl, lk, hcd, _, _⟩ := D.ex
  obtain ⟨c, rfl⟩ := He.codeIn_ref hcd
  have ec : He.codeOf K d.at_ = c := He.codeOf_eq lk rfl
  refine fn_of lk hcd S len fun A outer s H vs Q E hr hsp => ?_
  have q := hbody A outer s H vs Q E (by rw [ec]; exact hr) hsp
  unfold bodyX at q
  rw [ec] at q
  exact q
theorem tb_empty {TL : List (Addr × Str)} {TG : List Addr} {H : Hp} (h1 : ∀ q ∈ TL, H q.1 = some (.tbl #[])) (h2 : ∀ q ∈ TG, H q = some (.tbl #[])) : Tb TL TG H :=
  ⟨fun q hq => ⟨#[], h1 q hq, trivial, fun pos cv z => by cases z⟩, fun q hq => ⟨#[], h2 q hq, trivial⟩⟩
/-- the law's place, behind the head -/
theorem lawAt_of {l : PySem.W.OpenLaw} {h : Heap} {n : Nat} {fa : List He.Fa} {fn : List He.DefD} {tf : List He.Defn} {ex : PySem.W.Frag → Bool} {TL : List (Addr × Str)} {TG : List Addr} {d : He.DefD} {x : Str} {f : Addr} {fd : FuncData}
    (KX : K.In h) (c : He.SaysX fa fn [] tf ex w h K) (hf : f = He.fAd K d.at_) (hb : ∀ (s : Shared) (u : Value), BindsTo s fd ⟨[u], []⟩ [(x, u)])
    (hTL : ∀ q ∈ TL, ∃ p ∈ tf, q.1 = (He.cT K p).2) (hTG : ∀ q ∈ TG, ∃ p ∈ tf, q = (He.cT K p).2)
    (hsp : ∀ (H : Hp) (a : Addr) (ns : List Int), ns.length ≤ n → (∀ z ∈ ns, Builtin.Int.intBits z ≤ 1048576) → SqL K H a (ns.map V.int) → Tb TL TG H → sp [.ref a] H (fun v _ => v = .bl true) fun _ _ _ => False)
    (hF : ∀ base : Heap, K.In base → base.Ns mainGlobals mg → (∀ p ∈ tf, LamX.TabB base mg (He.cT K p).1 (He.cT K p).2) → FnOk l.prog w K mg base (L2.CX l.prog w) k (He.fAd K d.at_) fd [x] sp) :
    LamX.LawAtS l w K (L2.CX l.prog w) k n x mg f h := by
  subst hf
  refine ⟨fd, tf.map (He.cT K), sp, fun p hp => ?_, fun p hp => ?_, fun p hp => ?_, hb, fun H a ns h1 h2 h3 h4 => ?_, fun base KB GB TB => hF base KB GB fun p hp => TB _ (List.mem_map.mpr ⟨p, hp, rfl⟩)⟩
  · obtain ⟨q, hq, rfl⟩ := List.mem_map.mp hp
    exact c.empty q hq
  · obtain ⟨q, hq, rfl⟩ := List.mem_map.mp hp
    exact c.out q hq
  · obtain ⟨q, hq, rfl⟩ := List.mem_map.mp hp
    exact PySem.W.codeHd_of_K KX (c.hd q hq)
  · refine hsp H a ns h1 h2 h4 (tb_empty (fun q hq => ?_) fun q hq => ?_)
    · obtain ⟨p, hp, e⟩ := hTL q hq
      rw [e]
      exact h3 _ (List.mem_map.mpr ⟨p, hp, rfl⟩)
    · obtain ⟨p, hp, e⟩ := hTG q hq
      rw [e]
      exact h3 _ (List.mem_map.mpr ⟨p, hp, rfl⟩)
theorem cx_false {P : Program} {w : World} {H : Hp} {s : Shared} {e : Value} {s' : Shared} (h : L2.CX P w [] H s (fun _ _ _ => False) e s') : False := by
  obtain ⟨_, _, _, _, _, _, _, _, _, _, _, _, z⟩ := h
  exact z
end
end Fy
namespace Fy
open PySem PySem.Spec PyProof.Rows L2
open GxR (TabG Tabbed)
/-- the view d.values() at p -/
def valsO (p d : Addr) : HO := .ext fun h => h.IsValuesView p d
def rValues : V → List V → Hp → VK → Prop := fun x xs H Q => ∃ (a : Addr) (kvs : List (Key × V)), x = .ref a ∧ xs = [] ∧ H a = some (.dK kvs) ∧ ∀ p, H p = none → Q (.ref p) (upd H p (valsO p a))
def rSumV : List V → Hp → VK → Prop := fun xs H Q => ∃ (p a : Addr) (kvs : List (Key × V)) (ns : List Int), xs = [.ref p] ∧ H p = some (valsO p a) ∧ H a = some (.dK kvs) ∧ kvs.map (·.2) = ns.map V.int ∧ Q (.int ns.sum) H
section
variable {X : Cx}
theorem mt_values : MtR X "dict.values" rValues := by
  intro pins s σ H x xs v us Q I rx rxs ⟨a, kvs, ex, exs, ha, q⟩
  subst ex
  subst exs
  cases rx
  cases rxs
  obtain ⟨_, lo, vs, rel, D⟩ := dk_of I.hok ha
  have new : (s.heap.push { cls := .type "dict_values", data := .fields #[.ref a] }).get? s.heap.objs.size = some { cls := .type "dict_values", data := .fields #[.ref a] } := Heap.get?_push_size _ rfl
  have J := I.laid (a := s.heap.objs.size) (o := valsO s.heap.objs.size a) (t' := s.toks) (h' := s.heap.push { cls := .type "dict_values", data := .fields #[.ref a] }) (fun b u e => Heap.get?_push_of_some _ e) (Nat.le_refl _)
    ⟨⟨_, new, rfl, rfl⟩, ⟨_, new⟩, fun h1 h2 ⟨o, e, r⟩ k => ⟨o, k o e, r⟩⟩
  exact call_meetsIn F.slot_dict_values D.typeIs F.entry_dict_values (F.args_dict_values_1 _) (meets_dict_values (mixKind X.prog X.w) a lo) ⟨⟨vs, D⟩, .ref s.heap.objs.size, _, J, rfl, q _ (I.hok.fresh (Nat.le_refl _))⟩
theorem cr_sumV (hc : X.calm = true) : CallR X (.builtin "sum") rSumV := by
  intro pins s σ H xs us Q I r ⟨p, a, kvs, ns, exs, hp, ha, hv, q⟩
  subst exs
  obtain ⟨u, rfl, ru⟩ := vals1 r
  cases ru
  have view : s.heap.IsValuesView p a := (I.hok p _ hp).1
  obtain ⟨_, lo, vs, rel, D⟩ := dk_of I.hok ha
  obtain ⟨ep, dat⟩ := D.dictAt
  have lt : a < s.heap.objs.size := let ⟨o, es, e, _⟩ := dat; Heap.lt_size e
  have hl : vs.length = ns.length := by
    have e := congrArg List.length hv
    rw [List.length_map, List.length_map] at e
    rw [← rel.length, e]
  refine call_sum_walkAnyS (wpAny_pyIter_values view dat ⟨_, _, _, _, _, _, _, fun j => (ns[j]?).getD 0, rfl, (Walks.dictValues (knd := mixKind X.prog X.w) (A := X.A.in1) (I.ok.hd hc) s.heap.objs.size a (Nat.ne_of_lt lt) vs ep).toS,
    ⟨⟨_, Heap.get?_push_size _ rfl, rfl, rfl⟩, dat.keep fun b u e => Heap.get?_push_of_some _ e⟩, fun b hb => ?_, fun i v hiv => ?_, fun s' t' hm => ?_⟩)
  · show b < (s.heap.push _).objs.size
    rw [Heap.size_push]
    rcases List.mem_cons.mp hb with z | z
    · rw [z]; exact Nat.lt_succ_self _
    · rw [List.mem_singleton.mp z]; exact Nat.lt_succ_of_lt lt
  · obtain ⟨k, hk⟩ := hiv
    obtain ⟨x, h1, h2⟩ := KV.at' rel hk
    have e1 : (kvs.map (·.2))[i]? = some x := by rw [List.getElem?_map, h1] <;> rfl
    rw [hv] at e1
    obtain ⟨n, e2, t, e3⟩ := int_at e1 h2
    refine ⟨t, ?_⟩
    show v = Value.int ((ns[i]?).getD 0) t
    rw [e3, e2] <;> rfl
  · obtain ⟨h', tk, rfl, hk⟩ := PySem.W.moved_old rfl rfl hm
    have J : Inv X pins σ H { s with heap := h', toks := tk } := I.kept hk
    refine ⟨.int ns.sum, H, J, ⟨t', ?_⟩, q⟩
    rw [hl, preSum_ints ns ns.length (Nat.le_refl _), List.take_length]
/-- the least of some ints: the first place that none is below -/
theorem argBest_min (f : Nat → Int) (n : Nat) : ∀ j, j ≤ n → f (argBest (fun i j => decide (f i < f j)) n) ≤ f j := (argBest_lt f n).2
def cMin : List V → Hp → VK → Prop := fun ys H Q => ∃ ns : List Int, ys = ns.map V.int ∧ ns ≠ [] ∧ ∀ m, m ∈ ns → (∀ y ∈ ns, m ≤ y) → Q (.int m) H
theorem tk_min : Taker X (.builtin "min") cMin := by
  intro pins σ H1 P g s Q h
  obtain ⟨ys, fp, wr, G, F, St, W, hst, hfp, hgm, hty, hF, H2, hT, ⟨ns, rfl, hn, q⟩, hI⟩ := h
  have hl : 0 < (ns.map V.int).length := by
    rw [List.length_map]
    exact List.length_pos_iff.mpr hn
  have hv : ∀ j y, F j y → ∃ t, y = .int ((ns[j]?).getD 0) t ∧ j < ns.length := fun j y hy => by
    obtain ⟨x, e, r⟩ := hF j y hy
    obtain ⟨n, e1, t, e2⟩ := int_at e r
    exact ⟨t, by rw [e2, e1] <;> rfl, (List.getElem?_eq_some_iff.mp e1).1⟩
  refine call_min_walkS (W.in4_1.self 0 _ _ _ hst ⟨g, fp, wr, G, _, F, St, _, rfl, W.in4_1, hst, hfp, hl, CmpOf.ints_lt (fun j => (ns[j]?).getD 0) fun j y hy => let ⟨t, e, _⟩ := hv j y hy; ⟨t, e⟩, fun v s' hP hm => ?_⟩)
  obtain ⟨t, e, lt⟩ := hv _ v hP
  refine ⟨.int _, H2, hI s' hm, ⟨t, e⟩, q _ ?_ fun y hy => ?_⟩
  · rw [List.getElem?_eq_getElem lt]
    exact List.getElem_mem _
  · obtain ⟨j, hj, e2⟩ := List.mem_iff_getElem.mp hy
    have := argBest_min (fun j => (ns[j]?).getD 0) ((ns.map V.int).length - 1) j (by rw [List.length_map]; omega)
    rw [← e2]
    simpa [hj] using this
end
section
variable {X : Cx}
abbrev Blk5 (X : Cx) (scope : Scope) (G : Cx → Prop) : Prop := ∀ (s : Shared) (H : Hp) (C : Addr) (cl : List (Str × Addr)) (fp : List Addr), G (X.blk s H scope (compEnvC scope cl C X.env) fp)
theorem ps_setDc {i : Nat} {y : Str} {py : Pos} {kx vx tg iter : Expr} {ifs : List Expr} {scope : Scope} {own : List (Str × Nat)} {pos spos : Pos} {wi : TI} {g : TG} {tt : TT} {tk tv : TE} (hc : X.calm = true) (hN : X.N.Nodup) (hy : X.N[i]? = some y) (hl : X.env.scope.names.lookup y = some .local)
    (hsw : swapsWith (.DictComp kx vx [⟨tg, iter, ifs, 0⟩] scope pos) (some (.Name y py)) spos.line X.env = pure true) (hi : PI X tg iter wi) (ok : BlkOk X.N X.env.scope scope own)
    (hg : Blk5 X scope fun Y => PG Y tg g) (ht : Blk5 X scope fun Y => PTs Y ifs tt) (hk : Blk5 X scope fun Y => PE Y kx tk) (hv : Blk5 X scope fun Y => PE Y vx tv) (hs : ∀ x, foldedSetIterable iter X.env x = pure x := by intro _; rfl) :
    PS X (.Assign [.Name y py] (.DictComp kx vx [⟨tg, iter, ifs, 0⟩] scope pos) spos) (tAsg (tDc wi g tt tk tv (own.map (·.2))) (gName i)) := ⟨fun pins s σ H D I h => by
  rw [exec_Assign_Name_used _ _ _ _ hsw]
  have run := dc_core (pos := pos) (pos' := firstIterPos [⟨tg, iter, ifs, 0⟩] pos) (use := some (assign (.Name y py) X.env)) (Qf := fun _ s' => SP X pins D .next s') (Q := fun x H1 => gName i x σ H1 D.nx) hc hN I hi ok hg ht hk hv hs h fun L C s' m H' J q hn f =>
    wpAny_assign_Name (store_ok2 (v := V.ref L) J hN hy (.inl hl) rfl (fun s2 J2 ⟨a, sb, ha⟩ => by
      have nC : C ≠ a := ha.elim (fun z => by rw [z]; exact f.2.1) fun z e => f.2.2.2.2.1 y a z e.symm
      exact ⟨m, hn.sameBut sb nC, fun h3 sb3 => ⟨_, H', J2.turned (t' := s2.toks) (fun b o hb e => (sb3.2 b hb).trans e) f.1 f.2.1 f.2.2.2.1 f.2.2.2.2.1 f.2.2.2.2.2, q⟩⟩) (.inr hl))
  exact wpAny_bind (wpAny_standAt (wpAny_bind (wpAny_bind (thn run fun _ s' hq => wpAny_pure (wpAny_pure hq)))))⟩
theorem swD_true {kx vx : Expr} {gs : List Comprehension} {scope : Scope} {pos py : Pos} {y : Str} {l : Nat} {env : Env} (hk : env.scope.kind = .function) (hy : env.scope.names.lookup y = some .local) (hl : (py.line == pos.line) = true)
    (ha : (scope.names.any fun (n, k) => n == y && (k == .local || k == .cell)) = false) : swapsWith (.DictComp kx vx gs scope pos) (some (.Name y py)) l env = pure true := by
  have h1 : env.kindOf y = some .local := hy
  have h2 : env.blockKind = .function := by
    unfold Env.blockKind
    rw [hk] <;> rfl
  simp only [swapsWith, h1, h2, ha, Expr.pos, hl] <;> rfl
end
/-- a dict comprehension as a fold -/
theorem dc_fold {β : Type} {J : It} {G : Hp → Prop} {g : TG} {tt : TT} {tk tv : TE} {vs : List Nat} {σ : L2.St} {H1 : Hp} {D : Addr} {Qd : Hp → Prop} (v : β → V) (ys : List β) {n : Nat} (hn : n = ys.length) (w : Walk J n G (YAt (ys.map v))) (Rp : List β → Hp → Prop) (h0 : Rp [] (upd H1 D (.dK []))) (hG : ∀ a H, Rp a H → G H)
    (hs : ∀ pre y post H, ys = pre ++ y :: post → Rp pre H → g (v y) (wipe σ vs) H fun σ2 H2 => wipe σ2 vs = wipe σ vs ∧ tt σ2 H2 fun b H3 =>
      if b = true then tk σ2 H3 fun y' H4 => tv σ2 H4 fun z H5 => ∃ kvs k, y' = kV k ∧ H5 D = some (.dK kvs) ∧ kvs.length < sizeLine ∧ Rp (pre ++ [y]) (upd H5 D (.dK (putK kvs k z))) else Rp (pre ++ [y]) H3) (hd : ∀ H, Rp ys H → Qd H) :
    ∃ W : Nat → Nat → Hp → Prop, (∃ m, W 0 m (upd H1 D (.dK []))) ∧ ∀ i m H, W i m H →
      (J.stop i H ∧ Qd H) ∨ (J.go i H ∧ ∃ Nx : Hp → Prop, (∀ H', Nx H' → ∃ m', m' < m ∧ W (i + 1) m' H') ∧ ∀ x H', J.yld i H x H' → g x (wipe σ vs) H' fun σ2 H2 => wipe σ2 vs = wipe σ vs ∧ tt σ2 H2 fun b H3 =>
        if b = true then tk σ2 H3 fun y H4 => tv σ2 H4 fun z H5 => ∃ kvs k, y = kV k ∧ H5 D = some (.dK kvs) ∧ kvs.length < sizeLine ∧ Nx (upd H5 D (.dK (putK kvs k z))) else Nx H3) := by
  subst hn
  refine ⟨fun i m H => m = ys.length - i ∧ i ≤ ys.length ∧ Rp (ys.take i) H, ⟨ys.length, by simp, Nat.zero_le _, h0⟩, ?_⟩
  rintro i m H ⟨rfl, hi, p⟩
  have q := hG _ H p
  by_cases hlt : i < ys.length
  · refine .inr ⟨w.goes i H hlt q, fun H => Rp (ys.take (i + 1)) H, fun H' p' => ⟨ys.length - (i + 1), by omega, rfl, hlt, p'⟩, fun x H' y => ?_⟩
    obtain ⟨e, e1⟩ := w.yields i H x H' hlt q y
    subst e
    rw [List.getElem?_map, List.getElem?_eq_getElem hlt] at e1
    have e1 : v ys[i] = x := Option.some.inj e1
    subst e1
    have e2 : ys = ys.take i ++ ys[i] :: ys.drop (i + 1) := by rw [← List.drop_eq_getElem_cons hlt, List.take_append_drop]
    have r := hs (ys.take i) ys[i] (ys.drop (i + 1)) H' e2 p
    rw [← List.take_succ_eq_append_getElem hlt] at r
    exact r
  · have e : i = ys.length := by omega
    subst e
    exact .inl ⟨w.stops H q, hd H (by rw [List.take_length] at p; exact p)⟩
theorem iteT' {b : Bool} {A B : Prop} (h : b = true) (a : A) : if b = true then A else B := by rw [if_pos h]; exact a
theorem iteF' {b : Bool} {A B : Prop} (h : b = false) (a : B) : if b = true then A else B := by rw [if_neg (by rw [h]; decide)]; exact a
end Fy
namespace Fy
open PySem PySem.Spec PyProof.Rows L2
def PrAt (H : Hp) (L : Addr) (ps : List (Str × V)) : Prop := ∃ as : List Addr, H L = some (.lst (as.map V.ref)) ∧ Paired (fun a p => H a = some (.tup [.str p.1, p.2])) as ps
section
variable {TL : List (Addr × Str)} {TG : List Addr} {S : Ad} {H H' : Hp} {L p : Addr} {ps : List (Str × V)} {n : Str} {v : V}
theorem paired_len {α β : Type} {F : α → β → Prop} : ∀ {xs : List α} {ys : List β}, Paired F xs ys → xs.length = ys.length
  | _, _, .nil => rfl
  | _, _, .cons _ t => by rw [List.length_cons, List.length_cons, paired_len t]
theorem paired_snoc {α β : Type} {F : α → β → Prop} {x : α} {y : β} (h : F x y) : ∀ {xs : List α} {ys : List β}, Paired F xs ys → Paired F (xs ++ [x]) (ys ++ [y])
  | _, _, .nil => .cons h .nil
  | _, _, .cons a t => .cons a (paired_snoc h t)
theorem paired_map {α β γ : Type} {F : α → β → Prop} {G : α → γ → Prop} {g : β → γ} (h : ∀ a b, F a b → G a (g b)) : ∀ {xs : List α} {ys : List β}, Paired F xs ys → Paired G xs (ys.map g)
  | _, _, .nil => .nil
  | _, _, .cons a t => .cons (h _ _ a) (paired_map h t)
theorem PrAt.nil (h : H L = some (.lst [])) : PrAt H L [] := ⟨[], h, .nil⟩
theorem PrAt.lst (h : PrAt H L ps) : ∃ acc, H L = some (.lst acc) ∧ acc.length = ps.length := by
  obtain ⟨as, h1, h2⟩ := h
  exact ⟨_, h1, by rw [List.length_map]; exact paired_len h2⟩
theorem PrAt.go (h : PrAt H L ps) (g : Go TL TG S H H') (s : ¬ S L) (st : ∀ b xs, H b = some (.tup xs) → ¬ S b) : PrAt H' L ps := by
  obtain ⟨as, h1, h2⟩ := h
  exact ⟨as, g.keep _ _ h1 (by intro _ z; cases z) s, Paired.mapP h2 fun a q e => g.keep _ _ e (by intro _ z; cases z) (st a _ e)⟩
/-- one pair more -/
theorem PrAt.snoc (h : PrAt H L ps) (hp : H p = none) : ∃ acc, upd H p (.tup [.str n, v]) L = some (.lst acc) ∧ acc.length = ps.length ∧ PrAt (upd (upd H p (.tup [.str n, v])) L (.lst (acc ++ [.ref p]))) L (ps ++ [(n, v)]) := by
  obtain ⟨as, h1, h2⟩ := h
  have nL := ne_of_none h1 hp
  refine ⟨as.map V.ref, by rw [upd_ne nL]; exact h1, by rw [List.length_map]; exact paired_len h2, as ++ [p], by rw [upd_same, List.map_append] <;> rfl, paired_snoc ?_ (Paired.mapP h2 fun a q e => ?_)⟩
  · show upd (upd H p (.tup [.str n, v])) L _ p = some (.tup [.str n, v])
    rw [upd_ne nL.symm, upd_same]
  · rw [upd_ne (ne_of e h1 (by intro z; cases z)), upd_ne (ne_of_none e hp)]
    exact e
abbrev kvS (ps : List (Str × V)) : List (Key × V) := ps.map fun p => (Sum.inr p.1, p.2)
theorem nodup_keyS {xs : List Str} (h : xs.Nodup) : (xs.map fun x => (Sum.inr x : Key)).Nodup := List.Pairwise.map _ (fun a b (n : a ≠ b) z => n (Sum.inr.inj z)) h
theorem mergeK_S (nd : (ps.map fun p => p.1).Nodup) : mergeK [] (kvS ps) = kvS ps := by
  rw [mergeK_nodup]
  · rfl
  · have : ((([] : List (Key × V)) ++ kvS ps).map (·.1)) = (ps.map fun p => p.1).map fun x => (Sum.inr x : Key) := by
      unfold kvS
      rw [List.nil_append, List.map_map, List.map_map]
      rfl
    rw [this]
    exact nodup_keyS nd
/-- what dict(..) of them asks -/
theorem PrAt.pairs {K : PySem.W.Frag} (h : PrAt H L ps) : ∃ as : List Addr, SqL K H L (as.map V.ref) ∧ Paired (fun p (kv : Key × V) => SqT K H p [kV kv.1, kv.2]) as (kvS ps) := by
  obtain ⟨as, h1, h2⟩ := h
  exact ⟨as, SqL.of h1, paired_map (G := fun p (kv : Key × V) => SqT K H p [kV kv.1, kv.2]) (g := fun p : Str × V => ((Sum.inr p.1 : Key), p.2)) (fun a b e => SqT.of e) h2⟩
end
theorem foldl_snoc0 {α : Type} : ∀ (ys acc : List α), ys.foldl (fun l y => l ++ [y]) acc = acc ++ ys
  | [], acc => by simp
  | y :: ys, acc => by
    rw [List.foldl_cons, foldl_snoc0 ys]
    simp
/-- a comprehension over a list or a dict's names, by what is behind -/
theorem lc_pre {β : Type} {J : It} {G : Hp → Prop} {g : TG} {tt : TT} {te : TE} {vs : List Nat} {σ : L2.St} {H1 : Hp} {D : Addr} {Qd : Hp → Prop} (v : β → V) (ys : List β) {n : Nat} (hn : n = ys.length) (w : Walk J n G (YAt (ys.map v))) (Rp : List β → Hp → Prop) (h0 : Rp [] (upd H1 D (.lst []))) (hG : ∀ a H, Rp a H → G H)
    (hs : ∀ pre y post H, ys = pre ++ y :: post → Rp pre H → g (v y) (wipe σ vs) H fun σ2 H2 => wipe σ2 vs = wipe σ vs ∧ tt σ2 H2 fun b H3 =>
      if b = true then te σ2 H3 fun z H4 => ∃ acc, H4 D = some (.lst acc) ∧ acc.length < sizeLine ∧ Rp (pre ++ [y]) (upd H4 D (.lst (acc ++ [z]))) else Rp (pre ++ [y]) H3) (hd : ∀ H, Rp ys H → Qd H) :
    ∃ W : Nat → Nat → Hp → Prop, (∃ m, W 0 m (upd H1 D (.lst []))) ∧ ∀ i m H, W i m H →
      (J.stop i H ∧ Qd H) ∨ (J.go i H ∧ ∃ Nx : Hp → Prop, (∀ H', Nx H' → ∃ m', m' < m ∧ W (i + 1) m' H') ∧ ∀ x H', J.yld i H x H' → g x (wipe σ vs) H' fun σ2 H2 => wipe σ2 vs = wipe σ vs ∧ tt σ2 H2 fun b H3 =>
        if b = true then te σ2 H3 fun y H4 => ∃ acc, H4 D = some (.lst acc) ∧ acc.length < sizeLine ∧ Nx (upd H4 D (.lst (acc ++ [y]))) else Nx H3) := by
  refine lc_fold v ys hn w (fun l y => l ++ [y]) [] Rp h0 hG (fun pre y post H e h => ?_) fun H h => hd H (by rw [foldl_snoc0, List.nil_append] at h; exact h)
  rw [foldl_snoc0, List.nil_append] at h ⊢
  exact hs pre y post H e h
theorem len_mid {α : Type} {ys pre post : List α} {y : α} {k : Nat} (e : ys = pre ++ y :: post) (h : ys.length ≤ k) : pre.length < k := by
  have := congrArg List.length e
  rw [List.length_append, List.length_cons] at this
  omega
theorem thou_lt {n : Nat} (h : n < 1000) : n < sizeLine := Nat.lt_of_lt_of_le h (by decide)
theorem thou_le {n : Nat} (h : n ≤ 1000) : n < sizeLine := Nat.lt_of_le_of_lt h (by decide)
/-- a locked dict's other objects -/
theorem upd_lock {H : Hp} {d D : Addr} {o : Obj} {u x : HO} (hd : H d = some u) (n : D ≠ d) : upd (upd (upd H d (.frz o u)) D x) d u = upd H D x := by
  funext b
  by_cases z : b = d
  · rw [z, upd_same, upd_ne n.symm]
    exact hd.symm
  · rw [upd_ne z]
    by_cases y : b = D
    · rw [y, upd_same, upd_same]
    · rw [upd_ne y, upd_ne z, upd_ne y]
theorem Go.extK {TL : List (Addr × Str)} {TG : List Addr} {S : Ad} {H H' : Hp} (e : ∀ b o, H b = some o → H' b = some o) : Go TL TG S H H' := Go.ext e fun p hp => by
  cases q : H p with
  | none => rfl
  | some o => rw [e p o q] at hp; cases hp
theorem paired_unmap {α β γ : Type} {F : α → γ → Prop} {g : β → γ} : ∀ {xs : List α} {ys : List β}, Paired F xs (ys.map g) → Paired (fun a b => F a (g b)) xs ys
  | [], [], _ => .nil
  | x :: xs, y :: ys, h => by
    cases h with
    | cons a t => exact .cons a (paired_unmap t)
  | [], _ :: _, h => by cases h
  | _ :: _, [], h => by cases h
/-- list(d.items()) -/
theorem PrAt.items {H : Hp} {p : Addr} {ts : List Addr} {ps : List (Str × V)} (h : H p = some (.lst (ts.map V.ref))) (h2 : Paired (fun (t : Addr) (q : Key × V) => H t = some (.tup [kV q.1, q.2])) ts (kvS ps)) : PrAt H p ps := ⟨ts, h, paired_unmap (F := fun (t : Addr) (q : Key × V) => H t = some (.tup [kV q.1, q.2])) (g := fun p : Str × V => ((Sum.inr p.1 : Key), p.2)) h2⟩
theorem paired_app {α β : Type} {F : α → β → Prop} : ∀ {xs : List α} {ys : List β} {us : List α} {vs : List β}, Paired F xs ys → Paired F us vs → Paired F (xs ++ us) (ys ++ vs)
  | _, _, _, _, .nil, h => h
  | _, _, _, _, .cons a t, h => .cons a (paired_app t h)
/-- [x] * int(good), for a new list -/
def oneIf {α : Type} (b : Bool) (x : α) : List α := if b = true then [x] else []
theorem rep_one {b : Bool} {x : V} : (List.replicate ((if b = true then (1 : Int) else 0)).toNat [x]).flatten = oneIf b x := by
  cases b <;> rfl
/-- pairs, and one more if b -/
theorem PrAt.more {K : PySem.W.Frag} {H : Hp} {L l t : Addr} {ps : List (Str × V)} {n : Str} {v : V} {b : Bool} (h : PrAt H L ps) (hl : H l = some (.lst (oneIf b (.ref t)))) (ht : H t = some (.tup [.str n, v])) (z : ps.length + 1 ≤ sizeLine) {Q : VK}
    (q : ∀ p, H p = none → PrAt (upd H p (.lst (h.choose.map V.ref ++ oneIf b (.ref t)))) p (ps ++ oneIf b (n, v)) → Q (.ref p) (upd H p (.lst (h.choose.map V.ref ++ oneIf b (.ref t))))) : rCat (.ref L) (.ref l) H Q := by
  obtain ⟨h1, h2⟩ := h.choose_spec
  refine ⟨L, l, _, _, rfl, rfl, h1, hl, ?_, fun p hp => q p hp ⟨h.choose ++ oneIf b t, ?_, ?_⟩⟩
  · have := paired_len h2
    rw [List.length_map, this]
    cases b
    · exact Nat.le_of_succ_le z
    · exact z
  · rw [upd_same, List.map_append]
    cases b <;> rfl
  · have h3 := Paired.mapP h2 fun a q e => (show upd H p (.lst (h.choose.map V.ref ++ oneIf b (.ref t))) a = some (.tup [.str q.1, q.2]) from by rw [upd_ne (ne_of_none e hp)]; exact e)
    refine paired_app h3 ?_
    cases b
    · exact .nil
    · exact .cons (by rw [upd_ne (ne_of_none ht hp)]; exact ht) .nil
end Fy
local macro_rules | `(tactic| walk_at "ne") => `(tactic| first | with_reducible assumption | (apply Ne.symm; with_reducible assumption) | (refine L2.ne_of_none (o := ?_) ?_ (by with_reducible assumption); rotate_left; walk_at "hp") | (refine (L2.ne_of_none (o := ?_) ?_ (by with_reducible assumption)).symm; rotate_left; walk_at "hp"))
local macro_rules | `(tactic| walk_at "hp") => `(tactic| first | with_reducible assumption | with_reducible exact L2.upd_same | (refine (L2.upd_ne ?_).trans ?_; (walk_at "ne"); walk_at "hp"))
local macro_rules | `(tactic| walk_at "v") => `(tactic| refine ⟨_, rfl, ?_⟩)
local macro_rules | `(tactic| walk_at "f") => `(tactic| refine ⟨_, _, _, _, _, rfl, (by walk_at "hp"), (by assumption), (by assumption), rfl, ?_⟩)
local macro_rules | `(tactic| walk_at "ix") => `(tactic| refine ⟨_, _, _, _, rfl, rfl, L2.SqL.of (by walk_at "hp"), (by rfl), ?_⟩)
local macro_rules | `(tactic| walk_at "ixt") => `(tactic| refine ⟨_, _, _, _, rfl, rfl, L2.SqT.of (by walk_at "hp"), (by rfl), ?_⟩)
local macro_rules | `(tactic| walk_at "go1") => `(tactic| first | refine ⟨_, rfl, ?_⟩ | refine ⟨_, _, rfl, rfl, ?_⟩ | refine ⟨rfl, ?_⟩ | walk_at "f" | walk_at "ix")
local macro_rules | `(tactic| walk_at "go") => `(tactic| repeat walk_at "go1")
namespace K2
open PySem PySem.Spec PyProof.Rows L2 Fy
abbrev R : PySem.W.OpenRow := PySem.W.OpenLaw.row PySem.Challenge.rw_firestack_k02_water_from_mains
def top (i : Nat) : Stmt := PySem.Challenge.pw_firestack_k02_water_from_mains.main.body.getD i (.Pass ⟨0, 0, 0, 0⟩)
abbrev s_Mains_init : Stmt := inClass (top 5) 0
abbrev s_Mains_add : Stmt := inClass (top 5) 1
abbrev s_Mains_line : Stmt := inClass (top 5) 2
abbrev s_Mains_turn_on : Stmt := inClass (top 5) 3
abbrev s_Mains_turn_off : Stmt := inClass (top 5) 4
abbrev s_Mains_flows : Stmt := inClass (top 5) 5
abbrev s_Mains_minute : Stmt := inClass (top 5) 6
abbrev s_Mains_most_at : Stmt := inClass (top 5) 7
abbrev s_Mains_broken : Stmt := inClass (top 5) 8
abbrev s_law_dice : Stmt := top 7
abbrev s_law_roll : Stmt := top 8
abbrev s_law_rounds : Stmt := top 9
abbrev s_law_told : Stmt := top 10
abbrev s_law_line : Stmt := top 11
abbrev s_law_flows : Stmt := top 12
abbrev s_law : Stmt := top 13
abbrev d_Mains_init : He.DefD := ⟨("Mains", some "__init__"), "__init__", "Mains.__init__", defArgs s_Mains_init, defBody s_Mains_init, defScope s_Mains_init, [], []⟩
abbrev d_Mains_add : He.DefD := ⟨("Mains", some "add"), "add", "Mains.add", defArgs s_Mains_add, defBody s_Mains_add, defScope s_Mains_add, [], []⟩
abbrev d_Mains_line : He.DefD := ⟨("Mains", some "line"), "line", "Mains.line", defArgs s_Mains_line, defBody s_Mains_line, defScope s_Mains_line, [], []⟩
abbrev d_Mains_turn_on : He.DefD := ⟨("Mains", some "turn_on"), "turn_on", "Mains.turn_on", defArgs s_Mains_turn_on, defBody s_Mains_turn_on, defScope s_Mains_turn_on, [], []⟩
abbrev d_Mains_turn_off : He.DefD := ⟨("Mains", some "turn_off"), "turn_off", "Mains.turn_off", defArgs s_Mains_turn_off, defBody s_Mains_turn_off, defScope s_Mains_turn_off, [], []⟩
abbrev d_Mains_flows : He.DefD := ⟨("Mains", some "flows"), "flows", "Mains.flows", defArgs s_Mains_flows, defBody s_Mains_flows, defScope s_Mains_flows, [], []⟩
abbrev d_Mains_minute : He.DefD := ⟨("Mains", some "minute"), "minute", "Mains.minute", defArgs s_Mains_minute, defBody s_Mains_minute, defScope s_Mains_minute, [], []⟩
abbrev d_Mains_most_at : He.DefD := ⟨("Mains", some "most_at"), "most_at", "Mains.most_at", defArgs s_Mains_most_at, defBody s_Mains_most_at, defScope s_Mains_most_at, [], []⟩
abbrev d_Mains_broken : He.DefD := ⟨("Mains", some "broken"), "broken", "Mains.broken", defArgs s_Mains_broken, defBody s_Mains_broken, defScope s_Mains_broken, [], []⟩
abbrev d_law_dice : He.DefD := ⟨("_law_dice", none), "_law_dice", "_law_dice", defArgs s_law_dice, defBody s_law_dice, defScope s_law_dice, [], []⟩
abbrev d_law_roll : He.DefD := ⟨("_law_roll", none), "_law_roll", "_law_roll", defArgs s_law_roll, defBody s_law_roll, defScope s_law_roll, [], []⟩
abbrev d_law_rounds : He.DefD := ⟨("_law_rounds", none), "_law_rounds", "_law_rounds", defArgs s_law_rounds, defBody s_law_rounds, defScope s_law_rounds, [], []⟩
abbrev d_law_told : He.DefD := ⟨("_law_told", none), "_law_told", "_law_told", defArgs s_law_told, defBody s_law_told, defScope s_law_told, [], []⟩
abbrev d_law_line : He.DefD := ⟨("_law_line", none), "_law_line", "_law_line", defArgs s_law_line, defBody s_law_line, defScope s_law_line, [], []⟩
abbrev d_law_flows : He.DefD := ⟨("_law_flows", none), "_law_flows", "_law_flows", defArgs s_law_flows, defBody s_law_flows, defScope s_law_flows, [], []⟩
abbrev d_law : He.DefD := ⟨("law", none), "law", "law", defArgs s_law, defBody s_law, defScope s_law, [], []⟩
def fn : List He.DefD := ([d_Mains_init, d_Mains_add, d_Mains_line, d_Mains_turn_on, d_Mains_turn_off, d_Mains_flows, d_Mains_minute, d_Mains_most_at, d_Mains_broken, d_law_dice, d_law_roll, d_law_rounds, d_law_told, d_law_line, d_law_flows, d_law] : List He.DefD)
def fa : List He.Fa := ([.glo "Mains", .cls "Mains", .mkr "Mains", .meth "Mains" "add", .meth "Mains" "line", .meth "Mains" "turn_on", .meth "Mains" "turn_off", .meth "Mains" "flows", .meth "Mains" "minute", .meth "Mains" "most_at", .meth "Mains" "broken", .noat "Mains" "comes", .noat "Mains" "full", .noat "Mains" "pipes", .noat "Mains" "tank", .noat "Mains" "taps", .noat "Mains" "used", .glo "BrigadeError", .exc "BrigadeError", .glo "WaterError", .exc "WaterError", .exm "BrigadeError" "WaterError" false, .exm "WaterError" "WaterError" true, .int "MOST_PIPES" 40, .glo "_law_dice", .glo "_law_roll", .glo "_law_rounds", .glo "_law_told", .glo "_law_line", .glo "_law_flows"] : List He.Fa) ++ ([.glo "law", .free "abs", .free "all", .free "dict", .free "int", .free "len", .free "list", .free "min", .free "range", .free "sorted", .free "str", .free "sum", .free "tuple"] : List He.Fa)
def tfL : List He.Defn := [("law", none)]
def tfG : List He.Defn := [("Mains", some "flows"), ("Mains", some "most_at")]
def tf : List He.Defn := tfL ++ tfG
def ex (K : PySem.W.Frag) : Bool := decide ((tf.map fun p => (He.cT K p).2).Nodup) && [].all (etB K)
def loose : List PySem.Str := (["BrigadeError", "WaterError", "MOST_PIPES", "Mains", "_law_dice", "_law_roll", "_law_rounds", "_law_told", "_law_line", "_law_flows"] : List PySem.Str)
abbrev hk : PySem.W.Hook := He.hookX 5 fa fn [] tf ex
def ob (s : PySem.W.SharedT) : He.AlX := He.obsX 5 fa fn [] tf ex (HandSHeadRun.getT s)
theorem ob_eq (s : PySem.W.SharedT) : ob s = hk.obs s.abs := He.obsX_eq (HandSHeadRun.getT_eq s)
/-- tables of lambdas, of generator expressions -/
def TL (K : PySem.W.Frag) : List (Addr × Str) := [((He.cT K ("law", none)).2, "law.<locals>.<lambda>")]
def TG (K : PySem.W.Frag) : List Addr := tfG.map fun p => (He.cT K p).2
theorem tl_mem {K : PySem.W.Frag} {q : Addr × Str} (h : q ∈ TL K) : ∃ a ∈ tfL, q.1 = (He.cT K a).2 := by
  simp only [TL, List.mem_cons, List.not_mem_nil, or_false] at h
  subst h
  all_goals exact ⟨_, by simp [tfL]; done, rfl⟩
theorem lq_law : ((d_law.qual ++ ".<locals>.") ++ "<lambda>" : PySem.Str) = "law.<locals>.<lambda>" := by decide +kernel
/-- all that the walk knows of the text -/
structure Txt (K : PySem.W.Frag) (mg : Str → Option Value) (base : Heap) : Prop where
  gl_Mains : mg "Mains" = some (.ref (He.ga K "Mains"))
  cl_Mains : Cls K (He.ga K "Mains")
  mk_Mains : Mk K (He.ga K "Mains") (He.ma K (He.ga K "Mains") "__init__")
  me_Mains_add : Meth K (He.ga K "Mains") "add" (He.ma K (He.ga K "Mains") "add")
  me_Mains_line : Meth K (He.ga K "Mains") "line" (He.ma K (He.ga K "Mains") "line")
  me_Mains_turn_on : Meth K (He.ga K "Mains") "turn_on" (He.ma K (He.ga K "Mains") "turn_on")
  me_Mains_turn_off : Meth K (He.ga K "Mains") "turn_off" (He.ma K (He.ga K "Mains") "turn_off")
  me_Mains_flows : Meth K (He.ga K "Mains") "flows" (He.ma K (He.ga K "Mains") "flows")
  me_Mains_minute : Meth K (He.ga K "Mains") "minute" (He.ma K (He.ga K "Mains") "minute")
  me_Mains_most_at : Meth K (He.ga K "Mains") "most_at" (He.ma K (He.ga K "Mains") "most_at")
  me_Mains_broken : Meth K (He.ga K "Mains") "broken" (He.ma K (He.ga K "Mains") "broken")
  no_Mains_comes : NoAttr K (He.ga K "Mains") "comes"
  no_Mains_full : NoAttr K (He.ga K "Mains") "full"
  no_Mains_pipes : NoAttr K (He.ga K "Mains") "pipes"
  no_Mains_tank : NoAttr K (He.ga K "Mains") "tank"
  no_Mains_taps : NoAttr K (He.ga K "Mains") "taps"
  no_Mains_used : NoAttr K (He.ga K "Mains") "used"
  gl_BrigadeError : mg "BrigadeError" = some (.ref (He.ga K "BrigadeError"))
  ex_BrigadeError : ExcF K (He.ga K "BrigadeError")
  gl_WaterError : mg "WaterError" = some (.ref (He.ga K "WaterError"))
  ex_WaterError : ExcF K (He.ga K "WaterError")
  em_BrigadeError_WaterError : PySem.W.exmOne K (.ref (He.ga K "BrigadeError")) (.ref (He.ga K "WaterError")) = some false
  em_WaterError_WaterError : PySem.W.exmOne K (.ref (He.ga K "WaterError")) (.ref (He.ga K "WaterError")) = some true
  c_MOST_PIPES : ∃ t, mg "MOST_PIPES" = some (.int 40 t)
  gl_law_dice : mg "_law_dice" = some (.ref (He.ga K "_law_dice"))
  gl_law_roll : mg "_law_roll" = some (.ref (He.ga K "_law_roll"))
  gl_law_rounds : mg "_law_rounds" = some (.ref (He.ga K "_law_rounds"))
  gl_law_told : mg "_law_told" = some (.ref (He.ga K "_law_told"))
  gl_law_line : mg "_law_line" = some (.ref (He.ga K "_law_line"))
  gl_law_flows : mg "_law_flows" = some (.ref (He.ga K "_law_flows"))
  gl_law : mg "law" = some (.ref (He.ga K "law"))
  fr_abs : mg "abs" = none
  fr_all : mg "all" = none
  fr_dict : mg "dict" = none
  fr_int : mg "int" = none
  fr_len : mg "len" = none
  fr_list : mg "list" = none
  fr_min : mg "min" = none
  fr_range : mg "range" = none
  fr_sorted : mg "sorted" = none
  fr_str : mg "str" = none
  fr_sum : mg "sum" = none
  fr_tuple : mg "tuple" = none
  fn_Mains_init : ∃ fd, FunD K d_Mains_init.name d_Mains_init.qual d_Mains_init.params d_Mains_init.body d_Mains_init.scope (d_Mains_init.dvs K) (d_Mains_init.kws K) (He.fAd K d_Mains_init.at_) fd
  fn_Mains_add : ∃ fd, FunD K d_Mains_add.name d_Mains_add.qual d_Mains_add.params d_Mains_add.body d_Mains_add.scope (d_Mains_add.dvs K) (d_Mains_add.kws K) (He.fAd K d_Mains_add.at_) fd
  fn_Mains_line : ∃ fd, FunD K d_Mains_line.name d_Mains_line.qual d_Mains_line.params d_Mains_line.body d_Mains_line.scope (d_Mains_line.dvs K) (d_Mains_line.kws K) (He.fAd K d_Mains_line.at_) fd
  fn_Mains_turn_on : ∃ fd, FunD K d_Mains_turn_on.name d_Mains_turn_on.qual d_Mains_turn_on.params d_Mains_turn_on.body d_Mains_turn_on.scope (d_Mains_turn_on.dvs K) (d_Mains_turn_on.kws K) (He.fAd K d_Mains_turn_on.at_) fd
  fn_Mains_turn_off : ∃ fd, FunD K d_Mains_turn_off.name d_Mains_turn_off.qual d_Mains_turn_off.params d_Mains_turn_off.body d_Mains_turn_off.scope (d_Mains_turn_off.dvs K) (d_Mains_turn_off.kws K) (He.fAd K d_Mains_turn_off.at_) fd
  fn_Mains_flows : ∃ fd, FunD K d_Mains_flows.name d_Mains_flows.qual d_Mains_flows.params d_Mains_flows.body d_Mains_flows.scope (d_Mains_flows.dvs K) (d_Mains_flows.kws K) (He.fAd K d_Mains_flows.at_) fd
  fn_Mains_minute : ∃ fd, FunD K d_Mains_minute.name d_Mains_minute.qual d_Mains_minute.params d_Mains_minute.body d_Mains_minute.scope (d_Mains_minute.dvs K) (d_Mains_minute.kws K) (He.fAd K d_Mains_minute.at_) fd
  fn_Mains_most_at : ∃ fd, FunD K d_Mains_most_at.name d_Mains_most_at.qual d_Mains_most_at.params d_Mains_most_at.body d_Mains_most_at.scope (d_Mains_most_at.dvs K) (d_Mains_most_at.kws K) (He.fAd K d_Mains_most_at.at_) fd
  fn_Mains_broken : ∃ fd, FunD K d_Mains_broken.name d_Mains_broken.qual d_Mains_broken.params d_Mains_broken.body d_Mains_broken.scope (d_Mains_broken.dvs K) (d_Mains_broken.kws K) (He.fAd K d_Mains_broken.at_) fd
  fn_law_dice : ∃ fd, FunD K d_law_dice.name d_law_dice.qual d_law_dice.params d_law_dice.body d_law_dice.scope (d_law_dice.dvs K) (d_law_dice.kws K) (He.fAd K d_law_dice.at_) fd
  fn_law_roll : ∃ fd, FunD K d_law_roll.name d_law_roll.qual d_law_roll.params d_law_roll.body d_law_roll.scope (d_law_roll.dvs K) (d_law_roll.kws K) (He.fAd K d_law_roll.at_) fd
  fn_law_rounds : ∃ fd, FunD K d_law_rounds.name d_law_rounds.qual d_law_rounds.params d_law_rounds.body d_law_rounds.scope (d_law_rounds.dvs K) (d_law_rounds.kws K) (He.fAd K d_law_rounds.at_) fd
  fn_law_told : ∃ fd, FunD K d_law_told.name d_law_told.qual d_law_told.params d_law_told.body d_law_told.scope (d_law_told.dvs K) (d_law_told.kws K) (He.fAd K d_law_told.at_) fd
  fn_law_line : ∃ fd, FunD K d_law_line.name d_law_line.qual d_law_line.params d_law_line.body d_law_line.scope (d_law_line.dvs K) (d_law_line.kws K) (He.fAd K d_law_line.at_) fd
  fn_law_flows : ∃ fd, FunD K d_law_flows.name d_law_flows.qual d_law_flows.params d_law_flows.body d_law_flows.scope (d_law_flows.dvs K) (d_law_flows.kws K) (He.fAd K d_law_flows.at_) fd
  fn_law : ∃ fd, FunD K d_law.name d_law.qual d_law.params d_law.body d_law.scope (d_law.dvs K) (d_law.kws K) (He.fAd K d_law.at_) fd
  tb_law : LamX.TabB base mg (He.cT K ("law", none)).1 (He.cT K ("law", none)).2
  tb_Mains_flows : LamX.TabB base mg (He.cT K ("Mains", some "flows")).1 (He.cT K ("Mains", some "flows")).2
  tb_Mains_most_at : LamX.TabB base mg (He.cT K ("Mains", some "most_at")).1 (He.cT K ("Mains", some "most_at")).2
  tg_Mains_flows : (He.cT K ("Mains", some "flows")).2 ∈ TG K
  td_Mains_flows : ∀ q ∈ TL K, q.1 ≠ (He.cT K ("Mains", some "flows")).2
  tg_Mains_most_at : (He.cT K ("Mains", some "most_at")).2 ∈ TG K
  td_Mains_most_at : ∀ q ∈ TL K, q.1 ≠ (He.cT K ("Mains", some "most_at")).2
  tm_law : ((He.cT K ("law", none)).2, ((d_law.qual ++ ".<locals>.") ++ "<lambda>" : PySem.Str)) ∈ TL K
  tu_law : ∀ p ∈ TL K, p.1 = (He.cT K ("law", none)).2 → p.2 = ((d_law.qual ++ ".<locals>.") ++ "<lambda>" : PySem.Str)
  tn_law : (He.cT K ("law", none)).2 ∉ TG K
theorem tl_ne {K : PySem.W.Frag} {P : Addr} (h : P ∈ TG K) (e : ex K = true) : ∀ q ∈ TL K, q.1 ≠ P := by
  obtain ⟨b, hb, rfl⟩ := List.mem_map.mp h
  intro q hq
  obtain ⟨a, ha, e2⟩ := tl_mem hq
  rw [e2]
  exact nodup_apart (of_decide_eq_true (Bool.and_eq_true_iff.mp e).1) a ha b hb
theorem tl_q {K : PySem.W.Frag} (e : ex K = true) (a : He.Defn) (ha : a ∈ tfL) {q : PySem.Str} (hq : ((He.cT K a).2, q) ∈ TL K) : ∀ p ∈ TL K, p.1 = (He.cT K a).2 → p.2 = q := by
  have nd := of_decide_eq_true (Bool.and_eq_true_iff.mp e).1
  unfold tf at nd
  rw [List.map_append, List.nodup_append] at nd
  have nd1 := nd.1
  simp only [TL, List.mem_cons, List.not_mem_nil, or_false] at hq ⊢
  simp only [tfL, List.map_cons, List.map_nil, List.nodup_cons, List.mem_cons, List.not_mem_nil, or_false, not_or] at nd1
  intro p hp e1
  rw [hp]
  exact (Prod.mk.inj hq).2.symm
theorem txt_of {K : PySem.W.Frag} {mg : Str → Option Value} {base h : Heap} {w : World} (X : K.In h) (G : h.Ns mainGlobals mg) (c : He.SaysX fa fn [] tf ex w h K) (B : ∀ p ∈ tf, LamX.TabB base mg (He.cT K p).1 (He.cT K p).2) : Txt K mg base where
  gl_Mains := He.glo_ok X G (c.t.d.fact 0)
  cl_Mains := He.cls_ok (c.t.d.fact 1)
  mk_Mains := He.mkr_ok (c.t.d.fact 2)
  me_Mains_add := He.meth_ok (c.t.d.fact 3)
  me_Mains_line := He.meth_ok (c.t.d.fact 4)
  me_Mains_turn_on := He.meth_ok (c.t.d.fact 5)
  me_Mains_turn_off := He.meth_ok (c.t.d.fact 6)
  me_Mains_flows := He.meth_ok (c.t.d.fact 7)
  me_Mains_minute := He.meth_ok (c.t.d.fact 8)
  me_Mains_most_at := He.meth_ok (c.t.d.fact 9)
  me_Mains_broken := He.meth_ok (c.t.d.fact 10)
  no_Mains_comes := He.noat_ok (c.t.d.fact 11)
  no_Mains_full := He.noat_ok (c.t.d.fact 12)
  no_Mains_pipes := He.noat_ok (c.t.d.fact 13)
  no_Mains_tank := He.noat_ok (c.t.d.fact 14)
  no_Mains_taps := He.noat_ok (c.t.d.fact 15)
  no_Mains_used := He.noat_ok (c.t.d.fact 16)
  gl_BrigadeError := He.glo_ok X G (c.t.d.fact 17)
  ex_BrigadeError := ExcF.of (He.exc_ok (c.t.d.fact 18))
  gl_WaterError := He.glo_ok X G (c.t.d.fact 19)
  ex_WaterError := ExcF.of (He.exc_ok (c.t.d.fact 20))
  em_BrigadeError_WaterError := He.exm_ok (c.t.d.fact 21)
  em_WaterError_WaterError := He.exm_ok (c.t.d.fact 22)
  c_MOST_PIPES := He.int_ok X G (c.t.d.fact 23)
  gl_law_dice := He.glo_ok X G (c.t.d.fact 24)
  gl_law_roll := He.glo_ok X G (c.t.d.fact 25)
  gl_law_rounds := He.glo_ok X G (c.t.d.fact 26)
  gl_law_told := He.glo_ok X G (c.t.d.fact 27)
  gl_law_line := He.glo_ok X G (c.t.d.fact 28)
  gl_law_flows := He.glo_ok X G (c.t.d.fact 29)
  gl_law := He.glo_ok X G (c.t.d.fact 30)
  fr_abs := He.free_ok X G (c.t.d.fact 31)
  fr_all := He.free_ok X G (c.t.d.fact 32)
  fr_dict := He.free_ok X G (c.t.d.fact 33)
  fr_int := He.free_ok X G (c.t.d.fact 34)
  fr_len := He.free_ok X G (c.t.d.fact 35)
  fr_list := He.free_ok X G (c.t.d.fact 36)
  fr_min := He.free_ok X G (c.t.d.fact 37)
  fr_range := He.free_ok X G (c.t.d.fact 38)
  fr_sorted := He.free_ok X G (c.t.d.fact 39)
  fr_str := He.free_ok X G (c.t.d.fact 40)
  fr_sum := He.free_ok X G (c.t.d.fact 41)
  fr_tuple := He.free_ok X G (c.t.d.fact 42)
  fn_Mains_init := c.t.d.def_ 0
  fn_Mains_add := c.t.d.def_ 1
  fn_Mains_line := c.t.d.def_ 2
  fn_Mains_turn_on := c.t.d.def_ 3
  fn_Mains_turn_off := c.t.d.def_ 4
  fn_Mains_flows := c.t.d.def_ 5
  fn_Mains_minute := c.t.d.def_ 6
  fn_Mains_most_at := c.t.d.def_ 7
  fn_Mains_broken := c.t.d.def_ 8
  fn_law_dice := c.t.d.def_ 9
  fn_law_roll := c.t.d.def_ 10
  fn_law_rounds := c.t.d.def_ 11
  fn_law_told := c.t.d.def_ 12
  fn_law_line := c.t.d.def_ 13
  fn_law_flows := c.t.d.def_ 14
  fn_law := c.t.d.def_ 15
  tb_law := B ("law", none) (by simp [tf, tfL, tfG])
  tb_Mains_flows := B ("Mains", some "flows") (by simp [tf, tfL, tfG])
  tb_Mains_most_at := B ("Mains", some "most_at") (by simp [tf, tfL, tfG])
  tg_Mains_flows := List.mem_map.mpr ⟨("Mains", some "flows"), by simp [tfG], rfl⟩
  td_Mains_flows := tl_ne (List.mem_map.mpr ⟨("Mains", some "flows"), by simp [tfG], rfl⟩) c.more
  tg_Mains_most_at := List.mem_map.mpr ⟨("Mains", some "most_at"), by simp [tfG], rfl⟩
  td_Mains_most_at := tl_ne (List.mem_map.mpr ⟨("Mains", some "most_at"), by simp [tfG], rfl⟩) c.more
  tm_law := by rw [lq_law]; simp [TL]
  tu_law := by rw [lq_law]; exact tl_q c.more ("law", none) (by simp [tfL]) (by simp [TL])
  tn_law := fun h => tl_ne h c.more ((He.cT K ("law", none)).2, "law.<locals>.<lambda>") (by simp [TL]) rfl
theorem run (w : World) : HandSHeadRun.RunEq R (PySem.W.view R.prog [13]) hk ob 8000 loose w := by
  intro os
  kernel_rfl
end K2
namespace K2
open PySem PySem.Spec PyProof.Rows L2 Fy
open GxR (TabG Tabbed)
abbrev Ps := List (Str × (Option Str × Int))
abbrev Ts := List (Str × Int)
def ov : Option Str → V
  | none => .non
  | some x => .str x
abbrev tkv (W : Ts) : List (Key × V) := W.map fun p => (Sum.inr p.1, V.int p.2)
/-- pipes in the dict at d: their rows at pa -/
structure PsAt (H : Hp) (d : Addr) (R : Ps) (pa : Str → Addr) : Prop where
  dc : H d = some (.dK (R.map fun p => (Sum.inr p.1, V.ref (pa p.1))))
  row : ∀ p ∈ R, H (pa p.1) = some (.tup [ov p.2.1, .int p.2.2])
/-- the mains' numbers -/
structure Mn where
  full : Int
  tank : Int
  comes : Int
  used : Int
def mfs (M : Mn) (d e : Addr) : List (Str × V) := [("full", .int M.full), ("tank", .int M.tank), ("comes", .int M.comes), ("pipes", .ref d), ("taps", .ref e), ("used", .int M.used)]
structure MainsAt (C : Addr) (H : Hp) (m d e : Addr) (M : Mn) (R : Ps) (T : Ts) (pa : Str → Addr) : Prop where
  ob : ∃ dx, H m = some (.ins C dx (mfs M d e))
  ps : PsAt H d R pa
  ts : H e = some (.dK (tkv T))
  ne : d ≠ e
/-- a tree of pipes -/
structure WfP (R : Ps) : Prop where
  nd : (R.map (·.1)).Nodup
  len : R.length ≤ 1000
  rk : ∃ rk : Str → Nat, ∀ n a t, R.lookup n = some (some a, t) → (∃ y, R.lookup a = some y) ∧ rk a < rk n
abbrev CMns (K : PySem.W.Frag) : Addr := He.ga K "Mains"
abbrev WErr (K : PySem.W.Frag) : Addr := He.ga K "WaterError"
theorem val_lookR {α : Type} {R : List (Str × α)} {fa : Str → Addr} {n : Str} : valV (R.map fun p => ((Sum.inr p.1 : Key), V.ref (fa p.1))) (Sum.inr n) = (R.lookup n).map fun _ => V.ref (fa n) := by
  induction R with
  | nil => rfl
  | cons p r ih =>
    obtain ⟨m, h⟩ := p
    by_cases e : m = n
    · subst e
      rw [List.map_cons, valV_pos (by rfl), List.lookup_cons]
      simp
    · rw [List.map_cons, valV_neg (by intro z; exact e (Sum.inr.inj z)), ih, List.lookup_cons]
      have : (n == m) = false := by simpa using fun z => e z.symm
      rw [this]
theorem val_lookT {T : Ts} {n : Str} : valV (tkv T) (Sum.inr n) = (T.lookup n).map V.int := by
  induction T with
  | nil => rfl
  | cons p r ih =>
    obtain ⟨m, h⟩ := p
    by_cases e : m = n
    · subst e
      rw [tkv, List.map_cons, valV_pos (by rfl), List.lookup_cons]
      simp
    · rw [tkv, List.map_cons, valV_neg (by intro z; exact e (Sum.inr.inj z)), ih, List.lookup_cons]
      have : (n == m) = false := by simpa using fun z => e z.symm
      rw [this]
theorem lookM {α : Type} : ∀ {R : List (Str × α)} {n : Str} {h : α}, R.lookup n = some h → (n, h) ∈ R
  | [], _, _, e => by cases e
  | (m, x) :: r, n, h, e => by
    rw [List.lookup_cons] at e
    by_cases q : n = m
    · subst q
      simp at e
      subst e
      exact List.mem_cons_self
    · have : (n == m) = false := by simpa using q
      rw [this] at e
      exact List.mem_cons_of_mem _ (lookM e)
theorem Mlook {α : Type} : ∀ {R : List (Str × α)} {n : Str} {h : α}, (R.map (·.1)).Nodup → (n, h) ∈ R → R.lookup n = some h
  | (m, x) :: r, n, h, nd, e => by
    rw [List.map_cons, List.nodup_cons] at nd
    rw [List.lookup_cons]
    rcases List.mem_cons.mp e with z | z
    · cases z
      simp
    · have : n ≠ m := fun q => nd.1 (by subst q; exact List.mem_map.mpr ⟨_, z, rfl⟩)
      have : (n == m) = false := by simpa using this
      rw [this]
      exact Mlook nd.2 z
theorem lookK {α : Type} {R : List (Str × α)} {n : Str} (h : n ∈ R.map (·.1)) : ∃ x, R.lookup n = some x := by
  induction R with
  | nil => cases h
  | cons p r ih =>
    obtain ⟨m, y⟩ := p
    rw [List.lookup_cons]
    by_cases e : n = m
    · subst e
      exact ⟨y, by simp⟩
    · have e2 : (n == m) = false := by simpa using e
      rw [e2]
      rcases List.mem_cons.mp h with z | z
      · exact absurd z e
      · exact ih z
theorem lookN {α : Type} {R : List (Str × α)} {n : Str} (h : R.lookup n = none) : n ∉ R.map (·.1) := fun z => by
  obtain ⟨x, e⟩ := lookK z
  rw [h] at e
  cases e
theorem look_snoc {α : Type} {R : List (Str × α)} {n m : Str} {x : α} : (R ++ [(n, x)]).lookup m = (R.lookup m).or (if m = n then some x else none) := by
  induction R with
  | nil =>
    rw [List.nil_append, List.lookup_cons]
    by_cases e : m = n
    · subst e; simp
    · have e2 : (m == n) = false := by simpa using e
      rw [e2, if_neg e] <;> rfl
  | cons q r ih =>
    obtain ⟨k, y⟩ := q
    rw [List.cons_append, List.lookup_cons, List.lookup_cons, ih]
    by_cases e : m = k
    · subst e; simp
    · have e2 : (m == k) = false := by simpa using e
      rw [e2]
theorem PsAt.get {H : Hp} {d : Addr} {R : Ps} {pa : Str → Addr} {n : Str} {x : Option Str × Int} (D : PsAt H d R pa) (e : R.lookup n = some x) : DGet H d (.str n) (some (.ref (pa n))) := by
  have := DGet.k (k := Sum.inr n) D.dc
  rw [val_lookR, e] at this
  exact this
theorem PsAt.no {H : Hp} {d : Addr} {R : Ps} {pa : Str → Addr} {n : Str} (D : PsAt H d R pa) : DGet H d (.str n) ((R.lookup n).map fun _ => V.ref (pa n)) := by
  have := DGet.k (k := Sum.inr n) D.dc
  rw [val_lookR] at this
  exact this
theorem ts_get {H : Hp} {e : Addr} {T : Ts} {n : Str} (D : H e = some (.dK (tkv T))) : DGet H e (.str n) ((T.lookup n).map V.int) := by
  have := DGet.k (k := Sum.inr n) D
  rw [val_lookT] at this
  exact this
theorem PsAt.go {TL : List (Addr × Str)} {TG : List Addr} {S : Ad} {H H' : Hp} {d : Addr} {R : Ps} {pa : Str → Addr} (D : PsAt H d R pa) (g : Go TL TG S H H') (sd : ¬ S d) (sa : ∀ p ∈ R, ¬ S (pa p.1)) : PsAt H' d R pa :=
  ⟨g.keep _ _ D.dc (by intro _ z; cases z) sd, fun p hp => g.keep _ _ (D.row p hp) (by intro _ z; cases z) (sa p hp)⟩
theorem MainsAt.go {TL : List (Addr × Str)} {TG : List Addr} {S : Ad} {C : Addr} {H H' : Hp} {m d e : Addr} {M : Mn} {R : Ps} {T : Ts} {pa : Str → Addr} (D : MainsAt C H m d e M R T pa) (g : Go TL TG S H H') (sm : ¬ S m) (sd : ¬ S d) (se : ¬ S e) (sa : ∀ p ∈ R, ¬ S (pa p.1)) : MainsAt C H' m d e M R T pa := by
  obtain ⟨⟨dx, h1⟩, ps, ts, ne⟩ := D
  exact ⟨⟨dx, g.keep _ _ h1 (by intro _ z; cases z) sm⟩, ps.go g sd sa, g.keep _ _ ts (by intro _ z; cases z) se, ne⟩
inductive Line (R : Ps) : Option Str → List Str → Prop
  | nil : Line R none []
  | cons {n : Str} {a : Option Str} {t : Int} {l : List Str} : R.lookup n = some (a, t) → Line R a l → Line R (some n) (n :: l)
theorem Line.one {R : Ps} {o : Option Str} {l l' : List Str} (h : Line R o l) (h' : Line R o l') : l = l' := by
  induction h generalizing l' with
  | nil => cases h'; rfl
  | cons e _ ih =>
    cases h' with
    | cons e' k =>
      rw [e] at e'
      cases e'
      rw [ih k]
theorem WfP.line {R : Ps} (w : WfP R) : ∀ {n : Str} {y : Option Str × Int}, R.lookup n = some y → ∃ l, Line R (some n) l := by
  obtain ⟨rk, h⟩ := w.rk
  have : ∀ (k : Nat) (n : Str) (y : Option Str × Int), rk n < k → R.lookup n = some y → ∃ l, Line R (some n) l := by
    intro k
    induction k with
    | zero => intro n y lt; omega
    | succ k ih =>
      intro n y lt e
      obtain ⟨a, t⟩ := y
      cases a with
      | none => exact ⟨_, .cons e .nil⟩
      | some a =>
        obtain ⟨⟨z, ez⟩, lt2⟩ := h n a t e
        obtain ⟨l, hl⟩ := ih a z (by omega) ez
        exact ⟨_, .cons e hl⟩
  intro n y e
  exact this (rk n + 1) n y (Nat.lt_succ_self _) e
theorem WfP.line_ok {R : Ps} (w : WfP R) {o : Option Str} {l : List Str} (h : Line R o l) : l.Nodup ∧ ∀ x ∈ l, ∃ y, R.lookup x = some y := by
  obtain ⟨rk, hr⟩ := w.rk
  have : (∀ n, o = some n → ∀ x ∈ l, rk x ≤ rk n) ∧ l.Nodup ∧ ∀ x ∈ l, ∃ y, R.lookup x = some y := by
    induction h with
    | nil => exact ⟨fun _ _ _ h => (by cases h), .nil, fun _ h => (by cases h)⟩
    | @cons n a t l e k ih =>
      obtain ⟨h1, h2, h3⟩ := ih
      refine ⟨fun m em x hx => ?_, List.nodup_cons.mpr ⟨fun hn => ?_, h2⟩, fun x hx => ?_⟩
      · cases em
        rcases List.mem_cons.mp hx with z | z
        · rw [z]; exact Nat.le_refl _
        · cases a with
          | none => cases k; cases z
          | some a => exact Nat.le_trans (h1 a rfl x z) (Nat.le_of_lt (hr n a t e).2)
      · cases a with
        | none => cases k; cases hn
        | some a => exact absurd (Nat.lt_of_le_of_lt (h1 a rfl n hn) (hr n a t e).2) (Nat.lt_irrefl _)
      · rcases List.mem_cons.mp hx with z | z
        · exact ⟨_, by rw [z]; exact e⟩
        · exact h3 x z
  exact this.2
theorem sub_len : ∀ {l m : List Str}, l.Nodup → (∀ x ∈ l, x ∈ m) → l.length ≤ m.length
  | [], _, _, _ => Nat.zero_le _
  | a :: l, m, nd, h => by
    have ha := h a List.mem_cons_self
    have nd := List.nodup_cons.mp nd
    have := sub_len (l := l) (m := m.erase a) nd.2 fun x hx => (List.mem_erase_of_ne fun e => nd.1 (by rw [← e]; exact hx)).mpr (h x (List.mem_cons_of_mem _ hx))
    rw [List.length_erase_of_mem ha] at this
    have := List.length_pos_of_mem ha
    rw [List.length_cons]
    omega
theorem WfP.line_len {R : Ps} (w : WfP R) {o : Option Str} {l : List Str} (h : Line R o l) : l.length ≤ 1000 := by
  obtain ⟨h1, h2⟩ := w.line_ok h
  have : l.length ≤ (R.map (·.1)).length := sub_len h1 fun x hx => by
    obtain ⟨y, e⟩ := h2 x hx
    exact List.mem_map.mpr ⟨_, lookM e, rfl⟩
  rw [List.length_map] at this
  exact Nat.le_trans this w.len
def sp_Mains_init (K : PySem.W.Frag) : Sp := fun vs H Q E => ∃ (m dx : Addr) (f c : Int), vs = [.ref m, .int f, .int c] ∧ H m = some (.ins (CMns K) dx []) ∧
  (f < 0 ∨ c < 0 → E (.ref (WErr K)) none H) ∧ (0 ≤ f → 0 ≤ c → ∀ (d e : Addr) (H' : Hp), H d = none → H e = none → MainsAt (CMns K) H' m d e ⟨f, f, c, 0⟩ [] [] (fun _ => 0) → Go (TL K) (TG K) (fun b => b = m) H H' → Q .non H')
def canAdd (R : Ps) (n : Str) (a : Option Str) (t : Int) : Bool := !((R.lookup n).isSome || decide (n = "") || decide (40 ≤ R.length) || decide (t < 1)) && (match a with | none => true | some x => (R.lookup x).isSome)
def sp_Mains_add (K : PySem.W.Frag) : Sp := fun vs H Q E => ∃ (m d e : Addr) (M : Mn) (R : Ps) (T : Ts) (pa : Str → Addr) (n : Str) (a : Option Str) (t : Int), vs = [.ref m, .str n, ov a, .int t] ∧ MainsAt (CMns K) H m d e M R T pa ∧
  (canAdd R n a t = false → E (.ref (WErr K)) none H) ∧
  (canAdd R n a t = true → ∀ pa' H', H (pa' n) = none → (∀ x, x ≠ n → pa' x = pa x) → MainsAt (CMns K) H' m d e M (R ++ [(n, a, t)]) T pa' → Go (TL K) (TG K) (fun b => b = d) H H' → Q .non H')
def sp_Mains_line (K : PySem.W.Frag) : Sp := fun vs H Q E => ∃ (m d e : Addr) (M : Mn) (R : Ps) (T : Ts) (pa : Str → Addr) (n : Str), vs = [.ref m, .str n] ∧ MainsAt (CMns K) H m d e M R T pa ∧ WfP R ∧
  (R.lookup n = none → E (.ref (WErr K)) none H) ∧ (∀ l, Line R (some n) l → ∀ p H', H p = none → H' p = some (.tup (l.map V.str)) → Go (TL K) (TG K) (fun _ => False) H H' → Q (.ref p) H')
def putT (T : Ts) (n : Str) (x : Int) : Ts := if (T.lookup n).isSome then T.map (fun p => if p.1 = n then (p.1, x) else p) else T ++ [(n, x)]
def sp_Mains_turn_on (K : PySem.W.Frag) : Sp := fun vs H Q E => ∃ (m d e : Addr) (M : Mn) (R : Ps) (T : Ts) (pa : Str → Addr) (n : Str) (x : Int), vs = [.ref m, .str n, .int x] ∧ MainsAt (CMns K) H m d e M R T pa ∧ WfP R ∧ T.length ≤ 1000 ∧
  (((R.lookup n).isSome && decide (1 ≤ x)) = false → ∀ H', Go (TL K) (TG K) (fun _ => False) H H' → E (.ref (WErr K)) none H') ∧
  (((R.lookup n).isSome && decide (1 ≤ x)) = true → ∀ H', MainsAt (CMns K) H' m d e M R (putT T n x) pa → Go (TL K) (TG K) (fun b => b = e) H H' → Q .non H')
def sp_Mains_turn_off (K : PySem.W.Frag) : Sp := fun vs H Q E => ∃ (m d e : Addr) (M : Mn) (R : Ps) (T : Ts) (pa : Str → Addr) (n : Str), vs = [.ref m, .str n] ∧ MainsAt (CMns K) H m d e M R T pa ∧
  ((T.lookup n).isSome = false → E (.ref (WErr K)) none H) ∧
  ((T.lookup n).isSome = true → ∀ H', MainsAt (CMns K) H' m d e M R (T.filter fun p => decide (p.1 ≠ n)) pa → Go (TL K) (TG K) (fun b => b = e) H H' → Q .non H')
section
variable {P : Program} {w : World} {K : PySem.W.Frag} {mg : Str → Option Value} {base : Heap}
abbrev N_Mains_init : List Str := ["self", "full", "comes"]
theorem sc_Mains_init : FnScope N_Mains_init ["self", "full", "comes"] d_Mains_init.scope := ⟨rfl, rfl, rfl, by decide +kernel, rfl, by decide +kernel, by decide +kernel⟩
theorem ok_Mains_init (T : Txt K mg base) : Good P w K mg base 1 (He.fAd K d_Mains_init.at_) ["self", "full", "comes"] [] (sp_Mains_init K) := by
  refine good_of0 T.fn_Mains_init sc_Mains_init rfl rfl (fun _ _ _ _ _ _ us hl => match us, hl with | [_, _, _], _ => rfl) (fun vs H Q E h => ?_) (fun A outer s H vs Q E hr h => ?_)
  · obtain ⟨m, dx, f, c, rfl, _⟩ := h
    rfl
  · obtain ⟨m, dx, f, c, rfl, h⟩ := h
    have cl_Mains := T.cl_Mains
    have no_Mains_full := T.no_Mains_full
    have no_Mains_tank := T.no_Mains_tank
    have no_Mains_comes := T.no_Mains_comes
    have no_Mains_pipes := T.no_Mains_pipes
    have no_Mains_taps := T.no_Mains_taps
    have no_Mains_used := T.no_Mains_used
    refine ⟨_, (pss_cons (ps_if (PW.pt (pw_or (pt_cmpR op_lt (pv 1) pe_int (nomark _)) (pw_or1 (pt_cmpR op_lt (pv 2) pe_int (nomark _))))) (pss_one (ps_raiseC rfl tkx T.ex_WaterError T.gl_WaterError rfl)) pss_nil)
    (pss_cons (ps_fld (pv 0) (pv 1) rfl)
    (pss_cons (ps_fld (pv 0) (pv 1) rfl)
    (pss_cons (ps_fld (pv 0) (pv 2) rfl)
    (pss_cons (ps_fld (pv 0) pe_dnewK rfl)
    (pss_cons (ps_fld (pv 0) pe_dnewK rfl)
    (pss_one (ps_fld (pv 0) pe_int rfl)))))))), ?_⟩
    obtain ⟨hp, k1, k2⟩ := h
    walk_at "go"
    refine ite2 (fun z => iteT (k1 (.inl (of_decide_eq_true z)))) (fun z => ?_)
    have z1 : 0 ≤ f := by simpa using z
    walk_at "go"
    refine ite2 (fun z => k1 (.inr (of_decide_eq_true z))) (fun z => ?_)
    have z2 : 0 ≤ c := by simpa using z
    walk_at "v"; walk_at "v"
    refine ⟨_, _, _, _, rfl, hp, T.cl_Mains, T.no_Mains_full, (by show 0 < 1000; decide), ?_⟩
    walk_at "v"; walk_at "v"
    refine ⟨_, _, _, _, rfl, upd_same, T.cl_Mains, T.no_Mains_tank, (by show 1 < 1000; decide), ?_⟩
    walk_at "v"; walk_at "v"
    refine ⟨_, _, _, _, rfl, upd_same, T.cl_Mains, T.no_Mains_comes, (by show 2 < 1000; decide), ?_⟩
    rw [upd_upd, upd_upd]
    refine fun d hd => ?_
    obtain ⟨n1, hd0⟩ := upd_none.mp hd
    walk_at "v"
    refine ⟨_, _, _, _, rfl, (by rw [upd_ne n1.symm]; exact upd_same), T.cl_Mains, T.no_Mains_pipes, (by show 3 < 1000; decide), ?_⟩
    refine fun e he => ?_
    obtain ⟨n2, he1⟩ := upd_none.mp he
    obtain ⟨n3, he0⟩ := upd_none.mp he1
    walk_at "v"
    refine ⟨_, _, _, _, rfl, (by rw [upd_ne n2.symm]; exact upd_same), T.cl_Mains, T.no_Mains_taps, (by show 4 < 1000; decide), ?_⟩
    walk_at "v"
    refine ⟨_, _, _, _, rfl, upd_same, T.cl_Mains, T.no_Mains_used, (by show 5 < 1000; decide), ?_⟩
    have he2 : H e = none := (upd_none.mp he0).2
    have nde : d ≠ e := (ne_of_none (by rw [upd_ne n1]; exact upd_same) he).symm ∘ Eq.symm
    refine k2 z1 z2 d e _ hd0 he2 ⟨⟨dx, ?_⟩, ⟨?_, fun _ z => (by cases z)⟩, ?_, nde⟩ (((((((Go.set (S := fun b => b = m) (o := .ins (CMns K) dx (putF "comes" (.int c) (putF "tank" (.int f) (putF "full" (.int f) [])))) hp plain_ins rfl).trans (Go.new (o := .dK []) hd)).trans (Go.set (o' := .ins (CMns K) dx (putF "comes" (.int c) (putF "tank" (.int f) (putF "full" (.int f) [])))) (by rw [upd_ne n1.symm]; exact upd_same) plain_ins rfl)).trans (Go.new (o := .dK []) he)).trans
      (Go.set (o' := .ins (CMns K) dx (putF "pipes" (.ref d) (putF "comes" (.int c) (putF "tank" (.int f) (putF "full" (.int f) []))))) (by rw [upd_ne n2.symm]; exact upd_same) plain_ins rfl)).trans (Go.set upd_same plain_ins rfl)))
    · rw [upd_same] <;> rfl
    · rw [upd_ne n1, upd_ne n1, upd_ne nde, upd_ne n1, upd_same] <;> rfl
    · rw [upd_ne n2, upd_ne n2, upd_same] <;> rfl
abbrev N_Mains_line : List Str := ["self", "name", "found"]
theorem sc_Mains_line : FnScope N_Mains_line ["self", "name"] d_Mains_line.scope := ⟨rfl, rfl, rfl, by decide +kernel, rfl, by decide +kernel, by decide +kernel⟩
theorem ok_Mains_line (T : Txt K mg base) : Good P w K mg base 1 (He.fAd K d_Mains_line.at_) ["self", "name"] [] (sp_Mains_line K) := by
  refine good_of0 T.fn_Mains_line sc_Mains_line rfl rfl (fun _ _ _ _ _ _ us hl => match us, hl with | [_, _], _ => rfl) (fun vs H Q E h => ?_) (fun A outer s H vs Q E hr h => ?_)
  · obtain ⟨m, d, e, M, R, T', pa, n, rfl, _⟩ := h
    rfl
  · obtain ⟨m, d, e, M, R, T', pa, n, rfl, h⟩ := h
    have hu := hu_of hr
    have cl_Mains := T.cl_Mains
    have no_Mains_full := T.no_Mains_full
    have no_Mains_tank := T.no_Mains_tank
    have no_Mains_comes := T.no_Mains_comes
    have no_Mains_pipes := T.no_Mains_pipes
    have no_Mains_taps := T.no_Mains_taps
    have no_Mains_used := T.no_Mains_used
    refine ⟨_, (pss_cons (ps_if (pt_cmp (pc_dnotin hu (pv 1) (pe_fld (pv 0) rfl))) (pss_one (ps_raiseC rfl tkx T.ex_WaterError T.gl_WaterError rfl)) pss_nil)
    (pss_cons (ps_set (i := 2) sc_Mains_line.nd rfl (by first | exact Or.inl rfl | exact Or.inr rfl) (pe_lst pa_nil))
    (pss_cons (ps_while (passes_of rfl) (pt_cmpR op_notN (pv 1) pe_non (nomark _)) (pss_cons (ps_expr (pe_bm PySem.F.plainAttrs_list PySem.F.slot_list_append PySem.F.type_list_append mt_append (pv 2) (pa_cons (pv 1) pa_nil)))
      (pss_one (ps_set (i := 1) sc_Mains_line.nd rfl (by first | exact Or.inl rfl | exact Or.inr rfl) (pe_ix ix_tup (pe_dget hu (pe_fld (pv 0) rfl) (pv 1) (fun _ _ => rfl)) pe_int (fun _ _ => rfl))))))
    (pss_one (ps_ret (pe_callTy call_tuple_of (by rfl) T.fr_tuple (by decide +kernel) (pa_cons (pv 2) pa_nil))))))), ?_⟩
    obtain ⟨D, wf, k1, k2⟩ := h
    obtain ⟨⟨dx, h1⟩, ps, ts, ne⟩ := id D
    walk_at "go"
    refine ⟨_, _, rfl, ps.no, _, rfl, ?_⟩
    cases en : R.lookup n with
    | none => exact iteT (k1 en)
    | some y =>
      refine iteF ?_
      obtain ⟨l, hl⟩ := wf.line en
      refine ⟨(by decide), fun fl hfl => ?_⟩
      have g0 := Go.new (TL := TL K) (TG := TG K) (S := fun _ => False) (o := .lst []) hfl
      have e0 : upd H fl (.lst []) fl = some (.lst (([] : List Str).map V.str)) := upd_same
      have D0 := D.go g0 id id id (fun _ _ => id)
      generalize upd H fl (.lst []) = H1 at g0 e0 D0 ⊢
      refine ⟨fun k σ H2 => ∃ (o : Option Str) (done rest : List Str), k = rest.length ∧ Line R o rest ∧ done ++ rest = l ∧ σ = [some (.ref m), some (ov o), some (.ref fl)] ∧ H2 fl = some (.lst (done.map V.str)) ∧ Go (TL K) (TG K) (fun a => a = fl) H1 H2, ⟨_, some n, [], l, rfl, hl, rfl, rfl, e0, .refl⟩, ?_⟩
      rintro k σ H2 ⟨o, done, rest, rfl, hr, ed, rfl, e2, g2⟩
      have nn : ∀ b u, H1 b = some u → (∀ xs : List V, u ≠ .lst xs) → b ≠ fl := fun b u eb z q => by
        rw [q, e0] at eb
        exact z _ (Option.some.inj eb).symm
      have D2 := D0.go g2 (nn _ _ D0.ob.choose_spec fun _ z => by cases z) (nn _ _ D0.ps.dc fun _ z => by cases z) (nn _ _ D0.ts fun _ z => by cases z) (fun p hp => nn _ _ (D0.ps.row p hp) fun _ z => by cases z)
      walk_at "v"
      cases hr with
      | nil =>
        refine ⟨rfl, _, rfl, iteF ?_⟩
        rw [List.append_nil] at ed
        subst ed
        walk_at "v"
        refine ⟨fl, _, rfl, .inl ⟨SqL.of e2, fun p hp => ?_⟩⟩
        have fp : H p = none := g0.free p (g2.free p hp)
        exact k2 _ hl p _ fp upd_same ((g0.wide.trans g2).trans (Go.new hp) |>.drop fun b z => .inr (by rw [z]; exact hfl))
      | @cons n' a t l' ex hr' =>
        refine ⟨rfl, _, rfl, iteT ?_⟩
        refine ⟨_, fun σ' H' q => q, ?_⟩
        have ll : done.length < sizeLine := by
          have h1 := wf.line_len hl
          rw [← ed, List.length_append, List.length_cons] at h1
          exact Nat.lt_of_lt_of_le (show done.length < 1000 by omega) (by decide)
        walk_at "v"
        refine ⟨.inl ⟨rfl, _, SqL.of e2⟩, ?_⟩
        walk_at "v"
        refine ⟨_, _, _, rfl, rfl, e2, (by rw [List.length_map]; exact ll), ?_⟩
        have e3 : upd H2 fl (.lst (done.map V.str ++ [ov (some n')])) fl = some (.lst ((done ++ [n']).map V.str)) := by
          rw [upd_same, List.map_append]
          rfl
        have g3 := g2.trans (Go.set (o := .lst (done.map V.str ++ [ov (some n')])) e2 plain_lst rfl)
        have D3 := D0.go g3 (nn _ _ D0.ob.choose_spec fun _ z => by cases z) (nn _ _ D0.ps.dc fun _ z => by cases z) (nn _ _ D0.ts fun _ z => by cases z) (fun p hp => nn _ _ (D0.ps.row p hp) fun _ z => by cases z)
        generalize upd H2 fl (.lst (done.map V.str ++ [ov (some n')])) = H3 at e3 g3 D3 ⊢
        obtain ⟨⟨dx3, h3⟩, ps3, ts3, _⟩ := id D3
        walk_at "v"; walk_at "f"; walk_at "v"
        refine ⟨_, _, rfl, ps3.get ex, ?_⟩
        refine ⟨_, _, _, _, rfl, rfl, SqT.of (ps3.row _ (lookM ex)), rfl, ?_⟩
        exact ⟨l'.length, Nat.lt_succ_self _, a, done ++ [n'], l', rfl, hr', by rw [← ed]; simp, rfl, e3, g3⟩
abbrev N_Mains_add : List Str := ["self", "name", "ahead", "through"]
theorem sc_Mains_add : FnScope N_Mains_add ["self", "name", "ahead", "through"] d_Mains_add.scope := ⟨rfl, rfl, rfl, by decide +kernel, rfl, by decide +kernel, by decide +kernel⟩
theorem ok_Mains_add (T : Txt K mg base) : Good P w K mg base 1 (He.fAd K d_Mains_add.at_) ["self", "name", "ahead", "through"] [] (sp_Mains_add K) := by
  refine good_of0 T.fn_Mains_add sc_Mains_add rfl rfl (fun _ _ _ _ _ _ us hl => match us, hl with | [_, _, _, _], _ => rfl) (fun vs H Q E h => ?_) (fun A outer s H vs Q E hr h => ?_)
  · obtain ⟨m, d, e, M, R, T', pa, n, a, t, rfl, _⟩ := h
    rfl
  · obtain ⟨m, d, e, M, R, T', pa, n, a, t, rfl, h⟩ := h
    have hu := hu_of hr
    have cl_Mains := T.cl_Mains
    have no_Mains_full := T.no_Mains_full
    have no_Mains_tank := T.no_Mains_tank
    have no_Mains_comes := T.no_Mains_comes
    have no_Mains_pipes := T.no_Mains_pipes
    have no_Mains_taps := T.no_Mains_taps
    have no_Mains_used := T.no_Mains_used
    obtain ⟨tk_MOST_PIPES, C_MOST_PIPES⟩ := T.c_MOST_PIPES
    refine ⟨_, (pss_cons (ps_if (PW.pt (pw_or (pt_cmp (pc_din hu (pv 1) (pe_fld (pv 0) rfl))) (pw_or (pt_cmpR op_eq (pv 1) pe_str (nomark _)) (pw_or (pt_cmpR op_ge (pe_callB call_lenD (by rfl) T.fr_len (PySem.boot_len) (pa_cons (pe_fld (pv 0) rfl) pa_nil)) (pe_glob (v := .int 40) rfl C_MOST_PIPES ⟨_, rfl⟩) (nomark _)) (pw_or1 (pt_cmpR op_lt (pv 3) pe_int (nomark _))))))) (pss_one (ps_raiseC rfl tkx T.ex_WaterError T.gl_WaterError rfl)) pss_nil)
    (pss_cons (ps_if (PW.pt (pw_and (pt_cmpR op_notN (pv 2) pe_non (nomark _)) (pw_and1 (pt_cmp (pc_dnotin hu (pv 2) (pe_fld (pv 0) rfl)))))) (pss_one (ps_raiseC rfl tkx T.ex_WaterError T.gl_WaterError rfl)) pss_nil)
    (pss_one (ps_dput hu (pe_fld (pv 0) rfl) (pv 1) (pe_tup (pa_cons (pv 2) (pa_cons (pv 3) pa_nil))) rfl)))), ?_⟩
    obtain ⟨D, k1, k2⟩ := h
    obtain ⟨⟨dx, h1⟩, ps, ts, ne⟩ := id D
    walk_at "go"
    refine ⟨_, _, rfl, ps.no, _, rfl, ?_⟩
    refine ite2 (fun z => iteT (k1 ?_)) (fun z => ?_)
    · have e : (R.lookup n).isSome = true := by rw [← z]; cases R.lookup n <;> rfl
      simp [canAdd, e]
    have c1 : R.lookup n = none := by
      cases e : R.lookup n with
      | none => rfl
      | some h => exact absurd (by rw [e] <;> rfl) z
    walk_at "go"
    refine ite2 (fun z => iteT (k1 ?_)) (fun z => ?_)
    · have e : n = "" := by simpa using z
      simp [canAdd, e]
    have c2 : ¬ n = "" := by simpa using z
    walk_at "go"
    refine ⟨_, _, rfl, ps.dc, ?_⟩
    walk_at "go"
    refine ite2 (fun z => iteT (k1 ?_)) (fun z => ?_)
    · have e : 40 ≤ R.length := by
        have := of_decide_eq_true z
        simp at this
        omega
      simp [canAdd, e]
    have c3 : ¬ 40 ≤ R.length := fun e => z (decide_eq_true (by simp; omega))
    walk_at "go"
    refine ite2 (fun z => k1 ?_) (fun z => ?_)
    · have e : t < 1 := by simpa using z
      simp [canAdd, e]
    have c4 : ¬ t < 1 := by simpa using z
    have c5 : (!((R.lookup n).isSome || decide (n = "") || decide (40 ≤ R.length) || decide (t < 1))) = true := by simp [c1, c2, c3, c4]
    have lR : R.length < sizeLine := Nat.lt_of_lt_of_le (Nat.lt_of_not_le c3) (by decide)
    have nn : ∀ p ∈ R, p.1 ≠ n := fun p hp z => lookN c1 (List.mem_map.mpr ⟨p, hp, z⟩)
    have put : ∀ t1, H t1 = none → MainsAt (CMns K) (upd (upd H t1 (.tup [ov a, .int t])) d (.dK (putK (R.map fun p => (Sum.inr p.1, V.ref (pa p.1))) (Sum.inr n) (.ref t1)))) m d e M (R ++ [(n, a, t)]) T' (fun x => if x = n then t1 else pa x) := fun t1 ht => by
      have n1 := ne_of_none h1 ht
      have n2 : m ≠ d := ne_of h1 ps.dc (by intro z; cases z)
      have n3 := ne_of_none ps.dc ht
      have n4 := ne_of_none ts ht
      refine ⟨⟨dx, by rw [upd_ne n2, upd_ne n1]; exact h1⟩, ⟨?_, fun p hp => ?_⟩, by rw [upd_ne ne.symm, upd_ne n4]; exact ts, ne⟩
      · have e1 : R.map (fun x => ((Sum.inr x.1 : Key), V.ref (if x.1 = n then t1 else pa x.1))) = R.map fun p => (Sum.inr p.1, V.ref (pa p.1)) := List.map_congr_left fun x hx => by rw [if_neg (nn x hx)]
        rw [upd_same, putK_new _ (by rw [val_lookR, c1] <;> rfl), List.map_append, e1]
        simp
      · rcases List.mem_append.mp hp with z | z
        · rw [if_neg (nn p z), upd_ne (ne_of (ps.row p z) ps.dc (by intro z; cases z)), upd_ne (ne_of_none (ps.row p z) ht)]
          exact ps.row p z
        · rw [List.mem_singleton.mp z, if_pos rfl, upd_ne n3.symm, upd_same]
    have pd : ∀ t1, H t1 = none → upd H t1 (.tup [ov a, .int t]) d = some (.dK (R.map fun p => (Sum.inr p.1, V.ref (pa p.1)))) := fun t1 ht => by
      rw [upd_ne (ne_of_none ps.dc ht)]
      exact ps.dc
    have fin : canAdd R n a t = true → ∀ t1, H t1 = none → Q .non (upd (upd H t1 (.tup [ov a, .int t])) d (.dK (putK (R.map fun p => (Sum.inr p.1, V.ref (pa p.1))) (Sum.inr n) (.ref t1)))) := fun hc t1 ht => by
      refine k2 hc (fun x => if x = n then t1 else pa x) _ (by rw [if_pos rfl]; exact ht) (fun x hx => if_neg hx) (put t1 ht) ((Go.new ht).trans (Go.set (pd t1 ht) plain_dK rfl))
    cases a with
    | none =>
      walk_at "v"
      refine ⟨rfl, _, rfl, iteF (iteF ?_)⟩
      walk_at "v"; walk_at "v"; refine ⟨(by show 2 ≤ sizeLine; decide), fun t1 ht => ?_⟩
      have n1 := ne_of_none h1 ht
      walk_at "v"; walk_at "f"; walk_at "v"
      exact ⟨d, _, rfl, DPut.k (k := Sum.inr n) (pd t1 ht) (by rw [List.length_map]; exact lR), fin (by unfold canAdd; rw [c5] <;> rfl) t1 ht⟩
    | some x =>
      walk_at "v"
      refine ⟨rfl, _, rfl, iteT ?_⟩
      walk_at "go"
      refine ⟨_, _, rfl, DGet.k (k := Sum.inr x) ps.dc, _, rfl, ?_⟩
      rw [val_lookR]
      cases ex : R.lookup x with
      | none => exact iteT (k1 (by unfold canAdd; rw [c5]; show (true && (R.lookup x).isSome) = false; rw [ex] <;> rfl))
      | some y =>
        refine iteF ?_
        walk_at "v"; walk_at "v"; refine ⟨(by show 2 ≤ sizeLine; decide), fun t1 ht => ?_⟩
        have n1 := ne_of_none h1 ht
        walk_at "v"; walk_at "f"; walk_at "v"
        exact ⟨d, _, rfl, DPut.k (k := Sum.inr n) (pd t1 ht) (by rw [List.length_map]; exact lR), fin (by unfold canAdd; rw [c5]; show (true && (R.lookup x).isSome) = true; rw [ex] <;> rfl) t1 ht⟩
end
end K2
namespace K2
open PySem PySem.Spec PyProof.Rows L2 Fy
open GxR (TabG Tabbed)
theorem putK_T {T : Ts} {n : Str} {x : Int} : putK (tkv T) (Sum.inr n) (V.int x) = tkv (putT T n x) := by
  unfold putT
  cases e : T.lookup n with
  | none =>
    rw [putK_new _ (by rw [val_lookT, e] <;> rfl), if_neg (by simp)]
    unfold tkv
    rw [List.map_append]
    rfl
  | some y =>
    have h : ((tkv T).any fun kv => decide (kv.1 = Sum.inr n)) = true := List.any_eq_true.mpr ⟨(Sum.inr n, .int y), List.mem_map.mpr ⟨_, lookM e, rfl⟩, decide_eq_true rfl⟩
    unfold putK
    rw [if_pos h, if_pos (by simp)]
    unfold tkv
    rw [List.map_map, List.map_map]
    refine List.map_congr_left fun q hq => ?_
    by_cases z : q.1 = n
    · have z1 : (Sum.inr q.1 : Key) = Sum.inr n := by rw [z]
      simp only [Function.comp_apply, if_pos z, if_pos z1]
    · have z1 : ¬ (Sum.inr q.1 : Key) = Sum.inr n := fun y => z (Sum.inr.inj y)
      simp only [Function.comp_apply, if_neg z, if_neg z1]
theorem putT_len (T : Ts) (n : Str) (x : Int) : (putT T n x).length ≤ T.length + 1 := by
  unfold putT
  split
  · rw [List.length_map]; omega
  · rw [List.length_append]; exact Nat.le_refl _
theorem dropK_T {T : Ts} {n : Str} : dropK (tkv T) (Sum.inr n) = tkv (T.filter fun p => decide (p.1 ≠ n)) := by
  unfold dropK tkv
  rw [List.filter_map]
  congr 1
  refine List.filter_congr fun q _ => ?_
  simp
section
variable {P : Program} {w : World} {K : PySem.W.Frag} {mg : Str → Option Value} {base : Heap}
theorem MainsAt.taps {C : Addr} {H : Hp} {m d e : Addr} {M : Mn} {R : Ps} {T : Ts} {pa : Str → Addr} (D : MainsAt C H m d e M R T pa) (T2 : Ts) : MainsAt C (upd H e (.dK (tkv T2))) m d e M R T2 pa := by
  obtain ⟨⟨dx, h1⟩, ps, ts, ne⟩ := D
  refine ⟨⟨dx, by rw [upd_ne (ne_of h1 ts (by intro z; cases z))]; exact h1⟩, ⟨by rw [upd_ne ne]; exact ps.dc, fun p hp => ?_⟩, upd_same, ne⟩
  rw [upd_ne (ne_of (ps.row p hp) ts (by intro z; cases z))]
  exact ps.row p hp
abbrev N_Mains_turn_on : List Str := ["self", "name", "wish"]
theorem sc_Mains_turn_on : FnScope N_Mains_turn_on ["self", "name", "wish"] d_Mains_turn_on.scope := ⟨rfl, rfl, rfl, by decide +kernel, rfl, by decide +kernel, by decide +kernel⟩
theorem ok_Mains_turn_on (T : Txt K mg base) : Good P w K mg base 2 (He.fAd K d_Mains_turn_on.at_) ["self", "name", "wish"] [] (sp_Mains_turn_on K) := by
  refine good_of0 T.fn_Mains_turn_on sc_Mains_turn_on rfl rfl (fun _ _ _ _ _ _ us hl => match us, hl with | [_, _, _], _ => rfl) (fun vs H Q E h => ?_) (fun A outer s H vs Q E hr h => ?_)
  · obtain ⟨m, d, e, M, R, T', pa, n, x, rfl, _⟩ := h
    rfl
  · obtain ⟨m, d, e, M, R, T', pa, n, x, rfl, h⟩ := h
    have hu := hu_of hr
    have cl_Mains := T.cl_Mains
    have no_Mains_full := T.no_Mains_full
    have no_Mains_tank := T.no_Mains_tank
    have no_Mains_comes := T.no_Mains_comes
    have no_Mains_pipes := T.no_Mains_pipes
    have no_Mains_taps := T.no_Mains_taps
    have no_Mains_used := T.no_Mains_used
    refine ⟨_, (pss_cons (ps_expr (pg_meth (ok_Mains_line T) (hr.mono (by decide)) T.cl_Mains T.me_Mains_line px (pv 0) (pa_cons (pv 1) pa_nil)))
    (pss_cons (ps_if (pt_cmpR op_lt (pv 2) pe_int (nomark _)) (pss_one (ps_raiseC rfl tkx T.ex_WaterError T.gl_WaterError rfl)) pss_nil)
    (pss_one (ps_dput hu (pe_fld (pv 0) rfl) (pv 1) (pv 2) rfl)))), ?_⟩
    obtain ⟨D, wf, lT, k1, k2⟩ := h
    obtain ⟨⟨dx, h1⟩, ps, ts, ne⟩ := id D
    walk_at "v"
    refine ⟨_, _, _, rfl, h1, rfl, ?_⟩
    walk_at "v"
    refine ⟨m, d, e, M, R, T', pa, n, rfl, D, wf, fun en => k1 (by rw [en] <;> rfl) H .refl, fun l hl p H1 hp hp1 g1 => ?_⟩
    have D1 := D.go g1 id id id (fun _ _ => id)
    obtain ⟨⟨dx1, h2⟩, ps1, ts1, _⟩ := id D1
    have en : (R.lookup n).isSome = true := by cases hl with | cons ex _ => rw [ex] <;> rfl
    walk_at "go"
    refine ite2 (fun z => k1 ?_ H1 g1) (fun z => ?_)
    · have : ¬ 1 ≤ x := by
        have : x < 1 := of_decide_eq_true z
        omega
      rw [decide_eq_false this, Bool.and_false]
    have z1 : 1 ≤ x := by
      have : ¬ x < 1 := by simpa using z
      omega
    walk_at "v"; walk_at "v"; walk_at "f"; walk_at "v"
    refine ⟨e, _, rfl, DPut.k (k := Sum.inr n) ts1 (by rw [List.length_map]; exact Nat.lt_of_le_of_lt lT (by decide)), ?_⟩
    rw [putK_T]
    exact k2 (by rw [en, decide_eq_true z1] <;> rfl) _ (D1.taps _) (g1.wide.trans (Go.set ts1 plain_dK rfl))
abbrev N_Mains_turn_off : List Str := ["self", "name"]
theorem sc_Mains_turn_off : FnScope N_Mains_turn_off ["self", "name"] d_Mains_turn_off.scope := ⟨rfl, rfl, rfl, by decide +kernel, rfl, by decide +kernel, by decide +kernel⟩
theorem ok_Mains_turn_off (T : Txt K mg base) : Good P w K mg base 1 (He.fAd K d_Mains_turn_off.at_) ["self", "name"] [] (sp_Mains_turn_off K) := by
  refine good_of0 T.fn_Mains_turn_off sc_Mains_turn_off rfl rfl (fun _ _ _ _ _ _ us hl => match us, hl with | [_, _], _ => rfl) (fun vs H Q E h => ?_) (fun A outer s H vs Q E hr h => ?_)
  · obtain ⟨m, d, e, M, R, T', pa, n, rfl, _⟩ := h
    rfl
  · obtain ⟨m, d, e, M, R, T', pa, n, rfl, h⟩ := h
    have hu := hu_of hr
    have cl_Mains := T.cl_Mains
    have no_Mains_full := T.no_Mains_full
    have no_Mains_tank := T.no_Mains_tank
    have no_Mains_comes := T.no_Mains_comes
    have no_Mains_pipes := T.no_Mains_pipes
    have no_Mains_taps := T.no_Mains_taps
    have no_Mains_used := T.no_Mains_used
    refine ⟨_, (pss_cons (ps_if (pt_cmp (pc_dnotin hu (pv 1) (pe_fld (pv 0) rfl))) (pss_one (ps_raiseC rfl tkx T.ex_WaterError T.gl_WaterError rfl)) pss_nil)
    (pss_one (ps_ddel (pe_fld (pv 0) rfl) (pv 1)))), ?_⟩
    obtain ⟨D, k1, k2⟩ := h
    obtain ⟨⟨dx, h1⟩, ps, ts, ne⟩ := id D
    walk_at "go"
    refine ⟨_, _, rfl, ts_get ts, _, rfl, ?_⟩
    cases en : T'.lookup n with
    | none => exact iteT (k1 (by rw [en] <;> rfl))
    | some y =>
      refine iteF ?_
      walk_at "go"
      refine ⟨e, _, Sum.inr n, rfl, ts, rfl, by rw [val_lookT, en] <;> rfl, ?_⟩
      rw [dropK_T]
      exact k2 (by rw [en] <;> rfl) _ (D.taps _) (Go.set ts plain_dK rfl)
end
end K2
namespace K2
open PySem PySem.Spec PyProof.Rows L2 Fy
open GxR (TabG Tabbed)
abbrev kvI (ks : List Str) (g : Str → Int) : List (Key × V) := ks.map fun n => (Sum.inr n, V.int (g n))
theorem val_kvI {ks : List Str} {g : Str → Int} {n : Str} (h : n ∈ ks) : valV (kvI ks g) (Sum.inr n) = some (.int (g n)) := by
  induction ks with
  | nil => cases h
  | cons m r ih =>
    by_cases e : m = n
    · subst e
      rw [kvI, List.map_cons, valV_pos (by rfl)]
    · rw [kvI, List.map_cons, valV_neg (by intro z; exact e (Sum.inr.inj z))]
      exact ih ((List.mem_cons.mp h).resolve_left fun z => e z.symm)
theorem put_kvI {ks : List Str} {g : Str → Int} {n : Str} {x : Int} (h : n ∈ ks) : putK (kvI ks g) (Sum.inr n) (V.int x) = kvI ks fun m => if m = n then x else g m := by
  unfold putK
  rw [if_pos (List.any_eq_true.mpr ⟨(Sum.inr n, .int (g n)), List.mem_map.mpr ⟨n, h, rfl⟩, decide_eq_true rfl⟩)]
  unfold kvI
  rw [List.map_map]
  refine List.map_congr_left fun m _ => ?_
  by_cases z : m = n
  · have z1 : (Sum.inr m : Key) = Sum.inr n := by rw [z]
    simp only [Function.comp_apply, if_pos z, if_pos z1]
  · have z1 : ¬ (Sum.inr m : Key) = Sum.inr n := fun y => z (Sum.inr.inj y)
    simp only [Function.comp_apply, if_neg z, if_neg z1]
theorem any_kvI {ks : List Str} {g : Str → Int} {n : Str} : ((kvI ks g).any fun kv => decide (kv.1 = Sum.inr n)) = decide (n ∈ ks) := by
  unfold kvI
  rw [List.any_map]
  by_cases h : n ∈ ks
  · rw [decide_eq_true h]
    exact List.any_eq_true.mpr ⟨n, h, decide_eq_true rfl⟩
  · rw [decide_eq_false h, List.any_eq_false]
    intro m hm z
    exact h (by rw [← Sum.inr.inj (of_decide_eq_true z)]; exact hm)
theorem put_kvI_new {ks : List Str} {g : Str → Int} {n : Str} {x : Int} (h : n ∉ ks) : putK (kvI ks g) (Sum.inr n) (V.int x) = kvI ks g ++ [(Sum.inr n, V.int x)] := by
  unfold putK
  rw [any_kvI, decide_eq_false h, if_neg (by decide)]
/-- {n: 0 for n in ks} -/
theorem put_zeros (ks pre : List Str) (n : Str) (post : List Str) (nd : ks.Nodup) (e : ks = pre ++ n :: post) : putK (kvI pre fun _ => 0) (Sum.inr n) (V.int 0) = kvI (pre ++ [n]) fun _ => 0 := by
  rw [put_kvI_new]
  · unfold kvI
    rw [List.map_append]
    rfl
  · intro h
    rw [e, List.nodup_append] at nd
    exact nd.2.2 n h n List.mem_cons_self rfl
structure Fl where
  f : Str → Int
  t : Str → Int
  left : Int
  more : Bool
def goFl (ln : Str → List Str) (cap wish : Str → Int) (s : Fl) (n : Str) : Prop := 0 < s.left ∧ s.f n < wish n ∧ (ln n).all (fun p => decide (s.t p < cap p)) = true
def upFl (ln : Str → List Str) (s : Fl) (n : Str) : Fl := ⟨fun m => if m = n then s.f m + 1 else s.f m, fun p => if p ∈ ln n then s.t p + 1 else s.t p, s.left - 1, true⟩
instance {ln : Str → List Str} {cap wish : Str → Int} {s : Fl} {n : Str} : Decidable (goFl ln cap wish s n) := by unfold goFl; infer_instance
def stepFl (ln : Str → List Str) (cap wish : Str → Int) (s : Fl) (n : Str) : Fl := if goFl ln cap wish s n then upFl ln s n else s
def roundFl (ln : Str → List Str) (cap wish : Str → Int) (ns : List Str) (s : Fl) : Fl := ns.foldl (stepFl ln cap wish) { s with more := false }
def runFl (ln : Str → List Str) (cap wish : Str → Int) (ns : List Str) : Nat → Fl → Fl
  | 0, s => s
  | k + 1, s => if s.more = true then runFl ln cap wish ns k (roundFl ln cap wish ns s) else s
def startFl (tank : Int) : Fl := ⟨fun _ => 0, fun _ => 0, tank, true⟩
section
variable {ln : Str → List Str} {cap wish : Str → Int} {ns : List Str}
theorem fold_left (L : Int) : ∀ (ns : List Str) (s : Fl), s.left ≤ L → (s.more = true → s.left < L ∧ 0 ≤ s.left) → (ns.foldl (stepFl ln cap wish) s).left ≤ L ∧ ((ns.foldl (stepFl ln cap wish) s).more = true → (ns.foldl (stepFl ln cap wish) s).left < L ∧ 0 ≤ (ns.foldl (stepFl ln cap wish) s).left)
  | [], s, h1, h2 => ⟨h1, h2⟩
  | n :: ns, s, h1, h2 => by
    rw [List.foldl_cons]
    refine fold_left L ns _ ?_ ?_
    · unfold stepFl
      split
      · show s.left - 1 ≤ L
        omega
      · exact h1
    · unfold stepFl
      split
      · rename_i g
        have := g.1
        intro _
        show s.left - 1 < L ∧ 0 ≤ s.left - 1
        omega
      · exact h2
theorem round_left (s : Fl) : (roundFl ln cap wish ns s).left ≤ s.left ∧ ((roundFl ln cap wish ns s).more = true → (roundFl ln cap wish ns s).left < s.left ∧ 0 ≤ (roundFl ln cap wish ns s).left) :=
  fold_left s.left ns { s with more := false } (Int.le_refl _) fun z => by cases z
theorem run_any : ∀ (k j : Nat) (s : Fl), s.left.toNat + 1 ≤ k → s.left.toNat + 1 ≤ j → runFl ln cap wish ns k s = runFl ln cap wish ns j s
  | 0, _, _, h, _ => by omega
  | _ + 1, 0, _, _, h => by omega
  | k + 1, j + 1, s, h1, h2 => by
    rw [runFl, runFl]
    by_cases e : s.more = true
    · rw [if_pos e, if_pos e]
      obtain ⟨r1, r2⟩ := round_left (ln := ln) (cap := cap) (wish := wish) (ns := ns) s
      by_cases e2 : (roundFl ln cap wish ns s).more = true
      · obtain ⟨r3, r4⟩ := r2 e2
        exact run_any k j _ (by omega) (by omega)
      · generalize roundFl ln cap wish ns s = s' at e2
        cases k <;> cases j <;> simp [runFl, e2]
    · rw [if_neg e, if_neg e]
theorem run_stop (k : Nat) (s : Fl) (h : s.more = false) : runFl ln cap wish ns k s = s := by
  cases k with
  | zero => rfl
  | succ k => rw [runFl, if_neg (by rw [h]; decide)]
theorem run_go (s : Fl) (h : s.more = true) : runFl ln cap wish ns (s.left.toNat + 1) s = runFl ln cap wish ns ((roundFl ln cap wish ns s).left.toNat + 1) (roundFl ln cap wish ns s) := by
  rw [runFl, if_pos h]
  obtain ⟨r1, r2⟩ := round_left (ln := ln) (cap := cap) (wish := wish) (ns := ns) s
  by_cases e2 : (roundFl ln cap wish ns s).more = true
  · obtain ⟨r3, r4⟩ := r2 e2
    exact run_any _ _ _ (by omega) (by omega)
  · have e3 : (roundFl ln cap wish ns s).more = false := by simpa using e2
    rw [run_stop _ _ e3, run_stop _ _ e3]
end
open Classical in
noncomputable def lineS (R : Ps) (n : Str) : List Str := if h : ∃ l, Line R (some n) l then h.choose else []
theorem lineS_eq {R : Ps} {n : Str} {l : List Str} (h : Line R (some n) l) : lineS R n = l := by
  unfold lineS
  have e : ∃ l, Line R (some n) l := ⟨l, h⟩
  rw [dif_pos e]
  exact e.choose_spec.one h
def capS (R : Ps) (n : Str) : Int := ((R.lookup n).map fun x => x.2).getD 0
def wishS (T : Ts) (n : Str) : Int := (T.lookup n).getD 0
abbrev keysT (T : Ts) : List Str := sortS (T.map fun p => p.1)
noncomputable def flowsS (R : Ps) (T : Ts) (tank : Int) : Fl := runFl (lineS R) (capS R) (wishS T) (keysT T) (tank.toNat + 1) (startFl tank)
theorem nd_sortS {ns : List Str} (h : ns.Nodup) : (sortS ns).Nodup := (List.mergeSort_perm ns leS).nodup_iff.mpr h
theorem keys_tkv (T : Ts) : ((tkv T).map fun p => kV p.1) = (T.map fun p => p.1).map V.str := by
  unfold tkv
  rw [List.map_map, List.map_map]
  rfl
theorem keys_ps (R : Ps) (pa : Str → Addr) : ((R.map fun p => ((Sum.inr p.1 : Key), V.ref (pa p.1))).map fun p => kV p.1) = (R.map fun p => p.1).map V.str := by
  rw [List.map_map, List.map_map]
  rfl
end K2
namespace K2
open PySem PySem.Spec PyProof.Rows L2 Fy
open GxR (TabG Tabbed)
/-- what each gets and what goes through, in the two dicts -/
structure FlAt (H : Hp) (fd td : Addr) (ns : List Str) (R : Ps) (s : Fl) : Prop where
  f : H fd = some (.dK (kvI ns s.f))
  t : H td = some (.dK (kvI (R.map fun p => p.1) s.t))
  ne : fd ≠ td
theorem fold_thr (l : List Str) (nd : l.Nodup) (t : Str → Int) : l.foldl (fun t p => fun q => if q = p then t q + 1 else t q) t = fun q => if q ∈ l then t q + 1 else t q := by
  induction l generalizing t with
  | nil => funext q; simp
  | cons a l ih =>
    have nd := List.nodup_cons.mp nd
    rw [List.foldl_cons, ih nd.2]
    funext q
    by_cases z : q = a
    · rw [z, if_neg nd.1, if_pos rfl, if_pos List.mem_cons_self]
    · rw [if_neg z]
      by_cases y : q ∈ l
      · rw [if_pos y, if_pos (List.mem_cons_of_mem _ y)]
      · rw [if_neg y, if_neg fun h => (List.mem_cons.mp h).elim z y]
def sp_Mains_flows (K : PySem.W.Frag) : Sp := fun vs H Q E => ∃ (m d e : Addr) (M : Mn) (R : Ps) (T : Ts) (pa : Str → Addr), vs = [.ref m] ∧ MainsAt (CMns K) H m d e M R T pa ∧ WfP R ∧ (T.map fun p => p.1).Nodup ∧ T.length ≤ 1000 ∧ (∀ p ∈ T, ∃ y, R.lookup p.1 = some y) ∧ Tb (TL K) (TG K) H ∧
  ∀ p H', H p = none → H' p = some (.dK (kvI (keysT T) (flowsS R T M.tank).f)) → Go (TL K) (TG K) (fun _ => False) H H' → Q (.ref p) H'
section
variable {P : Program} {w : World} {K : PySem.W.Frag} {mg : Str → Option Value} {base : Heap}
abbrev N_Mains_flows : List Str := ["self", "found", "name", "through", "left", "more", "line", "fits", "pipe"]
theorem sc_Mains_flows : FnScope N_Mains_flows ["self"] d_Mains_flows.scope := ⟨rfl, rfl, rfl, by decide +kernel, rfl, by decide +kernel, by decide +kernel⟩
theorem ok_Mains_flows (T : Txt K mg base) : Good P w K mg base 2 (He.fAd K d_Mains_flows.at_) ["self"] [] (sp_Mains_flows K) := by
  refine good_of0 T.fn_Mains_flows sc_Mains_flows rfl rfl (fun _ _ _ _ _ _ us hl => match us, hl with | [_], _ => rfl) (fun vs H Q E h => ?_) (fun A outer s H vs Q E hr h => ?_)
  · obtain ⟨m, d, e, M, R, T', pa, rfl, _⟩ := h
    rfl
  · obtain ⟨m, d, e, M, R, T', pa, rfl, h⟩ := h
    have hu := hu_of hr
    have cl_Mains := T.cl_Mains
    have no_Mains_full := T.no_Mains_full
    have no_Mains_tank := T.no_Mains_tank
    have no_Mains_comes := T.no_Mains_comes
    have no_Mains_pipes := T.no_Mains_pipes
    have no_Mains_taps := T.no_Mains_taps
    have no_Mains_used := T.no_Mains_used
    refine ⟨_, (pss_cons (ps_setDc (i := 1) (own := [("name", 2)]) (g := gName 2) (tt := tYes) rfl sc_Mains_flows.nd rfl rfl (swD_true rfl rfl rfl (by decide +kernel)) (pi_list (pe_callB (cr_sortD hr) (by rfl) T.fr_sorted (by decide +kernel) (pa_cons (pe_fld (pv 0) rfl) pa_nil))) (blkOk_by (own := [("name", 2)]) (N := N_Mains_flows) (sc := d_Mains_flows.scope) (by decide +kernel)) (fun _ _ _ _ _ => (pg_name (i := 2) sc_Mains_flows.nd rfl (by first | exact Or.inl rfl | exact Or.inr rfl))) (fun _ _ _ _ _ => pts_nil) (fun _ _ _ _ _ => (pv 2)) (fun _ _ _ _ _ => pe_int))
    (pss_cons (ps_set (i := 3) sc_Mains_flows.nd rfl (by first | exact Or.inl rfl | exact Or.inr rfl) (pe_lock (pe_dc (own := [("name", 2)]) (g := gName 2) (tt := tYes) rfl sc_Mains_flows.nd (pi_keys (pe_fld (pv 0) rfl)) (blkOk_by (own := [("name", 2)]) (N := N_Mains_flows) (sc := d_Mains_flows.scope) (by decide +kernel)) (fun _ _ _ _ _ => (pg_name (i := 2) sc_Mains_flows.nd rfl (by first | exact Or.inl rfl | exact Or.inr rfl))) (fun _ _ _ _ _ => pts_nil) (fun _ _ _ _ _ => (pv 2)) (fun _ _ _ _ _ => pe_int))))
    (pss_cons (ps_par (i := 4) (j := 5) rfl sc_Mains_flows.nd rfl rfl (by decide) rfl rfl (pa_cons (pe_fld (pv 0) rfl) (pa_cons pe_bl pa_nil)) (by rfl))
    (pss_cons (ps_while (passes_of rfl) (pt_val (pv 5)) (pss_cons (ps_set (i := 5) sc_Mains_flows.nd rfl (by first | exact Or.inl rfl | exact Or.inr rfl) pe_bl)
      (pss_one (ps_for (passes_of rfl) rfl (pi_list (pe_callB (cr_sortD hr) (by rfl) T.fr_sorted (by decide +kernel) (pa_cons (pe_fld (pv 0) rfl) pa_nil))) (pg_name (i := 2) sc_Mains_flows.nd rfl (by first | exact Or.inl rfl | exact Or.inr rfl)) (pss_cons (ps_set (i := 6) sc_Mains_flows.nd rfl (by first | exact Or.inl rfl | exact Or.inr rfl) (pg_meth (ok_Mains_line T) (hr.mono (by decide)) T.cl_Mains T.me_Mains_line px (pv 0) (pa_cons (pv 2) pa_nil)))
        (pss_cons (ps_set (i := 7) sc_Mains_flows.nd rfl (by first | exact Or.inl rfl | exact Or.inr rfl) (pe_genB (i := 8) tk_all (by rfl) T.fr_all (by decide +kernel) hr T.tb_Mains_flows rfl sc_Mains_flows.nd rfl (genS_by (N := N_Mains_flows) (sc := d_Mains_flows.scope) (by decide +kernel)) (pv 6) (fun _ _ _ => qts_nil) (fun _ _ _ => (q_cmp oq_lt (q_get (q_var 3) (q_var 8)) (q_ix (q_get (q_fld (q_var 0)) (q_var 8)) q_int))) (fun _ => rfl)))
        (pss_one (ps_if (PW.pt (pw_and (pt_cmpR op_gt (pv 4) pe_int (nomark _)) (pw_and (pt_cmpR op_lt (pe_dget hu (pv 1) (pv 2) (fun _ _ => rfl)) (pe_dget hu (pe_fld (pv 0) rfl) (pv 2) (fun _ _ => rfl)) (nomark _)) (pw_and1 (pt_val (pv 7)))))) (pss_cons (ps_daug hu (pv 1) (pv 2) pe_int in_add (fun _ _ _ => rfl))
          (pss_cons (ps_aug (i := 4) sc_Mains_flows.nd rfl (by first | exact Or.inl rfl | exact Or.inr rfl) pe_int ip_sub)
          (pss_cons (ps_set (i := 5) sc_Mains_flows.nd rfl (by first | exact Or.inl rfl | exact Or.inr rfl) pe_bl)
          (pss_one (ps_for (passes_of rfl) rfl (pi_tup (pv 6)) (pg_name (i := 8) sc_Mains_flows.nd rfl (by first | exact Or.inl rfl | exact Or.inr rfl)) (pss_one (ps_daug hu (pv 3) (pv 8) pe_int in_add (fun _ _ _ => rfl)))))))) pss_nil))))))))
    (pss_one (ps_ret (pv 1))))))), ?_⟩
    obtain ⟨D, wf, nT, lT, hT, tb, k⟩ := h
    obtain ⟨⟨dx, h1⟩, ps, ts, ne⟩ := id D
    have nks : (keysT T').Nodup := nd_sortS nT
    have lks : (keysT T').length ≤ 1000 := by rw [len_sortS, List.length_map]; exact lT
    have kT : ∀ n ∈ keysT T', n ∈ T'.map (fun p => p.1) := fun n h => mem_sortS.mp h
    walk_at "v"; walk_at "f"
    refine ⟨_, _, rfl, .inl ts, (by rw [keys_tkv]; exact sortb_str _), fun sl hsl => ?_⟩
    rw [keys_tkv, sortV_str]
    have g1 := Go.new (TL := TL K) (TG := TG K) (S := fun _ => False) (o := .lst ((keysT T').map V.str)) hsl
    have e1 : upd H sl (.lst ((keysT T').map V.str)) sl = some (.lst ((keysT T').map V.str)) := upd_same
    generalize upd H sl (.lst ((keysT T').map V.str)) = H1 at g1 e1 ⊢
    refine ⟨sl, rfl, ⟨_, SqL.of e1⟩, fun fd hfd => dc_fold V.str (keysT T') rfl walk_itl (fun pre H' => H' = upd H1 fd (.dK (kvI pre fun _ => 0))) rfl (fun pre H' h' => by rw [h']; exact SqL.of (by rw [upd_ne (ne_of_none e1 hfd)]; exact e1)) ?_ ?_⟩
    · rintro pre n post H' eb rfl
      refine ⟨rfl, ?_⟩
      refine tYes_ok ?_
      walk_at "v"
      refine ⟨_, Sum.inr n, rfl, upd_same, ?_, ?_⟩
      · rw [List.length_map]
        have := congrArg List.length eb
        rw [List.length_append, List.length_cons] at this
        exact Nat.lt_of_lt_of_le (show pre.length < 1000 by omega) (by decide)
      · rw [upd_upd, put_zeros _ _ _ _ nks eb]
    rintro H2 rfl
    have g2 := g1.trans (Go.new (o := .dK (kvI (keysT T') fun _ => 0)) hfd)
    have e2 : upd H1 fd (.dK (kvI (keysT T') fun _ => 0)) fd = some (.dK (kvI (keysT T') fun _ => 0)) := upd_same
    have ffd : H fd = none := g1.free fd hfd
    generalize upd H1 fd (.dK (kvI (keysT T') fun _ => 0)) = H2 at g2 e2 ⊢
    have D2 := D.go g2 id id id (fun _ _ => id)
    obtain ⟨⟨dx2, h2⟩, ps2, ts2, _⟩ := id D2
    refine ⟨d, _, ps2.dc, trivial, fun od => ?_⟩
    have nmd : m ≠ d := ne_of h2 ps2.dc (by intro z; cases z)
    walk_at "v"
    refine ⟨_, _, _, _, _, rfl, (by rw [upd_ne nmd]; exact h2), (by assumption), (by assumption), rfl, ?_⟩
    have wk := walk_keysV (d := d) (o := od) (kvs := R.map fun p => ((Sum.inr p.1 : Key), V.ref (pa p.1)))
    rw [keys_ps] at wk
    refine ⟨d, od, rfl, .inl ⟨_, upd_same, fun td htd => ?_⟩⟩
    have ntd : td ≠ d := fun z => by rw [z, upd_same] at htd; cases htd
    have htd0 : H2 td = none := by rw [upd_ne ntd] at htd; exact htd
    have nRk : (R.map fun p => p.1).length ≤ 1000 := by rw [List.length_map]; exact wf.len
    refine dc_fold V.str (R.map fun p => p.1) (by rw [List.length_map, List.length_map]) wk (fun pre H' => H' = upd (upd H2 d (.frz od (.dK (R.map fun p => (Sum.inr p.1, V.ref (pa p.1)))))) td (.dK (kvI pre fun _ => 0))) rfl (fun pre H' h' => by rw [h', upd_ne ntd.symm]; exact upd_same) ?_ ?_
    · rintro pre n post H' eb rfl
      refine ⟨rfl, ?_⟩
      refine tYes_ok ?_
      walk_at "v"
      refine ⟨_, Sum.inr n, rfl, upd_same, ?_, ?_⟩
      · rw [List.length_map]
        have := congrArg List.length eb
        rw [List.length_append, List.length_cons] at this
        exact Nat.lt_of_lt_of_le (show pre.length < 1000 by omega) (by decide)
      · rw [upd_upd, put_zeros _ _ _ _ wf.nd eb]
    rintro H3 rfl
    refine ⟨by rw [upd_ne ntd.symm]; exact upd_same, ?_⟩
    have eH : upd (upd (upd H2 d (.frz od (.dK (R.map fun p => (Sum.inr p.1, V.ref (pa p.1)))))) td (.dK (kvI (R.map fun p => p.1) fun _ => 0))) d (.dK (R.map fun p => (Sum.inr p.1, V.ref (pa p.1)))) = upd H2 td (.dK (kvI (R.map fun p => p.1) fun _ => 0)) := by
      funext b
      by_cases z : b = d
      · rw [z, upd_same, upd_ne ntd.symm]
        exact ps2.dc.symm
      · rw [upd_ne z]
        by_cases y : b = td
        · rw [y, upd_same, upd_same]
        · rw [upd_ne y, upd_ne z, upd_ne y]
    rw [eH]
    clear eH
    have g3 := g2.trans (Go.new (o := .dK (kvI (R.map fun p => p.1) fun _ => 0)) htd0)
    have F3 : FlAt (upd H2 td (.dK (kvI (R.map fun p => p.1) fun _ => 0))) fd td (keysT T') R (startFl M.tank) := ⟨by rw [upd_ne (ne_of_none e2 htd0)]; exact e2, upd_same, ne_of_none e2 htd0⟩
    have ftd : H td = none := g2.free td htd0
    generalize upd H2 td (.dK (kvI (R.map fun p => p.1) fun _ => 0)) = H3 at g3 F3 ⊢
    have D3 := D.go g3 id id id (fun _ _ => id)
    obtain ⟨⟨dx3, h3⟩, ps3, ts3, _⟩ := id D3
    walk_at "v"; walk_at "f"
    refine ⟨_, _, rfl, ?_⟩
    have kin : ∀ {H' : Hp} {b : Addr} {u : HO}, Go (TL K) (TG K) (fun a => a = fd ∨ a = td) H3 H' → H b = some u → NoT u → H' b = some u := fun {H' b u} g e n => by
      refine g.keep _ _ (g3.keep _ _ e n id) n fun z => ?_
      rcases z with z | z
      · rw [z, ffd] at e; cases e
      · rw [z, ftd] at e; cases e
    have Dof : ∀ {H' : Hp}, Go (TL K) (TG K) (fun a => a = fd ∨ a = td) H3 H' → MainsAt (CMns K) H' m d e M R T' pa := fun g => ⟨⟨dx, kin g h1 (by intro _ z; cases z)⟩, ⟨kin g ps.dc (by intro _ z; cases z), fun p hp => kin g (ps.row p hp) (by intro _ z; cases z)⟩, kin g ts (by intro _ z; cases z), ne⟩
    have tbO : ∀ {H' : Hp}, Go (TL K) (TG K) (fun a => a = fd ∨ a = td) H3 H' → Tb (TL K) (TG K) H' := fun g => g.tb (g3.tb tb)
    refine ⟨fun μ σ H' => ∃ (s : Fl) (x2 x6 x7 x8 : Option V), μ = 2 * s.left.toNat + (if s.more = true then 1 else 0) ∧ runFl (lineS R) (capS R) (wishS T') (keysT T') (s.left.toNat + 1) s = flowsS R T' M.tank ∧ FlAt H' fd td (keysT T') R s ∧ Go (TL K) (TG K) (fun a => a = fd ∨ a = td) H3 H' ∧
      σ = [some (.ref m), some (.ref fd), x2, some (.ref td), some (.int s.left), some (.bl s.more), x6, x7, x8], ⟨_, startFl M.tank, _, _, _, _, rfl, rfl, F3, .refl, rfl⟩, ?_⟩
    rintro μ σ H4 ⟨s, x2, x6, x7, x8, rfl, hrun, F4, g4, rfl⟩
    refine ⟨_, rfl, _, rfl, ?_⟩
    cases em : s.more with
    | false =>
      refine iteF ?_
      walk_at "v"
      rw [run_stop _ _ em] at hrun
      refine k fd H4 ffd (by rw [← hrun]; exact F4.f) ((g3.wide.trans g4).drop fun b z => .inr ?_)
      rcases z with z | z
      · rw [z]; exact ffd
      · rw [z]; exact ftd
    | true =>
      refine iteT ?_
      refine ⟨_, fun σ' H' q => q, ?_⟩
      have D4 := Dof g4
      obtain ⟨⟨dx4, h4⟩, ps4, ts4, _⟩ := id D4
      walk_at "v"; walk_at "f"
      refine ⟨_, _, rfl, .inl ts4, (by rw [keys_tkv]; exact sortb_str _), fun sl2 hsl2 => ?_⟩
      rw [keys_tkv, sortV_str]
      have g5 := g4.trans (Go.new (o := .lst ((keysT T').map V.str)) hsl2)
      have e5 : upd H4 sl2 (.lst ((keysT T').map V.str)) sl2 = some (.lst ((keysT T').map V.str)) := upd_same
      have F5 : FlAt (upd H4 sl2 (.lst ((keysT T').map V.str))) fd td (keysT T') R { s with more := false } := ⟨by rw [upd_ne (ne_of_none F4.f hsl2)]; exact F4.f, by rw [upd_ne (ne_of_none F4.t hsl2)]; exact F4.t, F4.ne⟩
      have nsf : sl2 ≠ fd := (ne_of_none F4.f hsl2).symm
      have nst : sl2 ≠ td := (ne_of_none F4.t hsl2).symm
      generalize upd H4 sl2 (.lst ((keysT T').map V.str)) = H5 at g5 e5 F5 ⊢
      refine ⟨sl2, rfl, ⟨_, SqL.of e5⟩, for_fold V.str (keysT T') rfl walk_itl (stepFl (lineS R) (capS R) (wishS T')) { s with more := false }
        (fun s σ H' => (∃ x2 x6 x7 x8, σ = [some (.ref m), some (.ref fd), x2, some (.ref td), some (.int s.left), some (.bl s.more), x6, x7, x8]) ∧ FlAt H' fd td (keysT T') R s ∧ Go (TL K) (TG K) (fun a => a = fd ∨ a = td) H5 H')
        ⟨⟨_, _, _, _, rfl⟩, F5, .refl⟩ (fun _ σ H' h => SqL.of (h.2.2.keep _ _ e5 (by intro _ z; cases z) fun z => z.elim nsf nst)) ?_ ?_⟩
      · rintro pre n post σ H6 eb ⟨⟨x2, x6, x7, x8, rfl⟩, F6, g6⟩
        have hn : n ∈ keysT T' := by rw [eb]; simp
        generalize pre.foldl (stepFl (lineS R) (capS R) (wishS T')) { s with more := false } = s' at F6 ⊢
        have g6' := g5.trans g6
        have D6 := Dof g6'
        obtain ⟨⟨dx6, h6⟩, ps6, ts6, _⟩ := id D6
        obtain ⟨tp, htp, etp⟩ := List.mem_map.mp (kT n hn)
        obtain ⟨y, ey⟩ := hT tp htp
        rw [etp] at ey
        have eT : T'.lookup n = some tp.2 := by
          have := Mlook nT htp
          rw [etp] at this
          exact this
        walk_at "v"
        refine ⟨_, _, _, rfl, h6, rfl, ?_⟩
        walk_at "v"
        refine ⟨m, d, e, M, R, T', pa, n, rfl, D6, wf, fun en => absurd (en.symm.trans ey) (by intro z; cases z), fun l hl p H7 hp hp1 g7 => ?_⟩
        have hln : lineS R n = l := lineS_eq hl
        obtain ⟨ndl, hll⟩ := wf.line_ok hl
        have g7' : Go (TL K) (TG K) (fun a => a = fd ∨ a = td) H3 H7 := g6'.trans g7.wide
        have F7 : FlAt H7 fd td (keysT T') R s' := ⟨g7.get F6.f, g7.get F6.t, F6.ne⟩
        walk_at "v"
        have tb7 := tbO g7'
        refine ⟨tb7.gen _ T.tg_Mains_flows, l.map V.str, ⟨p, rfl, .inr (.inl (SqT.of hp1))⟩, fun H8 hT8 => ?_⟩
        have gx : Go (TL K) (TG K) (fun _ => False) H7 H8 := Go.tab hT8 (tb7.gen _ T.tg_Mains_flows) T.tg_Mains_flows T.td_Mains_flows
        have g8 := g7'.trans gx.wide
        have g68 : Go (TL K) (TG K) (fun a => a = fd ∨ a = td) H5 H8 := (g6.trans g7.wide).trans gx.wide
        have F8 : FlAt H8 fd td (keysT T') R s' := ⟨gx.get F7.f, gx.get F7.t, F7.ne⟩
        have hp8 := gx.get hp1
        clear hp1 F7 F6
        have D8 := Dof g8
        obtain ⟨⟨dx8, h8⟩, ps8, ts8, _⟩ := id D8
        refine ⟨fun _ => true, fun x => match x with | .str q => .bl (decide (s'.t q < capS R q)) | _ => .non, fun x hx => rfl, fun x hx _ => ?_, l.map fun q => decide (s'.t q < capS R q), ?_, ?_⟩
        · obtain ⟨q, hq, rfl⟩ := List.mem_map.mp hx
          obtain ⟨yq, eq⟩ := hll q hq
          walk_at "v"; walk_at "v"
          refine ⟨_, _, Sum.inr q, _, rfl, rfl, .inl F8.t, val_kvI (List.mem_map.mpr ⟨_, lookM eq, rfl⟩), ?_⟩
          walk_at "v"; walk_at "f"; walk_at "v"
          refine ⟨_, _, Sum.inr q, _, rfl, rfl, .inl ps8.dc, (by rw [val_lookR, eq] <;> rfl), ?_⟩
          refine ⟨_, _, 1, _, rfl, rfl, .inr (SqT.of (ps8.row _ (lookM eq))), rfl, ?_⟩
          refine ⟨_, _, rfl, rfl, _, _, rfl, rfl, ?_⟩
          have ec : capS R q = yq.2 := by
            unfold capS
            rw [eq] <;> rfl
          show QV.v (V.bl (decide (s'.t q < yq.2))) = QV.v (.bl (decide (s'.t q < capS R q)))
          rw [ec]
        · rw [List.map_map, List.filter_eq_self.mpr fun _ _ => rfl, List.map_map]
          rfl
        have nogo : ¬ goFl (lineS R) (capS R) (wishS T') s' n → (∃ y2 y6 y7 y8 : Option V, [some (V.ref m), some (.ref fd), some (.str n), some (.ref td), some (.int s'.left), some (.bl s'.more), some (.ref p), some (.bl ((l.map fun q => decide (s'.t q < capS R q)).all id)), x8] = [some (.ref m), some (.ref fd), y2, some (.ref td), some (.int (stepFl (lineS R) (capS R) (wishS T') s' n).left), some (.bl (stepFl (lineS R) (capS R) (wishS T') s' n).more), y6, y7, y8]) ∧
            FlAt H8 fd td (keysT T') R (stepFl (lineS R) (capS R) (wishS T') s' n) ∧ Go (TL K) (TG K) (fun a => a = fd ∨ a = td) H5 H8 := fun z => by
          unfold stepFl
          rw [if_neg z]
          exact ⟨⟨_, _, _, _, rfl⟩, F8, g68⟩
        have ew : wishS T' n = tp.2 := by
          unfold wishS
          rw [eT] <;> rfl
        have ef : DGet H8 fd (.str n) (some (.int (s'.f n))) := by
          have := DGet.k (k := Sum.inr n) F8.f
          rw [val_kvI hn] at this
          exact this
        walk_at "go"
        refine ite2 (fun c1 => ?_) (fun c1 => iteF (nogo fun z => c1 (decide_eq_true z.1)))
        have c1' : 0 < s'.left := of_decide_eq_true c1
        walk_at "v"; walk_at "v"
        refine ⟨_, _, rfl, ef, ?_⟩
        walk_at "v"; walk_at "f"; walk_at "v"
        have et := ts_get (n := n) ts8
        rw [eT] at et
        refine ⟨_, _, rfl, et, ?_⟩
        walk_at "go"
        refine ite2 (fun c2 => ?_) (fun c2 => iteF (nogo fun z => c2 (decide_eq_true (by rw [← ew]; exact z.2.1))))
        have c2' : s'.f n < tp.2 := of_decide_eq_true c2
        walk_at "go"
        have ea : ((l.map fun q => decide (s'.t q < capS R q)).all id) = (lineS R n).all fun q => decide (s'.t q < capS R q) := by
          rw [hln, List.all_map]
          rfl
        refine ite2 (fun c3 => ?_) (fun c3 => nogo fun z => c3 (by rw [ea]; exact z.2.2))
        have hgo : goFl (lineS R) (capS R) (wishS T') s' n := ⟨c1', by rw [ew]; exact c2', by rw [← ea]; exact c3⟩
        walk_at "v"; walk_at "v"
        refine ⟨_, _, rfl, ef, ?_⟩
        refine ⟨_, _, rfl, rfl, _, DPut.k (k := Sum.inr n) F8.f (by rw [List.length_map]; exact Nat.lt_of_le_of_lt lks (by decide)), ?_⟩
        rw [put_kvI hn]
        have e9 : upd H8 fd (.dK (kvI (keysT T') fun x => if x = n then s'.f n + 1 else s'.f x)) fd = some (.dK (kvI (keysT T') (upFl (lineS R) s' n).f)) := by
          rw [upd_same]
          have : (fun x => if x = n then s'.f n + 1 else s'.f x) = (upFl (lineS R) s' n).f := by
            funext x
            show (if x = n then s'.f n + 1 else s'.f x) = if x = n then s'.f x + 1 else s'.f x
            by_cases z : x = n
            · rw [z]
            · rw [if_neg z, if_neg z]
          rw [this]
        have t9 : upd H8 fd (.dK (kvI (keysT T') fun x => if x = n then s'.f n + 1 else s'.f x)) td = some (.dK (kvI (R.map fun p => p.1) s'.t)) := by rw [upd_ne F8.ne.symm]; exact F8.t
        have g9 := g68.trans (Go.set (o := .dK (kvI (keysT T') fun x => if x = n then s'.f n + 1 else s'.f x)) F8.f plain_dK (.inl rfl))
        have p9 : upd H8 fd (.dK (kvI (keysT T') fun x => if x = n then s'.f n + 1 else s'.f x)) p = some (.tup (l.map V.str)) := by rw [upd_ne (ne_of hp8 F8.f (by intro z; cases z))]; exact hp8
        generalize upd H8 fd (.dK (kvI (keysT T') fun x => if x = n then s'.f n + 1 else s'.f x)) = H9 at e9 t9 g9 p9 ⊢
        refine ⟨_, rfl, _, _, rfl, rfl, ?_⟩
        walk_at "v"
        have npf : p ≠ td := ne_of p9 t9 (by intro z; cases z)
        refine ⟨p, rfl, ⟨_, SqT.of p9⟩, for_fold V.str l rfl walk_itt (fun t q => fun x => if x = q then t x + 1 else t x) s'.t
          (fun t σ H' => (∃ x8, σ = [some (.ref m), some (.ref fd), some (.str n), some (.ref td), some (.int (s'.left - 1)), some (.bl true), some (.ref p), some (.bl ((l.map fun q => decide (s'.t q < capS R q)).all id)), x8]) ∧ H' td = some (.dK (kvI (R.map fun p => p.1) t)) ∧ Go (TL K) (TG K) (fun a => a = td) H9 H')
          ⟨⟨_, rfl⟩, t9, .refl⟩ (fun _ σ H' h => SqT.of (h.2.2.keep _ _ p9 (by intro _ z; cases z) npf)) ?_ ?_⟩
        · rintro pre2 q post2 σ HA eb2 ⟨⟨x8, rfl⟩, tA, gA⟩
          have hq : q ∈ l := by rw [eb2]; simp
          obtain ⟨yq, eq⟩ := hll q hq
          have hqk : q ∈ R.map (fun p => p.1) := List.mem_map.mpr ⟨_, lookM eq, rfl⟩
          generalize pre2.foldl (fun t q => fun x => if x = q then t x + 1 else t x) s'.t = t' at tA ⊢
          have eg : DGet HA td (.str q) (some (.int (t' q))) := by
            have := DGet.k (k := Sum.inr q) tA
            rw [val_kvI hqk] at this
            exact this
          walk_at "v"; walk_at "v"
          refine ⟨_, _, rfl, eg, ?_⟩
          refine ⟨_, _, rfl, rfl, _, DPut.k (k := Sum.inr q) tA (by rw [List.length_map]; exact Nat.lt_of_le_of_lt nRk (by decide)), ?_⟩
          rw [put_kvI hqk]
          refine ⟨⟨_, rfl⟩, ?_, gA.trans (Go.set tA plain_dK rfl)⟩
          rw [upd_same]
          have : (fun x => if x = q then t' q + 1 else t' x) = fun x => if x = q then t' x + 1 else t' x := by
            funext x
            by_cases z : x = q
            · rw [z]
            · rw [if_neg z, if_neg z]
          rw [this]
        · rintro σ HA ⟨⟨x8, rfl⟩, tA, gA⟩
          rw [fold_thr l ndl] at tA
          have es : stepFl (lineS R) (capS R) (wishS T') s' n = upFl (lineS R) s' n := if_pos hgo
          rw [es]
          refine ⟨⟨_, _, _, _, rfl⟩, ⟨gA.keep _ _ e9 (by intro _ z; cases z) F8.ne, ?_, F8.ne⟩, g9.trans (gA.mono fun _ z => .inr z)⟩
          rw [tA]
          unfold upFl
          rw [hln]
      · rintro σ H6 ⟨⟨x2, x6, x7, x8, rfl⟩, F6, g6⟩
        have er := run_go (ln := lineS R) (cap := capS R) (wish := wishS T') (ns := keysT T') s em
        obtain ⟨r1, r2⟩ := round_left (ln := lineS R) (cap := capS R) (wish := wishS T') (ns := keysT T') s
        refine ⟨_, ?_, roundFl (lineS R) (capS R) (wishS T') (keysT T') s, _, _, _, _, rfl, er.symm.trans hrun, F6, g5.trans g6, rfl⟩
        by_cases y : (roundFl (lineS R) (capS R) (wishS T') (keysT T') s).more = true
        · obtain ⟨r3, r4⟩ := r2 y
          rw [if_pos y, if_pos rfl]
          omega
        · rw [if_neg y, if_pos rfl]
          omega
end
end K2
namespace K2
open PySem PySem.Spec PyProof.Rows L2 Fy
open GxR (TabG Tabbed)
abbrev mnI (a b : Int) : Int := if b < a then b else a
noncomputable def takenS (R : Ps) (T : Ts) (tank : Int) : Int := ((keysT T).map (flowsS R T tank).f).sum
noncomputable def minM (R : Ps) (T : Ts) (M : Mn) : Mn := ⟨M.full, mnI M.full (M.tank - takenS R T M.tank + M.comes), M.comes, M.used + takenS R T M.tank⟩
def sp_Mains_minute (K : PySem.W.Frag) : Sp := fun vs H Q E => ∃ (m d e : Addr) (M : Mn) (R : Ps) (T : Ts) (pa : Str → Addr), vs = [.ref m] ∧ MainsAt (CMns K) H m d e M R T pa ∧ WfP R ∧ (T.map fun p => p.1).Nodup ∧ T.length ≤ 1000 ∧ (∀ p ∈ T, ∃ y, R.lookup p.1 = some y) ∧ Tb (TL K) (TG K) H ∧
  ∀ p H', H p = none → H' p = some (.dK (kvI (keysT T) (flowsS R T M.tank).f)) → MainsAt (CMns K) H' m d e (minM R T M) R T pa → Go (TL K) (TG K) (fun b => b = m) H H' → Q (.ref p) H'
def sp_Mains_most_at (K : PySem.W.Frag) : Sp := fun vs H Q E => ∃ (m d e : Addr) (M : Mn) (R : Ps) (T : Ts) (pa : Str → Addr) (n : Str), vs = [.ref m, .str n] ∧ MainsAt (CMns K) H m d e M R T pa ∧ WfP R ∧ Tb (TL K) (TG K) H ∧
  (R.lookup n = none → E (.ref (WErr K)) none H) ∧ (∀ l c H', Line R (some n) l → c ∈ l.map (capS R) → (∀ y ∈ l.map (capS R), c ≤ y) → Go (TL K) (TG K) (fun _ => False) H H' → Q (.int (mnI c M.full)) H')
noncomputable def goneS (R : Ps) (n : Str) : List Str := (sortS (R.map fun p => p.1)).filter fun x => decide (n ∈ lineS R x)
noncomputable def cutP {α : Type} (gone : List Str) (R : List (Str × α)) : List (Str × α) := R.filter fun p => !decide (p.1 ∈ gone)
def sp_Mains_broken (K : PySem.W.Frag) : Sp := fun vs H Q E => ∃ (m d e : Addr) (M : Mn) (R : Ps) (T : Ts) (pa : Str → Addr) (n : Str), vs = [.ref m, .str n] ∧ MainsAt (CMns K) H m d e M R T pa ∧ WfP R ∧ Tb (TL K) (TG K) H ∧
  (R.lookup n = none → E (.ref (WErr K)) none H) ∧ ((R.lookup n).isSome = true → ∀ p d' H', H p = none → H d' = none → H' p = some (.tup ((goneS R n).map V.str)) → MainsAt (CMns K) H' m d' e M (cutP (goneS R n) R) (cutP (goneS R n) T) pa → Go (TL K) (TG K) (fun b => b = m ∨ b = e) H H' → Q (.ref p) H')
theorem inV_str (n : Str) (l : List Str) : inV (V.str n) (l.map V.str) = decide (n ∈ l) := by
  unfold inV
  rw [List.any_map]
  by_cases h : n ∈ l
  · rw [decide_eq_true h]
    exact List.any_eq_true.mpr ⟨n, h, by simp [eqV]⟩
  · rw [decide_eq_false h, List.any_eq_false]
    intro m hm z
    have : m = n := by simpa [eqV] using z
    exact h (by rw [← this]; exact hm)
theorem flat_strs (l : List Str) : (l.map V.str).all flatV = true := by
  rw [List.all_map]
  exact List.all_eq_true.mpr fun _ _ => rfl
theorem fold_filter {α : Type} (q : α → Bool) : ∀ (ys acc : List α), ys.foldl (fun acc n => if q n = true then acc ++ [n] else acc) acc = acc ++ ys.filter q
  | [], acc => by simp
  | y :: ys, acc => by
    rw [List.foldl_cons, fold_filter q ys, List.filter_cons]
    by_cases e : q y = true
    · rw [if_pos e, if_pos e]; simp
    · rw [if_neg e, if_neg e]
theorem cut_fold {α : Type} : ∀ (ys : List Str) (T : List (Str × α)), ys.foldl (fun T y => T.filter fun p => decide (p.1 ≠ y)) T = cutP ys T
  | [], T => by
    unfold cutP
    exact (List.filter_eq_self.mpr fun p _ => by simp).symm
  | y :: ys, T => by
    rw [List.foldl_cons, cut_fold ys]
    unfold cutP
    rw [List.filter_filter]
    refine List.filter_congr fun p _ => ?_
    by_cases a : p.1 = y <;> by_cases b : p.1 ∈ ys <;> simp [a, b]
abbrev kvR (ks : List Str) (pa : Str → Addr) : List (Key × V) := ks.map fun x => (Sum.inr x, V.ref (pa x))
theorem put_kvR {ks : List Str} {pa : Str → Addr} {n : Str} (h : n ∉ ks) : putK (kvR ks pa) (Sum.inr n) (V.ref (pa n)) = kvR (ks ++ [n]) pa := by
  unfold putK
  rw [if_neg]
  · unfold kvR
    rw [List.map_append]
    rfl
  · intro z
    obtain ⟨p, hp, e⟩ := List.any_eq_true.mp z
    obtain ⟨m, hm, rfl⟩ := List.mem_map.mp hp
    exact h (by rw [← Sum.inr.inj (of_decide_eq_true e)]; exact hm)
theorem kvR_cut (R : Ps) (pa : Str → Addr) (gone : List Str) : kvR ((R.map fun p => p.1).filter fun x => !decide (x ∈ gone)) pa = (cutP gone R).map fun p => ((Sum.inr p.1 : Key), V.ref (pa p.1)) := by
  unfold cutP kvR
  rw [List.filter_map, List.map_map]
  rfl
theorem MainsAt.num {C : Addr} {H : Hp} {m d e dx : Addr} {M : Mn} {R : Ps} {T : Ts} {pa : Str → Addr} (D : MainsAt C H m d e M R T pa) (M2 : Mn) : MainsAt C (upd H m (.ins C dx (mfs M2 d e))) m d e M2 R T pa := by
  obtain ⟨⟨dx, h1⟩, ps, ts, ne⟩ := D
  exact ⟨⟨_, upd_same⟩, ⟨by rw [upd_ne (ne_of ps.dc h1 (by intro z; cases z))]; exact ps.dc, fun p hp => by rw [upd_ne (ne_of (ps.row p hp) h1 (by intro z; cases z))]; exact ps.row p hp⟩, by rw [upd_ne (ne_of ts h1 (by intro z; cases z))]; exact ts, ne⟩
section
variable {P : Program} {w : World} {K : PySem.W.Frag} {mg : Str → Option Value} {base : Heap}
abbrev N_Mains_minute : List Str := ["self", "found", "taken"]
theorem sc_Mains_minute : FnScope N_Mains_minute ["self"] d_Mains_minute.scope := ⟨rfl, rfl, rfl, by decide +kernel, rfl, by decide +kernel, by decide +kernel⟩
theorem ok_Mains_minute (T : Txt K mg base) : Good P w K mg base 3 (He.fAd K d_Mains_minute.at_) ["self"] [] (sp_Mains_minute K) := by
  refine good_of0 T.fn_Mains_minute sc_Mains_minute rfl rfl (fun _ _ _ _ _ _ us hl => match us, hl with | [_], _ => rfl) (fun vs H Q E h => ?_) (fun A outer s H vs Q E hr h => ?_)
  · obtain ⟨m, d, e, M, R, T', pa, rfl, _⟩ := h
    rfl
  · obtain ⟨m, d, e, M, R, T', pa, rfl, h⟩ := h
    have cl_Mains := T.cl_Mains
    have no_Mains_full := T.no_Mains_full
    have no_Mains_tank := T.no_Mains_tank
    have no_Mains_comes := T.no_Mains_comes
    have no_Mains_pipes := T.no_Mains_pipes
    have no_Mains_taps := T.no_Mains_taps
    have no_Mains_used := T.no_Mains_used
    refine ⟨_, (pss_cons (ps_set (i := 1) sc_Mains_minute.nd rfl (by first | exact Or.inl rfl | exact Or.inr rfl) (pg_meth0 (ok_Mains_flows T) (hr.mono (by decide)) T.cl_Mains T.me_Mains_flows px (pv 0)))
    (pss_cons (ps_set (i := 2) sc_Mains_minute.nd rfl (by first | exact Or.inl rfl | exact Or.inr rfl) (pe_callB (cr_sumV rfl) (by rfl) T.fr_sum (by decide +kernel) (pa_cons (pe_bm0 PySem.F.plainAttrs_dict PySem.F.slot_dict_values PySem.F.type_dict_values mt_values (pv 1)) pa_nil)))
    (pss_cons (ps_fldaug (pv 0) (pv 2) in_add)
    (pss_cons (ps_fld (pv 0) (pe_callB (call_min2 rfl) (by rfl) T.fr_min (by decide +kernel) (pa_cons (pe_fld (pv 0) rfl) (pa_cons (pe_op op_add (pe_op op_sub (pe_fld (pv 0) rfl) (pv 2)) (pe_fld (pv 0) rfl)) pa_nil))) rfl)
    (pss_one (ps_ret (pv 1))))))), ?_⟩
    obtain ⟨D, wf, nT, lT, hT, tb, k⟩ := h
    obtain ⟨⟨dx, h1⟩, ps, ts, ne⟩ := id D
    walk_at "v"
    refine ⟨_, _, _, rfl, h1, rfl, ?_⟩
    refine ⟨m, d, e, M, R, T', pa, rfl, D, wf, nT, lT, hT, tb, fun p H1 hp hp1 g1 => ?_⟩
    have D1 := D.go g1 id id id (fun _ _ => id)
    obtain ⟨⟨dx1, h2⟩, ps1, ts1, _⟩ := id D1
    walk_at "v"
    refine ⟨.inr (.inr (.inl ⟨rfl, .inl ⟨_, hp1⟩⟩)), ?_⟩
    refine ⟨p, _, rfl, rfl, hp1, fun v hv => ?_⟩
    have npv := ne_of_none hp1 hv
    refine ⟨v, p, _, (keysT T').map (flowsS R T' M.tank).f, rfl, upd_same, (by rw [upd_ne npv]; exact hp1), (by rw [List.map_map, List.map_map]; rfl), ?_⟩
    have g2 := g1.trans (Go.new (o := valsO v p) hv)
    have D2 := D1.go (Go.new (TL := TL K) (TG := TG K) (S := fun _ => False) (o := valsO v p) hv) id id id (fun _ _ => id)
    have p2 : upd H1 v (valsO v p) p = some (.dK (kvI (keysT T') (flowsS R T' M.tank).f)) := by rw [upd_ne npv]; exact hp1
    generalize upd H1 v (valsO v p) = H2 at g2 D2 p2 ⊢
    obtain ⟨⟨dx2, h3⟩, ps2, ts2, _⟩ := id D2
    walk_at "v"
    refine ⟨_, _, _, _, _, rfl, h3, T.cl_Mains, T.no_Mains_used, rfl, ?_⟩
    refine ⟨_, rfl, ?_⟩
    refine ⟨_, _, rfl, rfl, ?_⟩
    refine ⟨_, _, h3, (by show 6 < 1000; decide), ?_⟩
    walk_at "v"
    refine ⟨_, _, _, _, _, rfl, upd_same, T.cl_Mains, T.no_Mains_full, rfl, ?_⟩
    walk_at "v"
    refine ⟨_, _, _, _, _, rfl, upd_same, T.cl_Mains, T.no_Mains_tank, rfl, ?_⟩
    walk_at "v"
    refine ⟨_, _, rfl, rfl, ?_⟩
    walk_at "v"
    refine ⟨_, _, _, _, _, rfl, upd_same, T.cl_Mains, T.no_Mains_comes, rfl, ?_⟩
    refine ⟨_, _, rfl, rfl, ?_⟩
    refine ⟨_, _, rfl, ?_⟩
    walk_at "v"
    refine ⟨_, _, _, _, rfl, upd_same, T.cl_Mains, T.no_Mains_tank, (by show 6 < 1000; decide), ?_⟩
    walk_at "v"
    rw [upd_upd]
    have ne' : p ≠ m := ne_of p2 h3 (by intro z; cases z)
    exact k p _ hp (by rw [upd_ne ne']; exact p2) (D2.num (dx := dx2) (minM R T' M)) (g2.wide.trans (Go.set h3 plain_ins rfl))
abbrev N_Mains_most_at : List Str := ["self", "name", "pipe"]
theorem sc_Mains_most_at : FnScope N_Mains_most_at ["self", "name"] d_Mains_most_at.scope := ⟨rfl, rfl, rfl, by decide +kernel, rfl, by decide +kernel, by decide +kernel⟩
theorem ok_Mains_most_at (T : Txt K mg base) : Good P w K mg base 2 (He.fAd K d_Mains_most_at.at_) ["self", "name"] [] (sp_Mains_most_at K) := by
  refine good_of0 T.fn_Mains_most_at sc_Mains_most_at rfl rfl (fun _ _ _ _ _ _ us hl => match us, hl with | [_, _], _ => rfl) (fun vs H Q E h => ?_) (fun A outer s H vs Q E hr h => ?_)
  · obtain ⟨m, d, e, M, R, T', pa, n, rfl, _⟩ := h
    rfl
  · obtain ⟨m, d, e, M, R, T', pa, n, rfl, h⟩ := h
    have cl_Mains := T.cl_Mains
    have no_Mains_full := T.no_Mains_full
    have no_Mains_tank := T.no_Mains_tank
    have no_Mains_comes := T.no_Mains_comes
    have no_Mains_pipes := T.no_Mains_pipes
    have no_Mains_taps := T.no_Mains_taps
    have no_Mains_used := T.no_Mains_used
    refine ⟨_, (pss_one (ps_ret (pe_callB (call_min2 rfl) (by rfl) T.fr_min (by decide +kernel) (pa_cons (pe_genB (i := 2) tk_min (by rfl) T.fr_min (by decide +kernel) hr T.tb_Mains_most_at rfl sc_Mains_most_at.nd rfl (genS_by (N := N_Mains_most_at) (sc := d_Mains_most_at.scope) (by decide +kernel)) (pg_meth (ok_Mains_line T) (hr.mono (by decide)) T.cl_Mains T.me_Mains_line px (pv 0) (pa_cons (pv 1) pa_nil)) (fun _ _ _ => qts_nil) (fun _ _ _ => (q_ix (q_get (q_fld (q_var 0)) (q_var 2)) q_int)) (fun _ => rfl)) (pa_cons (pe_fld (pv 0) rfl) pa_nil))))), ?_⟩
    obtain ⟨D, wf, tb, k1, k2⟩ := h
    obtain ⟨⟨dx, h1⟩, ps, ts, ne⟩ := id D
    walk_at "v"
    refine ⟨_, _, _, rfl, h1, rfl, ?_⟩
    walk_at "v"
    refine ⟨m, d, e, M, R, T', pa, n, rfl, D, wf, k1, fun l hl p H1 hp hp1 g1 => ?_⟩
    have D1 := D.go g1 id id id (fun _ _ => id)
    have tb1 := g1.tb tb
    obtain ⟨ndl, hll⟩ := wf.line_ok hl
    refine ⟨tb1.gen _ T.tg_Mains_most_at, l.map V.str, ⟨p, rfl, .inr (.inl (SqT.of hp1))⟩, fun H2 hT2 => ?_⟩
    have gx : Go (TL K) (TG K) (fun _ => False) H1 H2 := Go.tab hT2 (tb1.gen _ T.tg_Mains_most_at) T.tg_Mains_most_at T.td_Mains_most_at
    have D2 := D1.go gx id id id (fun _ _ => id)
    obtain ⟨⟨dx2, h2⟩, ps2, ts2, _⟩ := id D2
    refine ⟨fun _ => true, fun x => match x with | .str q => .int (capS R q) | _ => .non, fun x hx => rfl, fun x hx _ => ?_, l.map (capS R), ?_, ?_, fun c hc hc2 => ?_⟩
    · obtain ⟨q, hq, rfl⟩ := List.mem_map.mp hx
      obtain ⟨yq, eq⟩ := hll q hq
      walk_at "v"; walk_at "f"; walk_at "v"
      refine ⟨_, _, Sum.inr q, _, rfl, rfl, .inl ps2.dc, (by rw [val_lookR, eq] <;> rfl), ?_⟩
      refine ⟨_, _, 1, _, rfl, rfl, .inr (SqT.of (ps2.row _ (lookM eq))), rfl, ?_⟩
      have ec : capS R q = yq.2 := by
        unfold capS
        rw [eq] <;> rfl
      show QV.v (V.int yq.2) = QV.v (.int (capS R q))
      rw [ec]
    · rw [List.map_map, List.filter_eq_self.mpr fun _ _ => rfl, List.map_map]
      rfl
    · cases hl
      simp
    · walk_at "v"; walk_at "f"
      exact ⟨_, _, rfl, k2 l c H2 hl hc hc2 (g1.trans gx)⟩
abbrev N_Mains_broken : List Str := ["self", "name", "gone", "one"]
theorem sc_Mains_broken : FnScope N_Mains_broken ["self", "name"] d_Mains_broken.scope := ⟨rfl, rfl, rfl, by decide +kernel, rfl, by decide +kernel, by decide +kernel⟩
theorem ok_Mains_broken (T : Txt K mg base) : Good P w K mg base 2 (He.fAd K d_Mains_broken.at_) ["self", "name"] [] (sp_Mains_broken K) := by
  refine good_of0 T.fn_Mains_broken sc_Mains_broken rfl rfl (fun _ _ _ _ _ _ us hl => match us, hl with | [_, _], _ => rfl) (fun vs H Q E h => ?_) (fun A outer s H vs Q E hr h => ?_)
  · obtain ⟨m, d, e, M, R, T', pa, n, rfl, _⟩ := h
    rfl
  · obtain ⟨m, d, e, M, R, T', pa, n, rfl, h⟩ := h
    have hu := hu_of hr
    have cl_Mains := T.cl_Mains
    have no_Mains_full := T.no_Mains_full
    have no_Mains_tank := T.no_Mains_tank
    have no_Mains_comes := T.no_Mains_comes
    have no_Mains_pipes := T.no_Mains_pipes
    have no_Mains_taps := T.no_Mains_taps
    have no_Mains_used := T.no_Mains_used
    refine ⟨_, (pss_cons (ps_expr (pg_meth (ok_Mains_line T) (hr.mono (by decide)) T.cl_Mains T.me_Mains_line px (pv 0) (pa_cons (pv 1) pa_nil)))
    (pss_cons (ps_set (i := 2) sc_Mains_broken.nd rfl (by first | exact Or.inl rfl | exact Or.inr rfl) (pe_lc (own := [("one", 3)]) (g := gName 3) rfl sc_Mains_broken.nd (pi_list (pe_callB (cr_sortD hr) (by rfl) T.fr_sorted (by decide +kernel) (pa_cons (pe_fld (pv 0) rfl) pa_nil))) (blkOk_by (own := [("one", 3)]) (N := N_Mains_broken) (sc := d_Mains_broken.scope) (by decide +kernel)) (fun _ _ _ _ _ => (pg_name (i := 3) sc_Mains_broken.nd rfl (by first | exact Or.inl rfl | exact Or.inr rfl))) (fun _ _ _ _ _ => pts_one (pt_cmpR (op_in_seqK K rfl) (pv 1) (pg_meth (ok_Mains_line T) (hr.mono (by decide)) T.cl_Mains T.me_Mains_line passL (pv 0) (pa_cons (pv 3) pa_nil)) rfl)) (fun _ _ _ _ _ => (pv 3))))
    (pss_cons (ps_for (passes_of rfl) rfl (pi_list (pv 2)) (pg_name (i := 3) sc_Mains_broken.nd rfl (by first | exact Or.inl rfl | exact Or.inr rfl)) (pss_one (ps_expr (pe_dpop2 (pe_fld (pv 0) rfl) (pv 3) pe_non ⟨by rfl, by rfl, by rfl, by rfl⟩))))
    (pss_cons (ps_fld (pv 0) (pe_lock (pe_dc (own := [("one", 3)]) (g := gName 3) rfl sc_Mains_broken.nd (pi_keys (pe_fld (pv 0) rfl)) (blkOk_by (own := [("one", 3)]) (N := N_Mains_broken) (sc := d_Mains_broken.scope) (by decide +kernel)) (fun _ _ _ _ _ => (pg_name (i := 3) sc_Mains_broken.nd rfl (by first | exact Or.inl rfl | exact Or.inr rfl))) (fun _ _ _ _ _ => pts_one (pt_cmpR (op_notIn_seqK K rfl) (pv 3) (pv 2) rfl)) (fun _ _ _ _ _ => (pv 3)) (fun _ _ _ _ _ => (pe_dget hu (pe_fldK K rfl (pv 0) rfl) (pv 3) (fun _ _ => rfl))))) rfl)
    (pss_one (ps_ret (pe_callTy call_tuple_of (by rfl) T.fr_tuple (by decide +kernel) (pa_cons (pv 2) pa_nil)))))))), ?_⟩
    obtain ⟨D, wf, tb, k1, k2⟩ := h
    obtain ⟨⟨dx, h1⟩, ps, ts, ne⟩ := id D
    walk_at "v"
    refine ⟨_, _, _, rfl, h1, rfl, ?_⟩
    walk_at "v"
    refine ⟨m, d, e, M, R, T', pa, n, rfl, D, wf, k1, fun l hl p H1 hp hp1 g1 => ?_⟩
    have en : (R.lookup n).isSome = true := by cases hl with | cons ex _ => rw [ex] <;> rfl
    have k2 := k2 en
    clear k1
    have D1 := D.go g1 id id id (fun _ _ => id)
    obtain ⟨⟨dx1, h2⟩, ps1, ts1, _⟩ := id D1
    walk_at "v"; walk_at "f"
    refine ⟨_, _, rfl, .inl ps1.dc, (by rw [keys_ps]; exact sortb_str _), fun sl hsl => ?_⟩
    rw [keys_ps, sortV_str]
    have g2 := g1.trans (Go.new (o := .lst ((sortS (R.map fun p => p.1)).map V.str)) hsl)
    have e2 : upd H1 sl (.lst ((sortS (R.map fun p => p.1)).map V.str)) sl = some (.lst ((sortS (R.map fun p => p.1)).map V.str)) := upd_same
    generalize upd H1 sl (.lst ((sortS (R.map fun p => p.1)).map V.str)) = H2 at g2 e2 ⊢
    have lk : (sortS (R.map fun p => p.1)).length ≤ 1000 := by rw [len_sortS, List.length_map]; exact wf.len
    refine ⟨sl, rfl, ⟨_, SqL.of e2⟩, fun L hL => lc_fold V.str (sortS (R.map fun p => p.1)) rfl walk_itl (fun acc x => if decide (n ∈ lineS R x) = true then acc ++ [x] else acc) []
      (fun acc H' => H' L = some (.lst (acc.map V.str)) ∧ Go (TL K) (TG K) (fun a => a = L) H2 H') ⟨upd_same, Go.new hL⟩ (fun acc H' h => SqL.of (h.2.keep _ _ e2 (by intro _ z; cases z) (ne_of_none e2 hL))) ?_ ?_⟩
    · rintro pre x post H3 eb ⟨e3, g3⟩
      rw [fold_filter, List.nil_append] at e3 ⊢
      have lp : pre.length < 1000 := by
        have := congrArg List.length eb
        rw [List.length_append, List.length_cons] at this
        omega
      have l3 := List.length_filter_le (fun x => decide (n ∈ lineS R x)) pre
      generalize pre.filter (fun x => decide (n ∈ lineS R x)) = acc at e3 l3 ⊢
      have hx : x ∈ R.map fun p => p.1 := mem_sortS.mp (by rw [eb]; simp)
      obtain ⟨y, ey⟩ := lookK hx
      have g3' := g2.wide.trans g3
      have fL : H L = none := g2.free L hL
      have D3 : MainsAt (CMns K) H3 m d e M R T' pa := D.go (g3'.drop (S' := fun _ => False) fun b z => .inr (by rw [z]; exact fL)) id id id (fun _ _ => id)
      obtain ⟨⟨dx3, h3⟩, ps3, ts3, _⟩ := id D3
      refine ⟨rfl, ?_⟩
      walk_at "v"; walk_at "v"
      refine ⟨_, _, _, rfl, h3, rfl, ?_⟩
      walk_at "v"
      refine ⟨m, d, e, M, R, T', pa, x, rfl, D3, wf, fun z => absurd (z.symm.trans ey) (by intro z; cases z), fun l2 hl2 p2 H4 hp2 hp21 g4 => ?_⟩
      have hln : lineS R x = l2 := lineS_eq hl2
      refine ⟨p2, _, rfl, .inr (SqT.of hp21), rfl, flat_strs _, _, rfl, ?_⟩
      rw [inV_str, hln]
      show if decide (n ∈ l2) = true then _ else _
      have e4 := g4.get e3
      by_cases z : n ∈ l2
      · refine iteT' (decide_eq_true z) ?_
        walk_at "v"
        refine ⟨_, e4, (by rw [List.length_map]; exact Nat.lt_of_lt_of_le (show acc.length < 1000 by omega) (by decide)), ?_, g3.trans (g4.wide.trans (Go.set e4 plain_lst rfl))⟩
        rw [upd_same, if_pos (decide_eq_true z), List.map_append]
        rfl
      · refine iteF' (decide_eq_false z) ⟨?_, g3.trans g4.wide⟩
        rw [if_neg (by rw [decide_eq_false z]; decide)]
        exact e4
    rintro H3 ⟨e3, g3⟩
    rw [fold_filter, List.nil_append] at e3
    have e3 : H3 L = some (.lst ((goneS R n).map V.str)) := e3
    have fL : H L = none := g2.free L hL
    have g3' : Go (TL K) (TG K) (fun _ => False) H H3 := (g2.wide.trans g3).drop fun b z => .inr (by rw [z]; exact fL)
    have D3 := D.go g3' id id id (fun _ _ => id)
    have lg : (goneS R n).length ≤ 1000 := Nat.le_trans (List.length_filter_le _ _) lk
    have nLe : L ≠ e := (ne_of_none ts fL).symm
    have nLm : L ≠ m := (ne_of_none h1 fL).symm
    generalize goneS R n = gone at k2 e3 lg
    walk_at "v"
    refine ⟨L, rfl, ⟨_, SqL.of e3⟩, for_fold V.str gone rfl walk_itl (fun T y => T.filter fun p => decide (p.1 ≠ y)) T'
      (fun T σ H' => (∃ x3, σ = [some (.ref m), some (.str n), some (.ref L), x3]) ∧ MainsAt (CMns K) H' m d e M R T pa ∧ Go (TL K) (TG K) (fun a => a = e) H3 H') ⟨⟨_, rfl⟩, D3, .refl⟩ (fun _ σ H' h => SqL.of (h.2.2.keep _ _ e3 (by intro _ z; cases z) nLe)) ?_ ?_⟩
    · rintro pre y post σ H4 eb ⟨⟨x3, rfl⟩, D4, g4⟩
      generalize pre.foldl (fun T y => T.filter fun p => decide (p.1 ≠ y)) T' = T2 at D4 ⊢
      obtain ⟨⟨dx4, h4⟩, ps4, ts4, _⟩ := id D4
      walk_at "v"; walk_at "f"
      refine ⟨e, rfl, .inl ⟨_, .inl ts4⟩, ?_⟩
      walk_at "v"
      refine ⟨_, Sum.inr y, ts4, rfl, fun v ev => ?_, fun ev => ?_⟩
      · rw [dropK_T]
        exact ⟨⟨_, rfl⟩, D4.taps _, g4.trans (Go.set ts4 plain_dK rfl)⟩
      · have : (T2.filter fun p => decide (p.1 ≠ y)) = T2 := List.filter_eq_self.mpr fun p hp => by
          rw [val_lookT] at ev
          have en : T2.lookup y = none := by
            cases eq : T2.lookup y with
            | none => rfl
            | some z => rw [eq] at ev; cases ev
          exact decide_eq_true fun z => lookN en (List.mem_map.mpr ⟨p, hp, z⟩)
        rw [this]
        exact ⟨⟨_, rfl⟩, D4, g4⟩
    rintro σ H4 ⟨⟨x3, rfl⟩, D4, g4⟩
    rw [cut_fold] at D4
    have e4 := g4.keep _ _ e3 (by intro _ z; cases z) nLe
    obtain ⟨⟨dx4, h4⟩, ps4, ts4, _⟩ := id D4
    have g4' : Go (TL K) (TG K) (fun a => a = m ∨ a = e) H H4 := g3'.wide.trans (g4.mono fun _ z => .inr z)
    refine ⟨d, _, ps4.dc, trivial, fun od => ?_⟩
    have nmd : m ≠ d := ne_of h4 ps4.dc (by intro z; cases z)
    have nLd : L ≠ d := ne_of e4 ps4.dc (by intro z; cases z)
    walk_at "v"
    refine ⟨_, _, _, _, _, rfl, (by rw [upd_ne nmd]; exact h4), T.cl_Mains, T.no_Mains_pipes, rfl, ?_⟩
    have wk := walk_keysV (d := d) (o := od) (kvs := R.map fun p => ((Sum.inr p.1 : Key), V.ref (pa p.1)))
    rw [keys_ps] at wk
    refine ⟨d, od, rfl, .inl ⟨_, upd_same, fun D' hD' => ?_⟩⟩
    have nDd : D' ≠ d := fun z => by rw [z, upd_same] at hD'; cases hD'
    have hD0 : H4 D' = none := by rw [upd_ne nDd] at hD'; exact hD'
    have nmD : m ≠ D' := ne_of_none h4 hD0
    have nLD : L ≠ D' := ne_of_none e4 hD0
    refine dc_fold V.str (R.map fun p => p.1) (by rw [List.length_map, List.length_map]) wk (fun pre H' => H' = upd (upd H4 d (.frz od (.dK (R.map fun p => (Sum.inr p.1, V.ref (pa p.1)))))) D' (.dK (kvR (pre.filter fun x => !decide (x ∈ gone)) pa))) rfl (fun pre H' h' => by rw [h', upd_ne nDd.symm]; exact upd_same) ?_ ?_
    · rintro pre x post H' eb rfl
      have lp : (pre.filter fun x => !decide (x ∈ gone)).length < sizeLine := by
        have h1 := congrArg List.length eb
        rw [List.length_map, List.length_append, List.length_cons] at h1
        have h2 := List.length_filter_le (fun x => !decide (x ∈ gone)) pre
        have h3 := wf.len
        exact Nat.lt_of_lt_of_le (show _ < 1000 by omega) (by decide)
      have hx : x ∈ R.map fun p => p.1 := by rw [eb]; simp
      obtain ⟨y, ey⟩ := lookK hx
      have nx : x ∉ pre.filter fun x => !decide (x ∈ gone) := fun z => by
        have nd := wf.nd
        rw [eb, List.nodup_append] at nd
        exact nd.2.2 x (List.mem_filter.mp z).1 x List.mem_cons_self rfl
      refine ⟨rfl, ?_⟩
      walk_at "v"; walk_at "v"
      refine ⟨L, _, rfl, .inl (SqL.of (by rw [upd_ne nLD, upd_ne nLd]; exact e4)), rfl, flat_strs _, _, rfl, ?_⟩
      rw [inV_str]
      show if (!decide (x ∈ gone)) = true then _ else _
      by_cases z : x ∈ gone
      · refine iteF' (by rw [decide_eq_true z] <;> rfl) ?_
        rw [List.filter_append, List.filter_cons, if_neg (by rw [decide_eq_true z]; decide), List.filter_nil, List.append_nil]
      · refine iteT' (by rw [decide_eq_false z] <;> rfl) ?_
        walk_at "v"; walk_at "v"
        refine ⟨_, _, _, _, _, rfl, (by rw [upd_ne nmD, upd_ne nmd]; exact h4), T.cl_Mains, T.no_Mains_pipes, rfl, ?_⟩
        walk_at "v"
        have eg : DGet (upd (upd H4 d (.frz od (.dK (R.map fun p => (Sum.inr p.1, V.ref (pa p.1)))))) D' (.dK (kvR (pre.filter fun x => !decide (x ∈ gone)) pa))) d (.str x) (some (.ref (pa x))) := by
          refine .inl ⟨_, Sum.inr x, .inr ⟨od, by rw [upd_ne nDd.symm]; exact upd_same⟩, rfl, ?_⟩
          rw [val_lookR, ey] <;> rfl
        refine ⟨_, _, rfl, eg, ?_⟩
        refine ⟨_, Sum.inr x, rfl, upd_same, (by rw [List.length_map]; exact lp), ?_⟩
        rw [upd_upd, put_kvR nx, List.filter_append, List.filter_cons, if_pos (by rw [decide_eq_false z] <;> rfl), List.filter_nil]
    rintro H' rfl
    refine ⟨by rw [upd_ne nDd.symm]; exact upd_same, ?_⟩
    rw [kvR_cut]
    have eH : upd (upd (upd H4 d (.frz od (.dK (R.map fun p => (Sum.inr p.1, V.ref (pa p.1)))))) D' (.dK ((cutP gone R).map fun p => ((Sum.inr p.1 : Key), V.ref (pa p.1))))) d (.dK (R.map fun p => (Sum.inr p.1, V.ref (pa p.1)))) = upd H4 D' (.dK ((cutP gone R).map fun p => ((Sum.inr p.1 : Key), V.ref (pa p.1)))) := by
      funext b
      by_cases z : b = d
      · rw [z, upd_same, upd_ne nDd.symm]
        exact ps4.dc.symm
      · rw [upd_ne z]
        by_cases y : b = D'
        · rw [y, upd_same, upd_same]
        · rw [upd_ne y, upd_ne z, upd_ne y]
    rw [eH]
    clear eH
    have g5 := g4'.trans (Go.new (o := .dK ((cutP gone R).map fun p => ((Sum.inr p.1 : Key), V.ref (pa p.1)))) hD0)
    have e5 : upd H4 D' (.dK ((cutP gone R).map fun p => ((Sum.inr p.1 : Key), V.ref (pa p.1)))) D' = some (.dK ((cutP gone R).map fun p => ((Sum.inr p.1 : Key), V.ref (pa p.1)))) := upd_same
    have k5 : ∀ b u, H4 b = some u → upd H4 D' (.dK ((cutP gone R).map fun p => ((Sum.inr p.1 : Key), V.ref (pa p.1)))) b = some u := fun b u eb => by rw [upd_ne (ne_of_none eb hD0)]; exact eb
    have fD : H D' = none := g4'.free D' hD0
    have neD : D' ≠ e := (ne_of_none ts4 hD0).symm
    generalize upd H4 D' (.dK ((cutP gone R).map fun p => ((Sum.inr p.1 : Key), V.ref (pa p.1)))) = H5 at g5 e5 k5 ⊢
    have h5 := k5 _ _ h4
    walk_at "v"
    refine ⟨_, _, _, _, rfl, h5, T.cl_Mains, T.no_Mains_pipes, (by show 6 < 1000; decide), ?_⟩
    walk_at "v"
    have g6 := g5.trans (Go.set (o := .ins (CMns K) dx4 (mfs M D' e)) h5 plain_ins (.inl rfl))
    have nLm' : L ≠ m := nLm
    have e6 : upd H5 m (.ins (CMns K) dx4 (mfs M D' e)) L = some (.lst (gone.map V.str)) := by rw [upd_ne nLm']; exact k5 _ _ e4
    have D6 : MainsAt (CMns K) (upd H5 m (.ins (CMns K) dx4 (mfs M D' e))) m D' e M (cutP gone R) (cutP gone T') pa := by
      refine ⟨⟨dx4, upd_same⟩, ⟨by rw [upd_ne nmD.symm]; exact e5, fun p hp => ?_⟩, by rw [upd_ne (ne_of ts4 h4 (by intro z; cases z))]; exact k5 _ _ ts4, neD⟩
      have hp' := (List.mem_filter.mp hp).1
      rw [upd_ne (ne_of (ps4.row p hp') h4 (by intro z; cases z))]
      exact k5 _ _ (ps4.row p hp')
    refine ⟨L, _, rfl, .inl ⟨SqL.of e6, fun p hp => ?_⟩⟩
    have fp : H p = none := g6.free p hp
    exact k2 p D' _ fp fD upd_same (D6.go (Go.new (TL := TL K) (TG := TG K) (S := fun _ => False) hp) id id id fun _ _ => id) (g6.trans (Go.new hp))
end
end K2
namespace K2
open PySem PySem.Spec PyProof.Rows L2 Fy
open GxR (TabG Tabbed)
theorem cut_take {xs : List V} {k : Nat} : cutV xs none (some (k : Int)) = xs.take k := by
  unfold cutV
  rw [HT.sIx_nat, HT.sIx_none, List.drop_zero, Nat.sub_zero]
  rcases Nat.le_total k xs.length with h | h
  · rw [Nat.min_eq_left h]
  · rw [Nat.min_eq_right h, List.take_of_length_le h, List.take_length]
structure Dice where
  a : Int
  b : Int
  c : Int
def dvals (D : Dice) : List V := [.int D.a, .int D.b, .int D.c]
def dice0 (z : Int) : Dice := if -10 < z ∧ z < 10 then ⟨if z < 0 then -z else z, 0, 2⟩ else ⟨z, 1 + z % 1009, if 1000000000000000000 ≤ z then 1 else 0⟩
def easy (D : Dice) : Bool := decide (D.c = 2) || (decide (D.c = 1) && decide (0 < D.a))
def rollD (D : Dice) (m : Int) : Dice := if easy D = true then { D with a := D.a / m } else ⟨(D.a * 48271 + D.b * 69621 + 11) % 2147483647, D.b + 1, 0⟩
def rollV (D : Dice) (m : Int) : Int := if easy D = true then D.a % m else (D.a * 48271 + D.b * 69621 + 11) % 2147483647 / 7 % m
def sp_law_dice (K : PySem.W.Frag) : Sp := fun vs H Q _ => ∃ z : Int, vs = [.int z] ∧ ∀ p, H p = none → Q (.ref p) (upd H p (.lst (dvals (dice0 z))))
def sp_law_roll (K : PySem.W.Frag) : Sp := fun vs H Q _ => ∃ (da : Addr) (D : Dice) (m : Int), vs = [.ref da, .int m] ∧ H da = some (.lst (dvals D)) ∧ 0 < m ∧ m ≤ 100000000 ∧ Q (.int (rollV D m)) (upd H da (.lst (dvals (rollD D m))))
def cell1 (ns : List Int) : Int := ns.headD 0
def sp_law_rounds (K : PySem.W.Frag) : Sp := fun vs H Q _ => ∃ (sa : Addr) (ns : List Int), vs = [.ref sa, .int 1] ∧ SqL K H sa (ns.map V.int) ∧ ∀ p q H', H' p = some (.lst [.ref q]) → H' q = some (.lst (dvals (dice0 (cell1 ns)))) → p ≠ q → H q = none → Go (TL K) (TG K) (fun _ => False) H H' → Q (.ref p) H'
section
variable {P : Program} {w : World} {K : PySem.W.Frag} {mg : Str → Option Value} {base : Heap}
abbrev N_law_dice : List Str := ["cell"]
theorem sc_law_dice : FnScope N_law_dice ["cell"] d_law_dice.scope := ⟨rfl, rfl, rfl, by decide +kernel, rfl, by decide +kernel, by decide +kernel⟩
theorem ok_law_dice (T : Txt K mg base) : Good P w K mg base 1 (He.fAd K d_law_dice.at_) ["cell"] [] (sp_law_dice K) := by
  refine good_of0 T.fn_law_dice sc_law_dice rfl rfl (fun _ _ _ _ _ _ us hl => match us, hl with | [_], _ => rfl) (fun vs H Q E h => ?_) (fun A outer s H vs Q E hr h => ?_)
  · obtain ⟨z, rfl, _⟩ := h
    rfl
  · obtain ⟨z, rfl, h⟩ := h
    refine ⟨_, (pss_cons (ps_if (pt_chain op_lt op_lt (pe_op op_sub pe_int pe_int) (pv 0) pe_int) (pss_one (ps_ret (pe_lst (pa_cons (pe_callB call_abs (by rfl) T.fr_abs (by decide +kernel) (pa_cons (pv 0) pa_nil)) (pa_cons pe_int (pa_cons pe_int pa_nil)))))) pss_nil)
    (pss_one (ps_ret (pe_lst (pa_cons (pv 0) (pa_cons (pe_op op_add pe_int (pe_op op_mod (pe_callTy call_int1 (by rfl) T.fr_int (by decide +kernel) (pa_cons (pv 0) pa_nil)) pe_int)) (pa_cons (pe_callTy call_int1 (by rfl) T.fr_int (by decide +kernel) (pa_cons (pe_cmpR op_ge (pv 0) (pe_op op_pow pe_int pe_int) (nomark _)) pa_nil)) pa_nil))))))), ?_⟩
    have e10 : (0 : Int) - 10 = -10 := rfl
    have hno : (¬ (-10 < z ∧ z < 10)) → tRet (tLst (tCons (tVar 0) (tCons (tOp (rI0 fun i j => V.int (i + j)) (tC (V.int 1)) (tOp (rI (fun _ j => 0 < j) fun i j => V.int (i % j)) (tCB (fun xs H Q => (∃ i, xs = [V.int i] ∧ Q (V.int i) H) ∨ ∃ k, xs = [V.bl k] ∧ Q (V.int (if k = true then 1 else 0)) H) (tCons (tVar 0) tNil)) (tC (V.int 1009)))) (tCons (tCB (fun xs H Q => (∃ i, xs = [V.int i] ∧ Q (V.int i) H) ∨ ∃ k, xs = [V.bl k] ∧ Q (V.int (if k = true then 1 else 0)) H) (tCons (tOp (rI0 fun i j => V.bl (decide (j ≤ i))) (tVar 0) (tOp (rI CPow fun i j => V.int (i ^ j.toNat)) (tC (V.int 10)) (tC (V.int 18)))) tNil)) tNil)))) { nx := fun _ H' => Q V.non H', rt := Q } [some (V.int z)] H := fun hz => by
      walk_at "v"; walk_at "v"
      refine .inl ⟨_, rfl, ?_⟩
      refine ⟨_, _, rfl, rfl, (by show (0 : Int) < 1009; decide), ?_⟩
      refine ⟨_, _, rfl, rfl, ?_⟩
      walk_at "v"
      refine ⟨_, _, rfl, rfl, ⟨(by decide), (by decide), (by decide)⟩, ?_⟩
      refine ⟨_, _, rfl, rfl, ?_⟩
      refine .inr ⟨_, rfl, ?_⟩
      refine ⟨(by show 3 ≤ sizeLine; decide), fun p hp => ?_⟩
      have e : dvals (dice0 z) = [V.int z, V.int (1 + z % 1009), V.int (if decide ((10 : Int) ^ (18 : Int).toNat ≤ z) = true then 1 else 0)] := by
        unfold dice0
        rw [if_neg hz]
        have : (10 : Int) ^ (18 : Int).toNat = 1000000000000000000 := by decide
        rw [this]
        unfold dvals
        by_cases y : (1000000000000000000 : Int) ≤ z
        · rw [if_pos y, if_pos (decide_eq_true y)]
        · rw [if_neg y, if_neg (by simpa using y)]
      have q := h p hp
      rw [e] at q
      exact q
    walk_at "go"
    refine ite2 (fun y1 => ?_) (fun y1 => ?_)
    · walk_at "go"
      refine ite2 (fun y2 => ?_) (fun y2 => ?_)
      · walk_at "v"
        refine ⟨_, rfl, ?_⟩
        refine ⟨(by show 3 ≤ sizeLine; decide), fun p hp => ?_⟩
        have q := h p hp
        unfold dice0 at q
        have z1 : -10 < z := of_decide_eq_true y1
        have z2 : z < 10 := of_decide_eq_true y2
        rw [if_pos ⟨z1, z2⟩] at q
        exact q
      · exact hno fun y => y2 (decide_eq_true y.2)
    · exact ⟨_, rfl, iteF (hno fun y => y1 (decide_eq_true y.1))⟩
abbrev N_law_roll : List Str := ["dice", "many", "found"]
theorem sc_law_roll : FnScope N_law_roll ["dice", "many"] d_law_roll.scope := ⟨rfl, rfl, rfl, by decide +kernel, rfl, by decide +kernel, by decide +kernel⟩
theorem ok_law_roll (T : Txt K mg base) : Good P w K mg base 1 (He.fAd K d_law_roll.at_) ["dice", "many"] [] (sp_law_roll K) := by
  refine good_of0 T.fn_law_roll sc_law_roll rfl rfl (fun _ _ _ _ _ _ us hl => match us, hl with | [_, _], _ => rfl) (fun vs H Q E h => ?_) (fun A outer s H vs Q E hr h => ?_)
  · obtain ⟨da, D, m, rfl, _⟩ := h
    rfl
  · obtain ⟨da, D, m, rfl, h⟩ := h
    refine ⟨_, (pss_cons (ps_if (PW.pt (pw_or (pt_cmpR op_eq (pe_ix ix_list (pv 0) pe_int (fun _ _ => rfl)) pe_int (nomark _)) (pw_or1 (PW.pt (pw_and (pt_cmpR op_eq (pe_ix ix_list (pv 0) pe_int (fun _ _ => rfl)) pe_int (nomark _)) (pw_and1 (pt_cmpR op_gt (pe_ix ix_list (pv 0) pe_int (fun _ _ => rfl)) pe_int (nomark _)))))))) (pss_cons (ps_set (i := 2) sc_law_roll.nd rfl (by first | exact Or.inl rfl | exact Or.inr rfl) (pe_op op_mod (pe_callTy call_int1 (by rfl) T.fr_int (by decide +kernel) (pa_cons (pe_ix ix_list (pv 0) pe_int (fun _ _ => rfl)) pa_nil)) (pv 1)))
      (pss_cons (ps_asg (pe_op op_fdiv (pe_ix ix_list (pv 0) pe_int (fun _ _ => rfl)) (pv 1)) (pg_sub (pv 0) pe_int set_list))
      (pss_one (ps_ret (pv 2))))) pss_nil)
    (pss_cons (ps_asg pe_int (pg_sub (pv 0) pe_int set_list))
    (pss_cons (ps_if (pt_cmpR op_gt (pv 1) pe_int (nomark _)) pss_dead pss_nil)
    (pss_cons (ps_asg (pe_op op_mod (pe_callTy call_int1 (by rfl) T.fr_int (by decide +kernel) (pa_cons (pe_op op_add (pe_op op_add (pe_op op_mul (pe_ix ix_list (pv 0) pe_int (fun _ _ => rfl)) pe_int) (pe_op op_mul (pe_ix ix_list (pv 0) pe_int (fun _ _ => rfl)) pe_int)) pe_int) pa_nil)) pe_int) (pg_sub (pv 0) pe_int set_list))
    (pss_cons (ps_asg (pe_op op_add (pe_ix ix_list (pv 0) pe_int (fun _ _ => rfl)) pe_int) (pg_sub (pv 0) pe_int set_list))
    (pss_one (ps_ret (pe_op op_mod (pe_callTy call_int1 (by rfl) T.fr_int (by decide +kernel) (pa_cons (pe_op op_fdiv (pe_ix ix_list (pv 0) pe_int (fun _ _ => rfl)) pe_int) pa_nil)) (pv 1))))))))), ?_⟩
    obtain ⟨hd, hm1, hm2, k⟩ := h
    have kE : easy D = true → Q (.int (D.a % m)) (upd H da (.lst [.int (D.a / m), .int D.b, .int D.c])) := fun e => by
      unfold rollV rollD at k
      rw [if_pos e, if_pos e] at k
      exact k
    have kN : ¬ easy D = true → Q (.int ((D.a * 48271 + D.b * 69621 + 11) % 2147483647 / 7 % m)) (upd H da (.lst [.int ((D.a * 48271 + D.b * 69621 + 11) % 2147483647), .int (D.b + 1), .int 0])) := fun e => by
      unfold rollV rollD at k
      rw [if_neg e, if_neg e] at k
      exact k
    walk_at "v"
    refine ⟨_, _, _, _, rfl, rfl, SqL.of hd, rfl, ?_⟩
    walk_at "go"
    refine ite2 (fun z => ?_) (fun z => ?_)
    · have ee : easy D = true := by
        have : D.c = 2 := V.int.inj (of_decide_eq_true z)
        simp [easy, this]
      refine iteT ?_
      walk_at "v"
      refine ⟨_, _, _, _, rfl, rfl, SqL.of hd, rfl, ?_⟩
      refine .inl ⟨_, rfl, ?_⟩
      walk_at "v"
      refine ⟨_, _, rfl, rfl, hm1, ?_⟩
      walk_at "v"
      refine ⟨_, _, _, _, rfl, rfl, SqL.of hd, rfl, ?_⟩
      walk_at "v"
      refine ⟨_, _, rfl, rfl, ⟨hm1, by omega⟩, ?_⟩
      walk_at "v"
      refine ⟨_, _, _, 0, rfl, rfl, hd, rfl, ?_⟩
      walk_at "v"
      exact kE ee
    · have z1 : ¬ D.c = 2 := fun y => z (decide_eq_true (by rw [y]))
      walk_at "v"
      refine ⟨_, _, _, _, rfl, rfl, SqL.of hd, rfl, ?_⟩
      walk_at "go"
      refine ite2 (fun y => ?_) (fun y => ?_)
      · have y1 : D.c = 1 := V.int.inj (of_decide_eq_true y)
        walk_at "v"
        refine ⟨_, _, _, _, rfl, rfl, SqL.of hd, rfl, ?_⟩
        walk_at "go"
        refine ite2 (fun x => ?_) (fun x => ?_)
        · have ee : easy D = true := by
            have : 0 < D.a := of_decide_eq_true x
            simp [easy, y1, this]
          walk_at "v"
          refine ⟨_, _, _, _, rfl, rfl, SqL.of hd, rfl, ?_⟩
          refine .inl ⟨_, rfl, ?_⟩
          walk_at "v"
          refine ⟨_, _, rfl, rfl, hm1, ?_⟩
          walk_at "v"
          refine ⟨_, _, _, _, rfl, rfl, SqL.of hd, rfl, ?_⟩
          walk_at "v"
          refine ⟨_, _, rfl, rfl, ⟨hm1, by omega⟩, ?_⟩
          walk_at "v"
          refine ⟨_, _, _, 0, rfl, rfl, hd, rfl, ?_⟩
          walk_at "v"
          exact kE ee
        · have ee : ¬ easy D = true := by
            have : ¬ 0 < D.a := fun q => x (decide_eq_true q)
            simp [easy, y1, this]
          walk_at "v"
          refine ⟨_, _, _, 2, rfl, rfl, hd, rfl, ?_⟩
          walk_at "go"
          refine ite2 (fun y => absurd (of_decide_eq_true y) (by omega)) (fun y => ?_)
          walk_at "v"
          refine ⟨_, _, _, _, rfl, rfl, SqL.of upd_same, rfl, ?_⟩
          refine ⟨_, _, rfl, rfl, .inr ⟨by decide, by decide⟩, ?_⟩
          walk_at "v"
          refine ⟨_, _, _, _, rfl, rfl, SqL.of upd_same, rfl, ?_⟩
          refine ⟨_, _, rfl, rfl, .inr ⟨by decide, by decide⟩, ?_⟩
          walk_at "go"
          refine .inl ⟨_, rfl, ?_⟩
          refine ⟨_, _, rfl, rfl, (by show (0 : Int) < 2147483647; decide), ?_⟩
          walk_at "v"
          refine ⟨_, _, _, 0, rfl, rfl, upd_same, rfl, ?_⟩
          walk_at "v"
          refine ⟨_, _, _, _, rfl, rfl, SqL.of upd_same, rfl, ?_⟩
          walk_at "go"
          refine ⟨_, _, _, 1, rfl, rfl, upd_same, rfl, ?_⟩
          walk_at "v"
          refine ⟨_, _, _, _, rfl, rfl, SqL.of upd_same, rfl, ?_⟩
          refine ⟨_, _, rfl, rfl, ⟨by decide, by decide⟩, ?_⟩
          refine .inl ⟨_, rfl, ?_⟩
          walk_at "v"
          refine ⟨_, _, rfl, rfl, hm1, ?_⟩
          rw [upd_upd, upd_upd]
          exact kN ee
      · have ee : ¬ easy D = true := by
          have : ¬ D.c = 1 := fun q => y (decide_eq_true (by rw [q]))
          simp [easy, z1, this]
        refine iteF ?_
        walk_at "v"
        refine ⟨_, _, _, 2, rfl, rfl, hd, rfl, ?_⟩
        walk_at "go"
        refine ite2 (fun y => absurd (of_decide_eq_true y) (by omega)) (fun y => ?_)
        walk_at "v"
        refine ⟨_, _, _, _, rfl, rfl, SqL.of upd_same, rfl, ?_⟩
        refine ⟨_, _, rfl, rfl, .inr ⟨by decide, by decide⟩, ?_⟩
        walk_at "v"
        refine ⟨_, _, _, _, rfl, rfl, SqL.of upd_same, rfl, ?_⟩
        refine ⟨_, _, rfl, rfl, .inr ⟨by decide, by decide⟩, ?_⟩
        walk_at "go"
        refine .inl ⟨_, rfl, ?_⟩
        refine ⟨_, _, rfl, rfl, (by show (0 : Int) < 2147483647; decide), ?_⟩
        walk_at "v"
        refine ⟨_, _, _, 0, rfl, rfl, upd_same, rfl, ?_⟩
        walk_at "v"
        refine ⟨_, _, _, _, rfl, rfl, SqL.of upd_same, rfl, ?_⟩
        walk_at "go"
        refine ⟨_, _, _, 1, rfl, rfl, upd_same, rfl, ?_⟩
        walk_at "v"
        refine ⟨_, _, _, _, rfl, rfl, SqL.of upd_same, rfl, ?_⟩
        refine ⟨_, _, rfl, rfl, ⟨by decide, by decide⟩, ?_⟩
        refine .inl ⟨_, rfl, ?_⟩
        walk_at "v"
        refine ⟨_, _, rfl, rfl, hm1, ?_⟩
        rw [upd_upd, upd_upd]
        exact kN ee
abbrev N_law_rounds : List Str := ["script", "most", "cells", "cell"]
theorem sc_law_rounds : FnScope N_law_rounds ["script", "most"] d_law_rounds.scope := ⟨rfl, rfl, rfl, by decide +kernel, rfl, by decide +kernel, by decide +kernel⟩
theorem ok_law_rounds (T : Txt K mg base) : Good P w K mg base 2 (He.fAd K d_law_rounds.at_) ["script", "most"] [] (sp_law_rounds K) := by
  refine good_of0 T.fn_law_rounds sc_law_rounds rfl rfl (fun _ _ _ _ _ _ us hl => match us, hl with | [_, _], _ => rfl) (fun vs H Q E h => ?_) (fun A outer s H vs Q E hr h => ?_)
  · obtain ⟨sa, ns, rfl, _⟩ := h
    rfl
  · obtain ⟨sa, ns, rfl, h⟩ := h
    refine ⟨_, (pss_cons (ps_set (i := 2) sc_law_rounds.nd rfl (by first | exact Or.inl rfl | exact Or.inr rfl) (pe_slice sl_list (pv 0) po_none (po_some (pv 1))))
    (pss_cons (ps_if (pt_cmpR (op_eqD hr.units) (pv 2) (pe_lst pa_nil) (nomark _)) (pss_one (ps_set (i := 2) sc_law_rounds.nd rfl (by first | exact Or.inl rfl | exact Or.inr rfl) (pe_lst (pa_cons pe_int pa_nil)))) pss_nil)
    (pss_one (ps_ret (pe_lc (own := [("cell", 3)]) (g := gName 3) (tt := tYes) rfl sc_law_rounds.nd (pi_list (pv 2)) (blkOk_by (own := [("cell", 3)]) (N := N_law_rounds) (sc := d_law_rounds.scope) (by decide +kernel)) (fun _ _ _ _ _ => (pg_name (i := 3) sc_law_rounds.nd rfl (by first | exact Or.inl rfl | exact Or.inr rfl))) (fun _ _ _ _ _ => pts_nil) (fun _ _ _ _ _ => (pg_call (ok_law_dice T) (hr.mono (by decide)) rfl T.gl_law_dice passL (pa_cons (pv 3) pa_nil)))))))), ?_⟩
    obtain ⟨hs, k⟩ := h
    walk_at "v"; walk_at "v"
    refine ⟨_, rfl, sa, _, rfl, hs, fun ca hca => ?_⟩
    have ec : cutV (ns.map V.int) none (some 1) = (ns.take 1).map V.int := by
      rw [show (1 : Int) = ((1 : Nat) : Int) from rfl, cut_take, List.map_take]
    rw [ec]
    walk_at "v"
    refine ⟨(by decide), fun ea hea => ?_⟩
    have g0 : Go (TL K) (TG K) (fun _ => False) H (upd (upd H ca (.lst ((ns.take 1).map V.int))) ea (.lst [])) := (Go.new hca).trans (Go.new hea)
    have e1 : upd (upd H ca (.lst ((ns.take 1).map V.int))) ea (.lst []) ca = some (.lst ((ns.take 1).map V.int)) := by
      rw [upd_ne (ne_of_none upd_same hea), upd_same]
    have e2 : upd (upd H ca (.lst ((ns.take 1).map V.int))) ea (.lst []) ea = some (.lst []) := upd_same
    generalize upd (upd H ca (.lst ((ns.take 1).map V.int))) ea (.lst []) = H1 at g0 e1 e2 ⊢
    have se : SeqAt.shaped (PyData.list []) = true := PySem.W.shaped_ints []
    match ns, e1, k with
    | [], e1, k =>
      refine ⟨.list [], .list [], .lst (SqL.of e1) .nil, .lst (SqL.of e2) .nil, se, se, ?_⟩
      rw [eqv_same se]
      refine ⟨_, rfl, iteT ?_⟩
      refine ⟨(by show 1 ≤ sizeLine; decide), fun cb hcb => ?_⟩
      have g1 := g0.trans (Go.new (o := .lst [.int 0]) hcb)
      have e3 : upd H1 cb (.lst [.int 0]) cb = some (.lst [.int (cell1 [])]) := upd_same
      generalize upd H1 cb (.lst [.int 0]) = H2 at g1 e3 ⊢
      walk_at "v"
      refine ⟨cb, rfl, ⟨_, SqL.of e3⟩, fun D hD => lc_fold V.int [(cell1 [])] rfl walk_itl (fun _ _ => true) false
        (fun st H' => Go (TL K) (TG K) (fun a => a = D) H2 H' ∧ if st = true then ∃ q, H' D = some (.lst [.ref q]) ∧ H' q = some (.lst (dvals (dice0 (cell1 [])))) ∧ D ≠ q ∧ H q = none else H' D = some (.lst []))
        ⟨Go.new hD, upd_same⟩ (fun st H' h => SqL.of (h.1.keep _ _ e3 (by intro _ z; cases z) (ne_of_none e3 hD))) ?_ ?_⟩
      · intro pre y post H' ey h
        have ep : pre = [] := by
          cases pre with
          | nil => rfl
          | cons _ t => exact absurd (congrArg List.length ey) (by simp)
        subst ep
        injection ey with ey _
        subst ey
        obtain ⟨g3, eD⟩ := h
        have eD' : H' D = some (.lst []) := eD
        refine ⟨rfl, ?_⟩
        refine tYes_ok ?_
        walk_at "v"
        refine ⟨_, rfl, fun p hp => ⟨[], by rw [upd_ne (ne_of_none eD' hp)]; exact eD', (by decide), ?_⟩⟩
        have nDp : D ≠ p := ne_of_none eD' hp
        refine ⟨(g3.trans (Go.new hp)).trans (Go.set (by rw [upd_ne nDp]; exact eD') plain_lst rfl), p, upd_same, by rw [upd_ne nDp.symm]; exact upd_same, nDp, g1.free p (g3.free p hp)⟩
      · rintro H' ⟨g3, q, e4, e5, nq, fq⟩
        exact k D q H' e4 e5 nq fq ((g1.wide (S := fun a => a = D)).trans g3 |>.drop fun b e => .inr (by rw [e]; exact g1.free D hD))
    | z :: r, e1, k =>
      have sz : SeqAt.shaped (PyData.list [PyData.int z]) = true := PySem.W.shaped_ints [z]
      refine ⟨.list [.int z], .list [], .lst (SqL.of e1) (.cons (.int z) .nil), .lst (SqL.of e2) .nil, sz, se, ?_⟩
      rw [show PyData.eqv (.list [.int z]) (.list []) = false from rfl]
      refine ⟨_, rfl, iteF ?_⟩
      have g1 := g0
      have e3 : H1 ca = some (.lst [.int (cell1 (z :: r))]) := e1
      generalize H1 = H2 at g1 e3 ⊢
      generalize ca = cb at e3 ⊢
      walk_at "v"
      refine ⟨cb, rfl, ⟨_, SqL.of e3⟩, fun D hD => lc_fold V.int [(cell1 (z :: r))] rfl walk_itl (fun _ _ => true) false
        (fun st H' => Go (TL K) (TG K) (fun a => a = D) H2 H' ∧ if st = true then ∃ q, H' D = some (.lst [.ref q]) ∧ H' q = some (.lst (dvals (dice0 (cell1 (z :: r))))) ∧ D ≠ q ∧ H q = none else H' D = some (.lst []))
        ⟨Go.new hD, upd_same⟩ (fun st H' h => SqL.of (h.1.keep _ _ e3 (by intro _ z; cases z) (ne_of_none e3 hD))) ?_ ?_⟩
      · intro pre y post H' ey h
        have ep : pre = [] := by
          cases pre with
          | nil => rfl
          | cons _ t => exact absurd (congrArg List.length ey) (by simp)
        subst ep
        injection ey with ey _
        subst ey
        obtain ⟨g3, eD⟩ := h
        have eD' : H' D = some (.lst []) := eD
        refine ⟨rfl, ?_⟩
        refine tYes_ok ?_
        walk_at "v"
        refine ⟨_, rfl, fun p hp => ⟨[], by rw [upd_ne (ne_of_none eD' hp)]; exact eD', (by decide), ?_⟩⟩
        have nDp : D ≠ p := ne_of_none eD' hp
        refine ⟨(g3.trans (Go.new hp)).trans (Go.set (by rw [upd_ne nDp]; exact eD') plain_lst rfl), p, upd_same, by rw [upd_ne nDp.symm]; exact upd_same, nDp, g1.free p (g3.free p hp)⟩
      · rintro H' ⟨g3, q, e4, e5, nq, fq⟩
        exact k D q H' e4 e5 nq fq ((g1.wide (S := fun a => a = D)).trans g3 |>.drop fun b e => .inr (by rw [e]; exact g1.free D hD))
end
end K2
namespace K2
open PySem PySem.Spec PyProof.Rows L2 Fy
open GxR (TabG Tabbed)
/-- pipes to be read: the dict may be locked -/
structure PsRd (H : Hp) (d : Addr) (R : Ps) (pa : Str → Addr) : Prop where
  rd : Rd H d (.dK (R.map fun p => (Sum.inr p.1, V.ref (pa p.1))))
  row : ∀ p ∈ R, H (pa p.1) = some (.tup [ov p.2.1, .int p.2.2])
theorem PsAt.rd {H : Hp} {d : Addr} {R : Ps} {pa : Str → Addr} (D : PsAt H d R pa) : PsRd H d R pa := ⟨.inl D.dc, D.row⟩
theorem PsRd.get {H : Hp} {d : Addr} {R : Ps} {pa : Str → Addr} {n : Str} {x : Option Str × Int} (D : PsRd H d R pa) (e : R.lookup n = some x) : DGet H d (.str n) (some (.ref (pa n))) := .inl ⟨_, Sum.inr n, D.rd, rfl, by rw [val_lookR, e] <;> rfl⟩
theorem PsRd.go {TL : List (Addr × Str)} {TG : List Addr} {S : Ad} {H H' : Hp} {d : Addr} {R : Ps} {pa : Str → Addr} (D : PsRd H d R pa) (g : Go TL TG S H H') (sd : ¬ S d) (sa : ∀ p ∈ R, ¬ S (pa p.1)) : PsRd H' d R pa :=
  ⟨Rd.go D.rd g (by intro _ z; cases z) sd, fun p hp => g.keep _ _ (D.row p hp) (by intro _ z; cases z) (sa p hp)⟩
def sp_law_line (K : PySem.W.Frag) : Sp := fun vs H Q E => ∃ (o : Addr) (R : Ps) (qa : Str → Addr) (n : Str), vs = [.ref o, .str n] ∧ PsRd H o R qa ∧ WfP R ∧ (∃ y, R.lookup n = some y) ∧
  (∀ l, Line R (some n) l → ∀ p H', H p = none → H' p = some (.lst (l.map V.str)) → Go (TL K) (TG K) (fun _ => False) H H' → Q (.ref p) H')
def sp_law_flows (K : PySem.W.Frag) : Sp := fun vs H Q E => ∃ (o e : Addr) (R : Ps) (T : Ts) (qa : Str → Addr) (tank : Int), vs = [.ref o, .ref e, .int tank] ∧ PsAt H o R qa ∧ H e = some (.dK (tkv T)) ∧ WfP R ∧ (T.map fun p => p.1).Nodup ∧ T.length ≤ 1000 ∧ (∀ p ∈ T, ∃ y, R.lookup p.1 = some y) ∧
  ∀ p H', H p = none → H' p = some (.dK (kvI (keysT T) (flowsS R T tank).f)) → Go (TL K) (TG K) (fun _ => False) H H' → Q (.ref p) H'
theorem sum_up : ∀ {ks : List Str} (f : Str → Int) {n : Str}, ks.Nodup → n ∈ ks → (ks.map fun m => if m = n then f m + 1 else f m).sum = (ks.map f).sum + 1
  | k :: ks, f, n, nd, h => by
    have nd := List.nodup_cons.mp nd
    rw [List.map_cons, List.map_cons, List.sum_cons, List.sum_cons]
    by_cases e : k = n
    · have : (ks.map fun m => if m = n then f m + 1 else f m) = ks.map f := List.map_congr_left fun m hm => if_neg fun z => nd.1 (by rw [e, ← z]; exact hm)
      rw [this, if_pos e]
      omega
    · rw [if_neg e, sum_up f nd.2 ((List.mem_cons.mp h).resolve_left fun z => e z.symm)]
      omega
theorem sum_zero (ks : List Str) : (ks.map fun _ => (0 : Int)).sum = 0 := by
  induction ks with
  | nil => rfl
  | cons k ks ih => rw [List.map_cons, List.sum_cons, ih] <;> rfl
theorem kvS_I (ks : List Str) (g : Str → Int) : kvS (ks.map fun n => (n, V.int (g n))) = kvI ks g := by
  unfold kvS kvI
  rw [List.map_map]
  rfl
theorem keys_S (ks : List Str) (g : Str → V) : (ks.map fun n => (n, g n)).map (fun p => p.1) = ks := by
  rw [List.map_map]
  exact List.map_id' ks
section
variable {P : Program} {w : World} {K : PySem.W.Frag} {mg : Str → Option Value} {base : Heap}
abbrev N_law_line : List Str := ["pipes", "name", "found"]
theorem sc_law_line : FnScope N_law_line ["pipes", "name"] d_law_line.scope := ⟨rfl, rfl, rfl, by decide +kernel, rfl, by decide +kernel, by decide +kernel⟩
theorem ok_law_line (T : Txt K mg base) : Good P w K mg base 1 (He.fAd K d_law_line.at_) ["pipes", "name"] [] (sp_law_line K) := by
  refine good_of0 T.fn_law_line sc_law_line rfl rfl (fun _ _ _ _ _ _ us hl => match us, hl with | [_, _], _ => rfl) (fun vs H Q E h => ?_) (fun A outer s H vs Q E hr h => ?_)
  · obtain ⟨o, R, qa, n, rfl, _⟩ := h
    rfl
  · obtain ⟨o, R, qa, n, rfl, h⟩ := h
    have hu := hu_of hr
    refine ⟨_, (pss_cons (ps_set (i := 2) sc_law_line.nd rfl (by first | exact Or.inl rfl | exact Or.inr rfl) (pe_lst pa_nil))
    (pss_cons (ps_while (passes_of rfl) (pt_cmpR op_notN (pv 1) pe_non (nomark _)) (pss_one (ps_par (i := 2) (j := 1) rfl sc_law_line.nd rfl rfl (by decide) rfl rfl (pa_cons (pe_op op_cat (pv 2) (pe_lst (pa_cons (pv 1) pa_nil))) (pa_cons (pe_ix ix_tup (pe_dget hu (pv 0) (pv 1) (fun _ _ => rfl)) pe_int (fun _ _ => rfl)) pa_nil)) (by rfl))))
    (pss_one (ps_ret (pv 2))))), ?_⟩
    obtain ⟨ps, wf, ⟨y, en⟩, k⟩ := h
    obtain ⟨l, hl⟩ := wf.line en
    refine ⟨(by decide), fun fl hfl => ?_⟩
    refine ⟨fun k σ H2 => ∃ (o' : Option Str) (done rest : List Str) (fl : Addr), k = rest.length ∧ Line R o' rest ∧ done ++ rest = l ∧ σ = [some (.ref o), some (ov o'), some (.ref fl)] ∧ H2 fl = some (.lst (done.map V.str)) ∧ H fl = none ∧ Go (TL K) (TG K) (fun _ => False) H H2, ⟨_, some n, [], l, fl, rfl, hl, rfl, rfl, upd_same, hfl, Go.new hfl⟩, ?_⟩
    rintro μ σ H2 ⟨o', done, rest, fl, rfl, hr, ed, rfl, e2, f2, g2⟩
    have ps2 := ps.go g2 id (fun _ _ => id)
    walk_at "v"
    cases hr with
    | nil =>
      refine ⟨rfl, _, rfl, iteF ?_⟩
      rw [List.append_nil] at ed
      subst ed
      walk_at "v"
      exact k _ hl fl H2 f2 e2 g2
    | @cons n' a t l' ex hr' =>
      refine ⟨rfl, _, rfl, iteT ?_⟩
      refine ⟨_, fun σ' H' q => q, ?_⟩
      have ll : done.length < 1000 := by
        have h1 := wf.line_len hl
        rw [← ed, List.length_append, List.length_cons] at h1
        omega
      walk_at "v"; walk_at "v"
      refine ⟨(by show 1 ≤ sizeLine; decide), fun b hb => ?_⟩
      refine ⟨fl, b, done.map V.str, [ov (some n')], rfl, rfl, (by rw [upd_ne (ne_of_none e2 hb)]; exact e2), upd_same, ?_, fun c hc => ?_⟩
      · rw [List.length_map]
        show done.length + 1 ≤ sizeLine
        exact Nat.le_trans (show done.length + 1 ≤ 1000 by omega) (by decide)
      have g3 := (g2.trans (Go.new (o := .lst [ov (some n')]) hb)).trans (Go.new (o := .lst (done.map V.str ++ [ov (some n')])) hc)
      have e3 : upd (upd H2 b (.lst [ov (some n')])) c (.lst (done.map V.str ++ [ov (some n')])) c = some (.lst ((done ++ [n']).map V.str)) := by
        rw [upd_same, List.map_append]
        rfl
      have fc : H c = none := g2.free c (upd_none.mp hc).2
      generalize upd (upd H2 b (.lst [ov (some n')])) c (.lst (done.map V.str ++ [ov (some n')])) = H3 at g3 e3 ⊢
      have ps3 := ps.go g3 id (fun _ _ => id)
      walk_at "v"; walk_at "v"
      refine ⟨_, _, rfl, ps3.get ex, ?_⟩
      refine ⟨_, _, _, _, rfl, rfl, SqT.of (ps3.row _ (lookM ex)), rfl, ?_⟩
      exact ⟨_, _, rfl, l'.length, Nat.lt_succ_self _, a, done ++ [n'], l', c, rfl, hr', by rw [← ed]; simp, rfl, e3, fc, g3⟩
end
end K2
namespace K2
open PySem PySem.Spec PyProof.Rows L2 Fy
open GxR (TabG Tabbed)
section
variable {P : Program} {w : World} {K : PySem.W.Frag} {mg : Str → Option Value} {base : Heap}
abbrev N_law_flows : List Str := ["pipes", "wishes", "tank", "found", "through", "turned", "name", "line", "pipe"]
theorem sc_law_flows : FnScope N_law_flows ["pipes", "wishes", "tank"] d_law_flows.scope := ⟨rfl, rfl, rfl, by decide +kernel, rfl, by decide +kernel, by decide +kernel⟩
theorem ok_law_flows (T : Txt K mg base) : Good P w K mg base 2 (He.fAd K d_law_flows.at_) ["pipes", "wishes", "tank"] [] (sp_law_flows K) := by
  refine good_of0 T.fn_law_flows sc_law_flows rfl rfl (fun _ _ _ _ _ _ us hl => match us, hl with | [_, _, _], _ => rfl) (fun vs H Q E h => ?_) (fun A outer s H vs Q E hr h => ?_)
  · obtain ⟨o, e, R, T', qa, tank, rfl, _⟩ := h
    rfl
  · obtain ⟨o, e, R, T', qa, tank, rfl, h⟩ := h
    have hu := hu_of hr
    refine ⟨_, (pss_cons (ps_asg (pe_tup (pa_cons (pe_callTy (call_dictP rfl) (by rfl) T.fr_dict (by decide +kernel) (pa_cons (pe_lc (own := [("name", 6)]) (g := gName 6) (tt := tYes) rfl sc_law_flows.nd (pi_list (pe_callB (cr_sortD hr) (by rfl) T.fr_sorted (by decide +kernel) (pa_cons (pv 1) pa_nil))) (blkOk_by (own := [("name", 6)]) (N := N_law_flows) (sc := d_law_flows.scope) (by decide +kernel)) (fun _ _ _ _ _ => (pg_name (i := 6) sc_law_flows.nd rfl (by first | exact Or.inl rfl | exact Or.inr rfl))) (fun _ _ _ _ _ => pts_nil) (fun _ _ _ _ _ => (pe_tup (pa_cons (pv 6) (pa_cons pe_int pa_nil))))) pa_nil)) (pa_cons (pe_callTy (call_dictP rfl) (by rfl) T.fr_dict (by decide +kernel) (pa_cons (pe_lock (pe_lc (own := [("name", 6)]) (g := gName 6) (tt := tYes) rfl sc_law_flows.nd (pi_keys (pv 0)) (blkOk_by (own := [("name", 6)]) (N := N_law_flows) (sc := d_law_flows.scope) (by decide +kernel)) (fun _ _ _ _ _ => (pg_name (i := 6) sc_law_flows.nd rfl (by first | exact Or.inl rfl | exact Or.inr rfl))) (fun _ _ _ _ _ => pts_nil) (fun _ _ _ _ _ => (pe_tup (pa_cons (pv 6) (pa_cons pe_int pa_nil)))))) pa_nil)) (pa_cons pe_bl pa_nil)))) (pg_tup rfl (pgs_cons (pg_name (i := 3) sc_law_flows.nd rfl (by first | exact Or.inl rfl | exact Or.inr rfl)) (pgs_cons (pg_name (i := 4) sc_law_flows.nd rfl (by first | exact Or.inl rfl | exact Or.inr rfl)) (pgs_cons (pg_name (i := 5) sc_law_flows.nd rfl (by first | exact Or.inl rfl | exact Or.inr rfl)) pgs_nil)))))
    (pss_cons (ps_while (passes_of rfl) (pt_val (pv 5)) (pss_cons (ps_set (i := 5) sc_law_flows.nd rfl (by first | exact Or.inl rfl | exact Or.inr rfl) pe_bl)
      (pss_one (ps_for (passes_of rfl) rfl (pi_list (pe_callB (cr_sortD hr) (by rfl) T.fr_sorted (by decide +kernel) (pa_cons (pv 1) pa_nil))) (pg_name (i := 6) sc_law_flows.nd rfl (by first | exact Or.inl rfl | exact Or.inr rfl)) (pss_cons (ps_set (i := 7) sc_law_flows.nd rfl (by first | exact Or.inl rfl | exact Or.inr rfl) (pg_call (ok_law_line T) (hr.mono (by decide)) rfl T.gl_law_line px (pa_cons (pv 0) (pa_cons (pv 6) pa_nil))))
        (pss_one (ps_if (PW.pt (pw_and (pt_cmpR op_lt (pe_callB (cr_sumV rfl) (by rfl) T.fr_sum (by decide +kernel) (pa_cons (pe_bm0 PySem.F.plainAttrs_dict PySem.F.slot_dict_values PySem.F.type_dict_values mt_values (pv 3)) pa_nil)) (pv 2) (nomark _)) (pw_and (pt_cmpR op_lt (pe_dget hu (pv 3) (pv 6) (fun _ _ => rfl)) (pe_dget hu (pv 1) (pv 6) (fun _ _ => rfl)) (nomark _)) (pw_and1 (pt_cmpR (op_eqD hr.units) (pe_lc (own := [("pipe", 8)]) (g := gName 8) rfl sc_law_flows.nd (pi_list (pv 7)) (blkOk_by (own := [("pipe", 8)]) (N := N_law_flows) (sc := d_law_flows.scope) (by decide +kernel)) (fun _ _ _ _ _ => (pg_name (i := 8) sc_law_flows.nd rfl (by first | exact Or.inl rfl | exact Or.inr rfl))) (fun _ _ _ _ _ => pts_one (pt_cmpR op_ge (pe_dget hu (pv 4) (pv 8) (fun _ _ => rfl)) (pe_ix (ix_tupK K rfl) (pe_dget hu (pv 0) (pv 8) (fun _ _ => rfl)) pe_int (fun _ _ => rfl)) (nomark _))) (fun _ _ _ _ _ => pe_int)) (pe_lst pa_nil) (nomark _)))))) (pss_cons (ps_asg (pe_tup (pa_cons (pe_op op_add (pe_dget hu (pv 3) (pv 6) (fun _ _ => rfl)) pe_int) (pa_cons pe_bl pa_nil))) (pg_tup rfl (pgs_cons (pg_sub (pv 3) (pv 6) (set_dict hu)) (pgs_cons (pg_name (i := 5) sc_law_flows.nd rfl (by first | exact Or.inl rfl | exact Or.inr rfl)) pgs_nil))))
          (pss_one (ps_set (i := 4) sc_law_flows.nd rfl (by first | exact Or.inl rfl | exact Or.inr rfl) (pe_callTy (call_dictP rfl) (by rfl) T.fr_dict (by decide +kernel) (pa_cons (pe_lock (pe_lc (own := [("pipe", 8)]) (g := gName 8) (tt := tYes) rfl sc_law_flows.nd (pi_keys (pv 4)) (blkOk_by (own := [("pipe", 8)]) (N := N_law_flows) (sc := d_law_flows.scope) (by decide +kernel)) (fun _ _ _ _ _ => (pg_name (i := 8) sc_law_flows.nd rfl (by first | exact Or.inl rfl | exact Or.inr rfl))) (fun _ _ _ _ _ => pts_nil) (fun _ _ _ _ _ => (pe_tup (pa_cons (pv 8) (pa_cons (pe_op op_add (pe_dget hu (pv 4) (pv 8) (fun _ _ => rfl)) (pe_callTy call_int1 (by rfl) T.fr_int (by decide +kernel) (pa_cons (pe_cmpR (op_in_seqK K rfl) (pv 8) (pv 7) rfl) pa_nil))) pa_nil)))))) pa_nil))))) pss_nil)))))))
    (pss_one (ps_ret (pv 3))))), ?_⟩
    obtain ⟨ps, ts, wf, nT, lT, hT, k⟩ := h
    have nks : (keysT T').Nodup := nd_sortS nT
    have lks : (keysT T').length ≤ 1000 := by rw [len_sortS, List.length_map]; exact lT
    have kT : ∀ n ∈ keysT T', n ∈ T'.map (fun p => p.1) := fun n h => mem_sortS.mp h
    have lR : (R.map fun p => p.1).length ≤ 1000 := by rw [List.length_map]; exact wf.len
    walk_at "v"
    refine ⟨_, _, rfl, .inl ts, (by rw [keys_tkv]; exact sortb_str _), fun sl hsl => ?_⟩
    rw [keys_tkv, sortV_str]
    have g1 := Go.new (TL := TL K) (TG := TG K) (S := fun _ => False) (o := .lst ((keysT T').map V.str)) hsl
    have e1 : upd H sl (.lst ((keysT T').map V.str)) sl = some (.lst ((keysT T').map V.str)) := upd_same
    generalize upd H sl (.lst ((keysT T').map V.str)) = H1 at g1 e1 ⊢
    refine ⟨sl, rfl, ⟨_, SqL.of e1⟩, fun L hL => lc_pre V.str (keysT T') rfl walk_itl (fun pre H' => PrAt H' L (pre.map fun n => (n, V.int 0)) ∧ Go (TL K) (TG K) (fun a => a = L) H1 H') ⟨.nil upd_same, Go.new hL⟩ (fun pre H' h => SqL.of (h.2.keep _ _ e1 (by intro _ z; cases z) (ne_of_none e1 hL))) ?_ ?_⟩
    · rintro pre n post H' eb ⟨pr, g⟩
      refine ⟨rfl, ?_⟩
      refine tYes_ok ?_
      walk_at "v"
      refine ⟨(by show 2 ≤ sizeLine; decide), fun p hp => ?_⟩
      obtain ⟨acc, e3, l3, p3⟩ := pr.snoc (n := n) (v := .int 0) hp
      refine ⟨acc, e3, by rw [l3, List.length_map]; exact thou_lt (len_mid eb lks), by rw [List.map_append]; exact p3, (g.trans (Go.new hp)).trans (Go.set e3 plain_lst rfl)⟩
    rintro H2 ⟨pr, g⟩
    have fL : H L = none := g1.free L hL
    have g2 : Go (TL K) (TG K) (fun _ => False) H H2 := (g1.wide.trans g).drop fun b z => .inr (by rw [z]; exact fL)
    obtain ⟨as, q1, q2⟩ := pr.pairs (K := K)
    refine ⟨L, as, _, rfl, q1, q2, fun fd hfd => ?_⟩
    rw [mergeK_S (by rw [keys_S]; exact nks), kvS_I]
    clear q1 q2
    have g3 := g2.trans (Go.new (o := .dK (kvI (keysT T') fun _ => 0)) hfd)
    have e3 : upd H2 fd (.dK (kvI (keysT T') fun _ => 0)) fd = some (.dK (kvI (keysT T') fun _ => 0)) := upd_same
    have ffd : H fd = none := g2.free fd hfd
    clear pr g e1 g1 hL
    generalize upd H2 fd (.dK (kvI (keysT T') fun _ => 0)) = H3 at g3 e3 ⊢
    have ps3 := ps.go g3 id (fun _ _ => id)
    refine ⟨o, _, ps3.dc, trivial, fun od => ?_⟩
    walk_at "v"
    have wk := walk_keysV (d := o) (o := od) (kvs := R.map fun p => ((Sum.inr p.1 : Key), V.ref (qa p.1)))
    rw [keys_ps] at wk
    have gl : Go (TL K) (TG K) (fun a => a = o) H3 (upd H3 o (.frz od (.dK (R.map fun p => ((Sum.inr p.1 : Key), V.ref (qa p.1)))))) := Go.set ps3.dc plain_dK rfl
    refine ⟨o, od, rfl, .inl ⟨_, upd_same, fun L hL => ?_⟩⟩
    have nLo : L ≠ o := fun z => by rw [z, upd_same] at hL; cases hL
    have hL0 : H3 L = none := by rw [upd_ne nLo] at hL; exact hL
    refine lc_pre V.str (R.map fun p => p.1) (by rw [List.length_map, List.length_map]) wk (fun pre H' => PrAt H' L (pre.map fun n => (n, V.int 0)) ∧ Go (TL K) (TG K) (fun a => a = L) (upd H3 o (.frz od (.dK (R.map fun p => ((Sum.inr p.1 : Key), V.ref (qa p.1)))))) H') ⟨.nil upd_same, Go.new hL⟩ (fun pre H' h => h.2.keep _ _ upd_same (by intro _ z; cases z) nLo.symm) ?_ ?_
    · rintro pre n post H' eb ⟨pr, g⟩
      refine ⟨rfl, ?_⟩
      refine tYes_ok ?_
      walk_at "v"
      refine ⟨(by show 2 ≤ sizeLine; decide), fun p hp => ?_⟩
      obtain ⟨acc, e4, l4, p4⟩ := pr.snoc (n := n) (v := .int 0) hp
      refine ⟨acc, e4, by rw [l4, List.length_map]; exact thou_lt (len_mid eb lR), by rw [List.map_append]; exact p4, (g.trans (Go.new hp)).trans (Go.set e4 plain_lst rfl)⟩
    rintro H4 ⟨pr, g⟩
    have eo := g.keep _ _ upd_same (by intro _ z; cases z) nLo.symm
    refine ⟨eo, ?_⟩
    have gu := g.unlock ps3.dc plain_dK eo
    have pr2 : PrAt (upd H4 o (.dK (R.map fun p => ((Sum.inr p.1 : Key), V.ref (qa p.1))))) L ((R.map fun p => p.1).map fun n => (n, V.int 0)) := pr.go (Go.set (TL := TL K) (TG := TG K) (S := fun a => a = o) eo plain_frz rfl) nLo fun b xs e z => by rw [z, eo] at e; cases e
    have fL3 : H L = none := g3.free L hL0
    have g4 : Go (TL K) (TG K) (fun _ => False) H (upd H4 o (.dK (R.map fun p => ((Sum.inr p.1 : Key), V.ref (qa p.1))))) := (g3.wide.trans gu).drop fun b z => .inr (by rw [z]; exact fL3)
    have e4 : upd H4 o (.dK (R.map fun p => ((Sum.inr p.1 : Key), V.ref (qa p.1)))) fd = some (.dK (kvI (keysT T') fun _ => 0)) := gu.keep _ _ e3 (by intro _ z; cases z) (ne_of_none e3 hL0)
    clear pr g eo gu gl wk hL
    generalize upd H4 o (.dK (R.map fun p => ((Sum.inr p.1 : Key), V.ref (qa p.1)))) = H5 at g4 e4 pr2 ⊢
    obtain ⟨as, q1, q2⟩ := pr2.pairs (K := K)
    refine ⟨L, as, _, rfl, q1, q2, fun td htd => ?_⟩
    rw [mergeK_S (by rw [keys_S]; exact wf.nd), kvS_I]
    clear q1 q2 pr2
    refine ⟨(by show 3 ≤ sizeLine; decide), fun t ht => ?_⟩
    have g5 := (g4.trans (Go.new (o := .dK (kvI (R.map fun p => p.1) fun _ => 0)) htd)).trans (Go.new (o := .tup [.ref fd, .ref td, .bl true]) ht)
    have nd0 : fd ≠ td := ne_of_none e4 htd
    have hft : upd H5 td (.dK (kvI (R.map fun p => p.1) fun _ => 0)) fd = some (.dK (kvI (keysT T') fun _ => 0)) := by rw [upd_ne nd0]; exact e4
    have htt : upd H5 td (.dK (kvI (R.map fun p => p.1) fun _ => 0)) td = some (.dK (kvI (R.map fun p => p.1) fun _ => 0)) := upd_same
    have F6 : FlAt (upd (upd H5 td (.dK (kvI (R.map fun p => p.1) fun _ => 0))) t (.tup [.ref fd, .ref td, .bl true])) fd td (keysT T') R (startFl tank) := ⟨by rw [upd_ne (ne_of_none hft ht)]; exact hft, by rw [upd_ne (ne_of_none htt ht)]; exact htt, nd0⟩
    have et : upd (upd H5 td (.dK (kvI (R.map fun p => p.1) fun _ => 0))) t (.tup [.ref fd, .ref td, .bl true]) t = some (.tup [.ref fd, .ref td, .bl true]) := upd_same
    generalize upd (upd H5 td (.dK (kvI (R.map fun p => p.1) fun _ => 0))) t (.tup [.ref fd, .ref td, .bl true]) = H6 at g5 F6 et ⊢
    refine ⟨t, _, rfl, SqT.of et, rfl, ?_⟩
    refine ⟨_, _, rfl, _, _, rfl, _, _, rfl, rfl, ?_⟩
    have kin : ∀ {H' : Hp} {b : Addr} {u : HO}, Go (TL K) (TG K) (fun a => a = fd) H6 H' → H b = some u → NoT u → H' b = some u := fun {H' b u} g e n => by
      refine g.keep _ _ (g5.keep _ _ e n id) n fun z => ?_
      rw [z, ffd] at e
      cases e
    have pof : ∀ {H' : Hp}, Go (TL K) (TG K) (fun a => a = fd) H6 H' → PsAt H' o R qa := fun g => ⟨kin g ps.dc (by intro _ z; cases z), fun p hp => kin g (ps.row p hp) (by intro _ z; cases z)⟩
    have tof : ∀ {H' : Hp}, Go (TL K) (TG K) (fun a => a = fd) H6 H' → H' e = some (.dK (tkv T')) := fun g => kin g ts (by intro _ z; cases z)
    refine ⟨fun μ σ H' => ∃ (s : Fl) (td : Addr) (x6 x7 x8 : Option V), μ = 2 * s.left.toNat + (if s.more = true then 1 else 0) ∧ runFl (lineS R) (capS R) (wishS T') (keysT T') (s.left.toNat + 1) s = flowsS R T' tank ∧ s.left = tank - ((keysT T').map s.f).sum ∧ FlAt H' fd td (keysT T') R s ∧ Go (TL K) (TG K) (fun a => a = fd) H6 H' ∧
      σ = [some (.ref o), some (.ref e), some (.int tank), some (.ref fd), some (.ref td), some (.bl s.more), x6, x7, x8], ⟨_, startFl tank, td, _, _, _, rfl, rfl, ?_, F6, .refl, rfl⟩, ?_⟩
    · show tank = tank - ((keysT T').map fun _ => (0 : Int)).sum
      rw [sum_zero]
      omega
    rintro μ σ H7 ⟨s, td, x6, x7, x8, rfl, hrun, hsum, F7, g7, rfl⟩
    refine ⟨_, rfl, _, rfl, ?_⟩
    cases em : s.more with
    | false =>
      refine iteF ?_
      walk_at "v"
      rw [run_stop _ _ em] at hrun
      exact k fd H7 ffd (by rw [← hrun]; exact F7.f) ((g5.wide.trans g7).drop fun b z => .inr (by rw [z]; exact ffd))
    | true =>
      refine iteT ?_
      refine ⟨_, fun σ' H' q => q, ?_⟩
      have ts7 := tof g7
      walk_at "v"
      refine ⟨_, _, rfl, .inl ts7, (by rw [keys_tkv]; exact sortb_str _), fun sl2 hsl2 => ?_⟩
      rw [keys_tkv, sortV_str]
      have g8 := g7.trans (Go.new (o := .lst ((keysT T').map V.str)) hsl2)
      have e8 : upd H7 sl2 (.lst ((keysT T').map V.str)) sl2 = some (.lst ((keysT T').map V.str)) := upd_same
      have F8 : FlAt (upd H7 sl2 (.lst ((keysT T').map V.str))) fd td (keysT T') R { s with more := false } := ⟨by rw [upd_ne (ne_of_none F7.f hsl2)]; exact F7.f, by rw [upd_ne (ne_of_none F7.t hsl2)]; exact F7.t, F7.ne⟩
      have nsf : sl2 ≠ fd := (ne_of_none F7.f hsl2).symm
      generalize upd H7 sl2 (.lst ((keysT T').map V.str)) = H8 at g8 e8 F8 ⊢
      refine ⟨sl2, rfl, ⟨_, SqL.of e8⟩, for_fold V.str (keysT T') rfl walk_itl (stepFl (lineS R) (capS R) (wishS T')) { s with more := false }
        (fun s σ H' => (∃ td x6 x7 x8, σ = [some (.ref o), some (.ref e), some (.int tank), some (.ref fd), some (.ref td), some (.bl s.more), x6, x7, x8] ∧ FlAt H' fd td (keysT T') R s) ∧ s.left = tank - ((keysT T').map s.f).sum ∧ Go (TL K) (TG K) (fun a => a = fd) H8 H')
        ⟨⟨_, _, _, _, rfl, F8⟩, hsum, .refl⟩ (fun _ σ H' h => SqL.of (h.2.2.keep _ _ e8 (by intro _ z; cases z) nsf)) ?_ ?_⟩
      · rintro pre n post σ H9 eb ⟨⟨td, x6, x7, x8, rfl, F9⟩, hs9, g9⟩
        have hn : n ∈ keysT T' := by rw [eb]; simp
        generalize pre.foldl (stepFl (lineS R) (capS R) (wishS T')) { s with more := false } = s' at F9 hs9 ⊢
        have g9' := g8.trans g9
        have ps9 := pof g9'
        obtain ⟨tp, htp, etp⟩ := List.mem_map.mp (kT n hn)
        obtain ⟨y, ey⟩ := hT tp htp
        rw [etp] at ey
        have eT : T'.lookup n = some tp.2 := by
          have := Mlook nT htp
          rw [etp] at this
          exact this
        walk_at "v"; walk_at "v"
        refine ⟨o, R, qa, n, rfl, ps9.rd, wf, ⟨y, ey⟩, fun l hl p HA hp hp1 gA => ?_⟩
        have hln : lineS R n = l := lineS_eq hl
        obtain ⟨ndl, hll⟩ := wf.line_ok hl
        have ll := wf.line_len hl
        have FA : FlAt HA fd td (keysT T') R s' := ⟨gA.get F9.f, gA.get F9.t, F9.ne⟩
        have gA' : Go (TL K) (TG K) (fun a => a = fd) H8 HA := g9.trans gA.wide
        clear F9 ps9
        walk_at "v"
        refine ⟨.inr (.inr (.inl ⟨rfl, .inl ⟨_, FA.f⟩⟩)), ?_⟩
        refine ⟨fd, _, rfl, rfl, FA.f, fun v hv => ?_⟩
        refine ⟨v, fd, _, (keysT T').map s'.f, rfl, upd_same, (by rw [upd_ne (ne_of_none FA.f hv)]; exact FA.f), (by rw [List.map_map, List.map_map]; rfl), ?_⟩
        have gx := Go.new (TL := TL K) (TG := TG K) (S := fun _ => False) (o := valsO v fd) hv
        have FB : FlAt (upd HA v (valsO v fd)) fd td (keysT T') R s' := ⟨gx.get FA.f, gx.get FA.t, FA.ne⟩
        have pB := gx.get hp1
        have gB := gA'.trans gx.wide
        generalize upd HA v (valsO v fd) = HB at FB pB gB ⊢
        clear FA hp1 gx gA' gA
        have nogo : ∀ HC, Go (TL K) (TG K) (fun _ => False) HB HC → ¬ goFl (lineS R) (capS R) (wishS T') s' n → (∃ td' y6 y7 y8, [some (V.ref o), some (.ref e), some (.int tank), some (.ref fd), some (.ref td), some (.bl s'.more), some (.str n), some (.ref p), x8] = [some (.ref o), some (.ref e), some (.int tank), some (.ref fd), some (.ref td'), some (.bl (stepFl (lineS R) (capS R) (wishS T') s' n).more), y6, y7, y8] ∧ FlAt HC fd td' (keysT T') R (stepFl (lineS R) (capS R) (wishS T') s' n)) ∧
            (stepFl (lineS R) (capS R) (wishS T') s' n).left = tank - ((keysT T').map (stepFl (lineS R) (capS R) (wishS T') s' n).f).sum ∧ Go (TL K) (TG K) (fun a => a = fd) H8 HC := fun HC gC z => by
          unfold stepFl
          rw [if_neg z]
          exact ⟨⟨td, _, _, _, rfl, ⟨gC.get FB.f, gC.get FB.t, FB.ne⟩⟩, hs9, gB.trans gC.wide⟩
        have ew : wishS T' n = tp.2 := by
          unfold wishS
          rw [eT] <;> rfl
        have ef : DGet HB fd (.str n) (some (.int (s'.f n))) := by
          have := DGet.k (k := Sum.inr n) FB.f
          rw [val_kvI hn] at this
          exact this
        have tsB := tof (g8.trans gB)
        have psB := pof (g8.trans gB)
        walk_at "go"
        refine ite2 (fun c1 => ?_) (fun c1 => iteF (nogo HB .refl fun z => c1 (decide_eq_true (by have := z.1; omega))))
        have c1' : 0 < s'.left := by
          have := of_decide_eq_true c1
          omega
        walk_at "v"; walk_at "v"
        refine ⟨_, _, rfl, ef, ?_⟩
        walk_at "v"; walk_at "v"
        have et := ts_get (n := n) tsB
        rw [eT] at et
        refine ⟨_, _, rfl, et, ?_⟩
        walk_at "go"
        refine ite2 (fun c2 => ?_) (fun c2 => iteF (nogo HB .refl fun z => c2 (decide_eq_true (by rw [← ew]; exact z.2.1))))
        have c2' : s'.f n < tp.2 := of_decide_eq_true c2
        walk_at "v"
        refine ⟨p, rfl, ⟨_, SqL.of pB⟩, fun L hL => lc_pre V.str l rfl walk_itl (fun pre H' => H' L = some (.lst ((pre.filter fun q => decide (capS R q ≤ s'.t q)).map fun _ => V.int 1)) ∧ Go (TL K) (TG K) (fun a => a = L) HB H') ⟨upd_same, Go.new hL⟩ (fun pre H' h => SqL.of (h.2.keep _ _ pB (by intro _ z; cases z) (ne_of_none pB hL))) ?_ ?_⟩
        · rintro pre2 q post2 HC eb2 ⟨eC, gC⟩
          have hq : q ∈ l := by rw [eb2]; simp
          obtain ⟨yq, eq⟩ := hll q hq
          have ec : capS R q = yq.2 := by
            unfold capS
            rw [eq] <;> rfl
          have tC := gC.keep _ _ FB.t (by intro _ z; cases z) (ne_of_none FB.t hL)
          have eg : DGet HC td (.str q) (some (.int (s'.t q))) := by
            have := DGet.k (k := Sum.inr q) tC
            rw [val_kvI (List.mem_map.mpr ⟨_, lookM eq, rfl⟩)] at this
            exact this
          have psC := psB.go gC (ne_of_none psB.dc hL) (fun p hp => ne_of_none (psB.row p hp) hL)
          refine ⟨rfl, ?_⟩
          walk_at "v"; walk_at "v"
          refine ⟨_, _, rfl, eg, ?_⟩
          walk_at "v"; walk_at "v"
          refine ⟨_, _, rfl, psC.get eq, ?_⟩
          refine ⟨_, _, _, _, rfl, rfl, SqT.of (psC.row _ (lookM eq)), rfl, ?_⟩
          refine ⟨_, _, rfl, rfl, _, rfl, ?_⟩
          show if decide (yq.2 ≤ s'.t q) = true then _ else _
          rw [← ec]
          by_cases z : capS R q ≤ s'.t q
          · refine iteT' (decide_eq_true z) ?_
            refine ⟨_, eC, ?_, ?_, gC.trans (Go.set eC plain_lst rfl)⟩
            · rw [List.length_map]
              exact Nat.lt_of_le_of_lt (List.length_filter_le _ _) (thou_lt (len_mid eb2 ll))
            · rw [upd_same, List.filter_append, List.filter_cons, if_pos (decide_eq_true z), List.filter_nil, List.map_append]
              rfl
          · refine iteF' (decide_eq_false z) ⟨?_, gC⟩
            rw [List.filter_append, List.filter_cons, if_neg (by rw [decide_eq_false z]; decide), List.filter_nil, List.append_nil]
            exact eC
        rintro HC ⟨eC, gC⟩
        have gC' : Go (TL K) (TG K) (fun _ => False) HB HC := gC.drop fun b z => .inr (by rw [z]; exact hL)
        refine ⟨(by decide), fun e2 he2 => ?_⟩
        have gD := gC'.trans (Go.new (o := .lst []) he2)
        have nL2 := ne_of_none eC he2
        have eD : upd HC e2 (.lst []) L = some (.lst ((l.filter fun q => decide (capS R q ≤ s'.t q)).map fun _ => V.int 1)) := by rw [upd_ne nL2]; exact eC
        have eD2 : upd HC e2 (.lst []) e2 = some (.lst []) := upd_same
        generalize upd HC e2 (.lst []) = HD at gD eD eD2 ⊢
        clear eC gC gC' hL
        have se : SeqAt.shaped (PyData.list []) = true := PySem.W.shaped_ints []
        by_cases c3 : (lineS R n).all (fun q => decide (s'.t q < capS R q)) = true
        case neg =>
          have hz : (l.filter fun q => decide (capS R q ≤ s'.t q)) ≠ [] := fun z => c3 (by
            rw [hln]
            refine List.all_eq_true.mpr fun q hq => decide_eq_true ?_
            have := List.filter_eq_nil_iff.mp z q hq
            simp at this
            exact this)
          have hsh : ∀ zs : List Str, SeqAt.shaped (.list (zs.map fun _ => PyData.int 1)) = true := fun zs => by
            have := PySem.W.shaped_ints (zs.map fun _ => (1 : Int))
            rw [List.map_map] at this
            exact this
          cases ez : (l.filter fun q => decide (capS R q ≤ s'.t q)) with
          | nil => exact absurd ez hz
          | cons z zs =>
            rw [ez] at eD
            refine ⟨.list ((z :: zs).map fun _ => PyData.int 1), .list [], .lst (SqL.of eD) (dpAll_map (fun _ => .int 1) _), .lst (SqL.of eD2) .nil, hsh _, se, ?_⟩
            rw [show PyData.eqv (.list ((z :: zs).map fun _ => PyData.int 1)) (.list []) = false from rfl]
            exact ⟨_, rfl, iteF (nogo HD gD fun y => c3 y.2.2)⟩
        case pos =>
          have hz : (l.filter fun q => decide (capS R q ≤ s'.t q)) = [] := List.filter_eq_nil_iff.mpr fun q hq => by
            rw [hln] at c3
            have := of_decide_eq_true (List.all_eq_true.mp c3 q hq)
            simp
            omega
          rw [hz] at eD
          refine ⟨.list [], .list [], .lst (SqL.of eD) .nil, .lst (SqL.of eD2) .nil, se, se, ?_⟩
          rw [eqv_same se]
          refine ⟨_, rfl, iteT ?_⟩
          have hgo : goFl (lineS R) (capS R) (wishS T') s' n := ⟨c1', by rw [ew]; exact c2', c3⟩
          have es : stepFl (lineS R) (capS R) (wishS T') s' n = upFl (lineS R) s' n := if_pos hgo
          have FD : FlAt HD fd td (keysT T') R s' := ⟨gD.get FB.f, gD.get FB.t, FB.ne⟩
          have efD : DGet HD fd (.str n) (some (.int (s'.f n))) := by
            have := DGet.k (k := Sum.inr n) FD.f
            rw [val_kvI hn] at this
            exact this
          walk_at "v"; walk_at "v"
          refine ⟨_, _, rfl, efD, ?_⟩
          refine ⟨_, _, rfl, rfl, ?_⟩
          refine ⟨(by show 2 ≤ sizeLine; decide), fun t ht => ?_⟩
          have gE := gD.trans (Go.new (o := .tup [.int (s'.f n + 1), .bl true]) ht)
          have eE : upd HD t (.tup [.int (s'.f n + 1), .bl true]) t = some (.tup [.int (s'.f n + 1), .bl true]) := upd_same
          have FE : FlAt (upd HD t (.tup [.int (s'.f n + 1), .bl true])) fd td (keysT T') R s' := ⟨by rw [upd_ne (ne_of_none FD.f ht)]; exact FD.f, by rw [upd_ne (ne_of_none FD.t ht)]; exact FD.t, FD.ne⟩
          generalize upd HD t (.tup [.int (s'.f n + 1), .bl true]) = HE at gE eE FE ⊢
          refine ⟨t, _, rfl, SqT.of eE, rfl, ?_⟩
          refine ⟨_, _, rfl, ?_⟩
          walk_at "v"; walk_at "v"
          refine ⟨fd, _, rfl, DPut.k (k := Sum.inr n) FE.f (by rw [List.length_map]; exact thou_le lks), ?_⟩
          rw [put_kvI hn]
          refine ⟨_, _, rfl, rfl, ?_⟩
          have e9 : upd HE fd (.dK (kvI (keysT T') fun x => if x = n then s'.f n + 1 else s'.f x)) fd = some (.dK (kvI (keysT T') (upFl (lineS R) s' n).f)) := by
            rw [upd_same]
            have : (fun x => if x = n then s'.f n + 1 else s'.f x) = (upFl (lineS R) s' n).f := by
              funext x
              show (if x = n then s'.f n + 1 else s'.f x) = if x = n then s'.f x + 1 else s'.f x
              by_cases z : x = n
              · rw [z]
              · rw [if_neg z, if_neg z]
            rw [this]
          have t9 : upd HE fd (.dK (kvI (keysT T') fun x => if x = n then s'.f n + 1 else s'.f x)) td = some (.dK (kvI (R.map fun p => p.1) s'.t)) := by rw [upd_ne FE.ne.symm]; exact FE.t
          have p9 : upd HE fd (.dK (kvI (keysT T') fun x => if x = n then s'.f n + 1 else s'.f x)) p = some (.lst (l.map V.str)) := by
            have := gE.get pB
            rw [upd_ne (ne_of this FE.f (by intro z; cases z))]
            exact this
          have g9 : Go (TL K) (TG K) (fun a => a = fd) H8 (upd HE fd (.dK (kvI (keysT T') fun x => if x = n then s'.f n + 1 else s'.f x))) := (gB.trans gE.wide).trans (Go.set FE.f plain_dK rfl)
          generalize upd HE fd (.dK (kvI (keysT T') fun x => if x = n then s'.f n + 1 else s'.f x)) = HF at e9 t9 p9 g9 ⊢
          refine ⟨td, _, t9, trivial, fun od => ?_⟩
          walk_at "v"
          have wk := walk_keysV (d := td) (o := od) (kvs := kvI (R.map fun p => p.1) s'.t)
          have ek : ((kvI (R.map fun p => p.1) s'.t).map fun p => kV p.1) = (R.map fun p => p.1).map V.str := by
            unfold kvI
            rw [List.map_map]
            rfl
          rw [ek] at wk
          have npt : p ≠ td := ne_of p9 t9 (by intro z; cases z)
          refine ⟨td, od, rfl, .inl ⟨_, upd_same, fun L hL => ?_⟩⟩
          have nLt : L ≠ td := fun z => by rw [z, upd_same] at hL; cases hL
          have hL0 : HF L = none := by rw [upd_ne nLt] at hL; exact hL
          have npL : p ≠ L := ne_of_none p9 hL0
          refine lc_pre V.str (R.map fun p => p.1) (by simp) wk (fun pre H' => PrAt H' L (pre.map fun q => (q, V.int (if q ∈ l then s'.t q + 1 else s'.t q))) ∧ Go (TL K) (TG K) (fun a => a = L) (upd HF td (.frz od (.dK (kvI (R.map fun p => p.1) s'.t)))) H') ⟨.nil upd_same, Go.new hL⟩ (fun pre H' h => h.2.keep _ _ upd_same (by intro _ z; cases z) nLt.symm) ?_ ?_
          · rintro pre3 q post3 H' eb3 ⟨pr, g⟩
            have hq : q ∈ R.map fun p => p.1 := by rw [eb3]; simp
            refine ⟨rfl, ?_⟩
            refine tYes_ok ?_
            have eg : DGet H' td (.str q) (some (.int (s'.t q))) := .inl ⟨_, Sum.inr q, .inr ⟨od, g.keep _ _ upd_same (by intro _ z; cases z) nLt.symm⟩, rfl, (val_kvI hq).symm⟩
            walk_at "v"; walk_at "v"; walk_at "v"
            refine ⟨_, _, rfl, eg, ?_⟩
            walk_at "v"; walk_at "v"
            refine ⟨p, _, rfl, .inl (SqL.of (g.keep _ _ (by rw [upd_ne npt]; exact p9) (by intro _ z; cases z) npL)), rfl, flat_strs _, ?_⟩
            rw [inV_str]
            refine .inr ⟨_, rfl, ?_⟩
            refine ⟨_, _, rfl, rfl, ?_⟩
            have ev : s'.t q + (if decide (q ∈ l) = true then 1 else 0) = if q ∈ l then s'.t q + 1 else s'.t q := by
              by_cases z : q ∈ l
              · rw [if_pos (decide_eq_true z), if_pos z]
              · rw [if_neg (by rw [decide_eq_false z]; decide), if_neg z, Int.add_zero]
            refine ⟨(by show 2 ≤ sizeLine; decide), fun p3 hp3 => ?_⟩
            obtain ⟨acc, e4, l4, p4⟩ := pr.snoc (n := q) (v := .int (s'.t q + (if decide (q ∈ l) = true then 1 else 0))) hp3
            refine ⟨acc, e4, by rw [l4, List.length_map]; exact thou_lt (len_mid eb3 lR), ?_, (g.trans (Go.new hp3)).trans (Go.set e4 plain_lst rfl)⟩
            rw [List.map_append, show ([q].map fun q => (q, V.int (if q ∈ l then s'.t q + 1 else s'.t q))) = [(q, V.int (s'.t q + (if decide (q ∈ l) = true then 1 else 0)))] from by rw [ev] <;> rfl]
            exact p4
          · rintro H' ⟨pr, g⟩
            have eo := g.keep _ _ upd_same (by intro _ z; cases z) nLt.symm
            refine ⟨eo, ?_⟩
            have gu := g.unlock t9 plain_dK eo
            have gu' : Go (TL K) (TG K) (fun _ => False) HF (upd H' td (.dK (kvI (R.map fun p => p.1) s'.t))) := gu.drop fun b z => .inr (by rw [z]; exact hL0)
            have pr2 : PrAt (upd H' td (.dK (kvI (R.map fun p => p.1) s'.t))) L ((R.map fun p => p.1).map fun q => (q, V.int (if q ∈ l then s'.t q + 1 else s'.t q))) := pr.go (Go.set (TL := TL K) (TG := TG K) (S := fun a => a = td) eo plain_frz rfl) nLt fun b xs e z => by rw [z, eo] at e; cases e
            obtain ⟨as, q1, q2⟩ := pr2.pairs (K := K)
            refine ⟨L, as, _, rfl, q1, q2, fun td2 htd2 => ?_⟩
            rw [mergeK_S (by rw [keys_S]; exact wf.nd), kvS_I]
            have e10 := gu'.get e9
            have n10 := ne_of_none e10 htd2
            have gZ := (g9.trans gu'.wide).trans (Go.new (o := .dK (kvI (R.map fun p => p.1) fun q => if q ∈ l then s'.t q + 1 else s'.t q)) htd2)
            rw [es]
            refine ⟨⟨td2, _, _, _, rfl, ⟨by rw [upd_ne n10]; exact e10, ?_, n10⟩⟩, ?_, gZ⟩
            · rw [upd_same]
              unfold upFl
              rw [hln]
            · show s'.left - 1 = tank - ((keysT T').map fun m => if m = n then s'.f m + 1 else s'.f m).sum
              rw [sum_up s'.f nks hn]
              omega
      · rintro σ H9 ⟨⟨td, x6, x7, x8, rfl, F9⟩, hs9, g9⟩
        have er := run_go (ln := lineS R) (cap := capS R) (wish := wishS T') (ns := keysT T') s em
        obtain ⟨r1, r2⟩ := round_left (ln := lineS R) (cap := capS R) (wish := wishS T') (ns := keysT T') s
        refine ⟨_, ?_, roundFl (lineS R) (capS R) (wishS T') (keysT T') s, td, _, _, _, rfl, er.symm.trans hrun, hs9, F9, g8.trans g9, rfl⟩
        by_cases y : (roundFl (lineS R) (capS R) (wishS T') (keysT T') s).more = true
        · obtain ⟨r3, r4⟩ := r2 y
          rw [if_pos y, if_pos rfl]
          omega
        · rw [if_neg y, if_pos rfl]
          omega
end
end K2
namespace K2
open PySem PySem.Spec PyProof.Rows L2 Fy
open GxR (TabG Tabbed)
abbrev N_law_told : List Str := ["what"]
theorem sc_law_told : FnScope N_law_told ["what"] d_law_told.scope := ⟨rfl, rfl, rfl, by decide +kernel, rfl, by decide +kernel, by decide +kernel⟩
abbrev N_law : List Str := ["script", "dice", "step", "name", "full", "comes", "mains", "pipes", "wishes", "tank", "used", "line", "sort", "number", "ahead", "good", "gone", "flows", "one", "k", "bad", "f"]
theorem sc_law : FnScope N_law ["script"] d_law.scope := ⟨rfl, rfl, rfl, by decide +kernel, rfl, by decide +kernel, by decide +kernel⟩
section
variable {P : Program} {w : World} {K : PySem.W.Frag} {mg : Str → Option Value} {base : Heap}
theorem told_law (T : Txt K mg base) {A : Around} {outer : List Env} {s : Shared} {H0 : Hp} {E0 : XK} (hr : Room 6 (A.deeper (envOfC d_law.qual d_law.scope s.heap.objs.size (He.fAd K d_law.at_) (.ref (He.codeOf K d_law.at_))))) {p lpos pos : Pos} {params : Arguments} {body : Expr} {scope : Scope} {t : XK → TE}
  (L : LamX.LamS d_law.scope scope)   (hdef : defaultsOf params (bodyX P w K mg base N_law d_law A outer s H0 E0).env = ([], [])) (hbind : ∀ (q : Str) (cl : List (Str × Addr)) (pm cv ctv : Value), bindArgs (PySem.W.kla_fn "<lambda>" q params body scope cl pm cv ctv) ⟨[], []⟩ = pure [])
    (hbody : ∀ (A' : Around) (outer' : List Env) (s' : Shared) (H : Hp) (E : XK) (f c' : Addr), Room 3 (A'.deeper (LamX.lamEnv (bodyX P w K mg base N_law d_law A outer s H0 E0) scope s'.heap.objs.size f c')) → PE (LamX.lamCx (bodyX P w K mg base N_law d_law A outer s H0 E0) A' outer' s' H E scope f c') body (t E)) :
   PE (bodyX P w K mg base N_law d_law A outer s H0 E0) (.Call (.Name "_law_told" p) [.Lambda params body scope lpos] [] pos) (tLamG (TL K) (TG K) (LamX.TTold K (WErr K) "WaterError") t) := by
  refine pe_told (k := 3) (TL := TL K) (TG := TG K) (Ng := N_law_told) (a := "what") (e := "WaterError") (c := (He.cT K ("law", none)).1) (P := (He.cT K ("law", none)).2) (dt := d_law_told) T.fn_law_told ?g1 ?g2 ?g3 ?g4 (show d_law_told.body = [.Try [.Return (some (.Call (.Name _ _) [] [] _)) _] [.ExceptHandler (some (.Name _ _)) none [.Return (some (.Constant (.str _) _ _)) _] _] [] [] _] from rfl) ?g6 ?g7 ?g8 ?g9 ?g10 ?g11 ?g12 ?g13 ?g14 ?g15 ?g16 ?g17 ?g18 ?g19 ?g20 ?g21 ?g22 ?g23 ?g24
  case g1 => rfl
  case g2 => rfl
  case g3 => rfl
  case g4 => rfl
  case g6 => exact (fun _ _ _ _ _ _ us hl => match us, hl with | [_], _ => rfl)
  case g7 => exact rfl
  case g8 => exact T.gl_law_told
  case g9 => exact sc_law_told
  case g10 => rfl
  case g11 => exact .inl rfl
  case g12 => rfl
  case g13 => exact T.gl_WaterError
  case g14 => exact fun _ => rfl
  case g15 => exact T.tb_law
  case g16 => rfl
  case g17 => exact T.tm_law
  case g18 => exact T.tu_law
  case g19 => exact T.tn_law
  case g20 => exact (hr.mono (by decide))
  case g21 => exact L
  case g22 => exact hdef
  case g23 => exact hbind
  case g24 => exact hbody
theorem toldV_law (T : Txt K mg base) {A : Around} {outer : List Env} {s : Shared} {H0 : Hp} {E0 : XK} (hr : Room 6 (A.deeper (envOfC d_law.qual d_law.scope s.heap.objs.size (He.fAd K d_law.at_) (.ref (He.codeOf K d_law.at_))))) {p pf pos : Pos} {pins : List (Addr × Obj)} {σ : L2.St} {s3 : Shared} {H3 : Hp} {scope : Scope} {ce : Env} {fp : List Addr}
    (I3 : Inv (bodyX P w K mg base N_law d_law A outer s H0 E0) pins σ H3 s3) (f3 : ∀ b ∈ fp, FpOk (bodyX P w K mg base N_law d_law A outer s H0 E0) pins H3 b) (hg : Gl ((bodyX P w K mg base N_law d_law A outer s H0 E0).blk s3 H3 scope ce fp) "_law_told") (hvf : Vis ce.scope "f") :
    PE ((bodyX P w K mg base N_law d_law A outer s H0 E0).blk s3 H3 scope ce fp) (.Call (.Name "_law_told" p) [.Name "f" pf] [] pos) (tTold (bodyX P w K mg base N_law d_law A outer s H0 E0) 3 21 (WErr K) "WaterError" σ) := by
  refine pe_toldV (k := 3) (Ng := N_law_told) (a := "what") (e := "WaterError") (dt := d_law_told) I3 f3 T.fn_law_told ?g1 ?g2 ?g3 ?g4 (show d_law_told.body = [.Try [.Return (some (.Call (.Name _ _) [] [] _)) _] [.ExceptHandler (some (.Name _ _)) none [.Return (some (.Constant (.str _) _ _)) _] _] [] [] _] from rfl) ?g6 ?g7 ?g8 ?g9 ?g10 ?g11 ?g12 ?g13 ?g14 ?g15 ?g16 ?g17
  case g1 => rfl
  case g2 => rfl
  case g3 => rfl
  case g4 => rfl
  case g6 => exact (fun _ _ _ _ _ _ us hl => match us, hl with | [_], _ => rfl)
  case g7 => exact hg
  case g8 => exact T.gl_law_told
  case g9 => exact sc_law_told
  case g10 => rfl
  case g11 => exact .inl rfl
  case g12 => rfl
  case g13 => exact T.gl_WaterError
  case g14 => exact fun _ => rfl
  case g15 => exact (hr.mono (by decide))
  case g16 => rfl
  case g17 => exact hvf
end
end K2
namespace K2
open PySem PySem.Spec PyProof.Rows L2 Fy
open GxR (TabG Tabbed)
def pn (k : Nat) : Str := ("p" : Str) ++ Str.ofString (toString (k : Int))
theorem pn_inj : ∀ j, j < 40 → ∀ k, k < 40 → pn j = pn k → j = k := by decide +kernel
theorem pn_ok : ∀ k, k < 40 → PyData.strOk (pn k) = true ∧ ¬ pn k = "" := by decide +kernel
theorem pn_sum : ∀ k : Nat, k < 40 → ("p" : Str).length + (Str.ofString (toString (k : Int))).length ≤ 1000 := by decide +kernel
theorem lg40 {kk : Nat} (h : kk < 40) : ((kk : Nat) : Int).natAbs.log2 < 1920 := by
  rw [Int.natAbs_natCast]
  exact Nat.lt_of_le_of_lt (Nat.log2_le_self kk) (by omega)
theorem ls40 {kk : Nat} (h : kk < 40) : ("p" : Str).length + (Str.ofString (toString ((kk : Nat) : Int))).length ≤ sizeLine := Nat.le_trans (pn_sum kk h) (by decide)
theorem roll_lt {Dc : Dice} {m : Int} (h : 0 < m) : 0 ≤ rollV Dc m ∧ rollV Dc m < m := by
  unfold rollV
  split
  · exact ⟨Int.emod_nonneg _ (by omega), Int.emod_lt_of_pos _ h⟩
  · exact ⟨Int.emod_nonneg _ (by omega), Int.emod_lt_of_pos _ h⟩
/-- a drawn number as a natural one -/
theorem roll_nat (Dc : Dice) (m : Nat) (h : 0 < m) : ∃ j : Nat, j < m ∧ rollV Dc m = j := by
  have := roll_lt (Dc := Dc) (m := (m : Int)) (by omega)
  exact ⟨(rollV Dc m).toNat, by omega, by omega⟩
/-- the program's mains, and the law's own tables -/
structure W2 (K : PySem.W.Frag) (H : Hp) (q p m d e o w : Addr) (M : Mn) (R : Ps) (T : Ts) (pa qa : Str → Addr) : Prop where
  mains : MainsAt (CMns K) H m d e M R T pa
  own : PsAt H o R qa
  wis : H w = some (.dK (tkv T))
  dice : ∃ Dc, H q = some (.lst (dvals Dc))
  pl : H p = some (.lst [.ref q])
  od : d ≠ o
  dw : d ≠ w
  eo : e ≠ o
  ew : e ≠ w
  wf : WfP R
  key : ∀ x ∈ R, ∃ j, j < 7 ∧ x.1 = pn j
  nT : (T.map fun p => p.1).Nodup
  hT : ∀ x ∈ T, ∃ y, R.lookup x.1 = some y
  tb : Tb (TL K) (TG K) H
theorem dv_ref {Dc : Dice} {a : Addr} : HO.lst (dvals Dc) ≠ .lst [.ref a] := fun z => by
  injection z with z
  exact absurd (congrArg List.length z) (by simp [dvals])
section
variable {K : PySem.W.Frag} {H H' : Hp} {q p m d e o w : Addr} {M : Mn} {R : Ps} {T : Ts} {pa qa : Str → Addr} {S : Ad}
theorem W2.go (W : W2 K H q p m d e o w M R T pa qa) (g : Go (TL K) (TG K) S H H') (hq : ∃ Dc, H' q = some (.lst (dvals Dc))) (hS : ∀ b, S b → b = q ∨ H b = none) : W2 K H' q p m d e o w M R T pa qa := by
  obtain ⟨Dc, e1⟩ := W.dice
  obtain ⟨⟨dx, h1⟩, ps, ts, ne⟩ := id W.mains
  have n : ∀ b u, H b = some u → u ≠ .lst (dvals Dc) → ¬ S b := fun b u eb n z => by
    rcases hS b z with y | y
    · rw [y, e1] at eb
      exact n (Option.some.inj eb).symm
    · rw [y] at eb
      cases eb
  exact ⟨W.mains.go g (n _ _ h1 (by intro z; cases z)) (n _ _ ps.dc (by intro z; cases z)) (n _ _ ts (by intro z; cases z)) (fun p hp => n _ _ (ps.row p hp) (by intro z; cases z)), W.own.go g (n _ _ W.own.dc (by intro z; cases z)) (fun p hp => n _ _ (W.own.row p hp) (by intro z; cases z)),
    g.keep _ _ W.wis (by intro _ z; cases z) (n _ _ W.wis (by intro z; cases z)), hq, g.keep _ _ W.pl (by intro _ z; cases z) (n _ _ W.pl dv_ref.symm), W.od, W.dw, W.eo, W.ew, W.wf, W.key, W.nT, W.hT, g.tb W.tb⟩
theorem W2.go0 (W : W2 K H q p m d e o w M R T pa qa) (g : Go (TL K) (TG K) (fun _ => False) H H') : W2 K H' q p m d e o w M R T pa qa := W.go g (W.dice.imp fun _ h => g.get h) fun _ z => z.elim
theorem W2.lenR (W : W2 K H q p m d e o w M R T pa qa) : R.length ≤ 7 := by
  have := sub_len (m := (List.range 7).map pn) W.wf.nd fun x hx => by
    obtain ⟨y, hy, rfl⟩ := List.mem_map.mp hx
    obtain ⟨j, hj, e⟩ := W.key y hy
    exact List.mem_map.mpr ⟨j, List.mem_range.mpr hj, e.symm⟩
  rw [List.length_map] at this
  simpa using this
theorem W2.lenT (W : W2 K H q p m d e o w M R T pa qa) : T.length ≤ 7 := by
  have := sub_len (m := R.map fun p => p.1) W.nT fun x hx => by
    obtain ⟨y, hy, rfl⟩ := List.mem_map.mp hx
    obtain ⟨z, ez⟩ := W.hT y hy
    exact List.mem_map.mpr ⟨_, lookM ez, rfl⟩
  rw [List.length_map, List.length_map] at this
  exact Nat.le_trans this W.lenR
theorem W2.okK (W : W2 K H q p m d e o w M R T pa qa) {n : Str} {y : Option Str × Int} (h : R.lookup n = some y) : PyData.strOk n = true := by
  obtain ⟨j, hj, e⟩ := W.key _ (lookM h)
  have e : n = pn j := e
  rw [e]
  exact (pn_ok j (by omega)).1
/-- the dice are rolled -/
theorem W2.roll (W : W2 K H q p m d e o w M R T pa qa) {Dc : Dice} (h : H q = some (.lst (dvals Dc))) (Dc2 : Dice) : W2 K (upd H q (.lst (dvals Dc2))) q p m d e o w M R T pa qa :=
  W.go (S := fun a => a = q) (Go.set h plain_lst rfl) ⟨_, upd_same⟩ fun _ z => .inl z
end
abbrev Sg (q m o w : Addr) (M : Mn) (x0 x2 x3 x11 x12 x13 x14 x15 x16 x17 x18 x19 x20 x21 : Option V) : L2.St :=
  [x0, some (.ref q), x2, x3, some (.int M.full), some (.int M.comes), some (.ref m), some (.ref o), some (.ref w), some (.int M.tank), some (.int M.used), x11, x12, x13, x14, x15, x16, x17, x18, x19, x20, x21]
section
variable {P : Program} {w : World} {K : PySem.W.Frag} {mg : Str → Option Value} {base : Heap}
/-- sort, name, number = .. -/
theorem law_draw (T : Txt K mg base) {A : Around} {outer : List Env} {s : Shared} {H0 : Hp} {E0 : XK} (hr : Room 6 (A.deeper (envOfC d_law.qual d_law.scope s.heap.objs.size (He.fAd K d_law.at_) (.ref (He.codeOf K d_law.at_))))) :
    ∃ t, PS (bodyX P w K mg base N_law d_law A outer s H0 E0) ((subS ((subS ((d_law.body).getD 0 noS)).getD 2 noS)).getD 0 noS) t ∧ ∀ (D : Ends) (H : Hp) (q p m d e o w : Addr) (M : Mn) (R : Ps) (T' : Ts) (pa qa : Str → Addr) (x0 x2 x3 x11 x12 x13 x14 x15 x16 x17 x18 x19 x20 x21 : Option V), W2 K H q p m d e o w M R T' pa qa →
      (∀ (so num : Int) (j : Nat) (H' : Hp), j < 7 → 0 ≤ num → W2 K H' q p m d e o w M R T' pa qa → D.nx (Sg q m o w M x0 x2 (some (.str (pn j))) x11 (some (.int so)) (some (.int num)) x14 x15 x16 x17 x18 x19 x20 x21) H') →
      t D (Sg q m o w M x0 x2 x3 x11 x12 x13 x14 x15 x16 x17 x18 x19 x20 x21) H := by
  have hu := hu_of hr
  refine ⟨_, (ps_asg (pe_tup (pa_cons (pg_call (ok_law_roll T) (hr.mono (by decide)) rfl T.gl_law_roll px (pa_cons (pv 1) (pa_cons pe_int pa_nil))) (pa_cons (pe_op op_add_str pe_str (pe_callTy call_str_int (by rfl) T.fr_str (by decide +kernel) (pa_cons (pg_call (ok_law_roll T) (hr.mono (by decide)) rfl T.gl_law_roll px (pa_cons (pv 1) (pa_cons pe_int pa_nil))) pa_nil))) (pa_cons (pg_call (ok_law_roll T) (hr.mono (by decide)) rfl T.gl_law_roll px (pa_cons (pv 1) (pa_cons pe_int pa_nil))) pa_nil)))) (pg_tup rfl (pgs_cons (pg_name (i := 12) sc_law.nd rfl (by first | exact Or.inl rfl | exact Or.inr rfl)) (pgs_cons (pg_name (i := 3) sc_law.nd rfl (by first | exact Or.inl rfl | exact Or.inr rfl)) (pgs_cons (pg_name (i := 13) sc_law.nd rfl (by first | exact Or.inl rfl | exact Or.inr rfl)) pgs_nil))))), fun D H q p m d e o w M R T' pa qa x0 x2 x3 x11 x12 x13 x14 x15 x16 x17 x18 x19 x20 x21 W k => ?_⟩
  obtain ⟨Dc, hq⟩ := W.dice
  walk_at "v"
  refine ⟨q, Dc, 8, rfl, hq, by decide, by decide, ?_⟩
  walk_at "v"
  refine ⟨q, _, 7, rfl, upd_same, by decide, by decide, ?_⟩
  obtain ⟨j, hj, ej⟩ := roll_nat (rollD Dc 8) 7 (by decide)
  have ej : rollV (rollD Dc 8) 7 = (j : Int) := ej
  rw [ej, upd_upd]
  refine ⟨_, rfl, lg40 (by omega), ?_⟩
  refine ⟨_, _, rfl, rfl, ls40 (by omega), ?_⟩
  walk_at "v"
  refine ⟨q, _, 40, rfl, upd_same, by decide, by decide, ?_⟩
  rw [upd_upd]
  have hn := (roll_lt (Dc := rollD (rollD Dc 8) 7) (m := 40) (by decide)).1
  have W1 := W.roll hq (rollD (rollD (rollD Dc 8) 7) 40)
  generalize upd H q (.lst (dvals (rollD (rollD (rollD Dc 8) 7) 40))) = H1 at W1 ⊢
  generalize rollV (rollD (rollD Dc 8) 7) 40 = num at hn ⊢
  refine ⟨(by show 3 ≤ sizeLine; decide), fun t ht => ?_⟩
  refine ⟨t, _, rfl, SqT.of upd_same, rfl, ?_⟩
  refine ⟨_, _, rfl, _, _, rfl, _, _, rfl, rfl, ?_⟩
  exact k _ num j _ hj hn (W1.go0 (Go.new ht))
end
end K2
namespace K2
open PySem PySem.Spec PyProof.Rows L2 Fy
open GxR (TabG Tabbed)
section
variable {P : Program} {w : World} {K : PySem.W.Frag} {mg : Str → Option Value} {base : Heap}
/-- ahead = .. -/
theorem law_a0 (T : Txt K mg base) {A : Around} {outer : List Env} {s : Shared} {H0 : Hp} {E0 : XK} (hr : Room 6 (A.deeper (envOfC d_law.qual d_law.scope s.heap.objs.size (He.fAd K d_law.at_) (.ref (He.codeOf K d_law.at_))))) :
    ∃ t, PS (bodyX P w K mg base N_law d_law A outer s H0 E0) ((subS ((subS ((subS ((d_law.body).getD 0 noS)).getD 2 noS)).getD 1 noS)).getD 0 noS) t ∧ ∀ (D : Ends) (H : Hp) (q p m d e o w : Addr) (M : Mn) (R : Ps) (T' : Ts) (pa qa : Str → Addr) (x0 x2 x3 x11 x12 x13 x14 x15 x16 x17 x18 x19 x20 x21 : Option V), W2 K H q p m d e o w M R T' pa qa →
      (∀ (a : Option Str) (H' : Hp), W2 K H' q p m d e o w M R T' pa qa → D.nx (Sg q m o w M x0 x2 x3 x11 x12 x13 (some (ov a)) x15 x16 x17 x18 x19 x20 x21) H') →
      t D (Sg q m o w M x0 x2 x3 x11 x12 x13 x14 x15 x16 x17 x18 x19 x20 x21) H := by
  have hu := hu_of hr
  refine ⟨_, (ps_set (i := 14) sc_law.nd rfl (by first | exact Or.inl rfl | exact Or.inr rfl) (pe_ix ix_list (pe_lst (pa_cons pe_non (pa_cons (pe_op op_add_str pe_str (pe_callTy call_str_int (by rfl) T.fr_str (by decide +kernel) (pa_cons (pg_call (ok_law_roll T) (hr.mono (by decide)) rfl T.gl_law_roll px (pa_cons (pv 1) (pa_cons pe_int pa_nil))) pa_nil))) pa_nil))) (pg_call (ok_law_roll T) (hr.mono (by decide)) rfl T.gl_law_roll px (pa_cons (pv 1) (pa_cons pe_int pa_nil))) (fun _ _ => rfl))), fun D H q p m d e o w M R T' pa qa x0 x2 x3 x11 x12 x13 x14 x15 x16 x17 x18 x19 x20 x21 W k => ?_⟩
  obtain ⟨Dc, hq⟩ := W.dice
  walk_at "v"
  refine ⟨q, Dc, 7, rfl, hq, by decide, by decide, ?_⟩
  obtain ⟨j, hj, ej⟩ := roll_nat Dc 7 (by decide)
  have ej : rollV Dc 7 = (j : Int) := ej
  rw [ej]
  refine ⟨_, rfl, lg40 (by omega), ?_⟩
  refine ⟨_, _, rfl, rfl, ls40 (by omega), ?_⟩
  refine ⟨(by show 2 ≤ sizeLine; decide), fun l hl => ?_⟩
  have eq1 : upd (upd H q (.lst (dvals (rollD Dc 7)))) l (.lst [.non, .str (pn j)]) q = some (.lst (dvals (rollD Dc 7))) := by rw [upd_ne (ne_of_none upd_same hl)]; exact upd_same
  have el : upd (upd H q (.lst (dvals (rollD Dc 7)))) l (.lst [.non, .str (pn j)]) l = some (.lst [.non, .str (pn j)]) := upd_same
  have W1 := (W.roll hq (rollD Dc 7)).go0 (Go.new (o := .lst [.non, .str (pn j)]) hl)
  have W1 : W2 K (upd (upd H q (.lst (dvals (rollD Dc 7)))) l (.lst [.non, .str (pn j)])) q p m d e o w M R T' pa qa := W1
  walk_at "v"
  refine ⟨q, rollD Dc 7, 2, rfl, eq1, by decide, by decide, ?_⟩
  obtain ⟨i, hi, ei⟩ := roll_nat (rollD Dc 7) 2 (by decide)
  have ei : rollV (rollD Dc 7) 2 = (i : Int) := ei
  rw [ei]
  have nlq : l ≠ q := ne_of el eq1 fun z => by injection z with z; exact absurd (congrArg List.length z) (by simp [dvals])
  have W2' := W1.roll eq1 (rollD (rollD Dc 7) 2)
  have el2 : upd (upd (upd H q (.lst (dvals (rollD Dc 7)))) l (.lst [.non, .str (pn j)])) q (.lst (dvals (rollD (rollD Dc 7) 2))) l = some (.lst [.non, .str (pn j)]) := by rw [upd_ne nlq]; exact el
  have : i = 0 ∨ i = 1 := by omega
  rcases this with rfl | rfl
  · exact ⟨_, _, _, _, rfl, rfl, SqL.of el2, rfl, k none _ W2'⟩
  · exact ⟨_, _, _, _, rfl, rfl, SqL.of el2, rfl, k (some (pn j)) _ W2'⟩
theorem canAdd_eq {R : Ps} {n : Str} {a : Option Str} {x : Int} (h1 : ¬ n = "") (h2 : R.length < 40) : canAdd R n a x = ((R.lookup n).isNone && (decide (0 < x) && (match a with | none => true | some y => (R.lookup y).isSome))) := by
  unfold canAdd
  rw [decide_eq_false h1, decide_eq_false (show ¬ 40 ≤ R.length by omega)]
  by_cases z : 0 < x
  · rw [decide_eq_true z, decide_eq_false (show ¬ x < 1 by omega)]
    cases R.lookup n <;> rfl
  · rw [decide_eq_false z, decide_eq_true (show x < 1 by omega)]
    cases R.lookup n <;> rfl
/-- good = name not in pipes and .. -/
theorem law_a1 (T : Txt K mg base) {A : Around} {outer : List Env} {s : Shared} {H0 : Hp} {E0 : XK} (hr : Room 6 (A.deeper (envOfC d_law.qual d_law.scope s.heap.objs.size (He.fAd K d_law.at_) (.ref (He.codeOf K d_law.at_))))) :
    ∃ t, PS (bodyX P w K mg base N_law d_law A outer s H0 E0) ((subS ((subS ((subS ((d_law.body).getD 0 noS)).getD 2 noS)).getD 1 noS)).getD 1 noS) t ∧ ∀ (D : Ends) (H : Hp) (q m o w : Addr) (M : Mn) (R : Ps) (qa : Str → Addr) (n : Str) (a : Option Str) (x : Int) (x0 x2 x11 x12 x15 x16 x17 x18 x19 x20 x21 : Option V), PsAt H o R qa → ¬ n = "" → R.length < 40 →
      D.nx (Sg q m o w M x0 x2 (some (.str n)) x11 x12 (some (.int x)) (some (ov a)) (some (.bl (canAdd R n a x))) x16 x17 x18 x19 x20 x21) H →
      t D (Sg q m o w M x0 x2 (some (.str n)) x11 x12 (some (.int x)) (some (ov a)) x15 x16 x17 x18 x19 x20 x21) H := by
  have hu := hu_of hr
  refine ⟨_, (ps_set (i := 15) sc_law.nd rfl (by first | exact Or.inl rfl | exact Or.inr rfl) (pe_and (pe_cmp (pc_dnotin hu (pv 3) (pv 7))) (pe_and (pe_cmpR op_gt (pv 13) pe_int (nomark _)) (pe_one (pe_or (pe_cmpR op_isN (pv 14) pe_non (nomark _)) (pe_one (pe_cmp (pc_din hu (pv 14) (pv 7))))))))), fun D H q m o w M R qa n a x x0 x2 x11 x12 x15 x16 x17 x18 x19 x20 x21 W h1 h2 k => ?_⟩
  rw [canAdd_eq h1 h2] at k
  walk_at "v"; walk_at "v"
  refine ⟨_, _, rfl, W.no, ?_⟩
  cases e : R.lookup n with
  | some y =>
    rw [e] at k
    exact ⟨_, rfl, iteF k⟩
  | none =>
    rw [e] at k
    refine ⟨_, rfl, iteT ?_⟩
    walk_at "v"
    refine ⟨_, _, rfl, rfl, ?_⟩
    refine ⟨_, rfl, ?_⟩
    by_cases z : 0 < x
    · rw [decide_eq_true z] at k
      refine iteT' (decide_eq_true z) ?_
      walk_at "v"
      cases a with
      | none => exact ⟨rfl, _, rfl, iteT k⟩
      | some y =>
        refine ⟨rfl, _, rfl, iteF ?_⟩
        walk_at "v"; walk_at "v"
        refine ⟨_, _, rfl, DGet.k (k := Sum.inr y) W.dc, ?_⟩
        rw [val_lookR]
        cases ey : R.lookup y with
        | none =>
          have k' := k
          simp only [ey] at k'
          exact k'
        | some u =>
          have k' := k
          simp only [ey] at k'
          exact k'
    · rw [decide_eq_false z] at k
      exact iteF' (decide_eq_false z) k
/-- the program adds a pipe, or does not -/
theorem law_a2 (T : Txt K mg base) {A : Around} {outer : List Env} {s : Shared} {H0 : Hp} {E0 : XK} (hr : Room 6 (A.deeper (envOfC d_law.qual d_law.scope s.heap.objs.size (He.fAd K d_law.at_) (.ref (He.codeOf K d_law.at_))))) :
    ∃ t, PS (bodyX P w K mg base N_law d_law A outer s H0 E0) ((subS ((subS ((subS ((d_law.body).getD 0 noS)).getD 2 noS)).getD 1 noS)).getD 2 noS) t ∧ ∀ (D : Ends) (H : Hp) (q p m d e o w : Addr) (M : Mn) (R : Ps) (T' : Ts) (pa qa : Str → Addr) (n : Str) (a : Option Str) (x : Int) (x0 x2 x11 x12 x16 x17 x18 x19 x20 x21 : Option V), W2 K H q p m d e o w M R T' pa qa →
      (∀ H', canAdd R n a x = false → W2 K H' q p m d e o w M R T' pa qa → D.nx (Sg q m o w M x0 x2 (some (.str n)) x11 x12 (some (.int x)) (some (ov a)) (some (.bl (canAdd R n a x))) x16 x17 x18 x19 x20 x21) H') →
      (∀ pa' H1 H', canAdd R n a x = true → W2 K H1 q p m d e o w M R T' pa qa → MainsAt (CMns K) H' m d e M (R ++ [(n, a, x)]) T' pa' → Go (TL K) (TG K) (fun b => b = d) H1 H' → D.nx (Sg q m o w M x0 x2 (some (.str n)) x11 x12 (some (.int x)) (some (ov a)) (some (.bl (canAdd R n a x))) x16 x17 x18 x19 x20 x21) H') →
      t D (Sg q m o w M x0 x2 (some (.str n)) x11 x12 (some (.int x)) (some (ov a)) (some (.bl (canAdd R n a x))) x16 x17 x18 x19 x20 x21) H := by
  have hu := hu_of hr
  refine ⟨_, (ps_if (pt_cmpR op_eq (pe_cmpR op_eq (told_law T hr (LamX.lamS_by (by decide +kernel)) rfl (fun _ _ _ _ _ => rfl) (fun A outer s H E f c' hr2 => (pg_meth (ok_Mains_add T) (hr2.mono (by decide)) T.cl_Mains T.me_Mains_add pxl (pv 6) (pa_cons (pv 3) (pa_cons (pv 14) (pa_cons (pv 13) pa_nil)))))) pe_str (nomark _)) (pv 15) (nomark _)) (pss_one (ps_ret pe_bl)) pss_nil), fun D H q p m d e o w M R T' pa qa n a x x0 x2 x11 x12 x16 x17 x18 x19 x20 x21 W k1 k2 => ?_⟩
  refine ⟨W.tb, fun H1 g1 => ?_⟩
  have W1 := W.go0 g1
  obtain ⟨⟨dx, h1⟩, ps, ts, ne⟩ := id W1.mains
  walk_at "v"
  refine ⟨_, _, _, rfl, h1, rfl, ?_⟩
  walk_at "v"; walk_at "v"; walk_at "v"
  refine ⟨m, d, e, M, R, T', pa, n, a, x, rfl, W1.mains, fun z => ?_, fun z pa' H' _ _ D' g => ?_⟩
  · refine ⟨true, T.em_WaterError_WaterError, fun _ => ?_, fun z => by cases z⟩
    refine ⟨rfl, ?_⟩
    walk_at "v"
    refine ⟨rfl, _, rfl, ?_⟩
    refine ite2 (fun y => absurd (of_decide_eq_true y) ?_) (fun _ => k1 H1 z W1)
    rw [z]
    intro y
    have y2 := V.bl.inj y
    rw [decide_eq_true rfl] at y2
    cases y2
  · refine ⟨rfl, ?_⟩
    walk_at "v"
    refine ⟨rfl, _, rfl, ?_⟩
    refine ite2 (fun y => absurd (of_decide_eq_true y) ?_) (fun _ => k2 pa' H1 H' z W1 D' g)
    rw [z]
    intro y
    have y2 := V.bl.inj y
    rw [decide_eq_false (by intro z; cases z)] at y2
    cases y2
end
end K2
namespace K2
open PySem PySem.Spec PyProof.Rows L2 Fy
open GxR (TabG Tabbed)
theorem mergeK_snoc (kvs : List (Key × V)) (acc : List (Key × V)) (q : Key × V) : mergeK acc (kvs ++ [q]) = putK (mergeK acc kvs) q.1 q.2 := by
  simp [mergeK]
abbrev psR (R : Ps) (qa : Str → Addr) : List (Str × V) := R.map fun p => (p.1, V.ref (qa p.1))
abbrev psT (T : Ts) : List (Str × V) := T.map fun p => (p.1, V.int p.2)
theorem kvS_R (R : Ps) (qa : Str → Addr) : kvS (psR R qa) = R.map fun p => ((Sum.inr p.1 : Key), V.ref (qa p.1)) := by
  unfold kvS psR
  rw [List.map_map]
  rfl
theorem kvS_T (T : Ts) : kvS (psT T) = tkv T := by
  unfold kvS psT tkv
  rw [List.map_map]
  rfl
theorem keys_R (R : Ps) (qa : Str → Addr) : (psR R qa).map (fun p => p.1) = R.map fun p => p.1 := by
  unfold psR
  rw [List.map_map]
  rfl
theorem keys_T (T : Ts) : (psT T).map (fun p => p.1) = T.map fun p => p.1 := by
  unfold psT
  rw [List.map_map]
  rfl
section
variable {P : Program} {w : World} {K : PySem.W.Frag} {mg : Str → Option Value} {base : Heap}
/-- pipes = dict(list(pipes.items()) + ..) -/
theorem law_a3 (T : Txt K mg base) {A : Around} {outer : List Env} {s : Shared} {H0 : Hp} {E0 : XK} (hr : Room 6 (A.deeper (envOfC d_law.qual d_law.scope s.heap.objs.size (He.fAd K d_law.at_) (.ref (He.codeOf K d_law.at_))))) :
    ∃ t, PS (bodyX P w K mg base N_law d_law A outer s H0 E0) ((subS ((subS ((subS ((d_law.body).getD 0 noS)).getD 2 noS)).getD 1 noS)).getD 3 noS) t ∧ ∀ (D : Ends) (H : Hp) (q m o w : Addr) (M : Mn) (R : Ps) (qa : Str → Addr) (n : Str) (a : Option Str) (x : Int) (b : Bool) (x0 x2 x11 x12 x16 x17 x18 x19 x20 x21 : Option V), PsAt H o R qa → (b = true → R.lookup n = none) → (R.map fun p => p.1).Nodup → R.length ≤ 100 →
      (∀ (o' : Addr) (qa' : Str → Addr) (H' : Hp), H o' = none → PsAt H' o' (R ++ oneIf b (n, a, x)) qa' → Go (TL K) (TG K) (fun _ => False) H H' → D.nx (Sg q m o' w M x0 x2 (some (.str n)) x11 x12 (some (.int x)) (some (ov a)) (some (.bl b)) x16 x17 x18 x19 x20 x21) H') →
      t D (Sg q m o w M x0 x2 (some (.str n)) x11 x12 (some (.int x)) (some (ov a)) (some (.bl b)) x16 x17 x18 x19 x20 x21) H := by
  have hu := hu_of hr
  refine ⟨_, (ps_set (i := 7) sc_law.nd rfl (by first | exact Or.inl rfl | exact Or.inr rfl) (pe_callTy (call_dictP rfl) (by rfl) T.fr_dict (by decide +kernel) (pa_cons (pe_op op_cat (LiI.pe_listItems rfl (pv 7) (by rfl) T.fr_list (by decide +kernel)) (pe_op op_rep (pe_lst (pa_cons (pe_tup (pa_cons (pv 3) (pa_cons (pe_tup (pa_cons (pv 14) (pa_cons (pv 13) pa_nil))) pa_nil))) pa_nil)) (pe_callTy call_int1 (by rfl) T.fr_int (by decide +kernel) (pa_cons (pv 15) pa_nil)))) pa_nil))), fun D H q m o w M R qa n a x b x0 x2 x11 x12 x16 x17 x18 x19 x20 x21 W hb nd lR k => ?_⟩
  walk_at "v"
  refine ⟨o, _, rfl, W.dc, fun H1 p1 ts hk hp1 hts hnp hl hpr => ?_⟩
  rw [← kvS_R] at hpr
  have pr1 := PrAt.items hl hpr
  have g1 : Go (TL K) (TG K) (fun _ => False) H H1 := Go.extK hk
  have W1 := W.go g1 id (fun _ _ => id)
  walk_at "v"; walk_at "v"; walk_at "v"
  refine ⟨(by show 2 ≤ sizeLine; decide), fun t1 ht1 => ⟨(by show 2 ≤ sizeLine; decide), fun t2 ht2 => ⟨(by show 1 ≤ sizeLine; decide), fun l hl => ?_⟩⟩⟩
  have g2 := ((g1.trans (Go.new (o := .tup [ov a, .int x]) ht1)).trans (Go.new (o := .tup [.str n, .ref t1]) ht2)).trans (Go.new (o := .lst [.ref t2]) hl)
  have gx : Go (TL K) (TG K) (fun _ => False) H1 (upd (upd (upd H1 t1 (.tup [ov a, .int x])) t2 (.tup [.str n, .ref t1])) l (.lst [.ref t2])) := ((Go.new ht1).trans (Go.new ht2)).trans (Go.new hl)
  have e1 : upd (upd (upd H1 t1 (.tup [ov a, .int x])) t2 (.tup [.str n, .ref t1])) l (.lst [.ref t2]) t1 = some (.tup [ov a, .int x]) := by
    have h1 : upd H1 t1 (.tup [ov a, .int x]) t1 = some (.tup [ov a, .int x]) := upd_same
    have h2 : upd (upd H1 t1 (.tup [ov a, .int x])) t2 (.tup [.str n, .ref t1]) t1 = some (.tup [ov a, .int x]) := by rw [upd_ne (ne_of_none h1 ht2)]; exact h1
    rw [upd_ne (ne_of_none h2 hl)]
    exact h2
  have e2 : upd (upd (upd H1 t1 (.tup [ov a, .int x])) t2 (.tup [.str n, .ref t1])) l (.lst [.ref t2]) t2 = some (.tup [.str n, .ref t1]) := by
    rw [upd_ne (ne_of_none upd_same hl), upd_same]
  have e3 : upd (upd (upd H1 t1 (.tup [ov a, .int x])) t2 (.tup [.str n, .ref t1])) l (.lst [.ref t2]) l = some (.lst [.ref t2]) := upd_same
  have pr2 := pr1.go gx id (fun _ _ _ => id)
  have W2' := W1.go gx id (fun _ _ => id)
  generalize upd (upd (upd H1 t1 (.tup [ov a, .int x])) t2 (.tup [.str n, .ref t1])) l (.lst [.ref t2]) = H2 at g2 e1 e2 e3 pr2 W2' ⊢
  clear gx pr1 W1 hl hpr
  walk_at "v"
  refine .inr ⟨_, rfl, ?_⟩
  refine ⟨l, _, _, rfl, rfl, e3, (by cases b <;> decide), (by cases b <;> decide), (Nat.le_trans (show [V.ref t2].length * (if b = true then (1 : Int) else 0).toNat ≤ 1 from by cases b <;> simp) (by decide)), fun r hr1 => ?_⟩
  rw [rep_one]
  have g3 := g2.trans (Go.new (o := .lst (oneIf b (V.ref t2))) hr1)
  have gy := Go.new (TL := TL K) (TG := TG K) (S := fun _ => False) (o := .lst (oneIf b (V.ref t2))) hr1
  have pr3 := pr2.go gy id (fun _ _ _ => id)
  have W3 := W2'.go gy id (fun _ _ => id)
  have e4 := gy.get e1
  have e5 := gy.get e2
  have e6 : upd H2 r (.lst (oneIf b (V.ref t2))) r = some (.lst (oneIf b (V.ref t2))) := upd_same
  generalize upd H2 r (.lst (oneIf b (V.ref t2))) = H3 at g3 pr3 W3 e4 e5 e6 ⊢
  refine pr3.more (K := K) e6 e5 ?_ fun c hc pc => ?_
  · rw [List.length_map]
    exact Nat.le_trans (show R.length + 1 ≤ 1000 by omega) (by decide)
  have gz := Go.new (TL := TL K) (TG := TG K) (S := fun _ => False) (o := .lst (pr3.choose.map V.ref ++ oneIf b (.ref t2))) hc
  have g4 := g3.trans gz
  have W4 := W3.go gz id (fun _ _ => id)
  have e7 := gz.get e4
  generalize upd H3 c (.lst (pr3.choose.map V.ref ++ oneIf b (.ref t2))) = H4 at g4 W4 e7 pc ⊢
  obtain ⟨as, q1, q2⟩ := pc.pairs (K := K)
  refine ⟨c, as, _, rfl, q1, q2, fun o' ho' => ?_⟩
  have fo : H o' = none := g4.free o' ho'
  have g5 := g4.trans (Go.new (o := .dK (kvS (psR R qa ++ oneIf b (n, V.ref t1)))) ho')
  cases b with
  | false =>
    rw [mergeK_S (by
      show ((psR R qa ++ ([] : List (Str × V))).map fun p => p.1).Nodup
      rw [List.append_nil, keys_R]
      exact nd)]
    refine k o' qa _ fo ⟨?_, fun y hy => ?_⟩ g5
    · rw [upd_same]
      show some (HO.dK (kvS (psR R qa ++ []))) = some (.dK ((R ++ [] : Ps).map fun p => ((Sum.inr p.1 : Key), V.ref (qa p.1))))
      rw [List.append_nil, List.append_nil, kvS_R]
    · have hy : y ∈ R ++ [] := hy
      rw [List.append_nil] at hy
      rw [upd_ne (ne_of_none (W4.row y hy) ho')]
      exact W4.row y hy
  | true =>
    have hn := hb rfl
    have nn : ∀ y ∈ R, y.1 ≠ n := fun y hy z => lookN hn (List.mem_map.mpr ⟨y, hy, z⟩)
    rw [mergeK_S (by
      show ((psR R qa ++ [(n, V.ref t1)]).map fun p => p.1).Nodup
      rw [List.map_append, keys_R, List.nodup_append]
      refine ⟨nd, by simp, fun y hy z hz e => ?_⟩
      rw [List.mem_singleton.mp hz] at e
      rw [e] at hy
      exact lookN hn hy)]
    refine k o' (fun y => if y = n then t1 else qa y) _ fo ⟨?_, fun y hy => ?_⟩ g5
    · rw [upd_same]
      show some (HO.dK (kvS (psR R qa ++ [(n, V.ref t1)]))) = some (.dK ((R ++ [(n, a, x)] : Ps).map fun p => ((Sum.inr p.1 : Key), V.ref (if p.1 = n then t1 else qa p.1))))
      unfold kvS
      rw [List.map_append, List.map_append, show (psR R qa).map (fun p => ((Sum.inr p.1 : Key), p.2)) = R.map fun p => ((Sum.inr p.1 : Key), V.ref (qa p.1)) from kvS_R R qa]
      have : R.map (fun y => ((Sum.inr y.1 : Key), V.ref (if y.1 = n then t1 else qa y.1))) = R.map fun p => (Sum.inr p.1, V.ref (qa p.1)) := List.map_congr_left fun y hy => by rw [if_neg (nn y hy)]
      rw [this]
      simp
    · have hy : y ∈ R ++ [(n, a, x)] := hy
      rcases List.mem_append.mp hy with z | z
      · rw [if_neg (nn y z), upd_ne (ne_of_none (W4.row y z) ho')]
        exact W4.row y z
      · rw [List.mem_singleton.mp z, if_pos rfl, upd_ne (ne_of_none e7 ho')]
        exact e7
/-- wishes = dict(list(wishes.items()) + ..) -/
theorem law_b3 (T : Txt K mg base) {A : Around} {outer : List Env} {s : Shared} {H0 : Hp} {E0 : XK} (hr : Room 6 (A.deeper (envOfC d_law.qual d_law.scope s.heap.objs.size (He.fAd K d_law.at_) (.ref (He.codeOf K d_law.at_))))) :
    ∃ t, PS (bodyX P w K mg base N_law d_law A outer s H0 E0) ((subS ((elsS ((subS ((subS ((d_law.body).getD 0 noS)).getD 2 noS)).getD 1 noS)).getD 0 noS)).getD 2 noS) t ∧ ∀ (D : Ends) (H : Hp) (q m o w : Addr) (M : Mn) (T' : Ts) (n : Str) (x : Int) (b : Bool) (x0 x2 x11 x12 x14 x16 x17 x18 x19 x20 x21 : Option V), H w = some (.dK (tkv T')) → (T'.map fun p => p.1).Nodup → T'.length ≤ 100 →
      (∀ (w' : Addr) (H' : Hp), H w' = none → H' w' = some (.dK (tkv (if b = true then putT T' n x else T'))) → Go (TL K) (TG K) (fun _ => False) H H' → D.nx (Sg q m o w' M x0 x2 (some (.str n)) x11 x12 (some (.int x)) x14 (some (.bl b)) x16 x17 x18 x19 x20 x21) H') →
      t D (Sg q m o w M x0 x2 (some (.str n)) x11 x12 (some (.int x)) x14 (some (.bl b)) x16 x17 x18 x19 x20 x21) H := by
  have hu := hu_of hr
  refine ⟨_, (ps_set (i := 8) sc_law.nd rfl (by first | exact Or.inl rfl | exact Or.inr rfl) (pe_callTy (call_dictP rfl) (by rfl) T.fr_dict (by decide +kernel) (pa_cons (pe_op op_cat (LiI.pe_listItems rfl (pv 8) (by rfl) T.fr_list (by decide +kernel)) (pe_op op_rep (pe_lst (pa_cons (pe_tup (pa_cons (pv 3) (pa_cons (pv 13) pa_nil))) pa_nil)) (pe_callTy call_int1 (by rfl) T.fr_int (by decide +kernel) (pa_cons (pv 15) pa_nil)))) pa_nil))), fun D H q m o w M T' n x b x0 x2 x11 x12 x14 x16 x17 x18 x19 x20 x21 W nd lT k => ?_⟩
  walk_at "v"
  refine ⟨w, _, rfl, W, fun H1 p1 ts hk hp1 hts hnp hl hpr => ?_⟩
  rw [← kvS_T] at hpr
  have pr1 := PrAt.items hl hpr
  have g1 : Go (TL K) (TG K) (fun _ => False) H H1 := Go.extK hk
  walk_at "v"; walk_at "v"
  refine ⟨(by show 2 ≤ sizeLine; decide), fun t2 ht2 => ⟨(by show 1 ≤ sizeLine; decide), fun l hl => ?_⟩⟩
  have gx : Go (TL K) (TG K) (fun _ => False) H1 (upd (upd H1 t2 (.tup [.str n, .int x])) l (.lst [.ref t2])) := (Go.new ht2).trans (Go.new hl)
  have g2 := g1.trans gx
  have e2 : upd (upd H1 t2 (.tup [.str n, .int x])) l (.lst [.ref t2]) t2 = some (.tup [.str n, .int x]) := by
    rw [upd_ne (ne_of_none upd_same hl), upd_same]
  have e3 : upd (upd H1 t2 (.tup [.str n, .int x])) l (.lst [.ref t2]) l = some (.lst [.ref t2]) := upd_same
  have pr2 := pr1.go gx id (fun _ _ _ => id)
  generalize upd (upd H1 t2 (.tup [.str n, .int x])) l (.lst [.ref t2]) = H2 at g2 e2 e3 pr2 ⊢
  clear gx pr1 hl hpr
  walk_at "v"
  refine .inr ⟨_, rfl, ?_⟩
  refine ⟨l, _, _, rfl, rfl, e3, (by cases b <;> decide), (by cases b <;> decide), (Nat.le_trans (show [V.ref t2].length * (if b = true then (1 : Int) else 0).toNat ≤ 1 from by cases b <;> simp) (by decide)), fun r hr1 => ?_⟩
  rw [rep_one]
  have gy := Go.new (TL := TL K) (TG := TG K) (S := fun _ => False) (o := .lst (oneIf b (V.ref t2))) hr1
  have g3 := g2.trans gy
  have pr3 := pr2.go gy id (fun _ _ _ => id)
  have e5 := gy.get e2
  have e6 : upd H2 r (.lst (oneIf b (V.ref t2))) r = some (.lst (oneIf b (V.ref t2))) := upd_same
  generalize upd H2 r (.lst (oneIf b (V.ref t2))) = H3 at g3 pr3 e5 e6 ⊢
  refine pr3.more (K := K) e6 e5 ?_ fun c hc pc => ?_
  · rw [List.length_map]
    exact Nat.le_trans (show T'.length + 1 ≤ 1000 by omega) (by decide)
  have g4 := g3.trans (Go.new (o := .lst (pr3.choose.map V.ref ++ oneIf b (.ref t2))) hc)
  generalize upd H3 c (.lst (pr3.choose.map V.ref ++ oneIf b (.ref t2))) = H4 at g4 pc ⊢
  obtain ⟨as, q1, q2⟩ := pc.pairs (K := K)
  refine ⟨c, as, _, rfl, q1, q2, fun w' hw' => ?_⟩
  have fo : H w' = none := g4.free w' hw'
  have em : mergeK [] (kvS (psT T')) = tkv T' := by rw [mergeK_S (by rw [keys_T]; exact nd), kvS_T]
  cases b with
  | false =>
    have e : mergeK [] (kvS (psT T' ++ oneIf false (n, V.int x))) = tkv T' := by
      show mergeK [] (kvS (psT T' ++ [])) = _
      rw [List.append_nil, em]
    rw [e]
    exact k w' _ fo upd_same (g4.trans (Go.new hw'))
  | true =>
    have e : mergeK [] (kvS (psT T' ++ oneIf true (n, V.int x))) = tkv (putT T' n x) := by
      show mergeK [] (kvS (psT T' ++ [(n, V.int x)])) = _
      unfold kvS
      rw [List.map_append]
      show mergeK [] (kvS (psT T') ++ [(Sum.inr n, V.int x)]) = _
      rw [mergeK_snoc, em, putK_T]
    rw [e]
    exact k w' _ fo upd_same (g4.trans (Go.new hw'))
end
end K2
namespace K2
open PySem PySem.Spec PyProof.Rows L2 Fy
open GxR (TabG Tabbed)
theorem cut_kv {T : Ts} (nd : (T.map fun p => p.1).Nodup) (q : Str → Bool) : kvS (((T.map fun p => p.1).filter q).map fun y => (y, V.int (wishS T y))) = tkv (T.filter fun p => q p.1) := by
  unfold kvS tkv
  rw [List.map_map, List.filter_map, List.map_map]
  refine List.map_congr_left fun p hp => ?_
  have hp' := (List.mem_filter.mp hp).1
  show ((Sum.inr p.1 : Key), V.int (wishS T p.1)) = (Sum.inr p.1, V.int p.2)
  unfold wishS
  rw [Mlook nd hp'] <;> rfl
theorem cut_one {T : Ts} {n : Str} (nd : (T.map fun p => p.1).Nodup) : kvS (((T.map fun p => p.1).filter fun y => decide (y ≠ n)).map fun y => (y, V.int (wishS T y))) = tkv (T.filter fun p => decide (p.1 ≠ n)) := cut_kv nd fun y => decide (y ≠ n)
section
variable {P : Program} {w : World} {K : PySem.W.Frag} {mg : Str → Option Value} {base : Heap}
abbrev canOn (R : Ps) (n : Str) (x : Int) : Bool := (R.lookup n).isSome && decide (1 ≤ x)
/-- good = name in pipes and number > 0 -/
theorem law_b1 (T : Txt K mg base) {A : Around} {outer : List Env} {s : Shared} {H0 : Hp} {E0 : XK} (hr : Room 6 (A.deeper (envOfC d_law.qual d_law.scope s.heap.objs.size (He.fAd K d_law.at_) (.ref (He.codeOf K d_law.at_))))) :
    ∃ t, PS (bodyX P w K mg base N_law d_law A outer s H0 E0) ((subS ((elsS ((subS ((subS ((d_law.body).getD 0 noS)).getD 2 noS)).getD 1 noS)).getD 0 noS)).getD 0 noS) t ∧ ∀ (D : Ends) (H : Hp) (q m o w : Addr) (M : Mn) (R : Ps) (qa : Str → Addr) (n : Str) (x : Int) (x15 x0 x2 x11 x12 x14 x16 x17 x18 x19 x20 x21 : Option V), PsAt H o R qa →
      D.nx (Sg q m o w M x0 x2 (some (.str n)) x11 x12 (some (.int x)) x14 (some (.bl (canOn R n x))) x16 x17 x18 x19 x20 x21) H → t D (Sg q m o w M x0 x2 (some (.str n)) x11 x12 (some (.int x)) x14 x15 x16 x17 x18 x19 x20 x21) H := by
  have hu := hu_of hr
  refine ⟨_, (ps_set (i := 15) sc_law.nd rfl (by first | exact Or.inl rfl | exact Or.inr rfl) (pe_and (pe_cmp (pc_din hu (pv 3) (pv 7))) (pe_one (pe_cmpR op_gt (pv 13) pe_int (nomark _))))), fun D H q m o w M R qa n x x15 x0 x2 x11 x12 x14 x16 x17 x18 x19 x20 x21 W k => ?_⟩
  have ex : decide (1 ≤ x) = decide (0 < x) := by
    by_cases z : 0 < x
    · rw [decide_eq_true z, decide_eq_true (show 1 ≤ x by omega)]
    · rw [decide_eq_false z, decide_eq_false (show ¬ 1 ≤ x by omega)]
  unfold canOn at k
  rw [ex] at k
  walk_at "v"; walk_at "v"
  refine ⟨_, _, rfl, W.no, ?_⟩
  cases e : R.lookup n with
  | none =>
    rw [e] at k
    exact ⟨_, rfl, iteF k⟩
  | some y =>
    rw [e] at k
    refine ⟨_, rfl, iteT ?_⟩
    walk_at "v"
    exact ⟨_, _, rfl, rfl, k⟩
theorem law_b2 (T : Txt K mg base) {A : Around} {outer : List Env} {s : Shared} {H0 : Hp} {E0 : XK} (hr : Room 6 (A.deeper (envOfC d_law.qual d_law.scope s.heap.objs.size (He.fAd K d_law.at_) (.ref (He.codeOf K d_law.at_))))) :
    ∃ t, PS (bodyX P w K mg base N_law d_law A outer s H0 E0) ((subS ((elsS ((subS ((subS ((d_law.body).getD 0 noS)).getD 2 noS)).getD 1 noS)).getD 0 noS)).getD 1 noS) t ∧ ∀ (D : Ends) (H : Hp) (q p m d e o w : Addr) (M : Mn) (R : Ps) (T' : Ts) (pa qa : Str → Addr) (n : Str) (x : Int) (x0 x2 x11 x12 x14 x16 x17 x18 x19 x20 x21 : Option V), W2 K H q p m d e o w M R T' pa qa →
      (∀ H', canOn R n x = false → W2 K H' q p m d e o w M R T' pa qa → D.nx (Sg q m o w M x0 x2 (some (.str n)) x11 x12 (some (.int x)) x14 (some (.bl (canOn R n x))) x16 x17 x18 x19 x20 x21) H') →
      (∀ H1 H', canOn R n x = true → W2 K H1 q p m d e o w M R T' pa qa → MainsAt (CMns K) H' m d e M R (putT T' n x) pa → Go (TL K) (TG K) (fun b => b = e) H1 H' → D.nx (Sg q m o w M x0 x2 (some (.str n)) x11 x12 (some (.int x)) x14 (some (.bl (canOn R n x))) x16 x17 x18 x19 x20 x21) H') →
      t D (Sg q m o w M x0 x2 (some (.str n)) x11 x12 (some (.int x)) x14 (some (.bl (canOn R n x))) x16 x17 x18 x19 x20 x21) H := by
  have hu := hu_of hr
  refine ⟨_, (ps_if (pt_cmpR op_eq (pe_cmpR op_eq (told_law T hr (LamX.lamS_by (by decide +kernel)) rfl (fun _ _ _ _ _ => rfl) (fun A outer s H E f c' hr2 => (pg_meth (ok_Mains_turn_on T) (hr2.mono (by decide)) T.cl_Mains T.me_Mains_turn_on pxl (pv 6) (pa_cons (pv 3) (pa_cons (pv 13) pa_nil))))) pe_str (nomark _)) (pv 15) (nomark _)) (pss_one (ps_ret pe_bl)) pss_nil), fun D H q p m d e o w M R T' pa qa n x x0 x2 x11 x12 x14 x16 x17 x18 x19 x20 x21 W k1 k2 => ?_⟩
  refine ⟨W.tb, fun H1 g1 => ?_⟩
  have W1 := W.go0 g1
  obtain ⟨⟨dx, h1⟩, ps, ts, ne⟩ := id W1.mains
  walk_at "v"
  refine ⟨_, _, _, rfl, h1, rfl, ?_⟩
  walk_at "v"; walk_at "v"
  refine ⟨m, d, e, M, R, T', pa, n, x, rfl, W1.mains, W.wf, Nat.le_trans W.lenT (by decide), fun z H' g => ?_, fun z H' D' g => ?_⟩
  · refine ⟨true, T.em_WaterError_WaterError, fun _ => ?_, fun z => by cases z⟩
    refine ⟨rfl, ?_⟩
    walk_at "v"
    refine ⟨rfl, _, rfl, ?_⟩
    refine ite2 (fun y => absurd (of_decide_eq_true y) ?_) (fun _ => k1 H' z (W1.go0 g))
    rw [show canOn R n x = _ from z]
    intro y
    have y2 := V.bl.inj y
    rw [decide_eq_true rfl] at y2
    cases y2
  · refine ⟨rfl, ?_⟩
    walk_at "v"
    refine ⟨rfl, _, rfl, ?_⟩
    refine ite2 (fun y => absurd (of_decide_eq_true y) ?_) (fun _ => k2 H1 H' z W1 D' g)
    rw [show canOn R n x = _ from z]
    intro y
    have y2 := V.bl.inj y
    rw [decide_eq_false (by intro z; cases z)] at y2
    cases y2
/-- good = name in wishes -/
theorem law_c1 (T : Txt K mg base) {A : Around} {outer : List Env} {s : Shared} {H0 : Hp} {E0 : XK} (hr : Room 6 (A.deeper (envOfC d_law.qual d_law.scope s.heap.objs.size (He.fAd K d_law.at_) (.ref (He.codeOf K d_law.at_))))) :
    ∃ t, PS (bodyX P w K mg base N_law d_law A outer s H0 E0) ((subS ((elsS ((elsS ((subS ((subS ((d_law.body).getD 0 noS)).getD 2 noS)).getD 1 noS)).getD 0 noS)).getD 0 noS)).getD 0 noS) t ∧ ∀ (D : Ends) (H : Hp) (q m o w : Addr) (M : Mn) (T' : Ts) (n : Str) (x15 x0 x2 x11 x12 x13 x14 x16 x17 x18 x19 x20 x21 : Option V), H w = some (.dK (tkv T')) →
      D.nx (Sg q m o w M x0 x2 (some (.str n)) x11 x12 x13 x14 (some (.bl (T'.lookup n).isSome)) x16 x17 x18 x19 x20 x21) H → t D (Sg q m o w M x0 x2 (some (.str n)) x11 x12 x13 x14 x15 x16 x17 x18 x19 x20 x21) H := by
  have hu := hu_of hr
  refine ⟨_, (ps_set (i := 15) sc_law.nd rfl (by first | exact Or.inl rfl | exact Or.inr rfl) (pe_cmp (pc_din hu (pv 3) (pv 8)))), fun D H q m o w M T' n x15 x0 x2 x11 x12 x13 x14 x16 x17 x18 x19 x20 x21 W k => ?_⟩
  walk_at "v"; walk_at "v"
  refine ⟨_, _, rfl, ts_get W, ?_⟩
  rw [Option.isSome_map]
  exact k
theorem law_c2 (T : Txt K mg base) {A : Around} {outer : List Env} {s : Shared} {H0 : Hp} {E0 : XK} (hr : Room 6 (A.deeper (envOfC d_law.qual d_law.scope s.heap.objs.size (He.fAd K d_law.at_) (.ref (He.codeOf K d_law.at_))))) :
    ∃ t, PS (bodyX P w K mg base N_law d_law A outer s H0 E0) ((subS ((elsS ((elsS ((subS ((subS ((d_law.body).getD 0 noS)).getD 2 noS)).getD 1 noS)).getD 0 noS)).getD 0 noS)).getD 1 noS) t ∧ ∀ (D : Ends) (H : Hp) (q p m d e o w : Addr) (M : Mn) (R : Ps) (T' : Ts) (pa qa : Str → Addr) (n : Str) (x0 x2 x11 x12 x13 x14 x16 x17 x18 x19 x20 x21 : Option V), W2 K H q p m d e o w M R T' pa qa →
      (∀ H', (T'.lookup n).isSome = false → W2 K H' q p m d e o w M R T' pa qa → D.nx (Sg q m o w M x0 x2 (some (.str n)) x11 x12 x13 x14 (some (.bl (T'.lookup n).isSome)) x16 x17 x18 x19 x20 x21) H') →
      (∀ H1 H', (T'.lookup n).isSome = true → W2 K H1 q p m d e o w M R T' pa qa → MainsAt (CMns K) H' m d e M R (T'.filter fun p => decide (p.1 ≠ n)) pa → Go (TL K) (TG K) (fun b => b = e) H1 H' → D.nx (Sg q m o w M x0 x2 (some (.str n)) x11 x12 x13 x14 (some (.bl (T'.lookup n).isSome)) x16 x17 x18 x19 x20 x21) H') →
      t D (Sg q m o w M x0 x2 (some (.str n)) x11 x12 x13 x14 (some (.bl (T'.lookup n).isSome)) x16 x17 x18 x19 x20 x21) H := by
  have hu := hu_of hr
  refine ⟨_, (ps_if (pt_cmpR op_eq (pe_cmpR op_eq (told_law T hr (LamX.lamS_by (by decide +kernel)) rfl (fun _ _ _ _ _ => rfl) (fun A outer s H E f c' hr2 => (pg_meth (ok_Mains_turn_off T) (hr2.mono (by decide)) T.cl_Mains T.me_Mains_turn_off pxl (pv 6) (pa_cons (pv 3) pa_nil)))) pe_str (nomark _)) (pv 15) (nomark _)) (pss_one (ps_ret pe_bl)) pss_nil), fun D H q p m d e o w M R T' pa qa n x0 x2 x11 x12 x13 x14 x16 x17 x18 x19 x20 x21 W k1 k2 => ?_⟩
  refine ⟨W.tb, fun H1 g1 => ?_⟩
  have W1 := W.go0 g1
  obtain ⟨⟨dx, h1⟩, ps, ts, ne⟩ := id W1.mains
  walk_at "v"
  refine ⟨_, _, _, rfl, h1, rfl, ?_⟩
  walk_at "v"
  refine ⟨m, d, e, M, R, T', pa, n, rfl, W1.mains, fun z => ?_, fun z H' D' g => ?_⟩
  · refine ⟨true, T.em_WaterError_WaterError, fun _ => ?_, fun z => by cases z⟩
    refine ⟨rfl, ?_⟩
    walk_at "v"
    refine ⟨rfl, _, rfl, ?_⟩
    refine ite2 (fun y => absurd (of_decide_eq_true y) ?_) (fun _ => k1 H1 z W1)
    rw [z]
    intro y
    have y2 := V.bl.inj y
    rw [decide_eq_true rfl] at y2
    cases y2
  · refine ⟨rfl, ?_⟩
    walk_at "v"
    refine ⟨rfl, _, rfl, ?_⟩
    refine ite2 (fun y => absurd (of_decide_eq_true y) ?_) (fun _ => k2 H1 H' z W1 D' g)
    rw [z]
    intro y
    have y2 := V.bl.inj y
    rw [decide_eq_false (by intro z; cases z)] at y2
    cases y2
/-- wishes = dict(those but name's) -/
theorem law_c3 (T : Txt K mg base) {A : Around} {outer : List Env} {s : Shared} {H0 : Hp} {E0 : XK} (hr : Room 6 (A.deeper (envOfC d_law.qual d_law.scope s.heap.objs.size (He.fAd K d_law.at_) (.ref (He.codeOf K d_law.at_))))) :
    ∃ t, PS (bodyX P w K mg base N_law d_law A outer s H0 E0) ((subS ((elsS ((elsS ((subS ((subS ((d_law.body).getD 0 noS)).getD 2 noS)).getD 1 noS)).getD 0 noS)).getD 0 noS)).getD 2 noS) t ∧ ∀ (D : Ends) (H : Hp) (q m o w : Addr) (M : Mn) (T' : Ts) (n : Str) (x15 x0 x2 x11 x12 x13 x14 x16 x17 x18 x19 x20 x21 : Option V), H w = some (.dK (tkv T')) → (T'.map fun p => p.1).Nodup → T'.length ≤ 100 →
      (∀ w' H', H w' = none → H' w' = some (.dK (tkv (T'.filter fun p => decide (p.1 ≠ n)))) → Go (TL K) (TG K) (fun _ => False) H H' → D.nx (Sg q m o w' M x0 x2 (some (.str n)) x11 x12 x13 x14 x15 x16 x17 x18 x19 x20 x21) H') → t D (Sg q m o w M x0 x2 (some (.str n)) x11 x12 x13 x14 x15 x16 x17 x18 x19 x20 x21) H := by
  have hu := hu_of hr
  refine ⟨_, (ps_set (i := 8) sc_law.nd rfl (by first | exact Or.inl rfl | exact Or.inr rfl) (pe_callTy (call_dictP rfl) (by rfl) T.fr_dict (by decide +kernel) (pa_cons (pe_lock (pe_lc (own := [("one", 18)]) (g := gName 18) rfl sc_law.nd (pi_keys (pv 8)) (blkOk_by (own := [("one", 18)]) (N := N_law) (sc := d_law.scope) (by decide +kernel)) (fun _ _ _ _ _ => (pg_name (i := 18) sc_law.nd rfl (by first | exact Or.inl rfl | exact Or.inr rfl))) (fun _ _ _ _ _ => pts_one (pt_cmpR op_ne (pv 18) (pv 3) (nomark _))) (fun _ _ _ _ _ => (pe_tup (pa_cons (pv 18) (pa_cons (pe_dget hu (pv 8) (pv 18) (fun _ _ => rfl)) pa_nil)))))) pa_nil))), fun D H q m o w M T' n x15 x0 x2 x11 x12 x13 x14 x16 x17 x18 x19 x20 x21 W nd lT k => ?_⟩
  refine ⟨w, _, W, trivial, fun od => ?_⟩
  walk_at "v"
  have wk := walk_keysV (d := w) (o := od) (kvs := tkv T')
  rw [keys_tkv] at wk
  refine ⟨w, od, rfl, .inl ⟨_, upd_same, fun L hL => ?_⟩⟩
  have nLw : L ≠ w := fun z => by rw [z, upd_same] at hL; cases hL
  have hL0 : H L = none := by rw [upd_ne nLw] at hL; exact hL
  refine lc_pre V.str (T'.map fun p => p.1) (by simp) wk (fun pre H' => PrAt H' L ((pre.filter fun y => decide (y ≠ n)).map fun y => (y, V.int (wishS T' y))) ∧ Go (TL K) (TG K) (fun a => a = L) (upd H w (.frz od (.dK (tkv T')))) H') ⟨.nil upd_same, Go.new hL⟩ (fun pre H' h => h.2.keep _ _ upd_same (by intro _ z; cases z) nLw.symm) ?_ ?_
  · rintro pre y post H' eb ⟨pr, g⟩
    have hy : y ∈ T'.map fun p => p.1 := by rw [eb]; simp
    obtain ⟨u, eu⟩ := lookK hy
    have eg : DGet H' w (.str y) (some (.int (wishS T' y))) := .inl ⟨_, Sum.inr y, .inr ⟨od, g.keep _ _ upd_same (by intro _ z; cases z) nLw.symm⟩, rfl, by
      unfold wishS
      rw [val_lookT, eu] <;> rfl⟩
    refine ⟨rfl, ?_⟩
    walk_at "v"; walk_at "v"
    refine ⟨rfl, _, rfl, ?_⟩
    show if (!decide (V.str y = V.str n)) = true then _ else _
    by_cases z : y = n
    · refine iteF' (by rw [decide_eq_true (by rw [z])] <;> rfl) ⟨?_, g⟩
      rw [List.filter_append, List.filter_cons, if_neg (by simp [z]), List.filter_nil, List.append_nil]
      exact pr
    · refine iteT' (by rw [decide_eq_false fun e => z (V.str.inj e)] <;> rfl) ?_
      walk_at "v"; walk_at "v"; walk_at "v"
      refine ⟨_, _, rfl, eg, ?_⟩
      refine ⟨(by show 2 ≤ sizeLine; decide), fun p3 hp3 => ?_⟩
      obtain ⟨acc, e4, l4, p4⟩ := pr.snoc (n := y) (v := .int (wishS T' y)) hp3
      refine ⟨acc, e4, ?_, ?_, (g.trans (Go.new hp3)).trans (Go.set e4 plain_lst rfl)⟩
      · rw [l4, List.length_map]
        exact Nat.lt_of_le_of_lt (List.length_filter_le _ _) (thou_lt (len_mid (k := 1000) eb (by rw [List.length_map]; omega)))
      · rw [List.filter_append, List.filter_cons, if_pos (by simp [z]), List.filter_nil, List.map_append]
        exact p4
  · rintro H' ⟨pr, g⟩
    have eo := g.keep _ _ upd_same (by intro _ z; cases z) nLw.symm
    refine ⟨eo, ?_⟩
    have gu := g.unlock W plain_dK eo
    have gu' : Go (TL K) (TG K) (fun _ => False) H (upd H' w (.dK (tkv T'))) := gu.drop fun b z => .inr (by rw [z]; exact hL0)
    have pr2 := pr.go (Go.set (TL := TL K) (TG := TG K) (S := fun a => a = w) (o := .dK (tkv T')) eo plain_frz rfl) nLw fun b xs e z => by rw [z, eo] at e; cases e
    obtain ⟨as, q1, q2⟩ := pr2.pairs (K := K)
    refine ⟨L, as, _, rfl, q1, q2, fun w' hw' => ?_⟩
    rw [mergeK_S (by rw [keys_S]; exact nd.filter _)]
    refine k w' _ (gu'.free w' hw') ?_ (gu'.trans (Go.new hw'))
    rw [upd_same, cut_one nd]
end
end K2
namespace K2
open PySem PySem.Spec PyProof.Rows L2 Fy
open GxR (TabG Tabbed)
theorem lay_strs {ns : List Str} (h : ∀ n ∈ ns, PyData.strOk n = true) : PyData.canLayAll0 (ns.map PyData.str) = true ∧ PyData.depthAll (ns.map PyData.str) ≤ 1 := by
  induction ns with
  | nil => exact ⟨rfl, by simp [PyData.depthAll]⟩
  | cons a r ih =>
    obtain ⟨h1, h2⟩ := ih fun n hn => h n (List.mem_cons_of_mem _ hn)
    refine ⟨?_, ?_⟩
    · simp only [List.map_cons, PyData.canLayAll0, PyData.canLay0, Bool.and_eq_true]
      exact ⟨h a List.mem_cons_self, h1⟩
    · simp only [List.map_cons, PyData.depthAll, PyData.depth]
      omega
theorem shaped_tstrs {ns : List Str} (h : ∀ n ∈ ns, PyData.strOk n = true) : SeqAt.shaped (.tuple (ns.map PyData.str)) = true := by
  obtain ⟨h1, h2⟩ := lay_strs h
  show (PyData.canLay0 (.tuple (ns.map PyData.str)) && decide (PyData.depth (.tuple (ns.map PyData.str)) ≤ 64)) = true
  rw [Bool.and_eq_true]
  refine ⟨by simp only [PyData.canLay0]; exact h1, decide_eq_true ?_⟩
  simp only [PyData.depth]
  omega
theorem shaped_lstrs {ns : List Str} (h : ∀ n ∈ ns, PyData.strOk n = true) : SeqAt.shaped (.list (ns.map PyData.str)) = true := by
  obtain ⟨h1, h2⟩ := lay_strs h
  show (PyData.canLay0 (.list (ns.map PyData.str)) && decide (PyData.depth (.list (ns.map PyData.str)) ≤ 64)) = true
  rw [Bool.and_eq_true]
  refine ⟨by simp only [PyData.canLay0]; exact h1, decide_eq_true ?_⟩
  simp only [PyData.depth]
  omega
theorem look_cut {α : Type} {g : List Str} {R : List (Str × α)} {m : Str} : (cutP g R).lookup m = if m ∈ g then none else R.lookup m := by
  unfold cutP
  induction R with
  | nil => simp
  | cons p r ih =>
    obtain ⟨k, y⟩ := p
    rw [List.filter_cons, List.lookup_cons]
    by_cases e : m = k
    · subst e
      by_cases z : m ∈ g
      · rw [if_neg (by simp [z]), ih, if_pos z, if_pos z]
      · rw [if_pos (by simp [z]), List.lookup_cons, if_neg z]
        simp
    · have e2 : (m == k) = false := by simpa using e
      by_cases z : k ∈ g
      · rw [if_neg (by simp [z]), ih, e2]
      · rw [if_pos (by simp [z]), List.lookup_cons, e2, ih]
theorem WfP.gone {R : Ps} (w : WfP R) {n m : Str} : m ∈ goneS R n ↔ (∃ y, R.lookup m = some y) ∧ n ∈ lineS R m := by
  unfold goneS
  rw [List.mem_filter, mem_sortS]
  constructor
  · rintro ⟨h1, h2⟩
    exact ⟨lookK h1, of_decide_eq_true h2⟩
  · rintro ⟨⟨y, h1⟩, h2⟩
    exact ⟨List.mem_map.mpr ⟨_, lookM h1, rfl⟩, decide_eq_true h2⟩
theorem WfP.cut {R : Ps} (w : WfP R) (n : Str) : WfP (cutP (goneS R n) R) := by
  obtain ⟨rk, hr⟩ := w.rk
  refine ⟨?_, Nat.le_trans (List.length_filter_le _ _) w.len, rk, fun m a t e => ?_⟩
  · unfold cutP
    exact (List.Sublist.map _ (List.filter_sublist)).nodup w.nd
  · rw [look_cut] at e
    by_cases z : m ∈ goneS R n
    · rw [if_pos z] at e
      cases e
    · rw [if_neg z] at e
      obtain ⟨⟨y, ey⟩, lt⟩ := hr m a t e
      refine ⟨⟨y, ?_⟩, lt⟩
      rw [look_cut, if_neg]
      · exact ey
      · intro za
        obtain ⟨_, h2⟩ := w.gone.mp za
        obtain ⟨l, hl⟩ := w.line ey
        rw [lineS_eq hl] at h2
        refine z (w.gone.mpr ⟨⟨_, e⟩, ?_⟩)
        rw [lineS_eq (Line.cons e hl)]
        exact List.mem_cons_of_mem _ h2
section
variable {P : Program} {w : World} {K : PySem.W.Frag} {mg : Str → Option Value} {base : Heap}
noncomputable abbrev goneI (R : Ps) (n : Str) : List Str := if (R.lookup n).isSome = true then goneS R n else []
/-- gone = .. -/
theorem law_d0 (T : Txt K mg base) {A : Around} {outer : List Env} {s : Shared} {H0 : Hp} {E0 : XK} (hr : Room 6 (A.deeper (envOfC d_law.qual d_law.scope s.heap.objs.size (He.fAd K d_law.at_) (.ref (He.codeOf K d_law.at_))))) :
    ∃ t, PS (bodyX P w K mg base N_law d_law A outer s H0 E0) ((subS ((elsS ((elsS ((elsS ((subS ((subS ((d_law.body).getD 0 noS)).getD 2 noS)).getD 1 noS)).getD 0 noS)).getD 0 noS)).getD 0 noS)).getD 0 noS) t ∧ ∀ (D : Ends) (H : Hp) (q m o w : Addr) (M : Mn) (R : Ps) (qa : Str → Addr) (n : Str) (x16 x0 x2 x11 x12 x13 x14 x15 x17 x18 x19 x20 x21 : Option V), PsAt H o R qa → WfP R →
      (∀ gl H', H gl = none → H' gl = some (.lst ((goneI R n).map V.str)) → Go (TL K) (TG K) (fun _ => False) H H' → D.nx (Sg q m o w M x0 x2 (some (.str n)) x11 x12 x13 x14 x15 (some (.ref gl)) x17 x18 x19 x20 x21) H') → t D (Sg q m o w M x0 x2 (some (.str n)) x11 x12 x13 x14 x15 x16 x17 x18 x19 x20 x21) H := by
  have hu := hu_of hr
  refine ⟨_, (ps_set (i := 16) sc_law.nd rfl (by first | exact Or.inl rfl | exact Or.inr rfl) (pe_ifExp (pt_cmp (pc_din hu (pv 3) (pv 7))) (pe_lc (own := [("one", 18)]) (g := gName 18) rfl sc_law.nd (pi_list (pe_callB (cr_sortD hr) (by rfl) T.fr_sorted (by decide +kernel) (pa_cons (pv 7) pa_nil))) (blkOk_by (own := [("one", 18)]) (N := N_law) (sc := d_law.scope) (by decide +kernel)) (fun _ _ _ _ _ => (pg_name (i := 18) sc_law.nd rfl (by first | exact Or.inl rfl | exact Or.inr rfl))) (fun _ _ _ _ _ => pts_one (pt_cmpR (op_in_seqK K rfl) (pv 3) (pg_call (ok_law_line T) (hr.mono (by decide)) rfl T.gl_law_line passL (pa_cons (pv 7) (pa_cons (pv 18) pa_nil))) rfl)) (fun _ _ _ _ _ => (pv 18))) (pe_lst pa_nil))), fun D H q m o w M R qa n x16 x0 x2 x11 x12 x13 x14 x15 x17 x18 x19 x20 x21 W wf k => ?_⟩
  walk_at "v"; walk_at "v"
  refine ⟨_, _, rfl, W.no, _, rfl, ?_⟩
  cases en : R.lookup n with
  | none =>
    refine iteF ⟨(by decide), fun gl hgl => ?_⟩
    refine k gl _ hgl ?_ (Go.new hgl)
    rw [upd_same]
    simp [goneI, en]
  | some y0 =>
    refine iteT ?_
    have eg : goneI R n = goneS R n := by simp [goneI, en]
    rw [eg] at k
    walk_at "v"
    refine ⟨_, _, rfl, .inl W.dc, (by rw [keys_ps]; exact sortb_str _), fun sl hsl => ?_⟩
    rw [keys_ps, sortV_str]
    have g2 := Go.new (TL := TL K) (TG := TG K) (S := fun _ => False) (o := .lst ((sortS (R.map fun p => p.1)).map V.str)) hsl
    have e2 : upd H sl (.lst ((sortS (R.map fun p => p.1)).map V.str)) sl = some (.lst ((sortS (R.map fun p => p.1)).map V.str)) := upd_same
    generalize upd H sl (.lst ((sortS (R.map fun p => p.1)).map V.str)) = H2 at g2 e2 ⊢
    have lk : (sortS (R.map fun p => p.1)).length ≤ 1000 := by rw [len_sortS, List.length_map]; exact wf.len
    refine ⟨sl, rfl, ⟨_, SqL.of e2⟩, fun L hL => lc_pre V.str (sortS (R.map fun p => p.1)) rfl walk_itl (fun pre H' => H' L = some (.lst ((pre.filter fun x => decide (n ∈ lineS R x)).map V.str)) ∧ Go (TL K) (TG K) (fun a => a = L) H2 H') ⟨upd_same, Go.new hL⟩ (fun acc H' h => SqL.of (h.2.keep _ _ e2 (by intro _ z; cases z) (ne_of_none e2 hL))) ?_ ?_⟩
    · rintro pre x post H3 eb ⟨e3, g3⟩
      have l3 := List.length_filter_le (fun x => decide (n ∈ lineS R x)) pre
      have hx : x ∈ R.map fun p => p.1 := mem_sortS.mp (by rw [eb]; simp)
      obtain ⟨y, ey⟩ := lookK hx
      have fL : H L = none := g2.free L hL
      have D3 : PsAt H3 o R qa := W.go ((g2.wide.trans g3).drop (S' := fun _ => False) fun b z => .inr (by rw [z]; exact fL)) id (fun _ _ => id)
      refine ⟨rfl, ?_⟩
      walk_at "v"; walk_at "v"; walk_at "v"
      refine ⟨o, R, qa, x, rfl, D3.rd, wf, ⟨y, ey⟩, fun l2 hl2 p2 H4 hp2 hp21 g4 => ?_⟩
      have hln : lineS R x = l2 := lineS_eq hl2
      refine ⟨p2, _, rfl, .inl (SqL.of hp21), rfl, flat_strs _, _, rfl, ?_⟩
      rw [inV_str]
      show if decide (n ∈ l2) = true then _ else _
      have e4 := g4.get e3
      by_cases z : n ∈ l2
      · refine iteT' (decide_eq_true z) ?_
        walk_at "v"
        refine ⟨_, e4, (by rw [List.length_map]; exact Nat.lt_of_le_of_lt l3 (thou_lt (len_mid eb lk))), ?_, g3.trans (g4.wide.trans (Go.set e4 plain_lst rfl))⟩
        rw [upd_same, List.filter_append, List.filter_cons, if_pos (by rw [hln]; exact decide_eq_true z), List.filter_nil, List.map_append]
        rfl
      · refine iteF' (decide_eq_false z) ⟨?_, g3.trans g4.wide⟩
        rw [List.filter_append, List.filter_cons, if_neg (by rw [hln, decide_eq_false z]; decide), List.filter_nil, List.append_nil]
        exact e4
    rintro H3 ⟨e3, g3⟩
    have fL : H L = none := g2.free L hL
    exact k L H3 fL e3 ((g2.wide.trans g3).drop fun b z => .inr (by rw [z]; exact fL))
/-- if told(lambda: mains.broken(name)) != ..: return False -/
theorem law_d1 (T : Txt K mg base) {A : Around} {outer : List Env} {s : Shared} {H0 : Hp} {E0 : XK} (hr : Room 6 (A.deeper (envOfC d_law.qual d_law.scope s.heap.objs.size (He.fAd K d_law.at_) (.ref (He.codeOf K d_law.at_))))) :
    ∃ t, PS (bodyX P w K mg base N_law d_law A outer s H0 E0) ((subS ((elsS ((elsS ((elsS ((subS ((subS ((d_law.body).getD 0 noS)).getD 2 noS)).getD 1 noS)).getD 0 noS)).getD 0 noS)).getD 0 noS)).getD 1 noS) t ∧ ∀ (D : Ends) (H : Hp) (q p m d e o w gl : Addr) (M : Mn) (R : Ps) (T' : Ts) (pa qa : Str → Addr) (n : Str) (x0 x2 x11 x12 x13 x14 x15 x17 x18 x19 x20 x21 : Option V), W2 K H q p m d e o w M R T' pa qa → PyData.strOk n = true → H gl = some (.lst ((goneI R n).map V.str)) → gl ≠ m → gl ≠ e →
      (∀ H', R.lookup n = none → W2 K H' q p m d e o w M R T' pa qa → H' gl = some (.lst ((goneI R n).map V.str)) → D.nx (Sg q m o w M x0 x2 (some (.str n)) x11 x12 x13 x14 x15 (some (.ref gl)) x17 x18 x19 x20 x21) H') →
      (∀ d' H1 H', (R.lookup n).isSome = true → W2 K H1 q p m d e o w M R T' pa qa → H1 d' = none → MainsAt (CMns K) H' m d' e M (cutP (goneS R n) R) (cutP (goneS R n) T') pa → Go (TL K) (TG K) (fun b => b = m ∨ b = e) H1 H' → H' gl = some (.lst ((goneI R n).map V.str)) → D.nx (Sg q m o w M x0 x2 (some (.str n)) x11 x12 x13 x14 x15 (some (.ref gl)) x17 x18 x19 x20 x21) H') →
      t D (Sg q m o w M x0 x2 (some (.str n)) x11 x12 x13 x14 x15 (some (.ref gl)) x17 x18 x19 x20 x21) H := by
  have hu := hu_of hr
  refine ⟨_, (ps_if (pt_cmpR (op_neD hr.units) (told_law T hr (LamX.lamS_by (by decide +kernel)) rfl (fun _ _ _ _ _ => rfl) (fun A outer s H E f c' hr2 => (pg_meth (ok_Mains_broken T) (hr2.mono (by decide)) T.cl_Mains T.me_Mains_broken pxl (pv 6) (pa_cons (pv 3) pa_nil)))) (pe_ifExp (pt_cmp (pc_din hu (pv 3) (pv 7))) (pe_callTy call_tuple_of (by rfl) T.fr_tuple (by decide +kernel) (pa_cons (pv 16) pa_nil)) pe_str) (nomark _)) (pss_one (ps_ret pe_bl)) pss_nil), fun D H q p m d e o w gl M R T' pa qa n x0 x2 x11 x12 x13 x14 x15 x17 x18 x19 x20 x21 W okn egl nglm ngle k1 k2 => ?_⟩
  refine ⟨W.tb, fun H1 g1 => ?_⟩
  have W1 := W.go0 g1
  have egl1 := g1.get egl
  obtain ⟨⟨dx, h1⟩, ps, ts, ne⟩ := id W1.mains
  walk_at "v"
  refine ⟨_, _, _, rfl, h1, rfl, ?_⟩
  walk_at "v"
  refine ⟨m, d, e, M, R, T', pa, n, rfl, W1.mains, W1.wf, W1.tb, fun en => ?_, fun en p1 d' H2 hp1 hd' ep1 D2 g2 => ?_⟩
  · refine ⟨true, T.em_WaterError_WaterError, fun _ => ?_, fun z => by cases z⟩
    walk_at "v"; walk_at "v"
    refine ⟨_, _, rfl, W1.own.no, _, rfl, ?_⟩
    rw [en]
    refine iteF ?_
    have se : SeqAt.shaped (PyData.str "WaterError") = true := by decide +kernel
    refine ⟨.str "WaterError", .str "WaterError", .str _, .str _, se, se, ?_⟩
    rw [eqv_same se]
    exact ⟨_, rfl, iteF (k1 H1 en W1 egl1)⟩
  · have en' : ∃ y, R.lookup n = some y := Option.isSome_iff_exists.mp en
    obtain ⟨y, ey⟩ := en'
    have own2 : PsAt H2 o R qa := W1.own.go g2 (fun z => z.elim (fun z => ne_of W1.own.dc h1 (by intro z; cases z) z) fun z => W1.eo z.symm) (fun p hp z => z.elim (fun z => ne_of (W1.own.row p hp) h1 (by intro z; cases z) z) fun z => ne_of (W1.own.row p hp) ts (by intro z; cases z) z)
    walk_at "v"; walk_at "v"
    refine ⟨_, _, rfl, own2.no, _, rfl, ?_⟩
    rw [ey]
    refine iteT ?_
    have egl2 := g2.keep _ _ egl1 (by intro _ z; cases z) fun z => z.elim nglm ngle
    have eg : goneI R n = goneS R n := by simp [goneI, ey]
    walk_at "v"
    refine ⟨gl, _, rfl, .inl ⟨SqL.of egl2, fun t2 ht2 => ?_⟩⟩
    have e3 := ne_of_none ep1 ht2
    have sh : SeqAt.shaped (.tuple ((goneS R n).map PyData.str)) = true := shaped_tstrs fun x hx => by
      obtain ⟨⟨z, ez⟩, _⟩ := W.wf.gone.mp hx
      exact W.okK ez
    refine ⟨.tuple ((goneS R n).map PyData.str), .tuple ((goneS R n).map PyData.str), .tup (SqT.of (by rw [upd_ne e3]; exact ep1)) (dpAll_map (fun _ => .str _) _), .tup (SqT.of (by rw [upd_same, eg])) (dpAll_map (fun _ => .str _) _), sh, sh, ?_⟩
    rw [eqv_same sh]
    have gx := Go.new (TL := TL K) (TG := TG K) (S := fun _ => False) (o := .tup ((goneI R n).map V.str)) ht2
    exact ⟨_, rfl, iteF (k2 d' H1 _ en W1 hd' (D2.go gx id id id fun _ _ => id) (g2.trans gx.wide) (gx.get egl2))⟩
end
end K2
namespace K2
open PySem PySem.Spec PyProof.Rows L2 Fy
open GxR (TabG Tabbed)
theorem cut_psR (R : Ps) (qa : Str → Addr) (g : List Str) : kvS (((R.map fun p => p.1).filter fun y => !decide (y ∈ g)).map fun y => (y, V.ref (qa y))) = (cutP g R).map fun p => ((Sum.inr p.1 : Key), V.ref (qa p.1)) := by
  unfold kvS cutP
  rw [List.map_map, List.filter_map, List.map_map]
  rfl
theorem cut_tkv {T : Ts} (nd : (T.map fun p => p.1).Nodup) (g : List Str) : kvS (((T.map fun p => p.1).filter fun y => !decide (y ∈ g)).map fun y => (y, V.int (wishS T y))) = tkv (cutP g T) := cut_kv nd fun y => !decide (y ∈ g)
theorem same_int {K : PySem.W.Frag} {H : Hp} (i : Int) : SameD K H (.int i) (.int i) := ⟨.int i, .int i, .int i, rfl⟩
def odt : Option Str → PyData
  | none => .none
  | some x => .str x
theorem dp_ov {K : PySem.W.Frag} {H : Hp} (a : Option Str) : Dp K H (ov a) (odt a) := by
  cases a
  · exact .non
  · exact .str _
theorem same_row {K : PySem.W.Frag} {H : Hp} {t u : Addr} {a : Option Str} {i : Int} (h1 : H t = some (.tup [ov a, .int i])) (h2 : H u = some (.tup [ov a, .int i])) (ok : ∀ x, a = some x → PyData.strOk x = true) : SameD K H (.ref t) (.ref u) := by
  refine ⟨.tuple [odt a, .int i], .tup (SqT.of h1) (.cons (dp_ov a) (.cons (.int i) .nil)), .tup (SqT.of h2) (.cons (dp_ov a) (.cons (.int i) .nil)), ?_⟩
  show (PyData.canLay0 (.tuple [odt a, .int i]) && decide (PyData.depth (.tuple [odt a, .int i]) ≤ 64)) = true
  rw [Bool.and_eq_true]
  cases a with
  | none => exact ⟨rfl, by simp [odt, PyData.depth, PyData.depthAll]⟩
  | some x =>
    refine ⟨?_, by simp [odt, PyData.depth, PyData.depthAll]⟩
    simp only [odt, PyData.canLay0, PyData.canLayAll0, Bool.and_eq_true]
    exact ⟨ok x rfl, trivial, trivial⟩
section
variable {P : Program} {w : World} {K : PySem.W.Frag} {mg : Str → Option Value} {base : Heap}
/-- pipes, wishes = those that are not gone -/
theorem law_d2 (T : Txt K mg base) {A : Around} {outer : List Env} {s : Shared} {H0 : Hp} {E0 : XK} (hr : Room 6 (A.deeper (envOfC d_law.qual d_law.scope s.heap.objs.size (He.fAd K d_law.at_) (.ref (He.codeOf K d_law.at_))))) :
    ∃ t, PS (bodyX P w K mg base N_law d_law A outer s H0 E0) ((subS ((elsS ((elsS ((elsS ((subS ((subS ((d_law.body).getD 0 noS)).getD 2 noS)).getD 1 noS)).getD 0 noS)).getD 0 noS)).getD 0 noS)).getD 2 noS) t ∧ ∀ (D : Ends) (H : Hp) (q m o w gl : Addr) (M : Mn) (R : Ps) (T' : Ts) (qa : Str → Addr) (n : Str) (g : List Str) (x0 x2 x11 x12 x13 x14 x15 x17 x18 x19 x20 x21 : Option V), PsAt H o R qa → (R.map fun p => p.1).Nodup → R.length ≤ 100 → H w = some (.dK (tkv T')) → (T'.map fun p => p.1).Nodup → T'.length ≤ 100 → H gl = some (.lst (g.map V.str)) →
      (∀ o' w' H', H o' = none → H w' = none → PsAt H' o' (cutP g R) qa → H' w' = some (.dK (tkv (cutP g T'))) → Go (TL K) (TG K) (fun _ => False) H H' → D.nx (Sg q m o' w' M x0 x2 (some (.str n)) x11 x12 x13 x14 x15 (some (.ref gl)) x17 x18 x19 x20 x21) H') →
      t D (Sg q m o w M x0 x2 (some (.str n)) x11 x12 x13 x14 x15 (some (.ref gl)) x17 x18 x19 x20 x21) H := by
  have hu := hu_of hr
  refine ⟨_, (ps_asg (pe_tup (pa_cons (pe_callTy (call_dictP rfl) (by rfl) T.fr_dict (by decide +kernel) (pa_cons (pe_lock (pe_lc (own := [("one", 18)]) (g := gName 18) rfl sc_law.nd (pi_keys (pv 7)) (blkOk_by (own := [("one", 18)]) (N := N_law) (sc := d_law.scope) (by decide +kernel)) (fun _ _ _ _ _ => (pg_name (i := 18) sc_law.nd rfl (by first | exact Or.inl rfl | exact Or.inr rfl))) (fun _ _ _ _ _ => pts_one (pt_cmpR (op_notIn_seqK K rfl) (pv 18) (pv 16) rfl)) (fun _ _ _ _ _ => (pe_tup (pa_cons (pv 18) (pa_cons (pe_dget hu (pv 7) (pv 18) (fun _ _ => rfl)) pa_nil)))))) pa_nil)) (pa_cons (pe_callTy (call_dictP rfl) (by rfl) T.fr_dict (by decide +kernel) (pa_cons (pe_lock (pe_lc (own := [("one", 18)]) (g := gName 18) rfl sc_law.nd (pi_keys (pv 8)) (blkOk_by (own := [("one", 18)]) (N := N_law) (sc := d_law.scope) (by decide +kernel)) (fun _ _ _ _ _ => (pg_name (i := 18) sc_law.nd rfl (by first | exact Or.inl rfl | exact Or.inr rfl))) (fun _ _ _ _ _ => pts_one (pt_cmpR (op_notIn_seqK K rfl) (pv 18) (pv 16) rfl)) (fun _ _ _ _ _ => (pe_tup (pa_cons (pv 18) (pa_cons (pe_dget hu (pv 8) (pv 18) (fun _ _ => rfl)) pa_nil)))))) pa_nil)) pa_nil))) (pg_tup rfl (pgs_cons (pg_name (i := 7) sc_law.nd rfl (by first | exact Or.inl rfl | exact Or.inr rfl)) (pgs_cons (pg_name (i := 8) sc_law.nd rfl (by first | exact Or.inl rfl | exact Or.inr rfl)) pgs_nil)))), fun D H q m o w gl M R T' qa n g x0 x2 x11 x12 x13 x14 x15 x17 x18 x19 x20 x21 ps nR lR ts nT lT egl k => ?_⟩
  refine ⟨o, _, ps.dc, trivial, fun od => ?_⟩
  walk_at "v"
  have wk := walk_keysV (d := o) (o := od) (kvs := R.map fun p => ((Sum.inr p.1 : Key), V.ref (qa p.1)))
  rw [keys_ps] at wk
  have nglo : gl ≠ o := ne_of egl ps.dc (by intro z; cases z)
  refine ⟨o, od, rfl, .inl ⟨_, upd_same, fun L hL => ?_⟩⟩
  have nLw : L ≠ o := fun z => by rw [z, upd_same] at hL; cases hL
  have hL0 : H L = none := by rw [upd_ne nLw] at hL; exact hL
  have nglL : gl ≠ L := ne_of_none egl hL0
  refine lc_pre V.str (R.map fun p => p.1) (by simp) wk (fun pre H' => PrAt H' L ((pre.filter fun y => !decide (y ∈ g)).map fun y => (y, V.ref (qa y))) ∧ Go (TL K) (TG K) (fun a => a = L) (upd H o (.frz od (.dK (R.map fun p => (Sum.inr p.1, V.ref (qa p.1)))))) H') ⟨.nil upd_same, Go.new hL⟩ (fun pre H' h => h.2.keep _ _ upd_same (by intro _ z; cases z) nLw.symm) ?_ ?_
  · rintro pre y post H' eb ⟨pr, g1⟩
    have hy : y ∈ R.map fun p => p.1 := by rw [eb]; simp
    obtain ⟨u, eu⟩ := lookK hy
    have eg : DGet H' o (.str y) (some (.ref (qa y))) := .inl ⟨_, Sum.inr y, .inr ⟨od, g1.keep _ _ upd_same (by intro _ z; cases z) nLw.symm⟩, rfl, by rw [val_lookR, eu] <;> rfl⟩
    have egl' := g1.keep gl _ (by rw [upd_ne nglo]; exact egl) (by intro _ z; cases z) nglL
    refine ⟨rfl, ?_⟩
    walk_at "v"; walk_at "v"
    refine ⟨gl, _, rfl, .inl (SqL.of egl'), rfl, flat_strs _, _, rfl, ?_⟩
    rw [inV_str]
    show if (!decide (y ∈ g)) = true then _ else _
    by_cases z : y ∈ g
    · refine iteF' (by rw [decide_eq_true z] <;> rfl) ⟨?_, g1⟩
      rw [List.filter_append, List.filter_cons, if_neg (by simp [z]), List.filter_nil, List.append_nil]
      exact pr
    · refine iteT' (by rw [decide_eq_false z] <;> rfl) ?_
      walk_at "v"; walk_at "v"; walk_at "v"
      refine ⟨_, _, rfl, eg, ?_⟩
      refine ⟨(by show 2 ≤ sizeLine; decide), fun p3 hp3 => ?_⟩
      obtain ⟨acc, e4, l4, p4⟩ := pr.snoc (n := y) (v := .ref (qa y)) hp3
      refine ⟨acc, e4, ?_, ?_, (g1.trans (Go.new hp3)).trans (Go.set e4 plain_lst rfl)⟩
      · rw [l4, List.length_map]
        exact Nat.lt_of_le_of_lt (List.length_filter_le _ _) (thou_lt (len_mid (k := 1000) eb (by rw [List.length_map]; omega)))
      · rw [List.filter_append, List.filter_cons, if_pos (by simp [z]), List.filter_nil, List.map_append]
        exact p4
  rintro H' ⟨pr, g1⟩
  have eo := g1.keep _ _ upd_same (by intro _ z; cases z) nLw.symm
  refine ⟨eo, ?_⟩
  have gu := g1.unlock ps.dc plain_dK eo
  have gu' : Go (TL K) (TG K) (fun _ => False) H (upd H' o (.dK (R.map fun p => (Sum.inr p.1, V.ref (qa p.1))))) := gu.drop fun b z => .inr (by rw [z]; exact hL0)
  have pr2 := pr.go (Go.set (TL := TL K) (TG := TG K) (S := fun a => a = o) (o := .dK (R.map fun p => (Sum.inr p.1, V.ref (qa p.1)))) eo plain_frz rfl) nLw fun b xs e z => by rw [z, eo] at e; cases e
  obtain ⟨as, q1, q2⟩ := pr2.pairs (K := K)
  refine ⟨L, as, _, rfl, q1, q2, fun o' ho' => ?_⟩
  rw [mergeK_S (by rw [keys_S]; exact nR.filter _), cut_psR]
  have g2 := gu'.trans (Go.new (o := .dK ((cutP g R).map fun p => ((Sum.inr p.1 : Key), V.ref (qa p.1)))) ho')
  have eo' : upd (upd H' o (.dK (R.map fun p => (Sum.inr p.1, V.ref (qa p.1))))) o' (.dK ((cutP g R).map fun p => ((Sum.inr p.1 : Key), V.ref (qa p.1)))) o' = some (.dK ((cutP g R).map fun p => ((Sum.inr p.1 : Key), V.ref (qa p.1)))) := upd_same
  have fo : H o' = none := gu'.free o' ho'
  generalize upd (upd H' o (.dK (R.map fun p => (Sum.inr p.1, V.ref (qa p.1))))) o' (.dK ((cutP g R).map fun p => ((Sum.inr p.1 : Key), V.ref (qa p.1)))) = H2 at g2 eo' ⊢
  clear pr pr2 q1 q2 gu gu' eo g1 hL hL0 nLw nglL wk ho'
  have ts2 := g2.get ts
  have egl2 := g2.get egl
  refine ⟨w, _, ts2, trivial, fun od => ?_⟩
  walk_at "v"
  have wk := walk_keysV (d := w) (o := od) (kvs := tkv T')
  rw [keys_tkv] at wk
  have nglw : gl ≠ w := ne_of egl2 ts2 (by intro z; cases z)
  refine ⟨w, od, rfl, .inl ⟨_, upd_same, fun L hL => ?_⟩⟩
  have nLw : L ≠ w := fun z => by rw [z, upd_same] at hL; cases hL
  have hL0 : H2 L = none := by rw [upd_ne nLw] at hL; exact hL
  have nglL : gl ≠ L := ne_of_none egl2 hL0
  refine lc_pre V.str (T'.map fun p => p.1) (by simp) wk (fun pre H' => PrAt H' L ((pre.filter fun y => !decide (y ∈ g)).map fun y => (y, V.int (wishS T' y))) ∧ Go (TL K) (TG K) (fun a => a = L) (upd H2 w (.frz od (.dK (tkv T')))) H') ⟨.nil upd_same, Go.new hL⟩ (fun pre H' h => h.2.keep _ _ upd_same (by intro _ z; cases z) nLw.symm) ?_ ?_
  · rintro pre y post H' eb ⟨pr, g1⟩
    have hy : y ∈ T'.map fun p => p.1 := by rw [eb]; simp
    obtain ⟨u, eu⟩ := lookK hy
    have eg : DGet H' w (.str y) (some (.int (wishS T' y))) := .inl ⟨_, Sum.inr y, .inr ⟨od, g1.keep _ _ upd_same (by intro _ z; cases z) nLw.symm⟩, rfl, by
      unfold wishS
      rw [val_lookT, eu] <;> rfl⟩
    have egl' := g1.keep gl _ (by rw [upd_ne nglw]; exact egl2) (by intro _ z; cases z) nglL
    refine ⟨rfl, ?_⟩
    walk_at "v"; walk_at "v"
    refine ⟨gl, _, rfl, .inl (SqL.of egl'), rfl, flat_strs _, _, rfl, ?_⟩
    rw [inV_str]
    show if (!decide (y ∈ g)) = true then _ else _
    by_cases z : y ∈ g
    · refine iteF' (by rw [decide_eq_true z] <;> rfl) ⟨?_, g1⟩
      rw [List.filter_append, List.filter_cons, if_neg (by simp [z]), List.filter_nil, List.append_nil]
      exact pr
    · refine iteT' (by rw [decide_eq_false z] <;> rfl) ?_
      walk_at "v"; walk_at "v"; walk_at "v"
      refine ⟨_, _, rfl, eg, ?_⟩
      refine ⟨(by show 2 ≤ sizeLine; decide), fun p3 hp3 => ?_⟩
      obtain ⟨acc, e4, l4, p4⟩ := pr.snoc (n := y) (v := .int (wishS T' y)) hp3
      refine ⟨acc, e4, ?_, ?_, (g1.trans (Go.new hp3)).trans (Go.set e4 plain_lst rfl)⟩
      · rw [l4, List.length_map]
        exact Nat.lt_of_le_of_lt (List.length_filter_le _ _) (thou_lt (len_mid (k := 1000) eb (by rw [List.length_map]; omega)))
      · rw [List.filter_append, List.filter_cons, if_pos (by simp [z]), List.filter_nil, List.map_append]
        exact p4
  rintro H' ⟨pr, g1⟩
  have eo := g1.keep _ _ upd_same (by intro _ z; cases z) nLw.symm
  refine ⟨eo, ?_⟩
  have gu := g1.unlock ts2 plain_dK eo
  have gu' : Go (TL K) (TG K) (fun _ => False) H2 (upd H' w (.dK (tkv T'))) := gu.drop fun b z => .inr (by rw [z]; exact hL0)
  have pr2 := pr.go (Go.set (TL := TL K) (TG := TG K) (S := fun a => a = w) (o := .dK (tkv T')) eo plain_frz rfl) nLw fun b xs e z => by rw [z, eo] at e; cases e
  obtain ⟨as, q1, q2⟩ := pr2.pairs (K := K)
  refine ⟨L, as, _, rfl, q1, q2, fun w' hw' => ?_⟩
  rw [mergeK_S (by rw [keys_S]; exact nT.filter _), cut_tkv nT]
  refine ⟨(by show 2 ≤ sizeLine; decide), fun t ht => ?_⟩
  have g3 := (gu'.trans (Go.new (o := .dK (tkv (cutP g T'))) hw')).trans (Go.new (o := .tup [.ref o', .ref w']) ht)
  have fw : H w' = none := g2.free _ (gu'.free _ hw')
  have ew : upd (upd (upd H' w (.dK (tkv T'))) w' (.dK (tkv (cutP g T')))) t (.tup [.ref o', .ref w']) w' = some (.dK (tkv (cutP g T'))) := by rw [upd_ne (ne_of_none upd_same ht), upd_same]
  refine ⟨t, _, rfl, SqT.of upd_same, rfl, ?_⟩
  refine ⟨_, _, rfl, _, _, rfl, rfl, ?_⟩
  exact k o' w' _ fo fw ⟨g3.get eo', fun p hp => g3.get (g2.get (ps.row p (List.mem_filter.mp hp).1))⟩ ew (g2.trans g3)
/-- the flows are the law's; a minute goes -/
theorem law_e (T : Txt K mg base) {A : Around} {outer : List Env} {s : Shared} {H0 : Hp} {E0 : XK} (hr : Room 6 (A.deeper (envOfC d_law.qual d_law.scope s.heap.objs.size (He.fAd K d_law.at_) (.ref (He.codeOf K d_law.at_))))) :
    ∃ t, PSs (bodyX P w K mg base N_law d_law A outer s H0 E0) (elsS (((elsS ((elsS ((elsS ((subS ((subS ((d_law.body).getD 0 noS)).getD 2 noS)).getD 1 noS)).getD 0 noS)).getD 0 noS)).getD 0 noS))) t ∧ ∀ (D : Ends) (H : Hp) (q p m d e o w : Addr) (M : Mn) (R : Ps) (T' : Ts) (pa qa : Str → Addr) (x17 x0 x2 x3 x11 x12 x13 x14 x15 x16 x18 x19 x20 x21 : Option V), W2 K H q p m d e o w M R T' pa qa →
      (∀ fl H', W2 K H' q p m d e o w (minM R T' M) R T' pa qa → D.nx (Sg q m o w (minM R T' M) x0 x2 x3 x11 x12 x13 x14 x15 x16 (some (.ref fl)) x18 x19 x20 x21) H') →
      t D (Sg q m o w M x0 x2 x3 x11 x12 x13 x14 x15 x16 x17 x18 x19 x20 x21) H := by
  have hu := hu_of hr
  refine ⟨_, pss_cons (ps_set (i := 17) sc_law.nd rfl (by first | exact Or.inl rfl | exact Or.inr rfl) (pg_call (ok_law_flows T) (hr.mono (by decide)) rfl T.gl_law_flows px (pa_cons (pv 7) (pa_cons (pv 8) (pa_cons (pv 9) pa_nil))))) (pss_cons (ps_if (PW.pt (pw_or (pt_cmpR (op_neDD (u65 hr)) (pg_meth0 (ok_Mains_flows T) (hr.mono (by decide)) T.cl_Mains T.me_Mains_flows px (pv 6)) (pv 17) (nomark _)) (pw_or1 (pt_cmpR (op_neDD (u65 hr)) (pg_meth0 (ok_Mains_minute T) (hr.mono (by decide)) T.cl_Mains T.me_Mains_minute px (pv 6)) (pv 17) (nomark _))))) (pss_one (ps_ret pe_bl)) pss_nil) (pss_one (ps_par (i := 9) (j := 10) rfl sc_law.nd rfl rfl (by decide) rfl rfl (pa_cons (pe_callB (call_min2 rfl) (by rfl) T.fr_min (by decide +kernel) (pa_cons (pv 4) (pa_cons (pe_op op_add (pe_op op_sub (pv 9) (pe_callB (cr_sumV rfl) (by rfl) T.fr_sum (by decide +kernel) (pa_cons (pe_bm0 PySem.F.plainAttrs_dict PySem.F.slot_dict_values PySem.F.type_dict_values mt_values (pv 17)) pa_nil))) (pv 5)) pa_nil))) (pa_cons (pe_op op_add (pv 10) (pe_callB (cr_sumV rfl) (by rfl) T.fr_sum (by decide +kernel) (pa_cons (pe_bm0 PySem.F.plainAttrs_dict PySem.F.slot_dict_values PySem.F.type_dict_values mt_values (pv 17)) pa_nil))) pa_nil)) (by rfl)))), fun D H q p m d e o w M R T' pa qa x17 x0 x2 x3 x11 x12 x13 x14 x15 x16 x18 x19 x20 x21 W k => ?_⟩
  have lT : T'.length ≤ 1000 := Nat.le_trans W.lenT (by decide)
  have lks : (keysT T').length ≤ 1000 := by rw [len_sortS, List.length_map]; exact lT
  walk_at "v"; walk_at "v"; walk_at "v"
  refine ⟨o, w, R, T', qa, M.tank, rfl, W.own, W.wis, W.wf, W.nT, lT, W.hT, fun fl H1 hfl efl g1 => ?_⟩
  have W1 := W.go0 g1
  obtain ⟨⟨dx, h1⟩, ps, ts, ne⟩ := id W1.mains
  walk_at "v"
  refine ⟨_, _, _, rfl, h1, rfl, ?_⟩
  refine ⟨m, d, e, M, R, T', pa, rfl, W1.mains, W1.wf, W1.nT, lT, W1.hT, W1.tb, fun f1 H2 hf1 ef1 g2 => ?_⟩
  have W2' := W1.go0 g2
  have efl2 := g2.get efl
  walk_at "v"
  have same : ∀ (H : Hp) (p : Key × V), p ∈ kvI (keysT T') (flowsS R T' M.tank).f → ∃ u, valV (kvI (keysT T') (flowsS R T' M.tank).f) p.1 = some u ∧ SameD K H p.2 u := fun H p hp => by
    obtain ⟨n, hn, rfl⟩ := List.mem_map.mp hp
    exact ⟨_, val_kvI hn, same_int _⟩
  refine ⟨f1, fl, _, _, rfl, rfl, ef1, efl2, rfl, same H2, ?_⟩
  refine ⟨_, rfl, iteF ?_⟩
  obtain ⟨⟨dx2, h2⟩, ps2, ts2, _⟩ := id W2'.mains
  walk_at "v"
  refine ⟨_, _, _, rfl, h2, rfl, ?_⟩
  refine ⟨m, d, e, M, R, T', pa, rfl, W2'.mains, W2'.wf, W2'.nT, lT, W2'.hT, W2'.tb, fun f2 H3 hf2 ef2 D3 g3 => ?_⟩
  have nflm : fl ≠ m := ne_of efl2 h2 (by intro z; cases z)
  have efl3 := g3.keep _ _ efl2 (by intro _ z; cases z) nflm
  have W3' : W2 K H3 q p m d e o w (minM R T' M) R T' pa qa := by
    obtain ⟨Dc, eq⟩ := W2'.dice
    exact ⟨D3, W2'.own.go g3 (ne_of W2'.own.dc h2 (by intro z; cases z)) (fun y hy => ne_of (W2'.own.row y hy) h2 (by intro z; cases z)), g3.keep _ _ W2'.wis (by intro _ z; cases z) (ne_of W2'.wis h2 (by intro z; cases z)), ⟨Dc, g3.keep _ _ eq (by intro _ z; cases z) (ne_of eq h2 (by intro z; cases z))⟩,
      g3.keep _ _ W2'.pl (by intro _ z; cases z) (ne_of W2'.pl h2 (by intro z; cases z)), W2'.od, W2'.dw, W2'.eo, W2'.ew, W2'.wf, W2'.key, W2'.nT, W2'.hT, g3.tb W2'.tb⟩
  walk_at "v"
  refine ⟨f2, fl, _, _, rfl, rfl, ef2, efl3, rfl, same H3, ?_⟩
  refine ⟨_, rfl, iteF ?_⟩
  walk_at "v"; walk_at "v"; walk_at "v"
  refine ⟨.inr (.inr (.inl ⟨rfl, .inl ⟨_, efl3⟩⟩)), ?_⟩
  refine ⟨fl, _, rfl, rfl, efl3, fun v hv => ?_⟩
  have nfv := ne_of_none efl3 hv
  refine ⟨v, fl, _, (keysT T').map (flowsS R T' M.tank).f, rfl, upd_same, (by rw [upd_ne nfv]; exact efl3), (by rw [List.map_map, List.map_map]; rfl), ?_⟩
  have W4 := W3'.go0 (Go.new (o := valsO v fl) hv)
  have efl4 : upd H3 v (valsO v fl) fl = some (.dK (kvI (keysT T') (flowsS R T' M.tank).f)) := by rw [upd_ne nfv]; exact efl3
  generalize upd H3 v (valsO v fl) = H4 at W4 efl4 ⊢
  refine ⟨_, _, rfl, rfl, ?_⟩
  walk_at "v"
  refine ⟨_, _, rfl, rfl, ?_⟩
  refine ⟨_, _, rfl, ?_⟩
  walk_at "v"; walk_at "v"
  refine ⟨.inr (.inr (.inl ⟨rfl, .inl ⟨_, efl4⟩⟩)), ?_⟩
  refine ⟨fl, _, rfl, rfl, efl4, fun v2 hv2 => ?_⟩
  have nfv2 := ne_of_none efl4 hv2
  refine ⟨v2, fl, _, (keysT T').map (flowsS R T' M.tank).f, rfl, upd_same, (by rw [upd_ne nfv2]; exact efl4), (by rw [List.map_map, List.map_map]; rfl), ?_⟩
  refine ⟨_, _, rfl, rfl, ?_⟩
  refine ⟨_, _, rfl, ?_⟩
  exact k fl _ (W4.go0 (Go.new hv2))
/-- if mains.pipes != pipes or ..: return False -/
theorem law_f (T : Txt K mg base) {A : Around} {outer : List Env} {s : Shared} {H0 : Hp} {E0 : XK} (hr : Room 6 (A.deeper (envOfC d_law.qual d_law.scope s.heap.objs.size (He.fAd K d_law.at_) (.ref (He.codeOf K d_law.at_))))) :
    ∃ t, PS (bodyX P w K mg base N_law d_law A outer s H0 E0) ((subS ((subS ((d_law.body).getD 0 noS)).getD 2 noS)).getD 2 noS) t ∧ ∀ (D : Ends) (H : Hp) (q p m d e o w : Addr) (M : Mn) (R : Ps) (T' : Ts) (pa qa : Str → Addr) (x0 x2 x3 x11 x12 x13 x14 x15 x16 x17 x18 x19 x20 x21 : Option V), W2 K H q p m d e o w M R T' pa qa →
      (∀ H', W2 K H' q p m d e o w M R T' pa qa → D.nx (Sg q m o w M x0 x2 x3 x11 x12 x13 x14 x15 x16 x17 x18 x19 x20 x21) H') → t D (Sg q m o w M x0 x2 x3 x11 x12 x13 x14 x15 x16 x17 x18 x19 x20 x21) H := by
  have hu := hu_of hr
  refine ⟨_, (ps_if (PW.pt (pw_or (pt_cmpR (op_neDD (u65 hr)) (pe_fld (pv 6) rfl) (pv 7) (nomark _)) (pw_or (pt_cmpR (op_neDD (u65 hr)) (pe_fld (pv 6) rfl) (pv 8) (nomark _)) (pw_or1 (pt_cmpR (op_neD hr.units) (pe_tup (pa_cons (pe_fld (pv 6) rfl) (pa_cons (pe_fld (pv 6) rfl) pa_nil))) (pe_tup (pa_cons (pv 9) (pa_cons (pv 10) pa_nil))) (nomark _)))))) (pss_one (ps_ret pe_bl)) pss_nil), fun D H q p m d e o w M R T' pa qa x0 x2 x3 x11 x12 x13 x14 x15 x16 x17 x18 x19 x20 x21 W k => ?_⟩
  obtain ⟨⟨dx, h1⟩, ps, ts, ne⟩ := id W.mains
  walk_at "v"
  refine ⟨_, _, _, _, _, rfl, h1, T.cl_Mains, T.no_Mains_pipes, rfl, ?_⟩
  walk_at "v"
  refine ⟨d, o, _, _, rfl, rfl, ps.dc, W.own.dc, (by rw [List.length_map, List.length_map]), fun y hy => ?_, ?_⟩
  · obtain ⟨x, hx, rfl⟩ := List.mem_map.mp hy
    have ex := Mlook W.wf.nd hx
    refine ⟨.ref (qa x.1), by rw [val_lookR, ex] <;> rfl, same_row (ps.row x hx) (W.own.row x hx) fun a ea => ?_⟩
    obtain ⟨rk, hrk⟩ := W.wf.rk
    obtain ⟨z, ez⟩ := (hrk x.1 a x.2.2 (by rw [ex, ← ea])).1
    exact W.okK ez
  refine ⟨_, rfl, iteF ?_⟩
  walk_at "v"
  refine ⟨_, _, _, _, _, rfl, h1, T.cl_Mains, T.no_Mains_taps, rfl, ?_⟩
  walk_at "v"
  refine ⟨e, w, _, _, rfl, rfl, ts, W.wis, rfl, fun y hy => ?_, ?_⟩
  · obtain ⟨x, hx, rfl⟩ := List.mem_map.mp hy
    refine ⟨.int x.2, ?_, same_int _⟩
    rw [val_lookT, Mlook W.nT hx] <;> rfl
  refine ⟨_, rfl, iteF ?_⟩
  walk_at "v"
  refine ⟨_, _, _, _, _, rfl, h1, T.cl_Mains, T.no_Mains_tank, rfl, ?_⟩
  walk_at "v"
  refine ⟨_, _, _, _, _, rfl, h1, T.cl_Mains, T.no_Mains_used, rfl, ?_⟩
  refine ⟨(by show 2 ≤ sizeLine; decide), fun t1 ht1 => ?_⟩
  walk_at "v"; walk_at "v"
  refine ⟨(by show 2 ≤ sizeLine; decide), fun t2 ht2 => ?_⟩
  have sh : SeqAt.shaped (.tuple [.int M.tank, .int M.used]) = true := rfl
  refine ⟨.tuple [.int M.tank, .int M.used], .tuple [.int M.tank, .int M.used], .tup (SqT.of (by rw [upd_ne (ne_of_none upd_same ht2)]; exact upd_same)) (.cons (.int _) (.cons (.int _) .nil)), .tup (SqT.of upd_same) (.cons (.int _) (.cons (.int _) .nil)), sh, sh, ?_⟩
  rw [eqv_same sh]
  exact ⟨_, rfl, iteF (k _ (W.go0 ((Go.new ht1).trans (Go.new ht2))))⟩
end
end K2
namespace K2
open PySem PySem.Spec PyProof.Rows L2 Fy
open GxR (TabG Tabbed)
section
variable {K : PySem.W.Frag} {H H1 H' : Hp} {q p m d e o w o' w' : Addr} {M : Mn} {R : Ps} {T : Ts} {pa qa qa' : Str → Addr} {S : Ad}
/-- what the program's own changes leave -/
theorem W2.rest (W : W2 K H q p m d e o w M R T pa qa) (g : Go (TL K) (TG K) S H H') (hS : ∀ b, S b → b = m ∨ b = d ∨ b = e) : PsAt H' o R qa ∧ H' w = some (.dK (tkv T)) ∧ (∃ Dc, H' q = some (.lst (dvals Dc))) ∧ H' p = some (.lst [.ref q]) ∧ Tb (TL K) (TG K) H' := by
  obtain ⟨⟨dx, h1⟩, ps, ts, ne⟩ := id W.mains
  obtain ⟨Dc, eq⟩ := W.dice
  have n : ∀ b u, H b = some u → (∀ C dx fs, u ≠ .ins C dx fs) → b ≠ d → b ≠ e → ¬ S b := fun b u eb z1 z2 z3 z => by
    rcases hS b z with y | y | y
    · rw [y, h1] at eb
      exact z1 _ _ _ (Option.some.inj eb).symm
    · exact z2 y
    · exact z3 y
  have k : ∀ b u, H b = some u → (∀ C dx fs, u ≠ .ins C dx fs) → (∀ kvs, u ≠ .dK kvs) → ¬ S b := fun b u eb z1 z2 => n b u eb z1 (fun y => by rw [y, ps.dc] at eb; exact z2 _ (Option.some.inj eb).symm) fun y => by rw [y, ts] at eb; exact z2 _ (Option.some.inj eb).symm
  exact ⟨W.own.go g (n _ _ W.own.dc (fun _ _ _ z => by cases z) (Ne.symm W.od) (Ne.symm W.eo)) (fun y hy => k _ _ (W.own.row y hy) (fun _ _ _ z => by cases z) fun _ z => by cases z), g.keep _ _ W.wis (by intro _ z; cases z) (n _ _ W.wis (fun _ _ _ z => by cases z) (Ne.symm W.dw) (Ne.symm W.ew)),
    ⟨Dc, g.keep _ _ eq (by intro _ z; cases z) (k _ _ eq (fun _ _ _ z => by cases z) fun _ z => by cases z)⟩, g.keep _ _ W.pl (by intro _ z; cases z) (k _ _ W.pl (fun _ _ _ z => by cases z) fun _ z => by cases z), g.tb W.tb⟩
/-- put together anew -/
theorem mkW2 {R' : Ps} {T' : Ts} {d' : Addr} {M' : Mn} (mains : MainsAt (CMns K) H m d' e M' R' T' pa) (own : PsAt H o R' qa) (wis : H w = some (.dK (tkv T'))) (dice : ∃ Dc, H q = some (.lst (dvals Dc))) (pl : H p = some (.lst [.ref q])) (tb : Tb (TL K) (TG K) H) (od : d' ≠ o) (dw : d' ≠ w) (eo : e ≠ o) (ew : e ≠ w)
    (wf : WfP R') (key : ∀ x ∈ R', ∃ j, j < 7 ∧ x.1 = pn j) (nT : (T'.map fun p => p.1).Nodup) (hT : ∀ x ∈ T', ∃ y, R'.lookup x.1 = some y) : W2 K H q p m d' e o w M' R' T' pa qa := ⟨mains, own, wis, dice, pl, od, dw, eo, ew, wf, key, nT, hT, tb⟩
theorem W2.own' (W : W2 K H q p m d e o w M R T pa qa) (g : Go (TL K) (TG K) (fun _ => False) H H') (f : H o' = none) (D : PsAt H' o' R qa') : W2 K H' q p m d e o' w M R T pa qa' := by
  have W' := W.go0 g
  exact ⟨W'.mains, D, W'.wis, W'.dice, W'.pl, ne_of_none W.mains.ps.dc f, W'.dw, ne_of_none W.mains.ts f, W'.ew, W'.wf, W'.key, W'.nT, W'.hT, W'.tb⟩
theorem W2.wis' (W : W2 K H q p m d e o w M R T pa qa) (g : Go (TL K) (TG K) (fun _ => False) H H') (f : H w' = none) (D : H' w' = some (.dK (tkv T))) : W2 K H' q p m d e o w' M R T pa qa := by
  have W' := W.go0 g
  exact ⟨W'.mains, W'.own, D, W'.dice, W'.pl, W'.od, ne_of_none W.mains.ps.dc f, W'.eo, ne_of_none W.mains.ts f, W'.wf, W'.key, W'.nT, W'.hT, W'.tb⟩
theorem WfP.add {n : Str} {a : Option Str} {x : Int} (wf : WfP R) (h : canAdd R n a x = true) : WfP (R ++ [(n, a, x)]) := by
  obtain ⟨rk, hr⟩ := wf.rk
  unfold canAdd at h
  obtain ⟨h1, h2⟩ := Bool.and_eq_true_iff.mp h
  simp only [Bool.not_eq_true', Bool.or_eq_false_iff, decide_eq_false_iff_not] at h1
  obtain ⟨⟨⟨hn, _⟩, hl⟩, _⟩ := h1
  have hn : R.lookup n = none := by
    cases e : R.lookup n with
    | none => rfl
    | some y => rw [e] at hn; cases hn
  have old : ∀ {m y}, R.lookup m = some y → m ≠ n := fun {m y} e z => by rw [z, hn] at e; cases e
  refine ⟨?_, ?_, fun m => if m = n then (a.elim 0 fun b => rk b + 1) else rk m, fun m b t e => ?_⟩
  · rw [List.map_append, List.nodup_append]
    refine ⟨wf.nd, by simp, fun y hy z hz e => ?_⟩
    rw [List.mem_singleton.mp hz] at e
    rw [e] at hy
    exact lookN hn hy
  · rw [List.length_append]
    have : ¬ 40 ≤ R.length := hl
    show R.length + 1 ≤ 1000
    omega
  · rw [look_snoc] at e
    cases em : R.lookup m with
    | some y =>
      rw [em] at e
      have e : y = (some b, t) := Option.some.inj e
      rw [e] at em
      obtain ⟨⟨z, ez⟩, lt⟩ := hr m b t em
      refine ⟨⟨z, by rw [look_snoc, ez] <;> rfl⟩, ?_⟩
      show (if b = n then _ else rk b) < (if m = n then _ else rk m)
      rw [if_neg (old ez), if_neg (old em)]
      exact lt
    | none =>
      rw [em] at e
      have e : (if m = n then some (a, x) else none) = some (some b, t) := e
      by_cases z : m = n
      · rw [if_pos z] at e
        have e := Option.some.inj e
        have ea : a = some b := congrArg (fun q : Option Str × Int => q.1) e
        subst ea
        have hb : (R.lookup b).isSome = true := h2
        obtain ⟨y, ey⟩ := Option.isSome_iff_exists.mp hb
        refine ⟨⟨y, by rw [look_snoc, ey] <;> rfl⟩, ?_⟩
        show (if b = n then _ else rk b) < (if m = n then rk b + 1 else rk m)
        rw [if_neg (old ey), if_pos z]
        exact Nat.lt_succ_self _
      · rw [if_neg z] at e
        cases e
theorem putT_keys {n : Str} {x : Int} : (putT T n x).map (fun p => p.1) = if (T.lookup n).isSome = true then T.map (fun p => p.1) else T.map (fun p => p.1) ++ [n] := by
  unfold putT
  split
  · rw [List.map_map]
    refine List.map_congr_left fun y _ => ?_
    show (if y.1 = n then (y.1, x) else y).1 = y.1
    split <;> rfl
  · rw [List.map_append]
    rfl
theorem putT_nodup {n : Str} {x : Int} (h : (T.map fun p => p.1).Nodup) : ((putT T n x).map fun p => p.1).Nodup := by
  rw [putT_keys]
  cases e : T.lookup n with
  | some y => simpa using h
  | none =>
    rw [if_neg (by simp), List.nodup_append]
    refine ⟨h, by simp, fun y hy z hz ez => ?_⟩
    rw [List.mem_singleton.mp hz] at ez
    rw [ez] at hy
    exact lookN e hy
theorem putT_mem {n : Str} {x : Int} {y : Str × Int} (h : y ∈ putT T n x) : y.1 = n ∨ ∃ z ∈ T, z.1 = y.1 := by
  unfold putT at h
  split at h
  · obtain ⟨z, hz, rfl⟩ := List.mem_map.mp h
    refine .inr ⟨z, hz, ?_⟩
    split <;> rfl
  · rcases List.mem_append.mp h with z | z
    · exact .inr ⟨y, z, rfl⟩
    · rw [List.mem_singleton.mp z]
      exact .inl rfl
theorem cut_nil {α : Type} (R : List (Str × α)) : cutP [] R = R := by
  unfold cutP
  exact List.filter_eq_self.mpr fun y _ => by simp
end
section
variable {P : Program} {w : World} {K : PySem.W.Frag} {mg : Str → Option Value} {base : Heap}
/-- one of the deeds -/
theorem law_br (T : Txt K mg base) {A : Around} {outer : List Env} {s : Shared} {H0 : Hp} {E0 : XK} (hr : Room 6 (A.deeper (envOfC d_law.qual d_law.scope s.heap.objs.size (He.fAd K d_law.at_) (.ref (He.codeOf K d_law.at_))))) :
    ∃ t, PS (bodyX P w K mg base N_law d_law A outer s H0 E0) ((subS ((subS ((d_law.body).getD 0 noS)).getD 2 noS)).getD 1 noS) t ∧ ∀ (D : Ends) (H : Hp) (q p m d e o w : Addr) (M : Mn) (R : Ps) (T' : Ts) (pa qa : Str → Addr) (j : Nat) (so num : Int) (x0 x2 x11 x14 x15 x16 x17 x18 x19 x20 x21 : Option V), W2 K H q p m d e o w M R T' pa qa → j < 7 →
      (∀ (d' o' w' : Addr) (M' : Mn) (R' : Ps) (T'' : Ts) (pa' qa' : Str → Addr) (H' : Hp) (x3 x11 x12 x13 x14 x15 x16 x17 x18 x19 x20 x21 : Option V), W2 K H' q p m d' e o' w' M' R' T'' pa' qa' → D.nx (Sg q m o' w' M' x0 x2 x3 x11 x12 x13 x14 x15 x16 x17 x18 x19 x20 x21) H') →
      t D (Sg q m o w M x0 x2 (some (.str (pn j))) x11 (some (.int so)) (some (.int num)) x14 x15 x16 x17 x18 x19 x20 x21) H := by
  have hu := hu_of hr
  obtain ⟨ta0, pa0, ra0⟩ := law_a0 (P := P) (w := w) (E0 := E0) (H0 := H0) T hr
  obtain ⟨ta1, pa1, ra1⟩ := law_a1 (P := P) (w := w) (E0 := E0) (H0 := H0) T hr
  obtain ⟨ta2, pa2, ra2⟩ := law_a2 (P := P) (w := w) (E0 := E0) (H0 := H0) T hr
  obtain ⟨ta3, pa3, ra3⟩ := law_a3 (P := P) (w := w) (E0 := E0) (H0 := H0) T hr
  obtain ⟨tb1, pb1, rb1⟩ := law_b1 (P := P) (w := w) (E0 := E0) (H0 := H0) T hr
  obtain ⟨tb2, pb2, rb2⟩ := law_b2 (P := P) (w := w) (E0 := E0) (H0 := H0) T hr
  obtain ⟨tb3, pb3, rb3⟩ := law_b3 (P := P) (w := w) (E0 := E0) (H0 := H0) T hr
  obtain ⟨tc1, pc1, rc1⟩ := law_c1 (P := P) (w := w) (E0 := E0) (H0 := H0) T hr
  obtain ⟨tc2, pc2, rc2⟩ := law_c2 (P := P) (w := w) (E0 := E0) (H0 := H0) T hr
  obtain ⟨tc3, pc3, rc3⟩ := law_c3 (P := P) (w := w) (E0 := E0) (H0 := H0) T hr
  obtain ⟨td0, pd0, rd0⟩ := law_d0 (P := P) (w := w) (E0 := E0) (H0 := H0) T hr
  obtain ⟨td1, pd1, rd1⟩ := law_d1 (P := P) (w := w) (E0 := E0) (H0 := H0) T hr
  obtain ⟨td2, pd2, rd2⟩ := law_d2 (P := P) (w := w) (E0 := E0) (H0 := H0) T hr
  obtain ⟨te, pe5, re⟩ := law_e (P := P) (w := w) (E0 := E0) (H0 := H0) T hr
  refine ⟨_, (ps_if (pt_cmpR op_lt (pv 12) pe_int (nomark _)) (pss_cons pa0 (pss_cons pa1 (pss_cons pa2 (pss_one pa3)))) (pss_one (ps_if (pt_cmpR op_lt (pv 12) pe_int (nomark _)) (pss_cons pb1 (pss_cons pb2 (pss_one pb3))) (pss_one (ps_if (pt_cmpR op_eq (pv 12) pe_int (nomark _)) (pss_cons pc1 (pss_cons pc2 (pss_one pc3))) (pss_one (ps_if (PW.pt (pw_and (pt_cmpR op_eq (pv 12) pe_int (nomark _)) (pw_and1 (pt_cmpR op_eq (pg_call (ok_law_roll T) (hr.mono (by decide)) rfl T.gl_law_roll px (pa_cons (pv 1) (pa_cons pe_int pa_nil))) pe_int (nomark _))))) (pss_cons pd0 (pss_cons pd1 (pss_one pd2))) pe5))))))),
    fun D H q p m d e o w M R T' pa qa j so num x0 x2 x11 x14 x15 x16 x17 x18 x19 x20 x21 W hj k => ?_⟩
  have lR := W.lenR
  have okn := pn_ok j (by omega)
  walk_at "go"
  refine ite2 (fun _ => ?_) (fun _ => ?_)
  · -- a pipe
    refine ra0 _ H q p m d e o w M R T' pa qa _ _ _ _ _ _ _ _ _ _ _ _ _ _ W fun a H1 W1 => ?_
    refine ra1 _ H1 q m o w M R qa (pn j) a num _ _ _ _ _ _ _ _ _ _ _ W1.own okn.2 (by omega) ?_
    refine ra2 _ H1 q p m d e o w M R T' pa qa (pn j) a num _ _ _ _ _ _ _ _ _ _ W1 (fun H2 hc W2 => ?_) (fun pa' H2 H3 hc W2 D3 g3 => ?_)
    · rw [hc]
      refine ra3 _ H2 q m o w M R qa (pn j) a num false _ _ _ _ _ _ _ _ _ _ W2.own (fun z => by cases z) W2.wf.nd (by omega) fun o' qa' H3 fo D3 g3 => ?_
      have D3 : PsAt H3 o' (R ++ []) qa' := D3
      rw [List.append_nil] at D3
      exact k d o' w M R T' pa qa' H3 _ _ _ _ _ _ _ _ _ _ _ _ (W2.own' g3 fo D3)
    · obtain ⟨own3, wis3, dice3, pl3, tb3⟩ := W2.rest g3 fun b z => .inr (.inl z)
      have hn : R.lookup (pn j) = none := by
        unfold canAdd at hc
        cases e : R.lookup (pn j) with
        | none => rfl
        | some y => rw [e] at hc; cases hc
      have wf4 := W2.wf.add hc
      rw [hc]
      refine ra3 _ H3 q m o w M R qa (pn j) a num true _ _ _ _ _ _ _ _ _ _ own3 (fun _ => hn) W2.wf.nd (by omega) fun o' qa' H4 fo D4 g4 => ?_
      have D4 : PsAt H4 o' (R ++ [(pn j, a, num)]) qa' := D4
      have m4 := D3.go g4 id id id (fun _ _ => id)
      refine k d o' w M _ T' pa' qa' H4 _ _ _ _ _ _ _ _ _ _ _ _ (mkW2 m4 D4 (g4.get wis3) (dice3.imp fun _ h => g4.get h) (g4.get pl3) (g4.tb tb3) (ne_of_none D3.ps.dc fo) W2.dw (ne_of_none D3.ts fo) W2.ew wf4 (fun x hx => ?_) W2.nT fun x hx => ?_)
      · rcases List.mem_append.mp hx with z | z
        · exact W2.key x z
        · rw [List.mem_singleton.mp z]
          exact ⟨j, hj, rfl⟩
      · obtain ⟨y, ey⟩ := W2.hT x hx
        exact ⟨y, by rw [look_snoc, ey] <;> rfl⟩
  walk_at "go"
  refine ite2 (fun _ => ?_) (fun _ => ?_)
  · -- a hydrant is opened
    refine rb1 _ H q m o w M R qa (pn j) num _ _ _ _ _ _ _ _ _ _ _ _ W.own ?_
    refine rb2 _ H q p m d e o w M R T' pa qa (pn j) num _ _ _ _ _ _ _ _ _ _ _ W (fun H2 hc W2 => ?_) (fun H2 H3 hc W2 D3 g3 => ?_)
    · rw [show canOn R (pn j) num = false from hc]
      refine rb3 _ H2 q m o w M T' (pn j) num false _ _ _ _ _ _ _ _ _ _ _ W2.wis W2.nT (by have := W2.lenT; omega) fun w' H3 fw e3 g3 => ?_
      exact k d o w' M R T' pa qa H3 _ _ _ _ _ _ _ _ _ _ _ _ (W2.wis' g3 fw e3)
    · obtain ⟨own3, wis3, dice3, pl3, tb3⟩ := W2.rest g3 fun b z => .inr (.inr z)
      rw [show canOn R (pn j) num = true from hc]
      refine rb3 _ H3 q m o w M T' (pn j) num true _ _ _ _ _ _ _ _ _ _ _ wis3 W2.nT (by have := W2.lenT; omega) fun w' H4 fw e4 g4 => ?_
      have m4 := D3.go g4 id id id (fun _ _ => id)
      refine k d o w' M R _ pa qa H4 _ _ _ _ _ _ _ _ _ _ _ _ (mkW2 m4 (own3.go g4 id fun _ _ => id) e4 (dice3.imp fun _ h => g4.get h) (g4.get pl3) (g4.tb tb3) W2.od (ne_of_none D3.ps.dc fw) W2.eo (ne_of_none D3.ts fw) W2.wf W2.key (putT_nodup W2.nT) fun x hx => ?_)
      rcases putT_mem hx with z | ⟨z, hz, ez⟩
      · rw [z]
        exact Option.isSome_iff_exists.mp (Bool.and_eq_true_iff.mp hc).1
      · rw [← ez]
        exact W2.hT z hz
  walk_at "v"
  refine ⟨rfl, _, rfl, ?_⟩
  refine ite2 (fun _ => ?_) (fun _ => ?_)
  · -- a hydrant is closed
    refine rc1 _ H q m o w M T' (pn j) _ _ _ _ _ _ _ _ _ _ _ _ _ W.wis ?_
    refine rc2 _ H q p m d e o w M R T' pa qa (pn j) _ _ _ _ _ _ _ _ _ _ _ _ W (fun H2 hc W2 => ?_) (fun H2 H3 hc W2 D3 g3 => ?_)
    · refine rc3 _ H2 q m o w M T' (pn j) _ _ _ _ _ _ _ _ _ _ _ _ _ W2.wis W2.nT (by have := W2.lenT; omega) fun w' H3 fw e3 g3 => ?_
      have hn : T'.lookup (pn j) = none := by
        cases e : T'.lookup (pn j) with
        | none => rfl
        | some y => rw [e] at hc; cases hc
      have et : (T'.filter fun y => decide (y.1 ≠ pn j)) = T' := List.filter_eq_self.mpr fun y hy => decide_eq_true fun z => lookN hn (List.mem_map.mpr ⟨y, hy, z⟩)
      rw [et] at e3
      exact k d o w' M R T' pa qa H3 _ _ _ _ _ _ _ _ _ _ _ _ (W2.wis' g3 fw e3)
    · obtain ⟨own3, wis3, dice3, pl3, tb3⟩ := W2.rest g3 fun b z => .inr (.inr z)
      refine rc3 _ H3 q m o w M T' (pn j) _ _ _ _ _ _ _ _ _ _ _ _ _ wis3 W2.nT (by have := W2.lenT; omega) fun w' H4 fw e4 g4 => ?_
      have m4 := D3.go g4 id id id (fun _ _ => id)
      exact k d o w' M R _ pa qa H4 _ _ _ _ _ _ _ _ _ _ _ _ (mkW2 m4 (own3.go g4 id fun _ _ => id) e4 (dice3.imp fun _ h => g4.get h) (g4.get pl3) (g4.tb tb3) W2.od (ne_of_none D3.ps.dc fw) W2.eo (ne_of_none D3.ts fw) W2.wf W2.key ((List.Sublist.map _ List.filter_sublist).nodup W2.nT) fun x hx => W2.hT x (List.mem_filter.mp hx).1)
  have brk : ∀ H1, W2 K H1 q p m d e o w M R T' pa qa → tSeq td0 (tSeq td1 td2) D (Sg q m o w M x0 x2 (some (.str (pn j))) x11 (some (.int so)) (some (.int num)) x14 x15 x16 x17 x18 x19 x20 x21) H1 := fun H1 W1 => by
    refine rd0 _ H1 q m o w M R qa (pn j) _ _ _ _ _ _ _ _ _ _ _ _ _ W1.own W1.wf fun gl H2 fgl egl g2 => ?_
    have W2 := W1.go0 g2
    have nm : gl ≠ m := by
      obtain ⟨⟨dx, h1⟩, _⟩ := W1.mains
      exact (ne_of_none h1 fgl).symm
    have neq : gl ≠ e := (ne_of_none W1.mains.ts fgl).symm
    refine rd1 _ H2 q p m d e o w gl M R T' pa qa (pn j) _ _ _ _ _ _ _ _ _ _ _ _ W2 okn.1 egl nm neq (fun H3 hn W3 e3 => ?_) (fun d' H3 H4 hc W3 fd D4 g4 e4 => ?_)
    · have eg : goneI R (pn j) = [] := by simp [goneI, hn]
      rw [eg] at e3
      refine rd2 _ H3 q m o w gl M R T' qa (pn j) [] _ _ _ _ _ _ _ _ _ _ _ _ W3.own W3.wf.nd (by omega) W3.wis W3.nT (by have := W3.lenT; omega) e3 fun o' w' H4 fo fw D4 e4 g4 => ?_
      rw [cut_nil] at D4 e4
      exact k d o' w' M R T' pa qa H4 _ _ _ _ _ _ _ _ _ _ _ _ (mkW2 (W3.mains.go g4 id id id fun _ _ => id) D4 e4 (W3.dice.imp fun _ h => g4.get h) (g4.get W3.pl) (g4.tb W3.tb) (ne_of_none W3.mains.ps.dc fo) (ne_of_none W3.mains.ps.dc fw) (ne_of_none W3.mains.ts fo) (ne_of_none W3.mains.ts fw) W3.wf W3.key W3.nT W3.hT)
    · obtain ⟨own4, wis4, dice4, pl4, tb4⟩ := W3.rest g4 fun b z => z.elim .inl fun z => .inr (.inr z)
      have eg : goneI R (pn j) = goneS R (pn j) := by unfold goneI; rw [if_pos hc]
      rw [eg] at e4
      refine rd2 _ H4 q m o w gl M R T' qa (pn j) (goneS R (pn j)) _ _ _ _ _ _ _ _ _ _ _ _ own4 W3.wf.nd (by omega) wis4 W3.nT (by have := W3.lenT; omega) e4 fun o' w' H5 fo fw D5 e5 g5 => ?_
      refine k d' o' w' M _ _ pa qa H5 _ _ _ _ _ _ _ _ _ _ _ _ (mkW2 (D4.go g5 id id id fun _ _ => id) D5 e5 (dice4.imp fun _ h => g5.get h) (g5.get pl4) (g5.tb tb4) (ne_of_none D4.ps.dc fo) (ne_of_none D4.ps.dc fw) (ne_of_none D4.ts fo) (ne_of_none D4.ts fw) (W3.wf.cut (pn j)) (fun x hx => W3.key x (List.mem_filter.mp hx).1) ((List.Sublist.map _ List.filter_sublist).nodup W3.nT) fun x hx => ?_)
      obtain ⟨hx1, hx2⟩ := List.mem_filter.mp hx
      obtain ⟨y, ey⟩ := W3.hT x hx1
      exact ⟨y, by rw [look_cut, if_neg (by simpa using hx2)]; exact ey⟩
  have els : ∀ H1, W2 K H1 q p m d e o w M R T' pa qa → te D (Sg q m o w M x0 x2 (some (.str (pn j))) x11 (some (.int so)) (some (.int num)) x14 x15 x16 x17 x18 x19 x20 x21) H1 := fun H1 W1 =>
    re _ H1 q p m d e o w M R T' pa qa _ _ _ _ _ _ _ _ _ _ _ _ _ _ W1 fun fl H2 W2 => k d o w _ R T' pa qa H2 _ _ _ _ _ _ _ _ _ _ _ _ W2
  walk_at "v"
  refine ⟨rfl, _, rfl, ?_⟩
  refine ite2 (fun _ => ?_) (fun _ => iteF (els H W))
  obtain ⟨Dc, hq⟩ := W.dice
  walk_at "v"
  refine ⟨q, Dc, 3, rfl, hq, by decide, by decide, ?_⟩
  refine ⟨rfl, _, rfl, ?_⟩
  exact ite2 (fun _ => brk _ (W.roll hq _)) (fun _ => els _ (W.roll hq _))
end
end K2
namespace K2
open PySem PySem.Spec PyProof.Rows L2 Fy
open GxR (TabG Tabbed)
theorem mn_least {c f m : Int} {l : List Int} (h1 : c ∈ l) (h2 : ∀ y ∈ l, c ≤ y) (h3 : m ∈ f :: l) (h4 : ∀ y ∈ f :: l, m ≤ y) : m = mnI c f := by
  have a := h4 f List.mem_cons_self
  have b := h4 c (List.mem_cons_of_mem _ h1)
  have d : c ≤ m ∨ m = f := by
    rcases List.mem_cons.mp h3 with z | z
    · exact .inr z
    · exact .inl (h2 m z)
  unfold mnI
  split <;> omega
section
variable {P : Program} {w : World} {K : PySem.W.Frag} {mg : Str → Option Value} {base : Heap}
/-- for step in range(..) -/
theorem law_steps (T : Txt K mg base) {A : Around} {outer : List Env} {s : Shared} {H0 : Hp} {E0 : XK} (hr : Room 6 (A.deeper (envOfC d_law.qual d_law.scope s.heap.objs.size (He.fAd K d_law.at_) (.ref (He.codeOf K d_law.at_))))) :
    ∃ t, PS (bodyX P w K mg base N_law d_law A outer s H0 E0) ((subS ((d_law.body).getD 0 noS)).getD 2 noS) t ∧ ∀ (D : Ends) (H : Hp) (q p m d e o w : Addr) (M : Mn) (R : Ps) (T' : Ts) (pa qa : Str → Addr) (x0 x2 x3 x11 x12 x13 x14 x15 x16 x17 x18 x19 x20 x21 : Option V), W2 K H q p m d e o w M R T' pa qa →
      (∀ (d' o' w' : Addr) (M' : Mn) (R' : Ps) (T'' : Ts) (pa' qa' : Str → Addr) (H' : Hp) (x2 x3 x11 x12 x13 x14 x15 x16 x17 x18 x19 x20 x21 : Option V), W2 K H' q p m d' e o' w' M' R' T'' pa' qa' → D.nx (Sg q m o' w' M' x0 x2 x3 x11 x12 x13 x14 x15 x16 x17 x18 x19 x20 x21) H') →
      t D (Sg q m o w M x0 x2 x3 x11 x12 x13 x14 x15 x16 x17 x18 x19 x20 x21) H := by
  have hu := hu_of hr
  obtain ⟨tdr, pdr, rdr⟩ := law_draw (P := P) (w := w) (E0 := E0) (H0 := H0) T hr
  obtain ⟨tbr, pbr, rbr⟩ := law_br (P := P) (w := w) (E0 := E0) (H0 := H0) T hr
  obtain ⟨tf, pf, rf⟩ := law_f (P := P) (w := w) (E0 := E0) (H0 := H0) T hr
  refine ⟨_, (ps_for (passes_of rfl) rfl (pi_range1 rfl T.fr_range (pa_cons (pg_call (ok_law_roll T) (hr.mono (by decide)) rfl T.gl_law_roll px (pa_cons (pv 1) (pa_cons pe_int pa_nil))) pa_nil)) (pg_name (i := 2) sc_law.nd rfl (by first | exact Or.inl rfl | exact Or.inr rfl)) (pss_cons pdr
        (pss_cons pbr
        (pss_one pf)))), fun D H q p m d e o w M R T' pa qa x0 x2 x3 x11 x12 x13 x14 x15 x16 x17 x18 x19 x20 x21 W k => ?_⟩
  obtain ⟨Dc, hq⟩ := W.dice
  walk_at "v"
  refine ⟨q, Dc, 41, rfl, hq, by decide, by decide, ?_⟩
  obtain ⟨N, hN, eN⟩ := roll_nat Dc 41 (by decide)
  have eN : rollV Dc 41 = (N : Int) := eN
  rw [eN]
  refine ⟨_, rfl, (by omega), (by show (N : Int) < 2 ^ 62; omega), ?_⟩
  have W1 := W.roll hq (rollD Dc 41)
  show ∃ W, _
  refine for_range (n := (N : Int).toNat) (fun i σ H' => ∃ (d' o' w' : Addr) (M' : Mn) (R' : Ps) (T'' : Ts) (pa' qa' : Str → Addr) (x2 x3 x11 x12 x13 x14 x15 x16 x17 x18 x19 x20 x21 : Option V), W2 K H' q p m d' e o' w' M' R' T'' pa' qa' ∧ σ = Sg q m o' w' M' x0 x2 x3 x11 x12 x13 x14 x15 x16 x17 x18 x19 x20 x21)
    ⟨d, o, w, M, R, T', pa, qa, _, _, _, _, _, _, _, _, _, _, _, _, _, W1, rfl⟩ ?_ ?_
  · rintro i σ H1 hi ⟨d', o', w', M', R', T'', pa', qa', y2, y3, y11, y12, y13, y14, y15, y16, y17, y18, y19, y20, y21, W2, rfl⟩
    refine rdr _ H1 q p m d' e o' w' M' R' T'' pa' qa' _ _ _ _ _ _ _ _ _ _ _ _ _ _ W2 fun so num j H2 hj _ W3 => ?_
    refine rbr _ H2 q p m d' e o' w' M' R' T'' pa' qa' j so num _ _ _ _ _ _ _ _ _ _ _ W3 hj fun d3 o3 w3 M3 R3 T3 pa3 qa3 H3 z3 z11 z12 z13 z14 z15 z16 z17 z18 z19 z20 z21 W4 => ?_
    refine rf _ H3 q p m d3 e o3 w3 M3 R3 T3 pa3 qa3 _ _ _ _ _ _ _ _ _ _ _ _ _ _ W4 fun H4 W5 => ?_
    exact ⟨d3, o3, w3, M3, R3, T3, pa3, qa3, _, _, _, _, _, _, _, _, _, _, _, _, _, W5, rfl⟩
  · rintro σ H1 ⟨d', o', w', M', R', T'', pa', qa', y2, y3, y11, y12, y13, y14, y15, y16, y17, y18, y19, y20, y21, W2, rfl⟩
    exact k d' o' w' M' R' T'' pa' qa' H1 _ _ _ _ _ _ _ _ _ _ _ _ _ W2
/-- for name in pipes: .. -/
theorem law_g (T : Txt K mg base) {A : Around} {outer : List Env} {s : Shared} {H0 : Hp} {E0 : XK} (hr : Room 6 (A.deeper (envOfC d_law.qual d_law.scope s.heap.objs.size (He.fAd K d_law.at_) (.ref (He.codeOf K d_law.at_))))) :
    ∃ t, PS (bodyX P w K mg base N_law d_law A outer s H0 E0) ((subS ((d_law.body).getD 0 noS)).getD 3 noS) t ∧ ∀ (D : Ends) (H : Hp) (q p m d e o w : Addr) (M : Mn) (R : Ps) (T' : Ts) (pa qa : Str → Addr) (x0 x2 x3 x11 x12 x13 x14 x15 x16 x17 x18 x19 x20 x21 : Option V), W2 K H q p m d e o w M R T' pa qa →
      (∀ (H' : Hp) (x3 x11 : Option V), Go (TL K) (TG K) (fun _ => False) H H' → D.nx (Sg q m o w M x0 x2 x3 x11 x12 x13 x14 x15 x16 x17 x18 x19 x20 x21) H') →
      t D (Sg q m o w M x0 x2 x3 x11 x12 x13 x14 x15 x16 x17 x18 x19 x20 x21) H := by
  have hu := hu_of hr
  refine ⟨_, (ps_lock (ps_for (passes_of rfl) rfl (pi_keys (pv 7)) (pg_name (i := 3) sc_law.nd rfl (by first | exact Or.inl rfl | exact Or.inr rfl)) (pss_cons (ps_set (i := 11) sc_law.nd rfl (by first | exact Or.inl rfl | exact Or.inr rfl) (pg_call (ok_law_line T) (hr.mono (by decide)) rfl T.gl_law_line px (pa_cons (pv 7) (pa_cons (pv 3) pa_nil))))
        (pss_one (ps_if (PW.pt (pw_or (pt_cmpR (op_neD hr.units) (pe_callTy call_list_of (by rfl) T.fr_list (by decide +kernel) (pa_cons (pg_meth (ok_Mains_line T) (hr.mono (by decide)) T.cl_Mains T.me_Mains_line px (pv 6) (pa_cons (pv 3) pa_nil)) pa_nil)) (pv 11) (nomark _)) (pw_or1 (pt_cmpR op_ne (pg_meth (ok_Mains_most_at T) (hr.mono (by decide)) T.cl_Mains T.me_Mains_most_at px (pv 6) (pa_cons (pv 3) pa_nil)) (pe_callB (cr_min rfl) (by rfl) T.fr_min (by decide +kernel) (pa_cons (pe_op op_cat (pe_lst (pa_cons (pv 4) pa_nil)) (pe_lc (own := [("one", 18)]) (g := gName 18) (tt := tYes) rfl sc_law.nd (pi_list (pv 11)) (blkOk_by (own := [("one", 18)]) (N := N_law) (sc := d_law.scope) (by decide +kernel)) (fun _ _ _ _ _ => (pg_name (i := 18) sc_law.nd rfl (by first | exact Or.inl rfl | exact Or.inr rfl))) (fun _ _ _ _ _ => pts_nil) (fun _ _ _ _ _ => (pe_ix (ix_tupK K rfl) (pe_dget hu (pv 7) (pv 18) (fun _ _ => rfl)) pe_int (fun _ _ => rfl))))) pa_nil)) (nomark _))))) (pss_one (ps_ret pe_bl)) pss_nil))))), fun D H q p m d e o w M R T' pa qa x0 x2 x3 x11 x12 x13 x14 x15 x16 x17 x18 x19 x20 x21 W k => ?_⟩
  refine ⟨o, _, W.own.dc, trivial, fun od => ?_⟩
  walk_at "v"
  have wk := walk_keysV (d := o) (o := od) (kvs := R.map fun p => ((Sum.inr p.1 : Key), V.ref (qa p.1)))
  rw [keys_ps] at wk
  have gl : Go (TL K) (TG K) (fun a => a = o) H (upd H o (.frz od (.dK (R.map fun p => ((Sum.inr p.1 : Key), V.ref (qa p.1)))))) := Go.set W.own.dc plain_dK rfl
  have eo : upd H o (.frz od (.dK (R.map fun p => ((Sum.inr p.1 : Key), V.ref (qa p.1))))) o = some (.frz od (.dK (R.map fun p => ((Sum.inr p.1 : Key), V.ref (qa p.1))))) := upd_same
  have gu : ∀ H', Go (TL K) (TG K) (fun _ => False) (upd H o (.frz od (.dK (R.map fun p => ((Sum.inr p.1 : Key), V.ref (qa p.1)))))) H' → Go (TL K) (TG K) (fun _ => False) H (upd H' o (.dK (R.map fun p => ((Sum.inr p.1 : Key), V.ref (qa p.1))))) := fun H' g => g.unlock W.own.dc plain_dK (g.get eo)
  have mL : MainsAt (CMns K) (upd H o (.frz od (.dK (R.map fun p => ((Sum.inr p.1 : Key), V.ref (qa p.1)))))) m d e M R T' pa := by
    obtain ⟨⟨dx, h1⟩, ps, ts, ne⟩ := id W.mains
    exact W.mains.go gl (ne_of h1 W.own.dc (by intro z; cases z)) W.od W.eo (fun y hy => ne_of (ps.row y hy) W.own.dc (by intro z; cases z))
  have oL : PsRd (upd H o (.frz od (.dK (R.map fun p => ((Sum.inr p.1 : Key), V.ref (qa p.1)))))) o R qa := ⟨.inr ⟨od, eo⟩, fun y hy => gl.keep _ _ (W.own.row y hy) (by intro _ z; cases z) (ne_of (W.own.row y hy) W.own.dc (by intro z; cases z))⟩
  have tbL := gl.tb W.tb
  refine ⟨o, od, rfl, .inl ⟨_, eo, ?_⟩⟩
  generalize upd H o (.frz od (.dK (R.map fun p => ((Sum.inr p.1 : Key), V.ref (qa p.1))))) = Hl at gl eo gu mL oL tbL ⊢
  refine for_fold V.str (R.map fun p => p.1) (by simp) wk (fun (u : Unit) _ => u) () (fun _ σ H' => (∃ x3 x11, σ = Sg q m o w M x0 x2 x3 x11 x12 x13 x14 x15 x16 x17 x18 x19 x20 x21) ∧ Go (TL K) (TG K) (fun _ => False) Hl H') ⟨⟨_, _, rfl⟩, .refl⟩ (fun _ σ H' h => h.2.get eo) ?_ ?_
  · rintro pre n post σ H1 eb ⟨⟨x3, x11, rfl⟩, g1⟩
    have kn : n ∈ R.map fun p => p.1 := by rw [eb]; simp
    obtain ⟨y, ey⟩ := lookK kn
    walk_at "v"; walk_at "v"
    refine ⟨o, R, qa, n, rfl, oL.go g1 id (fun _ _ => id), W.wf, ⟨y, ey⟩, fun l hl ll H2 hll ell g2 => ?_⟩
    have g12 := g1.trans g2
    obtain ⟨ndl, hl2⟩ := W.wf.line_ok hl
    have lenl := W.wf.line_len hl
    have m2 := mL.go g12 id id id (fun _ _ => id)
    obtain ⟨⟨dx2, h2⟩, ps2, ts2, _⟩ := id m2
    walk_at "v"
    refine ⟨_, _, _, rfl, h2, rfl, ?_⟩
    walk_at "v"
    refine ⟨m, d, e, M, R, T', pa, n, rfl, m2, W.wf, fun z => absurd (z.symm.trans ey) (by intro z; cases z), fun l' hl' t3 H3 ht3 et3 g3 => ?_⟩
    obtain rfl : l = l' := hl.one hl'
    refine ⟨t3, _, rfl, .inr (SqT.of et3), fun l4 hl4 => ?_⟩
    have g4 := (g12.trans g3).trans (Go.new (o := .lst (l.map V.str)) hl4)
    have e4 : upd H3 l4 (.lst (l.map V.str)) l4 = some (.lst (l.map V.str)) := upd_same
    have ell4 : upd H3 l4 (.lst (l.map V.str)) ll = some (.lst (l.map V.str)) := by
      have := g3.get ell
      rw [upd_ne (ne_of_none this hl4)]
      exact this
    generalize upd H3 l4 (.lst (l.map V.str)) = H4 at g4 e4 ell4 ⊢
    walk_at "v"
    have sh : SeqAt.shaped (.list (l.map PyData.str)) = true := shaped_lstrs fun x hx => by
      obtain ⟨z, ez⟩ := hl2 x hx
      exact W.okK ez
    refine ⟨.list (l.map PyData.str), .list (l.map PyData.str), .lst (SqL.of e4) (dpAll_map (fun _ => .str _) _), .lst (SqL.of ell4) (dpAll_map (fun _ => .str _) _), sh, sh, ?_⟩
    rw [eqv_same sh]
    refine ⟨_, rfl, iteF ?_⟩
    have m4 := mL.go g4 id id id (fun _ _ => id)
    obtain ⟨⟨dx4, h4⟩, _, _, _⟩ := id m4
    walk_at "v"
    refine ⟨_, _, _, rfl, h4, rfl, ?_⟩
    walk_at "v"
    refine ⟨m, d, e, M, R, T', pa, n, rfl, m4, W.wf, g4.tb tbL, fun z => absurd (z.symm.trans ey) (by intro z; cases z), fun l' c H5 hl' hc hc2 g5 => ?_⟩
    obtain rfl : l = l' := hl.one hl'
    have g45 := g4.trans g5
    have ell5 := g5.get ell4
    have o5 := oL.go g45 id (fun _ _ => id)
    walk_at "v"
    refine ⟨(by show 1 ≤ sizeLine; decide), fun f1 hf1 => ?_⟩
    have g6 := g45.trans (Go.new (o := .lst [.int M.full]) hf1)
    have ef1 : upd H5 f1 (.lst [.int M.full]) f1 = some (.lst [.int M.full]) := upd_same
    have ell6 : upd H5 f1 (.lst [.int M.full]) ll = some (.lst (l.map V.str)) := by rw [upd_ne (ne_of_none ell5 hf1)]; exact ell5
    have o6 := o5.go (Go.new (TL := TL K) (TG := TG K) (S := fun _ => False) (o := .lst [.int M.full]) hf1) id (fun _ _ => id)
    generalize upd H5 f1 (.lst [.int M.full]) = H6 at g6 ef1 ell6 o6 ⊢
    walk_at "v"
    refine ⟨ll, rfl, ⟨_, SqL.of ell6⟩, fun L hL => lc_pre V.str l rfl walk_itl (fun pre H' => H' L = some (.lst ((pre.map (capS R)).map V.int)) ∧ Go (TL K) (TG K) (fun a => a = L) H6 H') ⟨upd_same, Go.new hL⟩ (fun pre H' h => SqL.of (h.2.keep _ _ ell6 (by intro _ z; cases z) (ne_of_none ell6 hL))) ?_ ?_⟩
    · rintro pre2 x post2 H7 eb2 ⟨e7, g7⟩
      have hx : x ∈ l := by rw [eb2]; simp
      obtain ⟨yx, ex⟩ := hl2 x hx
      have o7 := o6.go g7 (fun z => by
        have := o6.rd
        rw [z] at this
        rcases this with h | ⟨u, h⟩ <;> (rw [hL] at h; cases h)) (fun y hy => ne_of_none (o6.row y hy) hL)
      refine ⟨rfl, ?_⟩
      refine tYes_ok ?_
      walk_at "v"; walk_at "v"
      refine ⟨_, _, rfl, o7.get ex, ?_⟩
      refine ⟨_, _, _, _, rfl, rfl, SqT.of (o7.row _ (lookM ex)), rfl, ?_⟩
      refine ⟨_, e7, (by rw [List.length_map, List.length_map]; exact thou_lt (len_mid eb2 lenl)), ?_, g7.trans (Go.set e7 plain_lst rfl)⟩
      have ec : capS R x = yx.2 := by
        unfold capS
        rw [ex] <;> rfl
      rw [upd_same, List.map_append, List.map_append]
      show some (HO.lst (_ ++ [V.int yx.2])) = some (.lst (_ ++ [V.int (capS R x)]))
      rw [ec]
    rintro H7 ⟨e7, g7⟩
    have nfL := ne_of_none ef1 hL
    have g7' : Go (TL K) (TG K) (fun _ => False) H6 H7 := g7.drop fun b z => .inr (by rw [z]; exact hL)
    refine ⟨f1, L, _, _, rfl, rfl, g7'.get ef1, e7, ?_, fun c1 hc1 => ?_⟩
    · rw [List.length_map, List.length_map]
      show 1 + l.length ≤ sizeLine
      exact Nat.le_trans (show 1 + l.length ≤ 1001 by omega) (by decide)
    refine ⟨c1, M.full :: l.map (capS R), rfl, SqL.of upd_same, Nat.succ_pos _, fun mm hm1 hm2 => ?_⟩
    have em := mn_least hc hc2 hm1 hm2
    refine ⟨rfl, _, rfl, ?_⟩
    rw [em]
    refine ite2 (fun z => ?_) fun _ => ⟨⟨_, _, rfl⟩, (g6.trans g7').trans (Go.new hc1)⟩
    simp at z
  · rintro σ H1 ⟨⟨x3, x11, rfl⟩, g1⟩
    exact ⟨g1.get eo, k _ _ _ (gu _ g1)⟩
end
end K2
namespace K2
open PySem PySem.Spec PyProof.Rows L2 Fy
open GxR (TabG Tabbed)
section
variable {P : Program} {w : World} {K : PySem.W.Frag} {mg : Str → Option Value} {base : Heap}
theorem WfP.nil : WfP [] := ⟨.nil, (by decide), ⟨fun _ => 0, fun _ _ _ h => (by cases h)⟩⟩
theorem law_outer (T : Txt K mg base) {A : Around} {outer : List Env} {s : Shared} {H0 : Hp} {E0 : XK} (hr : Room 6 (A.deeper (envOfC d_law.qual d_law.scope s.heap.objs.size (He.fAd K d_law.at_) (.ref (He.codeOf K d_law.at_))))) :
    ∃ t, PS (bodyX P w K mg base N_law d_law A outer s H0 E0) ((d_law.body).getD 0 noS) t ∧ ∀ (D : Ends) (H : Hp) (sa : Addr) (ns : List Int) (x1 x2 x3 x4 x5 x6 x7 x8 x9 x10 x11 x12 x13 x14 x15 x16 x17 x18 x19 x20 x21 : Option V), SqL K H sa (ns.map V.int) → Tb (TL K) (TG K) H →
      (∀ (x1 x2 x3 x4 x5 x6 x7 x8 x9 x10 x11 x12 x13 x14 x15 x16 x17 x18 x19 x20 x21 : Option V) (H' : Hp), Tb (TL K) (TG K) H' → D.nx [some (.ref sa), x1, x2, x3, x4, x5, x6, x7, x8, x9, x10, x11, x12, x13, x14, x15, x16, x17, x18, x19, x20, x21] H') →
      t D [some (.ref sa), x1, x2, x3, x4, x5, x6, x7, x8, x9, x10, x11, x12, x13, x14, x15, x16, x17, x18, x19, x20, x21] H := by
  have hu := hu_of hr
  obtain ⟨tst, pst, rst⟩ := law_steps (P := P) (w := w) (E0 := E0) (H0 := H0) T hr
  obtain ⟨tg, pg, rg⟩ := law_g (P := P) (w := w) (E0 := E0) (H0 := H0) T hr
  refine ⟨_, (ps_for (passes_of rfl) rfl (pi_list (pg_call (ok_law_rounds T) (hr.mono (by decide)) rfl T.gl_law_rounds px (pa_cons (pv 0) (pa_cons pe_int pa_nil)))) (pg_name (i := 1) sc_law.nd rfl (by first | exact Or.inl rfl | exact Or.inr rfl)) (pss_cons (ps_par (i := 4) (j := 5) rfl sc_law.nd rfl rfl (by decide) rfl rfl (pa_cons (pg_call (ok_law_roll T) (hr.mono (by decide)) rfl T.gl_law_roll px (pa_cons (pv 1) (pa_cons pe_int pa_nil))) (pa_cons (pg_call (ok_law_roll T) (hr.mono (by decide)) rfl T.gl_law_roll px (pa_cons (pv 1) (pa_cons pe_int pa_nil))) pa_nil)) (by rfl))
        (pss_cons (ps_asg (pe_tup (pa_cons (pg_make T.mk_Mains (ok_Mains_init T) (hr.mono (by decide)) rfl T.gl_Mains px (pa_cons (pv 4) (pa_cons (pv 5) pa_nil))) (pa_cons pe_dnewK (pa_cons pe_dnewK (pa_cons (pv 4) (pa_cons pe_int pa_nil)))))) (pg_tup rfl (pgs_cons (pg_name (i := 6) sc_law.nd rfl (by first | exact Or.inl rfl | exact Or.inr rfl)) (pgs_cons (pg_name (i := 7) sc_law.nd rfl (by first | exact Or.inl rfl | exact Or.inr rfl)) (pgs_cons (pg_name (i := 8) sc_law.nd rfl (by first | exact Or.inl rfl | exact Or.inr rfl)) (pgs_cons (pg_name (i := 9) sc_law.nd rfl (by first | exact Or.inl rfl | exact Or.inr rfl)) (pgs_cons (pg_name (i := 10) sc_law.nd rfl (by first | exact Or.inl rfl | exact Or.inr rfl)) pgs_nil)))))))
        (pss_cons pst
        (pss_one pg))))), fun D H sa ns x1 x2 x3 x4 x5 x6 x7 x8 x9 x10 x11 x12 x13 x14 x15 x16 x17 x18 x19 x20 x21 hs tB k => ?_⟩
  walk_at "v"
  refine ⟨sa, ns, rfl, hs, fun p q H1 ep eq npq fq g1 => ?_⟩
  refine ⟨p, rfl, ⟨_, SqL.of ep⟩, for_fold V.ref [q] rfl walk_itl (fun _ _ => true) false
    (fun st σ H' => (∃ x1 x2 x3 x4 x5 x6 x7 x8 x9 x10 x11 x12 x13 x14 x15 x16 x17 x18 x19 x20 x21 : Option V, σ = [some (.ref sa), x1, x2, x3, x4, x5, x6, x7, x8, x9, x10, x11, x12, x13, x14, x15, x16, x17, x18, x19, x20, x21]) ∧ Tb (TL K) (TG K) H' ∧ H' p = some (.lst [.ref q]) ∧ (st = false → H' = H1))
    ⟨⟨_, _, _, _, _, _, _, _, _, _, _, _, _, _, _, _, _, _, _, _, _, rfl⟩, g1.tb tB, ep, fun _ => rfl⟩ (fun _ σ H' h => SqL.of h.2.2.1) ?_ ?_⟩
  · intro pre y post σ H2 ey h
    have ep2 : pre = [] := by
      cases pre with
      | nil => rfl
      | cons _ t => exact absurd (congrArg List.length ey) (by simp)
    subst ep2
    injection ey with ey _
    subst ey
    obtain ⟨⟨x1, x2, x3, x4, x5, x6, x7, x8, x9, x10, x11, x12, x13, x14, x15, x16, x17, x18, x19, x20, x21, rfl⟩, _, _, eH⟩ := h
    obtain rfl := eH rfl
    walk_at "v"
    refine ⟨q, dice0 (cell1 ns), 200, rfl, eq, by decide, by decide, ?_⟩
    walk_at "v"
    refine ⟨q, _, 40, rfl, upd_same, by decide, by decide, ?_⟩
    rw [upd_upd]
    have r1 := (roll_lt (Dc := dice0 (cell1 ns)) (m := 200) (by decide)).1
    have r2 := (roll_lt (Dc := rollD (dice0 (cell1 ns)) 200) (m := 40) (by decide)).1
    have gq : Go (TL K) (TG K) (fun b => b = q) H2 (upd H2 q (.lst (dvals (rollD (rollD (dice0 (cell1 ns)) 200) 40)))) := Go.set eq plain_lst rfl
    have eq2 : upd H2 q (.lst (dvals (rollD (rollD (dice0 (cell1 ns)) 200) 40))) q = some (.lst (dvals (rollD (rollD (dice0 (cell1 ns)) 200) 40))) := upd_same
    have ep2 := gq.keep _ _ ep (by intro _ z; cases z) npq
    have tbq := gq.tb (g1.tb tB)
    generalize rollD (rollD (dice0 (cell1 ns)) 200) 40 = Dc at eq2 ep2 tbq ⊢
    generalize upd H2 q (.lst (dvals Dc)) = H3 at eq2 ep2 tbq ⊢
    generalize rollV (dice0 (cell1 ns)) 200 = full at r1 ⊢
    generalize rollV (rollD (dice0 (cell1 ns)) 200) 40 = comes at r2 ⊢
    refine ⟨_, _, rfl, ?_⟩
    walk_at "v"; walk_at "v"
    intro m dx hm hdx ndm
    have gm : Go (TL K) (TG K) (fun _ => False) H3 (upd (upd H3 dx (.own m)) m (.ins (CMns K) dx [])) := (Go.new hdx).trans (Go.new (by rw [upd_ne ndm.symm]; exact hm))
    refine ⟨m, dx, full, comes, rfl, upd_same, fun z => by rcases z with z | z <;> omega, fun _ _ d e H4 hd he D4 g => ⟨rfl, ?_⟩⟩
    have g4 : Go (TL K) (TG K) (fun _ => False) H3 H4 := (gm.wide.trans g).drop fun b z => .inr (by rw [z]; exact hm)
    refine fun o ho => fun wd hw => ?_
    have a1 : H4 q = some (.lst (dvals Dc)) := g4.get eq2
    have a2 : H4 p = some (.lst [.ref q]) := g4.get ep2
    have nod : d ≠ o := fun z => by
      have := D4.ps.dc
      rw [z] at this
      exact ne_of_none this ho rfl
    have neo : e ≠ o := ne_of_none D4.ts ho
    have ndw : d ≠ wd := fun z => by
      rw [← z, upd_ne nod] at hw
      exact ne_of_none D4.ps.dc hw rfl
    have new : e ≠ wd := fun z => by
      rw [← z, upd_ne neo] at hw
      exact ne_of_none D4.ts hw rfl
    have now : o ≠ wd := ne_of_none upd_same hw
    have g5 := (g4.trans (Go.new (o := .dK []) ho)).trans (Go.new (o := .dK []) hw)
    have e5 : Go (TL K) (TG K) (fun _ => False) H4 (upd (upd H4 o (.dK [])) wd (.dK [])) := (Go.new (o := .dK []) ho).trans (Go.new (o := .dK []) hw)
    have c1 : upd (upd H4 o (.dK [])) wd (.dK []) o = some (.dK []) := by rw [upd_ne now]; exact upd_same
    have c2 : upd (upd H4 o (.dK [])) wd (.dK []) wd = some (.dK []) := upd_same
    generalize upd (upd H4 o (.dK [])) wd (.dK []) = H5 at g5 e5 c1 c2 ⊢
    refine ⟨_, rfl, ?_⟩
    refine ⟨(by show 5 ≤ sizeLine; decide), fun t ht => ?_⟩
    have g6 := g5.trans (Go.new (o := .tup [.ref m, .ref o, .ref wd, .int full, .int 0]) ht)
    have e6 := e5.trans (Go.new (o := .tup [.ref m, .ref o, .ref wd, .int full, .int 0]) ht)
    have W6 : W2 K (upd H5 t (.tup [.ref m, .ref o, .ref wd, .int full, .int 0])) q p m d e o wd ⟨full, full, comes, 0⟩ [] [] (fun _ => 0) (fun _ => 0) :=
      ⟨D4.go e6 id id id (fun _ _ => id), ⟨by rw [upd_ne (ne_of_none c1 ht)]; exact c1, fun _ z => (by cases z)⟩, by rw [upd_ne (ne_of_none c2 ht)]; exact c2, ⟨_, e6.get a1⟩, e6.get a2, nod, ndw, neo, new, WfP.nil, fun _ z => (by cases z), .nil, fun _ z => (by cases z), g6.tb tbq⟩
    refine ⟨t, _, rfl, SqT.of upd_same, rfl, ?_⟩
    refine ⟨_, _, rfl, _, _, rfl, _, _, rfl, _, _, rfl, _, _, rfl, rfl, ?_⟩
    generalize upd H5 t (.tup [.ref m, .ref o, .ref wd, .int full, .int 0]) = H6 at W6 ⊢
    refine rst _ H6 q p m d e o wd ⟨full, full, comes, 0⟩ [] [] _ _ _ _ _ _ _ _ _ _ _ _ _ _ _ _ W6 fun d' o' w' M' R' T'' pa' qa' H7 y2 y3 y11 y12 y13 y14 y15 y16 y17 y18 y19 y20 y21 W7 => ?_
    refine rg _ H7 q p m d' e o' w' M' R' T'' pa' qa' _ _ _ _ _ _ _ _ _ _ _ _ _ _ W7 fun H8 z3 z11 g8 => ?_
    exact ⟨⟨_, _, _, _, _, _, _, _, _, _, _, _, _, _, _, _, _, _, _, _, _, rfl⟩, g8.tb W7.tb, g8.get W7.pl, fun z => by cases z⟩
  · rintro σ H2 ⟨⟨x1, x2, x3, x4, x5, x6, x7, x8, x9, x10, x11, x12, x13, x14, x15, x16, x17, x18, x19, x20, x21, rfl⟩, t2, _, _⟩
    exact k _ _ _ _ _ _ _ _ _ _ _ _ _ _ _ _ _ _ _ _ _ H2 t2
end
end K2
namespace K2
open PySem PySem.Spec PyProof.Rows L2 Fy
open GxR (TabG Tabbed)
def Rp (k : Nat) : Ps := (List.range k).map fun j => (pn j, none, 3)
theorem Rp_succ (k : Nat) : Rp (k + 1) = Rp k ++ [(pn k, none, 3)] := by
  unfold Rp
  rw [List.range_succ, List.map_append]
  rfl
theorem Rp_len (k : Nat) : (Rp k).length = k := by
  unfold Rp
  rw [List.length_map, List.length_range]
theorem Rp_mem {k : Nat} {p : Str × (Option Str × Int)} (h : p ∈ Rp k) : p.2 = (none, 3) ∧ ∃ j, j < k ∧ p.1 = pn j := by
  unfold Rp at h
  obtain ⟨j, hj, rfl⟩ := List.mem_map.mp h
  exact ⟨rfl, j, List.mem_range.mp hj, rfl⟩
theorem Rp_none {k : Nat} (h : k < 40) : (Rp k).lookup (pn k) = none := by
  cases e : (Rp k).lookup (pn k) with
  | none => rfl
  | some x =>
    obtain ⟨_, j, hj, ej⟩ := Rp_mem (lookM e)
    have := pn_inj k h j (by omega) ej
    omega
theorem pn_no : ∀ k, k < 40 → ¬ pn k = "x" ∧ ¬ pn k = "z" := by decide +kernel
theorem Rp_z : (Rp 40).lookup ("z" : Str) = none := by
  cases e : (Rp 40).lookup ("z" : Str) with
  | none => rfl
  | some x =>
    obtain ⟨_, j, hj, ej⟩ := Rp_mem (lookM e)
    exact absurd ej.symm (pn_no j hj).2
theorem Rp_nd : ((Rp 40).map (·.1)).Nodup := by
  have e : (Rp 40).map (·.1) = (List.range 40).map pn := by
    unfold Rp
    rw [List.map_map]
    rfl
  rw [e]
  decide +kernel
theorem Rp_wf : WfP (Rp 40) := ⟨Rp_nd, by rw [Rp_len]; decide, fun _ => 0, fun n a t h => by
  have := (Rp_mem (lookM h)).1
  cases this⟩
theorem pn0 : pn 0 = ("p0" : Str) := by decide +kernel
theorem pn1 : pn 1 = ("p1" : Str) := by decide +kernel
theorem Rp_p0 : (Rp 40).lookup ("p0" : Str) = some (none, 3) := Mlook Rp_nd (List.mem_map.mpr ⟨0, List.mem_range.mpr (by decide), by rw [pn0]⟩)
theorem Rp_p1 : (Rp 40).lookup ("p1" : Str) = some (none, 3) := Mlook Rp_nd (List.mem_map.mpr ⟨1, List.mem_range.mpr (by decide), by rw [pn1]⟩)
theorem Rp_line {n : Str} {y : Option Str × Int} (h : (Rp 40).lookup n = some y) : lineS (Rp 40) n = [n] := by
  obtain rfl : y = (none, 3) := (Rp_mem (lookM h)).1
  exact lineS_eq (.cons h .nil)
theorem noLine {R : Ps} {n : Str} {l : List Str} (h : R.lookup n = none) : ¬ Line R (some n) l := fun hl => by
  cases hl with
  | cons e _ =>
    rw [h] at e
    cases e
theorem Rp_ok {k : Nat} (h : k < 40) : canAdd (Rp k) (pn k) none 3 = true := by
  unfold canAdd
  rw [Rp_none h, decide_eq_false (pn_ok k h).2, decide_eq_false (show ¬ 40 ≤ (Rp k).length by rw [Rp_len]; omega)]
  rfl
theorem Rp_x : canAdd (Rp 40) "x" none 1 = false := by
  unfold canAdd
  rw [decide_eq_true (show 40 ≤ (Rp 40).length by rw [Rp_len]; decide)]
  simp
def T2 : Ts := [("p1", 5), ("p0", 2)]
theorem T2_put : putT (putT [] "p1" 5) "p0" 2 = T2 := by decide +kernel
theorem keys_T2 : keysT T2 = (["p0", "p1"] : List Str) := by
  refine sorted_uniq ((List.mergeSort_perm _ _).trans (.swap _ _ _)) (sortS_pw _) ?_
  decide +kernel
theorem runFl_congr {ln ln' : Str → List Str} {cap cap' wish : Str → Int} {ns : List Str} (h : ∀ n ∈ ns, ln n = ln' n) (hc : ∀ n ∈ ns, ∀ p ∈ ln' n, cap p = cap' p) : ∀ (k : Nat) (s : Fl), runFl ln cap wish ns k s = runFl ln' cap' wish ns k s := by
  have hs : ∀ (s : Fl) (n : Str), n ∈ ns → stepFl ln cap wish s n = stepFl ln' cap' wish s n := fun s n hn => by
    have e2 : (ln' n).all (fun p => decide (s.t p < cap p)) = (ln' n).all (fun p => decide (s.t p < cap' p)) := by
      rw [Bool.eq_iff_iff, List.all_eq_true, List.all_eq_true]
      exact ⟨fun z p hp => by rw [← hc n hn p hp]; exact z p hp, fun z p hp => by rw [hc n hn p hp]; exact z p hp⟩
    unfold stepFl upFl goFl
    simp only [h n hn, e2]
  have hf : ∀ (ms : List Str) (s : Fl), (∀ n ∈ ms, n ∈ ns) → ms.foldl (stepFl ln cap wish) s = ms.foldl (stepFl ln' cap' wish) s := by
    intro ms
    induction ms with
    | nil => exact fun _ _ => rfl
    | cons n r ih =>
      intro s hm
      rw [List.foldl_cons, List.foldl_cons, hs s n (hm n List.mem_cons_self)]
      exact ih _ fun x hx => hm x (List.mem_cons_of_mem _ hx)
  intro k
  induction k with
  | zero => exact fun _ => rfl
  | succ k ih =>
    intro s
    unfold runFl roundFl
    rw [hf ns _ fun _ h => h]
    split
    · exact ih _
    · rfl
theorem flows_T2 : flowsS (Rp 40) T2 100 = runFl (fun n => [n]) (fun _ => 3) (wishS T2) ["p0", "p1"] 101 (startFl 100) := by
  unfold flowsS
  rw [keys_T2]
  have kn : ∀ n, n ∈ (["p0", "p1"] : List Str) → (Rp 40).lookup n = some (none, 3) := fun n hn => by
    rcases List.mem_cons.mp hn with rfl | hn
    · exact Rp_p0
    · obtain rfl := List.mem_singleton.mp hn
      exact Rp_p1
  refine runFl_congr (fun n hn => Rp_line (kn n hn)) (fun n hn p hp => ?_) _ _
  obtain rfl := List.mem_singleton.mp hp
  unfold capS
  rw [kn _ hn] <;> rfl
theorem flow_p0 : (flowsS (Rp 40) T2 100).f "p0" = 2 := by
  rw [flows_T2]
  decide +kernel
theorem flow_p1 : (flowsS (Rp 40) T2 100).f "p1" = 3 := by
  rw [flows_T2]
  decide +kernel
theorem taken_T2 : takenS (Rp 40) T2 100 = 5 := by
  unfold takenS
  rw [keys_T2, List.map_cons, List.map_cons, List.map_nil, flow_p0, flow_p1] <;> rfl
theorem min_T2 : minM (Rp 40) T2 ⟨100, 100, 0, 0⟩ = ⟨100, 95, 0, 5⟩ := by
  unfold minM
  rw [taken_T2]
  exact congrArg (fun t => (⟨100, t, 0, 5⟩ : Mn)) (show mnI 100 (100 - 5 + 0) = 95 from by decide)
theorem gone_p1 : goneS (Rp 40) "p1" = (["p1"] : List Str) := by
  unfold goneS
  have e : (sortS ((Rp 40).map fun p => p.1)).filter (fun x => decide (("p1" : Str) ∈ lineS (Rp 40) x)) = (sortS ((Rp 40).map fun p => p.1)).filter (fun x => decide (x = ("p1" : Str))) := by
    refine List.filter_congr fun x hx => ?_
    have hx : x ∈ (Rp 40).map fun p => p.1 := mem_sortS.mp hx
    obtain ⟨y, ey⟩ := lookK hx
    rw [Rp_line ey]
    by_cases z : x = ("p1" : Str)
    · subst z; simp
    · simp [z, Ne.symm z]
  rw [e, ← sortS_filter]
  have e2 : ((Rp 40).map fun p => p.1).filter (fun x => decide (x = ("p1" : Str))) = (["p1"] : List Str) := by decide +kernel
  rw [e2]
  exact List.mergeSort_singleton _
theorem cut_T2 : cutP (["p1"] : List Str) T2 = ([("p0", 2)] : Ts) := by
  unfold cutP
  decide +kernel
section
variable {P : Program} {w : World} {K : PySem.W.Frag} {mg : Str → Option Value} {base : Heap}
/-- for k in range(40): mains.add(..) -/
theorem law_forty (T : Txt K mg base) {A : Around} {outer : List Env} {s : Shared} {H0 : Hp} {E0 : XK} (hr : Room 6 (A.deeper (envOfC d_law.qual d_law.scope s.heap.objs.size (He.fAd K d_law.at_) (.ref (He.codeOf K d_law.at_))))) :
    ∃ t, PS (bodyX P w K mg base N_law d_law A outer s H0 E0) ((d_law.body).getD 2 noS) t ∧ ∀ (D : Ends) (H : Hp) (m d e : Addr) (M : Mn) (x0 x1 x2 x3 x4 x5 x7 x8 x9 x10 x11 x12 x13 x14 x15 x16 x17 x18 x19 x20 x21 : Option V), MainsAt (CMns K) H m d e M [] [] (fun _ => 0) → Tb (TL K) (TG K) H →
      (∀ (x19 : Option V) (pa : Str → Addr) (H' : Hp), MainsAt (CMns K) H' m d e M (Rp 40) [] pa → Tb (TL K) (TG K) H' → D.nx [x0, x1, x2, x3, x4, x5, some (.ref m), x7, x8, x9, x10, x11, x12, x13, x14, x15, x16, x17, x18, x19, x20, x21] H') →
      t D [x0, x1, x2, x3, x4, x5, some (.ref m), x7, x8, x9, x10, x11, x12, x13, x14, x15, x16, x17, x18, x19, x20, x21] H := by
  have hu := hu_of hr
  refine ⟨_, (ps_for (passes_of rfl) rfl (pi_range1 rfl T.fr_range (pa_cons pe_int pa_nil)) (pg_name (i := 19) sc_law.nd rfl (by first | exact Or.inl rfl | exact Or.inr rfl)) (pss_one (ps_expr (pg_meth (ok_Mains_add T) (hr.mono (by decide)) T.cl_Mains T.me_Mains_add px (pv 6) (pa_cons (pe_op op_add_str pe_str (pe_callTy call_str_int (by rfl) T.fr_str (by decide +kernel) (pa_cons (pv 19) pa_nil))) (pa_cons pe_non (pa_cons pe_int pa_nil))))))), fun D H m d e M x0 x1 x2 x3 x4 x5 x7 x8 x9 x10 x11 x12 x13 x14 x15 x16 x17 x18 x19 x20 x21 W tb k => ?_⟩
  refine ⟨40, rfl, by decide, by decide, ?_⟩
  refine for_range (n := 40) (fun i σ H' => (∃ x19, σ = [x0, x1, x2, x3, x4, x5, some (.ref m), x7, x8, x9, x10, x11, x12, x13, x14, x15, x16, x17, x18, x19, x20, x21]) ∧ ∃ pa, MainsAt (CMns K) H' m d e M (Rp i) [] pa ∧ Tb (TL K) (TG K) H')
    ⟨⟨_, rfl⟩, _, W, tb⟩ ?_ ?_
  · rintro i σ H1 hi ⟨⟨x19, rfl⟩, pa, D1, tb1⟩
    have hi40 : i < 40 := hi
    rw [Int.zero_add]
    obtain ⟨⟨dx, h1⟩, ps, ts, ne⟩ := id D1
    walk_at "v"
    refine ⟨_, _, _, rfl, h1, rfl, ?_⟩
    walk_at "v"
    refine ⟨_, rfl, lg40 hi40, ?_⟩
    refine ⟨_, _, rfl, rfl, ls40 hi40, ?_⟩
    refine ⟨m, d, e, M, Rp i, [], pa, pn i, none, 3, rfl, D1, fun z => ?_, fun _ pa' H' _ _ D2 g => ?_⟩
    · rw [Rp_ok hi40] at z
      cases z
    · rw [← Rp_succ] at D2
      exact ⟨⟨_, rfl⟩, pa', D2, g.tb tb1⟩
  · rintro σ H1 ⟨⟨x19, rfl⟩, pa, D1, tb1⟩
    exact k _ pa H1 D1 tb1
end
end K2
namespace K2
open PySem PySem.Spec PyProof.Rows L2 Fy
open GxR (TabG Tabbed)
/-- where the program's forty pipes lie -/
def G2 (K : PySem.W.Frag) : L2.St → Hp → Prop := fun σ H => ∃ (m d e : Addr) (M : Mn) (pa : Str → Addr), σ[6]? = some (some (.ref m)) ∧ MainsAt (CMns K) H m d e M (Rp 40) [] pa ∧ Tb (TL K) (TG K) H
section
variable {P : Program} {w : World} {K : PySem.W.Frag} {mg : Str → Option Value} {base : Heap}
theorem MainsAt.drp {C : Addr} {H : Hp} {m d e f : Addr} {M : Mn} {R : Ps} {T : Ts} {pa : Str → Addr} {φ : Heap → Prop} (hf : H f = some (.ext φ)) (D : MainsAt C H m d e M R T pa) : MainsAt C (drp H f) m d e M R T pa := by
  obtain ⟨⟨dx, h1⟩, ps, ts, ne⟩ := D
  exact ⟨⟨dx, drp_get hf h1 (fun _ z => by cases z)⟩, ⟨drp_get hf ps.dc (fun _ z => by cases z), fun p hp => drp_get hf (ps.row p hp) (fun _ z => by cases z)⟩, drp_get hf ts (fun _ z => by cases z), ne⟩
theorem G2.drp {σ : L2.St} {H : Hp} {f : Addr} {φ : Heap → Prop} (hf : H f = some (.ext φ)) (hc : ∀ c q, H c = some (LamX.CodeO c q) → c ≠ f) (g : G2 K σ H) : G2 K σ (Fy.drp H f) := by
  obtain ⟨m, d, e, M, pa, h1, D, tb⟩ := g
  exact ⟨m, d, e, M, pa, h1, D.drp hf, drp_tb hf hc tb⟩
theorem law_bad0 (T : Txt K mg base) {A : Around} {outer : List Env} {s : Shared} {H0 : Hp} {E0 : XK} :
    ∃ t : XK → TE, (∀ (A' : Around) (outer' : List Env) (s' : Shared) (H : Hp) (E : XK) (f c' : Addr), Room 3 (A'.deeper (LamX.lamEnv (bodyX P w K mg base N_law d_law A outer s H0 E0) (lamSc d_law.scope ((d_law.body).getD 3 noS) 0) s'.heap.objs.size f c')) → PE (LamX.lamCx (bodyX P w K mg base N_law d_law A outer s H0 E0) A' outer' s' H E (lamSc d_law.scope ((d_law.body).getD 3 noS) 0) f c') (lamB ((d_law.body).getD 3 noS) 0) (t E)) ∧
      isBad (bodyX P w K mg base N_law d_law A outer s H0 E0) (WErr K) "WaterError" (G2 K) (TL K) (TG K) t := by
  refine ⟨_, fun A' outer' s' H E f c' hr2 => (pg_make T.mk_Mains (ok_Mains_init T) (hr2.mono (by decide)) rfl T.gl_Mains pxl (pa_cons (pe_un un_neg pe_int) (pa_cons pe_int pa_nil))), fun σ H Q hG k => ?_⟩
  · obtain ⟨m, d, e, M, pa, hσ, D, tb⟩ := hG
    obtain ⟨⟨dx, h1⟩, ps, ts, ne⟩ := id D
    refine ⟨_, rfl, ?_⟩
    refine fun m dx hm hdx ndm => ?_
    have gm : Go (TL K) (TG K) (fun _ => False) H (upd (upd H dx (.own m)) m (.ins (CMns K) dx [])) := (Go.new hdx).trans (Go.new (by rw [upd_ne ndm.symm]; exact hm))
    exact ⟨m, dx, -1, 0, rfl, upd_same, fun _ => ⟨true, T.em_WaterError_WaterError, fun _ => k _ (gm), fun z => by cases z⟩, fun h1 h2 => absurd (And.intro h1 h2) (by decide)⟩
theorem law_lam0 (T : Txt K mg base) {A : Around} {outer : List Env} {s : Shared} {H0 : Hp} {E0 : XK} :
    ∃ M : LamK (bodyX P w K mg base N_law d_law A outer s H0 E0) 3, PE (bodyX P w K mg base N_law d_law A outer s H0 E0) (lamL ((d_law.body).getD 3 noS) 0) (tLamM (bodyX P w K mg base N_law d_law A outer s H0 E0) (TL K) (TG K) M) ∧ isBad (bodyX P w K mg base N_law d_law A outer s H0 E0) (WErr K) "WaterError" (G2 K) (TL K) (TG K) M.t := by
  obtain ⟨t, p, b⟩ := law_bad0 (P := P) (w := w) (A := A) (outer := outer) (s := s) (E0 := E0) (H0 := H0) T
  have L : LamX.LamS d_law.scope (lamSc d_law.scope ((d_law.body).getD 3 noS) 0) := LamX.lamS_by (by decide +kernel)
  exact ⟨⟨lamP d_law.params ((d_law.body).getD 3 noS) 0, lamB ((d_law.body).getD 3 noS) 0, lamSc d_law.scope ((d_law.body).getD 3 noS) 0, t, L, fun _ _ _ _ _ => rfl, p⟩, pe_lamV T.tb_law rfl T.tm_law T.tu_law T.tn_law L rfl, b⟩
theorem law_bad1 (T : Txt K mg base) {A : Around} {outer : List Env} {s : Shared} {H0 : Hp} {E0 : XK} :
    ∃ t : XK → TE, (∀ (A' : Around) (outer' : List Env) (s' : Shared) (H : Hp) (E : XK) (f c' : Addr), Room 3 (A'.deeper (LamX.lamEnv (bodyX P w K mg base N_law d_law A outer s H0 E0) (lamSc d_law.scope ((d_law.body).getD 3 noS) 1) s'.heap.objs.size f c')) → PE (LamX.lamCx (bodyX P w K mg base N_law d_law A outer s H0 E0) A' outer' s' H E (lamSc d_law.scope ((d_law.body).getD 3 noS) 1) f c') (lamB ((d_law.body).getD 3 noS) 1) (t E)) ∧
      isBad (bodyX P w K mg base N_law d_law A outer s H0 E0) (WErr K) "WaterError" (G2 K) (TL K) (TG K) t := by
  refine ⟨_, fun A' outer' s' H E f c' hr2 => (pg_make T.mk_Mains (ok_Mains_init T) (hr2.mono (by decide)) rfl T.gl_Mains pxl (pa_cons pe_int (pa_cons (pe_un un_neg pe_int) pa_nil))), fun σ H Q hG k => ?_⟩
  · obtain ⟨m, d, e, M, pa, hσ, D, tb⟩ := hG
    obtain ⟨⟨dx, h1⟩, ps, ts, ne⟩ := id D
    refine ⟨_, rfl, ?_⟩
    refine fun m dx hm hdx ndm => ?_
    have gm : Go (TL K) (TG K) (fun _ => False) H (upd (upd H dx (.own m)) m (.ins (CMns K) dx [])) := (Go.new hdx).trans (Go.new (by rw [upd_ne ndm.symm]; exact hm))
    exact ⟨m, dx, 0, -1, rfl, upd_same, fun _ => ⟨true, T.em_WaterError_WaterError, fun _ => k _ (gm), fun z => by cases z⟩, fun h1 h2 => absurd (And.intro h1 h2) (by decide)⟩
theorem law_lam1 (T : Txt K mg base) {A : Around} {outer : List Env} {s : Shared} {H0 : Hp} {E0 : XK} :
    ∃ M : LamK (bodyX P w K mg base N_law d_law A outer s H0 E0) 3, PE (bodyX P w K mg base N_law d_law A outer s H0 E0) (lamL ((d_law.body).getD 3 noS) 1) (tLamM (bodyX P w K mg base N_law d_law A outer s H0 E0) (TL K) (TG K) M) ∧ isBad (bodyX P w K mg base N_law d_law A outer s H0 E0) (WErr K) "WaterError" (G2 K) (TL K) (TG K) M.t := by
  obtain ⟨t, p, b⟩ := law_bad1 (P := P) (w := w) (A := A) (outer := outer) (s := s) (E0 := E0) (H0 := H0) T
  have L : LamX.LamS d_law.scope (lamSc d_law.scope ((d_law.body).getD 3 noS) 1) := LamX.lamS_by (by decide +kernel)
  exact ⟨⟨lamP d_law.params ((d_law.body).getD 3 noS) 1, lamB ((d_law.body).getD 3 noS) 1, lamSc d_law.scope ((d_law.body).getD 3 noS) 1, t, L, fun _ _ _ _ _ => rfl, p⟩, pe_lamV T.tb_law rfl T.tm_law T.tu_law T.tn_law L rfl, b⟩
theorem law_bad2 (T : Txt K mg base) {A : Around} {outer : List Env} {s : Shared} {H0 : Hp} {E0 : XK} :
    ∃ t : XK → TE, (∀ (A' : Around) (outer' : List Env) (s' : Shared) (H : Hp) (E : XK) (f c' : Addr), Room 3 (A'.deeper (LamX.lamEnv (bodyX P w K mg base N_law d_law A outer s H0 E0) (lamSc d_law.scope ((d_law.body).getD 3 noS) 2) s'.heap.objs.size f c')) → PE (LamX.lamCx (bodyX P w K mg base N_law d_law A outer s H0 E0) A' outer' s' H E (lamSc d_law.scope ((d_law.body).getD 3 noS) 2) f c') (lamB ((d_law.body).getD 3 noS) 2) (t E)) ∧
      isBad (bodyX P w K mg base N_law d_law A outer s H0 E0) (WErr K) "WaterError" (G2 K) (TL K) (TG K) t := by
  refine ⟨_, fun A' outer' s' H E f c' hr2 => (pg_meth (ok_Mains_add T) (hr2.mono (by decide)) T.cl_Mains T.me_Mains_add pxl (pv 6) (pa_cons pe_str (pa_cons pe_non (pa_cons pe_int pa_nil)))), fun σ H Q hG k => ?_⟩
  · obtain ⟨m, d, e, M, pa, hσ, D, tb⟩ := hG
    obtain ⟨⟨dx, h1⟩, ps, ts, ne⟩ := id D
    refine ⟨_, hσ, ?_⟩
    refine ⟨_, _, _, rfl, h1, rfl, ?_⟩
    exact ⟨m, d, e, M, Rp 40, [], pa, "x", none, 1, rfl, D, fun _ => ⟨true, T.em_WaterError_WaterError, fun _ => k _ (.refl), fun z => by cases z⟩, fun z => absurd (Rp_x.symm.trans z) (by decide)⟩
theorem law_lam2 (T : Txt K mg base) {A : Around} {outer : List Env} {s : Shared} {H0 : Hp} {E0 : XK} :
    ∃ M : LamK (bodyX P w K mg base N_law d_law A outer s H0 E0) 3, PE (bodyX P w K mg base N_law d_law A outer s H0 E0) (lamL ((d_law.body).getD 3 noS) 2) (tLamM (bodyX P w K mg base N_law d_law A outer s H0 E0) (TL K) (TG K) M) ∧ isBad (bodyX P w K mg base N_law d_law A outer s H0 E0) (WErr K) "WaterError" (G2 K) (TL K) (TG K) M.t := by
  obtain ⟨t, p, b⟩ := law_bad2 (P := P) (w := w) (A := A) (outer := outer) (s := s) (E0 := E0) (H0 := H0) T
  have L : LamX.LamS d_law.scope (lamSc d_law.scope ((d_law.body).getD 3 noS) 2) := LamX.lamS_by (by decide +kernel)
  exact ⟨⟨lamP d_law.params ((d_law.body).getD 3 noS) 2, lamB ((d_law.body).getD 3 noS) 2, lamSc d_law.scope ((d_law.body).getD 3 noS) 2, t, L, fun _ _ _ _ _ => rfl, p⟩, pe_lamV T.tb_law rfl T.tm_law T.tu_law T.tn_law L rfl, b⟩
theorem law_bad3 (T : Txt K mg base) {A : Around} {outer : List Env} {s : Shared} {H0 : Hp} {E0 : XK} :
    ∃ t : XK → TE, (∀ (A' : Around) (outer' : List Env) (s' : Shared) (H : Hp) (E : XK) (f c' : Addr), Room 3 (A'.deeper (LamX.lamEnv (bodyX P w K mg base N_law d_law A outer s H0 E0) (lamSc d_law.scope ((d_law.body).getD 3 noS) 3) s'.heap.objs.size f c')) → PE (LamX.lamCx (bodyX P w K mg base N_law d_law A outer s H0 E0) A' outer' s' H E (lamSc d_law.scope ((d_law.body).getD 3 noS) 3) f c') (lamB ((d_law.body).getD 3 noS) 3) (t E)) ∧
      isBad (bodyX P w K mg base N_law d_law A outer s H0 E0) (WErr K) "WaterError" (G2 K) (TL K) (TG K) t := by
  refine ⟨_, fun A' outer' s' H E f c' hr2 => (pg_meth (ok_Mains_add T) (hr2.mono (by decide)) T.cl_Mains T.me_Mains_add pxl (pg_make T.mk_Mains (ok_Mains_init T) (hr2.mono (by decide)) rfl T.gl_Mains pxl (pa_cons pe_int (pa_cons pe_int pa_nil))) (pa_cons pe_str (pa_cons pe_non (pa_cons pe_int pa_nil)))), fun σ H Q hG k => ?_⟩
  · obtain ⟨m, d, e, M, pa, hσ, D, tb⟩ := hG
    obtain ⟨⟨dx, h1⟩, ps, ts, ne⟩ := id D
    refine fun m dx hm hdx ndm => ?_
    have gm : Go (TL K) (TG K) (fun _ => False) H (upd (upd H dx (.own m)) m (.ins (CMns K) dx [])) := (Go.new hdx).trans (Go.new (by rw [upd_ne ndm.symm]; exact hm))
    refine ⟨m, dx, 5, 5, rfl, upd_same, fun z => absurd z (by decide), fun _ _ d e H4 hd he D4 g => ⟨rfl, ?_⟩⟩
    have g4 : Go (TL K) (TG K) (fun _ => False) H H4 := (gm.wide.trans g).drop fun b z => .inr (by rw [z]; exact hm)
    obtain ⟨⟨dx4, h4⟩, _, _, _⟩ := id D4
    refine ⟨_, _, _, rfl, h4, rfl, ?_⟩
    exact ⟨m, d, e, _, [], [], fun _ => 0, "", none, 1, rfl, D4, fun _ => ⟨true, T.em_WaterError_WaterError, fun _ => k _ (g4), fun z => by cases z⟩, fun z => absurd z (by decide)⟩
theorem law_lam3 (T : Txt K mg base) {A : Around} {outer : List Env} {s : Shared} {H0 : Hp} {E0 : XK} :
    ∃ M : LamK (bodyX P w K mg base N_law d_law A outer s H0 E0) 3, PE (bodyX P w K mg base N_law d_law A outer s H0 E0) (lamL ((d_law.body).getD 3 noS) 3) (tLamM (bodyX P w K mg base N_law d_law A outer s H0 E0) (TL K) (TG K) M) ∧ isBad (bodyX P w K mg base N_law d_law A outer s H0 E0) (WErr K) "WaterError" (G2 K) (TL K) (TG K) M.t := by
  obtain ⟨t, p, b⟩ := law_bad3 (P := P) (w := w) (A := A) (outer := outer) (s := s) (E0 := E0) (H0 := H0) T
  have L : LamX.LamS d_law.scope (lamSc d_law.scope ((d_law.body).getD 3 noS) 3) := LamX.lamS_by (by decide +kernel)
  exact ⟨⟨lamP d_law.params ((d_law.body).getD 3 noS) 3, lamB ((d_law.body).getD 3 noS) 3, lamSc d_law.scope ((d_law.body).getD 3 noS) 3, t, L, fun _ _ _ _ _ => rfl, p⟩, pe_lamV T.tb_law rfl T.tm_law T.tu_law T.tn_law L rfl, b⟩
theorem law_bad4 (T : Txt K mg base) {A : Around} {outer : List Env} {s : Shared} {H0 : Hp} {E0 : XK} :
    ∃ t : XK → TE, (∀ (A' : Around) (outer' : List Env) (s' : Shared) (H : Hp) (E : XK) (f c' : Addr), Room 3 (A'.deeper (LamX.lamEnv (bodyX P w K mg base N_law d_law A outer s H0 E0) (lamSc d_law.scope ((d_law.body).getD 3 noS) 4) s'.heap.objs.size f c')) → PE (LamX.lamCx (bodyX P w K mg base N_law d_law A outer s H0 E0) A' outer' s' H E (lamSc d_law.scope ((d_law.body).getD 3 noS) 4) f c') (lamB ((d_law.body).getD 3 noS) 4) (t E)) ∧
      isBad (bodyX P w K mg base N_law d_law A outer s H0 E0) (WErr K) "WaterError" (G2 K) (TL K) (TG K) t := by
  refine ⟨_, fun A' outer' s' H E f c' hr2 => (pg_meth (ok_Mains_add T) (hr2.mono (by decide)) T.cl_Mains T.me_Mains_add pxl (pg_make T.mk_Mains (ok_Mains_init T) (hr2.mono (by decide)) rfl T.gl_Mains pxl (pa_cons pe_int (pa_cons pe_int pa_nil))) (pa_cons pe_str (pa_cons pe_str (pa_cons pe_int pa_nil)))), fun σ H Q hG k => ?_⟩
  · obtain ⟨m, d, e, M, pa, hσ, D, tb⟩ := hG
    obtain ⟨⟨dx, h1⟩, ps, ts, ne⟩ := id D
    refine fun m dx hm hdx ndm => ?_
    have gm : Go (TL K) (TG K) (fun _ => False) H (upd (upd H dx (.own m)) m (.ins (CMns K) dx [])) := (Go.new hdx).trans (Go.new (by rw [upd_ne ndm.symm]; exact hm))
    refine ⟨m, dx, 5, 5, rfl, upd_same, fun z => absurd z (by decide), fun _ _ d e H4 hd he D4 g => ⟨rfl, ?_⟩⟩
    have g4 : Go (TL K) (TG K) (fun _ => False) H H4 := (gm.wide.trans g).drop fun b z => .inr (by rw [z]; exact hm)
    obtain ⟨⟨dx4, h4⟩, _, _, _⟩ := id D4
    refine ⟨_, _, _, rfl, h4, rfl, ?_⟩
    exact ⟨m, d, e, _, [], [], fun _ => 0, "a", some "b", 1, rfl, D4, fun _ => ⟨true, T.em_WaterError_WaterError, fun _ => k _ (g4), fun z => by cases z⟩, fun z => absurd z (by decide)⟩
theorem law_lam4 (T : Txt K mg base) {A : Around} {outer : List Env} {s : Shared} {H0 : Hp} {E0 : XK} :
    ∃ M : LamK (bodyX P w K mg base N_law d_law A outer s H0 E0) 3, PE (bodyX P w K mg base N_law d_law A outer s H0 E0) (lamL ((d_law.body).getD 3 noS) 4) (tLamM (bodyX P w K mg base N_law d_law A outer s H0 E0) (TL K) (TG K) M) ∧ isBad (bodyX P w K mg base N_law d_law A outer s H0 E0) (WErr K) "WaterError" (G2 K) (TL K) (TG K) M.t := by
  obtain ⟨t, p, b⟩ := law_bad4 (P := P) (w := w) (A := A) (outer := outer) (s := s) (E0 := E0) (H0 := H0) T
  have L : LamX.LamS d_law.scope (lamSc d_law.scope ((d_law.body).getD 3 noS) 4) := LamX.lamS_by (by decide +kernel)
  exact ⟨⟨lamP d_law.params ((d_law.body).getD 3 noS) 4, lamB ((d_law.body).getD 3 noS) 4, lamSc d_law.scope ((d_law.body).getD 3 noS) 4, t, L, fun _ _ _ _ _ => rfl, p⟩, pe_lamV T.tb_law rfl T.tm_law T.tu_law T.tn_law L rfl, b⟩
theorem law_bad5 (T : Txt K mg base) {A : Around} {outer : List Env} {s : Shared} {H0 : Hp} {E0 : XK} :
    ∃ t : XK → TE, (∀ (A' : Around) (outer' : List Env) (s' : Shared) (H : Hp) (E : XK) (f c' : Addr), Room 3 (A'.deeper (LamX.lamEnv (bodyX P w K mg base N_law d_law A outer s H0 E0) (lamSc d_law.scope ((d_law.body).getD 3 noS) 5) s'.heap.objs.size f c')) → PE (LamX.lamCx (bodyX P w K mg base N_law d_law A outer s H0 E0) A' outer' s' H E (lamSc d_law.scope ((d_law.body).getD 3 noS) 5) f c') (lamB ((d_law.body).getD 3 noS) 5) (t E)) ∧
      isBad (bodyX P w K mg base N_law d_law A outer s H0 E0) (WErr K) "WaterError" (G2 K) (TL K) (TG K) t := by
  refine ⟨_, fun A' outer' s' H E f c' hr2 => (pg_meth (ok_Mains_add T) (hr2.mono (by decide)) T.cl_Mains T.me_Mains_add pxl (pg_make T.mk_Mains (ok_Mains_init T) (hr2.mono (by decide)) rfl T.gl_Mains pxl (pa_cons pe_int (pa_cons pe_int pa_nil))) (pa_cons pe_str (pa_cons pe_non (pa_cons pe_int pa_nil)))), fun σ H Q hG k => ?_⟩
  · obtain ⟨m, d, e, M, pa, hσ, D, tb⟩ := hG
    obtain ⟨⟨dx, h1⟩, ps, ts, ne⟩ := id D
    refine fun m dx hm hdx ndm => ?_
    have gm : Go (TL K) (TG K) (fun _ => False) H (upd (upd H dx (.own m)) m (.ins (CMns K) dx [])) := (Go.new hdx).trans (Go.new (by rw [upd_ne ndm.symm]; exact hm))
    refine ⟨m, dx, 5, 5, rfl, upd_same, fun z => absurd z (by decide), fun _ _ d e H4 hd he D4 g => ⟨rfl, ?_⟩⟩
    have g4 : Go (TL K) (TG K) (fun _ => False) H H4 := (gm.wide.trans g).drop fun b z => .inr (by rw [z]; exact hm)
    obtain ⟨⟨dx4, h4⟩, _, _, _⟩ := id D4
    refine ⟨_, _, _, rfl, h4, rfl, ?_⟩
    exact ⟨m, d, e, _, [], [], fun _ => 0, "a", none, 0, rfl, D4, fun _ => ⟨true, T.em_WaterError_WaterError, fun _ => k _ (g4), fun z => by cases z⟩, fun z => absurd z (by decide)⟩
theorem law_lam5 (T : Txt K mg base) {A : Around} {outer : List Env} {s : Shared} {H0 : Hp} {E0 : XK} :
    ∃ M : LamK (bodyX P w K mg base N_law d_law A outer s H0 E0) 3, PE (bodyX P w K mg base N_law d_law A outer s H0 E0) (lamL ((d_law.body).getD 3 noS) 5) (tLamM (bodyX P w K mg base N_law d_law A outer s H0 E0) (TL K) (TG K) M) ∧ isBad (bodyX P w K mg base N_law d_law A outer s H0 E0) (WErr K) "WaterError" (G2 K) (TL K) (TG K) M.t := by
  obtain ⟨t, p, b⟩ := law_bad5 (P := P) (w := w) (A := A) (outer := outer) (s := s) (E0 := E0) (H0 := H0) T
  have L : LamX.LamS d_law.scope (lamSc d_law.scope ((d_law.body).getD 3 noS) 5) := LamX.lamS_by (by decide +kernel)
  exact ⟨⟨lamP d_law.params ((d_law.body).getD 3 noS) 5, lamB ((d_law.body).getD 3 noS) 5, lamSc d_law.scope ((d_law.body).getD 3 noS) 5, t, L, fun _ _ _ _ _ => rfl, p⟩, pe_lamV T.tb_law rfl T.tm_law T.tu_law T.tn_law L rfl, b⟩
theorem law_bad6 (T : Txt K mg base) {A : Around} {outer : List Env} {s : Shared} {H0 : Hp} {E0 : XK} :
    ∃ t : XK → TE, (∀ (A' : Around) (outer' : List Env) (s' : Shared) (H : Hp) (E : XK) (f c' : Addr), Room 3 (A'.deeper (LamX.lamEnv (bodyX P w K mg base N_law d_law A outer s H0 E0) (lamSc d_law.scope ((d_law.body).getD 3 noS) 6) s'.heap.objs.size f c')) → PE (LamX.lamCx (bodyX P w K mg base N_law d_law A outer s H0 E0) A' outer' s' H E (lamSc d_law.scope ((d_law.body).getD 3 noS) 6) f c') (lamB ((d_law.body).getD 3 noS) 6) (t E)) ∧
      isBad (bodyX P w K mg base N_law d_law A outer s H0 E0) (WErr K) "WaterError" (G2 K) (TL K) (TG K) t := by
  refine ⟨_, fun A' outer' s' H E f c' hr2 => (pg_meth (ok_Mains_line T) (hr2.mono (by decide)) T.cl_Mains T.me_Mains_line pxl (pv 6) (pa_cons pe_str pa_nil)), fun σ H Q hG k => ?_⟩
  · obtain ⟨m, d, e, M, pa, hσ, D, tb⟩ := hG
    obtain ⟨⟨dx, h1⟩, ps, ts, ne⟩ := id D
    refine ⟨_, hσ, ?_⟩
    refine ⟨_, _, _, rfl, h1, rfl, ?_⟩
    exact ⟨m, d, e, M, Rp 40, [], pa, "z", rfl, D, Rp_wf, fun _ => ⟨true, T.em_WaterError_WaterError, fun _ => k _ (.refl), fun z => by cases z⟩, fun l hl => absurd hl (noLine Rp_z)⟩
theorem law_lam6 (T : Txt K mg base) {A : Around} {outer : List Env} {s : Shared} {H0 : Hp} {E0 : XK} :
    ∃ M : LamK (bodyX P w K mg base N_law d_law A outer s H0 E0) 3, PE (bodyX P w K mg base N_law d_law A outer s H0 E0) (lamL ((d_law.body).getD 3 noS) 6) (tLamM (bodyX P w K mg base N_law d_law A outer s H0 E0) (TL K) (TG K) M) ∧ isBad (bodyX P w K mg base N_law d_law A outer s H0 E0) (WErr K) "WaterError" (G2 K) (TL K) (TG K) M.t := by
  obtain ⟨t, p, b⟩ := law_bad6 (P := P) (w := w) (A := A) (outer := outer) (s := s) (E0 := E0) (H0 := H0) T
  have L : LamX.LamS d_law.scope (lamSc d_law.scope ((d_law.body).getD 3 noS) 6) := LamX.lamS_by (by decide +kernel)
  exact ⟨⟨lamP d_law.params ((d_law.body).getD 3 noS) 6, lamB ((d_law.body).getD 3 noS) 6, lamSc d_law.scope ((d_law.body).getD 3 noS) 6, t, L, fun _ _ _ _ _ => rfl, p⟩, pe_lamV T.tb_law rfl T.tm_law T.tu_law T.tn_law L rfl, b⟩
theorem law_bad7 (T : Txt K mg base) {A : Around} {outer : List Env} {s : Shared} {H0 : Hp} {E0 : XK} :
    ∃ t : XK → TE, (∀ (A' : Around) (outer' : List Env) (s' : Shared) (H : Hp) (E : XK) (f c' : Addr), Room 3 (A'.deeper (LamX.lamEnv (bodyX P w K mg base N_law d_law A outer s H0 E0) (lamSc d_law.scope ((d_law.body).getD 3 noS) 7) s'.heap.objs.size f c')) → PE (LamX.lamCx (bodyX P w K mg base N_law d_law A outer s H0 E0) A' outer' s' H E (lamSc d_law.scope ((d_law.body).getD 3 noS) 7) f c') (lamB ((d_law.body).getD 3 noS) 7) (t E)) ∧
      isBad (bodyX P w K mg base N_law d_law A outer s H0 E0) (WErr K) "WaterError" (G2 K) (TL K) (TG K) t := by
  refine ⟨_, fun A' outer' s' H E f c' hr2 => (pg_meth (ok_Mains_turn_on T) (hr2.mono (by decide)) T.cl_Mains T.me_Mains_turn_on pxl (pv 6) (pa_cons pe_str (pa_cons pe_int pa_nil))), fun σ H Q hG k => ?_⟩
  · obtain ⟨m, d, e, M, pa, hσ, D, tb⟩ := hG
    obtain ⟨⟨dx, h1⟩, ps, ts, ne⟩ := id D
    refine ⟨_, hσ, ?_⟩
    refine ⟨_, _, _, rfl, h1, rfl, ?_⟩
    exact ⟨m, d, e, M, Rp 40, [], pa, "z", 1, rfl, D, Rp_wf, (by decide), fun _ H' g => ⟨true, T.em_WaterError_WaterError, fun _ => k _ (g), fun z => by cases z⟩, fun z => absurd z (by rw [Rp_z]; decide)⟩
theorem law_lam7 (T : Txt K mg base) {A : Around} {outer : List Env} {s : Shared} {H0 : Hp} {E0 : XK} :
    ∃ M : LamK (bodyX P w K mg base N_law d_law A outer s H0 E0) 3, PE (bodyX P w K mg base N_law d_law A outer s H0 E0) (lamL ((d_law.body).getD 3 noS) 7) (tLamM (bodyX P w K mg base N_law d_law A outer s H0 E0) (TL K) (TG K) M) ∧ isBad (bodyX P w K mg base N_law d_law A outer s H0 E0) (WErr K) "WaterError" (G2 K) (TL K) (TG K) M.t := by
  obtain ⟨t, p, b⟩ := law_bad7 (P := P) (w := w) (A := A) (outer := outer) (s := s) (E0 := E0) (H0 := H0) T
  have L : LamX.LamS d_law.scope (lamSc d_law.scope ((d_law.body).getD 3 noS) 7) := LamX.lamS_by (by decide +kernel)
  exact ⟨⟨lamP d_law.params ((d_law.body).getD 3 noS) 7, lamB ((d_law.body).getD 3 noS) 7, lamSc d_law.scope ((d_law.body).getD 3 noS) 7, t, L, fun _ _ _ _ _ => rfl, p⟩, pe_lamV T.tb_law rfl T.tm_law T.tu_law T.tn_law L rfl, b⟩
theorem law_bad8 (T : Txt K mg base) {A : Around} {outer : List Env} {s : Shared} {H0 : Hp} {E0 : XK} :
    ∃ t : XK → TE, (∀ (A' : Around) (outer' : List Env) (s' : Shared) (H : Hp) (E : XK) (f c' : Addr), Room 3 (A'.deeper (LamX.lamEnv (bodyX P w K mg base N_law d_law A outer s H0 E0) (lamSc d_law.scope ((d_law.body).getD 3 noS) 8) s'.heap.objs.size f c')) → PE (LamX.lamCx (bodyX P w K mg base N_law d_law A outer s H0 E0) A' outer' s' H E (lamSc d_law.scope ((d_law.body).getD 3 noS) 8) f c') (lamB ((d_law.body).getD 3 noS) 8) (t E)) ∧
      isBad (bodyX P w K mg base N_law d_law A outer s H0 E0) (WErr K) "WaterError" (G2 K) (TL K) (TG K) t := by
  refine ⟨_, fun A' outer' s' H E f c' hr2 => (pg_meth (ok_Mains_turn_on T) (hr2.mono (by decide)) T.cl_Mains T.me_Mains_turn_on pxl (pv 6) (pa_cons pe_str (pa_cons pe_int pa_nil))), fun σ H Q hG k => ?_⟩
  · obtain ⟨m, d, e, M, pa, hσ, D, tb⟩ := hG
    obtain ⟨⟨dx, h1⟩, ps, ts, ne⟩ := id D
    refine ⟨_, hσ, ?_⟩
    refine ⟨_, _, _, rfl, h1, rfl, ?_⟩
    exact ⟨m, d, e, M, Rp 40, [], pa, "p0", 0, rfl, D, Rp_wf, (by decide), fun _ H' g => ⟨true, T.em_WaterError_WaterError, fun _ => k _ (g), fun z => by cases z⟩, fun z => absurd z (by rw [Rp_p0]; decide)⟩
theorem law_lam8 (T : Txt K mg base) {A : Around} {outer : List Env} {s : Shared} {H0 : Hp} {E0 : XK} :
    ∃ M : LamK (bodyX P w K mg base N_law d_law A outer s H0 E0) 3, PE (bodyX P w K mg base N_law d_law A outer s H0 E0) (lamL ((d_law.body).getD 3 noS) 8) (tLamM (bodyX P w K mg base N_law d_law A outer s H0 E0) (TL K) (TG K) M) ∧ isBad (bodyX P w K mg base N_law d_law A outer s H0 E0) (WErr K) "WaterError" (G2 K) (TL K) (TG K) M.t := by
  obtain ⟨t, p, b⟩ := law_bad8 (P := P) (w := w) (A := A) (outer := outer) (s := s) (E0 := E0) (H0 := H0) T
  have L : LamX.LamS d_law.scope (lamSc d_law.scope ((d_law.body).getD 3 noS) 8) := LamX.lamS_by (by decide +kernel)
  exact ⟨⟨lamP d_law.params ((d_law.body).getD 3 noS) 8, lamB ((d_law.body).getD 3 noS) 8, lamSc d_law.scope ((d_law.body).getD 3 noS) 8, t, L, fun _ _ _ _ _ => rfl, p⟩, pe_lamV T.tb_law rfl T.tm_law T.tu_law T.tn_law L rfl, b⟩
theorem law_bad9 (T : Txt K mg base) {A : Around} {outer : List Env} {s : Shared} {H0 : Hp} {E0 : XK} :
    ∃ t : XK → TE, (∀ (A' : Around) (outer' : List Env) (s' : Shared) (H : Hp) (E : XK) (f c' : Addr), Room 3 (A'.deeper (LamX.lamEnv (bodyX P w K mg base N_law d_law A outer s H0 E0) (lamSc d_law.scope ((d_law.body).getD 3 noS) 9) s'.heap.objs.size f c')) → PE (LamX.lamCx (bodyX P w K mg base N_law d_law A outer s H0 E0) A' outer' s' H E (lamSc d_law.scope ((d_law.body).getD 3 noS) 9) f c') (lamB ((d_law.body).getD 3 noS) 9) (t E)) ∧
      isBad (bodyX P w K mg base N_law d_law A outer s H0 E0) (WErr K) "WaterError" (G2 K) (TL K) (TG K) t := by
  refine ⟨_, fun A' outer' s' H E f c' hr2 => (pg_meth (ok_Mains_turn_off T) (hr2.mono (by decide)) T.cl_Mains T.me_Mains_turn_off pxl (pv 6) (pa_cons pe_str pa_nil)), fun σ H Q hG k => ?_⟩
  · obtain ⟨m, d, e, M, pa, hσ, D, tb⟩ := hG
    obtain ⟨⟨dx, h1⟩, ps, ts, ne⟩ := id D
    refine ⟨_, hσ, ?_⟩
    refine ⟨_, _, _, rfl, h1, rfl, ?_⟩
    exact ⟨m, d, e, M, Rp 40, [], pa, "p0", rfl, D, fun _ => ⟨true, T.em_WaterError_WaterError, fun _ => k _ (.refl), fun z => by cases z⟩, fun z => absurd z (by decide)⟩
theorem law_lam9 (T : Txt K mg base) {A : Around} {outer : List Env} {s : Shared} {H0 : Hp} {E0 : XK} :
    ∃ M : LamK (bodyX P w K mg base N_law d_law A outer s H0 E0) 3, PE (bodyX P w K mg base N_law d_law A outer s H0 E0) (lamL ((d_law.body).getD 3 noS) 9) (tLamM (bodyX P w K mg base N_law d_law A outer s H0 E0) (TL K) (TG K) M) ∧ isBad (bodyX P w K mg base N_law d_law A outer s H0 E0) (WErr K) "WaterError" (G2 K) (TL K) (TG K) M.t := by
  obtain ⟨t, p, b⟩ := law_bad9 (P := P) (w := w) (A := A) (outer := outer) (s := s) (E0 := E0) (H0 := H0) T
  have L : LamX.LamS d_law.scope (lamSc d_law.scope ((d_law.body).getD 3 noS) 9) := LamX.lamS_by (by decide +kernel)
  exact ⟨⟨lamP d_law.params ((d_law.body).getD 3 noS) 9, lamB ((d_law.body).getD 3 noS) 9, lamSc d_law.scope ((d_law.body).getD 3 noS) 9, t, L, fun _ _ _ _ _ => rfl, p⟩, pe_lamV T.tb_law rfl T.tm_law T.tu_law T.tn_law L rfl, b⟩
theorem law_bad10 (T : Txt K mg base) {A : Around} {outer : List Env} {s : Shared} {H0 : Hp} {E0 : XK} :
    ∃ t : XK → TE, (∀ (A' : Around) (outer' : List Env) (s' : Shared) (H : Hp) (E : XK) (f c' : Addr), Room 3 (A'.deeper (LamX.lamEnv (bodyX P w K mg base N_law d_law A outer s H0 E0) (lamSc d_law.scope ((d_law.body).getD 3 noS) 10) s'.heap.objs.size f c')) → PE (LamX.lamCx (bodyX P w K mg base N_law d_law A outer s H0 E0) A' outer' s' H E (lamSc d_law.scope ((d_law.body).getD 3 noS) 10) f c') (lamB ((d_law.body).getD 3 noS) 10) (t E)) ∧
      isBad (bodyX P w K mg base N_law d_law A outer s H0 E0) (WErr K) "WaterError" (G2 K) (TL K) (TG K) t := by
  refine ⟨_, fun A' outer' s' H E f c' hr2 => (pg_meth (ok_Mains_most_at T) (hr2.mono (by decide)) T.cl_Mains T.me_Mains_most_at pxl (pv 6) (pa_cons pe_str pa_nil)), fun σ H Q hG k => ?_⟩
  · obtain ⟨m, d, e, M, pa, hσ, D, tb⟩ := hG
    obtain ⟨⟨dx, h1⟩, ps, ts, ne⟩ := id D
    refine ⟨_, hσ, ?_⟩
    refine ⟨_, _, _, rfl, h1, rfl, ?_⟩
    exact ⟨m, d, e, M, Rp 40, [], pa, "z", rfl, D, Rp_wf, tb, fun _ => ⟨true, T.em_WaterError_WaterError, fun _ => k _ (.refl), fun z => by cases z⟩, fun l c H' hl => absurd hl (noLine Rp_z)⟩
theorem law_lam10 (T : Txt K mg base) {A : Around} {outer : List Env} {s : Shared} {H0 : Hp} {E0 : XK} :
    ∃ M : LamK (bodyX P w K mg base N_law d_law A outer s H0 E0) 3, PE (bodyX P w K mg base N_law d_law A outer s H0 E0) (lamL ((d_law.body).getD 3 noS) 10) (tLamM (bodyX P w K mg base N_law d_law A outer s H0 E0) (TL K) (TG K) M) ∧ isBad (bodyX P w K mg base N_law d_law A outer s H0 E0) (WErr K) "WaterError" (G2 K) (TL K) (TG K) M.t := by
  obtain ⟨t, p, b⟩ := law_bad10 (P := P) (w := w) (A := A) (outer := outer) (s := s) (E0 := E0) (H0 := H0) T
  have L : LamX.LamS d_law.scope (lamSc d_law.scope ((d_law.body).getD 3 noS) 10) := LamX.lamS_by (by decide +kernel)
  exact ⟨⟨lamP d_law.params ((d_law.body).getD 3 noS) 10, lamB ((d_law.body).getD 3 noS) 10, lamSc d_law.scope ((d_law.body).getD 3 noS) 10, t, L, fun _ _ _ _ _ => rfl, p⟩, pe_lamV T.tb_law rfl T.tm_law T.tu_law T.tn_law L rfl, b⟩
theorem law_bad11 (T : Txt K mg base) {A : Around} {outer : List Env} {s : Shared} {H0 : Hp} {E0 : XK} :
    ∃ t : XK → TE, (∀ (A' : Around) (outer' : List Env) (s' : Shared) (H : Hp) (E : XK) (f c' : Addr), Room 3 (A'.deeper (LamX.lamEnv (bodyX P w K mg base N_law d_law A outer s H0 E0) (lamSc d_law.scope ((d_law.body).getD 3 noS) 11) s'.heap.objs.size f c')) → PE (LamX.lamCx (bodyX P w K mg base N_law d_law A outer s H0 E0) A' outer' s' H E (lamSc d_law.scope ((d_law.body).getD 3 noS) 11) f c') (lamB ((d_law.body).getD 3 noS) 11) (t E)) ∧
      isBad (bodyX P w K mg base N_law d_law A outer s H0 E0) (WErr K) "WaterError" (G2 K) (TL K) (TG K) t := by
  refine ⟨_, fun A' outer' s' H E f c' hr2 => (pg_meth (ok_Mains_broken T) (hr2.mono (by decide)) T.cl_Mains T.me_Mains_broken pxl (pv 6) (pa_cons pe_str pa_nil)), fun σ H Q hG k => ?_⟩
  · obtain ⟨m, d, e, M, pa, hσ, D, tb⟩ := hG
    obtain ⟨⟨dx, h1⟩, ps, ts, ne⟩ := id D
    refine ⟨_, hσ, ?_⟩
    refine ⟨_, _, _, rfl, h1, rfl, ?_⟩
    exact ⟨m, d, e, M, Rp 40, [], pa, "z", rfl, D, Rp_wf, tb, fun _ => ⟨true, T.em_WaterError_WaterError, fun _ => k _ (.refl), fun z => by cases z⟩, fun z => absurd z (by rw [Rp_z]; decide)⟩
theorem law_lam11 (T : Txt K mg base) {A : Around} {outer : List Env} {s : Shared} {H0 : Hp} {E0 : XK} :
    ∃ M : LamK (bodyX P w K mg base N_law d_law A outer s H0 E0) 3, PE (bodyX P w K mg base N_law d_law A outer s H0 E0) (lamL ((d_law.body).getD 3 noS) 11) (tLamM (bodyX P w K mg base N_law d_law A outer s H0 E0) (TL K) (TG K) M) ∧ isBad (bodyX P w K mg base N_law d_law A outer s H0 E0) (WErr K) "WaterError" (G2 K) (TL K) (TG K) M.t := by
  obtain ⟨t, p, b⟩ := law_bad11 (P := P) (w := w) (A := A) (outer := outer) (s := s) (E0 := E0) (H0 := H0) T
  have L : LamX.LamS d_law.scope (lamSc d_law.scope ((d_law.body).getD 3 noS) 11) := LamX.lamS_by (by decide +kernel)
  exact ⟨⟨lamP d_law.params ((d_law.body).getD 3 noS) 11, lamB ((d_law.body).getD 3 noS) 11, lamSc d_law.scope ((d_law.body).getD 3 noS) 11, t, L, fun _ _ _ _ _ => rfl, p⟩, pe_lamV T.tb_law rfl T.tm_law T.tu_law T.tn_law L rfl, b⟩
/-- bad = [..] -/
theorem law_bad (T : Txt K mg base) {A : Around} {outer : List Env} {s : Shared} {H0 : Hp} {E0 : XK} (hr : Room 6 (A.deeper (envOfC d_law.qual d_law.scope s.heap.objs.size (He.fAd K d_law.at_) (.ref (He.codeOf K d_law.at_))))) :
    ∃ t, PS (bodyX P w K mg base N_law d_law A outer s H0 E0) ((d_law.body).getD 3 noS) t ∧ ∀ (D : Ends) (H : Hp) (x0 x1 x2 x3 x4 x5 x6 x7 x8 x9 x10 x11 x12 x13 x14 x15 x16 x17 x18 x19 x20 x21 : Option V), Tb (TL K) (TG K) H →
      (∀ (bd : Addr) (fs : List Addr) (H' : Hp), H' bd = some (.lst (fs.map V.ref)) → fs.length = 12 → (∀ f ∈ fs, BadF (bodyX P w K mg base N_law d_law A outer s H0 E0) 3 (WErr K) "WaterError" (G2 K) (TL K) (TG K) f H') → Go (TL K) (TG K) (fun _ => False) H H' → D.nx [x0, x1, x2, x3, x4, x5, x6, x7, x8, x9, x10, x11, x12, x13, x14, x15, x16, x17, x18, x19, some (.ref bd), x21] H') →
      t D [x0, x1, x2, x3, x4, x5, x6, x7, x8, x9, x10, x11, x12, x13, x14, x15, x16, x17, x18, x19, x20, x21] H := by
  obtain ⟨M0, p0, b0⟩ := law_lam0 (P := P) (w := w) (A := A) (outer := outer) (s := s) (E0 := E0) (H0 := H0) T
  obtain ⟨M1, p1, b1⟩ := law_lam1 (P := P) (w := w) (A := A) (outer := outer) (s := s) (E0 := E0) (H0 := H0) T
  obtain ⟨M2, p2, b2⟩ := law_lam2 (P := P) (w := w) (A := A) (outer := outer) (s := s) (E0 := E0) (H0 := H0) T
  obtain ⟨M3, p3, b3⟩ := law_lam3 (P := P) (w := w) (A := A) (outer := outer) (s := s) (E0 := E0) (H0 := H0) T
  obtain ⟨M4, p4, b4⟩ := law_lam4 (P := P) (w := w) (A := A) (outer := outer) (s := s) (E0 := E0) (H0 := H0) T
  obtain ⟨M5, p5, b5⟩ := law_lam5 (P := P) (w := w) (A := A) (outer := outer) (s := s) (E0 := E0) (H0 := H0) T
  obtain ⟨M6, p6, b6⟩ := law_lam6 (P := P) (w := w) (A := A) (outer := outer) (s := s) (E0 := E0) (H0 := H0) T
  obtain ⟨M7, p7, b7⟩ := law_lam7 (P := P) (w := w) (A := A) (outer := outer) (s := s) (E0 := E0) (H0 := H0) T
  obtain ⟨M8, p8, b8⟩ := law_lam8 (P := P) (w := w) (A := A) (outer := outer) (s := s) (E0 := E0) (H0 := H0) T
  obtain ⟨M9, p9, b9⟩ := law_lam9 (P := P) (w := w) (A := A) (outer := outer) (s := s) (E0 := E0) (H0 := H0) T
  obtain ⟨M10, p10, b10⟩ := law_lam10 (P := P) (w := w) (A := A) (outer := outer) (s := s) (E0 := E0) (H0 := H0) T
  obtain ⟨M11, p11, b11⟩ := law_lam11 (P := P) (w := w) (A := A) (outer := outer) (s := s) (E0 := E0) (H0 := H0) T
  refine ⟨_, (ps_set (i := 20) sc_law.nd rfl (by first | exact Or.inl rfl | exact Or.inr rfl) (pe_lst (pa_cons p0 (pa_cons p1 (pa_cons p2 (pa_cons p3 (pa_cons p4 (pa_cons p5 (pa_cons p6 (pa_cons p7 (pa_cons p8 (pa_cons p9 (pa_cons p10 (pa_cons p11 pa_nil)))))))))))))), fun D H x0 x1 x2 x3 x4 x5 x6 x7 x8 x9 x10 x11 x12 x13 x14 x15 x16 x17 x18 x19 x20 x21 tb k => ?_⟩
  refine ⟨tb, fun f0 c0 G0 I0 g0 n0 hc0 e0 => ?_⟩
  obtain ⟨B0, h0, tb0⟩ := bad_step _ bad_nil b0 tb g0 n0 hc0 e0
  refine ⟨tb0, fun f1 c1 G1 I1 g1 n1 hc1 e1 => ?_⟩
  obtain ⟨B1, h1, tb1⟩ := bad_step _ B0 b1 tb0 g1 n1 hc1 e1
  have h1 := h0.trans h1
  refine ⟨tb1, fun f2 c2 G2 I2 g2 n2 hc2 e2 => ?_⟩
  obtain ⟨B2, h2, tb2⟩ := bad_step _ B1 b2 tb1 g2 n2 hc2 e2
  have h2 := h1.trans h2
  refine ⟨tb2, fun f3 c3 G3 I3 g3 n3 hc3 e3 => ?_⟩
  obtain ⟨B3, h3, tb3⟩ := bad_step _ B2 b3 tb2 g3 n3 hc3 e3
  have h3 := h2.trans h3
  refine ⟨tb3, fun f4 c4 G4 I4 g4 n4 hc4 e4 => ?_⟩
  obtain ⟨B4, h4, tb4⟩ := bad_step _ B3 b4 tb3 g4 n4 hc4 e4
  have h4 := h3.trans h4
  refine ⟨tb4, fun f5 c5 G5 I5 g5 n5 hc5 e5 => ?_⟩
  obtain ⟨B5, h5, tb5⟩ := bad_step _ B4 b5 tb4 g5 n5 hc5 e5
  have h5 := h4.trans h5
  refine ⟨tb5, fun f6 c6 G6 I6 g6 n6 hc6 e6 => ?_⟩
  obtain ⟨B6, h6, tb6⟩ := bad_step _ B5 b6 tb5 g6 n6 hc6 e6
  have h6 := h5.trans h6
  refine ⟨tb6, fun f7 c7 G7 I7 g7 n7 hc7 e7 => ?_⟩
  obtain ⟨B7, h7, tb7⟩ := bad_step _ B6 b7 tb6 g7 n7 hc7 e7
  have h7 := h6.trans h7
  refine ⟨tb7, fun f8 c8 G8 I8 g8 n8 hc8 e8 => ?_⟩
  obtain ⟨B8, h8, tb8⟩ := bad_step _ B7 b8 tb7 g8 n8 hc8 e8
  have h8 := h7.trans h8
  refine ⟨tb8, fun f9 c9 G9 I9 g9 n9 hc9 e9 => ?_⟩
  obtain ⟨B9, h9, tb9⟩ := bad_step _ B8 b9 tb8 g9 n9 hc9 e9
  have h9 := h8.trans h9
  refine ⟨tb9, fun f10 c10 G10 I10 g10 n10 hc10 e10 => ?_⟩
  obtain ⟨B10, h10, tb10⟩ := bad_step _ B9 b10 tb9 g10 n10 hc10 e10
  have h10 := h9.trans h10
  refine ⟨tb10, fun f11 c11 G11 I11 g11 n11 hc11 e11 => ?_⟩
  obtain ⟨B11, h11, tb11⟩ := bad_step _ B10 b11 tb10 g11 n11 hc11 e11
  have h11 := h10.trans h11
  refine ⟨(by show 12 ≤ sizeLine; decide), fun bd hbd => ?_⟩
  have gb := Go.new (TL := TL K) (TG := TG K) (S := fun _ => False) (o := .lst ([f0, f1, f2, f3, f4, f5, f6, f7, f8, f9, f10, f11].map V.ref)) hbd
  exact k bd [f0, f1, f2, f3, f4, f5, f6, f7, f8, f9, f10, f11] _ upd_same rfl (fun x hx => (B11 x hx).go gb) (h11.trans gb)
end
end K2
namespace K2
open PySem PySem.Spec PyProof.Rows L2 Fy
open GxR (TabG Tabbed)
section
variable {P : Program} {w : World} {K : PySem.W.Frag} {mg : Str → Option Value} {base : Heap}
/-- if [..] != [] or MOST_PIPES != 40: .. -/
theorem law_check (T : Txt K mg base) {A : Around} {outer : List Env} {s : Shared} {H0 : Hp} {E0 : XK} (hr : Room 6 (A.deeper (envOfC d_law.qual d_law.scope s.heap.objs.size (He.fAd K d_law.at_) (.ref (He.codeOf K d_law.at_))))) :
    ∃ t, PS (bodyX P w K mg base N_law d_law A outer s H0 E0) ((d_law.body).getD 4 noS) t ∧ ∀ (D : Ends) (H : Hp) (m d e bd : Addr) (M : Mn) (pa : Str → Addr) (fs : List Addr) (x0 x1 x2 x3 x4 x5 x7 x8 x9 x10 x11 x12 x13 x14 x15 x16 x17 x18 x19 x21 : Option V), MainsAt (CMns K) H m d e M (Rp 40) [] pa → Tb (TL K) (TG K) H → H bd = some (.lst (fs.map V.ref)) →
      (∀ f ∈ fs, BadF (bodyX P w K mg base N_law d_law A outer s H0 E0) 3 (WErr K) "WaterError" (G2 K) (TL K) (TG K) f H) → (∀ H', Go (TL K) (TG K) (fun _ => False) H H' → D.nx [x0, x1, x2, x3, x4, x5, some (.ref m), x7, x8, x9, x10, x11, x12, x13, x14, x15, x16, x17, x18, x19, some (.ref bd), x21] H') →
      t D [x0, x1, x2, x3, x4, x5, some (.ref m), x7, x8, x9, x10, x11, x12, x13, x14, x15, x16, x17, x18, x19, some (.ref bd), x21] H := by
  have hu := hu_of hr
  obtain ⟨tk_MOST_PIPES, C_MOST_PIPES⟩ := T.c_MOST_PIPES
  refine ⟨_, (ps_if (PW.pt (pw_or (pt_cmpR (op_neD hr.units) (pe_lcNo (i := 21) rfl sc_law.nd (pv 20) (blkOk_by (own := [("f", 21)]) (N := N_law) (sc := d_law.scope) (by decide +kernel)) (fun _ _ _ _ _ => (pg_name (i := 21) sc_law.nd rfl (by first | exact Or.inl rfl | exact Or.inr rfl))) (fun _ _ _ _ _ _ _ I3 f3 => pts_one (pt_cmpR op_ne (toldV_law T hr I3 f3 rfl (by first | exact Or.inl rfl | exact Or.inr (Or.inl rfl) | exact Or.inr (Or.inr rfl))) pe_str (nomark _)))) (pe_lst pa_nil) (nomark _)) (pw_or1 (pt_cmpR op_ne (pe_glob (v := .int 40) rfl C_MOST_PIPES ⟨_, rfl⟩) pe_int (nomark _))))) (pss_one (ps_ret pe_bl)) pss_nil), fun D H m d e bd M pa fs x0 x1 x2 x3 x4 x5 x7 x8 x9 x10 x11 x12 x13 x14 x15 x16 x17 x18 x19 x21 W tb hbd hB k => ?_⟩
  refine ⟨_, rfl, bd, fs.map V.ref, rfl, SqL.of hbd, fun L hL => ?_⟩
  have g0 := Go.new (TL := TL K) (TG := TG K) (S := fun _ => False) (o := .lst []) hL
  have eL : upd H L (.lst []) L = some (.lst []) := upd_same
  refine ⟨fun H' => Go (TL K) (TG K) (fun _ => False) (upd H L (.lst [])) H', .refl, fun H' g => SqL.of (g.get (g0.get hbd)), fun x hx H' g => ?_, ?_⟩
  · obtain ⟨f, hf, rfl⟩ := List.mem_map.mp hx
    refine ⟨rfl, ?_⟩
    have gH := g0.trans g
    unfold tTest tOp
    dsimp only
    refine tTold_bad (G := G2 K) G2.drp rfl ((hB f hf).go gH) ?_ fun H2 g2 => ?_
    · exact ⟨m, d, e, M, pa, rfl, W.go gH id id id (fun _ _ => id), gH.tb tb⟩
    · exact ⟨rfl, _, rfl, by simp, g.trans g2⟩
  intro H1 g1
  have gA := g0.trans g1
  refine ⟨(by decide), fun e2 he2 => ?_⟩
  have eL1 := g1.get eL
  have gB := gA.trans (Go.new (o := .lst []) he2)
  have se : SeqAt.shaped (PyData.list []) = true := PySem.W.shaped_ints []
  refine ⟨.list [], .list [], .lst (SqL.of (by rw [upd_ne (ne_of_none eL1 he2)]; exact eL1)) .nil, .lst (SqL.of upd_same) .nil, se, se, ?_⟩
  rw [eqv_same se]
  generalize upd H1 e2 (.lst []) = H2 at gB ⊢
  refine ⟨_, rfl, iteF ?_⟩
  refine ⟨rfl, ?_⟩
  exact ⟨_, rfl, ite2 (fun z => absurd z (by simp)) fun _ => k H2 gB⟩
end
end K2
namespace K2
open PySem PySem.Spec PyProof.Rows L2 Fy
open GxR (TabG Tabbed)
section
variable {P : Program} {w : World} {K : PySem.W.Frag} {mg : Str → Option Value} {base : Heap}
/-- return mains.minute() == .. -/
theorem law_ret (T : Txt K mg base) {A : Around} {outer : List Env} {s : Shared} {H0 : Hp} {E0 : XK} (hr : Room 6 (A.deeper (envOfC d_law.qual d_law.scope s.heap.objs.size (He.fAd K d_law.at_) (.ref (He.codeOf K d_law.at_))))) :
    ∃ t, PS (bodyX P w K mg base N_law d_law A outer s H0 E0) ((d_law.body).getD 7 noS) t ∧ ∀ (D : Ends) (H : Hp) (m d e : Addr) (pa : Str → Addr) (x0 x1 x2 x3 x4 x5 x7 x8 x9 x10 x11 x12 x13 x14 x15 x16 x17 x18 x19 x20 x21 : Option V), MainsAt (CMns K) H m d e ⟨100, 100, 0, 0⟩ (Rp 40) T2 pa → Tb (TL K) (TG K) H → (∀ H', D.rt (.bl true) H') →
      t D [x0, x1, x2, x3, x4, x5, some (.ref m), x7, x8, x9, x10, x11, x12, x13, x14, x15, x16, x17, x18, x19, x20, x21] H := by
  have hu := hu_of hr
  refine ⟨_, (ps_ret (pe_and (pe_cmpR (op_eqDD (u65 hr)) (pg_meth0 (ok_Mains_minute T) (hr.mono (by decide)) T.cl_Mains T.me_Mains_minute px (pv 6)) (pe_disp (pps_cons pe_str pe_int (pps_cons pe_str pe_int pps_nil)) (by rfl) (by rfl) (fun z => by cases z) (by decide)) (nomark _)) (pe_and (pe_cmpR op_eq (pe_fld (pv 6) rfl) pe_int (nomark _)) (pe_and (pe_cmpR (op_eqD hr.units) (pg_meth (ok_Mains_broken T) (hr.mono (by decide)) T.cl_Mains T.me_Mains_broken px (pv 6) (pa_cons pe_str pa_nil)) (pe_tup (pa_cons pe_str pa_nil)) (nomark _)) (pe_and (pe_cmpR (op_eqDD (u65 hr)) (pe_fld (pv 6) rfl) (pe_disp (pps_cons pe_str pe_int pps_nil) (by rfl) (by rfl) (fun z => by cases z) (by decide)) (nomark _)) (pe_one (pe_cmpR (op_eqD hr.units) (pe_tup (pa_cons (pe_fld (pv 6) rfl) (pa_cons (pe_fld (pv 6) rfl) pa_nil))) (pe_tup (pa_cons pe_int (pa_cons pe_int pa_nil))) (nomark _)))))))), fun D H m d e pa x0 x1 x2 x3 x4 x5 x7 x8 x9 x10 x11 x12 x13 x14 x15 x16 x17 x18 x19 x20 x21 W tb k => ?_⟩
  obtain ⟨⟨dx, h1⟩, ps, ts, ne⟩ := id W
  walk_at "v"
  refine ⟨_, _, _, rfl, h1, rfl, ?_⟩
  refine ⟨m, d, e, ⟨100, 100, 0, 0⟩, Rp 40, T2, pa, rfl, W, Rp_wf, (by decide), (by decide), fun p hp => ?_, tb, fun p H1 hp hp1 D1 g1 => ?_⟩
  · rcases List.mem_cons.mp hp with rfl | hp
    · exact ⟨_, Rp_p1⟩
    · obtain rfl := List.mem_singleton.mp hp
      exact ⟨_, Rp_p0⟩
  have ef : kvI (keysT T2) (flowsS (Rp 40) T2 100).f = [((Sum.inr "p0" : Key), V.int 2), ((Sum.inr "p1" : Key), V.int 3)] := by
    rw [keys_T2]
    show [((Sum.inr "p0" : Key), V.int ((flowsS (Rp 40) T2 100).f "p0")), ((Sum.inr "p1" : Key), V.int ((flowsS (Rp 40) T2 100).f "p1"))] = _
    rw [flow_p0, flow_p1]
  have hp1 : H1 p = some (.dK [((Sum.inr "p0" : Key), V.int 2), ((Sum.inr "p1" : Key), V.int 3)]) := by rw [← ef]; exact hp1
  rw [min_T2] at D1
  have tb1 := g1.tb tb
  refine fun a ha => ?_
  refine ⟨upd_same, [((Sum.inr "p0" : Key), V.int 2), ((Sum.inr "p1" : Key), V.int 3)], rfl, (by show 2 ≤ 15; decide), ?_⟩
  have em : mergeK [] [((Sum.inr "p0" : Key), V.int 2), ((Sum.inr "p1" : Key), V.int 3)] = [((Sum.inr "p0" : Key), V.int 2), ((Sum.inr "p1" : Key), V.int 3)] := mergeK_nodup _ _ (by decide)
  rw [em, upd_upd]
  have npa := ne_of_none hp1 ha
  have g2 : Go (TL K) (TG K) (fun _ => False) H1 (upd H1 a (.dK [((Sum.inr "p0" : Key), V.int 2), ((Sum.inr "p1" : Key), V.int 3)])) := Go.new ha
  have D2 := D1.go g2 id id id (fun _ _ => id)
  have tb2 := g2.tb tb1
  refine ⟨p, a, _, _, rfl, rfl, (by rw [upd_ne npa]; exact hp1), upd_same, rfl, fun x hx => ?_, ?_⟩
  · rcases List.mem_cons.mp hx with rfl | hx
    · exact ⟨.int 2, rfl, .int 2, .int _, .int _, rfl⟩
    · obtain rfl := List.mem_singleton.mp hx
      exact ⟨.int 3, rfl, .int 3, .int _, .int _, rfl⟩
  generalize upd H1 a (.dK [((Sum.inr "p0" : Key), V.int 2), ((Sum.inr "p1" : Key), V.int 3)]) = H2 at D2 tb2 ⊢
  refine ⟨_, rfl, iteT ?_⟩
  obtain ⟨⟨dx2, h2⟩, ps2, ts2, _⟩ := id D2
  walk_at "v"
  refine ⟨_, _, _, _, _, rfl, h2, T.cl_Mains, T.no_Mains_tank, rfl, ?_⟩
  refine ⟨rfl, ?_⟩
  refine ⟨_, rfl, ite2 (fun _ => ?_) fun z => absurd rfl z⟩
  walk_at "v"
  refine ⟨_, _, _, rfl, h2, rfl, ?_⟩
  refine ⟨m, d, e, _, Rp 40, T2, pa, "p1", rfl, D2, Rp_wf, tb2, fun z => absurd (z.symm.trans Rp_p1) (by intro z; cases z), fun _ q d' H3 hq hd' eq D3 g3 => ?_⟩
  rw [gone_p1] at eq D3
  rw [cut_T2] at D3
  have tb3 := g3.tb tb2
  refine ⟨(by decide), fun t3 ht3 => ?_⟩
  have s1 : SeqAt.shaped (PyData.tuple [.str "p1"]) = true := by decide +kernel
  have e3 : upd H3 t3 (.tup [.str "p1"]) q = some (.tup [.str "p1"]) := by rw [upd_ne (ne_of_none eq ht3)]; exact eq
  refine ⟨.tuple [.str "p1"], .tuple [.str "p1"], .tup (SqT.of e3) (.cons (.str _) .nil), .tup (SqT.of upd_same) (.cons (.str _) .nil), s1, s1, ?_⟩
  rw [eqv_same s1]
  have g4 : Go (TL K) (TG K) (fun _ => False) H3 (upd H3 t3 (.tup [.str "p1"])) := Go.new ht3
  have D4 := D3.go g4 id id id (fun _ _ => id)
  generalize upd H3 t3 (.tup [.str "p1"]) = H4 at D4 ⊢
  refine ⟨_, rfl, iteT ?_⟩
  obtain ⟨⟨dx4, h4⟩, ps4, ts4, _⟩ := id D4
  walk_at "v"
  refine ⟨_, _, _, _, _, rfl, h4, T.cl_Mains, T.no_Mains_taps, rfl, ?_⟩
  refine fun b hb => ?_
  refine ⟨upd_same, [((Sum.inr "p0" : Key), V.int 2)], rfl, (by show 1 ≤ 15; decide), ?_⟩
  have em2 : mergeK [] [((Sum.inr "p0" : Key), V.int 2)] = [((Sum.inr "p0" : Key), V.int 2)] := mergeK_nodup _ _ (by decide)
  rw [em2, upd_upd]
  have neb := ne_of_none ts4 hb
  have g5 : Go (TL K) (TG K) (fun _ => False) H4 (upd H4 b (.dK [((Sum.inr "p0" : Key), V.int 2)])) := Go.new hb
  have D5 := D4.go g5 id id id (fun _ _ => id)
  refine ⟨e, b, _, _, rfl, rfl, (by rw [upd_ne neb]; exact ts4), upd_same, rfl, fun x hx => ?_, ?_⟩
  · obtain rfl := List.mem_singleton.mp hx
    exact ⟨.int 2, rfl, .int 2, .int _, .int _, rfl⟩
  generalize upd H4 b (.dK [((Sum.inr "p0" : Key), V.int 2)]) = H5 at D5 ⊢
  refine ⟨_, rfl, iteT ?_⟩
  obtain ⟨⟨dx5, h5⟩, _, _, _⟩ := id D5
  walk_at "v"
  refine ⟨_, _, _, _, _, rfl, h5, T.cl_Mains, T.no_Mains_full, rfl, ?_⟩
  walk_at "v"
  refine ⟨_, _, _, _, _, rfl, h5, T.cl_Mains, T.no_Mains_comes, rfl, ?_⟩
  refine ⟨(by show 2 ≤ sizeLine; decide), fun t1 ht1 => ⟨(by show 2 ≤ sizeLine; decide), fun t2 ht2 => ?_⟩⟩
  have sT : SeqAt.shaped (PyData.tuple [.int 100, .int 0]) = true := by decide +kernel
  refine ⟨.tuple [.int 100, .int 0], .tuple [.int 100, .int 0], .tup (SqT.of (by rw [upd_ne (ne_of_none upd_same ht2)]; exact upd_same)) (.cons (.int _) (.cons (.int _) .nil)), .tup (SqT.of upd_same) (.cons (.int _) (.cons (.int _) .nil)), sT, sT, ?_⟩
  rw [eqv_same sT]
  exact k _
end
end K2
namespace K2
open PySem PySem.Spec PyProof.Rows L2 Fy
open GxR (TabG Tabbed)
def sp_law (K : PySem.W.Frag) : Sp := fun vs H Q _ => ∃ (sa : Addr) (ns : List Int), vs = [.ref sa] ∧ SqL K H sa (ns.map V.int) ∧ Tb (TL K) (TG K) H ∧ ∀ H', Q (.bl true) H'
section
variable {P : Program} {w : World} {K : PySem.W.Frag} {mg : Str → Option Value} {base : Heap}
theorem ok_law (T : Txt K mg base) {fd : FuncData} (F : FunD K d_law.name d_law.qual d_law.params d_law.body d_law.scope (d_law.dvs K) (d_law.kws K) (He.fAd K d_law.at_) fd) : FnOk P w K mg base (L2.CX P w) 7 (He.fAd K d_law.at_) fd ["script"] (sp_law K) := by
  refine fnOk_of F sc_law (fun vs H Q E h => ?_) (fun A outer s H vs Q E hr h => ?_)
  · obtain ⟨sa, ns, rfl, _⟩ := h
    rfl
  obtain ⟨sa, ns, rfl, hs, tb, k⟩ := h
  obtain ⟨t0, p0, r0⟩ := law_outer (P := P) (w := w) (E0 := E) (H0 := H) T hr
  obtain ⟨t2, p2, r2⟩ := law_forty (P := P) (w := w) (E0 := E) (H0 := H) T hr
  obtain ⟨t3, p3, r3⟩ := law_bad (P := P) (w := w) (E0 := E) (H0 := H) T hr
  obtain ⟨t4, p4, r4⟩ := law_check (P := P) (w := w) (E0 := E) (H0 := H) T hr
  obtain ⟨t7, p7, r7⟩ := law_ret (P := P) (w := w) (E0 := E) (H0 := H) T hr
  refine ⟨_, pss_cons p0 (pss_cons (ps_set (i := 6) sc_law.nd rfl (by first | exact Or.inl rfl | exact Or.inr rfl) (pg_make T.mk_Mains (ok_Mains_init T) (hr.mono (by decide)) rfl T.gl_Mains px (pa_cons pe_int (pa_cons pe_int pa_nil)))) (pss_cons p2 (pss_cons p3 (pss_cons p4 (pss_cons (ps_expr (pg_meth (ok_Mains_turn_on T) (hr.mono (by decide)) T.cl_Mains T.me_Mains_turn_on px (pv 6) (pa_cons pe_str (pa_cons pe_int pa_nil)))) (pss_cons (ps_expr (pg_meth (ok_Mains_turn_on T) (hr.mono (by decide)) T.cl_Mains T.me_Mains_turn_on px (pv 6) (pa_cons pe_str (pa_cons pe_int pa_nil)))) (pss_one p7))))))), ?_⟩
  refine r0 _ H sa ns _ _ _ _ _ _ _ _ _ _ _ _ _ _ _ _ _ _ _ _ _ hs tb fun x1 x2 x3 x4 x5 x6 x7 x8 x9 x10 x11 x12 x13 x14 x15 x16 x17 x18 x19 x20 x21 H1 tb1 => ?_
  refine fun m dx hm hdx ndm => ?_
  have gm : Go (TL K) (TG K) (fun _ => False) H1 (upd (upd H1 dx (.own m)) m (.ins (CMns K) dx [])) := (Go.new hdx).trans (Go.new (by rw [upd_ne ndm.symm]; exact hm))
  refine ⟨m, dx, 100, 0, rfl, upd_same, fun z => absurd z (by decide), fun _ _ d e H3 hd he D3 g => ⟨rfl, ?_⟩⟩
  refine r2 _ H3 m d e _ _ _ _ _ _ _ _ _ _ _ _ _ _ _ _ _ _ _ _ _ _ D3 (g.tb (gm.tb tb1)) fun x19' pa H4 D4 tb4 => ?_
  refine r3 _ H4 _ _ _ _ _ _ _ _ _ _ _ _ _ _ _ _ _ _ _ _ _ _ tb4 fun bd fs H5 e5 lf hB g5 => ?_
  have D5 := D4.go g5 id id id (fun _ _ => id)
  refine r4 _ H5 m d e bd _ pa fs _ _ _ _ _ _ _ _ _ _ _ _ _ _ _ _ _ _ _ _ D5 (g5.tb tb4) e5 hB fun H6 g6 => ?_
  have D6 := D5.go g6 id id id (fun _ _ => id)
  have tb6 := g6.tb (g5.tb tb4)
  obtain ⟨⟨dx6, h6⟩, _, _, _⟩ := id D6
  walk_at "v"
  refine ⟨_, _, _, rfl, h6, rfl, ?_⟩
  refine ⟨m, d, e, _, Rp 40, [], pa, "p1", 5, rfl, D6, Rp_wf, (by decide), fun z => absurd z (by rw [Rp_p1]; decide), fun _ H7 D7 g7 => ?_⟩
  have tb7 := g7.tb tb6
  obtain ⟨⟨dx7, h7⟩, _, _, _⟩ := id D7
  walk_at "v"
  refine ⟨_, _, _, rfl, h7, rfl, ?_⟩
  refine ⟨m, d, e, _, Rp 40, _, pa, "p0", 2, rfl, D7, Rp_wf, (by decide), fun z => absurd z (by rw [Rp_p0]; decide), fun _ H8 D8 g8 => ?_⟩
  rw [T2_put] at D8
  exact r7 _ H8 m d e pa _ _ _ _ _ _ _ _ _ _ _ _ _ _ _ _ _ _ _ _ _ D8 (g8.tb tb7) k
end
theorem law_at {l : PySem.W.OpenLaw} {w : World} {K : PySem.W.Frag} {h : Heap} {mg : Str → Option Value} {f : Addr} (KX : K.In h) (G : h.Ns mainGlobals mg) (c : He.SaysX fa fn [] tf ex w h K) (hmg : mg "law" = some (.ref f)) : LamX.LawAtS l w K (L2.CX l.prog w) 7 63 "script" mg f h := by
  have e0 : mg "law" = some (.ref (He.fAd K d_law.at_)) := He.glo_ok KX G (c.t.d.facts (f := .glo "law") (by simp [fa]))
  obtain ⟨fd, D⟩ := c.t.d.defs (d := d_law) (by simp [fn])
  have hf : f = He.fAd K d_law.at_ := Value.ref.inj (Option.some.inj (hmg.symm.trans e0))
  have hb := FunD.bindsA (ps := ["script"]) D fun _ _ _ _ _ _ us hl => match us, hl with | [_], _ => rfl
  refine lawAt_of (TL := TL K) (TG := TG K) (sp := sp_law K) KX c hf (fun s u => hb s [u] rfl) (fun q hq => ?_) (fun q hq => ?_) (fun H a ns h1 h2 h3 h4 => ⟨a, ns, rfl, h3, h4, fun _ => rfl⟩) fun base KB GB TB => ok_law (txt_of KX G c TB) D
  · obtain ⟨a, ha, e⟩ := tl_mem hq
    exact ⟨a, List.mem_append_left _ ha, e⟩
  · obtain ⟨a, ha, rfl⟩ := List.mem_map.mp hq
    exact ⟨a, List.mem_append_right _ ha, rfl⟩
end K2
set_option maxHeartbeats 0
open PySem PySem.W PySem.Calls PyProof.Rows
theorem PySem.Challenge.cw_firestack_k02_water_from_mains_holds : PySem.Challenge.rw_firestack_k02_water_from_mains.Holds := by
  w_on; o_law
  refine HandSHeadRun.head_any (r := K2.R) (q := view K2.R.prog [13]) (H := K2.hk) (ob := K2.ob) (M := 8000) (loose := K2.loose) (d := HandSHeadRun.topDef K2.R.prog 13) (kwd := []) K2.ob_eq
    (by kernel_rfl) (fun s => by kernel_rfl) K2.run (by kernel_rfl) (by kernel_rfl) (by kernel_rfl) (by rfl) (by first | assumption | decide +kernel) (by decide +kernel) ⟨rfl, rfl, rfl, rfl, rfl, by decide +kernel⟩ ?hw ?hc
  case hw => w_witness2
  case hc =>
    refine LamX.walk_ofTsE (l := PySem.Challenge.rw_firestack_k02_water_from_mains) (n := 63) (k := 7) (x := "script") (CX := fun w => L2.CX (PySem.Challenge.rw_firestack_k02_water_from_mains).prog w) rfl (by decide) (by kernel_rfl) ⟨rfl, by decide, by decide⟩ ?F (fun _ _ _ _ _ z => Fy.cx_false z)
    intro w mg fa h Y G hmg0
    obtain ⟨K, KX, c⟩ := Y
    have hmg : mg ("law" : PySem.Str) = some (.ref fa) := by
      have e : (HandSHeadRun.topDef K2.R.prog 13).name = ("law" : PySem.Str) := by kernel_rfl
      rw [← e]
      exact hmg0
    exact ⟨K, KX, K2.law_at KX G c hmg⟩
