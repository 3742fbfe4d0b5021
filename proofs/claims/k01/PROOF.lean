import PyProof.Rows.All
import Wide.All
import OpenK.AllK
import Wide.FinOn
import HandS.ForMost
import HandS.Exc
import HandS.TryOnly
import HandS.ExcOwn
import HandS.WordsExc
import HandS.AnyAll
import HandS.Lambda
import PyProof.Rows.SeqGenD
import PyProof.TupleOfGen
import PyProof.SumAny
import KE.DataMinMax
import KE.SortData
import HandS.More
import HandS.Defaults
import HandS.HeadHook4
import HandS.HeadWalk
import HandS.NoneIn
import HandS.DictComp
import HandS.Wide
import HandS.DeepEq
import HandS.Style
import HandS.Walk
import PyProof.EqLayable
import PyProof.P3Eq
import HandS.TupAny
import HandS.NestedK
import PyProof.ConsumeS
import PyProof.DictValues
import PyProof.DictWalks
import PyProof.WalkInts
import HandS.Sort
import HandS.ListItems
import HandS.Small
import HandS.DictTup
import HandS.TupLen
import HandS.Conv
import KE.KDictPairs
import KE.KItemsList
import KE.GoesRaise
import KE.SortKeyHeap
import HandS.SortKw
import HandS.Head0
import HandS.Head1
import HandS.Head2
import HandS.HeadEnd
import KE.KStateDown
import PySem.Challenge.RW_firestack_k01_streets_of_a_town
set_option Elab.async false
set_option linter.all false
set_option maxRecDepth 100000
set_option maxHeartbeats 8000000
namespace Fy
open PySem PySem.Spec PyProof.Rows L2
/-- a quiet value: a plain one, or a tuple of plain ones that is new -/
inductive QV where
  | v (x : V)
  | t (xs : List V)
def RelQ (h : Heap) : QV → Value → Prop
  | .v x, u => RelV x u
  | .t xs, u => ∃ (a : Addr) (us : List Value), u = .ref a ∧ Vals xs us ∧ IsTup h a us.toArray
/-- the view out of a generator's frame -/
structure GV (P : Program) (w : World) (K : PySem.W.Frag) (cenv : Env) (N : List Str) (σ : L2.St) (H : Hp) (s : Shared) : Prop where
  kin : K.In s.heap
  kind : cenv.scope.kind = .function
  loc : ∃ m, s.heap.Ns cenv.locals m ∧ ∀ (i : Nat) (x : Str) (v : V), N[i]? = some x → σ[i]? = some (some v) → Vis cenv.scope x → ∃ u, RelV v u ∧ Look cenv s.heap m x u
  hok : HOk P w H s.heap
theorem kGet {s s' : Shared} (k : Keeps s s') : ∀ b o, s.heap.get? b = some o → s'.heap.get? b = some o := by
  obtain ⟨h, t, rfl, k⟩ := k
  exact k
theorem kRfl (s : Shared) : Keeps s s := ⟨s.heap, s.toks, rfl, fun _ _ e => e⟩
theorem kTok (s : Shared) (k : Nat) : Keeps s { s with toks := k } := ⟨s.heap, k, rfl, fun _ _ e => e⟩
theorem kTr {s s' s'' : Shared} (a : Keeps s s') (b : Keeps s' s'') : Keeps s s'' := by
  obtain ⟨h, t, rfl, k⟩ := a
  obtain ⟨h2, t2, rfl, k2⟩ := b
  exact ⟨h2, t2, rfl, fun b o e => k2 b o (k b o e)⟩
theorem RelQ.keeps {h h' : Heap} {q : QV} {u : Value} (r : RelQ h q u) (k : ∀ b o, h.get? b = some o → h'.get? b = some o) : RelQ h' q u := by
  cases q with
  | v x => exact r
  | t xs =>
    obtain ⟨a, us, e, rv, ob, ho, c⟩ := r
    exact ⟨a, us, e, rv, ob, k _ _ ho, c⟩
section
variable {P : Program} {w : World} {K : PySem.W.Frag} {cenv : Env} {N : List Str}
theorem GV.keeps {σ : L2.St} {H : Hp} {s s' : Shared} (g : GV P w K cenv N σ H s) (k : Keeps s s') : GV P w K cenv N σ H s' := by
  have kk := kGet k
  refine ⟨g.kin.keeps kk, g.kind, ?_, g.hok.kept kk⟩
  obtain ⟨m, hn, hl⟩ := g.loc
  refine ⟨m, hn.keeps kk, fun i x v e1 e2 e3 => ?_⟩
  obtain ⟨u, r, l⟩ := hl i x v e1 e2 e3
  refine ⟨u, r, ?_⟩
  rcases l with l | ⟨h1, c, h2, o, ho, hd⟩
  · exact .inl l
  · exact .inr ⟨h1, c, h2, o, kk _ _ ho, hd⟩
abbrev QT := L2.St → Hp → (QV → Prop) → Prop
abbrev QB := L2.St → Hp → (Bool → Prop) → Prop
/-- an element -/
structure QE (P : Program) (w : World) (K : PySem.W.Frag) (cenv : Env) (N : List Str) (e : Expr) (t : QT) : Prop where
  run : ∀ (A : Around) (E : Value → Shared → Prop) (s : Shared) (σ : L2.St) (H : Hp) (R : QV → Prop), A.handled = none → A.units + 1 < cLine → GV P w K cenv N σ H s → t σ H R →
    wpAny (model P w) A (eval e cenv) (fun y s' => Keeps s s' ∧ ∃ q, RelQ s'.heap q y ∧ R q) E s
/-- a test, whatever its whole is -/
structure QW (P : Program) (w : World) (K : PySem.W.Frag) (cenv : Env) (N : List Str) (e : Expr) (t : QB) : Prop where
  run : ∀ (whole : Sem Value) (A : Around) (E : Value → Shared → Prop) (s : Shared) (σ : L2.St) (H : Hp) (R : Bool → Prop), A.handled = none → A.units + 1 < cLine → GV P w K cenv N σ H s → t σ H R →
    wpAny (model P w) A (isTrue e cenv whole) (fun b s' => Keeps s s' ∧ R b) E s
structure QB' (P : Program) (w : World) (K : PySem.W.Frag) (cenv : Env) (N : List Str) (e : Expr) (t : QB) : Prop where
  run : ∀ (A : Around) (E : Value → Shared → Prop) (s : Shared) (σ : L2.St) (H : Hp) (R : Bool → Prop), A.handled = none → A.units + 1 < cLine → GV P w K cenv N σ H s → t σ H R →
    wpAny (model P w) A (isTrue e cenv (eval e cenv)) (fun b s' => Keeps s s' ∧ R b) E s
theorem QW.b {e : Expr} {t : QB} (h : QW P w K cenv N e t) : QB' P w K cenv N e t := ⟨h.run _⟩
def qVar (i : Nat) : QT := fun σ _ R => ∃ v, σ[i]? = some (some v) ∧ R (.v v)
def qC (v : V) : QT := fun _ _ R => R (.v v)
theorem q_var (i : Nat) {x : Str} {pos : Pos} (hN : N[i]? = some x := by rfl) (hv : Vis cenv.scope x := by first | exact Or.inl rfl | exact Or.inr (Or.inl rfl) | exact Or.inr (Or.inr rfl)) (hd : (x == ("__debug__" : Str)) = false := by decide) (hcd : (x == ("__classdict__" : Str)) = false := by decide) : QE P w K cenv N (.Name x pos) (qVar i) := by
  refine ⟨fun A E s σ H R hh hu g h => ?_⟩
  obtain ⟨v, e, h⟩ := h
  obtain ⟨m, hn, hl⟩ := g.loc
  obtain ⟨u, r, l⟩ := hl i x v hN e hv
  have fin : Keeps s s ∧ ∃ q, RelQ s.heap q u ∧ R q := ⟨kRfl s, .v v, r, h⟩
  rcases l with ⟨hk, hm⟩ | ⟨hk, c, hc, hcell⟩
  · exact wpAny_Name (wpAny_loadName_local g.kind hk hn hm fin) hd
  · rcases hk with hk | hk
    · exact wpAny_Name (wpAny_loadName_cell g.kind hk hc hcell fin) hd
    · exact wpAny_Name (wpAny_loadName_free g.kind hk hc hcell fin hcd) hd
theorem q_int {i : Int} {j : Nat} {pos : Pos} : QE P w K cenv N (.Constant (.int i) j pos) (qC (.int i)) := ⟨fun _ _ s _ _ _ _ _ _ h => wpAny_Constant_int ⟨kTok s _, .v (.int i), ⟨_, rfl⟩, h⟩⟩
theorem q_non {j : Nat} {pos : Pos} : QE P w K cenv N (.Constant .none j pos) (qC .non) := ⟨fun _ _ s _ _ _ _ _ _ h => Constant_none ⟨kRfl s, .v .non, rfl, h⟩⟩
theorem q_str {x : Str} {j : Nat} {pos : Pos} : QE P w K cenv N (.Constant (.str x) j pos) (qC (.str x)) := ⟨fun _ _ s _ _ _ _ _ _ h => Calls.Constant_str ⟨kTok s _, .v (.str x), ⟨_, rfl⟩, h⟩⟩
/-- two in a row, plain values -/
theorem qbin {a b : Expr} {ta tb : QT} (ha : QE P w K cenv N a ta) (hb : QE P w K cenv N b tb) {A : Around} {E : Value → Shared → Prop} {s : Shared} {σ : L2.St} {H : Hp} {R : QV → QV → Prop} (hh : A.handled = none) (hu : A.units + 1 < cLine) (g : GV P w K cenv N σ H s)
    (h : ta σ H fun x => tb σ H fun y => R x y) {α : Type} {Q : α → Shared → Prop} {f : Value → Value → Sem α}
    (hf : ∀ v u s2 x y, Keeps s s2 → GV P w K cenv N σ H s2 → RelQ s2.heap x v → RelQ s2.heap y u → R x y → wpAny (model P w) A (f v u) Q E s2) :
    wpAny (model P w) A (eval a cenv) (fun v s₁ => wpAny (model P w) A (eval b cenv) (fun u s₂ => wpAny (model P w) A (f v u) Q E s₂) E s₁) E s := by
  refine thn (ha.run A E s σ H _ hh hu g h) fun v s1 ⟨k1, x, r1, q1⟩ => ?_
  refine thn (hb.run A E s1 σ H _ hh hu (g.keeps k1) q1) fun u s2 ⟨k2, y, r2, q2⟩ => ?_
  exact hf v u s2 x y (kTr k1 k2) (g.keeps (kTr k1 k2)) (r1.keeps (kGet k2)) r2 q2
def qFld (K : PySem.W.Frag) (ta : QT) (f : Str) : QT := fun σ H R => ta σ H fun x => ∃ a C dx fs v, x = .v (.ref a) ∧ H a = some (.ins C dx fs) ∧ Cls K C ∧ NoAttr K C f ∧ fs.lookup f = some v ∧ R (.v v)
theorem q_fld {e : Expr} {f : Str} {pos : Pos} {ta : QT} (he : QE P w K cenv N e ta) (hb : attributeBase e f cenv (eval e cenv) = eval e cenv := by rfl) : QE P w K cenv N (.Attribute e f pos) (qFld K ta f) := by
  refine ⟨fun A E s σ H R hh hu g h => ?_⟩
  refine attr_of hb (thn (he.run A E s σ H _ hh hu g h) fun u s1 ⟨k1, x, rx, a, C, dx, fs, v, ex, ea, c, n, l, q⟩ => ?_)
  subst ex
  obtain rfl : u = Value.ref a := rx
  have g1 := g.keeps k1
  obtain ⟨mA, O, r, _, _, _⟩ := ins_get g1.hok ea
  obtain ⟨u', hu, ru⟩ := RelO.some_of (v := v) (o := mA f) (by rw [← l]; exact r f)
  exact get_map g1.kin O (c.get f) c.hd n hu (handed_of ru) ⟨kTr k1 (kTok _ _), .v v, ru, q⟩
def qGet (td ty : QT) : QT := fun σ H R => td σ H fun x => ty σ H fun y => ∃ (a : Addr) (kvs : List (Key × V)) (k : Key) (v : V), x = .v (.ref a) ∧ y = .v (kV k) ∧ Rd H a (.dK kvs) ∧ valV kvs k = some v ∧ R (.v v)
theorem q_get {o i : Expr} {pos : Pos} {td ty : QT} (ho : QE P w K cenv N o td) (hi : QE P w K cenv N i ty) (hs : NoSl i := by intro _ _; rfl) : QE P w K cenv N (.Subscript o i pos) (qGet td ty) := by
  refine ⟨fun A E s σ H R hh hu g h => ?_⟩
  refine subD_of PySem.F.slot_dict_getitem.lookup hs ?_
  refine thn (ho.run A E s σ H _ hh hu g h) fun v s1 ⟨k1, x, r1, q1⟩ => ?_
  refine thn (hi.run A E s1 σ H _ hh hu (g.keeps k1) q1) fun u s2 ⟨k2, y, r2, q2⟩ => ?_
  obtain ⟨a, kvs, k, z, rfl, rfl, e, l, q⟩ := q2
  obtain rfl : v = Value.ref a := r1
  have g2 := g.keeps (kTr k1 k2)
  obtain ⟨zz, hd, vs, rel, dd⟩ := dk_rd g2.hok e
  obtain ⟨w', hw, rw'⟩ := RelO.some_of (v := z) (o := valueAt vs k) (by rw [← l]; exact rel.val k)
  exact ⟨dd.typeIs, wpAny_getItem_of (kV_is r2) dd.mapOf hw ⟨kTr (kTr k1 k2) (kTok _ _), .v z, rw', q⟩⟩
/-- xs[i], a list or a tuple, the place not below 0 -/
def qIx (K : PySem.W.Frag) (td ty : QT) : QT := fun σ H R => td σ H fun x => ty σ H fun y => ∃ (a : Addr) (xs : List V) (i : Nat) (v : V), x = .v (.ref a) ∧ y = .v (.int i) ∧ (SqL K H a xs ∨ SqT K H a xs) ∧ xs[i]? = some v ∧ R (.v v)
theorem GV.list {σ : L2.St} {H : Hp} {s : Shared} {a : Addr} {xs : List V} (I : GV P w K cenv N σ H s) (h : SqL K H a xs) : ∃ its : List Value, Vals xs its ∧ PlainL s.heap a its.toArray ∧ xs.length ≤ sizeLine := by
  rcases h with h | ⟨o, its, n, hk, hc, hd, hs, hz, r⟩
  · obtain ⟨z, its, n, r, e⟩ := h.ok I.hok
    exact ⟨its, r, ⟨_, n, e, rfl, rfl, rfl⟩, z⟩
  · refine ⟨its.toList, r, ⟨o, n, I.kin a o hk, hc, hd, by simpa using hs⟩, ?_⟩
    have e := r.length
    simp only [Array.length_toList] at e
    omega
theorem GV.tuple {σ : L2.St} {H : Hp} {s : Shared} {a : Addr} {xs : List V} (I : GV P w K cenv N σ H s) (h : SqT K H a xs) : ∃ its : List Value, Vals xs its ∧ IsTup s.heap a its.toArray ∧ xs.length ≤ sizeLine := by
  rcases h with h | ⟨o, its, n, hk, hc, hs, hz, r⟩
  · obtain ⟨z, its, r, p⟩ := h.ok I.hok
    exact ⟨its, r, p, z⟩
  · refine ⟨its.toList, r, ⟨o, I.kin a o hk, hc, n, by simpa using hs⟩, ?_⟩
    have e := r.length
    simp only [Array.length_toList] at e
    omega
theorem q_ix {o i : Expr} {pos : Pos} {td ty : QT} (ho : QE P w K cenv N o td) (hi : QE P w K cenv N i ty) (hs : PlainIx i := by intro _ _; rfl) : QE P w K cenv N (.Subscript o i pos) (qIx K td ty) := by
  refine ⟨fun A E s σ H R hh hu g h => ?_⟩
  refine Subscript_ ?_
  refine thn (ho.run A E s σ H _ hh hu g h) fun v s1 ⟨k1, x, r1, q1⟩ => ?_
  refine thn (hi.run A E s1 σ H _ hh hu (g.keeps k1) q1) fun u s2 ⟨k2, y, r2, q2⟩ => ?_
  obtain ⟨a, xs, j, z, rfl, rfl, hq, e, q⟩ := q2
  obtain rfl : v = Value.ref a := r1
  obtain ⟨t, rfl⟩ := r2
  have g2 := g.keeps (kTr k1 k2)
  have hn := line63
  rcases hq with hq | hq
  · obtain ⟨its, r, pl, hz⟩ := g2.list hq
    obtain ⟨w', ew, rw'⟩ := r.get e
    have hl := r.length
    have hj : j < xs.length := (List.getElem?_eq_some_iff.mp e).1
    exact item_listR pl.isList (by omega) (by omega) (by simpa using ew) ⟨kTr k1 k2, .v z, rw', q⟩ (hs _ _)
  · obtain ⟨its, r, pl, hz⟩ := g2.tuple hq
    obtain ⟨w', ew, rw'⟩ := r.get e
    have hl := r.length
    have hj : j < xs.length := (List.getElem?_eq_some_iff.mp e).1
    exact subscriptTail_builtinR (x := w') pl.typeIs slot_tuple_getitem.lookup
      (getItem_tuple (j := j) (Q := fun r s' => r = w' ∧ (Keeps s s' ∧ ∃ q, RelQ s'.heap q r ∧ R q)) pl (by omega) (by omega) (by rw [List.size_toArray, ← hl, seqIndex_of (by omega) (by omega)]; simp) (by simpa using ew) ⟨rfl, kTr k1 k2, .v z, rw', q⟩) (hs _ _)
/-- d[(x, y)], a dict whose keys are tuples; the key is made new -/
def qGetT (td ty : QT) : QT := fun σ H R => td σ H fun x => ty σ H fun y => ∃ (a : Addr) (kvs : List (List Key × V)) (k : List Key) (v : V), x = .v (.ref a) ∧ y = .t (k.map kV) ∧ Rd H a (.dT kvs) ∧ valV kvs k = some v ∧ R (.v v)
theorem q_getT {o i : Expr} {pos : Pos} {td ty : QT} (ho : QE P w K cenv N o td) (hi : QE P w K cenv N i ty) (hs : NoSl i := by intro _ _; rfl) : QE P w K cenv N (.Subscript o i pos) (qGetT td ty) := by
  refine ⟨fun A E s σ H R hh hu g h => ?_⟩
  refine subD_of PySem.F.slot_dict_getitem.lookup hs ?_
  refine thn (ho.run A E s σ H _ hh hu g h) fun v s1 ⟨k1, x, r1, q1⟩ => ?_
  refine thn (hi.run A E s1 σ H _ hh hu (g.keeps k1) q1) fun u s2 ⟨k2, y, r2, q2⟩ => ?_
  obtain ⟨a, kvs, k, z, rfl, rfl, e, l, q⟩ := q2
  obtain rfl : v = Value.ref a := r1
  obtain ⟨b, us, rfl, rv, it⟩ := r2
  have g2 := g.keeps (kTr k1 k2)
  obtain ⟨zz, hd, xs, rel, dd⟩ := dt_rd g2.hok e
  obtain ⟨w', hw, rw'⟩ := RelO.some_of (v := z) (o := (atKey xs k).map (·.2)) (by rw [← l]; exact rel.val k)
  obtain ⟨p, hp, hp2⟩ := Option.map_eq_some_iff.mp hw
  have ik : (tupleKind (mixKind P w)).is s2.heap k b := by
    obtain ⟨o, h1, h2, n, h3⟩ := it
    exact ⟨o, us.toArray, n, h1, h2, h3, by simpa using items_are rv⟩
  refine ⟨dd.typeIs, wpAny_getItem_heap (tupleKind_room_in1 hu) ik dd hp ?_⟩
  rw [hp2]
  exact ⟨kTr (kTr k1 k2) (kTok _ _), .v z, rw', q⟩
def qOp (r : V → V → Hp → (V → Prop) → Prop) (ta tb : QT) : QT := fun σ H R => ta σ H fun x => tb σ H fun y => ∃ a b, x = .v a ∧ y = .v b ∧ r a b H fun z => R (.v z)
/-- a rule for two values -/
def OpQ (P : Program) (w : World) (K : PySem.W.Frag) (cenv : Env) (N : List Str) (f : Value → Value → Sem Value) (r : V → V → Hp → (V → Prop) → Prop) : Prop :=
  ∀ (A : Around) (E : Value → Shared → Prop) (s : Shared) (σ : L2.St) (H : Hp) (x y : V) (v u : Value) (R : V → Prop), A.handled = none → A.units + 1 < cLine → GV P w K cenv N σ H s → RelV x v → RelV y u → r x y H R →
    wpAny (model P w) A (f v u) (fun c s' => Keeps s s' ∧ ∃ z, RelV z c ∧ R z) E s
theorem q_op {op : Operator} {a b : Expr} {pos : Pos} {r : V → V → Hp → (V → Prop) → Prop} {ta tb : QT} (ho : OpQ P w K cenv N (binaryOp op) r) (ha : QE P w K cenv N a ta) (hb : QE P w K cenv N b tb) : QE P w K cenv N (.BinOp a op b pos) (qOp r ta tb) := by
  refine ⟨fun A E s σ H R hh hu g h => ?_⟩
  refine wpAny_BinOp (qbin ha hb hh hu g h fun v u s2 x y k2 g2 rx ry q => ?_)
  obtain ⟨a', b', rfl, rfl, q⟩ := q
  exact thn (ho A E s2 σ H a' b' v u _ hh hu g2 rx ry q) fun c s3 ⟨k3, z, rz, qz⟩ => ⟨kTr k2 k3, .v z, rz, qz⟩
def qrI (f : Int → Int → Int) : V → V → Hp → (V → Prop) → Prop := fun x y _ R => ∃ i j, x = .int i ∧ y = .int j ∧ R (.int (f i j))
def qrB (f : Int → Int → Bool) : V → V → Hp → (V → Prop) → Prop := fun x y _ R => ∃ i j, x = .int i ∧ y = .int j ∧ R (.bl (f i j))
theorem oq_sub : OpQ P w K cenv N (binaryOp .Sub) (qrI fun i j => i - j) := by
  rintro A E s σ H x y v u R hh hu g rx ry ⟨i, j, rfl, rfl, q⟩
  obtain ⟨t, rfl⟩ := rx
  obtain ⟨t', rfl⟩ := ry
  exact sub_int ⟨kTok s _, .int _, ⟨_, rfl⟩, q⟩
theorem oq_add : OpQ P w K cenv N (binaryOp .Add) (qrI fun i j => i + j) := by
  rintro A E s σ H x y v u R hh hu g rx ry ⟨i, j, rfl, rfl, q⟩
  obtain ⟨t, rfl⟩ := rx
  obtain ⟨t', rfl⟩ := ry
  exact add_int ⟨kTok s _, .int _, ⟨_, rfl⟩, q⟩
theorem fin_q {R : V → Prop} {s : Shared} {k k' : Bool} (q : R (.bl k)) (e : k = k') : Keeps s s ∧ ∃ z, RelV z (.bool k') ∧ R z := by
  subst e
  exact ⟨kRfl s, .bl k, rfl, q⟩
theorem oq_lt : OpQ P w K cenv N (compareOp .Lt) (qrB fun i j => decide (i < j)) := by
  rintro A E s σ H x y v u R hh hu g rx ry ⟨i, j, rfl, rfl, q⟩
  obtain ⟨t, rfl⟩ := rx
  obtain ⟨t', rfl⟩ := ry
  exact lt_int (fin_q q rfl)
theorem oq_le : OpQ P w K cenv N (compareOp .LtE) (qrB fun i j => decide (i ≤ j)) := by
  rintro A E s σ H x y v u R hh hu g rx ry ⟨i, j, rfl, rfl, q⟩
  obtain ⟨t, rfl⟩ := rx
  obtain ⟨t', rfl⟩ := ry
  exact le_int (fin_q q rfl)
theorem oq_gt : OpQ P w K cenv N (compareOp .Gt) (qrB fun i j => decide (j < i)) := by
  rintro A E s σ H x y v u R hh hu g rx ry ⟨i, j, rfl, rfl, q⟩
  obtain ⟨t, rfl⟩ := rx
  obtain ⟨t', rfl⟩ := ry
  exact gt_int (fin_q q rfl)
/-- == of plain values: ints, texts, None, bools -/
theorem oq_eq : OpQ P w K cenv N (compareOp .Eq) (fun x y _ R => scal x y = true ∧ R (.bl (decide (x = y)))) := by
  rintro A E s σ H x y v u R hh hu g rx ry ⟨hs, q⟩
  cases x with
  | non =>
    cases rx
    cases y with
    | non => cases ry; exact PySem.EqNone.eq_none_none (fin_q q (by simp))
    | bl j => cases ry; exact PySem.EqNone.eq_none_bool (fin_q q (by simp))
    | int j => obtain ⟨t', rfl⟩ := ry; exact PySem.EqNone.eq_none_int (fin_q q (by simp))
    | str j => obtain ⟨t', rfl⟩ := ry; exact PySem.EqNone.eq_none_str (fin_q q (by simp))
    | _ => exact absurd (show false = true from hs) Bool.false_ne_true
  | int i =>
    obtain ⟨t, rfl⟩ := rx
    cases y with
    | non => cases ry; exact PySem.EqNone.eq_int_none (fin_q q (by simp))
    | int j => obtain ⟨t', rfl⟩ := ry; exact eq_int (fin_q q dec_int)
    | str j => obtain ⟨t', rfl⟩ := ry; exact PySem.EqMixed.eq_int_str (fin_q q (by simp))
    | _ => exact absurd (show false = true from hs) Bool.false_ne_true
  | str i =>
    obtain ⟨t, rfl⟩ := rx
    cases y with
    | non => cases ry; exact PySem.EqNone.eq_str_none (fin_q q (by simp))
    | bl j => cases ry; exact PySem.EqMixed.eq_str_bool (fin_q q (by simp))
    | int j => obtain ⟨t', rfl⟩ := ry; exact PySem.EqMixed.eq_str_int (fin_q q (by simp))
    | str j => obtain ⟨t', rfl⟩ := ry; exact eq_str (fin_q q dec_str)
    | _ => exact absurd (show false = true from hs) Bool.false_ne_true
  | bl i =>
    cases rx
    cases y with
    | non => cases ry; exact PySem.EqNone.eq_bool_none (fin_q q (by simp))
    | bl j => cases ry; exact eq_bool (fin_q q dec_bl)
    | str j => obtain ⟨t', rfl⟩ := ry; exact PySem.EqMixed.eq_bool_str (fin_q q (by simp))
    | _ => exact absurd (show false = true from hs) Bool.false_ne_true
  | byt i =>
    obtain ⟨t, rfl⟩ := rx
    cases y with
    | byt j => obtain ⟨t', rfl⟩ := ry; exact PySem.W.eq_bytes (fin_q q dec_byt)
    | _ => exact absurd (show false = true from hs) Bool.false_ne_true
  | _ => cases y <;> exact absurd (show false = true from hs) Bool.false_ne_true
theorem oq_isN : OpQ P w K cenv N (compareOp .Is) (fun x y _ R => y = .non ∧ R (.bl (decide (x = .non)))) := by
  rintro A E s σ H x y v u R hh hu g rx ry ⟨rfl, q⟩
  cases ry
  exact is_none_gen (fin_q q rx.none_iff.symm)
theorem oq_notN : OpQ P w K cenv N (compareOp .IsNot) (fun x y _ R => y = .non ∧ R (.bl (!decide (x = .non)))) := by
  rintro A E s σ H x y v u R hh hu g rx ry ⟨rfl, q⟩
  cases ry
  exact isnot_none_gen (fin_q q (by rw [rx.none_iff]))
/-- k in d, k not in d: a dict of ints and texts -/
theorem oq_din : OpQ P w K cenv N (compareOp .In) (fun x y H R => ∃ (a : Addr) (kvs : List (Key × V)) (k : Key), y = .ref a ∧ x = kV k ∧ Rd H a (.dK kvs) ∧ R (.bl (valV kvs k).isSome)) := by
  rintro A E s σ H x y v u R hh hu g rx ry ⟨a, kvs, k, rfl, rfl, e, q⟩
  obtain rfl : u = Value.ref a := ry
  obtain ⟨z, hd, vs, rel, dd⟩ := dk_rd g.hok e
  refine wpAny_in_of (kV_is rx) hd dd.mapOf ⟨kTok s _, .bl _, rfl, ?_⟩
  rw [← (rel.val k).isSome_eq]
  exact q
theorem oq_dnotin : OpQ P w K cenv N (compareOp .NotIn) (fun x y H R => ∃ (a : Addr) (kvs : List (Key × V)) (k : Key), y = .ref a ∧ x = kV k ∧ Rd H a (.dK kvs) ∧ R (.bl (!(valV kvs k).isSome))) := by
  rintro A E s σ H x y v u R hh hu g rx ry ⟨a, kvs, k, rfl, rfl, e, q⟩
  obtain rfl : u = Value.ref a := ry
  obtain ⟨z, hd, vs, rel, dd⟩ := dk_rd g.hok e
  refine wpAny_notIn_of (kV_is rx) hd dd.mapOf ⟨kTok s _, .bl _, rfl, ?_⟩
  rw [← (rel.val k).isSome_eq]
  exact q
/-- x in xs, x not in xs: a list of plain values -/
theorem oq_lin : OpQ P w K cenv N (compareOp .In) (fun x y H R => ∃ (a : Addr) (xs : List V), y = .ref a ∧ SqL K H a xs ∧ flatV x = true ∧ xs.all flatV = true ∧ R (.bl (inV x xs))) := by
  rintro A E s σ H x y v u R hh hu g rx ry ⟨a, xs, rfl, hq, fx, fs, q⟩
  obtain rfl : u = Value.ref a := ry
  obtain ⟨its, r, pl, hz⟩ := g.list hq
  refine SeqAt.in_listAt (eqU x) pl.isList (fun w hw => mem_eqAt rx fx r fs w (by simpa using hw)) ⟨kRfl s, .bl _, rfl, ?_⟩
  rw [show its.toArray.any (eqU x) = its.any (eqU x) by simp, any_eqU r fs]
  exact q
theorem oq_lnotin : OpQ P w K cenv N (compareOp .NotIn) (fun x y H R => ∃ (a : Addr) (xs : List V), y = .ref a ∧ SqL K H a xs ∧ flatV x = true ∧ xs.all flatV = true ∧ R (.bl (!inV x xs))) := by
  rintro A E s σ H x y v u R hh hu g rx ry ⟨a, xs, rfl, hq, fx, fs, q⟩
  obtain rfl : u = Value.ref a := ry
  obtain ⟨its, r, pl, hz⟩ := g.list hq
  refine SeqAt.notIn_listAt (eqU x) pl.isList (fun w hw => mem_eqAt rx fx r fs w (by simpa using hw)) ⟨kRfl s, .bl _, rfl, ?_⟩
  rw [show its.toArray.any (eqU x) = its.any (eqU x) by simp, any_eqU r fs]
  exact q
theorem q_cmp {op : CmpOp} {a b : Expr} {pos : Pos} {r : V → V → Hp → (V → Prop) → Prop} {ta tb : QT} (ho : OpQ P w K cenv N (compareOp op) r) (ha : QE P w K cenv N a ta) (hb : QE P w K cenv N b tb) (hm : behindInMarks op b = false := by first | exact nobehind _ (by decide) (by decide) | rfl) :
    QE P w K cenv N (.Compare a [op] [b] pos) (qOp r ta tb) := by
  refine ⟨fun A E s σ H R hh hu g h => ?_⟩
  refine wpAny_Compare1 (qbin ha hb hh hu g h fun v u s2 x y k2 g2 rx ry q => ?_) hm
  obtain ⟨a', b', rfl, rfl, q⟩ := q
  exact thn (ho A E s2 σ H a' b' v u _ hh hu g2 rx ry q) fun c s3 ⟨k3, z, rz, qz⟩ => ⟨kTr k2 k3, .v z, rz, qz⟩
/-- .. as a test -/
def qTst (t : QT) : QB := fun σ H R => t σ H fun x => ∃ k, x = .v (.bl k) ∧ R k
theorem qt_cmp {op : CmpOp} {a b : Expr} {pos : Pos} {r : V → V → Hp → (V → Prop) → Prop} {ta tb : QT} (ho : OpQ P w K cenv N (compareOp op) r) (ha : QE P w K cenv N a ta) (hb : QE P w K cenv N b tb) (hm : behindInMarks op b = false := by first | exact nobehind _ (by decide) (by decide) | rfl) :
    QB' P w K cenv N (.Compare a [op] [b] pos) (qTst (qOp r ta tb)) := by
  refine ⟨fun A E s σ H R hh hu g h => ?_⟩
  refine wpAny_isTrue_Compare1 (qbin ha hb hh hu g h fun v u s2 x y k2 g2 rx ry q => ?_) hm
  obtain ⟨a', b', rfl, rfl, q⟩ := q
  refine thn (ho A E s2 σ H a' b' v u _ hh hu g2 rx ry q) fun c s3 ⟨k3, z, rz, k, ez, qz⟩ => ?_
  cases ez
  cases rz
  exact wpAny_truthy_bool ⟨kTr k2 k3, qz⟩
def qAnd (t u : QB) : QB := fun σ H R => t σ H fun c => if c = true then u σ H R else R false
def qOr (t u : QB) : QB := fun σ H R => t σ H fun c => if c = true then R true else u σ H R
theorem qw_and1 {a : Expr} {pos : Pos} {ta : QB} (ha : QB' P w K cenv N a ta) : QW P w K cenv N (.BoolOp .And [a] pos) ta := by
  refine ⟨fun wh A E s σ H R hh hu g h => isTrue_and (thn (ha.run A E s σ H R hh hu g h) fun c s1 e => ?_)⟩
  cases c with
  | true => exact isTrue_and_nil e
  | false => exact e
theorem qw_and {a b : Expr} {rest : List Expr} {pos : Pos} {ta tb : QB} (ha : QB' P w K cenv N a ta) (hb : QW P w K cenv N (.BoolOp .And (b :: rest) pos) tb) : QW P w K cenv N (.BoolOp .And (a :: b :: rest) pos) (qAnd ta tb) := by
  refine ⟨fun wh A E s σ H R hh hu g h => isTrue_and (thn (ha.run A E s σ H _ hh hu g h) fun c s1 e => ?_)⟩
  obtain ⟨k, q⟩ := e
  cases c with
  | true => exact thn (hb.run wh A E s1 σ H R hh hu (g.keeps k) q) fun d s2 ⟨k2, q2⟩ => ⟨kTr k k2, q2⟩
  | false => exact ⟨k, q⟩
/-- and, or as values of truth values -/
def qAndV (ta tb : QT) : QT := fun σ H R => ta σ H fun x => ∃ c, x = .v (.bl c) ∧ if c = true then tb σ H R else R (.v (.bl false))
def qOrV (ta tb : QT) : QT := fun σ H R => ta σ H fun x => ∃ c, x = .v (.bl c) ∧ if c = true then R (.v (.bl true)) else tb σ H R
theorem q_one {op} {a : Expr} {pos : Pos} {t : QT} (h : QE P w K cenv N a t) : QE P w K cenv N (.BoolOp op [a] pos) t := ⟨fun A E s σ H R hh hu g hw => BoolOp_one (h.run A E s σ H R hh hu g hw)⟩
theorem q_and {a b : Expr} {rest : List Expr} {pos : Pos} {ta tb : QT} (ha : QE P w K cenv N a ta) (hb : QE P w K cenv N (.BoolOp .And (b :: rest) pos) tb) : QE P w K cenv N (.BoolOp .And (a :: b :: rest) pos) (qAndV ta tb) := by
  refine ⟨fun A E s σ H R hh hu g h => BoolOp_and (thn (ha.run A E s σ H _ hh hu g h) fun v s1 ⟨k, x, r1, c, ex, q1⟩ => ?_)⟩
  subst ex
  cases r1
  refine wpAny_truthy_bool ?_
  cases c with
  | true => exact thn (hb.run A E s1 σ H R hh hu (g.keeps k) q1) fun d s2 ⟨k2, q2⟩ => ⟨kTr k k2, q2⟩
  | false => exact ⟨k, .v (.bl false), rfl, q1⟩
theorem q_or {a b : Expr} {rest : List Expr} {pos : Pos} {ta tb : QT} (ha : QE P w K cenv N a ta) (hb : QE P w K cenv N (.BoolOp .Or (b :: rest) pos) tb) : QE P w K cenv N (.BoolOp .Or (a :: b :: rest) pos) (qOrV ta tb) := by
  refine ⟨fun A E s σ H R hh hu g h => BoolOp_or (thn (ha.run A E s σ H _ hh hu g h) fun v s1 ⟨k, x, r1, c, ex, q1⟩ => ?_)⟩
  subst ex
  cases r1
  refine wpAny_truthy_bool ?_
  cases c with
  | false => exact thn (hb.run A E s1 σ H R hh hu (g.keeps k) q1) fun d s2 ⟨k2, q2⟩ => ⟨kTr k k2, q2⟩
  | true => exact ⟨k, .v (.bl true), rfl, q1⟩
def qTup2 (ta tb : QT) : QT := fun σ H R => ta σ H fun x => tb σ H fun y => ∃ a b, x = .v a ∧ y = .v b ∧ R (.t [a, b])
theorem q_tup2 {a b : Expr} {j : Nat} {pos : Pos} {ta tb : QT} (ha : QE P w K cenv N a ta) (hb : QE P w K cenv N b tb)
    (hs : starEach [a, b] cenv = [(false, eval a cenv), (false, eval b cenv)] := by rfl) : QE P w K cenv N (.Tuple [a, b] j pos) (qTup2 ta tb) := by
  refine ⟨fun A E s σ H R hh hu g h => ?_⟩
  refine Tuple_ ?_
  rw [hs]
  show wpAny _ _ (spliced (backTo pos [(false, eval a cenv), (false, eval b cenv)])) _ _ s
  refine Calls.spliced_cons (thn (ha.run A E s σ H _ hh hu g h) fun v s1 ⟨k1, x, r1, q1⟩ => ?_)
  refine Calls.spliced_cons (thn (hb.run A E s1 σ H _ hh hu (g.keeps k1) q1) fun u s2 ⟨k2, y, r2, q2⟩ => ?_)
  refine Calls.spliced_nil ?_
  obtain ⟨p, q, rfl, rfl, qq⟩ := q2
  refine wpAny_newObj_type ?_ (by show 2 ≤ sizeLine; decide)
  have kp : Keeps s2 { s2 with heap := s2.heap.push { cls := .type "tuple", data := .seq [v, u].toArray } } := ⟨_, s2.toks, rfl, fun b o e => Heap.get?_push_of_some _ e⟩
  exact ⟨kTr (kTr k1 k2) kp, .t [p, q], ⟨_, [v, u], rfl, .cons r1 (.cons r2 .nil), IsTup.new s2.heap _⟩, qq⟩
end
end Fy
namespace Fy
open PySem PySem.Spec PyProof.Rows L2
open GxR (TabG Tabbed inv_tab sh_eta)
/-- what a value gives when it is walked -/
def Src (K : PySem.W.Frag) (H : Hp) (x : V) (items : List V) : Prop :=
  ∃ a, x = .ref a ∧ (SqL K H a items ∨ SqT K H a items ∨ ∃ kvs : List (Key × V), Rd H a (.dK kvs) ∧ items = kvs.map fun p => kV p.1)
theorem tup_at {h h' : Heap} {a : Addr} {its : Array Value} (x : IsTup h a its) (e : ∀ o, h.get? a = some o → h'.get? a = some o) : IsTup h' a its := by
  obtain ⟨o, q, r⟩ := x
  exact ⟨o, e o q, r⟩
theorem vals_at {xs : List V} {its : List Value} (rv : Vals xs its) {i : Nat} {v : Value} (hv : its[i]? = some v) : ∃ y, xs[i]? = some y ∧ RelV y v := by
  have hl := rv.length
  have hi : i < xs.length := by rw [hl]; exact (List.getElem?_eq_some_iff.mp hv).1
  obtain ⟨v', e1, e2⟩ := rv.get (i := i) (x := xs[i]) (by simp [hi])
  rw [hv] at e1
  cases e1
  exact ⟨xs[i], by simp [hi], e2⟩
section
variable {X : Cx} {pins : List (Addr × Obj)} {σ : L2.St} {H : Hp} {s : Shared}
theorem src_iter {E : Value → Shared → Prop} {x : V} {u : Value} {items : List V} {Q : Value → Shared → Prop} (I : Inv X pins σ H s) (h : Src X.K H x items) (rx : RelV x u)
    (hQ : ∀ (o : Obj) (a : Addr) (F : Nat → Value → Prop) (St : Nat → Heap → Prop), a < s.heap.objs.size → (∀ ps, H a ≠ some (.tbl ps)) → (∀ A' : Around, A'.handled = none → Walks X.prog X.w A' s.heap.objs.size [s.heap.objs.size, a] [s.heap.objs.size] items.length F St) →
      St 0 (s.heap.push o) → (∀ i v, F i v → ∃ y, items[i]? = some y ∧ RelV y v) → Q (.ref s.heap.objs.size) { s with heap := s.heap.push o }) :
    wpAny (model X.prog X.w) X.A (pyIter u) Q E s := by
  obtain ⟨a, rfl, h⟩ := h
  obtain rfl : u = Value.ref a := rx
  have nt : ∀ {u : HO}, Rd H a u → (∀ ps, u ≠ .tbl ps) → ∀ ps, H a ≠ some (.tbl ps) := fun {u} r n ps z => by
    rcases r with r | ⟨o, r⟩
    · rw [r] at z; exact n ps (Option.some.inj z)
    · rw [r] at z; cases z
  have ntK : ∀ {o : Obj}, X.K.lookup a = some o → ∀ ps, H a ≠ some (.tbl ps) := fun {o} r ps z => by
    rw [(I.bs a o (I.mod.kin a o r)).2] at z
    cases z
  rcases h with h | h | ⟨kvs, h, rfl⟩
  · obtain ⟨its, rv, pl, hz⟩ := I.list h
    have lt : a < s.heap.objs.size := let ⟨o, n, e, _⟩ := pl; Heap.lt_size e
    have hl := rv.length
    refine wpAny_pyIter_list pl.isList ?_
    refine hQ _ a (fun i v => its.toArray[i]? = some v) (fun i h => h.IsListIter s.heap.objs.size a i ∧ h.IsList a its.toArray) lt (h.elim (fun r => nt r fun _ z => by cases z) fun ⟨_, _, _, r, _⟩ => ntK r) (fun A' hA => ?_) ⟨⟨_, Heap.get?_push_size _ rfl, rfl, rfl⟩, ?_⟩ fun i v hv => vals_at rv (by simpa using hv)
    · have W := Walks.list (prog := X.prog) (w := X.w) hA s.heap.objs.size a (Nat.ne_of_lt lt) its.toArray
      rw [show its.toArray.size = items.length by rw [hl]; simp] at W
      exact W
    · exact pl.isList.at fun o e => Heap.get?_push_of_some _ e
  · obtain ⟨its, rv, pl, hz⟩ := I.tuple h
    have lt : a < s.heap.objs.size := pl.lt
    have hl := rv.length
    refine wpAny_pyIter_tuple (show s.heap.IsTuple a its.toArray from pl) ?_
    refine hQ _ a (fun i v => its.toArray[i]? = some v) (fun i h => h.IsTupleIter s.heap.objs.size a i ∧ h.IsTuple a its.toArray) lt (h.elim (fun r => nt r fun _ z => by cases z) fun ⟨_, _, _, r, _⟩ => ntK r) (fun A' hA => ?_) ⟨⟨_, Heap.get?_push_size _ rfl, rfl, rfl⟩, ?_⟩ fun i v hv => vals_at rv (by simpa using hv)
    · have W := Walks.tuple (prog := X.prog) (w := X.w) hA s.heap.objs.size a (Nat.ne_of_lt lt) its.toArray
      rw [show its.toArray.size = items.length by rw [hl]; simp] at W
      exact W
    · exact tup_at pl fun o e => Heap.get?_push_of_some _ e
  · obtain ⟨z, hd, vs, rel, dd⟩ := dk_rd I.hok h
    obtain ⟨ep, da⟩ := dd.dictAt
    have lt : a < s.heap.objs.size := let ⟨o, es, e, _⟩ := da; Heap.lt_size e
    have hl := rel.length
    refine wpAny_pyIter_dict hd da ?_
    refine hQ _ a (fun i v => ∃ k x, vs[i]? = some (k, x) ∧ (mixKind X.prog X.w).is k v = true) (fun i h => h.IsKeyIter s.heap.objs.size a i vs.length ep ∧ h.DictAt (mixKind X.prog X.w) a vs ep) lt (nt h fun _ z => by cases z) (fun A' hA => ?_) ⟨?_, ?_⟩ fun i v hv => ?_
    · have W := Walks.dictKeys (prog := X.prog) (w := X.w) (knd := mixKind X.prog X.w) hA s.heap.objs.size a (Nat.ne_of_lt lt) vs ep
      rw [← hl] at W
      rw [← hl, List.length_map]
      exact W
    · exact ⟨_, Heap.get?_push_size _ rfl, rfl, rfl⟩
    · exact da.at' fun o e => Heap.get?_push_of_some _ e
    · obtain ⟨k, x, e, hk⟩ := hv
      have hi : i < kvs.length := by rw [hl]; exact (List.getElem?_eq_some_iff.mp e).1
      have ek : kvs.map (·.1) = vs.map (·.1) := rel.keys
      have e2 : (kvs.map (·.1))[i]? = some k := by rw [ek, List.getElem?_map, e] <;> rfl
      refine ⟨kV k, ?_, relV_key hk⟩
      rw [List.getElem?_map] at e2 ⊢
      cases q : kvs[i]? with
      | none => rw [q] at e2; cases e2
      | some y =>
        rw [q] at e2
        have e3 : y.1 = k := Option.some.inj e2
        show some (kV y.1) = some (kV k)
        rw [e3]
end
/-- the tests of a generator expression -/
structure QTs (P : Program) (w : World) (K : PySem.W.Frag) (cenv : Env) (N : List Str) (ifs : List Expr) (t : QB) : Prop where
  run : ∀ (A : Around) (E : Value → Shared → Prop) (s : Shared) (σ : L2.St) (H : Hp) (R : Bool → Prop), A.handled = none → A.units + 1 < cLine → GV P w K cenv N σ H s → t σ H R →
    wpAny (model P w) A (forIn ifs true fun c r => if r = true then do let ok ← isTrue c cenv (eval c cenv); pure (ForInStep.yield ok) else pure (ForInStep.yield r)) (fun b s' => Keeps s s' ∧ R b) E s
def qYes : QB := fun _ _ R => R true
section
variable {P : Program} {w : World} {K : PySem.W.Frag} {cenv : Env} {N : List Str}
theorem qts_nil : QTs P w K cenv N [] qYes := ⟨fun A E s σ H R hh hu g h => by
  simp only [List.forIn_nil]
  exact wpAny_pure ⟨kRfl s, h⟩⟩
theorem qts_one {c : Expr} {t : QB} (h : QB' P w K cenv N c t) : QTs P w K cenv N [c] t := ⟨fun A E s σ H R hh hu g hw => wpAny_tests_one (h.run A E s σ H R hh hu g hw)⟩
end
/-- the generator's scope: its own name x, captured names that the def has as cells -/
structure GenSc (N : List Str) (sc scope : Scope) (x : Str) : Prop where
  kind : scope.kind = .function
  co : scope.isCoroutine = false
  cell : ∀ y ∈ scope.names, y.2 ≠ .cell
  loc : ∀ y ∈ scope.names, y.2 = .local → y.1 = x ∨ y.1 = ".0"
  free : ∀ y ∈ scope.names, y.2 = .free → sc.names.lookup y.1 = some .cell ∨ sc.names.lookup y.1 = some .free
  dot : scope.names.lookup (".0" : Str) = some NameKind.local
  own : scope.names.lookup x = some .local
  nodot : (".0" : Str) ∉ N
def genSB (N : List Str) (sc scope : Scope) (x : Str) : Bool :=
  decide (scope.kind = .function) && (!scope.isCoroutine && (scope.names.all (fun y => !decide (y.2 = .cell) && ((!decide (y.2 = .local) || (decide (y.1 = x) || decide (y.1 = ".0"))) && (!decide (y.2 = .free) || (decide (sc.names.lookup y.1 = some .cell) || decide (sc.names.lookup y.1 = some .free))))) &&
    (decide (scope.names.lookup (".0" : Str) = some NameKind.local) && (decide (scope.names.lookup x = some .local) && !decide ((".0" : Str) ∈ N)))))
theorem genS_by {N : List Str} {sc scope : Scope} {x : Str} (h : genSB N sc scope x = true) : GenSc N sc scope x := by
  unfold genSB at h
  simp only [Bool.and_eq_true, Bool.or_eq_true, Bool.not_eq_true', decide_eq_true_eq, decide_eq_false_iff_not, List.all_eq_true] at h
  obtain ⟨h1, h2, h3, h4, h5, h6⟩ := h
  refine ⟨h1, h2, fun y hy => (h3 y hy).1, fun y hy e => ?_, fun y hy e => ?_, h4, h5, h6⟩
  · rcases (h3 y hy).2.1 with z | z
    · exact absurd e z
    · exact z
  · rcases (h3 y hy).2.2 with z | z
    · exact absurd e z
    · exact z
theorem GenSc.has {X : Cx} {N : List Str} {scope : Scope} {x : Str} (L : GenSc N X.env.scope scope x) (ok : X.Ok) : ∀ y ∈ scope.names, y.2 = .free → ∃ c, X.env.cells.lookup y.1 = some c := fun y hy e => by
  rcases L.free y hy e with k | k
  · exact ok.has _ (.inl k)
  · exact ok.has _ (.inr k)
section
variable {X : Cx} {pins : List (Addr × Obj)} {σ : L2.St} {H H1 : Hp} {s s1 : Shared}
/-- the view in the generator's frame -/
theorem gv_of {scope : Scope} {x : Str} {i : Nat} {C : Addr} {code : Value} {bi : Addr} {s2 : Shared} {m2 : Str → Option Value} {v : Value} {y : V} (I : Inv X pins σ H s) (hN : X.N.Nodup) (hi : X.N[i]? = some x) (L : GenSc X.N X.env.scope scope x)
    (hm : m2 x = some v) (rv : RelV y v) (hn : s2.heap.Ns C m2) (it : Addr) (hit : H it = none) (nit : ∀ b o, X.base.get? b = some o → b ≠ it) (ncell : ∀ z c, X.env.cells.lookup z = some c → c ≠ it)
    (k : ∀ b o, b ≠ it → s.heap.get? b = some o → s2.heap.get? b = some o) :
    GV X.prog X.w X.K (genEnv scope (cloFrom X.env.cells scope.names []) C code bi X.env) X.N (σ.set i (some y)) H s2 := by
  have hfree := L.has I.ok
  have cm : ∀ {y c}, (cloFrom X.env.cells scope.names []).lookup y = some c → X.env.cells.lookup y = some c := fun {y c} e => by
    rcases cloFrom_mem (PySem.mem_of_lookup e) with hm | ⟨h1, h2⟩
    · cases hm
    · obtain ⟨c1, hc⟩ := hfree _ h1 rfl
      have hc : X.env.cells.lookup y = some c1 := hc
      have e2 : c = c1 := by
        rw [h2, hc] <;> rfl
      rw [e2]
      exact hc
  refine ⟨I.mod.kin.keeps fun b o e => k b o (nit b o e) (I.bk b o e), L.kind, ⟨m2, hn, fun j z u e1 e2 e3 => ?_⟩, fun b u e => ?_⟩
  · by_cases hj : j = i
    · subst hj
      rw [hi] at e1
      cases e1
      have hlt : j < σ.length := by rw [I.len]; exact (List.getElem?_eq_some_iff.mp hi).1
      rw [List.getElem?_set_self hlt] at e2
      cases e2
      exact ⟨v, rv, .inl ⟨L.own, hm⟩⟩
    · rw [List.getElem?_set_ne (Ne.symm hj)] at e2
      have e3 : Vis scope z := e3
      rcases e3 with k1 | k1 | k1
      · rcases L.loc _ (PySem.mem_of_lookup k1) rfl with q | q
        · have q : z = x := q
          subst q
          exact absurd (nodup_ix hN e1 hi) hj
        · have q : z = ".0" := q
          subst q
          exact absurd (List.mem_of_getElem? e1) L.nodot
      · exact absurd rfl (L.cell _ (PySem.mem_of_lookup k1))
      · obtain ⟨m, hns, hl⟩ := I.loc
        have hvis : Vis X.env.scope z := (L.free _ (PySem.mem_of_lookup k1) rfl).elim (fun k => .inr (.inl k)) (fun k => .inr (.inr k))
        obtain ⟨w', r, q⟩ := hl j z u e1 e2 hvis
        obtain ⟨c2, h2⟩ := mem_lookup (cloFrom_has (cells := X.env.cells) (acc := []) (PySem.mem_of_lookup k1 : (z, NameKind.free) ∈ scope.names))
        refine ⟨w', r, .inr ⟨.inr k1, c2, h2, ?_⟩⟩
        have c1 := cm h2
        rcases q with ⟨k', _⟩ | ⟨_, c3, e', zz⟩
        · have k' : X.env.scope.names.lookup z = some .local := k'
          rcases L.free _ (PySem.mem_of_lookup k1) rfl with k2 | k2 <;> rw [show X.env.scope.names.lookup z = _ from k2] at k' <;> cases k'
        · rw [c1] at e'
          cases e'
          obtain ⟨o, ho, hd⟩ := zz
          exact ⟨o, k _ _ (ncell _ _ c1) ho, hd⟩
  · have tr : ∀ c u, H c = some u → c ≠ it := fun c u e z => by rw [z, hit] at e; cases e
    refine (I.hok b u e).stay (fun c v' hc q => k c v' ?_ q) (fun _ q => q) fun _ _ q => q
    rcases hc with z | z
    · rw [z]; exact tr _ _ e
    · exact tr _ _ z
end
end Fy
namespace Fy
open PySem PySem.Spec PyProof.Rows L2
open GxR (TabG Tabbed inv_tab sh_eta)
/-- a generator at g that will give the values ys; behind it the table at P may have grown -/
def ReadyV (X : Cx) (pins : List (Addr × Obj)) (σ : L2.St) (H1 : Hp) (P : Addr) (R : List V → Hp → Prop) (g : Addr) (s5 : Shared) : Prop :=
  ∃ (ys : List V) (fp wr : List Addr) (G : Array GenState → Array GenState → Prop) (F : Nat → Value → Prop) (St : Nat → Shared → Prop),
    WalksS X.prog X.w X.A.in4 g fp wr G ys.length F St ∧ St 0 s5 ∧ (∀ b ∈ fp, b < s5.heap.objs.size) ∧ g ∈ fp ∧ (∀ i s, St i s → s.TypeIs (.ref g) "generator") ∧
    (∀ j y, F j y → ∃ x, ys[j]? = some x ∧ RelV x y) ∧ ∃ H2, Tabbed P H1 H2 ∧ R ys H2 ∧ ∀ s', Moved wr G s5 s' → Inv X pins σ H2 s'
/-- what the reading of a generator expression asks -/
def gRd (K : PySem.W.Frag) (P : Addr) (te : TE) (i : Nat) (tt : QB) (tel : QT) (R : List V → Hp → Prop) : L2.St → Hp → Prop := fun σ H =>
  te σ H fun v H1 => TabG H1 P ∧ ∃ items : List V, Src K H1 v items ∧ ∀ H2, Tabbed P H1 H2 → ∃ (p : V → Bool) (f : V → V),
    (∀ x ∈ items, tt (σ.set i (some x)) H2 (fun b => b = p x)) ∧ (∀ x ∈ items, p x = true → tel (σ.set i (some x)) H2 (fun q => q = .v (f x))) ∧ R ((items.filter p).map f) H2
theorem passing_ys {items : List V} {p : V → Bool} {f : V → V} {j i : Nat} (h : (passing (fun i => (items[i]?.map p).getD false) items.length 0)[j]? = some i) :
    ∃ x, items[i]? = some x ∧ p x = true ∧ ((items.filter p).map f)[j]? = some (f x) := by
  have e := PyProof.Rows.idx_map items p
  have hp : passing (fun i => (items[i]?.map p).getD false) items.length 0 = (List.range items.length).filter fun i => (items[i]?.map p).getD false := by simp [passing]
  rw [hp] at h
  have hm := List.mem_of_getElem? h
  obtain ⟨h1, h2⟩ := List.mem_filter.mp hm
  have hi : i < items.length := List.mem_range.mp h1
  have hx : items[i]? = some items[i] := by simp [hi]
  refine ⟨items[i], hx, by rw [hx] at h2; simpa using h2, ?_⟩
  have q := congrArg (fun l => l[j]?) e
  simp only [List.getElem?_map, h, Option.map_some] at q
  rw [hx] at q
  rw [List.getElem?_map]
  cases hq : (items.filter p)[j]? with
  | none => rw [hq] at q; cases q
  | some y =>
    rw [hq] at q
    have e3 : items[i] = y := Option.some.inj (Option.some.inj q)
    rw [e3] <;> rfl
theorem passing_len (items : List V) (p : V → Bool) (f : V → V) : (passing (fun i => (items[i]?.map p).getD false) items.length 0).length = ((items.filter p).map f).length := by
  have e := congrArg List.length (PyProof.Rows.idx_map items p)
  have hp : passing (fun i => (items[i]?.map p).getD false) items.length 0 = (List.range items.length).filter fun i => (items[i]?.map p).getD false := by simp [passing]
  rw [hp]
  simpa using e
section
variable {X : Cx} {pins : List (Addr × Obj)} {σ : L2.St} {H : Hp} {s : Shared}
theorem gen_make {c P : Addr} {elt iter : Expr} {x : Str} {px gpos : Pos} {ifs : List Expr} {scope : Scope} {te : TE} {i k : Nat} {tt : QB} {tel : QT} {Q' : Value → Shared → Prop} {R : List V → Hp → Prop}
    (hr : Room k X.A) (TB : LamX.TabB X.base X.mg c P) (hcode : X.env.code = .ref c) (hN : X.N.Nodup) (hi : X.N[i]? = some x) (L : GenSc X.N X.env.scope scope x) (hit : PE X iter te)
    (ht : ∀ (C : Addr) (code : Value) (bi : Addr), QTs X.prog X.w X.K (genEnv scope (cloFrom X.env.cells scope.names []) C code bi X.env) X.N ifs tt) (hel : ∀ (C : Addr) (code : Value) (bi : Addr), QE X.prog X.w X.K (genEnv scope (cloFrom X.env.cells scope.names []) C code bi X.env) X.N elt tel)
    (hs : ∀ v, genFold iter X.env v = pure v) (I : Inv X pins σ H s) (h : gRd X.K P te i tt tel R σ H)
    (hQ : ∀ g s5 H1, ReadyV X pins σ H1 P R g s5 → Q' (.ref g) s5) :
    wpAny (model X.prog X.w) X.A (eval (.GeneratorExp elt [⟨.Name x px, iter, ifs, 0⟩] scope gpos) X.env) Q' X.xe s := by
  refine wpAny_GeneratorExp_walksQD hr.hd L.co (closure_ok (L.has I.ok)) L.cell L.dot L.own L.kind (by have := hr.dp; omega) ?_ hs
  refine thn (hit.run pins s σ H _ I h) fun xv s1 ⟨v, H1, I1, r1, q1⟩ => ?_
  obtain ⟨⟨ps, hP, htr⟩, items, hsrc, hrest⟩ := q1
  refine src_iter I1 hsrc r1 fun o a0 F0 St0 ha0 hnt W hst hF0 => ?_
  have hPs : s1.heap.get? P = some { cls := .none, data := .fields ps } := I1.hok P _ hP
  have hPlt : P < s1.heap.objs.size := Heap.lt_size hPs
  have hP2 : (s1.heap.push o).get? P = some { cls := .none, data := .fields ps } := Heap.get?_push_of_some _ hPs
  have cd : PySem.W.CodeHd (s1.heap.push o) c P := TB.code.keeps fun b u e => Heap.get?_push_of_some _ (I1.bk b u e)
  have lim2 : (s1.heap.push o).NoLimit := I1.nolimit.push o
  have a0P : a0 ≠ P := fun z => by
    rw [z] at hnt
    exact hnt ps hP
  refine ⟨lim2, thn (Q := fun _ s3 => ∃ (h3 : Heap) (tk : Nat) (more : Array Value), s3 = { s1 with heap := h3, toks := tk } ∧ Heap.ExtBut P (s1.heap.push o) h3 ∧ (s1.heap.push o).objs.size ≤ h3.objs.size ∧ h3.get? P = some { cls := .none, data := .fields (ps ++ more) } ∧ TriplesOk (ps ++ more).toList) ?_ fun code s3 h3 => ?_⟩
  · -- the code object: made, or there
    cases hf : codeAmong gpos ps.toList with
    | some cv => exact wpAny_genexprCode_hit hcode (cd.code hP2 htr) hf ⟨_, s1.toks, #[], rfl, .refl _ _, Nat.le_refl _, by simpa using hP2, by simpa using htr⟩
    | none =>
      refine wpAny_genexprCodeX hcode (cd.code hP2 htr) (cd.tab hP2) hf fun c' h' tk hx hge hlt hco' _ htab' _ => ⟨h', tk, _, rfl, hx, Nat.le_trans hge (Nat.le_of_lt hlt), htab'.2, ?_⟩
      obtain ⟨_, _, _, _, _, _, _, _, _, _, _, _, _, _, _, _, _, _, _, z, _⟩ := hco'
      exact z
  obtain ⟨h3, tk, more, rfl, hx, hsz, hP3, ht3⟩ := h3
  obtain ⟨bm, ob, e1, e2, e3, e4, e5, e6, e7, e8⟩ := TB.bm
  have hcP : cStatics ≠ P := fun e => by
    obtain ⟨_, hns, _⟩ := I1.nolimit
    obtain ⟨o', es, ep, ho, hd, _⟩ := hns
    rw [e, hPs] at ho
    cases ho
    cases hd
  have hcl : cStatics < s1.heap.objs.size := let ⟨_, hns, _⟩ := I1.nolimit; hns.lt
  have sz2 : (s1.heap.push o).objs.size = s1.heap.objs.size + 1 := Heap.size_push ..
  have keep3 : ∀ b u, b ≠ P → s1.heap.get? b = some u → h3.get? b = some u := fun b u hb e => hx b u hb (Heap.get?_push_of_some _ e)
  -- the view of the def, behind the code object
  have J3 : Inv X pins σ (upd H1 P (.tbl (ps ++ more))) { s1 with heap := h3, gens := s1.gens, drawn := s1.drawn, toks := tk } := inv_tab (t' := tk) (g' := s1.gens) (d' := s1.drawn) I1 hP (fun b o hb e => keep3 b o hb e) hP3 I1.bare
  have hT2 : Tabbed P H1 (upd H1 P (.tbl (ps ++ more))) := ⟨⟨ps ++ more, upd_same, ht3⟩, fun b hb => upd_ne hb⟩
  obtain ⟨p, f, hp1, hp2, hR⟩ := hrest _ hT2
  refine wpAny_builtinsFor (m := X.mg) (by rw [I1.ok.glob]; exact ((I1.mod.glob.keeps I1.bk).push o).extBut hx TB.gP) e1 e2 (keep3 _ _ e4 (I1.bk _ _ e5)) e6 e7 e8 ?_
  have nitB : ∀ b o, X.base.get? b = some o → b ≠ s1.heap.objs.size := fun b o e => Nat.ne_of_lt (Heap.lt_size (I1.bk b o e))
  have ncell : ∀ z c, X.env.cells.lookup z = some c → c ≠ s1.heap.objs.size := fun z c e => by
    obtain ⟨v, q⟩ := I1.cell z c e
    exact Nat.ne_of_lt q.lt
  have hitN : upd H1 P (.tbl (ps ++ more)) s1.heap.objs.size = none := by
    rw [upd_ne (Nat.ne_of_gt hPlt)]
    exact I1.hok.fresh (Nat.le_refl _)
  have hun := hr.un
  refine ⟨s1.heap.objs.size, [s1.heap.objs.size, a0], [s1.heap.objs.size], items.length, F0, St0, (fun i => (items[i]?.map p).getD false), (fun i y => ∃ z, items[i]? = some z ∧ RelV (f z) y), rfl, W, ?_, ?_, lim2.extBut hx hcP, ?_, ?_, ?_⟩
  · refine (W X.A hr.hd).frame _ _ _ hst fun b hb u e => hx b u (fun z => ?_) e
    rcases List.mem_cons.mp hb with z2 | z2
    · exact Nat.ne_of_lt hPlt (z.symm.trans z2)
    · rcases List.mem_cons.mp z2 with z3 | z3
      · exact a0P (z3.symm.trans z)
      · cases z3
  · intro b hb
    rcases List.mem_cons.mp hb with z | z
    · rw [z]
      show s1.heap.objs.size < h3.objs.size
      omega
    · rcases List.mem_cons.mp z with z | z
      · rw [z]
        show a0 < h3.objs.size
        have h9 : a0 < s1.heap.objs.size := ha0
        have h8 : s1.heap.objs.size ≤ h3.objs.size := by omega
        exact Nat.lt_of_lt_of_le h9 h8
      · cases z
  · intro z
    rcases List.mem_cons.mp z with z | z
    · exact Nat.ne_of_lt hcl z
    · cases z
  · intro href hhref
    have kk : ∀ (s₂ : Shared), (∀ b ∈ List.range h3.objs.size, b ∉ [s1.heap.objs.size] → ∀ o, href.get? b = some o → s₂.heap.get? b = some o) → ∀ b o, b ≠ s1.heap.objs.size → h3.get? b = some o → s₂.heap.get? b = some o := fun s₂ hk b o hb e =>
      hk b (List.mem_range.mpr (Heap.lt_size e)) (by simpa using hb) o (hhref b o e)
    refine ⟨fun A' E' i' v' s₂ m₂ hA hD hU hPv hn hm hk => ?_, fun A' E' i' v' s₂ m₂ hA hD hU hPv hp hn hm hk => ?_⟩
    · obtain ⟨y, hy, ry⟩ := hF0 i' v' hPv
      have g := gv_of (code := code) (bi := builtinsNs) J3 hN hi L hm ry hn s1.heap.objs.size hitN nitB ncell (kk s₂ hk)
      have q := (ht h3.objs.size code builtinsNs).run A' E' s₂ _ _ _ hA (by have : A'.units ≤ X.A.units + 8 := hU; omega) g (hp1 y (List.mem_of_getElem? hy))
      refine thn q fun b s3 hb => ⟨?_, hb.1⟩
      rw [hb.2, hy] <;> rfl
    · obtain ⟨y, hy, ry⟩ := hF0 i' v' hPv
      have hpy : p y = true := by rw [hy] at hp; exact hp
      have g := gv_of (code := code) (bi := builtinsNs) J3 hN hi L hm ry hn s1.heap.objs.size hitN nitB ncell (kk s₂ hk)
      have q := (hel h3.objs.size code builtinsNs).run A' E' s₂ _ _ _ hA (by have : A'.units ≤ X.A.units + 8 := hU; omega) g (hp2 y (List.mem_of_getElem? hy) hpy)
      refine thn q fun z s3 hz => ?_
      obtain ⟨k3, q3, rq, eq⟩ := hz
      subst eq
      exact ⟨⟨y, hy, rq⟩, k3⟩
  · intro g h5 tk5 gs hgb hag hsz5 hk5 W5 hat
    rw [passing_len items p f] at W5
    refine hQ g _ H1 ⟨(items.filter p).map f, _, _, _, _, _, W5, hat, fun b hb => ?_, List.mem_cons_self, fun i s st => ?_, fun j y hy => ?_, _, hT2, hR, fun s' hm => ?_⟩
    · show b < h5.objs.size
      rcases List.mem_cons.mp hb with z | z
      · rw [z, hsz5]; exact Nat.lt_succ_self _
      · have hb2 : b ≤ h3.objs.size := by
          rcases List.mem_cons.mp z with z | z
          · exact Nat.le_of_eq z
          · exact Nat.le_of_lt (List.mem_range.mp z)
        have : h3.objs.size < g := hag
        have hb3 : (b : Nat) ≤ h3.objs.size := hb2
        have hg3 : (h3.objs.size : Nat) < g := hag
        rw [hsz5]
        exact Nat.lt_succ_of_lt (Nat.lt_of_le_of_lt hb3 hg3)
    · exact st.1.typeIs
    · obtain ⟨i', hij, z, hz, rz⟩ := hy
      obtain ⟨x', hx1, hx2, hx3⟩ := passing_ys (f := f) hij
      rw [hz] at hx1
      cases hx1
      exact ⟨_, hx3, rz⟩
    · have nwr : ∀ b u, s1.heap.get? b = some u → b ∉ h3.objs.size :: [s1.heap.objs.size] := fun b u e hb => by
        have hl := Heap.lt_size e
        rcases List.mem_cons.mp hb with z | z
        · rw [z] at hl
          have h9 : (h3.objs.size : Nat) < s1.heap.objs.size := hl
          omega
        · rcases List.mem_cons.mp z with z | z
          · rw [z] at hl
            exact Nat.lt_irrefl _ hl
          · cases z
      have J := inv_tab (more := more) (h' := s'.heap) (g' := s'.gens) (d' := s'.drawn) (t' := s'.toks) I1 hP (fun b u hb e => hm.heap b u (nwr b u e) (hk5 b u (keep3 b u hb e)))
        (hm.heap P _ (nwr P _ hPs) (hk5 P _ hP3)) (AllBare.movedS (I1.bare.push hgb) hm)
      rw [sh_eta s1 s' hm.os] at J
      exact J
end
end Fy
namespace Fy
open PySem PySem.Spec PyProof.Rows L2
open GxR (TabG Tabbed)
/-- a generator expression handed to a taker -/
def tGen (K : PySem.W.Frag) (P : Addr) (te : TE) (i : Nat) (tt : QB) (tel : QT) (cons : List V → Hp → VK → Prop) : TE := fun σ H Q => gRd K P te i tt tel (fun ys H2 => cons ys H2 Q) σ H
/-- a taker, by its rule -/
def Taker (X : Cx) (f : Value) (cons : List V → Hp → VK → Prop) : Prop :=
  ∀ (pins : List (Addr × Obj)) (σ : L2.St) (H1 : Hp) (P : Addr) (g : Addr) (s : Shared) (Q : VK), ReadyV X pins σ H1 P (fun ys H2 => cons ys H2 Q) g s → wpAny (model X.prog X.w) X.A (call f [.ref g]) (EP X pins σ Q) X.xe s
section
variable {X : Cx}
theorem pe_genB {id : String} {c P : Addr} {b x : Str} {elt iter : Expr} {px p pos gpos : Pos} {ifs : List Expr} {scope : Scope} {te : TE} {i k : Nat} {tt : QB} {tel : QT} {cons : List V → Hp → VK → Prop}
    (T : Taker X (.builtin id) cons) (hg : Gl X b) (hm : X.mg b = none) (hv : bootBuiltins b = some (.builtin id))
    (hr : Room k X.A) (TB : LamX.TabB X.base X.mg c P) (hcode : X.env.code = .ref c) (hN : X.N.Nodup) (hi : X.N[i]? = some x) (L : GenSc X.N X.env.scope scope x) (hit : PE X iter te)
    (ht : ∀ (C : Addr) (code : Value) (bi : Addr), QTs X.prog X.w X.K (genEnv scope (cloFrom X.env.cells scope.names []) C code bi X.env) X.N ifs tt) (hel : ∀ (C : Addr) (code : Value) (bi : Addr), QE X.prog X.w X.K (genEnv scope (cloFrom X.env.cells scope.names []) C code bi X.env) X.N elt tel)
    (hs : ∀ v, genFold iter X.env v = pure v) (hn : b ≠ "__name__" := by decide) (hdb : (b == ("__debug__" : Str)) = false := by decide)
    (he : starEach [.GeneratorExp elt [⟨.Name x px, iter, ifs, 0⟩] scope gpos] X.env = (false, eval (.GeneratorExp elt [⟨.Name x px, iter, ifs, 0⟩] scope gpos) X.env) :: starEach [] X.env := by rfl) :
    PE X (.Call (.Name b p) [.GeneratorExp elt [⟨.Name x px, iter, ifs, 0⟩] scope gpos] [] pos) (tGen X.K P te i tt tel cons) := by
  refine ⟨fun pins s σ H Q I h => ?_⟩
  refine wpAny_Call_Name_kw (ld_blt I hg hm hv ?_ hn hdb)
  refine PyProof.Rows.callWith_builtin1 ?_ he (by rfl)
  rw [he]
  show wpAny _ _ (spliced ((false, eval (.GeneratorExp elt [⟨.Name x px, iter, ifs, 0⟩] scope gpos) X.env) :: backTo pos (starEach [] X.env))) _ _ s
  refine Calls.spliced_cons (gen_make (R := fun ys H2 => cons ys H2 Q) hr TB hcode hN hi L hit ht hel hs I h fun g s5 H1 hR => ?_)
  refine Calls.spliced_nil ?_
  exact T pins σ H1 P g s5 Q hR
theorem pe_genT {T' : String} {c P : Addr} {b x : Str} {elt iter : Expr} {px p pos gpos : Pos} {ifs : List Expr} {scope : Scope} {te : TE} {i k : Nat} {tt : QB} {tel : QT} {cons : List V → Hp → VK → Prop}
    (T : Taker X (.type T') cons) (hg : Gl X b) (hm : X.mg b = none) (hv : bootBuiltins b = some (.type T'))
    (hr : Room k X.A) (TB : LamX.TabB X.base X.mg c P) (hcode : X.env.code = .ref c) (hN : X.N.Nodup) (hi : X.N[i]? = some x) (L : GenSc X.N X.env.scope scope x) (hit : PE X iter te)
    (ht : ∀ (C : Addr) (code : Value) (bi : Addr), QTs X.prog X.w X.K (genEnv scope (cloFrom X.env.cells scope.names []) C code bi X.env) X.N ifs tt) (hel : ∀ (C : Addr) (code : Value) (bi : Addr), QE X.prog X.w X.K (genEnv scope (cloFrom X.env.cells scope.names []) C code bi X.env) X.N elt tel)
    (hs : ∀ v, genFold iter X.env v = pure v) (hn : b ≠ "__name__" := by decide) (hdb : (b == ("__debug__" : Str)) = false := by decide)
    (he : starEach [.GeneratorExp elt [⟨.Name x px, iter, ifs, 0⟩] scope gpos] X.env = (false, eval (.GeneratorExp elt [⟨.Name x px, iter, ifs, 0⟩] scope gpos) X.env) :: starEach [] X.env := by rfl) :
    PE X (.Call (.Name b p) [.GeneratorExp elt [⟨.Name x px, iter, ifs, 0⟩] scope gpos] [] pos) (tGen X.K P te i tt tel cons) := by
  refine ⟨fun pins s σ H Q I h => ?_⟩
  refine wpAny_Call_Name_kw (ld_blt I hg hm hv ?_ hn hdb)
  refine PyProof.Rows.callWith_type1 ?_ he (by rfl)
  rw [he]
  show wpAny _ _ (spliced ((false, eval (.GeneratorExp elt [⟨.Name x px, iter, ifs, 0⟩] scope gpos) X.env) :: backTo pos (starEach [] X.env))) _ _ s
  refine Calls.spliced_cons (gen_make (R := fun ys H2 => cons ys H2 Q) hr TB hcode hN hi L hit ht hel hs I h fun g s5 H1 hR => ?_)
  refine Calls.spliced_nil ?_
  exact T pins σ H1 P g s5 Q hR
def cAny : List V → Hp → VK → Prop := fun ys H Q => ∃ bs : List Bool, ys = bs.map V.bl ∧ Q (.bl (bs.any id)) H
def cAll : List V → Hp → VK → Prop := fun ys H Q => ∃ bs : List Bool, ys = bs.map V.bl ∧ Q (.bl (bs.all id)) H
theorem bl_at {bs : List Bool} {j : Nat} {x : V} {u : Value} (e : (bs.map V.bl)[j]? = some x) (r : RelV x u) : ∃ b, bs[j]? = some b ∧ u = .bool b := by
  rw [List.getElem?_map] at e
  cases h : bs[j]? with
  | none => rw [h] at e; cases e
  | some b =>
    rw [h] at e
    have e2 : V.bl b = x := Option.some.inj e
    subst e2
    exact ⟨b, rfl, r⟩
theorem tk_any : Taker X (.builtin "any") cAny := by
  intro pins σ H1 P g s Q h
  obtain ⟨ys, fp, wr, G, F, St, W, hst, hfp, hgm, hty, hF, H2, hT, ⟨bs, rfl, q⟩, hI⟩ := h
  refine call_any_walkS (W.in4_1.self 0 _ _ _ hst ⟨g, fp, wr, G, _, F, St, fun j => (bs[j]?).getD false, rfl, W.in4_1, hst, ?_, fun s' hm => ?_⟩)
  · intro j y sj Qj Ej hy hQj
    obtain ⟨x, e, r⟩ := hF j y hy
    obtain ⟨b, e1, rfl⟩ := bl_at e r
    refine wpAny_truthy_bool ?_
    have hQ2 : Qj ((bs[j]?).getD false) sj := hQj
    rw [e1] at hQ2
    exact hQ2
  · refine ⟨.bl _, H2, hI s' hm, rfl, ?_⟩
    have e : (List.range (bs.map V.bl).length).any (fun j => (bs[j]?).getD false) = bs.any id := by
      rw [List.length_map]
      have := PyProof.Rows.any_rangeD bs id
      rw [← this]
      congr 1
    rw [e]
    exact q
theorem tk_all : Taker X (.builtin "all") cAll := by
  intro pins σ H1 P g s Q h
  obtain ⟨ys, fp, wr, G, F, St, W, hst, hfp, hgm, hty, hF, H2, hT, ⟨bs, rfl, q⟩, hI⟩ := h
  refine call_all_walkS (W.in4_1.self 0 _ _ _ hst ⟨g, fp, wr, G, _, F, St, fun j => (bs[j]?).getD true, rfl, W.in4_1, hst, ?_, fun s' hm => ?_⟩)
  · intro j y sj Qj Ej hy hQj
    obtain ⟨x, e, r⟩ := hF j y hy
    obtain ⟨b, e1, rfl⟩ := bl_at e r
    refine wpAny_truthy_bool ?_
    have hQ2 : Qj ((bs[j]?).getD true) sj := hQj
    rw [e1] at hQ2
    exact hQ2
  · refine ⟨.bl _, H2, hI s' hm, rfl, ?_⟩
    have e : (List.range (bs.map V.bl).length).all (fun j => (bs[j]?).getD true) = bs.all id := by
      rw [List.length_map]
      have := PyProof.Rows.all_rangeD bs id
      rw [← this]
      congr 1
    rw [e]
    exact q
def cSum : List V → Hp → VK → Prop := fun ys H Q => ∃ ns : List Int, ys = ns.map V.int ∧ Q (.int ns.sum) H
theorem int_at {ns : List Int} {j : Nat} {x : V} {u : Value} (e : (ns.map V.int)[j]? = some x) (r : RelV x u) : ∃ n, ns[j]? = some n ∧ ∃ t, u = .int n t := by
  rw [List.getElem?_map] at e
  cases h : ns[j]? with
  | none => rw [h] at e; cases e
  | some b =>
    rw [h] at e
    have e2 : V.int b = x := Option.some.inj e
    subst e2
    exact ⟨b, rfl, r⟩
theorem preSum_ints (ns : List Int) : ∀ k, k ≤ ns.length → preSum (fun j => (ns[j]?).getD 0) k = (ns.take k).sum := by
  intro k
  induction k with
  | zero => intro _; simp [preSum]
  | succ k ih =>
    intro h
    have hk : k < ns.length := h
    rw [List.take_succ_eq_append_getElem hk]
    simp only [preSum, List.sum_append, List.sum_cons, List.sum_nil]
    rw [ih (Nat.le_of_lt hk)]
    simp [hk]
theorem tk_sum : Taker X (.builtin "sum") cSum := by
  intro pins σ H1 P g s Q h
  obtain ⟨ys, fp, wr, G, F, St, W, hst, hfp, hgm, hty, hF, H2, hT, ⟨ns, rfl, q⟩, hI⟩ := h
  refine call_sum_walkAnyS (W.in4_1.self 0 _ _ _ hst ⟨g, fp, wr, G, _, F, St, fun j => (ns[j]?).getD 0, rfl, W.in4_1, hst, hfp, ?_, fun s' t' hm => ?_⟩)
  · intro j y hy
    obtain ⟨x, e, r⟩ := hF j y hy
    obtain ⟨n, e1, t, rfl⟩ := int_at e r
    exact ⟨t, by show Value.int n t = Value.int ((ns[j]?).getD 0) t; rw [e1] <;> rfl⟩
  · refine ⟨.int ns.sum, H2, hI s' hm, ⟨t', ?_⟩, q⟩
    rw [List.length_map, preSum_ints ns ns.length (Nat.le_refl _), List.take_length]
def cTup : List V → Hp → VK → Prop := fun ys H Q => ys.length ≤ sizeLine ∧ ∀ p, H p = none → Q (.ref p) (upd H p (.tup ys))
theorem vals_of_items : ∀ {ys : List V} {acc : List Value}, acc.length = ys.length → (∀ (j : Nat) (v : Value), acc[j]? = some v → ∃ x, ys[j]? = some x ∧ RelV x v) → Vals ys acc
  | [], [], _, _ => .nil
  | [], _ :: _, h, _ => by simp at h
  | _ :: _, [], h, _ => by simp at h
  | y :: ys, a :: acc, h, hv => by
    refine .cons ?_ (vals_of_items (by simpa using h) fun j v e => hv (j + 1) v (by simpa using e))
    obtain ⟨x, e, r⟩ := hv 0 a rfl
    have e2 : y = x := Option.some.inj e
    rw [e2]
    exact r
theorem items_vals {ys : List V} {F : Nat → Value → Prop} {acc : Array Value} (hF : ∀ j y, F j y → ∃ x, ys[j]? = some x ∧ RelV x y) (h : ItemsOf F acc ys.length) : Vals ys acc.toList :=
  vals_of_items (by simpa using h.1) fun j v e => hF j v (h.2 j v (by simpa using e))
theorem tk_tup : Taker X (.type "tuple") cTup := by
  intro pins σ H1 P g s Q h
  obtain ⟨ys, fp, wr, G, F, St, W, hst, hfp, hgm, hty, hF, H2, hT, ⟨hz, q⟩, hI⟩ := h
  refine call_tuple_gen (WalksS.of_in1 (A := X.A.in1.in1.in1) W) hty hst hfp hgm (fun s' acc hm ha => ?_) hz
  have I := hI s' hm
  have hf := I.hok.fresh (Nat.le_refl s'.heap.objs.size)
  have rv := items_vals hF ha
  refine ⟨.ref s'.heap.objs.size, _, I.laid (t' := s'.toks) (o := .tup ys) (fun b u e => Heap.get?_push_of_some _ e) (Nat.le_refl _) ⟨hz, acc.toList, rv, ?_⟩, rfl, q _ hf⟩
  have := IsTup.new s'.heap acc
  simpa using this
end
end Fy
namespace Fy
open PySem PySem.Spec PyProof.Rows L2 PySem.W
open GxR (TabG Tabbed)
section
variable {prog : Program} {w : World} {A : Around} {E : Value → Shared → Prop} {s : Shared} {β : Type} {enc : β → PyData} {R : Value → β → Prop}
theorem sorted_coll {x : Value} {Q : Value → Shared → Prop}
    (hc : wpAny (model prog w) A.in1 (collect x) (fun vs s1 => ∃ bs : List β, EachIs R vs bs ∧ EachIs (fun v b => ∃ as, Reads s1.heap v (enc b) as) vs bs ∧ AllAlike (bs.map enc) ∧ Sortable (bs.map enc) ∧ bs.length ≤ sizeLine ∧
      (∀ b, b ∈ bs → A.units + 2 + (enc b).depth < cLine) ∧ ∀ out, out.length = bs.length → EachIs R out (bs.mergeSort (dataLe false enc)) →
        Q (.ref s1.heap.objs.size) { s1 with heap := sortedHeap (s1.heap.push (seqObj "list" vs.toArray 0)) s1.heap.objs.size vs (List.toArray out) }) E s) :
    wpAny (model prog w) A (call (.builtin "sorted") [x]) Q E s := by
  refine call_function_entry_kw kind_sorted plain_sorted entry_sorted (args_sorted1 _) ?_
  unfold Builtin.«sorted»
  refine wpAny_bind (m := checkCount "sorted" 1 1 _) (wpAny_pure ?_)
  refine wpAny_bind (wpAny_mono hc (fun vs s1 h => ?_) fun _ _ e => e)
  obtain ⟨bs, e, er, hal, hk, hL, hu, h⟩ := h
  have hz : vs.length ≤ sizeLine := by rw [e.length]; exact hL
  refine wpAny_bind (wpAny_newList ?_ hz)
  have h0 : (s1.heap.push (seqObj "list" vs.toArray 0)).get? s1.heap.objs.size = some (seqObj "list" vs.toArray 0) := Heap.get?_push_size _ rfl
  have er' : EachIs (fun v b => ∃ as, Reads (sortingHeap (s1.heap.push (seqObj "list" vs.toArray 0)) s1.heap.objs.size vs) v (enc b) as) vs bs := er.mono fun _ _ ⟨as, r⟩ => ⟨as, PyProof.Rows.Reads.keeps (fun b o q => sortingHeap_old (Nat.ne_of_lt (Heap.lt_size q)) (Heap.get?_push_of_some _ q)) r⟩
  show wpAny _ _ _ _ _ { s1 with heap := s1.heap.push (seqObj "list" vs.toArray 0) }
  refine wpAny_bind (wpAny_holding (wpAny_call_entry_kw slot_list_sort ⟨_, h0, rfl⟩ entry_list_sort ?body (args_list_sort _)))
  case body =>
    show wpAny (model prog w) A.in1.in1 (Builtin.«list.sort» ⟨[.ref s1.heap.objs.size], []⟩) _ _ _
    refine list_sort_vals (s := { s1 with heap := s1.heap.push (seqObj "list" vs.toArray 0) }) h0 (SortsAt.data (s := { s1 with heap := sortingHeap (s1.heap.push (seqObj "list" vs.toArray 0)) s1.heap.objs.size vs }) (each_map (R := fun v d => ∃ as, Reads (sortingHeap (s1.heap.push (seqObj "list" vs.toArray 0)) s1.heap.objs.size vs) v d as) enc er') hal hk (bound_map hu)) hz ?_
    exact ⟨_, rfl, wpAny_pure ⟨_, rfl, h _ (by rw [sortVals_length false rfl]; exact e.length) (sortVals_data false e er' hal)⟩⟩
end
/-- ints, or texts -/
def encV : V → PyData
  | .int i => .int i
  | .str x => .str x
  | .bl b => .bool b
  | _ => .none
def isInt : V → Bool
  | .int _ => true
  | _ => false
def isStr : V → Bool
  | .str _ => true
  | _ => false
/-- all ints, or all texts -/
def Sortb (ys : List V) : Prop := (∀ y ∈ ys, isInt y = true) ∨ (∀ y ∈ ys, isStr y = true)
def leV : V → V → Bool := dataLe false encV
/-- the one sorted list -/
def sortV (ys : List V) : List V := ys.mergeSort leV
theorem vals_each : ∀ {xs : List V} {us : List Value}, Vals xs us → EachIs (fun u x => RelV x u) us xs
  | _, _, .nil => .nil
  | _, _, .cons r t => .cons r (vals_each t)
theorem each_vals : ∀ {us : List Value} {xs : List V}, EachIs (fun u x => RelV x u) us xs → Vals xs us
  | _, _, .nil => .nil
  | _, _, .cons r t => .cons r (each_vals t)
theorem vals_reads {h : Heap} : ∀ {xs : List V} {us : List Value}, Vals xs us → (∀ y ∈ xs, isInt y = true ∨ isStr y = true) → EachIs (fun u x => ∃ as, Reads h u (encV x) as) us xs
  | _, _, .nil, _ => .nil
  | _, _, .cons (a := x) r t, hp => by
    refine .cons ?_ (vals_reads t fun y hy => hp y (List.mem_cons_of_mem _ hy))
    rcases hp _ List.mem_cons_self with h | h
    · cases x with
      | int i => obtain ⟨t, rfl⟩ := r; exact ⟨[], .int i t⟩
      | _ => cases h
    · cases x with
      | str i => obtain ⟨t, rfl⟩ := r; exact ⟨[], .str i t⟩
      | _ => cases h
theorem Sortb.each {ys : List V} (h : Sortb ys) : ∀ y ∈ ys, isInt y = true ∨ isStr y = true := fun y hy => by
  rcases h with h | h
  · exact .inl (h y hy)
  · exact .inr (h y hy)
theorem Sortb.alike {ys : List V} (h : Sortb ys) : AllAlike (ys.map encV) := by
  intro d hd d' hd'
  obtain ⟨b, hb, rfl⟩ := List.mem_map.mp hd
  obtain ⟨b', hb', rfl⟩ := List.mem_map.mp hd'
  rcases h with h | h
  · have h1 := h b hb
    have h2 := h b' hb'
    cases b <;> cases h1
    cases b' <;> cases h2
    rfl
  · have h1 := h b hb
    have h2 := h b' hb'
    cases b <;> cases h1
    cases b' <;> cases h2
    rfl
theorem Sortb.sortable {ys : List V} (h : Sortb ys) : Sortable (ys.map encV) := .inr fun d hd => by
  obtain ⟨b, hb, rfl⟩ := List.mem_map.mp hd
  have e : encV b ≠ .none ∧ ∀ xs, encV b ≠ .tuple xs := by
    rcases h.each b hb with h1 | h1
    · cases b with
      | int i => exact ⟨fun z => (by cases z), fun xs z => (by cases z)⟩
      | _ => cases h1
    · cases b with
      | str i => exact ⟨fun z => (by cases z), fun xs z => (by cases z)⟩
      | _ => cases h1
  exact e
theorem Sortb.depth {ys : List V} (h : Sortb ys) : ∀ y ∈ ys, (encV y).depth = 0 := fun y hy => by
  rcases h.each y hy with h1 | h1
  · cases y <;> cases h1
    rfl
  · cases y <;> cases h1
    rfl
section
variable {X : Cx} {pins : List (Addr × Obj)} {σ : L2.St} {H : Hp} {s : Shared}
/-- behind the sort: the new list stands at the heap's end -/
theorem sorted_laid {zs : List V} {vs out : List Value} {Q : VK} (I : Inv X pins σ H s) (hz : zs.length ≤ sizeLine) (r : Vals zs out) (q : ∀ p, H p = none → Q (.ref p) (upd H p (.lst zs))) :
    EP X pins σ Q (.ref s.heap.objs.size) { s with heap := sortedHeap (s.heap.push (seqObj "list" vs.toArray 0)) s.heap.objs.size vs (List.toArray out) } := by
  have h0 : (s.heap.push (seqObj "list" vs.toArray 0)).get? s.heap.objs.size = some (seqObj "list" vs.toArray 0) := Heap.get?_push_size _ rfl
  obtain ⟨e, he⟩ := PyProof.Rows.sortedHeap_at (vs := vs) (out := List.toArray out) h0
  have k : ∀ b u, s.heap.get? b = some u → (sortedHeap (s.heap.push (seqObj "list" vs.toArray 0)) s.heap.objs.size vs (List.toArray out)).get? b = some u := fun b u q => by
    have hb := Heap.lt_size q
    rw [PyProof.Rows.sortedHeap_old (Nat.ne_of_lt hb) (by rw [size_push']; exact Nat.lt_succ_of_lt hb)]
    exact Heap.get?_push_of_some _ q
  refine ⟨.ref s.heap.objs.size, _, I.laid (t' := s.toks) (o := .lst zs) k (Nat.le_refl _) ⟨hz, out, e, r, ?_⟩, rfl, q _ (I.hok.fresh (Nat.le_refl _))⟩
  exact he
theorem len_sortV (ys : List V) : (sortV ys).length = ys.length := List.length_mergeSort ys
def cSort : List V → Hp → VK → Prop := fun ys H Q => Sortb ys ∧ ys.length ≤ sizeLine ∧ ∀ p, H p = none → Q (.ref p) (upd H p (.lst (sortV ys)))
theorem sort_fin {ys : List V} {vs : List Value} {Q : VK} {A : Around} (hu : A.units + 64 < cLine) (I : Inv X pins σ H s) (rv : Vals ys vs) (hs : Sortb ys) (hz : ys.length ≤ sizeLine) (q : ∀ p, H p = none → Q (.ref p) (upd H p (.lst (sortV ys)))) :
    ∃ bs : List V, EachIs (fun u x => RelV x u) vs bs ∧ EachIs (fun v b => ∃ as, Reads s.heap v (encV b) as) vs bs ∧ AllAlike (bs.map encV) ∧ Sortable (bs.map encV) ∧ bs.length ≤ sizeLine ∧
      (∀ b, b ∈ bs → A.units + 2 + (encV b).depth < cLine) ∧ ∀ out, out.length = bs.length → EachIs (fun u x => RelV x u) out (bs.mergeSort (dataLe false encV)) →
        EP X pins σ Q (.ref s.heap.objs.size) { s with heap := sortedHeap (s.heap.push (seqObj "list" vs.toArray 0)) s.heap.objs.size vs (List.toArray out) } := by
  refine ⟨ys, vals_each rv, vals_reads rv hs.each, hs.alike, hs.sortable, hz, fun b hb => by rw [hs.depth b hb]; omega, fun out hl r => ?_⟩
  exact sorted_laid (zs := sortV ys) I (by rw [len_sortV]; exact hz) (each_vals r) q
theorem tk_sort {k : Nat} (hr : Room k X.A) : Taker X (.builtin "sorted") cSort := by
  intro pins σ H1 P g s Q h
  obtain ⟨ys, fp, wr, G, F, St, W, hst, hfp, hgm, hty, hF, H2, hT, ⟨hs, hz, q⟩, hI⟩ := h
  refine sorted_coll (β := V) (enc := encV) (R := fun u x => RelV x u) (wpAny_collect_gen (A := X.A.in1) W.in4_2 hty hst hfp hgm (fun s' acc hm ha => ?_) hz)
  exact sort_fin hr.units (hI s' hm) (items_vals hF ha) hs hz q
/-- sorted(xs) of a list or a tuple -/
theorem cr_sortL {k : Nat} (hr : Room k X.A) : CallR X (.builtin "sorted") (fun xs H Q => ∃ a ys, xs = [.ref a] ∧ SqL X.K H a ys ∧ Sortb ys ∧ ∀ p, H p = none → Q (.ref p) (upd H p (.lst (sortV ys)))) := by
  intro pins s σ H xs us Q I r h
  obtain ⟨a, ys, rfl, hq, hs, q⟩ := h
  obtain ⟨u, rfl, ru⟩ := vals1 r
  obtain rfl : u = Value.ref a := ru
  obtain ⟨its, rv, pl, hz⟩ := I.list hq
  have hl := rv.length
  refine sorted_coll (β := V) (enc := encV) (R := fun u x => RelV x u) (PyProof.Rows.collect_list pl.isList ?_ (by omega))
  have I2 : Inv X pins σ H { s with heap := (s.heap.push (seqObj "list" #[] 0)).update s.heap.objs.size (Obj.mapSeq (· ++ its.toArray)) } := I.kept (t' := s.toks) fun b o e => by
    have hb : b ≠ s.heap.objs.size := Nat.ne_of_lt (Heap.lt_size e)
    rw [Heap.get?_update_ne _ _ _ _ hb]
    exact Heap.get?_push_of_some _ e
  exact sort_fin hr.units I2 rv hs hz q
/-- sorted(d) of a dict -/
theorem cr_sortD {k : Nat} (hr : Room k X.A) : CallR X (.builtin "sorted") (fun xs H Q => ∃ a kvs, xs = [.ref a] ∧ Rd H a (.dK kvs) ∧ Sortb (kvs.map fun p => kV p.1) ∧ ∀ p, H p = none → Q (.ref p) (upd H p (.lst (sortV (kvs.map fun p => kV p.1))))) := by
  intro pins s σ H xs us Q I r h
  obtain ⟨a, kvs, rfl, hd, hs, q⟩ := h
  obtain ⟨u, rfl, ru⟩ := vals1 r
  obtain rfl : u = Value.ref a := ru
  obtain ⟨z, lo, vs, rel, dd⟩ := dk_rd I.hok hd
  obtain ⟨ep, hat⟩ := dd.dictAt
  have hl := rel.length
  refine sorted_coll (β := V) (enc := encV) (R := fun u x => RelV x u) (PySem.W.kdu_collect (A := X.A.in1) (PySem.W.kdl_dict (knd := mixKind X.prog X.w) (kvs := vs) (ep := ep) lo) hr.hd hat (by omega) fun h' tk acc hk hacc => ?_)
  have rv : Vals (kvs.map fun p => kV p.1) acc.toList := vals_of_items (by rw [Array.length_toList, hacc.1, List.length_map, hl]) fun j v e => by
    obtain ⟨k, x, e1, e2⟩ := hacc.2 j v (by rw [← Array.getElem?_toList]; exact e)
    have ek : kvs.map (·.1) = vs.map (·.1) := rel.keys
    have e3 : (kvs.map (·.1))[j]? = some k := by rw [ek, List.getElem?_map, e1] <;> rfl
    refine ⟨kV k, ?_, relV_key e2⟩
    rw [List.getElem?_map] at e3 ⊢
    cases q : kvs[j]? with
    | none => rw [q] at e3; cases e3
    | some y =>
      rw [q] at e3
      have e4 : y.1 = k := Option.some.inj e3
      show some (kV y.1) = some (kV k)
      rw [e4]
  have I1 : Inv X pins σ H { s with heap := h', toks := tk } := I.kept hk
  exact sort_fin hr.units I1 rv hs (by rw [List.length_map]; exact z) q
end
def leS (a b : Str) : Bool := decide (a.cps.toList ≤ b.cps.toList)
def sortS (ns : List Str) : List Str := ns.mergeSort leS
def sortI (ns : List Int) : List Int := ns.mergeSort fun a b => decide (a ≤ b)
theorem sortV_str (ns : List Str) : sortV (ns.map V.str) = (sortS ns).map V.str := by
  refine (sort_maps (r := leS) (s := leV) V.str fun a _ b _ => ?_).symm
  exact (congrFun (congrFun (dataLe_str (fun x : Str => x)) a) b).symm
theorem sortV_int (ns : List Int) : sortV (ns.map V.int) = (sortI ns).map V.int := by
  refine (sort_maps (r := fun a b => decide (a ≤ b)) (s := leV) V.int fun a _ b _ => ?_).symm
  exact (congrFun (congrFun (dataLe_int (fun x : Int => x)) a) b).symm
theorem sortb_str (ns : List Str) : Sortb (ns.map V.str) := .inr fun y hy => by
  obtain ⟨x, _, rfl⟩ := List.mem_map.mp hy
  rfl
theorem sortb_int (ns : List Int) : Sortb (ns.map V.int) := .inl fun y hy => by
  obtain ⟨x, _, rfl⟩ := List.mem_map.mp hy
  rfl
theorem mem_sortS {ns : List Str} {n : Str} : n ∈ sortS ns ↔ n ∈ ns := List.mem_mergeSort
theorem len_sortS (ns : List Str) : (sortS ns).length = ns.length := List.length_mergeSort ns
end Fy
namespace Fy
open PySem PySem.Spec PyProof.Rows L2
open GxR (TabG Tabbed)
abbrev Ad := Addr → Prop
/-- the code objects' tables are as they should be -/
structure Tb (TL : List (Addr × Str)) (TG : List Addr) (H : Hp) : Prop where
  lam : LamX.Tabs TL H
  gen : ∀ P ∈ TG, TabG H P
def NoT (o : HO) : Prop := ∀ ps, o ≠ .tbl ps
/-- from H to H': what is tracked stays, but for S and the tables -/
structure Go (TL : List (Addr × Str)) (TG : List Addr) (S : Ad) (H H' : Hp) : Prop where
  keep : ∀ b o, H b = some o → NoT o → ¬ S b → H' b = some o
  tb : Tb TL TG H → Tb TL TG H'
  free : ∀ p, H' p = none → H p = none
section
variable {TL : List (Addr × Str)} {TG : List Addr} {S S' : Ad} {H H1 H2 : Hp} {p P : Addr} {o o' : HO}
theorem Go.refl : Go TL TG S H H := ⟨fun _ _ h _ _ => h, id, fun _ h => h⟩
theorem Go.mono (g : Go TL TG S H H1) (h : ∀ b, S b → S' b) : Go TL TG S' H H1 := ⟨fun b o e n s => g.keep b o e n fun z => s (h b z), g.tb, g.free⟩
theorem Go.trans (a : Go TL TG S H H1) (b : Go TL TG S H1 H2) : Go TL TG S H H2 := ⟨fun c o e n s => b.keep c o (a.keep c o e n s) n s, fun t => b.tb (a.tb t), fun p h => a.free p (b.free p h)⟩
theorem Go.ext (e : ∀ b o, H b = some o → H1 b = some o) (f : ∀ p, H1 p = none → H p = none) : Go TL TG S H H1 :=
  ⟨fun b o h _ _ => e b o h, fun t => ⟨t.lam.ext e, fun P hP => by obtain ⟨ps, h1, h2⟩ := t.gen P hP; exact ⟨ps, e _ _ h1, h2⟩⟩, f⟩
theorem Go.new (hp : H p = none) : Go TL TG S H (upd H p o) := Go.ext (fun b o e => by rw [upd_ne (ne_of_none e hp)]; exact e) fun q h => by
  by_cases e : q = p
  · subst e; exact hp
  · rw [upd_ne e] at h; exact h
theorem noT_ext {φ : Heap → Prop} : NoT (.ext φ) := fun ps z => by cases z
/-- an object of a kind that may be written -/
def Plain (o : HO) : Prop := NoT o ∧ ∀ φ, o ≠ .ext φ
theorem plain_lst {xs : List V} : Plain (.lst xs) := ⟨fun _ z => (by cases z), fun _ z => (by cases z)⟩
theorem plain_dK {xs : List (Key × V)} : Plain (.dK xs) := ⟨fun _ z => (by cases z), fun _ z => (by cases z)⟩
theorem plain_dT {xs : List (List Key × V)} : Plain (.dT xs) := ⟨fun _ z => (by cases z), fun _ z => (by cases z)⟩
theorem plain_ins {C dx : Addr} {fs : List (Str × V)} : Plain (.ins C dx fs) := ⟨fun _ z => (by cases z), fun _ z => (by cases z)⟩
theorem Tb.set (t : Tb TL TG H) (hp : H p = some o') (pl : Plain o') : Tb TL TG (upd H p o) := by
  have nt : ∀ {P ps}, H P = some (HO.tbl ps) → P ≠ p := fun {P ps} e z => by
    rw [z, hp] at e
    exact pl.1 ps (Option.some.inj e)
  refine ⟨fun q hq => ?_, fun P hP => ?_⟩
  · obtain ⟨ps, h1, h2, h3⟩ := t.lam q hq
    refine ⟨ps, by rw [upd_ne (nt h1)]; exact h1, h2, fun pos cv hc => ?_⟩
    obtain ⟨c, e1, e2⟩ := h3 pos cv hc
    refine ⟨c, e1, ?_⟩
    have : c ≠ p := fun z => by
      rw [z, hp] at e2
      exact pl.2 _ (Option.some.inj e2)
    rw [upd_ne this]
    exact e2
  · obtain ⟨ps, h1, h2⟩ := t.gen P hP
    exact ⟨ps, by rw [upd_ne (nt h1)]; exact h1, h2⟩
theorem Go.set (hp : H p = some o') (pl : Plain o') (hs : S p) : Go TL TG S H (upd H p o) := ⟨fun b u e n s => by
    rw [upd_ne (fun z => s (by rw [z]; exact hs))]
    exact e, fun t => t.set hp pl, fun q h => by
    by_cases e : q = p
    · subst e; rw [upd_same] at h; cases h
    · rw [upd_ne e] at h; exact h⟩
/-- a generator's table has grown -/
theorem Go.tab (hT : Tabbed P H H1) (hg : TabG H P) (hP : P ∈ TG) (hd : ∀ q ∈ TL, q.1 ≠ P) : Go TL TG S H H1 := by
  obtain ⟨ps0, e0, _⟩ := hg
  have ne : ∀ {b o}, H b = some o → NoT o → b ≠ P := fun {b o} e n z => by
    rw [z, e0] at e
    exact n ps0 (Option.some.inj e).symm
  refine ⟨fun b o e n _ => by rw [hT.2 b (ne e n)]; exact e, fun t => ⟨fun q hq => ?_, fun Q hQ => ?_⟩, fun q h => ?_⟩
  · obtain ⟨ps, h1, h2, h3⟩ := t.lam q hq
    refine ⟨ps, by rw [hT.2 _ (hd q hq)]; exact h1, h2, fun pos cv hc => ?_⟩
    obtain ⟨c, e1, e2⟩ := h3 pos cv hc
    exact ⟨c, e1, by rw [hT.2 c (ne e2 (by unfold LamX.CodeO; exact noT_ext))]; exact e2⟩
  · by_cases e : Q = P
    · subst e; exact hT.1
    · obtain ⟨ps, h1, h2⟩ := t.gen Q hQ
      exact ⟨ps, by rw [hT.2 Q e]; exact h1, h2⟩
  · by_cases e : q = P
    · obtain ⟨ps, h1, _⟩ := hT.1
      rw [e, h1] at h
      cases h
    · rw [← hT.2 q e]; exact h
theorem Go.get (g : Go TL TG S H H1) (e : H p = some o) (n : NoT o := by intro _ z; cases z) (s : ¬ S p := by first | assumption | exact id) : H1 p = some o := g.keep p o e n s
theorem upd_none {q : Addr} : upd H p o q = none ↔ q ≠ p ∧ H q = none := by
  by_cases e : q = p
  · subst e
    rw [upd_same]
    exact ⟨fun h => (by cases h), fun h => absurd rfl h.1⟩
  · rw [upd_ne e]
    exact ⟨fun h => ⟨e, h⟩, fun h => h.2⟩
end
structure Good (P : Program) (w : World) (K : PySem.W.Frag) (mg : Str → Option Value) (base : Heap) (k : Nat) (f : Addr) (ps : List Str) (ds : List V) (sp : Sp) : Prop where
  ex : ∃ (fd : FuncData) (dvs : List Value), FnOk P w K mg base (L2.CX P w) k f fd ps sp ∧ Binds K fd ps dvs ∧ Vals ds dvs
  kp : PySem.W.keepIn K (.ref f) = true
section
variable {P : Program} {w : World} {K : PySem.W.Frag} {mg : Str → Option Value} {base : Heap} {k j : Nat} {f : Addr} {ps N : List Str} {ds : List V} {sp sp' : Sp}
theorem Good.mono (G : Good P w K mg base j f ps ds sp) (h : j ≤ k) : Good P w K mg base k f ps ds sp := by
  obtain ⟨⟨fd, dvs, F, b, v⟩, kp⟩ := G
  exact ⟨⟨fd, dvs, F.mono h, b, v⟩, kp⟩
theorem Good.imp (G : Good P w K mg base k f ps ds sp) (h : ∀ vs H Q E, sp' vs H Q E → sp vs H Q E) : Good P w K mg base k f ps ds sp' := by
  obtain ⟨⟨fd, dvs, F, b, v⟩, kp⟩ := G
  exact ⟨⟨fd, dvs, F.imp h, b, v⟩, kp⟩
/-- the context of a def's body -/
abbrev bodyX (P : Program) (w : World) (K : PySem.W.Frag) (mg : Str → Option Value) (base : Heap) (N : List Str) (d : He.DefD) (A : Around) (outer : List Env) (s : Shared) (H : Hp) (E : XK) : Cx :=
  cxOf (L2.CX P w) P w K mg base N d.qual d.scope (He.fAd K d.at_) (.ref (He.codeOf K d.at_)) A outer s H E
/-- THE RULE of a def: its body as a term, and the term's reading -/
theorem good_of {d : He.DefD} (F : ∃ fd, FunD K d.name d.qual d.params d.body d.scope (d.dvs K) (d.kws K) (He.fAd K d.at_) fd) (S : FnScope N ps d.scope)
    (hb : ∀ fd, FunD K d.name d.qual d.params d.body d.scope (d.dvs K) (d.kws K) (He.fAd K d.at_) fd → ∃ dvs, Vals ds dvs ∧ Binds K fd ps dvs)
    (len : ∀ vs H Q E, sp vs H Q E → vs.length = ps.length)
    (hbody : ∀ (A : Around) (outer : List Env) (s : Shared) (H : Hp) (vs : List V) (Q : VK) (E : XK), Room k (A.deeper (envOfC d.qual d.scope s.heap.objs.size (He.fAd K d.at_) (.ref (He.codeOf K d.at_)))) → sp vs H Q E →
      ∃ t, PSs (bodyX P w K mg base N d A outer s H E) d.body t ∧ t { nx := fun _ H' => Q .non H', rt := Q } (L2.start N vs) H) : Good P w K mg base (k + 1) (He.fAd K d.at_) ps ds sp := by
  obtain ⟨fd, D⟩ := F
  obtain ⟨dvs, rv, hbi⟩ := hb fd D
  refine ⟨⟨fd, dvs, ?_, hbi, rv⟩, D.kp⟩
  obtain ⟨oc, od, dV, kV, doc, pm, an, cdv, ct, osl, rfl, lk, hcd, _, _⟩ := D.ex
  obtain ⟨c, rfl⟩ := He.codeIn_ref hcd
  have ec : He.codeOf K d.at_ = c := He.codeOf_eq lk rfl
  refine fn_of lk hcd S len fun A outer s H vs Q E hr hsp => ?_
  have q := hbody A outer s H vs Q E (by rw [ec]; exact hr) hsp
  unfold bodyX at q
  rw [ec] at q
  exact q
/-- .. of no defaults -/
theorem good_of0 {d : He.DefD} (F : ∃ fd, FunD K d.name d.qual d.params d.body d.scope (d.dvs K) (d.kws K) (He.fAd K d.at_) fd) (S : FnScope N ps d.scope) (hd : d.dfl = [] := by rfl) (hk : d.kwd = [] := by rfl)
    (hb : ∀ (kV doc pm : Value) (an : Option Addr) (cdv ct : Value) (us : List Value), us.length = ps.length → bindArgs (PySem.W.fnOf d.name d.qual d.params d.body d.scope .none kV doc pm an cdv ct) ⟨us, []⟩ = pure (ps.zip us))
    (len : ∀ vs H Q E, sp vs H Q E → vs.length = ps.length)
    (hbody : ∀ (A : Around) (outer : List Env) (s : Shared) (H : Hp) (vs : List V) (Q : VK) (E : XK), Room k (A.deeper (envOfC d.qual d.scope s.heap.objs.size (He.fAd K d.at_) (.ref (He.codeOf K d.at_)))) → sp vs H Q E →
      ∃ t, PSs (bodyX P w K mg base N d A outer s H E) d.body t ∧ t { nx := fun _ H' => Q .non H', rt := Q } (L2.start N vs) H) : Good P w K mg base (k + 1) (He.fAd K d.at_) ps [] sp := by
  refine good_of F S (fun fd D => ⟨[], .nil, ?_⟩) len hbody
  unfold He.DefD.dvs He.DefD.kws at D
  rw [hd, hk] at D
  exact D.bindsN hb
end
section
variable {X : Cx} {k : Nat} {f C : Addr} {ps : List Str} {sp : Sp} {ds : List V} {E : XK} {x m : Str} {p pos apos : Pos} {e o : Expr} {es : List Expr} {ta : TE} {t : TA}
/-- what a def's body lets out goes on -/
theorem px {P : Program} {w : World} {K : PySem.W.Frag} {mg : Str → Option Value} {base : Heap} {N : List Str} {q : Str} {sc : Scope} {f : Addr} {cd : Value} {A : Around} {outer : List Env} {s : Shared} {H : Hp} {E : XK} :
    Passes (L2.CX P w) (cxOf (L2.CX P w) P w K mg base N q sc f cd A outer s H E) E :=
  passes_call (X := cxOf (L2.CX P w) P w K mg base N q sc f cd A outer s H E) (W := fun cls d σ H => E cls d H) (takes_of rfl rfl rfl rfl) fun _ _ _ _ h => h
theorem tkx {P : Program} {w : World} {K : PySem.W.Frag} {mg : Str → Option Value} {base : Heap} {N : List Str} {q : Str} {sc : Scope} {f : Addr} {cd : Value} {A : Around} {outer : List Env} {s : Shared} {H : Hp} {E : XK} :
    Takes (cxOf (L2.CX P w) P w K mg base N q sc f cd A outer s H E) (fun cls d _ H => E cls d H) := takes_of rfl rfl rfl rfl
/-- f(e, ..) -/
theorem pg_call (G : Good X.prog X.w X.K X.mg X.base k f ps ds sp) (hr : Room k X.A) (hg : Gl X x) (hm : X.mg x = some (.ref f)) (hx : Passes (L2.CX X.prog X.w) X E) (ha : PA X (e :: es) t) (hdb : (x == ("__debug__" : Str)) = false := by decide)
    (he : starEach (e :: es) X.env = (false, eval e X.env) :: starEach es X.env := by rfl) (hpl : (backTo pos (starEach es X.env)).any (·.1) = false := by rfl) : PE X (.Call (.Name x p) (e :: es) [] pos) (tCall sp ds E t) := by
  obtain ⟨⟨fd, dvs, F, b, v⟩, kp⟩ := G
  exact pe_call F hr hg hm kp b v hx ha hdb he hpl
theorem pg_call0 (G : Good X.prog X.w X.K X.mg X.base k f ps ds sp) (hr : Room k X.A) (hg : Gl X x) (hm : X.mg x = some (.ref f)) (hx : Passes (L2.CX X.prog X.w) X E) (hdb : (x == ("__debug__" : Str)) = false := by decide) : PE X (.Call (.Name x p) [] [] pos) (tCall sp ds E tNil) := by
  obtain ⟨⟨fd, dvs, F, b, v⟩, kp⟩ := G
  exact pe_call0 F hr hg hm kp b v hx hdb
/-- o.m(e, ..) -/
theorem pg_meth {pl : Sem Bool} (G : Good X.prog X.w X.K X.mg X.base k f ps ds sp) (hr : Room k X.A) (c : Cls X.K C) (hm : Meth X.K C m f) (hx : Passes (L2.CX X.prog X.w) X E) (he : PE X o ta) (ha : PA X (e :: es) t)
    (hst : starEach (e :: es) X.env = (false, eval e X.env) :: starEach es X.env := by rfl) (hpl : (backTo pos (starEach es X.env)).any (·.1) = false := by rfl)
    (ht : eval (.Call (.Attribute o m apos) (e :: es) [] pos) X.env = (do
      let ov ← eval o X.env
      standAt apos.atName
      let (f, first) ← holding [ov] (getMethod ov m pl)
      callWith pos f first (backTo pos (starEach (e :: es) X.env)) (backToKw pos (keywordEach [] X.env))) := by rfl) :
    PE X (.Call (.Attribute o m apos) (e :: es) [] pos) (tMeth C m sp ds E ta t) := by
  obtain ⟨⟨fd, dvs, F, b, v⟩, kp⟩ := G
  exact pe_meth he c hm F hr b v hx ha hst hpl ht
theorem pg_meth0 {pl : Sem Bool} (G : Good X.prog X.w X.K X.mg X.base k f ps ds sp) (hr : Room k X.A) (c : Cls X.K C) (hm : Meth X.K C m f) (hx : Passes (L2.CX X.prog X.w) X E) (he : PE X o ta)
    (ht : eval (.Call (.Attribute o m apos) [] [] pos) X.env = (do
      let ov ← eval o X.env
      standAt apos.atName
      let (f, first) ← holding [ov] (getMethod ov m pl)
      callWith pos f first (backTo pos (starEach [] X.env)) (backToKw pos (keywordEach [] X.env))) := by rfl) :
    PE X (.Call (.Attribute o m apos) [] [] pos) (tMeth C m sp ds E ta tNil) := by
  obtain ⟨⟨fd, dvs, F, b, v⟩, kp⟩ := G
  exact pe_meth0 he c hm F hr b v hx ht
/-- C(e, ..), C() -/
theorem pg_make (M : Mk X.K C f) (G : Good X.prog X.w X.K X.mg X.base k f ps ds sp) (hr : Room (k + 1) X.A) (hg : Gl X x) (hm : X.mg x = some (.ref C)) (hx : Passes (L2.CX X.prog X.w) X E) (ha : PA X (e :: es) t) (hdb : (x == ("__debug__" : Str)) = false := by decide)
    (he : starEach (e :: es) X.env = (false, eval e X.env) :: starEach es X.env := by rfl) (hpl : (backTo pos (starEach es X.env)).any (·.1) = false := by rfl) : PE X (.Call (.Name x p) (e :: es) [] pos) (tMake C sp ds E t) := by
  obtain ⟨⟨fd, dvs, F, b, v⟩, kp⟩ := G
  exact pe_make M F hr hg hm b v hx ha hdb he hpl
theorem pg_make0 (M : Mk X.K C f) (G : Good X.prog X.w X.K X.mg X.base k f ps ds sp) (hr : Room (k + 1) X.A) (hg : Gl X x) (hm : X.mg x = some (.ref C)) (hx : Passes (L2.CX X.prog X.w) X E) (hdb : (x == ("__debug__" : Str)) = false := by decide) :
    PE X (.Call (.Name x p) [] [] pos) (tMake C sp ds E tNil) := by
  obtain ⟨⟨fd, dvs, F, b, v⟩, kp⟩ := G
  exact pe_make0 M F hr hg hm b v hx hdb
end
end Fy
namespace Fy
open PySem PySem.Spec PyProof.Rows L2
/-- an own exception class over ValueError without __init__ -/
structure ExcF (K : PySem.W.Frag) (C : Addr) : Prop where
  ex : PySem.W.excIn K C He.veBase "ValueError.__new__" = true
  kp : PySem.W.keepIn K (.ref C) = true
  sb : PySem.W.subIn K (.ref C) (.type "BaseException") = some true
  ty : PySem.W.typeIn K (.ref C) = some (.type "type")
theorem ExcF.of {K : PySem.W.Frag} {C : Addr} (h : PySem.W.excIn K C He.veBase "ValueError.__new__" = true ∧ PySem.W.keepIn K (.ref C) = true ∧ PySem.W.subIn K (.ref C) (.type "BaseException") = some true ∧ PySem.W.typeIn K (.ref C) = some (.type "type")) : ExcF K C := ⟨h.1, h.2.1, h.2.2.1, h.2.2.2⟩
/-- raise C('..') -/
theorem ps_raiseC {X : Cx} {W : WX} {C : Addr} {x m : Str} {j : Nat} {p p2 pos rpos : Pos} (hc : X.calm = true) (tk : Takes X W) (F : ExcF X.K C) (gC : X.mg x = some (.ref C)) (hg : Gl X x) (hdb : (x == ("__debug__" : Str)) = false := by decide) :
    PS X (.Raise (some (.Call (.Name x p) [.Constant (.str m) j p2] [] pos)) none rpos) (fun _ σ H => W (.ref C) none σ H) :=
  ps_raise hc tk (pmk_own PySem.F.excBase_ValueError F.ex gC F.kp (raises_own F.sb F.ty) hg hdb)
theorem nodup_apart {α β : Type} {f : α → β} {A B : List α} (h : ((A ++ B).map f).Nodup) : ∀ a ∈ A, ∀ b ∈ B, f a ≠ f b := by
  rw [List.map_append, List.nodup_append] at h
  intro a ha b hb
  exact h.2.2 _ (List.mem_map.mpr ⟨a, ha, rfl⟩) _ (List.mem_map.mpr ⟨b, hb, rfl⟩)
end Fy
namespace Fy
open PySem PySem.Spec PyProof.Rows L2
def iSeq (K : PySem.W.Frag) (tl : TE) : TI := fun σ H R => tl σ H fun x H1 => ∃ a, x = .ref a ∧ (((∃ xs, SqL K H1 a xs) ∧ R (Itl K a) H1) ∨ ((∃ xs, SqT K H1 a xs) ∧ R (Itt K a) H1))
section
variable {X : Cx} {tg : Expr}
theorem pi_seq {l : Expr} {tl : TE} (hl : PE X l tl) : PI X tg l (iSeq X.K tl) := by
  refine ⟨fun pins s σ H R I h => ?_⟩
  refine thn (hl.run pins s σ H _ I h) fun v s1 ⟨x, H1, I1, r1, q1⟩ => ?_
  obtain ⟨a, e, q1⟩ := q1
  subst e
  cases r1
  rcases q1 with ⟨⟨xs, hq⟩, q⟩ | ⟨⟨xs, hq⟩, q⟩
  · obtain ⟨its, rv, p, hz⟩ := I1.list hq
    refine wpAny_pyIter_list p.isList ?_
    refine ⟨s1.heap.objs.size, [s1.heap.objs.size], _, _, H1, rfl, I1.kept (t' := s1.toks) fun b o e => Heap.get?_push_of_some _ e, turn_list a _, ⟨_, Heap.get?_push_size _ rfl, rfl, rfl⟩, fun b hb => ?_, q⟩
    have e : b = s1.heap.objs.size := by simpa using hb
    subst e
    exact I1.fpOk (Nat.le_refl _) (I1.hok.fresh (Nat.le_refl _))
  · obtain ⟨its, rv, p, hz⟩ := I1.tuple hq
    refine wpAny_pyIter_tuple (show s1.heap.IsTuple a its.toArray from p) ?_
    refine ⟨s1.heap.objs.size, [s1.heap.objs.size], _, _, H1, rfl, I1.kept (t' := s1.toks) fun b o e => Heap.get?_push_of_some _ e, turn_tuple a _, ⟨_, Heap.get?_push_size _ rfl, rfl, rfl⟩, fun b hb => ?_, q⟩
    have e : b = s1.heap.objs.size := by simpa using hb
    subst e
    exact I1.fpOk (Nat.le_refl _) (I1.hok.fresh (Nat.le_refl _))
end
/-- an empty tuple stands at a -/
def etB (K : PySem.W.Frag) (a : Addr) : Bool := match K.lookup a with
  | some ⟨.type c, _, .seq its _, _⟩ => decide (c = "tuple") && its.isEmpty
  | _ => false
theorem etB_ok {K : PySem.W.Frag} {a : Addr} (h : etB K a = true) (H : Hp) : SqT K H a [] := by
  unfold etB at h
  cases q : K.lookup a with
  | none => rw [q] at h; cases h
  | some o =>
    obtain ⟨oc, od, dt, osl⟩ := o
    rw [q] at h
    cases oc with
    | type c =>
      cases dt with
      | seq its n =>
        obtain ⟨h1, h2⟩ := Bool.and_eq_true_iff.mp h
        refine .inr ⟨_, its, n, q, by rw [of_decide_eq_true h1], rfl, by rw [Array.isEmpty_iff.mp h2]; decide, ?_⟩
        rw [Array.isEmpty_iff.mp h2]
        exact .nil
      | _ => cases h
    | _ => cases h
/-- a for loop as a fold -/
theorem for_fold {α β : Type} {J : It} {G : Hp → Prop} {g : TG} {tb : TS} {D : Ends} {σ : L2.St} {H : Hp} (v : β → V) (ys : List β) {n : Nat} (hn : n = ys.length) (w : Walk J n G (YAt (ys.map v))) (f : α → β → α) (a0 : α) (Rp : α → L2.St → Hp → Prop) (h0 : Rp a0 σ H) (hG : ∀ a σ H, Rp a σ H → G H)
    (hs : ∀ pre y post σ H, ys = pre ++ y :: post → Rp (pre.foldl f a0) σ H → g (v y) σ H fun σ2 H2 => tb { D with nx := Rp (f (pre.foldl f a0) y), ct := Rp (f (pre.foldl f a0) y), bk := D.nx } σ2 H2) (hd : ∀ σ H, Rp (ys.foldl f a0) σ H → D.nx σ H) :
    ∃ W : Nat → Nat → L2.St → Hp → Prop, (∃ m, W 0 m σ H) ∧ ∀ i m σ H, W i m σ H →
      (J.stop i H ∧ D.nx σ H) ∨ (J.go i H ∧ ∃ N : L2.St → Hp → Prop, (∀ σ' H', N σ' H' → ∃ m', m' < m ∧ W (i + 1) m' σ' H') ∧ ∀ x H', J.yld i H x H' → g x σ H' fun σ2 H2 => tb { D with nx := N, ct := N, bk := D.nx } σ2 H2) := by
  subst hn
  refine for_it w (fun i => Rp ((ys.take i).foldl f a0)) h0 (fun i σ H _ h => hG _ σ H h) (fun i x σ H H' hi h y => ?_) fun σ H h => hd σ H (by rw [List.take_length] at h; exact h)
  obtain ⟨rfl, e⟩ := y
  rw [List.getElem?_map] at e
  obtain ⟨y, e1, rfl⟩ := Option.map_eq_some_iff.mp e
  have e2 : ys = ys.take i ++ y :: ys.drop (i + 1) := by
    obtain ⟨h1, h2⟩ := List.getElem?_eq_some_iff.mp e1
    rw [← h2, ← List.drop_eq_getElem_cons h1, List.take_append_drop]
  have q := hs (ys.take i) y (ys.drop (i + 1)) σ H' e2 h
  have e3 : (ys.take (i + 1)).foldl f a0 = f ((ys.take i).foldl f a0) y := by
    rw [List.take_add_one, e1, List.foldl_append] <;> rfl
  show g (v y) σ H' fun σ2 H2 => tb { D with nx := Rp ((ys.take (i + 1)).foldl f a0), ct := Rp ((ys.take (i + 1)).foldl f a0), bk := D.nx } σ2 H2
  rw [e3]
  exact q
theorem walk_keysV {d : Addr} {o : Obj} {kvs : List (Key × V)} : Walk (Itk d o kvs) kvs.length (fun H => H d = some (.frz o (.dK kvs))) (YAt (kvs.map fun p => kV p.1)) :=
  walk_keys.mono (fun _ h => h) fun i H x H' _ _ y => by
    obtain ⟨e, k, v, e1, rfl⟩ := y
    exact ⟨e, by rw [List.getElem?_map, e1] <;> rfl⟩
theorem walk_itl {K : PySem.W.Frag} {a : Addr} {β : Type} {v : β → V} {ys : List β} : Walk (Itl K a) ys.length (fun H => SqL K H a (ys.map v)) (YAt (ys.map v)) := by
  have := walk_list (K := K) (a := a) (xs := ys.map v)
  rw [List.length_map] at this
  exact this
theorem walk_itt {K : PySem.W.Frag} {a : Addr} {β : Type} {v : β → V} {ys : List β} : Walk (Itt K a) ys.length (fun H => SqT K H a (ys.map v)) (YAt (ys.map v)) := by
  have := walk_tup (K := K) (a := a) (xs := ys.map v)
  rw [List.length_map] at this
  exact this
/-- a for over a list or a tuple, as a fold -/
theorem seq_fold {K : PySem.W.Frag} {α β : Type} {g : TG} {tb : TS} {D : Ends} {σ : L2.St} {H : Hp} (v : β → V) (ys : List β) (b : Addr) (f : α → β → α) (a0 : α) (Rp : α → L2.St → Hp → Prop)
    (hb : (∀ a σ H, Rp a σ H → SqL K H b (ys.map v)) ∨ (∀ a σ H, Rp a σ H → SqT K H b (ys.map v))) (h0 : Rp a0 σ H)
    (hs : ∀ pre y post σ H, ys = pre ++ y :: post → Rp (pre.foldl f a0) σ H → g (v y) σ H fun σ2 H2 => tb { D with nx := Rp (f (pre.foldl f a0) y), ct := Rp (f (pre.foldl f a0) y), bk := D.nx } σ2 H2) (hd : ∀ σ H, Rp (ys.foldl f a0) σ H → D.nx σ H) :
    ∃ a, V.ref b = .ref a ∧ (((∃ xs, SqL K H a xs) ∧ (fun (J : It) (H : Hp) => ∃ W : Nat → Nat → L2.St → Hp → Prop, (∃ m, W 0 m σ H) ∧ ∀ i m σ H, W i m σ H →
      (J.stop i H ∧ D.nx σ H) ∨ (J.go i H ∧ ∃ N : L2.St → Hp → Prop, (∀ σ' H', N σ' H' → ∃ m', m' < m ∧ W (i + 1) m' σ' H') ∧ ∀ x H', J.yld i H x H' → g x σ H' fun σ2 H2 => tb { D with nx := N, ct := N, bk := D.nx } σ2 H2)) (Itl K a) H) ∨
      ((∃ xs, SqT K H a xs) ∧ (fun (J : It) (H : Hp) => ∃ W : Nat → Nat → L2.St → Hp → Prop, (∃ m, W 0 m σ H) ∧ ∀ i m σ H, W i m σ H →
      (J.stop i H ∧ D.nx σ H) ∨ (J.go i H ∧ ∃ N : L2.St → Hp → Prop, (∀ σ' H', N σ' H' → ∃ m', m' < m ∧ W (i + 1) m' σ' H') ∧ ∀ x H', J.yld i H x H' → g x σ H' fun σ2 H2 => tb { D with nx := N, ct := N, bk := D.nx } σ2 H2)) (Itt K a) H)) := by
  refine ⟨b, rfl, ?_⟩
  rcases hb with hb | hb
  · exact .inl ⟨⟨_, hb _ _ _ h0⟩, for_fold v ys rfl walk_itl f a0 Rp h0 (fun a σ H h => hb a σ H h) hs hd⟩
  · exact .inr ⟨⟨_, hb _ _ _ h0⟩, for_fold v ys rfl walk_itt f a0 Rp h0 (fun a σ H h => hb a σ H h) hs hd⟩
/-- a list or a tuple -/
def SqB (K : PySem.W.Frag) (H : Hp) (a : Addr) (xs : List V) : Prop := SqL K H a xs ∨ SqT K H a xs
section
variable {K : PySem.W.Frag} {TL : List (Addr × Str)} {TG : List Addr} {S : Ad} {H H' : Hp} {a : Addr} {xs : List V}
theorem Rd.go {u : HO} (h : Rd H a u) (g : Go TL TG S H H') (n : NoT u) (s : ¬ S a) : Rd H' a u := by
  rcases h with h | ⟨o, h⟩
  · exact .inl (g.keep _ _ h n s)
  · exact .inr ⟨o, g.keep _ _ h (by intro _ z; cases z) s⟩
theorem SqB.go (h : SqB K H a xs) (g : Go TL TG S H H') (s : ¬ S a) : SqB K H' a xs := by
  rcases h with (h | h) | (h | h)
  · exact .inl (.inl (Rd.go h g (by intro _ z; cases z) s))
  · exact .inl (.inr h)
  · exact .inr (.inl (Rd.go h g (by intro _ z; cases z) s))
  · exact .inr (.inr h)
end
end Fy
namespace Fy
open PySem PySem.Spec PyProof.Rows L2
section
variable {X : Cx} {pins : List (Addr × Obj)} {σ : L2.St} {H : Hp} {s : Shared}
/-- two values of the same data -/
def SameD (K : PySem.W.Frag) (H : Hp) (x y : V) : Prop := ∃ d, Dp K H x d ∧ Dp K H y d ∧ SeqAt.shaped d = true
theorem SameD.at_ (I : Inv X pins σ H s) {A : Around} (hu : A.units + 64 < cLine) {x y : V} {v u : Value} (h : SameD X.K H x y) (rx : RelV x v) (ry : RelV y u) : SeqAt.EqAt A s v u true := by
  obtain ⟨d, h1, h2, sd⟩ := h
  obtain ⟨as, r1⟩ := Dp.reads I d x v h1 rx
  obtain ⟨bs, r2⟩ := Dp.reads I d y u h2 ry
  have e := SeqAt.eqAt_reads d d A s v u as bs r1 r2 (SeqAt.canLay_of_shaped sd) (SeqAt.canLay_of_shaped sd) (SeqAt.room_of_shaped sd hu)
  rw [SeqAt.eqv_refl d (SeqAt.canLay_of_shaped sd)] at e
  exact e
theorem hits_same {κ : Type} [DecidableEq κ] (I : Inv X pins σ H s) {A : Around} (hu : A.units + 64 < cLine) {ls : List (κ × V)} {vb : List (κ × Value)} (rb : KV ls vb) {ks : List (κ × V)} {va : List (κ × Value)} (ra : KV ks va) :
    (∀ p ∈ ks, ∃ u, valV ls p.1 = some u ∧ SameD X.K H p.2 u) → PySem.W.KeqHits A s vb va true := by
  unfold KV at ra
  induction ra with
  | nil => intro _; exact .nil
  | @cons p q ps qs h t ih =>
    intro hp
    obtain ⟨h1, h2⟩ := h
    obtain ⟨u, e, f⟩ := hp p List.mem_cons_self
    have rr : RelO (some u) (valueAt vb p.1) := by rw [← e]; exact rb.val p.1
    obtain ⟨y, hy, ry⟩ := rr.some_of
    obtain ⟨k, v⟩ := q
    have h1' : p.1 = k := h1
    rw [h1'] at hy
    show PySem.W.KeqHits A s vb ((k, v) :: qs) (true && true)
    exact .hit hy (f.at_ I hu h2 ry) (ih fun p' hm => hp p' (List.mem_cons_of_mem _ hm))
end
section
variable {X : Cx}
/-- two dicts of the same keys and the same data -/
def rSameD (K : PySem.W.Frag) (b : Bool) : R2 := fun x y H Q => ∃ c d ks ls, x = .ref c ∧ y = .ref d ∧ H c = some (.dK ks) ∧ H d = some (.dK ls) ∧ ks.length = ls.length ∧ (∀ p ∈ ks, ∃ u, valV ls p.1 = some u ∧ SameD K H p.2 u) ∧ Q (.bl b) H
theorem op_eqDD (hu : X.A.units + 65 < cLine) : OpR X (compareOp .Eq) (rSameD X.K true) := by
  intro pins s σ H x y v u Q I rx ry h
  obtain ⟨a, b, ks, ls, rfl, rfl, ea, eb, hlen, hp, q⟩ := h
  obtain rfl : v = Value.ref a := rx
  obtain rfl : u = Value.ref b := ry
  obtain ⟨_, ya, va, ra, da⟩ := (show ObjOk X.prog X.w H s.heap a (.dK ks) from I.hok a _ ea)
  obtain ⟨_, yb, vb, rb, db⟩ := (show ObjOk X.prog X.w H s.heap b (.dK ls) from I.hok b _ eb)
  have hl : va.length = vb.length := by rw [← ra.length, ← rb.length]; exact hlen
  exact PySem.W.keq_eq (knd := mixKind X.prog X.w) (r := true) ya yb da db (by omega) (fun _ => hits_same I (by show X.A.units + 1 + 64 < cLine; omega) rb ra hp) ⟨.bl true, H, I, by simp [hl]; exact rfl, q⟩
theorem op_neDD (hu : X.A.units + 65 < cLine) : OpR X (compareOp .NotEq) (rSameD X.K false) := by
  intro pins s σ H x y v u Q I rx ry h
  obtain ⟨a, b, ks, ls, rfl, rfl, ea, eb, hlen, hp, q⟩ := h
  obtain rfl : v = Value.ref a := rx
  obtain rfl : u = Value.ref b := ry
  obtain ⟨_, ya, va, ra, da⟩ := (show ObjOk X.prog X.w H s.heap a (.dK ks) from I.hok a _ ea)
  obtain ⟨_, yb, vb, rb, db⟩ := (show ObjOk X.prog X.w H s.heap b (.dK ls) from I.hok b _ eb)
  have hl : va.length = vb.length := by rw [← ra.length, ← rb.length]; exact hlen
  exact PySem.W.keq_ne (knd := mixKind X.prog X.w) (r := true) ya yb da db (by omega) (fun _ => hits_same I (by show X.A.units + 1 + 64 < cLine; omega) rb ra hp) ⟨.bl false, H, I, by simp [hl]; exact rfl, q⟩
end
theorem dpAll_map {K : PySem.W.Frag} {H : Hp} {α : Type} {v : α → V} {d : α → PyData} (h : ∀ a, Dp K H (v a) (d a)) : ∀ xs : List α, DpAll K H (xs.map v) (xs.map d)
  | [] => .nil
  | x :: xs => .cons (h x) (dpAll_map h xs)
theorem eqv_same {d : PyData} (h : SeqAt.shaped d = true) : PyData.eqv d d = true := SeqAt.eqv_refl d (SeqAt.canLay_of_shaped h)
/-- a comprehension as a fold -/
theorem lc_fold {α β : Type} {J : It} {G : Hp → Prop} {g : TG} {tt : TT} {te : TE} {vs : List Nat} {σ : L2.St} {H1 : Hp} {D : Addr} {Qd : Hp → Prop} (v : β → V) (ys : List β) {n : Nat} (hn : n = ys.length) (w : Walk J n G (YAt (ys.map v))) (f : α → β → α) (a0 : α) (Rp : α → Hp → Prop) (h0 : Rp a0 (upd H1 D (.lst []))) (hG : ∀ a H, Rp a H → G H)
    (hs : ∀ pre y post H, ys = pre ++ y :: post → Rp (pre.foldl f a0) H → g (v y) (wipe σ vs) H fun σ2 H2 => wipe σ2 vs = wipe σ vs ∧ tt σ2 H2 fun b H3 =>
      if b = true then te σ2 H3 fun z H4 => ∃ acc, H4 D = some (.lst acc) ∧ acc.length < sizeLine ∧ Rp (f (pre.foldl f a0) y) (upd H4 D (.lst (acc ++ [z]))) else Rp (f (pre.foldl f a0) y) H3) (hd : ∀ H, Rp (ys.foldl f a0) H → Qd H) :
    ∃ W : Nat → Nat → Hp → Prop, (∃ m, W 0 m (upd H1 D (.lst []))) ∧ ∀ i m H, W i m H →
      (J.stop i H ∧ Qd H) ∨ (J.go i H ∧ ∃ Nx : Hp → Prop, (∀ H', Nx H' → ∃ m', m' < m ∧ W (i + 1) m' H') ∧ ∀ x H', J.yld i H x H' → g x (wipe σ vs) H' fun σ2 H2 => wipe σ2 vs = wipe σ vs ∧ tt σ2 H2 fun b H3 =>
        if b = true then te σ2 H3 fun y H4 => ∃ acc, H4 D = some (.lst acc) ∧ acc.length < sizeLine ∧ Nx (upd H4 D (.lst (acc ++ [y]))) else Nx H3) := by
  subst hn
  refine lc_it w (fun i => Rp ((ys.take i).foldl f a0)) h0 (fun i H _ h => hG _ H h) (fun i x H H' hi h y => ?_) fun H h => hd H (by rw [List.take_length] at h; exact h)
  obtain ⟨rfl, e⟩ := y
  rw [List.getElem?_map] at e
  obtain ⟨y, e1, rfl⟩ := Option.map_eq_some_iff.mp e
  have e2 : ys = ys.take i ++ y :: ys.drop (i + 1) := by
    obtain ⟨h1, h2⟩ := List.getElem?_eq_some_iff.mp e1
    rw [← h2, ← List.drop_eq_getElem_cons h1, List.take_append_drop]
  have q := hs (ys.take i) y (ys.drop (i + 1)) H' e2 h
  have e3 : (ys.take (i + 1)).foldl f a0 = f ((ys.take i).foldl f a0) y := by
    rw [List.take_add_one, e1, List.foldl_append] <;> rfl
  show g (v y) (wipe σ vs) H' fun σ2 H2 => wipe σ2 vs = wipe σ vs ∧ tt σ2 H2 fun b H3 =>
      if b = true then te σ2 H3 fun z H4 => ∃ acc, H4 D = some (.lst acc) ∧ acc.length < sizeLine ∧ Rp ((ys.take (i + 1)).foldl f a0) (upd H4 D (.lst (acc ++ [z]))) else Rp ((ys.take (i + 1)).foldl f a0) H3
  rw [e3]
  exact q
theorem Go.drop {TL : List (Addr × Str)} {TG : List Addr} {S S' : Ad} {H H' : Hp} (g : Go TL TG S H H') (h : ∀ b, S b → S' b ∨ H b = none) : Go TL TG S' H H' := ⟨fun b o e n s => g.keep b o e n fun z => (h b z).elim s fun q => (by rw [q] at e; cases e), g.tb, g.free⟩
theorem Go.wide {TL : List (Addr × Str)} {TG : List Addr} {S : Ad} {H H' : Hp} (g : Go TL TG (fun _ => False) H H') : Go TL TG S H H' := g.mono fun _ z => z.elim
theorem tYes_ok {σ : L2.St} {H : Hp} {A B : Hp → Prop} (h : A H) : tYes σ H fun b H3 => if b = true then A H3 else B H3 := by
  show (if true = true then A H else B H)
  rw [if_pos rfl]
  exact h
theorem u65 {k : Nat} {A : Around} (r : Room k A) : A.units + 65 < cLine := by have := r.un; omega
/-- dead code -/
theorem pss_dead {X : Cx} {body : List Stmt} : PSs X body (fun _ _ _ => False) := ⟨fun _ _ _ _ _ _ h => h.elim⟩
theorem pe_dead {X : Cx} {e : Expr} : PE X e (fun _ _ _ => False) := ⟨fun _ _ _ _ _ _ h => h.elim⟩
end Fy
namespace Fy
open PySem PySem.Spec PyProof.Rows L2
theorem leS_trans (a b c : Str) (h : leS a b = true) (h' : leS b c = true) : leS a c = true :=
  decide_eq_true (List.le_trans (of_decide_eq_true h) (of_decide_eq_true h'))
theorem leS_total (a b : Str) : (leS a b || leS b a) = true := by
  rcases List.le_total a.cps.toList b.cps.toList with h | h
  · exact Bool.or_eq_true_iff.mpr (.inl (decide_eq_true h))
  · exact Bool.or_eq_true_iff.mpr (.inr (decide_eq_true h))
theorem leS_anti {a b : Str} (h : leS a b = true) (h' : leS b a = true) : a = b := by
  have e : a.cps.toList = b.cps.toList := List.le_antisymm (of_decide_eq_true h) (of_decide_eq_true h')
  cases a
  cases b
  congr 1
  exact Array.toList_inj.mp e
theorem sortS_pw (ns : List Str) : (sortS ns).Pairwise fun a b => leS a b = true := List.pairwise_mergeSort leS_trans leS_total ns
theorem sorted_uniq {xs ys : List Str} (p : xs.Perm ys) (h : xs.Pairwise fun a b => leS a b = true) (h' : ys.Pairwise fun a b => leS a b = true) : xs = ys :=
  p.eq_of_pairwise (fun a b _ _ z z' => leS_anti z z') h h'
theorem sortS_filter (ns : List Str) (q : Str → Bool) : sortS (ns.filter q) = (sortS ns).filter q :=
  sorted_uniq ((List.mergeSort_perm _ _).trans ((List.mergeSort_perm ns leS).symm.filter q)) (sortS_pw _) ((sortS_pw ns).filter q)
theorem sortS_perm {ns ms : List Str} (p : ns.Perm ms) : sortS ns = sortS ms :=
  sorted_uniq ((List.mergeSort_perm _ _).trans (p.trans (List.mergeSort_perm ms leS).symm)) (sortS_pw _) (sortS_pw _)
section
variable {X : Cx} (K : PySem.W.Frag) (e : X.K = K)
include e
theorem ix_listK : IxR X (rIxL K) := e ▸ ix_list
theorem ix_tupK : IxR X (rIxT K) := e ▸ ix_tup
theorem sl_listK : SlR X (rSlL K) := e ▸ sl_list
theorem sl_tupAK : SlR X (rSlA K) := e ▸ sl_tupA
theorem pe_fldK {o : Expr} {f : Str} {pos : Pos} {ta : TE} (he : PE X o ta) (hb : attributeBase o f X.env (eval o X.env) = eval o X.env) : PE X (.Attribute o f pos) (tFld K ta f) := e ▸ pe_fld he hb
theorem op_in_seqK : OpR X (compareOp .In) (rIn K false) := e ▸ op_in_seq
theorem op_notIn_seqK : OpR X (compareOp .NotIn) (rIn K true) := e ▸ op_notIn_seq
theorem cr_sumK (hc : X.calm = true) : CallR X (.builtin "sum") (rSum K) := e ▸ cr_sum hc
theorem call_list_ofK : CallR X (.type "list") (fun xs H Q => ∃ p ys, xs = [.ref p] ∧ (SqL K H p ys ∨ SqT K H p ys) ∧ ∀ l, H l = none → Q (.ref l) (upd H l (.lst ys))) := e ▸ call_list_of
theorem call_lenK : CallR X (.builtin "len") (fun xs H Q => ∃ x n, xs = [x] ∧ LenV K x H n ∧ Q (.int n) H) := e ▸ call_len
theorem op_eqDK (hu : X.A.units + 64 < cLine) : OpR X (compareOp .Eq) (rEqD K) := e ▸ op_eqD hu
theorem op_neDK (hu : X.A.units + 64 < cLine) : OpR X (compareOp .NotEq) (rNeD K) := e ▸ op_neD hu
theorem pi_listK {tg l : Expr} {tl : TE} (hl : PE X l tl) : PI X tg l (iList K tl) := e ▸ pi_list hl
theorem pi_tupK {tg l : Expr} {tl : TE} (hl : PE X l tl) : PI X tg l (iTup K tl) := e ▸ pi_tup hl
end
end Fy
namespace Fy
open PySem PySem.Spec PyProof.Rows L2
open GxR (TabG Tabbed)
open LamX (CodeO TabS Tabs TabB lamCx lamEnv LamS GivesTo TTold codeO_ne)
abbrev lamQ (X : Cx) : Str := X.env.qual ++ "<lambda>"
abbrev lamO (X : Cx) (params : Arguments) (body : Expr) (scope : Scope) (pm : Value) (c' : Addr) (ctv : Value) : Obj := PySem.W.kla_obj "<lambda>" (lamQ X) params body scope (cloFrom X.env.cells scope.names []) pm c' ctv
section
variable {X : Cx} {pins : List (Addr × Obj)} {σ : L2.St} {H : Hp} {s : Shared} {TL : List (Addr × Str)} {TG : List Addr}
/-- the table grows by one new code object -/
theorem go_table {P c : Addr} {q : Str} {ps : Array Value} {pos : Pos} (hm : (P, q) ∈ TL) (hu : ∀ p ∈ TL, p.1 = P → p.2 = q) (hd : P ∉ TG) (hP : H P = some (.tbl ps)) (ht : TriplesOk ps.toList) (ha : ∀ (pos : Pos) (cv : Value), codeAmong pos ps.toList = some cv → ∃ c, cv = .ref c ∧ H c = some (CodeO c q)) (hc : H c = none) {S : Ad} :
    Go TL TG S H (upd (upd H P (.tbl (ps ++ #[rawInt pos.line, rawInt pos.col, .ref c]))) c (CodeO c q)) := by
  have keep : ∀ b o, H b = some o → NoT o → upd (upd H P (.tbl (ps ++ #[rawInt pos.line, rawInt pos.col, .ref c]))) c (CodeO c q) b = some o := fun b o e n => by
    rw [upd_ne (ne_of_none e hc), upd_ne (fun z => n ps (Option.some.inj (e.symm.trans (by rw [z]; exact hP))))]
    exact e
  refine ⟨fun b o e n _ => keep b o e n, fun t => ⟨fun p hp => ?_, fun Q hQ => ?_⟩, fun p hp => ?_⟩
  · have eL : (ps ++ #[rawInt pos.line, rawInt pos.col, .ref c]).toList = ps.toList ++ [rawInt pos.line, rawInt pos.col, .ref c] := by simp
    by_cases hb : p.1 = P
    · rw [hu p hp hb, hb]
      refine ⟨_, by rw [upd_ne (ne_of_none hP hc), upd_same], by rw [eL]; exact PySem.TriplesOk_snoc _ _ _ _ ht, fun p' cv hcv => ?_⟩
      rw [eL] at hcv
      rcases LamX.among_app _ ht hcv with z | z
      · obtain ⟨c0, e1, e2⟩ := ha p' cv z
        exact ⟨c0, e1, keep _ _ e2 fun ps => codeO_ne ps⟩
      · exact ⟨c, z, upd_same⟩
    · obtain ⟨ps', a1, a2, a3⟩ := t.lam p hp
      refine ⟨ps', by rw [upd_ne (ne_of_none a1 hc), upd_ne hb]; exact a1, a2, fun p' cv hcv => ?_⟩
      obtain ⟨c0, e1, e2⟩ := a3 p' cv hcv
      exact ⟨c0, e1, keep _ _ e2 fun ps => codeO_ne ps⟩
  · obtain ⟨ps', a1, a2⟩ := t.gen Q hQ
    have nQ : Q ≠ P := fun z => hd (by rw [← z]; exact hQ)
    exact ⟨ps', by rw [upd_ne (ne_of_none a1 hc), upd_ne nQ]; exact a1, a2⟩
  · obtain ⟨n1, h1⟩ := upd_none.mp hp
    exact (upd_none.mp h1).2
/-- a lambda without parameters is made -/
theorem lam_go {c P : Addr} {params : Arguments} {body : Expr} {scope : Scope} {pos : Pos} {E : Value → Shared → Prop} {Q : Value → Shared → Prop} (I : Inv X pins σ H s) (TB : TabB X.base X.mg c P) (hcode : X.env.code = .ref c)
    (hm : (P, lamQ X) ∈ TL) (hu : ∀ p ∈ TL, p.1 = P → p.2 = lamQ X) (hd : P ∉ TG) (tb : Tb TL TG H) (hdef : defaultsOf params X.env = ([], [])) (L : LamS X.env.scope scope)
    (h : ∀ (f c' : Addr) (pm ctv : Value) (H1 : Hp) (s' : Shared), Inv X pins σ H1 s' → Go TL TG (fun _ => False) H H1 → s'.heap.get? f = some (lamO X params body scope pm c' ctv) → H1 f = none → f ∉ frs X.stack → H1 c' = some (CodeO c' (lamQ X)) → (∀ p ∈ X.pn ++ pins, p.1 ≠ f) → Q (.ref f) s') :
    wpAny (model X.prog X.w) X.A (eval (.Lambda params body scope pos) X.env) Q E s := by
  obtain ⟨ps, hP, ht, ha⟩ := tb.lam _ hm
  have hP' : s.heap.get? P = some { cls := .none, data := .fields ps } := I.hok P _ hP
  have bP : s.heap.BuiltinsAt X.mg P := TB.bm.keeps I.bk
  have nofr : ∀ f, s.heap.objs.size ≤ f → f ∉ frs X.stack := fun f hf z => by
    rcases List.mem_cons.mp (I.stkSub _ z) with e | e
    · have h1 := I.lt
      rw [← e] at h1
      exact Nat.lt_irrefl _ (Nat.lt_of_lt_of_le h1 hf)
    · exact I.nofs hf e
  have nopin : ∀ f, s.heap.objs.size ≤ f → ∀ p ∈ X.pn ++ pins, p.1 ≠ f := fun f hf p hp z => by
    obtain ⟨e, _⟩ := I.pin p hp
    rw [z] at e
    exact Nat.lt_irrefl _ (Nat.lt_of_lt_of_le (Heap.lt_size e) hf)
  refine PySem.W.kla_eval hdef ?_
  cases hc : codeAmong pos ps.toList with
  | none =>
    refine PySem.W.kla_makeFunction (mg := X.mg) (c := c) (P := P) (ps := ps) (closure_ok (L.has I.ok)) I.ok.glob (I.mod.glob.keeps I.bk) hcode (TB.code.keeps I.bk) hP' ht hc TB.gP bP fun c' ctv h' tk hx hge hlt hrec htb => ?_
    obtain ⟨c2, oc, vs, t, e2, hoc, hdd, hv⟩ := hrec
    cases e2
    have hsz : s.heap.objs.size ≤ h'.objs.size := Nat.le_trans hge (Nat.le_of_lt hlt)
    have I1 := LamX.inv_table (t' := tk) (more := #[rawInt pos.line, rawInt pos.col, .ref c']) (h' := h'.push (lamO X params body scope ((X.mg "__name__").getD .none) c' ctv)) I hP
      (fun b o hb e => Heap.get?_push_of_some _ (hx b o hb e)) (Heap.get?_push_of_some _ htb) hge ⟨oc, vs, t, Heap.get?_push_of_some _ hoc, hdd, hv⟩
    refine h h'.objs.size c' ((X.mg "__name__").getD .none) ctv _ _ I1 (go_table hm hu hd hP ht ha (I.hok.fresh hge)) (Heap.get?_push_size _ rfl) ?_ (nofr _ hsz) upd_same (nopin _ hsz)
    have n2 : h'.objs.size ≠ P := Nat.ne_of_gt (Nat.lt_of_lt_of_le (Heap.lt_size hP') hsz)
    rw [upd_ne (Nat.ne_of_gt hlt), upd_ne n2]
    exact I.hok.fresh hsz
  | some cv =>
    obtain ⟨c', e, hco⟩ := ha pos cv hc
    subst e
    refine PySem.W.kla_makeFunctionHit (mg := X.mg) (c := c) (P := P) (ps := ps) (closure_ok (L.has I.ok)) I.ok.glob (I.mod.glob.keeps I.bk) hcode (TB.code.keeps I.bk) hP' ht hc bP fun ctv h' tk hx hsz => ?_
    have I1 : Inv X pins σ H { s with heap := h'.push (lamO X params body scope ((X.mg "__name__").getD .none) c' ctv), toks := tk } := I.kept fun b o e => Heap.get?_push_of_some _ (hx b o e)
    exact h h'.objs.size c' ((X.mg "__name__").getD .none) ctv H _ I1 .refl (Heap.get?_push_size _ rfl) (I.hok.fresh hsz) (nofr _ hsz) hco (nopin _ hsz)
end
/-- x(lambda: body): what the reading asks -/
def tLamG (TL : List (Addr × Str)) (TG : List Addr) (TT : (XK → Hp → VK → Prop) → Hp → VK → Prop) (t : XK → TE) : TE := fun σ H Q => Tb TL TG H ∧ ∀ H1, Go TL TG (fun _ => False) H H1 → TT (fun E H' Q' => t E σ H' Q') H1 Q
section
variable {X : Cx} {TL : List (Addr × Str)} {TG : List Addr}
/-- what a lambda's body lets out goes on -/
theorem pxl {A : Around} {outer : List Env} {s : Shared} {H : Hp} {E : XK} {scope : Scope} {f c' : Addr} : Passes (L2.CX (lamCx X A outer s H E scope f c').prog (lamCx X A outer s H E scope f c').w) (lamCx X A outer s H E scope f c') E :=
  passes_call (X := lamCx X A outer s H E scope f c') (W := fun cls d σ H => E cls d H) (takes_of rfl rfl rfl rfl) fun _ _ _ _ h => h
/-- told(lambda: body), told: try: return a() / except e: return ret -/
theorem pe_told {x a e ret : Str} {c P CS : Addr} {k j : Nat} {dt : He.DefD} {params : Arguments} {body : Expr} {scope : Scope} {t : XK → TE} {p lpos pos p1 p2 p3 p4 p5 p6 p7 p8 : Pos} {Ng : List Str}
    (F : ∃ fd, FunD X.K dt.name dt.qual dt.params dt.body dt.scope (dt.dvs X.K) (dt.kws X.K) (He.fAd X.K dt.at_) fd) (hx1 : dt.name = x) (hx2 : dt.qual = x) (hd : dt.dfl = []) (hkw : dt.kwd = [])
    (hbd : dt.body = [.Try [.Return (some (.Call (.Name a p1) [] [] p2)) p3] [.ExceptHandler (some (.Name e p4)) none [.Return (some (.Constant (.str ret) j p5)) p6] p7] [] [] p8])
    (hbi : ∀ (kV doc pm : Value) (an : Option Addr) (cdv ct : Value) (us : List Value), us.length = [a].length → bindArgs (PySem.W.fnOf dt.name dt.qual dt.params dt.body dt.scope .none kV doc pm an cdv ct) ⟨us, []⟩ = pure ([a].zip us))
    (hg : Gl X x) (hm : X.mg x = some (.ref (He.fAd X.K dt.at_))) (Sg : FnScope Ng [a] dt.scope) (hNg : Ng[0]? = some a) (hva : Vis dt.scope a) (hge : dt.scope.names.lookup e = some .globalImplicit) (hme : X.mg e = some (.ref CS)) (h0 : ∀ f : Addr, (L2.start Ng [V.ref f])[0]? = some (some (V.ref f)))
    (TB : TabB X.base X.mg c P) (hcode : X.env.code = .ref c) (hmT : (P, lamQ X) ∈ TL) (hu : ∀ p ∈ TL, p.1 = P → p.2 = lamQ X) (hdT : P ∉ TG) (hr : Room (k + 2) X.A) (L : LamS X.env.scope scope) (hdef : defaultsOf params X.env = ([], []))
    (hbind : ∀ (q : Str) (cl : List (Str × Addr)) (pm cv ctv : Value), bindArgs (PySem.W.kla_fn "<lambda>" q params body scope cl pm cv ctv) ⟨[], []⟩ = pure [])
    (hbody : ∀ (A : Around) (outer : List Env) (s : Shared) (H : Hp) (E : XK) (f c' : Addr), Room k (A.deeper (lamEnv X scope s.heap.objs.size f c')) → PE (lamCx X A outer s H E scope f c') body (t E))
    (hdb : (x == ("__debug__" : Str)) = false := by decide) (hda : (a == ("__debug__" : Str)) = false := by decide) (hcd : (a == ("__classdict__" : Str)) = false := by decide) (hde : (e == ("__debug__" : Str)) = false := by decide) :
    PE X (.Call (.Name x p) [.Lambda params body scope lpos] [] pos) (tLamG TL TG (TTold X.K CS ret) t) := by
  obtain ⟨fd, F⟩ := F
  have hb : Binds X.K fd [a] [] := by
    have F' := F
    unfold He.DefD.dvs He.DefD.kws at F'
    rw [hd, hkw] at F'
    exact F'.bindsN hbi
  obtain ⟨oc, od, dV, kV, doc, pm, an, cdv, ct, osl, rfl, lk, hcdv, _, _⟩ := F.ex
  have hk := F.kp
  subst hx1
  rw [hx2] at lk hcdv hb
  refine ⟨fun pins s σ H Q I h => ?_⟩
  obtain ⟨tb, h⟩ := h
  refine wpAny_Call_Name_kw (ld_glob I hg hm ?_ hdb)
  refine PySem.W.callWith_K (h₀ := X.base) I.ok.mod.kin hk ?_ (by rfl) (by rfl)
  show wpAny _ _ (spliced ((false, eval (.Lambda params body scope lpos) X.env) :: backTo pos (starEach [] X.env))) _ _ s
  refine Calls.spliced_cons (lam_go I TB hcode hmT hu hdT tb hdef L fun f c' pm' ctv H1 s' I1 g1 hf hfn hfr hco _ => ?_)
  refine Calls.spliced_nil ⟨I1.kIn, ?_⟩
  have hG : GivesTo X Ng dt.name dt.scope (He.fAd X.K dt.at_) cdv dt.body a (lamQ X) (TTold X.K CS ret) := by
    rw [hbd]
    exact LamX.told_gives hge hme hde h0
  have rc : codeAny (model X.prog X.w) X.A (.call (.ref (He.fAd X.K dt.at_)) ⟨[.ref f], []⟩) (CR C8.CX0 X.stack X.prog X.w H1 s' Q C8.E0) s' := by
    refine LamX.run_ofS (N := Ng) (ps := [a]) (us := [.ref f]) (vs := [.ref f]) lk hcdv Sg hr I1.env0 (hb s' [.ref f] I1.kIn rfl) (.cons rfl .nil) rfl fun hr' => ?_
    obtain ⟨t', ht', hq'⟩ := hG f c' s' H1 Q (fun E H' Q' => t E σ H' Q') (fun W pn xe E p1 p2 tk hW => LamX.pe_act (i := 0) I1 L hf hfn hfr (hbind _ _ _ _ _) tk hW hr' (fun A outer s H hr2 => hbody A outer s H E f c' hr2) hNg hva hda hcd) hco (h H1 g1)
    exact ⟨t', ht'.nox, hq'⟩
  refine wpAny_call (codeAny_mono rc fun r s2 hq => ?_)
  cases r with
  | error e => exact (show False from hq).elim
  | ok fl =>
    cases fl with
    | ret u => exact I1.after hq
    | next => exact False.elim hq
    | brk => exact False.elim hq
    | cont => exact False.elim hq
end
/-- the suites of a statement -/
def subS : Stmt → List Stmt
  | .For _ _ b _ _ => b
  | .While _ b _ _ => b
  | .If _ b _ _ => b
  | _ => []
def elsS : Stmt → List Stmt
  | .If _ _ b _ => b
  | _ => []
abbrev noS : Stmt := .Pass ⟨0, 0, 0, 0⟩
end Fy
namespace Fy
open PySem PySem.Spec PyProof.Rows L2
theorem plain_frz {od : Obj} {u : HO} : Plain (.frz od u) := ⟨fun _ z => (by cases z), fun _ z => (by cases z)⟩
theorem Go.unlock {TL : List (Addr × Str)} {TG : List Addr} {S : Ad} {H H' : Hp} {o : Addr} {od : Obj} {u : HO} (g : Go TL TG S (upd H o (.frz od u)) H') (ho : H o = some u) (pl : Plain u) (e : H' o = some (.frz od u)) : Go TL TG S H (upd H' o u) := by
  refine ⟨fun b x hb n s => ?_, fun t => (g.tb (t.set ho pl)).set e plain_frz, fun p hp => ?_⟩
  · by_cases z : b = o
    · rw [z, upd_same, ← ho, ← z]; exact hb
    · rw [upd_ne z]
      exact g.keep b x (by rw [upd_ne z]; exact hb) n s
  · obtain ⟨n, h⟩ := upd_none.mp hp
    have := g.free p h
    rw [upd_ne n] at this
    exact this
theorem mergeK_nodup : ∀ (kvs acc : List (Key × V)), ((acc ++ kvs).map (·.1)).Nodup → mergeK acc kvs = acc ++ kvs
  | [], acc, _ => by simp [mergeK]
  | p :: r, acc, nd => by
    have h1 : valV acc p.1 = none := by
      cases e : valV acc p.1 with
      | none => rfl
      | some v =>
        have a : (acc.any fun kv => decide (kv.1 = p.1)) = true := by rw [valV_any, e] <;> rfl
        obtain ⟨q, hq, e2⟩ := List.any_eq_true.mp a
        have e3 : q.1 = p.1 := of_decide_eq_true e2
        rw [List.map_append, List.nodup_append] at nd
        exact absurd e3 (nd.2.2 _ (List.mem_map.mpr ⟨q, hq, rfl⟩) _ (List.mem_map.mpr ⟨p, List.mem_cons_self, rfl⟩))
    have h2 : mergeK acc (p :: r) = mergeK (putK acc p.1 p.2) r := by simp [mergeK]
    rw [h2, putK_new _ h1, mergeK_nodup r (acc ++ [(p.1, p.2)]) (by simpa using nd)]
    simp
end Fy
namespace Fy
open PySem PySem.Spec PyProof.Rows L2
open GxR (TabG Tabbed)
open LamX (CodeO TabS Tabs TabB lamCx lamEnv LamS GivesTo TTold codeO_ne)
/-- the lambda of X that stands at f -/
def LamL (X : Cx) (params : Arguments) (body : Expr) (scope : Scope) (f c' : Addr) : HO := .ext fun h => f ∉ frs X.stack ∧ ∃ pm ctv, h.get? f = some (lamO X params body scope pm c' ctv)
theorem lamL_ok {X : Cx} {P : Program} {w : World} {params : Arguments} {body : Expr} {scope : Scope} {f c' : Addr} {pm ctv : Value} {H : Hp} {h : Heap} (n : f ∉ frs X.stack) (e : h.get? f = some (lamO X params body scope pm c' ctv)) : ObjOk P w H h f (LamL X params body scope f c') :=
  ⟨⟨n, pm, ctv, e⟩, ⟨_, e⟩, fun h1 h2 ⟨n, pm, ctv, e1⟩ st => ⟨n, pm, ctv, st _ e1⟩⟩
def tLamV (X : Cx) (TL : List (Addr × Str)) (TG : List Addr) (params : Arguments) (body : Expr) (scope : Scope) : TE := fun σ H Q => Tb TL TG H ∧ ∀ f c' H1 H2, Go TL TG (fun _ => False) H H1 → H1 f = none → H1 c' = some (CodeO c' (lamQ X)) → H2 = upd H1 f (LamL X params body scope f c') → Q (.ref f) H2
section
variable {X : Cx} {TL : List (Addr × Str)} {TG : List Addr}
theorem pe_lamV {c P : Addr} {params : Arguments} {body : Expr} {scope : Scope} {pos : Pos} (TB : TabB X.base X.mg c P) (hcode : X.env.code = .ref c)
    (hm : (P, lamQ X) ∈ TL) (hu : ∀ p ∈ TL, p.1 = P → p.2 = lamQ X) (hd : P ∉ TG) (L : LamS X.env.scope scope) (hdef : defaultsOf params X.env = ([], [])) : PE X (.Lambda params body scope pos) (tLamV X TL TG params body scope) := by
  refine ⟨fun pins s σ H Q I h => ?_⟩
  obtain ⟨tb, h⟩ := h
  obtain ⟨ps, hP, ht, ha⟩ := tb.lam _ hm
  have hP' : s.heap.get? P = some { cls := .none, data := .fields ps } := I.hok P _ hP
  have bP : s.heap.BuiltinsAt X.mg P := TB.bm.keeps I.bk
  have lab : ∀ {H1 : Hp} {h' : Heap} {pm ctv : Value} {c' f : Addr}, s.heap.objs.size ≤ f → h'.get? f = some (lamO X params body scope pm c' ctv) → ObjOk X.prog X.w H1 h' f (LamL X params body scope f c') := fun {H1 h' pm ctv c' f} hf e => lamL_ok (fun z => by
    rcases List.mem_cons.mp (I.stkSub _ z) with q | q
    · have h1 := I.lt
      rw [← q] at h1
      exact Nat.lt_irrefl _ (Nat.lt_of_lt_of_le h1 hf)
    · exact I.nofs hf q) e
  refine PySem.W.kla_eval hdef ?_
  cases hc : codeAmong pos ps.toList with
  | none =>
    refine PySem.W.kla_makeFunction (mg := X.mg) (c := c) (P := P) (ps := ps) (closure_ok (L.has I.ok)) I.ok.glob (I.mod.glob.keeps I.bk) hcode (TB.code.keeps I.bk) hP' ht hc TB.gP bP fun c' ctv h' tk hx hge hlt hrec htb => ?_
    obtain ⟨c2, oc, vs, t, e2, hoc, hdd, hv⟩ := hrec
    cases e2
    have hsz : s.heap.objs.size ≤ h'.objs.size := Nat.le_trans hge (Nat.le_of_lt hlt)
    have I1 := LamX.inv_table (t' := tk) (more := #[rawInt pos.line, rawInt pos.col, .ref c']) (h' := h') I hP (fun b o hb e => hx b o hb e) htb hge ⟨oc, vs, t, hoc, hdd, hv⟩
    have I2 := I1.laid (a := h'.objs.size) (o := LamL X params body scope h'.objs.size c') (t' := tk) (h' := h'.push (lamO X params body scope ((X.mg "__name__").getD .none) c' ctv)) (fun b o e => Heap.get?_push_of_some _ e) (Nat.le_refl _) (lab hsz (Heap.get?_push_size _ rfl))
    have n2 : h'.objs.size ≠ P := Nat.ne_of_gt (Nat.lt_of_lt_of_le (Heap.lt_size hP') hsz)
    refine ⟨.ref h'.objs.size, _, I2, rfl, h _ c' _ _ (go_table (pos := pos) hm hu hd hP ht ha (I.hok.fresh hge)) ?_ upd_same rfl⟩
    rw [upd_ne (Nat.ne_of_gt hlt), upd_ne n2]
    exact I.hok.fresh hsz
  | some cv =>
    obtain ⟨c', e, hco⟩ := ha pos cv hc
    subst e
    refine PySem.W.kla_makeFunctionHit (mg := X.mg) (c := c) (P := P) (ps := ps) (closure_ok (L.has I.ok)) I.ok.glob (I.mod.glob.keeps I.bk) hcode (TB.code.keeps I.bk) hP' ht hc bP fun ctv h' tk hx hsz => ?_
    have I2 := I.laid (a := h'.objs.size) (o := LamL X params body scope h'.objs.size c') (t' := tk) (h' := h'.push (lamO X params body scope ((X.mg "__name__").getD .none) c' ctv)) (fun b o e => Heap.get?_push_of_some _ (hx b o e)) hsz (lab hsz (Heap.get?_push_size _ rfl))
    exact ⟨.ref h'.objs.size, _, I2, rfl, h _ c' _ _ .refl (I.hok.fresh hsz) hco rfl⟩
end
end Fy
namespace Fy
open PySem PySem.Spec PyProof.Rows L2
section
variable {X : Cx} {pins : List (Addr × Obj)} {σ : L2.St} {H : Hp} {s : Shared}
/-- out of the block, back in the maker's frame -/
theorem blk_back {sc : Scope} {ce : Env} {fp : List Addr} {pins' : List (Addr × Obj)} {σ' : L2.St} {H' : Hp} {s' : Shared} (I : Inv X pins σ H s) (f : ∀ b ∈ fp, FpOk X pins H b) (J : Inv (X.blk s H sc ce fp) pins' σ' H' s') : Inv X pins σ H' s' := by
  refine I.call' J.os J.base J.hok J.bare (ch := fp) fun b hb => ?_
  obtain ⟨_, h1, _, h3, h4, h5⟩ := f b hb
  exact ⟨h3, h1, h4, h5⟩
theorem fp_blk {sc : Scope} {ce : Env} {fp : List Addr} {σ' : L2.St} {H' : Hp} {s' : Shared} (J : Inv (X.blk s H sc ce fp) [] σ' H' s') (n : ∀ b ∈ fp, H' b = none) : ∀ b ∈ fp, FpOk (X.blk s H sc ce fp) [] H' b := by
  intro b hb
  obtain ⟨h1, h2⟩ := J.ok.exf b hb
  refine ⟨n b hb, h1, J.ok.exfs b hb, Or.inl hb, fun x c e => h2 x c e, fun p hp => ?_⟩
  simp at hp
/-- the loop: no item is taken -/
theorem no_loop {elt iter : Expr} {ifs : List Expr} {y : Str} {py pos : Pos} {sc : Scope} {ce : Env} {it a : Addr} {i : Nat} {tt : TT} {ys : List V} {R : Hp → Prop} {acc : Value} {POST : Result → Shared → Prop} {s4 : Shared}
    (hc : X.calm = true) (pg : PG (X.blk s H sc ce [it]) (.Name y py) (gName i)) (pt : PTs (X.blk s H sc ce [it]) ifs tt) (hR : ∀ H', R H' → SqL X.K H' a ys)
    (step : ∀ x ∈ ys, ∀ H', R H' → gName i x (wipe σ [i]) H' fun σ2 H2 => wipe σ2 [i] = wipe σ [i] ∧ tt σ2 H2 fun b H3 => b = false ∧ R H3)
    (J0 : Inv (X.blk s H sc ce [it]) [] (wipe σ [i]) H s4) (st : s4.heap.IsListIter it a 0) (n0 : H it = none) (r0 : R H)
    (fin : ∀ s' H', Inv (X.blk s H sc ce [it]) [] (wipe σ [i]) H' s' → R H' → POST (.ok .next) s') :
    codeAny (model X.prog X.w) X.A (.compLoop (.ListComp elt [⟨.Name y py, iter, ifs, 0⟩] sc pos) 0 (.ref it) acc ce) POST s4 := by
  have T := turn_list (P := X.prog) (w := X.w) (K := X.K) (tg := .Name y py) a it
  have one : ∀ {G : Hp}, G it = none → ∀ b ∈ [it], G b = none := fun h b hb => by
    rw [List.mem_singleton.mp hb]
    exact h
  refine compLoop_any (fun n s' => ∃ k H', Inv (X.blk s H sc ce [it]) [] (wipe σ [i]) H' s' ∧ s'.heap.IsListIter it a k ∧ H' it = none ∧ R H' ∧ k + n = ys.length) ?_ ys.length ⟨0, H, J0, st, n0, r0, Nat.zero_add _⟩
  rintro n s5 ⟨k, G, J, st5, ng, rg, hk⟩
  have ok5 := fp_blk J (one ng)
  have hq := hR G rg
  cases n with
  | zero =>
    refine thnF (T.done (X.blk s H sc ce [it]) rfl rfl rfl hc k [] s5 _ G (fun _ _ => False) J ok5 st5 ⟨ys, hq, by omega⟩) fun r s6 h6 => ?_
    rw [h6.1]
    exact fin s6 G h6.2 rg
  | succ n =>
    have lt : k < ys.length := by omega
    refine thnF (T.item (X.blk s H sc ce [it]) rfl rfl rfl hc k [] s5 _ G (fun _ _ => False) J ok5 st5 ⟨ys, ys[k], hq, by simp [lt]⟩) fun r s6 h6 => ?_
    obtain ⟨u, hr, h6⟩ := h6
    rw [hr]
    refine thnF h6 fun _ s7 h7 => ?_
    obtain ⟨x, G7, J7, rx, ⟨eG, hx⟩, st7, n7⟩ := h7
    rw [eG] at J7 n7
    have hm : x ∈ ys := List.mem_of_getElem? (hx ys hq)
    have P7 := J7.pinned (fp_blk J7 n7) (T.obj _ _ st7)
    refine thnF (pg.run _ s7 _ G x u _ P7 rx (step x hm G rg)) fun _ s8 h8 => ?_
    obtain ⟨σ8, G8, J8, w8, q8⟩ := h8
    refine thnF (pt.run _ s8 σ8 G8 _ J8 q8) fun b s9 h9 => ?_
    obtain ⟨G9, J9, eb, r9⟩ := h9
    rw [eb]
    simp only [Bool.false_eq_true, if_false]
    obtain ⟨oi, ei, _⟩ := T.obj _ _ st7 it (by simp)
    have pin := J9.pin (it, oi) (List.mem_append_right _ (List.mem_append_right _ (mem_pinsAt (by simp) ei)))
    refine ⟨n, Nat.lt_succ_self n, k + 1, G9, (J9.unpinned (pins := [])).weak ?_ (fun j v e => ?_), T.keep _ _ _ st7 (fun b hb o e => ?_), pin.2.1, r9, by omega⟩
    · rw [← wipe_length (σ := σ8) (vs := [i]), w8]
    · rw [← w8] at e
      exact (wipe_some e).1
    · rw [List.mem_singleton.mp hb] at e ⊢
      rw [ei] at e
      cases e
      exact pin.1
/-- into the block, through it, and out -/
theorem no_enter {elt iter : Expr} {ifs : List Expr} {y : Str} {py pos : Pos} {sc : Scope} {it a D : Addr} {i : Nat} {tt : L2.St → TT} {ys : List V} {R : Hp → Prop} {Q : VK}
    (I : Inv X pins σ H s) (hc : X.calm = true) (hN : X.N.Nodup) (ok : BlkOk X.N X.env.scope sc [(y, i)]) (st : s.heap.IsListIter it a 0) (f : FpOk X pins H it) (lt : it < s.heap.objs.size)
    (hg : ∀ (s : Shared) (H : Hp) (C : Addr) (cl : List (Str × Addr)) (fp : List Addr), PG (X.blk s H sc (compEnvC sc cl C X.env) fp) (.Name y py) (gName i))
    (ht : ∀ (pins : List (Addr × Obj)) (σ : L2.St) (s : Shared) (H : Hp) (C : Addr) (cl : List (Str × Addr)) (fp : List Addr), Inv X pins σ H s → (∀ b ∈ fp, FpOk X pins H b) → PTs (X.blk s H sc (compEnvC sc cl C X.env) fp) ifs (tt σ))
    (hR : ∀ H', R H' → SqL X.K H' a ys) (step : ∀ x ∈ ys, ∀ H', R H' → gName i x (wipe σ [i]) H' fun σ2 H2 => wipe σ2 [i] = wipe σ [i] ∧ tt σ σ2 H2 fun b H3 => b = false ∧ R H3) (r0 : R H) (hQ : ∀ H', R H' → Q (.ref D) H') :
    codeAny (model X.prog X.w) X.A (.compStart (.ListComp elt [⟨.Name y py, iter, ifs, 0⟩] sc pos) 0 (.ref it) (.ref D) (compEnvC sc (cellsFrom (s.heap.objs.size + 1) sc.names (cloFrom X.env.cells sc.names [])) s.heap.objs.size X.env))
      (compPost (model X.prog X.w) X.A X.xe none (EP X pins σ Q) (.ref D) s.heap.objs.size) { s with heap := pushCells (s.heap.push { cls := .type "dict", data := .dict #[] }) sc.names } := by
  have ff : ∀ b ∈ [it], FpOk X pins H b ∧ b < s.heap.objs.size := fun b hb => by
    rw [List.mem_singleton.mp hb]
    exact ⟨f, lt⟩
  have J := block_start I ok hN ff
  have st4 : (pushCells (s.heap.push { cls := .type "dict", data := .dict #[] }) sc.names).IsListIter it a 0 := by
    obtain ⟨o, e, r⟩ := st
    exact ⟨o, pushCells_keeps _ _ _ _ (Heap.get?_push_of_some _ e), r⟩
  have T := turn_list (P := X.prog) (w := X.w) (K := X.K) (tg := .Name y py) a it
  refine codeAny_compStart_list ?_ (T.self X.A 0 _ _ _ st4 ?_)
  all_goals refine no_loop (tt := tt σ) (ys := ys) (R := R) hc (hg ..) (ht pins σ s H _ _ _ I fun b hb => (ff b hb).1) hR step J st4 f.1 r0 fun s' H' K' r' => ?_
  all_goals
    obtain ⟨m, hn, _⟩ := K'.loc
    have I' := blk_back I (fun b hb => (ff b hb).1) K'
    obtain ⟨g0, g1, g2, g3, g4, g5⟩ := I.fpOk (H' := H') (Nat.le_refl s.heap.objs.size) K'.free
    exact ⟨m, hn, fun h' sb => ⟨.ref D, H', I'.turned (t' := s'.toks) (fun b o hb e => (sb.2 b hb).trans e) g0 g1 g3 g4 g5, rfl, hQ H' r'⟩⟩
/-- what the reading asks -/
def tNo (K : PySem.W.Frag) (te : TE) (i : Nat) (tt : L2.St → TT) : TE := fun σ H Q => te σ H fun v H1 => ∃ (a : Addr) (ys : List V), v = .ref a ∧ SqL K H1 a ys ∧ ∀ D, H1 D = none → ∃ R : Hp → Prop, R (upd H1 D (.lst [])) ∧ (∀ H', R H' → SqL K H' a ys) ∧
  (∀ x ∈ ys, ∀ H', R H' → gName i x (wipe σ [i]) H' fun σ2 H2 => wipe σ2 [i] = wipe σ [i] ∧ tt σ σ2 H2 fun b H3 => b = false ∧ R H3) ∧ ∀ H', R H' → Q (.ref D) H'
theorem pe_lcNo {elt iter : Expr} {ifs : List Expr} {y : Str} {py pos : Pos} {sc : Scope} {i : Nat} {te : TE} {tt : L2.St → TT} (hc : X.calm = true) (hN : X.N.Nodup) (hi : PE X iter te) (ok : BlkOk X.N X.env.scope sc [(y, i)])
    (hg : ∀ (s : Shared) (H : Hp) (C : Addr) (cl : List (Str × Addr)) (fp : List Addr), PG (X.blk s H sc (compEnvC sc cl C X.env) fp) (.Name y py) (gName i))
    (ht : ∀ (pins : List (Addr × Obj)) (σ : L2.St) (s : Shared) (H : Hp) (C : Addr) (cl : List (Str × Addr)) (fp : List Addr), Inv X pins σ H s → (∀ b ∈ fp, FpOk X pins H b) → PTs (X.blk s H sc (compEnvC sc cl C X.env) fp) ifs (tt σ))
    (hs : ∀ x, foldedSetIterable iter X.env x = pure x := by intro _; rfl) : PE X (.ListComp elt [⟨.Name y py, iter, ifs, 0⟩] sc pos) (tNo X.K te i tt) := by
  refine ⟨fun pins s σ H Q I h => ?_⟩
  have fr : ∀ z ∈ sc.names, z.2 = .free → ∃ c, X.env.cells.lookup z.1 = some c := fun z hz e => I.ok.has _ (ok.free z hz e)
  rw [eval_ListComp]
  refine wpAny_comprehension_free rfl hs (closure_ok fr) ok.kind (fun z hz e => by rw [ok.uniq z hz, e]) ?_
  refine thn (hi.run pins s σ H _ I h) fun u s1 h1 => ?_
  obtain ⟨v, H1, I1, ru, a, ys, ev, hq, q⟩ := h1
  subst ev
  cases ru
  obtain ⟨its, rv, pl, hz⟩ := I1.list hq
  refine wpAny_pyIter_list pl.isList ?_
  have I2 : Inv X pins σ H1 { s1 with heap := s1.heap.push { cls := .type "list_iterator", data := .fields #[.ref a, .int 0 0] } } := I1.kept (t' := s1.toks) fun b o e => Heap.get?_push_of_some _ e
  have st2 : (s1.heap.push { cls := .type "list_iterator", data := .fields #[.ref a, .int 0 0] }).IsListIter s1.heap.objs.size a 0 := ⟨_, Heap.get?_push_size _ rfl, rfl, rfl⟩
  have f2 : FpOk X pins H1 s1.heap.objs.size := I1.fpOk (Nat.le_refl _) (I1.hok.fresh (Nat.le_refl _))
  have lt2 : s1.heap.objs.size < (s1.heap.push { cls := .type "list_iterator", data := .fields #[.ref a, .int 0 0] }).objs.size := by rw [Heap.size_push]; exact Nat.lt_succ_self _
  generalize s1.heap.objs.size = it at st2 f2 lt2 ⊢
  generalize e2 : ({ s1 with heap := s1.heap.push { cls := .type "list_iterator", data := .fields #[.ref a, .int 0 0] } } : Shared) = s2 at I2 ⊢
  have eh : s1.heap.push { cls := .type "list_iterator", data := .fields #[.ref a, .int 0 0] } = s2.heap := by rw [← e2]
  rw [eh] at st2 lt2
  clear e2 eh
  obtain ⟨R, r0, hR, step, hQ⟩ := q s2.heap.objs.size (I2.hok.fresh (Nat.le_refl _))
  have I3 : Inv X pins σ (upd H1 s2.heap.objs.size (.lst [])) { s2 with heap := s2.heap.push { cls := .type "list", data := .seq ([] : List Value).toArray } } :=
    I2.laid (t' := s2.toks) (fun b o e => Heap.get?_push_of_some _ e) (Nat.le_refl _) ⟨Nat.zero_le _, [], 0, .nil, Heap.get?_push_size _ rfl⟩
  refine wpAny_newObj_type (newEnv_comp (no_enter I3 hc hN ok ?_ ⟨?_, f2.2⟩ ?_ hg ht hR step r0 hQ)) (Nat.zero_le _)
  · obtain ⟨o, e, r⟩ := st2
    exact ⟨o, Heap.get?_push_of_some _ e, r⟩
  · rw [upd_ne (Nat.ne_of_lt lt2)]
    exact f2.1
  · rw [Heap.size_push]
    exact Nat.lt_succ_of_lt lt2
end
end Fy
namespace Fy
open PySem PySem.Spec PyProof.Rows L2
open LamX (CodeO TabS Tabs TabB lamCx lamEnv LamS GivesTo TTold codeO_ne)
/-- what stands at f is forgotten -/
def drp (H : Hp) (f : Addr) : Hp := fun b => if b = f then none else H b
section
variable {H : Hp} {f b : Addr} {o : HO} {φ : Heap → Prop}
theorem drp_same : drp H f f = none := if_pos rfl
theorem drp_ne (h : b ≠ f) : drp H f b = H b := if_neg h
theorem drp_none (h : H b = none) : drp H f b = none := by
  unfold drp
  split <;> trivial
theorem drp_get (hf : H f = some (.ext φ)) (h : H b = some o) (n : ∀ ψ, o ≠ .ext ψ) : drp H f b = some o := by
  have e : b ≠ f := fun z => by
    rw [z, hf] at h
    exact n φ (Option.some.inj h).symm
  rw [drp_ne e]
  exact h
theorem drp_tb {TL : List (Addr × Str)} {TG : List Addr} (hf : H f = some (.ext φ)) (hc : ∀ c q, H c = some (CodeO c q) → c ≠ f) (t : Tb TL TG H) : Tb TL TG (drp H f) := by
  refine ⟨fun p hp => ?_, fun P hP => ?_⟩
  · obtain ⟨ps, h1, h2, h3⟩ := t.lam p hp
    refine ⟨ps, drp_get hf h1 (fun _ z => by cases z), h2, fun pos cv e => ?_⟩
    obtain ⟨c, e1, e2⟩ := h3 pos cv e
    exact ⟨c, e1, by rw [drp_ne (hc c _ e2)]; exact e2⟩
  · obtain ⟨ps, h1, h2⟩ := t.gen P hP
    exact ⟨ps, drp_get hf h1 (fun _ z => by cases z), h2⟩
/-- the label is put back -/
theorem Go.back {TL : List (Addr × Str)} {TG : List Addr} {S : Ad} {H' : Hp} (hf : H f = some (.ext φ)) (hc : ∀ c q, H c = some (CodeO c q) → c ≠ f) (g : Go TL TG S (drp H f) H') (n : H' f = none) : Go TL TG S H (upd H' f (.ext φ)) := by
  refine ⟨fun b o e h1 h2 => ?_, fun t => ?_, fun p hp => ?_⟩
  · by_cases z : b = f
    · rw [z, hf] at e
      rw [z, upd_same, e]
    · rw [upd_ne z]
      exact g.keep b o (by rw [drp_ne z]; exact e) h1 h2
  · exact (Go.new (TL := TL) (TG := TG) (S := S) n).tb (g.tb (drp_tb hf hc t))
  · obtain ⟨n1, h1⟩ := upd_none.mp hp
    have := g.free p h1
    rw [drp_ne n1] at this
    exact this
end
section
variable {X : Cx} {pins : List (Addr × Obj)} {σ : L2.St} {H H' : Hp} {s s' : Shared} {f : Addr} {φ : Heap → Prop}
theorem inv_drp (I : Inv X pins σ H s) (hf : H f = some (.ext φ)) : Inv X pins σ (drp H f) s where
  ok := I.ok
  os := I.os
  bare := I.bare
  base := ⟨I.base.keep, I.base.slot, fun b o h1 h2 h3 => drp_none (I.base.free b o h1 h2 h3), I.base.there, fun b xs h => drp_get hf (I.base.tups b xs h) (fun _ z => by cases z), fun b o u h => drp_get hf (I.base.frzs b o u h) (fun _ z => by cases z),
    fun b ps h => (I.base.tbls b ps h).imp fun _ e => drp_get hf e fun _ z => by cases z⟩
  loc := I.loc
  cell := I.cell
  free := drp_none I.free
  freeC := fun x c e => drp_none (I.freeC x c e)
  pin := fun p hp => let q := I.pin p hp; ⟨q.1, drp_none q.2.1, q.2.2⟩
  hok := fun b o e => by
    have ne : b ≠ f := fun z => by
      rw [z, drp_same] at e
      cases e
    rw [drp_ne ne] at e
    exact (I.hok b o e).stay (fun _ _ _ z => z) (fun c z => drp_get hf z fun _ y => by cases y) fun c xs z => drp_get hf z fun _ y => by cases y
  len := I.len
theorem inv_back (I : Inv X pins σ H s) (hf : H f = some (.ext φ)) (J : Inv X pins σ H' s') (n : H' f = none) (l : ∀ H2, ObjOk X.prog X.w H2 s'.heap f (.ext φ)) : Inv X pins σ (upd H' f (.ext φ)) s' := by
  have k : ∀ {b o}, H' b = some o → upd H' f (.ext φ) b = some o := fun {b o} e => by
    rw [upd_ne (ne_of_none e n)]
    exact e
  have kn : ∀ {b}, H' b = none → H b = none → upd H' f (.ext φ) b = none := fun {b} e e2 => by
    rw [upd_ne fun z => by rw [z, hf] at e2; cases e2]
    exact e
  refine ⟨J.ok, J.os, J.bare, ⟨J.base.keep, J.base.slot, fun b o h1 h2 h3 => kn (J.base.free b o h1 h2 h3) (I.base.free b o h1 h2 h3), J.base.there, fun b xs h => k (J.base.tups b xs h), fun b o u h => k (J.base.frzs b o u h), fun b ps h => (J.base.tbls b ps h).imp fun _ e => k e⟩,
    J.loc, J.cell, kn J.free I.free, fun x c e => kn (J.freeC x c e) (I.freeC x c e), fun p hp => let q := J.pin p hp; ⟨q.1, kn q.2.1 (I.pin p hp).2.1, q.2.2⟩, fun b o e => ?_, J.len⟩
  by_cases z : b = f
  · rw [z, upd_same] at e
    rw [z, ← Option.some.inj e]
    exact l _
  · rw [upd_ne z] at e
    exact (J.hok b o e).stay (fun _ _ _ q => q) (fun c q => k q) fun c xs q => k q
end
/-- a lambda of X, with what is known of its body -/
structure LamK (X : Cx) (k : Nat) where
  params : Arguments
  body : Expr
  scope : Scope
  t : XK → TE
  L : LamS X.env.scope scope
  hbind : ∀ (q : Str) (cl : List (Str × Addr)) (pm cv ctv : Value), bindArgs (PySem.W.kla_fn "<lambda>" q params body scope cl pm cv ctv) ⟨[], []⟩ = pure []
  hbody : ∀ (A : Around) (outer : List Env) (s : Shared) (H : Hp) (E : XK) (f c' : Addr), Room k (A.deeper (lamEnv X scope s.heap.objs.size f c')) → PE (lamCx X A outer s H E scope f c') body (t E)
/-- what the reading asks of told(f): f one of the lambdas -/
def tTold (X : Cx) (k i : Nat) (CS : Addr) (ret : Str) (σ : L2.St) : TE := fun σY H Q => ∃ (f c' : Addr) (M : LamK X k), σY[i]? = some (some (.ref f)) ∧ H f = some (LamL X M.params M.body M.scope f c') ∧ H c' = some (CodeO c' (lamQ X)) ∧
  ((∀ c q, H c = some (CodeO c q) → c ≠ f) → TTold X.K CS ret (fun E H' Q' => M.t E σ H' Q') (drp H f) fun v H' => H' f = none → Q v (upd H' f (LamL X M.params M.body M.scope f c')))
section
variable {X : Cx}
theorem pe_toldV {x a e ret fn : Str} {CS : Addr} {k j i : Nat} {dt : He.DefD} {pf p pos p1 p2 p3 p4 p5 p6 p7 p8 : Pos} {Ng : List Str} {pins : List (Addr × Obj)} {σ : L2.St} {s3 : Shared} {H3 : Hp} {scope : Scope} {ce : Env} {fp : List Addr}
    (I3 : Inv X pins σ H3 s3) (f3 : ∀ b ∈ fp, FpOk X pins H3 b)
    (F : ∃ fd, FunD X.K dt.name dt.qual dt.params dt.body dt.scope (dt.dvs X.K) (dt.kws X.K) (He.fAd X.K dt.at_) fd) (hx1 : dt.name = x) (hx2 : dt.qual = x) (hd : dt.dfl = []) (hkw : dt.kwd = [])
    (hbd : dt.body = [.Try [.Return (some (.Call (.Name a p1) [] [] p2)) p3] [.ExceptHandler (some (.Name e p4)) none [.Return (some (.Constant (.str ret) j p5)) p6] p7] [] [] p8])
    (hbi : ∀ (kV doc pm : Value) (an : Option Addr) (cdv ct : Value) (us : List Value), us.length = [a].length → bindArgs (PySem.W.fnOf dt.name dt.qual dt.params dt.body dt.scope .none kV doc pm an cdv ct) ⟨us, []⟩ = pure ([a].zip us))
    (hg : Gl (X.blk s3 H3 scope ce fp) x) (hm : X.mg x = some (.ref (He.fAd X.K dt.at_))) (Sg : FnScope Ng [a] dt.scope) (hNg : Ng[0]? = some a) (hva : Vis dt.scope a) (hge : dt.scope.names.lookup e = some .globalImplicit) (hme : X.mg e = some (.ref CS)) (h0 : ∀ f : Addr, (L2.start Ng [V.ref f])[0]? = some (some (V.ref f)))
    (hr : Room (k + 2) X.A) (hi : X.N[i]? = some fn) (hvf : Vis ce.scope fn)
    (hdb : (x == ("__debug__" : Str)) = false := by decide) (hda : (a == ("__debug__" : Str)) = false := by decide) (hcd : (a == ("__classdict__" : Str)) = false := by decide) (hde : (e == ("__debug__" : Str)) = false := by decide) (hdf : (fn == ("__debug__" : Str)) = false := by decide) (hcf : (fn == ("__classdict__" : Str)) = false := by decide) :
    PE (X.blk s3 H3 scope ce fp) (.Call (.Name x p) [.Name fn pf] [] pos) (tTold X k i CS ret σ) := by
  obtain ⟨fd, F⟩ := F
  have hb : Binds X.K fd [a] [] := by
    have F' := F
    unfold He.DefD.dvs He.DefD.kws at F'
    rw [hd, hkw] at F'
    exact F'.bindsN hbi
  obtain ⟨oc, od, dV, kV, doc, pm, an, cdv, ct, osl, rfl, lk, hcdv, _, _⟩ := F.ex
  have hk := F.kp
  subst hx1
  rw [hx2] at lk hcdv hb
  refine ⟨fun pinsY s σY H Q I h => ?_⟩
  obtain ⟨f, c', M, hσ, hl, hco, h⟩ := h
  refine wpAny_Call_Name_kw (ld_glob I hg hm ?_ hdb)
  refine PySem.W.callWith_K (h₀ := X.base) I.ok.mod.kin hk ?_ (by rfl) (by rfl)
  show wpAny _ _ (spliced ((false, eval (.Name fn pf) (X.blk s3 H3 scope ce fp).env) :: backTo pos (starEach [] (X.blk s3 H3 scope ce fp).env))) _ _ s
  refine Calls.spliced_cons (thn ((pe_var (X := X.blk s3 H3 scope ce fp) (pos := pf) (i := i) hi hvf hdf hcf).run pinsY s σY H (fun v H1 => v = .ref f ∧ H1 = H) I ⟨.ref f, hσ, rfl, rfl⟩) fun u s1 ⟨v, H1, I1, r1, ev, eH⟩ => ?_)
  subst ev
  subst eH
  obtain rfl : u = Value.ref f := r1
  refine Calls.spliced_nil ⟨I1.kIn, ?_⟩
  -- what the label says; it is forgotten
  obtain ⟨⟨nfr, pm', ctv, hf⟩, _, _⟩ := I1.hok f _ hl
  have nc : ∀ c q, H1 c = some (CodeO c q) → c ≠ f := fun c q e z => by
    subst z
    obtain ⟨⟨ob, vs, t, e1, e2, _⟩, _, _⟩ := I1.hok c _ e
    rw [hf] at e1
    rw [← Option.some.inj e1] at e2
    cases e2
  have lab : ∀ {h' : Heap} (H2 : Hp), h'.get? f = some (lamO X M.params M.body M.scope pm' c' ctv) → ObjOk X.prog X.w H2 h' f (LamL X M.params M.body M.scope f c') := fun {h'} H2 e => lamL_ok nfr e
  have IX := inv_drp (blk_back I3 f3 I1) hl
  have IY := inv_drp I1 hl
  have nf : drp H1 f f = none := drp_same
  have hco' : drp H1 f c' = some (CodeO c' (lamQ X)) := by rw [drp_ne (nc c' _ hco)]; exact hco
  have h := h nc
  have hG : GivesTo X Ng dt.name dt.scope (He.fAd X.K dt.at_) cdv dt.body a (lamQ X) (TTold X.K CS ret) := by
    rw [hbd]
    exact LamX.told_gives hge hme hde h0
  have rc : codeAny (model X.prog X.w) X.A (.call (.ref (He.fAd X.K dt.at_)) ⟨[.ref f], []⟩) (CR C8.CX0 X.stack X.prog X.w (drp H1 f) s1 (fun v H' => H' f = none → Q v (upd H' f (LamL X M.params M.body M.scope f c'))) C8.E0) s1 := by
    refine LamX.run_ofS (N := Ng) (ps := [a]) (us := [.ref f]) (vs := [.ref f]) lk hcdv Sg hr IX.env0 (hb s1 [.ref f] IX.kIn rfl) (.cons rfl .nil) rfl fun hr' => ?_
    obtain ⟨t', ht', hq'⟩ := hG f c' s1 (drp H1 f) _ (fun E H' Q' => M.t E σ H' Q') (fun W pn xe E p1 p2 tk hW => LamX.pe_act (i := 0) IX M.L hf nf nfr (M.hbind _ _ _ _ _) tk hW hr' (fun A outer s H hr2 => M.hbody A outer s H E f c' hr2) hNg hva hda hcd) hco' h
    exact ⟨t', ht'.nox, hq'⟩
  refine wpAny_call (codeAny_mono rc fun r s2 hq => ?_)
  cases r with
  | error e => exact (show False from hq).elim
  | ok fl =>
    cases fl with
    | next => exact False.elim hq
    | brk => exact False.elim hq
    | cont => exact False.elim hq
    | ret u =>
      have un : ∃ H2, H2 f = none ∧ s2.heap.get? f = some (lamO X M.params M.body M.scope pm' c' ctv) ∧ CE X.stack X.prog X.w (drp H1 f) s1 (fun v H' => H' = H2 ∧ Q v (upd H2 f (LamL X M.params M.body M.scope f c'))) u s2 := by
        obtain ⟨v, H2, q1, q2, q3, q4, q5, q6⟩ := hq
        have n2 := q3.free f _ hf nf (by simp)
        exact ⟨H2, n2, q3.keep f _ hf nf nfr (by simp), v, H2, q1, q2, q3, q4, q5, rfl, q6 n2⟩
      obtain ⟨H2, n2, e2, ce⟩ := un
      obtain ⟨v, H2', J, rv, eH, q⟩ := IY.after ce
      subst eH
      exact ⟨v, _, inv_back I1 hl J n2 fun H2 => lab H2 e2, rv, q⟩
end
end Fy
namespace Fy
open PySem PySem.Spec PyProof.Rows L2
open LamX (CodeO TabS Tabs TabB lamCx lamEnv LamS GivesTo TTold codeO_ne)
/-- the lambda M of X stands at f -/
def LamM (X : Cx) {k : Nat} (M : LamK X k) (f c' : Addr) : HO := LamL X M.params M.body M.scope f c'
def tLamM (X : Cx) (TL : List (Addr × Str)) (TG : List Addr) {k : Nat} (M : LamK X k) : TE := fun σ H Q => Tb TL TG H ∧ ∀ f c' H1 H2, Go TL TG (fun _ => False) H H1 → H1 f = none → H1 c' = some (CodeO c' (lamQ X)) → H2 = upd H1 f (LamM X M f c') → Q (.ref f) H2
/-- what a written list of lambdas holds -/
def lamB : Stmt → Nat → Expr
  | .Assign _ (.List es _) _, j => match es.getD j (.Constant .none 0 ⟨0, 0, 0, 0⟩) with
    | .Lambda _ b _ _ => b
    | e => e
  | _, _ => .Constant .none 0 ⟨0, 0, 0, 0⟩
def lamSc (sc : Scope) : Stmt → Nat → Scope
  | .Assign _ (.List es _) _, j => match es.getD j (.Constant .none 0 ⟨0, 0, 0, 0⟩) with
    | .Lambda _ _ s _ => s
    | e => sc
  | _, _ => sc
def lamP (p : Arguments) : Stmt → Nat → Arguments
  | .Assign _ (.List es _) _, j => match es.getD j (.Constant .none 0 ⟨0, 0, 0, 0⟩) with
    | .Lambda q _ _ _ => q
    | e => p
  | _, _ => p
def lamL : Stmt → Nat → Expr
  | .Assign _ (.List es _) _, j => es.getD j (.Constant .none 0 ⟨0, 0, 0, 0⟩)
  | _, _ => .Constant .none 0 ⟨0, 0, 0, 0⟩
section
variable {X : Cx} {TL : List (Addr × Str)} {TG : List Addr}
theorem pe_lamM {c P : Addr} {k : Nat} {params : Arguments} {body : Expr} {scope : Scope} {pos : Pos} {t : XK → TE} (TB : TabB X.base X.mg c P) (hcode : X.env.code = .ref c)
    (hm : (P, lamQ X) ∈ TL) (hu : ∀ p ∈ TL, p.1 = P → p.2 = lamQ X) (hd : P ∉ TG) (L : LamS X.env.scope scope) (hdef : defaultsOf params X.env = ([], []))
    (hbind : ∀ (q : Str) (cl : List (Str × Addr)) (pm cv ctv : Value), bindArgs (PySem.W.kla_fn "<lambda>" q params body scope cl pm cv ctv) ⟨[], []⟩ = pure [])
    (hbody : ∀ (A : Around) (outer : List Env) (s : Shared) (H : Hp) (E : XK) (f c' : Addr), Room k (A.deeper (lamEnv X scope s.heap.objs.size f c')) → PE (lamCx X A outer s H E scope f c') body (t E)) :
    PE X (.Lambda params body scope pos) (tLamM X TL TG (k := k) ⟨params, body, scope, t, L, hbind, hbody⟩) := pe_lamV TB hcode hm hu hd L hdef
/-- where G holds, the lambda raises what is caught, and changes nothing of old -/
def isBad (X : Cx) (CS : Addr) (ret : Str) (G : L2.St → Hp → Prop) (TL : List (Addr × Str)) (TG : List Addr) (t : XK → TE) : Prop := ∀ σ H Q, G σ H → (∀ H', Go TL TG (fun _ => False) H H' → Q (.str ret) H') →
  t (fun cls _ H' => ∃ b, PySem.W.exmOne X.K cls (.ref CS) = some b ∧ (b = true → Q (.str ret) H') ∧ (b = false → False)) σ H Q
def BadF (X : Cx) (k : Nat) (CS : Addr) (ret : Str) (G : L2.St → Hp → Prop) (TL : List (Addr × Str)) (TG : List Addr) (f : Addr) (H : Hp) : Prop :=
  ∃ (c' : Addr) (M : LamK X k), H f = some (LamM X M f c') ∧ H c' = some (CodeO c' (lamQ X)) ∧ isBad X CS ret G TL TG M.t
variable {k : Nat} {CS : Addr} {ret : Str} {G : L2.St → Hp → Prop} {H H1 H2 : Hp} {f c' : Addr} {fs : List Addr}
theorem BadF.go (B : BadF X k CS ret G TL TG f H) (g : Go TL TG (fun _ => False) H H1) : BadF X k CS ret G TL TG f H1 := by
  obtain ⟨c', M, h1, h2, h3⟩ := B
  exact ⟨c', M, g.keep _ _ h1 (by intro _ z; unfold LamM LamL at z; cases z) id, g.keep _ _ h2 (fun ps => codeO_ne ps) id, h3⟩
theorem bad_nil : ∀ x : Addr, x ∈ ([] : List Addr) → BadF X k CS ret G TL TG x H := fun _ z => (by cases z)
/-- one lambda more -/
theorem bad_step (M : LamK X k) (B : ∀ x ∈ fs, BadF X k CS ret G TL TG x H) (hM : isBad X CS ret G TL TG M.t) (tb : Tb TL TG H) (g : Go TL TG (fun _ => False) H H1) (fn : H1 f = none) (hc : H1 c' = some (CodeO c' (lamQ X))) (e : H2 = upd H1 f (LamM X M f c')) :
    (∀ x : Addr, x ∈ fs ++ [f] → BadF X k CS ret G TL TG x H2) ∧ Go TL TG (fun _ => False) H H2 ∧ Tb TL TG H2 := by
  subst e
  have g2 := g.trans (Go.new (o := LamM X M f c') fn)
  refine ⟨fun x hx => ?_, g2, g2.tb tb⟩
  rcases List.mem_append.mp hx with z | z
  · exact (B x z).go g2
  · rw [List.mem_singleton.mp z]
    exact ⟨c', M, upd_same, by rw [upd_ne (ne_of_none hc fn)]; exact hc, hM⟩
theorem tTold_bad {i : Nat} {σ σY : L2.St} {Q : VK} (gd : ∀ {σ : L2.St} {H : Hp} {f : Addr} {φ : Heap → Prop}, H f = some (.ext φ) → (∀ c q, H c = some (CodeO c q) → c ≠ f) → G σ H → G σ (drp H f)) (hσ : σY[i]? = some (some (.ref f))) (B : BadF X k CS ret G TL TG f H) (g : G σ H)
    (h : ∀ H', Go TL TG (fun _ => False) H H' → Q (.str ret) H') : tTold X k i CS ret σ σY H Q := by
  obtain ⟨c', M, h1, h2, h3⟩ := B
  exact ⟨f, c', M, hσ, h1, h2, fun nc => h3 σ (drp H f) (fun v H' => H' f = none → Q v (upd H' f (LamL X M.params M.body M.scope f c'))) (gd h1 nc g) fun H' g' n => h _ (g'.back h1 nc n)⟩
end
end Fy
namespace Fy
open PySem PySem.Spec PyProof.Rows L2
open GxR (TabG Tabbed)
section
variable {P : Program} {w : World} {K : PySem.W.Frag} {mg : Str → Option Value} {base : Heap} {k : Nat} {ps N : List Str} {sp : Sp}
theorem fnOk_of {d : He.DefD} {fd : FuncData} (D : FunD K d.name d.qual d.params d.body d.scope (d.dvs K) (d.kws K) (He.fAd K d.at_) fd) (S : FnScope N ps d.scope)
    (len : ∀ vs H Q E, sp vs H Q E → vs.length = ps.length)
    (hbody : ∀ (A : Around) (outer : List Env) (s : Shared) (H : Hp) (vs : List V) (Q : VK) (E : XK), Room k (A.deeper (envOfC d.qual d.scope s.heap.objs.size (He.fAd K d.at_) (.ref (He.codeOf K d.at_)))) → sp vs H Q E →
      ∃ t, PSs (bodyX P w K mg base N d A outer s H E) d.body t ∧ t { nx := fun _ H' => Q .non H', rt := Q } (L2.start N vs) H) : FnOk P w K mg base (L2.CX P w) (k + 1) (He.fAd K d.at_) fd ps sp := by
  obtain ⟨oc, od, dV, kV, doc, pm, an, cdv, ct, osl, rfl, lk, hcd, _, _⟩ := D.ex
  obtain ⟨c, rfl⟩ := He.codeIn_ref hcd
  have ec : He.codeOf K d.at_ = c := He.codeOf_eq lk rfl
  refine fn_of lk hcd S len fun A outer s H vs Q E hr hsp => ?_
  have q := hbody A outer s H vs Q E (by rw [ec]; exact hr) hsp
  unfold bodyX at q
  rw [ec] at q
  exact q
theorem tb_empty {TL : List (Addr × Str)} {TG : List Addr} {H : Hp} (h1 : ∀ q ∈ TL, H q.1 = some (.tbl #[])) (h2 : ∀ q ∈ TG, H q = some (.tbl #[])) : Tb TL TG H :=
  ⟨fun q hq => ⟨#[], h1 q hq, trivial, fun pos cv z => by cases z⟩, fun q hq => ⟨#[], h2 q hq, trivial⟩⟩
/-- the law's place, behind the head -/
theorem lawAt_of {l : PySem.W.OpenLaw} {h : Heap} {n : Nat} {fa : List He.Fa} {fn : List He.DefD} {tf : List He.Defn} {ex : PySem.W.Frag → Bool} {TL : List (Addr × Str)} {TG : List Addr} {d : He.DefD} {x : Str} {f : Addr} {fd : FuncData}
    (KX : K.In h) (c : He.SaysX fa fn [] tf ex w h K) (hf : f = He.fAd K d.at_) (hb : ∀ (s : Shared) (u : Value), BindsTo s fd ⟨[u], []⟩ [(x, u)])
    (hTL : ∀ q ∈ TL, ∃ p ∈ tf, q.1 = (He.cT K p).2) (hTG : ∀ q ∈ TG, ∃ p ∈ tf, q = (He.cT K p).2)
    (hsp : ∀ (H : Hp) (a : Addr) (ns : List Int), ns.length ≤ n → (∀ z ∈ ns, Builtin.Int.intBits z ≤ 1048576) → SqL K H a (ns.map V.int) → Tb TL TG H → sp [.ref a] H (fun v _ => v = .bl true) fun _ _ _ => False)
    (hF : ∀ base : Heap, K.In base → base.Ns mainGlobals mg → (∀ p ∈ tf, LamX.TabB base mg (He.cT K p).1 (He.cT K p).2) → FnOk l.prog w K mg base (L2.CX l.prog w) k (He.fAd K d.at_) fd [x] sp) :
    LamX.LawAtS l w K (L2.CX l.prog w) k n x mg f h := by
  subst hf
  refine ⟨fd, tf.map (He.cT K), sp, fun p hp => ?_, fun p hp => ?_, fun p hp => ?_, hb, fun H a ns h1 h2 h3 h4 => ?_, fun base KB GB TB => hF base KB GB fun p hp => TB _ (List.mem_map.mpr ⟨p, hp, rfl⟩)⟩
  · obtain ⟨q, hq, rfl⟩ := List.mem_map.mp hp
    exact c.empty q hq
  · obtain ⟨q, hq, rfl⟩ := List.mem_map.mp hp
    exact c.out q hq
  · obtain ⟨q, hq, rfl⟩ := List.mem_map.mp hp
    exact PySem.W.codeHd_of_K KX (c.hd q hq)
  · refine hsp H a ns h1 h2 h4 (tb_empty (fun q hq => ?_) fun q hq => ?_)
    · obtain ⟨p, hp, e⟩ := hTL q hq
      rw [e]
      exact h3 _ (List.mem_map.mpr ⟨p, hp, rfl⟩)
    · obtain ⟨p, hp, e⟩ := hTG q hq
      rw [e]
      exact h3 _ (List.mem_map.mpr ⟨p, hp, rfl⟩)
theorem cx_false {P : Program} {w : World} {H : Hp} {s : Shared} {e : Value} {s' : Shared} (h : L2.CX P w [] H s (fun _ _ _ => False) e s') : False := by
  obtain ⟨_, _, _, _, _, _, _, _, _, _, _, _, z⟩ := h
  exact z
end
end Fy
namespace Fy
open PySem PySem.Spec PyProof.Rows L2
open GxR (TabG Tabbed)
/-- the view d.values() at p -/
def valsO (p d : Addr) : HO := .ext fun h => h.IsValuesView p d
def rValues : V → List V → Hp → VK → Prop := fun x xs H Q => ∃ (a : Addr) (kvs : List (Key × V)), x = .ref a ∧ xs = [] ∧ H a = some (.dK kvs) ∧ ∀ p, H p = none → Q (.ref p) (upd H p (valsO p a))
def rSumV : List V → Hp → VK → Prop := fun xs H Q => ∃ (p a : Addr) (kvs : List (Key × V)) (ns : List Int), xs = [.ref p] ∧ H p = some (valsO p a) ∧ H a = some (.dK kvs) ∧ kvs.map (·.2) = ns.map V.int ∧ Q (.int ns.sum) H
section
variable {X : Cx}
theorem mt_values : MtR X "dict.values" rValues := by
  intro pins s σ H x xs v us Q I rx rxs ⟨a, kvs, ex, exs, ha, q⟩
  subst ex
  subst exs
  cases rx
  cases rxs
  obtain ⟨_, lo, vs, rel, D⟩ := dk_of I.hok ha
  have new : (s.heap.push { cls := .type "dict_values", data := .fields #[.ref a] }).get? s.heap.objs.size = some { cls := .type "dict_values", data := .fields #[.ref a] } := Heap.get?_push_size _ rfl
  have J := I.laid (a := s.heap.objs.size) (o := valsO s.heap.objs.size a) (t' := s.toks) (h' := s.heap.push { cls := .type "dict_values", data := .fields #[.ref a] }) (fun b u e => Heap.get?_push_of_some _ e) (Nat.le_refl _)
    ⟨⟨_, new, rfl, rfl⟩, ⟨_, new⟩, fun h1 h2 ⟨o, e, r⟩ k => ⟨o, k o e, r⟩⟩
  exact call_meetsIn F.slot_dict_values D.typeIs F.entry_dict_values (F.args_dict_values_1 _) (meets_dict_values (mixKind X.prog X.w) a lo) ⟨⟨vs, D⟩, .ref s.heap.objs.size, _, J, rfl, q _ (I.hok.fresh (Nat.le_refl _))⟩
theorem cr_sumV (hc : X.calm = true) : CallR X (.builtin "sum") rSumV := by
  intro pins s σ H xs us Q I r ⟨p, a, kvs, ns, exs, hp, ha, hv, q⟩
  subst exs
  obtain ⟨u, rfl, ru⟩ := vals1 r
  cases ru
  have view : s.heap.IsValuesView p a := (I.hok p _ hp).1
  obtain ⟨_, lo, vs, rel, D⟩ := dk_of I.hok ha
  obtain ⟨ep, dat⟩ := D.dictAt
  have lt : a < s.heap.objs.size := let ⟨o, es, e, _⟩ := dat; Heap.lt_size e
  have hl : vs.length = ns.length := by
    have e := congrArg List.length hv
    rw [List.length_map, List.length_map] at e
    rw [← rel.length, e]
  refine call_sum_walkAnyS (wpAny_pyIter_values view dat ⟨_, _, _, _, _, _, _, fun j => (ns[j]?).getD 0, rfl, (Walks.dictValues (knd := mixKind X.prog X.w) (A := X.A.in1) (I.ok.hd hc) s.heap.objs.size a (Nat.ne_of_lt lt) vs ep).toS,
    ⟨⟨_, Heap.get?_push_size _ rfl, rfl, rfl⟩, dat.keep fun b u e => Heap.get?_push_of_some _ e⟩, fun b hb => ?_, fun i v hiv => ?_, fun s' t' hm => ?_⟩)
  · show b < (s.heap.push _).objs.size
    rw [Heap.size_push]
    rcases List.mem_cons.mp hb with z | z
    · rw [z]; exact Nat.lt_succ_self _
    · rw [List.mem_singleton.mp z]; exact Nat.lt_succ_of_lt lt
  · obtain ⟨k, hk⟩ := hiv
    obtain ⟨x, h1, h2⟩ := KV.at' rel hk
    have e1 : (kvs.map (·.2))[i]? = some x := by rw [List.getElem?_map, h1] <;> rfl
    rw [hv] at e1
    obtain ⟨n, e2, t, e3⟩ := int_at e1 h2
    refine ⟨t, ?_⟩
    show v = Value.int ((ns[i]?).getD 0) t
    rw [e3, e2] <;> rfl
  · obtain ⟨h', tk, rfl, hk⟩ := PySem.W.moved_old rfl rfl hm
    have J : Inv X pins σ H { s with heap := h', toks := tk } := I.kept hk
    refine ⟨.int ns.sum, H, J, ⟨t', ?_⟩, q⟩
    rw [hl, preSum_ints ns ns.length (Nat.le_refl _), List.take_length]
/-- the least of some ints: the first place that none is below -/
theorem argBest_min (f : Nat → Int) (n : Nat) : ∀ j, j ≤ n → f (argBest (fun i j => decide (f i < f j)) n) ≤ f j := (argBest_lt f n).2
def cMin : List V → Hp → VK → Prop := fun ys H Q => ∃ ns : List Int, ys = ns.map V.int ∧ ns ≠ [] ∧ ∀ m, m ∈ ns → (∀ y ∈ ns, m ≤ y) → Q (.int m) H
theorem tk_min : Taker X (.builtin "min") cMin := by
  intro pins σ H1 P g s Q h
  obtain ⟨ys, fp, wr, G, F, St, W, hst, hfp, hgm, hty, hF, H2, hT, ⟨ns, rfl, hn, q⟩, hI⟩ := h
  have hl : 0 < (ns.map V.int).length := by
    rw [List.length_map]
    exact List.length_pos_iff.mpr hn
  have hv : ∀ j y, F j y → ∃ t, y = .int ((ns[j]?).getD 0) t ∧ j < ns.length := fun j y hy => by
    obtain ⟨x, e, r⟩ := hF j y hy
    obtain ⟨n, e1, t, e2⟩ := int_at e r
    exact ⟨t, by rw [e2, e1] <;> rfl, (List.getElem?_eq_some_iff.mp e1).1⟩
  refine call_min_walkS (W.in4_1.self 0 _ _ _ hst ⟨g, fp, wr, G, _, F, St, _, rfl, W.in4_1, hst, hfp, hl, CmpOf.ints_lt (fun j => (ns[j]?).getD 0) fun j y hy => let ⟨t, e, _⟩ := hv j y hy; ⟨t, e⟩, fun v s' hP hm => ?_⟩)
  obtain ⟨t, e, lt⟩ := hv _ v hP
  refine ⟨.int _, H2, hI s' hm, ⟨t, e⟩, q _ ?_ fun y hy => ?_⟩
  · rw [List.getElem?_eq_getElem lt]
    exact List.getElem_mem _
  · obtain ⟨j, hj, e2⟩ := List.mem_iff_getElem.mp hy
    have := argBest_min (fun j => (ns[j]?).getD 0) ((ns.map V.int).length - 1) j (by rw [List.length_map]; omega)
    rw [← e2]
    simpa [hj] using this
end
section
variable {X : Cx}
abbrev Blk5 (X : Cx) (scope : Scope) (G : Cx → Prop) : Prop := ∀ (s : Shared) (H : Hp) (C : Addr) (cl : List (Str × Addr)) (fp : List Addr), G (X.blk s H scope (compEnvC scope cl C X.env) fp)
theorem ps_setDc {i : Nat} {y : Str} {py : Pos} {kx vx tg iter : Expr} {ifs : List Expr} {scope : Scope} {own : List (Str × Nat)} {pos spos : Pos} {wi : TI} {g : TG} {tt : TT} {tk tv : TE} (hc : X.calm = true) (hN : X.N.Nodup) (hy : X.N[i]? = some y) (hl : X.env.scope.names.lookup y = some .local)
    (hsw : swapsWith (.DictComp kx vx [⟨tg, iter, ifs, 0⟩] scope pos) (some (.Name y py)) spos.line X.env = pure true) (hi : PI X tg iter wi) (ok : BlkOk X.N X.env.scope scope own)
    (hg : Blk5 X scope fun Y => PG Y tg g) (ht : Blk5 X scope fun Y => PTs Y ifs tt) (hk : Blk5 X scope fun Y => PE Y kx tk) (hv : Blk5 X scope fun Y => PE Y vx tv) (hs : ∀ x, foldedSetIterable iter X.env x = pure x := by intro _; rfl) :
    PS X (.Assign [.Name y py] (.DictComp kx vx [⟨tg, iter, ifs, 0⟩] scope pos) spos) (tAsg (tDc wi g tt tk tv (own.map (·.2))) (gName i)) := ⟨fun pins s σ H D I h => by
  rw [exec_Assign_Name_used _ _ _ _ hsw]
  have run := dc_core (pos := pos) (pos' := firstIterPos [⟨tg, iter, ifs, 0⟩] pos) (use := some (assign (.Name y py) X.env)) (Qf := fun _ s' => SP X pins D .next s') (Q := fun x H1 => gName i x σ H1 D.nx) hc hN I hi ok hg ht hk hv hs h fun L C s' m H' J q hn f =>
    wpAny_assign_Name (store_ok2 (v := V.ref L) J hN hy (.inl hl) rfl (fun s2 J2 ⟨a, sb, ha⟩ => by
      have nC : C ≠ a := ha.elim (fun z => by rw [z]; exact f.2.1) fun z e => f.2.2.2.2.1 y a z e.symm
      exact ⟨m, hn.sameBut sb nC, fun h3 sb3 => ⟨_, H', J2.turned (t' := s2.toks) (fun b o hb e => (sb3.2 b hb).trans e) f.1 f.2.1 f.2.2.2.1 f.2.2.2.2.1 f.2.2.2.2.2, q⟩⟩) (.inr hl))
  exact wpAny_bind (wpAny_standAt (wpAny_bind (wpAny_bind (thn run fun _ s' hq => wpAny_pure (wpAny_pure hq)))))⟩
theorem swD_true {kx vx : Expr} {gs : List Comprehension} {scope : Scope} {pos py : Pos} {y : Str} {l : Nat} {env : Env} (hk : env.scope.kind = .function) (hy : env.scope.names.lookup y = some .local) (hl : (py.line == pos.line) = true)
    (ha : (scope.names.any fun (n, k) => n == y && (k == .local || k == .cell)) = false) : swapsWith (.DictComp kx vx gs scope pos) (some (.Name y py)) l env = pure true := by
  have h1 : env.kindOf y = some .local := hy
  have h2 : env.blockKind = .function := by
    unfold Env.blockKind
    rw [hk] <;> rfl
  simp only [swapsWith, h1, h2, ha, Expr.pos, hl] <;> rfl
end
/-- a dict comprehension as a fold -/
theorem dc_fold {β : Type} {J : It} {G : Hp → Prop} {g : TG} {tt : TT} {tk tv : TE} {vs : List Nat} {σ : L2.St} {H1 : Hp} {D : Addr} {Qd : Hp → Prop} (v : β → V) (ys : List β) {n : Nat} (hn : n = ys.length) (w : Walk J n G (YAt (ys.map v))) (Rp : List β → Hp → Prop) (h0 : Rp [] (upd H1 D (.dK []))) (hG : ∀ a H, Rp a H → G H)
    (hs : ∀ pre y post H, ys = pre ++ y :: post → Rp pre H → g (v y) (wipe σ vs) H fun σ2 H2 => wipe σ2 vs = wipe σ vs ∧ tt σ2 H2 fun b H3 =>
      if b = true then tk σ2 H3 fun y' H4 => tv σ2 H4 fun z H5 => ∃ kvs k, y' = kV k ∧ H5 D = some (.dK kvs) ∧ kvs.length < sizeLine ∧ Rp (pre ++ [y]) (upd H5 D (.dK (putK kvs k z))) else Rp (pre ++ [y]) H3) (hd : ∀ H, Rp ys H → Qd H) :
    ∃ W : Nat → Nat → Hp → Prop, (∃ m, W 0 m (upd H1 D (.dK []))) ∧ ∀ i m H, W i m H →
      (J.stop i H ∧ Qd H) ∨ (J.go i H ∧ ∃ Nx : Hp → Prop, (∀ H', Nx H' → ∃ m', m' < m ∧ W (i + 1) m' H') ∧ ∀ x H', J.yld i H x H' → g x (wipe σ vs) H' fun σ2 H2 => wipe σ2 vs = wipe σ vs ∧ tt σ2 H2 fun b H3 =>
        if b = true then tk σ2 H3 fun y H4 => tv σ2 H4 fun z H5 => ∃ kvs k, y = kV k ∧ H5 D = some (.dK kvs) ∧ kvs.length < sizeLine ∧ Nx (upd H5 D (.dK (putK kvs k z))) else Nx H3) := by
  subst hn
  refine ⟨fun i m H => m = ys.length - i ∧ i ≤ ys.length ∧ Rp (ys.take i) H, ⟨ys.length, by simp, Nat.zero_le _, h0⟩, ?_⟩
  rintro i m H ⟨rfl, hi, p⟩
  have q := hG _ H p
  by_cases hlt : i < ys.length
  · refine .inr ⟨w.goes i H hlt q, fun H => Rp (ys.take (i + 1)) H, fun H' p' => ⟨ys.length - (i + 1), by omega, rfl, hlt, p'⟩, fun x H' y => ?_⟩
    obtain ⟨e, e1⟩ := w.yields i H x H' hlt q y
    subst e
    rw [List.getElem?_map, List.getElem?_eq_getElem hlt] at e1
    have e1 : v ys[i] = x := Option.some.inj e1
    subst e1
    have e2 : ys = ys.take i ++ ys[i] :: ys.drop (i + 1) := by rw [← List.drop_eq_getElem_cons hlt, List.take_append_drop]
    have r := hs (ys.take i) ys[i] (ys.drop (i + 1)) H' e2 p
    rw [← List.take_succ_eq_append_getElem hlt] at r
    exact r
  · have e : i = ys.length := by omega
    subst e
    exact .inl ⟨w.stops H q, hd H (by rw [List.take_length] at p; exact p)⟩
theorem iteT' {b : Bool} {A B : Prop} (h : b = true) (a : A) : if b = true then A else B := by rw [if_pos h]; exact a
theorem iteF' {b : Bool} {A B : Prop} (h : b = false) (a : B) : if b = true then A else B := by rw [if_neg (by rw [h]; decide)]; exact a
end Fy
namespace Fy
open PySem PySem.Spec PyProof.Rows L2
def PrAt (H : Hp) (L : Addr) (ps : List (Str × V)) : Prop := ∃ as : List Addr, H L = some (.lst (as.map V.ref)) ∧ Paired (fun a p => H a = some (.tup [.str p.1, p.2])) as ps
section
variable {TL : List (Addr × Str)} {TG : List Addr} {S : Ad} {H H' : Hp} {L p : Addr} {ps : List (Str × V)} {n : Str} {v : V}
theorem paired_len {α β : Type} {F : α → β → Prop} : ∀ {xs : List α} {ys : List β}, Paired F xs ys → xs.length = ys.length
  | _, _, .nil => rfl
  | _, _, .cons _ t => by rw [List.length_cons, List.length_cons, paired_len t]
theorem paired_snoc {α β : Type} {F : α → β → Prop} {x : α} {y : β} (h : F x y) : ∀ {xs : List α} {ys : List β}, Paired F xs ys → Paired F (xs ++ [x]) (ys ++ [y])
  | _, _, .nil => .cons h .nil
  | _, _, .cons a t => .cons a (paired_snoc h t)
theorem paired_map {α β γ : Type} {F : α → β → Prop} {G : α → γ → Prop} {g : β → γ} (h : ∀ a b, F a b → G a (g b)) : ∀ {xs : List α} {ys : List β}, Paired F xs ys → Paired G xs (ys.map g)
  | _, _, .nil => .nil
  | _, _, .cons a t => .cons (h _ _ a) (paired_map h t)
theorem PrAt.nil (h : H L = some (.lst [])) : PrAt H L [] := ⟨[], h, .nil⟩
theorem PrAt.lst (h : PrAt H L ps) : ∃ acc, H L = some (.lst acc) ∧ acc.length = ps.length := by
  obtain ⟨as, h1, h2⟩ := h
  exact ⟨_, h1, by rw [List.length_map]; exact paired_len h2⟩
theorem PrAt.go (h : PrAt H L ps) (g : Go TL TG S H H') (s : ¬ S L) (st : ∀ b xs, H b = some (.tup xs) → ¬ S b) : PrAt H' L ps := by
  obtain ⟨as, h1, h2⟩ := h
  exact ⟨as, g.keep _ _ h1 (by intro _ z; cases z) s, Paired.mapP h2 fun a q e => g.keep _ _ e (by intro _ z; cases z) (st a _ e)⟩
/-- one pair more -/
theorem PrAt.snoc (h : PrAt H L ps) (hp : H p = none) : ∃ acc, upd H p (.tup [.str n, v]) L = some (.lst acc) ∧ acc.length = ps.length ∧ PrAt (upd (upd H p (.tup [.str n, v])) L (.lst (acc ++ [.ref p]))) L (ps ++ [(n, v)]) := by
  obtain ⟨as, h1, h2⟩ := h
  have nL := ne_of_none h1 hp
  refine ⟨as.map V.ref, by rw [upd_ne nL]; exact h1, by rw [List.length_map]; exact paired_len h2, as ++ [p], by rw [upd_same, List.map_append] <;> rfl, paired_snoc ?_ (Paired.mapP h2 fun a q e => ?_)⟩
  · show upd (upd H p (.tup [.str n, v])) L _ p = some (.tup [.str n, v])
    rw [upd_ne nL.symm, upd_same]
  · rw [upd_ne (ne_of e h1 (by intro z; cases z)), upd_ne (ne_of_none e hp)]
    exact e
abbrev kvS (ps : List (Str × V)) : List (Key × V) := ps.map fun p => (Sum.inr p.1, p.2)
theorem nodup_keyS {xs : List Str} (h : xs.Nodup) : (xs.map fun x => (Sum.inr x : Key)).Nodup := List.Pairwise.map _ (fun a b (n : a ≠ b) z => n (Sum.inr.inj z)) h
theorem mergeK_S (nd : (ps.map fun p => p.1).Nodup) : mergeK [] (kvS ps) = kvS ps := by
  rw [mergeK_nodup]
  · rfl
  · have : ((([] : List (Key × V)) ++ kvS ps).map (·.1)) = (ps.map fun p => p.1).map fun x => (Sum.inr x : Key) := by
      unfold kvS
      rw [List.nil_append, List.map_map, List.map_map]
      rfl
    rw [this]
    exact nodup_keyS nd
/-- what dict(..) of them asks -/
theorem PrAt.pairs {K : PySem.W.Frag} (h : PrAt H L ps) : ∃ as : List Addr, SqL K H L (as.map V.ref) ∧ Paired (fun p (kv : Key × V) => SqT K H p [kV kv.1, kv.2]) as (kvS ps) := by
  obtain ⟨as, h1, h2⟩ := h
  exact ⟨as, SqL.of h1, paired_map (G := fun p (kv : Key × V) => SqT K H p [kV kv.1, kv.2]) (g := fun p : Str × V => ((Sum.inr p.1 : Key), p.2)) (fun a b e => SqT.of e) h2⟩
end
theorem foldl_snoc0 {α : Type} : ∀ (ys acc : List α), ys.foldl (fun l y => l ++ [y]) acc = acc ++ ys
  | [], acc => by simp
  | y :: ys, acc => by
    rw [List.foldl_cons, foldl_snoc0 ys]
    simp
/-- a comprehension over a list or a dict's names, by what is behind -/
theorem lc_pre {β : Type} {J : It} {G : Hp → Prop} {g : TG} {tt : TT} {te : TE} {vs : List Nat} {σ : L2.St} {H1 : Hp} {D : Addr} {Qd : Hp → Prop} (v : β → V) (ys : List β) {n : Nat} (hn : n = ys.length) (w : Walk J n G (YAt (ys.map v))) (Rp : List β → Hp → Prop) (h0 : Rp [] (upd H1 D (.lst []))) (hG : ∀ a H, Rp a H → G H)
    (hs : ∀ pre y post H, ys = pre ++ y :: post → Rp pre H → g (v y) (wipe σ vs) H fun σ2 H2 => wipe σ2 vs = wipe σ vs ∧ tt σ2 H2 fun b H3 =>
      if b = true then te σ2 H3 fun z H4 => ∃ acc, H4 D = some (.lst acc) ∧ acc.length < sizeLine ∧ Rp (pre ++ [y]) (upd H4 D (.lst (acc ++ [z]))) else Rp (pre ++ [y]) H3) (hd : ∀ H, Rp ys H → Qd H) :
    ∃ W : Nat → Nat → Hp → Prop, (∃ m, W 0 m (upd H1 D (.lst []))) ∧ ∀ i m H, W i m H →
      (J.stop i H ∧ Qd H) ∨ (J.go i H ∧ ∃ Nx : Hp → Prop, (∀ H', Nx H' → ∃ m', m' < m ∧ W (i + 1) m' H') ∧ ∀ x H', J.yld i H x H' → g x (wipe σ vs) H' fun σ2 H2 => wipe σ2 vs = wipe σ vs ∧ tt σ2 H2 fun b H3 =>
        if b = true then te σ2 H3 fun y H4 => ∃ acc, H4 D = some (.lst acc) ∧ acc.length < sizeLine ∧ Nx (upd H4 D (.lst (acc ++ [y]))) else Nx H3) := by
  refine lc_fold v ys hn w (fun l y => l ++ [y]) [] Rp h0 hG (fun pre y post H e h => ?_) fun H h => hd H (by rw [foldl_snoc0, List.nil_append] at h; exact h)
  rw [foldl_snoc0, List.nil_append] at h ⊢
  exact hs pre y post H e h
theorem len_mid {α : Type} {ys pre post : List α} {y : α} {k : Nat} (e : ys = pre ++ y :: post) (h : ys.length ≤ k) : pre.length < k := by
  have := congrArg List.length e
  rw [List.length_append, List.length_cons] at this
  omega
theorem thou_lt {n : Nat} (h : n < 1000) : n < sizeLine := Nat.lt_of_lt_of_le h (by decide)
theorem thou_le {n : Nat} (h : n ≤ 1000) : n < sizeLine := Nat.lt_of_le_of_lt h (by decide)
/-- a locked dict's other objects -/
theorem upd_lock {H : Hp} {d D : Addr} {o : Obj} {u x : HO} (hd : H d = some u) (n : D ≠ d) : upd (upd (upd H d (.frz o u)) D x) d u = upd H D x := by
  funext b
  by_cases z : b = d
  · rw [z, upd_same, upd_ne n.symm]
    exact hd.symm
  · rw [upd_ne z]
    by_cases y : b = D
    · rw [y, upd_same, upd_same]
    · rw [upd_ne y, upd_ne z, upd_ne y]
theorem Go.extK {TL : List (Addr × Str)} {TG : List Addr} {S : Ad} {H H' : Hp} (e : ∀ b o, H b = some o → H' b = some o) : Go TL TG S H H' := Go.ext e fun p hp => by
  cases q : H p with
  | none => rfl
  | some o => rw [e p o q] at hp; cases hp
theorem paired_unmap {α β γ : Type} {F : α → γ → Prop} {g : β → γ} : ∀ {xs : List α} {ys : List β}, Paired F xs (ys.map g) → Paired (fun a b => F a (g b)) xs ys
  | [], [], _ => .nil
  | x :: xs, y :: ys, h => by
    cases h with
    | cons a t => exact .cons a (paired_unmap t)
  | [], _ :: _, h => by cases h
  | _ :: _, [], h => by cases h
/-- list(d.items()) -/
theorem PrAt.items {H : Hp} {p : Addr} {ts : List Addr} {ps : List (Str × V)} (h : H p = some (.lst (ts.map V.ref))) (h2 : Paired (fun (t : Addr) (q : Key × V) => H t = some (.tup [kV q.1, q.2])) ts (kvS ps)) : PrAt H p ps := ⟨ts, h, paired_unmap (F := fun (t : Addr) (q : Key × V) => H t = some (.tup [kV q.1, q.2])) (g := fun p : Str × V => ((Sum.inr p.1 : Key), p.2)) h2⟩
theorem paired_app {α β : Type} {F : α → β → Prop} : ∀ {xs : List α} {ys : List β} {us : List α} {vs : List β}, Paired F xs ys → Paired F us vs → Paired F (xs ++ us) (ys ++ vs)
  | _, _, _, _, .nil, h => h
  | _, _, _, _, .cons a t, h => .cons a (paired_app t h)
/-- [x] * int(good), for a new list -/
def oneIf {α : Type} (b : Bool) (x : α) : List α := if b = true then [x] else []
theorem rep_one {b : Bool} {x : V} : (List.replicate ((if b = true then (1 : Int) else 0)).toNat [x]).flatten = oneIf b x := by
  cases b <;> rfl
/-- pairs, and one more if b -/
theorem PrAt.more {K : PySem.W.Frag} {H : Hp} {L l t : Addr} {ps : List (Str × V)} {n : Str} {v : V} {b : Bool} (h : PrAt H L ps) (hl : H l = some (.lst (oneIf b (.ref t)))) (ht : H t = some (.tup [.str n, v])) (z : ps.length + 1 ≤ sizeLine) {Q : VK}
    (q : ∀ p, H p = none → PrAt (upd H p (.lst (h.choose.map V.ref ++ oneIf b (.ref t)))) p (ps ++ oneIf b (n, v)) → Q (.ref p) (upd H p (.lst (h.choose.map V.ref ++ oneIf b (.ref t))))) : rCat (.ref L) (.ref l) H Q := by
  obtain ⟨h1, h2⟩ := h.choose_spec
  refine ⟨L, l, _, _, rfl, rfl, h1, hl, ?_, fun p hp => q p hp ⟨h.choose ++ oneIf b t, ?_, ?_⟩⟩
  · have := paired_len h2
    rw [List.length_map, this]
    cases b
    · exact Nat.le_of_succ_le z
    · exact z
  · rw [upd_same, List.map_append]
    cases b <;> rfl
  · have h3 := Paired.mapP h2 fun a q e => (show upd H p (.lst (h.choose.map V.ref ++ oneIf b (.ref t))) a = some (.tup [.str q.1, q.2]) from by rw [upd_ne (ne_of_none e hp)]; exact e)
    refine paired_app h3 ?_
    cases b
    · exact .nil
    · exact .cons (by rw [upd_ne (ne_of_none ht hp)]; exact ht) .nil
end Fy
namespace Fy
open PySem PySem.Spec PyProof.Rows L2
section
variable {P : Program} {w : World} {κ : Type} [DecidableEq κ] {kn : HeapKind P w κ} {A : Around} {E : Value → Shared → Prop} {s : Shared}
theorem same_tt {nm : String} {c d : Addr} {kc kd : List (κ × Addr × Value)} {Q : Bool → Shared → Prop} (mc : (c == sysModules) = false) (md : (d == sysModules) = false)
    (Dc : s.heap.DictOfH kn c kc) (Dd : s.heap.DictOfH kn d kd) (ln : kc.length = kd.length) (room : kn.room A) (hit : ∀ x ∈ kc, ∃ (j : Nat) (p : Addr × Value), kd[j]? = some (x.1, p) ∧ SeqAt.EqAt A s x.2.2 p.2 true) (q : Q true s) :
    wpAny (model P w) A (Builtin.Dict.samePairs nm c d) Q E s := by
  obtain ⟨oc, ec, pc, hoc, _, dc, lc, kcs, nc⟩ := Dc
  obtain ⟨od, ed, pd, hod, _, dd, ld, kds, nd⟩ := Dd
  have zc : ec.size = kc.length := size_of_entries lc
  have zd : ed.size = kd.length := size_of_entries ld
  have zz : ec.size = ed.size := by omega
  unfold Builtin.Dict.samePairs Builtin.Dict.showsAll
  rw [mc, md]
  simp only [Bool.false_eq_true, if_false]
  refine wpAny_bind (wpAny_pure ?_)
  refine wpAny_bind (wpAny_pure ?_)
  refine wpAny_bind (wpAny_dictEntries hoc dc ?_)
  refine wpAny_bind (wpAny_dictEntries hod dd ?_)
  rw [if_neg (show ¬ ((ec.size != ed.size) = true) by rw [zz]; simp)]
  refine wpAny_bind (wpAny_dictEpoch hoc dc ?_)
  refine wpAny_bind ?_
  rw [Std.Legacy.Range.forIn_eq_forIn_range']
  refine wpAny_forIn_list _ (fun rest r s' => (∀ x ∈ rest, x < ec.size) ∧ r = (none, ()) ∧ s' = s) _ ?_ ?_ _ _ ⟨fun x hx => ?_, rfl, rfl⟩
  · rintro x rest r s' ⟨hx, rfl, rfl⟩
    have lx : x < ec.size := hx x List.mem_cons_self
    have lk : x < kc.length := by omega
    have ex : ec[x]? = some (entryOfKey kn kc[x]) := by rw [entry_at lc x, List.getElem?_eq_getElem lk]; rfl
    obtain ⟨j, p, ej, eq⟩ := hit kc[x] (List.getElem_mem lk)
    refine wpAny_bind (wpAny_dictEntries hoc dc ?_)
    rw [ex]
    refine wpAny_bind (wpAny_holding (wpAny_bind ?_))
    refine wpAny_dictFind_heap (xs := kd) (k := kc[x].1) room (kcs _ (List.getElem_mem lk)) hod dd ld kds nd (fun no => absurd ej (no j p)) fun j' p' ej' => ?_
    obtain rfl : j' = j := idxH_unique nd ej' ej
    obtain rfl : p' = p := by
      rw [ej] at ej'
      exact (congrArg (fun z => z.2) (Option.some.inj ej')).symm
    refine wpAny_bind (wpAny_dictEntries hod dd ?_)
    have ey : ed[j']? = some (entryOfKey kn (kc[x].1, p')) := by rw [entry_at ld j', ej]; rfl
    rw [ey]
    refine wpAny_holding (eq P w _ _ ?_)
    refine wpAny_bind (wpAny_dictEpoch hoc dc ?_)
    rw [if_neg (by simp)]
    exact wpAny_pure ⟨fun y hy => hx y (List.mem_cons_of_mem _ hy), rfl, rfl⟩
  · rintro r s' ⟨_, rfl, rfl⟩
    exact wpAny_pure q
  · simp only [Std.Legacy.Range.size, Nat.sub_zero, Nat.add_sub_cancel, Nat.div_one] at hx
    have := (List.mem_range'_1.mp hx).2
    omega
end
end Fy
namespace Fy
open PySem PySem.Spec PyProof.Rows L2
section
variable {X : Cx}
theorem atKey_ix {κ : Type} [DecidableEq κ] {k : κ} {q : Addr × Value} : ∀ {xs : List (κ × Addr × Value)}, atKey xs k = some q → ∃ j : Nat, xs[j]? = some (k, q)
  | [], h => by cases h
  | (k', p) :: t, h => by
    by_cases e : k' = k
    · subst e
      have h : some p = some q := by rw [← h]; simp [atKey]
      exact ⟨0, by rw [Option.some.inj h]; rfl⟩
    · have h : atKey t k = some q := by rw [← h]; simp [atKey, List.find?_cons, e]
      obtain ⟨j, ej⟩ := atKey_ix h
      exact ⟨j + 1, ej⟩
theorem hits_tt {pins : List (Addr × Obj)} {σ : L2.St} {H : Hp} {s : Shared} (I : Inv X pins σ H s) {A : Around} (hu : A.units + 64 < cLine) {ls : List (List Key × V)} {xl : List (List Key × Addr × Value)} (rl : KT H ls xl) {ks : List (List Key × V)} {xk : List (List Key × Addr × Value)} (rk : KT H ks xk) :
    (∀ p ∈ ks, ∃ u, valV ls p.1 = some u ∧ SameD X.K H p.2 u) → ∀ x ∈ xk, ∃ (j : Nat) (p : Addr × Value), xl[j]? = some (x.1, p) ∧ SeqAt.EqAt A s x.2.2 p.2 true := by
  induction rk with
  | nil => intro _ x hx; cases hx
  | @cons p q ps qs h t ih =>
    intro all x hx
    rcases List.mem_cons.mp hx with rfl | hx
    · obtain ⟨e1, _, e3⟩ := h
      obtain ⟨u, eu, f⟩ := all p List.mem_cons_self
      have rr := rl.val p.1
      rw [eu] at rr
      obtain ⟨y, hy, ry⟩ := rr.some_of
      obtain ⟨q', eq', ev⟩ := Option.map_eq_some_iff.mp hy
      obtain ⟨j, ej⟩ := atKey_ix eq'
      rw [e1] at ej
      exact ⟨j, q', ej, f.at_ I hu e3 (by rw [ev]; exact ry)⟩
    · exact ih (fun p' hp => all p' (List.mem_cons_of_mem _ hp)) x hx
/-- two dicts of the same tuples and the same data -/
def rSameT (K : PySem.W.Frag) (b : Bool) : R2 := fun x y H Q => ∃ c d ks ls, x = .ref c ∧ y = .ref d ∧ H c = some (.dT ks) ∧ H d = some (.dT ls) ∧ ks.length = ls.length ∧ (∀ p ∈ ks, ∃ u, valV ls p.1 = some u ∧ SameD K H p.2 u) ∧ Q (.bl b) H
theorem cmp_tt {pins : List (Addr × Obj)} {σ : L2.St} {H : Hp} {s : Shared} {x y : V} {v u : Value} {b : Bool} (I : Inv X pins σ H s) (hu : X.A.units + 65 < cLine) {Q : V → Hp → Prop} (rx : RelV x v) (ry : RelV y u) (h : rSameT X.K b x y H Q) :
    ∃ c d : Addr, v = .ref c ∧ u = .ref d ∧ s.TypeIs (.ref c) "dict" ∧ s.TypeIs (.ref d) "dict" ∧ Q (.bl b) H ∧
      ∀ (nm : String) (A : Around) (Z : Bool → Shared → Prop) (E : Value → Shared → Prop), A.units = X.A.units + 1 → Z true s → wpAny (model X.prog X.w) A (Builtin.Dict.samePairs nm c d) Z E s := by
  obtain ⟨c, d, ks, ls, rfl, rfl, ec, ed, len, all, q⟩ := h
  obtain rfl : v = Value.ref c := rx
  obtain rfl : u = Value.ref d := ry
  obtain ⟨_, mc, xc, rc, dc⟩ := dt_of I.hok ec
  obtain ⟨_, md, xd, rd, dd⟩ := dt_of I.hok ed
  refine ⟨c, d, rfl, rfl, dc.typeIs, dd.typeIs, q, fun nm A Z E ea z => ?_⟩
  refine same_tt mc md dc dd (by rw [← rc.length, ← rd.length]; exact len) ?_ (hits_tt I ?_ rd rc all) z
  · show A.units < cLine
    omega
  · omega
theorem op_neTT (hu : X.A.units + 65 < cLine) : OpR X (compareOp .NotEq) (rSameT X.K false) := by
  intro pins s σ H x y v u Q I rx ry h
  obtain ⟨c, d, rfl, rfl, tc, td, q, run⟩ := cmp_tt I hu rx ry h
  refine wpAny_richCompare_same_room (op := .NotEq) tc td PySem.F.slot_dict_ne (wpAny_call_entry PySem.F.slot_dict_ne tc PySem.F.entry_dict_ne (show wpAny _ _ (Builtin.Dict.dictSlotArgs "__ne__" ⟨[.ref c, .ref d], []⟩ >>= _) _ _ s from ?_) (PySem.F.args_dict_ne_2 _ _)) (by omega)
  unfold Builtin.Dict.dictSlotArgs
  refine wpAny_bind (wpAny_bind (wpAny_notOrdered_dict tc (show wpAny _ _ (pure (Value.ref c, Value.ref d)) _ _ s from wpAny_pure ?_)))
  refine wpAny_bind (wpAny_isInstance (T := "dict") td PySem.F.sub_dict_dict ?_)
  simp only [Bool.not_true, Bool.false_eq_true, if_false]
  refine wpAny_bind (wpAny_pure ?_)
  refine wpAny_bind (wpAny_pure (wpAny_bind (run _ _ _ _ rfl (wpAny_pure ⟨_, rfl, (fun z => nomatch z), .bl false, H, I, rfl, q⟩))))
theorem op_eqTT (hu : X.A.units + 65 < cLine) : OpR X (compareOp .Eq) (rSameT X.K true) := by
  intro pins s σ H x y v u Q I rx ry h
  obtain ⟨c, d, rfl, rfl, tc, td, q, run⟩ := cmp_tt I hu rx ry h
  refine wpAny_richCompare_same_room (op := .Eq) tc td PySem.F.slot_dict_eq (wpAny_call_entry PySem.F.slot_dict_eq tc PySem.F.entry_dict_eq (show wpAny _ _ (Builtin.Dict.dictSlotArgs "__eq__" ⟨[.ref c, .ref d], []⟩ >>= _) _ _ s from ?_) (PySem.F.args_dict_eq_2 _ _)) (by omega)
  unfold Builtin.Dict.dictSlotArgs
  refine wpAny_bind (wpAny_bind (wpAny_notOrdered_dict tc (show wpAny _ _ (pure (Value.ref c, Value.ref d)) _ _ s from wpAny_pure ?_)))
  refine wpAny_bind (wpAny_isInstance (T := "dict") td PySem.F.sub_dict_dict ?_)
  simp only [Bool.not_true, Bool.false_eq_true, if_false]
  refine wpAny_bind (wpAny_pure ?_)
  refine wpAny_bind (wpAny_pure (wpAny_bind (run _ _ _ _ rfl (wpAny_pure ⟨_, rfl, (fun z => nomatch z), .bl true, H, I, rfl, q⟩))))
end
end Fy
namespace Fy
open PySem PySem.Spec PyProof.Rows L2
section
variable {X : Cx} {o i : Expr} {pos tpos : Pos} {td ty : TE}
/-- del d[(..)] -/
def sDDelT (td ty : TE) : TS := fun D σ H => td σ H fun x H1 => ty σ H1 fun y H2 => ∃ (a b : Addr) (kvs : List (List Key × V)) (k : List Key), x = .ref a ∧ y = .ref b ∧ H2 a = some (.dT kvs) ∧ H2 b = some (.tup (k.map kV)) ∧ (valV kvs k).isSome = true ∧ D.nx σ (upd H2 a (.dT (dropK kvs k)))
theorem ps_ddelT (hu : X.A.units + 1 < cLine) (ho : PE X o td) (hi : PE X i ty) : PS X (.Delete [.Subscript o i tpos] pos) (sDDelT td ty) := by
  refine ⟨fun pins s σ H D I h => ?_⟩
  refine wpAny_Delete (wpAny_deleteEach_cons (wpAny_delete_Subscript (thn (ho.run pins s σ H _ I h) fun u s1 ⟨x, H1, I1, rx, q1⟩ => thn (hi.run pins s1 σ H1 _ I1 q1) fun iv s2 ⟨y, H2, I2, ry, q2⟩ => ?_)))
  obtain ⟨a, b, kvs, k, rfl, rfl, ea, eb, some_, q⟩ := q2
  obtain rfl : u = Value.ref a := rx
  obtain rfl : iv = Value.ref b := ry
  obtain ⟨z, ma, xs, rel, dd⟩ := dt_of I2.hok ea
  obtain ⟨v, ev⟩ := Option.isSome_iff_exists.mp some_
  have rr := rel.val k
  rw [ev] at rr
  obtain ⟨y', hy, _⟩ := rr.some_of
  obtain ⟨p, ep, _⟩ := Option.map_eq_some_iff.mp hy
  refine wpAny_delItem_heap (tupleKind_room_in1 hu) (key_of I2.hok eb) ma dd ep (fun h' dd' sb => ?_) (by rw [← Paired.length rel]; exact z)
  refine wpAny_deleteEach_nil ⟨σ, _, ?_, q⟩
  obtain ⟨q', es, ep', hq, g2, g3, g4, _, g5⟩ := dd'
  refine d_write I2 (by rw [ea]; exact True.intro) sb ⟨q', hq⟩ ⟨Nat.le_trans (dropK_le kvs k) z, ma, _, (L2.DX.KT_drop k rel).keeps fun c ys ec => ?_, q', es, ep', hq, g2, g3, g4, g5⟩
  rw [upd_ne (ne_of ec ea (fun z => nomatch z))]
  exact ec
end
end Fy
namespace Fy
open PySem PySem.Spec PyProof.Rows L2
def mergeT (kvs more : List (List Key × V)) : List (List Key × V) := more.foldl (fun l p => putK l p.1 p.2) kvs
theorem len_mergeT : ∀ (more kvs : List (List Key × V)), (mergeT kvs more).length ≤ kvs.length + more.length
  | [], _ => Nat.le_refl _
  | p :: t, kvs => by
    have h1 := len_mergeT t (putK kvs p.1 p.2)
    have h2 := length_putK kvs p.1 p.2
    show (mergeT (putK kvs p.1 p.2) t).length ≤ _
    rw [List.length_cons]
    omega
theorem kt_merge {H : Hp} : ∀ {more : List (List Key × V)} {xm : List (List Key × Addr × Value)} {kvs : List (List Key × V)} {xs : List (List Key × Addr × Value)}, KT H more xm → KT H kvs xs → KT H (mergeT kvs more) (storedAllH xs xm)
  | _, _, _, _, .nil, r => r
  | _, _, _, _, .cons (a := p) (b := q) h t, r => by
    obtain ⟨e1, e2, e3⟩ := h
    have r2 := r.put p.1 e2 e3
    rw [e1] at r2
    have := kt_merge t r2
    rw [← e1] at this
    show KT H (mergeT (putK _ p.1 p.2) _) (storedAllH (storedH _ q.1 q.2.1 q.2.2) _)
    rw [← e1]
    exact this
section
variable {X : Cx}
/-- what stands in a list of pairs ((..), value) -/
theorem pairsT {pins : List (Addr × Obj)} {σ : L2.St} {H : Hp} {s : Shared} (I : Inv X pins σ H s) : ∀ {ps : List Addr} {kvs : List (List Key × V)}, Paired (fun p kv => ∃ b, SqT X.K H p [.ref b, kv.2] ∧ H b = some (.tup (kv.1.map kV))) ps kvs →
    ∃ xs : List (List Key × Addr × Value), KT H kvs xs ∧ xs.length = ps.length ∧ ∀ (j : Nat) (q : List Key × Addr × Value), xs[j]? = some q → ∃ t, ps[j]? = some t ∧ IsTup s.heap t #[.ref q.2.1, q.2.2]
  | _, _, .nil => ⟨[], .nil, rfl, fun j q z => by simp at z⟩
  | _, _, .cons (a := t) (b := kv) h r => by
    obtain ⟨b, hs, eb⟩ := h
    obtain ⟨xs, k1, k2, k3⟩ := pairsT I r
    obtain ⟨its, rv, it, _⟩ := I.tuple hs
    obtain ⟨u, y, rfl, ru, ry⟩ := vals2 rv
    obtain rfl : u = Value.ref b := ru
    refine ⟨(kv.1, b, y) :: xs, .cons ⟨rfl, eb, ry⟩ k1, by rw [List.length_cons, List.length_cons, k2], fun j q z => ?_⟩
    cases j with
    | zero =>
      obtain rfl : (kv.1, b, y) = q := Option.some.inj z
      exact ⟨t, rfl, it⟩
    | succ j =>
      obtain ⟨t', e1, e2⟩ := k3 j q (by simpa using z)
      exact ⟨t', by simpa using e1, e2⟩
/-- dict(..) of a list of pairs whose keys are tuples -/
def rDictPT (K : PySem.W.Frag) : List V → Hp → VK → Prop := fun xs H Q => ∃ (a : Addr) (ps : List Addr) (kvs : List (List Key × V)), xs = [.ref a] ∧ SqL K H a (ps.map V.ref) ∧ Paired (fun p kv => ∃ b, SqT K H p [.ref b, kv.2] ∧ H b = some (.tup (kv.1.map kV))) ps kvs ∧
    ∀ p, H p = none → Q (.ref p) (upd H p (.dT (mergeT [] kvs)))
theorem call_dictPT (calm : X.calm = true) (hu : X.A.units + 2 < cLine) : CallR X (.type "dict") (rDictPT X.K) := by
  intro pins s σ H xs us Q I r q
  obtain ⟨a, ps, kvs, rfl, hq, hp, q⟩ := q
  obtain ⟨u, rfl, rx⟩ := vals1 r
  cases rx
  obtain ⟨its, rv, pl, hz⟩ := I.list hq
  obtain rfl := refs_at rv
  rw [List.length_map] at hz
  obtain ⟨xs, k1, k2, k3⟩ := pairsT I hp
  have lk : kvs.length = xs.length := k1.length
  obtain ⟨o, n, ho, hc, hd, hdat⟩ := pl
  have at_ : ∀ (j : Nat) (x : List Key × Addr × Value), xs[j]? = some x → (ps.map Value.ref)[j]? = some (.ref (ps.getD j 0)) ∧ PairAt s.heap (ps.getD j 0) (.ref x.2.1) x.2.2 := fun j x ej => by
    obtain ⟨t, e1, e2⟩ := k3 j x ej
    have e3 : ps.getD j 0 = t := by rw [List.getD_eq_getElem?_getD, e1]; rfl
    rw [e3]
    refine ⟨by rw [List.getElem?_map, e1]; rfl, .inl ?_⟩
    exact e2
  have hT : ∀ j k v, (xs.map fun x => (Value.ref x.2.1, x.2.2))[j]? = some (k, v) → ∃ x : List Key × Addr × Value, xs[j]? = some x ∧ k = Value.ref x.2.1 ∧ v = x.2.2 := fun j k v e => by
    rw [List.getElem?_map] at e
    obtain ⟨x, e1, e2⟩ := Option.map_eq_some_iff.mp e
    exact ⟨x, e1, (congrArg Prod.fst e2).symm, (congrArg Prod.snd e2).symm⟩
  have stay : ∀ x ∈ xs, H x.2.1 = some (.tup (x.1.map kV)) := fun x hx => by
    obtain ⟨j, lj, ej⟩ := List.mem_iff_getElem.mp hx
    obtain ⟨y, _, e1, e2, _⟩ := L2.DX.pget k1 (by rw [List.getElem?_eq_getElem lj, ej])
    rw [← e1]
    exact e2
  refine call_dict_pairsH (knd := tupleKind (mixKind X.prog X.w)) (ps := xs) (PairArg.list a (ps.map Value.ref).toArray (fun j => ps.getD j 0) (xs.map fun x => (Value.ref x.2.1, x.2.2))) (I.ok.hd calm) (show X.A.units + 2 < cLine from hu) ⟨⟨o, n, ho, hc, hd, hdat⟩, ?_, ?_⟩ ⟨?_, ?_⟩ ?_ ?_ fun h' tk hd' k => ?_
  · simp [k2]
  · intro j k v e
    obtain ⟨x, e1, rfl, rfl⟩ := hT j k v e
    simpa using at_ j x e1
  · simp
  · intro j key v e
    obtain ⟨x, e1, rfl, rfl⟩ := hT j key v e
    exact ⟨x.1, x.2.1, e1, rfl⟩
  · intro h' hk x hx
    have ex := stay x hx
    obtain ⟨ob, its, n', e1, e2, e3, e4⟩ := key_of I.hok ex
    exact ⟨ob, its, n', hk _ ob (Nat.ne_of_lt (Heap.lt_size e1)) (by simp) e1, e2, e3, e4⟩
  · simp [k2, hz]
  · have m : (s.heap.objs.size == sysModules) = false := beq_eq_false_iff_ne.mpr (Nat.ne_of_gt I.big)
    have r2 : KT H (mergeT [] kvs) (storedAllH [] xs) := kt_merge k1 .nil
    have z : (mergeT [] kvs).length ≤ sizeLine := Nat.le_trans (len_mergeT kvs []) (by rw [List.length_nil, Nat.zero_add, lk, k2]; exact hz)
    have fr := I.hok.fresh (Nat.le_refl s.heap.objs.size)
    obtain ⟨q', es, ep, g1, g2, g3, g4, _, g5⟩ := hd'
    refine ⟨.ref s.heap.objs.size, upd H s.heap.objs.size (.dT (mergeT [] kvs)), I.laid (t' := tk) (fun b o e => k b o (by simp) e) (Nat.le_refl _) ⟨z, m, _, r2.keeps fun c ys ec => ?_, q', es, ep, g1, g2, g3, g4, g5⟩, rfl, q _ fr⟩
    rw [upd_ne (ne_of_none ec fr)]
    exact ec
end
end Fy
namespace Fy
open PySem PySem.Spec PyProof.Rows L2
section
variable {P : Program} {w : World} {A : Around} {E : Value → Shared → Prop} {s : Shared}
/-- list(view): the pairs' tuples are new -/
theorem list_raw {r d : Addr} {es : Array DictEntry} {ep : Nat} {Q : Value → Shared → Prop} (calm : A.handled = none) (hv : s.heap.IsItemsView r d) (hm : DT.Raw s.heap d es ep) (hn : es.size ≤ sizeLine)
    (q : ∀ (h : Heap) (tk : Nat) (acc : Array Value) (c : Nat) (as : List Addr), (∀ b o, s.heap.get? b = some o → h.get? b = some o) → h.get? s.heap.objs.size = some { cls := .type "list", dict := none, data := .seq acc c, slots := #[] } →
      as.length = es.size → DT.Made es s.heap.objs.size h as → acc.toList = as.map Value.ref → Q (.ref s.heap.objs.size) { s with heap := h, toks := tk }) :
    wpAny (model P w) A (call (.type "list") [.ref r]) Q E s := by
  refine callType_codes (Q₁ := fun o' s' => o' = .ref s.heap.objs.size ∧ s' = { s with heap := s.heap.push { cls := .type "list", data := .seq #[] } }) PySem.F.called_list (PySem.F.typeCall_list_1 _) PySem.F.entry_list_init (code_list_new _ ⟨rfl, rfl⟩) ?_
  rintro o' s' ⟨rfl, rfl⟩
  have eS : (s.heap.push { cls := .type "list", data := .seq #[] }).get? s.heap.objs.size = some { cls := .type "list", data := .seq #[] } := Heap.get?_push_size _ rfl
  have up : ∀ b o, s.heap.get? b = some o → (s.heap.push { cls := .type "list", data := .seq #[] }).get? b = some o := fun b o e => Heap.get?_push_of_some _ e
  have rs : r < s.heap.objs.size := let ⟨_, ho, _⟩ := hv; Heap.lt_size ho
  have ds : d < s.heap.objs.size := hm.lt
  refine ⟨⟨_, eS, rfl⟩, PySem.F.args_list_init_2 _ _, ?_⟩
  show wpAny _ _ (do let old ← Builtin.List.listItems (.ref s.heap.objs.size); Builtin.List.listUpdate (.ref s.heap.objs.size) (fun _ => #[]); letGo old.toList.reverse; Builtin.List.listExtendWith (.ref s.heap.objs.size) (.ref r) .none) _ _ _
  unfold Builtin.List.listItems
  refine wpAny_bind (wpAny_bind (wpAny_seqItems eS rfl (wpAny_pure ?_)))
  refine wpAny_bind (show wpAny _ _ (updateSeq s.heap.objs.size fun _ => #[]) _ _ _ from wpAny_updateSeq eS rfl ?_)
  refine wpAny_bind (wpAny_letGo ?_)
  have e2 := Heap.get?_update_self (Obj.mapSeq (fun _ => (#[] : Array Value))) eS rfl
  have off : ∀ b o, s.heap.get? b = some o → ((s.heap.push { cls := .type "list", data := .seq #[] }).update s.heap.objs.size (Obj.mapSeq (fun _ => (#[] : Array Value)))).get? b = some o := fun b o e =>
    (Heap.get?_update_other _ _ (Nat.ne_of_gt (Heap.lt_size e))).trans (up b o e)
  refine DT.extI (prog := P) (w := w) (A := A.in1) (R := wants (fun r s₂ => r = .none ∧ Q (.ref s.heap.objs.size) s₂) E) (s := { s with heap := (s.heap.push { cls := .type "list", data := .seq #[] }).update s.heap.objs.size (Obj.mapSeq (fun _ => (#[] : Array Value))) }) (es := es) (ep := ep) calm (let ⟨o, ho, x⟩ := hv; ⟨o, off r o ho, x⟩) (hm.at' fun o e => off d o e) _ (Nat.ne_of_gt rs) (Nat.ne_of_lt ds) .none _ e2 (fun h tk acc c as k eH la mk ea => ?_) hn
  exact ⟨rfl, q h tk acc c as (fun b o e => k b o (Nat.ne_of_lt (Heap.lt_size e)) (off b o e)) eH la (mk.low (Nat.le_of_lt (Heap.lt_size e2))) ea⟩
end
section
variable {X : Cx} {e : Expr} {te : TE} {p apos cpos pos : Pos}
def rItemsLT : V → Hp → VK → Prop := fun x H Q => ∃ (d : Addr) (kvs : List (List Key × V)), x = .ref d ∧ H d = some (.dT kvs) ∧
  ∀ (H' : Hp) (p : Addr) (ts : List Addr), (∀ b o, H b = some o → H' b = some o) → H p = none → (∀ t ∈ ts, H t = none) → p ∉ ts → H' p = some (.lst (ts.map V.ref)) → Paired (fun (t : Addr) (q : List Key × V) => ∃ b, H' t = some (.tup [.ref b, q.2]) ∧ H' b = some (.tup (q.1.map kV))) ts kvs → Q (.ref p) H'
def tListItemsT (te : TE) : TE := fun σ H Q => te σ H fun x H1 => rItemsLT x H1 Q
theorem kt_ix {H : Hp} {kvs : List (List Key × V)} {xs : List (List Key × Addr × Value)} (r : KT H kvs xs) {j : Nat} {x : List Key × Addr × Value} (e : xs[j]? = some x) : ∃ q, kvs[j]? = some q ∧ q.1 = x.1 ∧ H x.2.1 = some (.tup (q.1.map kV)) ∧ RelV q.2 x.2.2 := by
  obtain ⟨q, e1, e2, e3, e4⟩ := L2.DX.pget r e
  exact ⟨q, e1, e2, e3, e4⟩
theorem paired_by {α β : Type} {F : α → β → Prop} : ∀ (as : List α) (bs : List β), as.length = bs.length → (∀ (j : Nat) (a : α) (b : β), as[j]? = some a → bs[j]? = some b → F a b) → Paired F as bs
  | [], [], _, _ => .nil
  | [], _ :: _, h, _ => by cases h
  | _ :: _, [], h, _ => by cases h
  | a :: as, b :: bs, h, f => .cons (f 0 a b rfl rfl) (paired_by as bs (Nat.succ.inj h) fun j x y e1 e2 => f (j + 1) x y e1 e2)
/-- list(e.items()), keys that are tuples -/
theorem pe_listItemsT (calm : X.calm = true) (he : PE X e te) (hg : Gl X "list") (hm : X.mg "list" = none) (hv : bootBuiltins "list" = some (.type "list")) (hbase : attributeBase e "items" X.env (eval e X.env) = eval e X.env := by rfl) (hline : (apos.endLine == cpos.line) = true := by rfl)
    (hs : starEach [.Call (.Attribute e "items" apos) [] [] cpos] X.env = (false, eval (.Call (.Attribute e "items" apos) [] [] cpos) X.env) :: starEach [] X.env := by rfl) :
    PE X (.Call (.Name "list" p) [.Call (.Attribute e "items" apos) [] [] cpos] [] pos) (tListItemsT te) := by
  refine ⟨fun pins s σ H Q I hq => wpAny_Call_Name_kw (ld_blt I hg hm hv (PyProof.Rows.callWith_type1 ?_ hs rfl))⟩
  rw [hs]
  refine Calls.spliced_cons (show wpAny _ _ (eval (.Call (.Attribute e "items" apos) [] [] cpos) X.env) _ _ s from ?_)
  refine wpAny_Call_method (T := "dict") (id := "dict.items") hbase rfl hline F.plainAttrs_dict F.slot_dict_items F.type_dict_items (thn (he.run pins s σ H _ I hq) fun u s1 ⟨x, H1, I1, rx, d, kvs, ex, hd, q⟩ => ?_)
  subst ex
  obtain rfl : u = Value.ref d := rx
  obtain ⟨hz, md, xs, kt, o, es, ep, g1, g2, g3, g4, gk, g5⟩ := dt_of I1.hok hd
  have raw : DT.Raw s1.heap d es ep := ⟨o, g1, g2, g3⟩
  have le : es.size = xs.length := size_of_entries g4
  have lk : kvs.length = xs.length := kt.length
  have kind : s1.TypeIs (.ref d) "dict" := ⟨o, g1, g2.1⟩
  refine ⟨kind, fun b z => by cases z; exact ⟨o, g1, g2.2.1⟩, ?_⟩
  refine method_meetsIn F.slot_dict_items F.entry_dict_items rfl (PySem.evalArgs_none ⟨rfl, kind, F.args_dict_items_1 _, _, DT.meetsItems (es := es) (ep := ep) md, raw, ?_⟩)
  refine Calls.spliced_nil ?_
  have I2 : Inv X pins σ H1 { s1 with heap := s1.heap.push { cls := .type "dict_items", data := .fields #[.ref d] } } := I1.kept (t' := s1.toks) fun b ob q => Heap.get?_push_of_some _ q
  refine list_raw (es := es) (ep := ep) (I1.ok.hd calm) ⟨_, Heap.get?_push_size _ rfl, rfl, rfl⟩ (raw.push _) (by omega) fun h' tk acc c as hk eS la mk ea => ?_
  generalize hz0 : ({ s1 with heap := s1.heap.push { cls := .type "dict_items", data := .fields #[.ref d] } } : Shared) = s2 at I2 hk eS mk ⊢
  have fr := I2.hok.fresh (Nat.le_refl s2.heap.objs.size)
  have I3 : Inv X pins σ (upd H1 s2.heap.objs.size (.lst (as.map V.ref))) { s2 with heap := h', toks := tk } := I2.laid (t' := tk) hk (Nat.le_refl _) ⟨by rw [List.length_map]; omega, acc.toList, c, by rw [ea]; exact LiI.vals_refs as, by rw [Array.toArray_toList]; exact eS⟩
  have nd : as.Nodup := mk.rise.imp fun h => Nat.ne_of_lt h
  have new : ∀ t ∈ as, H1 t = none := fun t ht => I2.hok.fresh (Nat.le_of_lt (mk.above t ht))
  have nS : s2.heap.objs.size ∉ as := fun z => Nat.lt_irrefl _ (mk.above _ z)
  obtain ⟨H2, I4, k1, k2⟩ := L2.DX.takeT (P := fun t vs => ∃ (j : Nat) (x : List Key × Addr × Value) (q : List Key × V), as[j]? = some t ∧ xs[j]? = some x ∧ kvs[j]? = some q ∧ q.1 = x.1 ∧ vs = [.ref x.2.1, q.2] ∧ H1 x.2.1 = some (.tup (q.1.map kV))) I2 as _ I3 nd fun t ht => by
    obtain ⟨j, lj, ej⟩ := List.mem_iff_getElem.mp ht
    have ej : as[j]? = some t := by rw [List.getElem?_eq_getElem lj, ej]
    obtain ⟨en, e1, e2⟩ := mk.pairs j t ej
    rw [entry_at g4 j] at e1
    obtain ⟨x, ex, e3⟩ := Option.map_eq_some_iff.mp e1
    obtain ⟨q, f1, f2, f3, f4⟩ := kt_ix kt ex
    refine ⟨Nat.le_of_lt (mk.above t ht), by rw [upd_ne (fun z => nS (by rw [← z]; exact ht))]; exact new t ht, [.ref x.2.1, q.2], ⟨j, x, q, ej, ex, f1, f2, rfl, f3⟩, fun H2 => ⟨by show 2 ≤ sizeLine; decide, [.ref x.2.1, x.2.2], .cons rfl (.cons f4 .nil), _, by rw [e2, ← e3] <;> rfl, rfl, _, rfl⟩⟩
  have up : ∀ b u, H1 b = some u → H2 b = some u := fun b u e => k1 b u (by rw [upd_ne (ne_of_none e fr)]; exact e)
  refine ⟨.ref _, H2, I4, rfl, q H2 _ as up fr new nS (k1 _ _ upd_same) (paired_by as kvs (by omega) fun j t q' e1 e2 => ?_)⟩
  obtain ⟨vs, ⟨j', x, q2, f1, f2, f3, f4, rfl, f5⟩, f6⟩ := k2 t (List.mem_of_getElem? e1)
  obtain rfl : j' = j := (List.getElem?_inj (List.getElem?_eq_some_iff.mp f1).1 nd).mp (f1.trans e1.symm)
  obtain rfl : q2 = q' := Option.some.inj (f3.symm.trans e2)
  exact ⟨x.2.1, f6, up _ _ f5⟩
end
end Fy
namespace Fy
open PySem PySem.Spec PyProof.Rows L2
open GxR (TabG Tabbed inv_tab sh_eta)
/-- a fact about a value that stands in the heap and stays -/
structure Stands (F : Nat → Value → Heap → Prop) : Prop where
  tup : ∀ {i v h}, F i v h → ∃ a its, v = .ref a ∧ IsTup h a its
  keep : ∀ {i h h'} {a : Addr}, F i (.ref a) h → (∀ o, h.get? a = some o → h'.get? a = some o) → F i (.ref a) h'
/-- what the generator promises at a yield -/
def givesH (C : Addr) (fp wr : List Addr) (pz : Nat → Bool) (n : Nat) (F : Nat → Value → Heap → Prop) : Protocol := fun m s0 v s go =>
  (∃ i, (passing pz n 0)[(passing pz n 0).length - 1 - m]? = some i ∧ F i v s.heap ∧ ∀ a, v = .ref a → a ≠ C ∧ a ∉ wr) ∧ GenSince C wr s0 s ∧
    ∀ t : Shared, (∀ b ∈ C :: fp, ∀ o, s.heap.get? b = some o → t.heap.get? b = some o) → go (.send .none) t
abbrev EndH (C : Addr) (wr : List Addr) : GenEnd := fun n s0 r s1 => r = .ok .next ∧ (n = 0 ∧ GenSince C wr s0 s1)
/-- tests and element in the generator's frame -/
structure QuietH (P : Program) (w : World) (ce : Env) (x : Str) (ifs : List Expr) (elt : Expr) (fp wr : List Addr) (G : Nat → Value → Prop) (pz : Nat → Bool) (F : Nat → Value → Heap → Prop) (ref : Heap) (D U : Nat) : Prop where
  test : ∀ (A : Around) E i v (s : Shared) m, A.handled = none → A.depth ≤ D → A.units ≤ U → G i v → s.heap.Ns ce.locals m → m x = some v → (∀ b ∈ fp, b ∉ wr → ∀ o, ref.get? b = some o → s.heap.get? b = some o) →
    wpAny (model P w) A (forIn ifs true fun c r => if r = true then do let ok ← isTrue c ce (eval c ce); pure (ForInStep.yield ok) else pure (ForInStep.yield r)) (fun b t => b = pz i ∧ Keeps s t) E s
  item : ∀ (A : Around) E i v (s : Shared) m, A.handled = none → A.depth ≤ D → A.units ≤ U → G i v → pz i = true → s.heap.Ns ce.locals m → m x = some v → (∀ b ∈ fp, b ∉ wr → ∀ o, ref.get? b = some o → s.heap.get? b = some o) →
    wpAny (model P w) A (eval elt ce) (fun y t => (F i y t.heap ∧ ∀ a, y = .ref a → ∀ b o, s.heap.get? b = some o → b < a) ∧ Keeps s t) E s
section
variable {P : Program} {w : World} {A : Around} {elt iter : Expr} {x : Str} {px pos : Pos} {ifs : List Expr} {scope : Scope} {it : Addr} {fp wr : List Addr} {n : Nat} {G : Nat → Value → Prop} {St : Nat → Heap → Prop} {ce : Env}
theorem loopH (calm : A.handled = none) (W : ∀ B : Around, B.handled = none → Walks P w B it fp wr n G St) (pz : Nat → Bool) (F : Nat → Value → Heap → Prop) (ref : Heap) (lx : ce.kindOf x = some .local)
    (up : (ce.scope.kind == .class || (ce.scope.kind == .module && ce.locals != ce.globals)) = false) (co : ce.scope.isCoroutine = false) (nC : ce.locals ∉ fp) (q : QuietH P w ce x ifs elt fp wr G pz F ref (A.depth + 1) (A.units + 3)) (thr : ∀ i h, St i h → ∀ b ∈ wr, ∃ o, h.get? b = some o) :
    ∀ (k i : Nat) (s0 s : Shared) (m : Str → Option Value), n - i = k → i ≤ n → St i s.heap → s.heap.Ns ce.locals m → GenSince ce.locals wr s0 s → (∀ b ∈ fp, b ∉ wr → ∀ o, ref.get? b = some o → s.heap.get? b = some o) →
      Seg (model P w) A (EndH ce.locals wr) (givesH ce.locals fp wr pz n F) (passing pz n i).length s0 (.compLoop (.GeneratorExp elt [⟨.Name x px, iter, ifs, 0⟩] scope pos) 0 (.ref it) .none ce)
        ((model P w).den (.compLoop (.GeneratorExp elt [⟨.Name x px, iter, ifs, 0⟩] scope pos) 0 (.ref it) .none ce)) [] s := by
  have calm2 : (A.over (.compLoop (.GeneratorExp elt [⟨.Name x px, iter, ifs, 0⟩] scope pos) 0 (.ref it) .none ce) []).handled = none := calm
  have dp : (A.over (.compLoop (.GeneratorExp elt [⟨.Name x px, iter, ifs, 0⟩] scope pos) 0 (.ref it) .none ce) []).depth ≤ A.depth + 1 := Nat.le_refl _
  have un : (A.over (.compLoop (.GeneratorExp elt [⟨.Name x px, iter, ifs, 0⟩] scope pos) 0 (.ref it) .none ce) []).units ≤ A.units + 3 := Nat.le_refl _
  have wfp : ∀ b ∈ wr, b ∈ fp := (W A calm).sub
  have wC : ce.locals ∉ wr := fun z => nC (wfp _ z)
  intro k
  induction k with
  | zero =>
    intro i s0 s m ek le st ns since kp
    obtain rfl : i = n := by omega
    show Seg _ A _ _ _ s0 _ ((compTurn (.GeneratorExp elt [⟨.Name x px, iter, ifs, 0⟩] scope pos) 0 (.ref it) .none ce).onRaise (leaving ce)) [] s
    rw [compTurn_gen, Sem.onRaise_eq_wrap]
    refine seg_bind_wrap (wpAny_standAt (seg_bind_wrap ((W _ calm2).done s _ _ st fun h tk kh => ?_)))
    have e0 : (passing pz i i).length = 0 := by rw [passing_end] <;> rfl
    exact seg_end (.ok .next) ⟨rfl, e0, since.step fun b o _ nb e => kh b o nb e⟩
  | succ k ih =>
    intro i s0 s m ek le st ns since kp
    have lt : i < n := by omega
    show Seg _ A _ _ _ s0 _ ((compTurn (.GeneratorExp elt [⟨.Name x px, iter, ifs, 0⟩] scope pos) 0 (.ref it) .none ce).onRaise (leaving ce)) [] s
    rw [compTurn_gen, Sem.onRaise_eq_wrap]
    refine seg_bind_wrap (wpAny_standAt (seg_bind_wrap ((W _ calm2).item i s _ _ lt st fun v h1 tk1 Gv st1 k1 => ?_)))
    refine seg_bind_wrap (wpAny_of_eq (rfl : letOwnedTupleGo (.Name x px) (.ref it) v = pure ()) ?_)
    refine seg_bind_wrap (wpAny_assign_Name (wpAny_storeName_local lx (ns.at' fun o e => k1 _ o wC e) (fun h2 ns2 sb2 => ?_) up))
    have k2 : ∀ b o, b ≠ ce.locals → b ∉ wr → s.heap.get? b = some o → h2.get? b = some o := fun b o nb nw e => sb2.extBut b o nb (k1 b o nw e)
    have st2 : St (i + 1) h2 := (W A calm).frame _ _ _ st1 fun b hb o e => sb2.extBut b o (fun z => nC (z ▸ hb)) e
    have kp2 : ∀ b ∈ fp, b ∉ wr → ∀ o, ref.get? b = some o → h2.get? b = some o := fun b hb nw o e => k2 b o (fun z => nC (z ▸ hb)) nw (kp b hb nw o e)
    refine seg_bind_wrap (wpAny_mono (q.test _ _ i v _ _ calm2 dp un Gv ns2 (by simp) kp2) (fun ok s3 z3 => ?_) fun _ _ e => e)
    obtain ⟨rfl, h3, tk3, rfl, k3⟩ := z3
    have st3 : St (i + 1) h3 := (W A calm).frame _ _ _ st2 fun b _ o e => k3 b o e
    have ns3 := ns2.keeps k3
    have since3 : GenSince ce.locals wr s0 { s with heap := h3, toks := tk3 } := since.step fun b o nb nw e => k3 b o (k2 b o nb nw e)
    cases ep : pz i with
    | false =>
      rw [passing_false lt ep]
      simp only [Bool.false_eq_true, if_false]
      exact seg_again rfl (ih (i + 1) s0 _ _ (by omega) lt st3 ns3 since3 fun b hb nw o e => k3 b o (kp2 b hb nw o e))
    | true =>
      rw [passing_true lt ep, List.length_cons]
      simp only [if_true]
      have yo : ∀ v, yieldOut ce v = yieldValue v := fun v => by simp only [yieldOut, co, Bool.false_eq_true, if_false]
      simp only [yo]
      rw [Sem.bind_eq_wrap', Sem.bind_eq_wrap', Sem.wrap_wrap, Sem.wrap_wrap]
      refine seg_wrap (wpAny_mono (q.item _ _ i v _ _ calm2 dp un Gv ep ns3 (by simp) fun b hb nw o e => k3 b o (kp2 b hb nw o e)) (fun y s4 z4 => ?_) fun _ _ e => e)
      obtain ⟨⟨Fy, new⟩, h4, tk4, rfl, k4⟩ := z4
      have apart : ∀ a, y = .ref a → a ≠ ce.locals ∧ a ∉ wr := fun a ea => by
        have above : ∀ b o, h3.get? b = some o → b < a := new a ea
        refine ⟨fun z => ?_, fun z => ?_⟩
        · obtain ⟨o, es, ep', e, _⟩ := ns3
          exact absurd (above _ o e) (by rw [z]; exact Nat.lt_irrefl _)
        · obtain ⟨o, e⟩ := thr _ _ st3 a z
          exact absurd (above _ o e) (Nat.lt_irrefl _)
      refine seg_at (seg_yield rfl rfl rfl ⟨⟨i, passing_here lt ep, Fy, apart⟩, since3.step fun b o _ _ e => k4 b o e, fun t kt => ?_⟩)
      have onT : ∀ b ∈ fp, ∀ o, h3.get? b = some o → t.heap.get? b = some o := fun b hb o e => kt b (List.mem_cons_of_mem _ hb) o (k4 b o e)
      refine seg_again rfl (ih (i + 1) t t _ (by omega) lt ((W A calm).frame _ _ _ st3 onT) ((ns3.keeps k4).at' fun o e => kt _ (List.mem_cons_self ..) o e) (GenSince.refl _ _ _) fun b hb nw o e => onT b hb o (k3 b o (kp2 b hb nw o e)))
theorem startH (calm : A.handled = none) (W : ∀ B : Around, B.handled = none → Walks P w B it fp wr n G St) (pz : Nat → Bool) (F : Nat → Value → Heap → Prop) (ref : Heap) (lx : ce.kindOf x = some .local)
    (up : (ce.scope.kind == .class || (ce.scope.kind == .module && ce.locals != ce.globals)) = false) (co : ce.scope.isCoroutine = false) (nC : ce.locals ∉ fp) (q : QuietH P w ce x ifs elt fp wr G pz F ref (A.depth + 1) (A.units + 3)) (thr : ∀ i h, St i h → ∀ b ∈ wr, ∃ o, h.get? b = some o)
    (s0 s : Shared) (m : Str → Option Value) (st : St 0 s.heap) (ns : s.heap.Ns ce.locals m) (since : GenSince ce.locals wr s0 s) (kp : ∀ b ∈ fp, b ∉ wr → ∀ o, ref.get? b = some o → s.heap.get? b = some o) :
    Seg (model P w) A (EndH ce.locals wr) (givesH ce.locals fp wr pz n F) (passing pz n 0).length s0 (.compStart (.GeneratorExp elt [⟨.Name x px, iter, ifs, 0⟩] scope pos) 0 (.ref it) .none ce)
      ((model P w).den (.compStart (.GeneratorExp elt [⟨.Name x px, iter, ifs, 0⟩] scope pos) 0 (.ref it) .none ce)) [] s := by
  have calm2 : (A.over (.compStart (.GeneratorExp elt [⟨.Name x px, iter, ifs, 0⟩] scope pos) 0 (.ref it) .none ce) []).handled = none := calm
  have go := loopH (iter := iter) (px := px) (scope := scope) (pos := pos) calm W pz F ref lx up co nC q thr n 0 s0 s m (Nat.sub_zero _) (Nat.zero_le _) st ns since kp
  show Seg _ A _ _ _ s0 _ ((compStart (.GeneratorExp elt [⟨.Name x px, iter, ifs, 0⟩] scope pos) 0 (.ref it) .none ce).onRaise (leaving ce)) [] s
  unfold compStart
  rw [Sem.onRaise_eq_wrap]
  show Seg _ A _ _ _ s0 _ ((ask >>= _).wrap _ _ _ _) [] s
  refine seg_bind_wrap (wpAny_askSetting ?_)
  split
  · exact seg_again rfl go
  · first
      | exact seg_bind_wrap (wpAny_rule (seg_bind_wrap (wpAny_standAt (seg_bind_wrap ((W _ calm2).self 0 s _ _ st (seg_again rfl go))))))
      | (refine seg_bind_wrap (wpAny_rule ?_); exact (show Seg _ A _ _ _ s0 _ ((standAt iter.pos >>= _).wrap _ _ _ _) [] s from seg_bind_wrap (wpAny_standAt (seg_bind_wrap ((W _ calm2).self 0 s _ _ st (seg_again rfl go))))))
end
/-- a generator that has given j of its values -/
def AtH (P : Program) (w : World) (A : Around) (a : Addr) (g : Nat) (C : Addr) (fp wr : List Addr) (pz : Nat → Bool) (n : Nat) (F : Nat → Value → Heap → Prop) (j : Nat) (s : Shared) : Prop :=
  s.heap.IsGen a g ∧ s.heap.NoLimit ∧ ∃ gs, s.gens[g]? = some gs ∧ ∀ t : Shared, (∀ b ∈ C :: fp, ∀ o, s.heap.get? b = some o → t.heap.get? b = some o) →
    gs.Goes (model P w) A.in1 (EndH C wr) (givesH C fp wr pz n F) ((passing pz n 0).length - j) (.send .none) t
/-- an iterator that gives n values; each is told with the heap -/
structure WalkH (P : Program) (w : World) (A : Around) (I : Addr) (fp wr : List Addr) (G : Array GenState → Array GenState → Prop) (n : Nat) (F : Nat → Value → Heap → Prop) (St : Nat → Shared → Prop) : Prop where
  sub : ∀ b ∈ wr, b ∈ fp
  grefl : ∀ a, G a a
  gtrans : ∀ a b c, G a b → G b c → G a c
  frame : ∀ i (s : Shared) h tk, St i s → s.toks ≤ tk → (∀ b ∈ fp, ∀ o, s.heap.get? b = some o → h.get? b = some o) → St i { s with heap := h, toks := tk }
  item : ∀ i (s : Shared) (Q : Option Value → Shared → Prop) (E : Value → Shared → Prop), i < n → St i s → (∀ v t, F i v t.heap → (∀ a, v = .ref a → a ∉ wr) → St (i + 1) t → Moved wr G s t → Q (some v) t) → wpAny (model P w) A (pyNext (.ref I)) Q E s
  done : ∀ (s : Shared) (Q : Option Value → Shared → Prop) (E : Value → Shared → Prop), St n s → (∀ t, Moved wr G s t → Q none t) → wpAny (model P w) A (pyNext (.ref I)) Q E s
  self : ∀ i (s : Shared) (Q : Value → Shared → Prop) (E : Value → Shared → Prop), St i s → Q (.ref I) s → wpAny (model P w) A (pyIter (.ref I)) Q E s
section
variable {P : Program} {w : World} {A : Around}
theorem walkH_gen (calm : A.handled = none) (a : Addr) (g : Nat) (C : Addr) (fp wr : List Addr) (pz : Nat → Bool) (n : Nat) (F : Nat → Value → Heap → Prop) (naC : a ≠ C) (naf : a ∉ fp) (wfp : ∀ b ∈ wr, b ∈ fp)
    (room : A.depth < recursionLimit) (cs : cStatics ∈ fp) (csC : cStatics ≠ C) (csw : cStatics ∉ wr) :
    WalkH P w A a (a :: C :: fp) (C :: wr) (GenOnlyQ g) (passing pz n 0).length (fun j y h => ∃ i, (passing pz n 0)[j]? = some i ∧ F i y h) (AtH P w A a g C fp wr pz n F) := by
  have stay : ∀ {h h' : Heap}, (∀ b o, b ≠ C → b ∉ wr → h.get? b = some o → h'.get? b = some o) → h.IsGen a g → h.NoLimit → h'.IsGen a g ∧ h'.NoLimit := fun k ig nl =>
    ⟨let ⟨o, x, y, e, r⟩ := ig; ⟨o, x, y, k a o naC (fun z => naf (wfp a z)) e, r⟩, let ⟨mc, ns, no⟩ := nl; ⟨mc, ns.at' fun o e => k cStatics o csC csw e, no⟩⟩
  refine ⟨fun b hb => ?_, fun _ => .inl rfl, fun _ _ _ x y => x.trans y, fun j s h tk st _ kh => ?_, fun j s Q E lt st k => ?_, fun s Q E st k => ?_, fun _ _ _ _ st k => wpAny_pyIter_gen st.1 k⟩
  · rcases List.mem_cons.mp hb with rfl | hb
    · exact List.mem_cons_of_mem _ List.mem_cons_self
    · exact List.mem_cons_of_mem _ (List.mem_cons_of_mem _ (wfp b hb))
  · obtain ⟨⟨o, x, y, e, r⟩, ⟨mc, ns, no⟩, gs, eg, go⟩ := st
    exact ⟨⟨o, x, y, kh a List.mem_cons_self o e, r⟩, ⟨mc, ns.at' fun o e => kh cStatics (List.mem_cons_of_mem _ (List.mem_cons_of_mem _ cs)) o e, no⟩, gs, eg, fun t kt => go t fun b hb o e => kt b hb o (kh b (List.mem_cons_of_mem _ hb) o e)⟩
  · obtain ⟨ig, nl, gs, eg, go⟩ := st
    obtain ⟨m, em⟩ : ∃ m, (passing pz n 0).length - j = m + 1 := ⟨_, (Nat.succ_pred_eq_of_pos (Nat.sub_pos_of_lt lt)).symm⟩
    rw [em] at go
    refine wpAny_with_toks (Nat.le_refl s.toks) (wpAny_pyNext_genexpQ (P := fun n s0 s1 => n = 0 ∧ GenSince C wr s0 s1) calm nl room ig eg (go _ fun _ _ _ e => e) (fun v s1 gs' hb hv => ?_) fun s1 hp h' _ => absurd hp.1 (Nat.succ_ne_zero m))
    obtain ⟨⟨i, ei, Fv, ap⟩, ⟨h1, tk1, rfl, k1⟩, kap⟩ := hv
    rw [show (passing pz n 0).length - 1 - (m + 1 - 1) = j by omega] at ei
    obtain ⟨ig1, nl1⟩ := stay k1 ig nl
    intro tk
    refine k v _ ⟨i, ei, Fv⟩ (fun b eb z => ?_) ⟨ig1, nl1, gs', setGen_self (gs := .running) (setGen_self eg), fun t kt => ?_⟩ ⟨fun b o nb e => k1 b o (fun z => nb (by rw [z]; exact List.mem_cons_self)) (fun z => nb (List.mem_cons_of_mem _ z)) e,
      GenOnlyQ.of ((GenOnly.setGen s g .running).trans (GenOnly.setGen _ g gs')) (setGen_self (gs := .running) (setGen_self eg)) hb, rfl, rfl, tk⟩
    · rcases List.mem_cons.mp z with z | z
      · exact (ap b eb).1 z
      · exact (ap b eb).2 z
    · rw [show (passing pz n 0).length - (j + 1) = m by omega]
      exact kap t kt
  · obtain ⟨ig, nl, gs, eg, go⟩ := st
    rw [Nat.sub_self] at go
    refine wpAny_with_toks (Nat.le_refl s.toks) (wpAny_pyNext_genexpQ (P := fun n s0 s1 => n = 0 ∧ GenSince C wr s0 s1) calm nl room ig eg (go _ fun _ _ _ e => e) (fun v s1 gs' hb hv => ?_) fun s1 hp h' kh => ?_)
    · obtain ⟨_, _, kap⟩ := hv
      exact (kap s1 fun _ _ _ e => e).elim
    · obtain ⟨_, h1, tk1, rfl, k1⟩ := hp
      intro tk
      exact k _ ⟨fun b o nb e => kh b o (k1 b o (fun z => nb (by rw [z]; exact List.mem_cons_self)) (fun z => nb (List.mem_cons_of_mem _ z)) e), GenOnlyQ.of ((GenOnly.setGen s g .running).trans (GenOnly.setGen _ g .finished)) (setGen_self (gs := .running) (setGen_self eg)) rfl, rfl, rfl, tk⟩
theorem makeH {E : Value → Shared → Prop} {s : Shared} {env : Env} {elt iter : Expr} {x : Str} {px : Pos} {ifs : List Expr} {scope : Scope} {cl : List (Str × Addr)} {pos : Pos} {Q : Value → Shared → Prop}
    (calm : A.handled = none) (co : scope.isCoroutine = false) (clo : closureFor scope env = pure cl) (nc : ∀ y ∈ scope.names, y.2 ≠ .cell) (dot : scope.names.lookup (".0" : Str) = some NameKind.local)
    (lx : scope.names.lookup x = some .local) (kf : scope.kind = .function) (room : A.depth < recursionLimit)
    (h : wpAny (model P w) A (eval iter env) (fun xv s1 => wpAny (model P w) A (pyIter xv) (fun i0 s2 => s2.heap.NoLimit ∧
      wpAny (model P w) A (genexprCode env pos (env.qual ++ "<genexpr>") scope) (fun code s3 => wpAny (model P w) A (builtinsFor env.globals env.builtins) (fun bi s4 =>
        ∃ I fp wr n G St pz F, i0 = .ref I ∧ (∀ B : Around, B.handled = none → Walks P w B I fp wr n G St) ∧ (∀ i h, St i h → ∀ b ∈ wr, ∃ o, h.get? b = some o) ∧ St 0 s4.heap ∧ (∀ b ∈ fp, b < s4.heap.objs.size) ∧ s4.heap.NoLimit ∧ cStatics ∉ wr ∧
          (∀ ref : Heap, (∀ b o, s4.heap.get? b = some o → ref.get? b = some o) → QuietH P w (genEnv scope cl s4.heap.objs.size code bi env) x ifs elt (List.range s4.heap.objs.size) wr G pz F ref (A.depth + 1) (A.units + 8)) ∧
          (∀ a h5 tk gs, gs.bare = true → s4.heap.objs.size < a → h5.objs.size = a + 1 → (∀ b o, s4.heap.get? b = some o → h5.get? b = some o) →
            WalkH P w A.in4 a (a :: s4.heap.objs.size :: List.range s4.heap.objs.size) (s4.heap.objs.size :: wr) (GenOnlyQ s4.gens.size) (passing pz n 0).length (fun j y h => ∃ i, (passing pz n 0)[j]? = some i ∧ F i y h) (AtH P w A.in4 a s4.gens.size s4.heap.objs.size (List.range s4.heap.objs.size) wr pz n F) →
            AtH P w A.in4 a s4.gens.size s4.heap.objs.size (List.range s4.heap.objs.size) wr pz n F 0 { s4 with gens := s4.gens.push gs, toks := tk, heap := h5 } → Q (.ref a) { s4 with gens := s4.gens.push gs, toks := tk, heap := h5 })) E s3) E s2) E s1) E s)
    (fold : ∀ v, genFold iter env v = pure v) : wpAny (model P w) A (eval (.GeneratorExp elt [⟨.Name x px, iter, ifs, 0⟩] scope pos) env) Q E s := by
  refine wpAny_GeneratorExp_make co clo nc dot kf room (wpAny_mono h (fun xv s1 h1 => wpAny_mono h1 (fun i0 s2 h2 => ⟨h2.1, wpAny_mono h2.2 (fun code s3 h3 => wpAny_mono h3 (fun bi s4 h4 => ?_) fun _ _ e => e) fun _ _ e => e⟩) fun _ _ e => e) fun _ _ e => e) fold
  obtain ⟨I, fp, wr, n, G, St, pz, F, rfl, W, thr, st, lo, nl, csw, quiet, done_⟩ := h4
  have csl : cStatics < s4.heap.objs.size := let ⟨_, ns, _⟩ := nl; ns.lt
  intro h' ns' sb'
  have sz : h'.objs.size = s4.heap.objs.size + 1 := by rw [sb'.1, Heap.size_push]
  have k' : ∀ b o, s4.heap.get? b = some o → h'.get? b = some o := fun b o e => sb'.extBut b o (Nat.ne_of_lt (Heap.lt_size e)) (Heap.get?_push_of_some _ e)
  have inR : ∀ b ∈ fp, b ∈ List.range s4.heap.objs.size := fun b hb => List.mem_range.mpr (lo b hb)
  have naC : h'.objs.size ≠ s4.heap.objs.size := by omega
  have naR : h'.objs.size ∉ List.range s4.heap.objs.size := fun z => by have := List.mem_range.mp z; omega
  have k5 : ∀ b o, s4.heap.get? b = some o → (h'.push { cls := .type "generator", data := .fields #[.int s4.gens.size 0, .str "<genexpr>" (s4.toks + 1), .str (env.qual ++ "<genexpr>") (s4.toks + 1 + 1)] }).get? b = some o := fun b o e => Heap.get?_push_of_some _ (k' b o e)
  refine done_ _ _ _ _ rfl (by omega) (by rw [Heap.size_push]) k5 (walkH_gen (A := A.in4) calm _ _ _ _ wr pz n F naC naR (fun b hb => inR b ((W A calm).sub b hb)) room (List.mem_range.mpr csl) (Nat.ne_of_lt csl) csw) ?_
  refine ⟨⟨_, _, _, Heap.get?_push_size _ rfl, rfl, rfl, rfl⟩, nl.keeps k5, _, Array.getElem?_push_size .., fun t kt => ⟨rfl, ?_⟩⟩
  refine startH (A := A.in4.in1) (ce := genEnv scope cl s4.heap.objs.size code bi env) (m := fun y => if y = ".0" then some (.ref I) else none) calm (fun B hB => (W B hB).mono_fp inR) pz F s4.heap lx (by simp [genEnv, kf]) co (fun z => Nat.lt_irrefl _ (List.mem_range.mp z)) ?_ thr t t ?_ ?_ (GenSince.refl _ _ _) fun b hb _ o e => kt b (List.mem_cons_of_mem _ hb) o (k5 b o e)
  · exact quiet _ fun _ _ e => e
  · exact (W A calm).frame _ _ _ st fun b hb o e => kt b (List.mem_cons_of_mem _ (inR b hb)) o (k5 b o e)
  · exact (ns'.push _).at' fun o e => kt _ List.mem_cons_self o e
end
end Fy
namespace Fy
open PySem PySem.Spec PyProof.Rows L2
open GxR (TabG Tabbed inv_tab sh_eta)
/-- an element that is a new tuple -/
structure QN (P : Program) (w : World) (K : PySem.W.Frag) (cenv : Env) (N : List Str) (e : Expr) (t : QT) : Prop where
  run : ∀ (A : Around) (E : Value → Shared → Prop) (s : Shared) (σ : L2.St) (H : Hp) (R : QV → Prop), A.handled = none → A.units + 1 < cLine → GV P w K cenv N σ H s → t σ H R →
    wpAny (model P w) A (eval e cenv) (fun y s' => Keeps s s' ∧ ∃ xs a us, y = .ref a ∧ (∀ b o, s.heap.get? b = some o → b < a) ∧ Vals xs us ∧ IsTup s'.heap a us.toArray ∧ R (.t xs)) E s
def ReadyH (X : Cx) (pins : List (Addr × Obj)) (σ : L2.St) (H1 : Hp) (P : Addr) (R : List (List V) → Hp → Prop) (g : Addr) (s5 : Shared) : Prop :=
  ∃ (n0 : Nat) (ys : List (List V)) (fp wr : List Addr) (G : Array GenState → Array GenState → Prop) (F : Nat → Value → Heap → Prop) (St : Nat → Shared → Prop),
    WalkH X.prog X.w X.A.in4 g fp wr G ys.length F St ∧ St 0 s5 ∧ (∀ b ∈ fp, b < s5.heap.objs.size) ∧ g ∈ fp ∧ (∀ i s, St i s → s.TypeIs (.ref g) "generator") ∧
    (∀ j y h, F j y h → ∃ xs a us, ys[j]? = some xs ∧ y = .ref a ∧ Vals xs us ∧ IsTup h a us.toArray ∧ n0 ≤ a) ∧ ∃ H2, Tabbed P H1 H2 ∧ R ys H2 ∧ (∀ s', Moved wr G s5 s' → Inv X pins σ H2 s') ∧ ∀ a, n0 ≤ a → H2 a = none ∧ FpOk X pins H2 a
def gRdH (K : PySem.W.Frag) (P : Addr) (te : TE) (i : Nat) (tt : QB) (tel : QT) (R : List (List V) → Hp → Prop) : L2.St → Hp → Prop := fun σ H =>
  te σ H fun v H1 => TabG H1 P ∧ ∃ items : List V, Src K H1 v items ∧ ∀ H2, Tabbed P H1 H2 → ∃ (p : V → Bool) (f : V → List V),
    (∀ x ∈ items, tt (σ.set i (some x)) H2 (fun b => b = p x)) ∧ (∀ x ∈ items, p x = true → tel (σ.set i (some x)) H2 (fun q => q = .t (f x))) ∧ R ((items.filter p).map f) H2
theorem passing_yt {β : Type} {items : List V} {p : V → Bool} {f : V → β} {j i : Nat} (h : (passing (fun i => (items[i]?.map p).getD false) items.length 0)[j]? = some i) :
    ∃ x, items[i]? = some x ∧ p x = true ∧ ((items.filter p).map f)[j]? = some (f x) := by
  have e := PyProof.Rows.idx_map items p
  have hp : passing (fun i => (items[i]?.map p).getD false) items.length 0 = (List.range items.length).filter fun i => (items[i]?.map p).getD false := by simp [passing]
  rw [hp] at h
  have hm := List.mem_of_getElem? h
  obtain ⟨h1, h2⟩ := List.mem_filter.mp hm
  have hi : i < items.length := List.mem_range.mp h1
  have hx : items[i]? = some items[i] := by simp [hi]
  refine ⟨items[i], hx, by rw [hx] at h2; simpa using h2, ?_⟩
  have q := congrArg (fun l => l[j]?) e
  simp only [List.getElem?_map, h, Option.map_some] at q
  rw [hx] at q
  rw [List.getElem?_map]
  cases hq : (items.filter p)[j]? with
  | none => rw [hq] at q; cases q
  | some y =>
    rw [hq] at q
    have e3 : items[i] = y := Option.some.inj (Option.some.inj q)
    rw [e3] <;> rfl
theorem passing_lt {β : Type} (items : List V) (p : V → Bool) (f : V → β) : (passing (fun i => (items[i]?.map p).getD false) items.length 0).length = ((items.filter p).map f).length := by
  have e := congrArg List.length (PyProof.Rows.idx_map items p)
  have hp : passing (fun i => (items[i]?.map p).getD false) items.length 0 = (List.range items.length).filter fun i => (items[i]?.map p).getD false := by simp [passing]
  rw [hp]
  simpa using e
section
variable {X : Cx} {pins : List (Addr × Obj)} {σ : L2.St} {H : Hp} {s : Shared}
theorem src_iterT {E : Value → Shared → Prop} {x : V} {u : Value} {items : List V} {Q : Value → Shared → Prop} (I : Inv X pins σ H s) (h : Src X.K H x items) (rx : RelV x u)
    (hQ : ∀ (o : Obj) (a : Addr) (F : Nat → Value → Prop) (St : Nat → Heap → Prop), a < s.heap.objs.size → (∀ ps, H a ≠ some (.tbl ps)) → (∀ A' : Around, A'.handled = none → Walks X.prog X.w A' s.heap.objs.size [s.heap.objs.size, a] [s.heap.objs.size] items.length F St) →
      St 0 (s.heap.push o) → (∀ i h, St i h → ∃ u, h.get? s.heap.objs.size = some u) → (∀ i v, F i v → ∃ y, items[i]? = some y ∧ RelV y v) → Q (.ref s.heap.objs.size) { s with heap := s.heap.push o }) :
    wpAny (model X.prog X.w) X.A (pyIter u) Q E s := by
  obtain ⟨a, rfl, h⟩ := h
  obtain rfl : u = Value.ref a := rx
  have nt : ∀ {u : HO}, Rd H a u → (∀ ps, u ≠ .tbl ps) → ∀ ps, H a ≠ some (.tbl ps) := fun {u} r n ps z => by
    rcases r with r | ⟨o, r⟩
    · rw [r] at z; exact n ps (Option.some.inj z)
    · rw [r] at z; cases z
  have ntK : ∀ {o : Obj}, X.K.lookup a = some o → ∀ ps, H a ≠ some (.tbl ps) := fun {o} r ps z => by
    rw [(I.bs a o (I.mod.kin a o r)).2] at z
    cases z
  rcases h with h | h | ⟨kvs, h, rfl⟩
  · obtain ⟨its, rv, pl, hz⟩ := I.list h
    have lt : a < s.heap.objs.size := let ⟨o, n, e, _⟩ := pl; Heap.lt_size e
    have hl := rv.length
    refine wpAny_pyIter_list pl.isList ?_
    refine hQ _ a (fun i v => its.toArray[i]? = some v) (fun i h => h.IsListIter s.heap.objs.size a i ∧ h.IsList a its.toArray) lt (h.elim (fun r => nt r fun _ z => by cases z) fun ⟨_, _, _, r, _⟩ => ntK r) (fun A' hA => ?_) ⟨⟨_, Heap.get?_push_size _ rfl, rfl, rfl⟩, ?_⟩ (fun i h st => let ⟨u, e, _⟩ := st.1; ⟨u, e⟩) fun i v hv => vals_at rv (by simpa using hv)
    · have W := Walks.list (prog := X.prog) (w := X.w) hA s.heap.objs.size a (Nat.ne_of_lt lt) its.toArray
      rw [show its.toArray.size = items.length by rw [hl]; simp] at W
      exact W
    · exact pl.isList.at fun o e => Heap.get?_push_of_some _ e
  · obtain ⟨its, rv, pl, hz⟩ := I.tuple h
    have lt : a < s.heap.objs.size := pl.lt
    have hl := rv.length
    refine wpAny_pyIter_tuple (show s.heap.IsTuple a its.toArray from pl) ?_
    refine hQ _ a (fun i v => its.toArray[i]? = some v) (fun i h => h.IsTupleIter s.heap.objs.size a i ∧ h.IsTuple a its.toArray) lt (h.elim (fun r => nt r fun _ z => by cases z) fun ⟨_, _, _, r, _⟩ => ntK r) (fun A' hA => ?_) ⟨⟨_, Heap.get?_push_size _ rfl, rfl, rfl⟩, ?_⟩ (fun i h st => let ⟨u, e, _⟩ := st.1; ⟨u, e⟩) fun i v hv => vals_at rv (by simpa using hv)
    · have W := Walks.tuple (prog := X.prog) (w := X.w) hA s.heap.objs.size a (Nat.ne_of_lt lt) its.toArray
      rw [show its.toArray.size = items.length by rw [hl]; simp] at W
      exact W
    · exact tup_at pl fun o e => Heap.get?_push_of_some _ e
  · obtain ⟨z, hd, vs, rel, dd⟩ := dk_rd I.hok h
    obtain ⟨ep, da⟩ := dd.dictAt
    have lt : a < s.heap.objs.size := let ⟨o, es, e, _⟩ := da; Heap.lt_size e
    have hl := rel.length
    refine wpAny_pyIter_dict hd da ?_
    refine hQ _ a (fun i v => ∃ k x, vs[i]? = some (k, x) ∧ (mixKind X.prog X.w).is k v = true) (fun i h => h.IsKeyIter s.heap.objs.size a i vs.length ep ∧ h.DictAt (mixKind X.prog X.w) a vs ep) lt (nt h fun _ z => by cases z) (fun A' hA => ?_) ⟨?_, ?_⟩ (fun i h st => let ⟨u, e, _⟩ := st.1; ⟨u, e⟩) fun i v hv => ?_
    · have W := Walks.dictKeys (prog := X.prog) (w := X.w) (knd := mixKind X.prog X.w) hA s.heap.objs.size a (Nat.ne_of_lt lt) vs ep
      rw [← hl] at W
      rw [← hl, List.length_map]
      exact W
    · exact ⟨_, Heap.get?_push_size _ rfl, rfl, rfl⟩
    · exact da.at' fun o e => Heap.get?_push_of_some _ e
    · obtain ⟨k, x, e, hk⟩ := hv
      have hi : i < kvs.length := by rw [hl]; exact (List.getElem?_eq_some_iff.mp e).1
      have ek : kvs.map (·.1) = vs.map (·.1) := rel.keys
      have e2 : (kvs.map (·.1))[i]? = some k := by rw [ek, List.getElem?_map, e] <;> rfl
      refine ⟨kV k, ?_, relV_key hk⟩
      rw [List.getElem?_map] at e2 ⊢
      cases q : kvs[i]? with
      | none => rw [q] at e2; cases e2
      | some y =>
        rw [q] at e2
        have e3 : y.1 = k := Option.some.inj e2
        show some (kV y.1) = some (kV k)
        rw [e3]
theorem gen_makeH {c P : Addr} {elt iter : Expr} {x : Str} {px gpos : Pos} {ifs : List Expr} {scope : Scope} {te : TE} {i k : Nat} {tt : QB} {tel : QT} {Q' : Value → Shared → Prop} {R : List (List V) → Hp → Prop}
    (hr : Room k X.A) (TB : LamX.TabB X.base X.mg c P) (hcode : X.env.code = .ref c) (hN : X.N.Nodup) (hi : X.N[i]? = some x) (L : GenSc X.N X.env.scope scope x) (hit : PE X iter te)
    (ht : ∀ (C : Addr) (code : Value) (bi : Addr), QTs X.prog X.w X.K (genEnv scope (cloFrom X.env.cells scope.names []) C code bi X.env) X.N ifs tt) (hel : ∀ (C : Addr) (code : Value) (bi : Addr), QN X.prog X.w X.K (genEnv scope (cloFrom X.env.cells scope.names []) C code bi X.env) X.N elt tel)
    (hs : ∀ v, genFold iter X.env v = pure v) (I : Inv X pins σ H s) (h : gRdH X.K P te i tt tel R σ H)
    (hQ : ∀ g s5 H1, ReadyH X pins σ H1 P R g s5 → Q' (.ref g) s5) :
    wpAny (model X.prog X.w) X.A (eval (.GeneratorExp elt [⟨.Name x px, iter, ifs, 0⟩] scope gpos) X.env) Q' X.xe s := by
  refine makeH hr.hd L.co (closure_ok (L.has I.ok)) L.cell L.dot L.own L.kind (by have := hr.dp; omega) ?_ hs
  refine thn (hit.run pins s σ H _ I h) fun xv s1 ⟨v, H1, I1, r1, q1⟩ => ?_
  obtain ⟨⟨ps, hP, htr⟩, items, hsrc, hrest⟩ := q1
  refine src_iterT I1 hsrc r1 fun o a0 F0 St0 ha0 hnt W hst thr hF0 => ?_
  have hPs : s1.heap.get? P = some { cls := .none, data := .fields ps } := I1.hok P _ hP
  have hPlt : P < s1.heap.objs.size := Heap.lt_size hPs
  have hP2 : (s1.heap.push o).get? P = some { cls := .none, data := .fields ps } := Heap.get?_push_of_some _ hPs
  have cd : PySem.W.CodeHd (s1.heap.push o) c P := TB.code.keeps fun b u e => Heap.get?_push_of_some _ (I1.bk b u e)
  have lim2 : (s1.heap.push o).NoLimit := I1.nolimit.push o
  have a0P : a0 ≠ P := fun z => by
    rw [z] at hnt
    exact hnt ps hP
  refine ⟨lim2, thn (Q := fun _ s3 => ∃ (h3 : Heap) (tk : Nat) (more : Array Value), s3 = { s1 with heap := h3, toks := tk } ∧ Heap.ExtBut P (s1.heap.push o) h3 ∧ (s1.heap.push o).objs.size ≤ h3.objs.size ∧ h3.get? P = some { cls := .none, data := .fields (ps ++ more) } ∧ TriplesOk (ps ++ more).toList) ?_ fun code s3 h3 => ?_⟩
  · -- the code object: made, or there
    cases hf : codeAmong gpos ps.toList with
    | some cv => exact wpAny_genexprCode_hit hcode (cd.code hP2 htr) hf ⟨_, s1.toks, #[], rfl, .refl _ _, Nat.le_refl _, by simpa using hP2, by simpa using htr⟩
    | none =>
      refine wpAny_genexprCodeX hcode (cd.code hP2 htr) (cd.tab hP2) hf fun c' h' tk hx hge hlt hco' _ htab' _ => ⟨h', tk, _, rfl, hx, Nat.le_trans hge (Nat.le_of_lt hlt), htab'.2, ?_⟩
      obtain ⟨_, _, _, _, _, _, _, _, _, _, _, _, _, _, _, _, _, _, _, z, _⟩ := hco'
      exact z
  obtain ⟨h3, tk, more, rfl, hx, hsz, hP3, ht3⟩ := h3
  obtain ⟨bm, ob, e1, e2, e3, e4, e5, e6, e7, e8⟩ := TB.bm
  have hcP : cStatics ≠ P := fun e => by
    obtain ⟨_, hns, _⟩ := I1.nolimit
    obtain ⟨o', es, ep, ho, hd, _⟩ := hns
    rw [e, hPs] at ho
    cases ho
    cases hd
  have hcl : cStatics < s1.heap.objs.size := let ⟨_, hns, _⟩ := I1.nolimit; hns.lt
  have sz2 : (s1.heap.push o).objs.size = s1.heap.objs.size + 1 := Heap.size_push ..
  have keep3 : ∀ b u, b ≠ P → s1.heap.get? b = some u → h3.get? b = some u := fun b u hb e => hx b u hb (Heap.get?_push_of_some _ e)
  -- the view of the def, behind the code object
  have J3 : Inv X pins σ (upd H1 P (.tbl (ps ++ more))) { s1 with heap := h3, gens := s1.gens, drawn := s1.drawn, toks := tk } := inv_tab (t' := tk) (g' := s1.gens) (d' := s1.drawn) I1 hP (fun b o hb e => keep3 b o hb e) hP3 I1.bare
  have hT2 : Tabbed P H1 (upd H1 P (.tbl (ps ++ more))) := ⟨⟨ps ++ more, upd_same, ht3⟩, fun b hb => upd_ne hb⟩
  obtain ⟨p, f, hp1, hp2, hR⟩ := hrest _ hT2
  refine wpAny_builtinsFor (m := X.mg) (by rw [I1.ok.glob]; exact ((I1.mod.glob.keeps I1.bk).push o).extBut hx TB.gP) e1 e2 (keep3 _ _ e4 (I1.bk _ _ e5)) e6 e7 e8 ?_
  have nitB : ∀ b o, X.base.get? b = some o → b ≠ s1.heap.objs.size := fun b o e => Nat.ne_of_lt (Heap.lt_size (I1.bk b o e))
  have ncell : ∀ z c, X.env.cells.lookup z = some c → c ≠ s1.heap.objs.size := fun z c e => by
    obtain ⟨v, q⟩ := I1.cell z c e
    exact Nat.ne_of_lt q.lt
  have hitN : upd H1 P (.tbl (ps ++ more)) s1.heap.objs.size = none := by
    rw [upd_ne (Nat.ne_of_gt hPlt)]
    exact I1.hok.fresh (Nat.le_refl _)
  have hun := hr.un
  refine ⟨s1.heap.objs.size, [s1.heap.objs.size, a0], [s1.heap.objs.size], items.length, F0, St0, (fun i => (items[i]?.map p).getD false), (fun i y h => ∃ z, items[i]? = some z ∧ ∃ a us, y = .ref a ∧ Vals (f z) us ∧ IsTup h a us.toArray ∧ s1.heap.objs.size ≤ a), rfl, W, (fun i h st b hb => by rw [List.mem_singleton.mp hb]; exact thr i h st), ?_, ?_, lim2.extBut hx hcP, ?_, ?_, ?_⟩
  · refine (W X.A hr.hd).frame _ _ _ hst fun b hb u e => hx b u (fun z => ?_) e
    rcases List.mem_cons.mp hb with z2 | z2
    · exact Nat.ne_of_lt hPlt (z.symm.trans z2)
    · rcases List.mem_cons.mp z2 with z3 | z3
      · exact a0P (z3.symm.trans z)
      · cases z3
  · intro b hb
    rcases List.mem_cons.mp hb with z | z
    · rw [z]
      show s1.heap.objs.size < h3.objs.size
      omega
    · rcases List.mem_cons.mp z with z | z
      · rw [z]
        show a0 < h3.objs.size
        have h9 : a0 < s1.heap.objs.size := ha0
        have h8 : s1.heap.objs.size ≤ h3.objs.size := by omega
        exact Nat.lt_of_lt_of_le h9 h8
      · cases z
  · intro z
    rcases List.mem_cons.mp z with z | z
    · exact Nat.ne_of_lt hcl z
    · cases z
  · intro href hhref
    have kk : ∀ (s₂ : Shared), (∀ b ∈ List.range h3.objs.size, b ∉ [s1.heap.objs.size] → ∀ o, href.get? b = some o → s₂.heap.get? b = some o) → ∀ b o, b ≠ s1.heap.objs.size → h3.get? b = some o → s₂.heap.get? b = some o := fun s₂ hk b o hb e =>
      hk b (List.mem_range.mpr (Heap.lt_size e)) (by simpa using hb) o (hhref b o e)
    refine ⟨fun A' E' i' v' s₂ m₂ hA hD hU hPv hn hm hk => ?_, fun A' E' i' v' s₂ m₂ hA hD hU hPv hp hn hm hk => ?_⟩
    · obtain ⟨y, hy, ry⟩ := hF0 i' v' hPv
      have g := gv_of (code := code) (bi := builtinsNs) J3 hN hi L hm ry hn s1.heap.objs.size hitN nitB ncell (kk s₂ hk)
      have q := (ht h3.objs.size code builtinsNs).run A' E' s₂ _ _ _ hA (by have : A'.units ≤ X.A.units + 8 := hU; omega) g (hp1 y (List.mem_of_getElem? hy))
      refine thn q fun b s3 hb => ⟨?_, hb.1⟩
      rw [hb.2, hy] <;> rfl
    · obtain ⟨y, hy, ry⟩ := hF0 i' v' hPv
      have hpy : p y = true := by rw [hy] at hp; exact hp
      have g := gv_of (code := code) (bi := builtinsNs) J3 hN hi L hm ry hn s1.heap.objs.size hitN nitB ncell (kk s₂ hk)
      have q := (hel h3.objs.size code builtinsNs).run A' E' s₂ _ _ _ hA (by have : A'.units ≤ X.A.units + 8 := hU; omega) g (hp2 y (List.mem_of_getElem? hy) hpy)
      refine thn q fun z s3 hz => ?_
      obtain ⟨k3, q3, a, us, eq, new, rq, tp, eq3⟩ := hz
      subst eq
      obtain rfl := QV.t.inj eq3
      have big : s1.heap.objs.size ≤ a := by
        obtain ⟨oc, _, _, ec, _⟩ := hn
        have h9 : (h3.objs.size : Nat) < a := new _ oc ec
        omega
      exact ⟨⟨⟨y, hy, a, us, rfl, rq, tp, big⟩, fun b eb => by cases eb; exact new⟩, k3⟩
  · intro g h5 tk5 gs hgb hag hsz5 hk5 W5 hat
    rw [passing_lt items p f] at W5
    refine hQ g _ H1 ⟨s1.heap.objs.size, (items.filter p).map f, _, _, _, _, _, W5, hat, fun b hb => ?_, List.mem_cons_self, fun i s st => ?_, fun j y h hy => ?_, _, hT2, hR, fun s' hm => ?_, fun a ha => ?_⟩
    · show b < h5.objs.size
      rcases List.mem_cons.mp hb with z | z
      · rw [z, hsz5]; exact Nat.lt_succ_self _
      · have hb2 : b ≤ h3.objs.size := by
          rcases List.mem_cons.mp z with z | z
          · exact Nat.le_of_eq z
          · exact Nat.le_of_lt (List.mem_range.mp z)
        have : h3.objs.size < g := hag
        have hb3 : (b : Nat) ≤ h3.objs.size := hb2
        have hg3 : (h3.objs.size : Nat) < g := hag
        rw [hsz5]
        exact Nat.lt_succ_of_lt (Nat.lt_of_le_of_lt hb3 hg3)
    · exact st.1.typeIs
    · obtain ⟨i', hij, z, hz, a, us, ea, rz, tz, ba⟩ := hy
      obtain ⟨x', hx1, hx2, hx3⟩ := passing_yt (f := f) hij
      rw [hz] at hx1
      cases hx1
      exact ⟨_, a, us, hx3, ea, rz, tz, ba⟩
    · have nwr : ∀ b u, s1.heap.get? b = some u → b ∉ h3.objs.size :: [s1.heap.objs.size] := fun b u e hb => by
        have hl := Heap.lt_size e
        rcases List.mem_cons.mp hb with z | z
        · rw [z] at hl
          have h9 : (h3.objs.size : Nat) < s1.heap.objs.size := hl
          omega
        · rcases List.mem_cons.mp z with z | z
          · rw [z] at hl
            exact Nat.lt_irrefl _ hl
          · cases z
      have J := inv_tab (more := more) (h' := s'.heap) (g' := s'.gens) (d' := s'.drawn) (t' := s'.toks) I1 hP (fun b u hb e => hm.heap b u (nwr b u e) (hk5 b u (keep3 b u hb e)))
        (hm.heap P _ (nwr P _ hPs) (hk5 P _ hP3)) (AllBare.movedS (I1.bare.push hgb) hm)
      rw [sh_eta s1 s' hm.os] at J
      exact J
    · have na : upd H1 P (.tbl (ps ++ more)) a = none := by
        rw [upd_ne (fun z => Nat.lt_irrefl _ (Nat.lt_of_lt_of_le hPlt (by rw [← z]; exact ha)))]
        exact I1.hok.fresh ha
      exact ⟨na, I1.fpOk ha na⟩
end
section
variable {P : Program} {w : World} {K : PySem.W.Frag} {cenv : Env} {N : List Str}
theorem q_tupN {a b : Expr} {j : Nat} {pos : Pos} {ta tb : QT} (ha : QE P w K cenv N a ta) (hb : QE P w K cenv N b tb)
    (hs : starEach [a, b] cenv = [(false, eval a cenv), (false, eval b cenv)] := by rfl) : QN P w K cenv N (.Tuple [a, b] j pos) (qTup2 ta tb) := by
  refine ⟨fun A E s σ H R hh hu g h => Tuple_ ?_⟩
  rw [hs]
  refine (show wpAny _ _ (spliced (backTo pos [(false, eval a cenv), (false, eval b cenv)])) _ _ s from ?_)
  refine Calls.spliced_cons (thn (ha.run A E s σ H _ hh hu g h) fun v s1 ⟨k1, x, r1, q1⟩ => Calls.spliced_cons (thn (hb.run A E s1 σ H _ hh hu (g.keeps k1) q1) fun u s2 ⟨k2, y, r2, q2⟩ => Calls.spliced_nil ?_))
  obtain ⟨p, q, rfl, rfl, qq⟩ := q2
  have k12 := kTr k1 k2
  have kp : Keeps s2 { s2 with heap := s2.heap.push { cls := .type "tuple", data := .seq [v, u].toArray } } := ⟨_, s2.toks, rfl, fun b o e => Heap.get?_push_of_some _ e⟩
  exact wpAny_newObj_type ⟨kTr k12 kp, [p, q], _, [v, u], rfl, fun b o e => Heap.lt_size (kGet k12 b o e), .cons r1 (.cons r2 .nil), IsTup.new s2.heap _, qq⟩ (by show 2 ≤ sizeLine; decide)
end
end Fy
namespace Fy
open PySem PySem.Spec PyProof.Rows L2
open GxR (TabG Tabbed inv_tab sh_eta)
/-- what the comparison of two given values needs -/
structure CmpH (P : Program) (w : World) (A : Around) (F : Nat → Value → Heap → Prop) (bt : Nat → Nat → Bool) : Prop where
  lt : ∀ i j vi vj (s : Shared) (Q : Value → Shared → Prop) (E : Value → Shared → Prop), F i vi s.heap → F j vj s.heap → Q (.bool (bt i j)) s → wpAny (model P w) A (richCompare .Lt vi vj) Q E s
  keep : ∀ {i h h'} {v : Value}, F i v h → (∀ a, v = .ref a → ∀ o, h.get? a = some o → h'.get? a = some o) → F i v h'
  list : ∀ {i h S o} {v : Value}, F i v h → h.get? S = some o → o.cls = .type "list" → v ≠ .ref S
section
variable {P : Program} {w : World} {A : Around} {R : Result → Shared → Prop} {I : Addr} {fp wr : List Addr} {G : Array GenState → Array GenState → Prop} {n : Nat} {F : Nat → Value → Heap → Prop} {St : Nat → Shared → Prop} {bt : Nat → Nat → Bool}
theorem minGoH (W : WalkH P w A.in1 I fp wr G n F St) (C : CmpH P w A.in1 F bt) (S : Addr) (nS : S ∉ fp) : ∀ (k j : Nat) (s : Shared) (best : Value) (c : Nat), n - (j + 1) = k → j + 1 ≤ n → St (j + 1) s → F (argBest bt j) best s.heap → (∀ a, best = .ref a → a ∉ wr) →
    s.heap.get? S = some { cls := .type "list", dict := none, data := .seq #[best, best] c, slots := #[] } → (∀ v t, F (argBest bt (n - 1)) v t.heap → Moved (S :: wr) G s t → R (.ok (.ret v)) t) →
    codeAny (model P w) A (.builtin "min.loop" ⟨[.ref I, .none, .ref S], []⟩) R s := by
  have nSw : S ∉ wr := fun z => nS (W.sub _ z)
  have more : ∀ b ∈ wr, b ∈ S :: wr := fun b hb => List.mem_cons_of_mem _ hb
  have nm : (toString "min" ++ toString ".loop" : String) = "min.loop" := by decide
  have off : ∀ {b : Addr}, b ∉ S :: wr → S ≠ b := fun nb z => nb (by rw [z]; exact List.mem_cons_self)
  intro k
  induction k with
  | zero =>
    intro j s best c ek le st Fb nb eS fin
    obtain rfl : n = j + 1 := by omega
    refine codeAny_builtin PySem.F.entry_min_loop ?_
    rw [Around.under_plainId PySem.F.plain_min_loop _]
    refine wpAny_bind (show wpAny _ A.in1 (seqItems? (.ref S)) _ _ s from wpAny_seqItems eS rfl ?_)
    refine wpAny_bind (show wpAny _ A.in1 (tryCatch (pyNext (.ref I)) _) _ _ s from wpAny_tryCatch (W.done s _ _ st fun t mv => ?_))
    have eS' := mv.heap S _ nSw eS
    have Fb' := C.keep Fb fun a ea o e => mv.heap a o (nb a ea) e
    refine wpAny_bind (show wpAny _ A.in1 (updateSeq S (fun _ => #[])) _ _ _ from wpAny_updateSeq eS' rfl (wpAny_bind (wpAny_letGo (wpAny_pure ?_))))
    refine fin best _ ?_ ((mv.mono more).then_heap (tk := t.toks) (Nat.le_refl _) fun b o hb e => (Heap.get?_update_other _ _ (off hb)).trans e)
    exact C.keep Fb' fun a ea o e => (Heap.get?_update_other _ _ (fun z => C.list Fb' eS' rfl (by rw [ea, z]))).trans e
  | succ k ih =>
    intro j s best c ek le st Fb nb eS fin
    have lt : j + 1 < n := by omega
    refine codeAny_builtin PySem.F.entry_min_loop ?_
    rw [Around.under_plainId PySem.F.plain_min_loop _]
    refine wpAny_bind (show wpAny _ A.in1 (seqItems? (.ref S)) _ _ s from wpAny_seqItems eS rfl ?_)
    refine wpAny_bind (show wpAny _ A.in1 (tryCatch (pyNext (.ref I)) _) _ _ s from wpAny_tryCatch (W.item (j + 1) s _ _ lt st fun v t Fv nv st' mv => ?_))
    have eS' := mv.heap S _ nSw eS
    have Fb' := C.keep Fb fun a ea o e => mv.heap a o (nb a ea) e
    refine (show wpAny _ A.in1 (tryCatch (holding [v, v] (richCompare .Lt v best >>= _)) _ >>= _) _ _ _ from wpAny_bind (wpAny_tryCatch (wpAny_holding (wpAny_bind (C.lt (j + 1) (argBest bt j) v best _ _ _ Fv Fb' ?_)))))
    refine wpAny_bind (wpAny_holding (wpAny_truthy_bool (wpAny_bind (wpAny_letGo (wpAny_pure ?_)))))
    cases eb : bt (j + 1) (argBest bt j) with
    | true =>
      simp only [if_true]
      refine wpAny_bind (wpAny_updateSeq eS' rfl (wpAny_bind (wpAny_letGo ?_)))
      rw [nm]
      have upF : ∀ {i : Nat} {u : Value}, F i u t.heap → F i u (t.heap.update S (Obj.mapSeq fun _ => #[v, v])) := fun Fu => C.keep Fu fun a ea o e => (Heap.get?_update_other _ _ (fun z => C.list Fu eS' rfl (by rw [ea, z]))).trans e
      refine wpAny_pure ⟨plainId_quiet PySem.F.plain_min_loop _, ih (j + 1) _ v _ (by omega) lt (W.frame _ t _ t.toks st' (Nat.le_refl _) fun b hb o e => (Heap.get?_update_other _ _ (fun z : S = b => nS (by rw [z]; exact hb))).trans e) ?_ nv (Heap.get?_update_self _ eS' rfl) fun u t' Fu mv' => fin u t' Fu ?_⟩
      · have z : argBest bt (j + 1) = j + 1 := by simp only [argBest, eb, if_true]
        rw [z]
        exact upF Fv
      · exact Moved.trans W.gtrans ((mv.mono more).then_heap (Nat.le_refl _) fun b o hb e => (Heap.get?_update_other _ _ (off hb)).trans e) mv'
    | false =>
      simp only [Bool.false_eq_true, if_false]
      refine wpAny_bind (wpAny_letGo ?_)
      rw [nm]
      have z : argBest bt (j + 1) = argBest bt j := by simp only [argBest, eb, Bool.false_eq_true, if_false]
      exact wpAny_pure ⟨plainId_quiet PySem.F.plain_min_loop _, ih (j + 1) _ best c (by omega) lt st' (by rw [z]; exact Fb') nb eS' fun u t' Fu mv' => fin u t' Fu (Moved.trans W.gtrans (mv.mono more) mv')⟩
theorem minCallH {E : Value → Shared → Prop} {s : Shared} {Q : Value → Shared → Prop} (W : WalkH P w A.in1 I fp wr G n F St) (C : CmpH P w A.in1 F bt) (pos : 0 < n) (st : St 0 s) (lo : ∀ b ∈ fp, b < s.heap.objs.size)
    (q : ∀ v t, F (argBest bt (n - 1)) v t.heap → Moved wr G s t → Q v t) : wpAny (model P w) A (call (.builtin "min") [.ref I]) Q E s := by
  have nm : (toString "min" ++ toString ".loop" : String) = "min.loop" := by decide
  refine call_function_tree PySem.F.kind_min PySem.F.plain_min PySem.F.entry_min (PySem.F.args_min1 _) (show wpAny _ A.in1 (Builtin.Builtins.bindParams "min" ["key", "default"] 0 ⟨[], []⟩ >>= _) _ _ s from ?_)
  refine wpAny_bind (wpAny_of_eq (show Builtin.Builtins.bindParams "min" ["key", "default"] 0 ⟨[], []⟩ = pure [none, none] from rfl) (wpAny_bind (wpAny_pure (wpAny_bind (W.self 0 s _ _ st ?_)))))
  refine wpAny_bind (wpAny_newObj_type ?_)
  rw [nm]
  generalize eS0 : s.heap.objs.size = S
  have nS : S ∉ fp := fun z => Nat.lt_irrefl _ (eS0 ▸ lo _ z)
  have eS : (s.heap.push { cls := .type "list", data := .seq #[] }).get? S = some { cls := .type "list", dict := none, data := .seq #[] 0, slots := #[] } := by
    rw [← eS0]
    exact Heap.get?_push_size _ rfl
  have st0 := W.frame 0 s _ s.toks st (Nat.le_refl _) fun b _ o e => Heap.get?_push_of_some { cls := .type "list", data := .seq #[] } e
  have nSw : S ∉ wr := fun z => nS (W.sub _ z)
  refine wpAny_pure ⟨plainId_quiet PySem.F.plain_min_loop _, codeAny_builtin PySem.F.entry_min_loop ?_⟩
  rw [Around.under_plainId PySem.F.plain_min_loop _]
  refine wpAny_bind (show wpAny _ A.in1 (seqItems? (.ref S)) _ _ _ from wpAny_seqItems eS rfl ?_)
  refine wpAny_bind (show wpAny _ A.in1 (tryCatch (pyNext (.ref I)) _) _ _ _ from wpAny_tryCatch (W.item 0 _ _ _ pos st0 fun v t Fv nv st' mv => ?_))
  have eS' := mv.heap S _ nSw eS
  refine (show wpAny _ A.in1 (updateSeq S (fun _ => #[v, v]) >>= _) _ _ _ from wpAny_bind (wpAny_updateSeq eS' rfl ?_))
  rw [nm]
  have off : ∀ {b : Addr}, b ∉ S :: wr → S ≠ b := fun nb z => nb (by rw [z]; exact List.mem_cons_self)
  have up : F 0 v (t.heap.update S (Obj.mapSeq fun _ => #[v, v])) := C.keep Fv fun a ea o e => (Heap.get?_update_other _ _ (fun z => C.list Fv eS' rfl (by rw [ea, z]))).trans e
  refine wpAny_pure ⟨plainId_quiet PySem.F.plain_min_loop _, minGoH W C S nS _ 0 _ v _ rfl pos (W.frame _ t _ t.toks st' (Nat.le_refl _) fun b hb o e => (Heap.get?_update_other _ _ (fun z : S = b => nS (by rw [z]; exact hb))).trans e) up nv (Heap.get?_update_self _ eS' rfl) fun u t' Fu mv' => ?_⟩
  have all := Moved.trans W.gtrans ((mv.mono (fun b hb => List.mem_cons_of_mem S hb)).then_heap (tk := t.toks) (Nat.le_refl _) fun b o hb e => (Heap.get?_update_other _ _ (off hb)).trans e) mv'
  subst eS0
  exact q u t' Fu (Moved.drop_new (tk := s.toks) all (Nat.le_refl _))
end
/-- a taker of tuples, by its rule -/
def TakerH (X : Cx) (f : Value) (cons : List (List V) → Hp → VK → Prop) : Prop :=
  ∀ (pins : List (Addr × Obj)) (σ : L2.St) (H1 : Hp) (P : Addr) (g : Addr) (s : Shared) (Q : VK), ReadyH X pins σ H1 P (fun ys H2 => cons ys H2 Q) g s → wpAny (model X.prog X.w) X.A (call f [.ref g]) (EP X pins σ Q) X.xe s
def tGenH (K : PySem.W.Frag) (P : Addr) (te : TE) (i : Nat) (tt : QB) (tel : QT) (cons : List (List V) → Hp → VK → Prop) : TE := fun σ H Q => gRdH K P te i tt tel (fun ys H2 => cons ys H2 Q) σ H
section
variable {X : Cx}
theorem pe_genBH {id : String} {c P : Addr} {b x : Str} {elt iter : Expr} {px p pos gpos : Pos} {ifs : List Expr} {scope : Scope} {te : TE} {i k : Nat} {tt : QB} {tel : QT} {cons : List (List V) → Hp → VK → Prop}
    (T : TakerH X (.builtin id) cons) (hg : Gl X b) (hm : X.mg b = none) (hv : bootBuiltins b = some (.builtin id))
    (hr : Room k X.A) (TB : LamX.TabB X.base X.mg c P) (hcode : X.env.code = .ref c) (hN : X.N.Nodup) (hi : X.N[i]? = some x) (L : GenSc X.N X.env.scope scope x) (hit : PE X iter te)
    (ht : ∀ (C : Addr) (code : Value) (bi : Addr), QTs X.prog X.w X.K (genEnv scope (cloFrom X.env.cells scope.names []) C code bi X.env) X.N ifs tt) (hel : ∀ (C : Addr) (code : Value) (bi : Addr), QN X.prog X.w X.K (genEnv scope (cloFrom X.env.cells scope.names []) C code bi X.env) X.N elt tel)
    (hs : ∀ v, genFold iter X.env v = pure v) (hn : b ≠ "__name__" := by decide) (hdb : (b == ("__debug__" : Str)) = false := by decide)
    (he : starEach [.GeneratorExp elt [⟨.Name x px, iter, ifs, 0⟩] scope gpos] X.env = (false, eval (.GeneratorExp elt [⟨.Name x px, iter, ifs, 0⟩] scope gpos) X.env) :: starEach [] X.env := by rfl) :
    PE X (.Call (.Name b p) [.GeneratorExp elt [⟨.Name x px, iter, ifs, 0⟩] scope gpos] [] pos) (tGenH X.K P te i tt tel cons) := by
  refine ⟨fun pins s σ H Q I h => ?_⟩
  refine wpAny_Call_Name_kw (ld_blt I hg hm hv ?_ hn hdb)
  refine PyProof.Rows.callWith_builtin1 ?_ he (by rfl)
  rw [he]
  show wpAny _ _ (spliced ((false, eval (.GeneratorExp elt [⟨.Name x px, iter, ifs, 0⟩] scope gpos) X.env) :: backTo pos (starEach [] X.env))) _ _ s
  refine Calls.spliced_cons (gen_makeH (R := fun ys H2 => cons ys H2 Q) hr TB hcode hN hi L hit ht hel hs I h fun g s5 H1 hR => ?_)
  exact Calls.spliced_nil (T pins σ H1 P g s5 Q hR)
/-- the least of some pairs (number, text) -/
def isD (k : Int × Str) : PyData := .tuple [.int k.1, .str k.2]
def isV (k : Int × Str) : List V := [.int k.1, .str k.2]
def cMinT : List (List V) → Hp → VK → Prop := fun ys H Q => ∃ ks : List (Int × Str), ys = ks.map isV ∧ ks ≠ [] ∧ ∀ m, m ∈ ks → (∀ y ∈ ks, PySem.W.dataLt (isD y) (isD m) = false) → ∀ p, H p = none → Q (.ref p) (upd H p (.tup (isV m)))
theorem isD_reads {h : Heap} {a : Addr} {k : Int × Str} {us : List Value} (r : Vals (isV k) us) (t : IsTup h a us.toArray) : ∃ as, Reads h (.ref a) (isD k) as := by
  obtain ⟨u, v, rfl, ru, rv⟩ := vals2 r
  obtain ⟨t1, rfl⟩ := (show ∃ t, u = Value.int k.1 t from ru)
  obtain ⟨t2, rfl⟩ := (show ∃ t, v = Value.str k.2 t from rv)
  obtain ⟨o, e1, e2, n, e3⟩ := t
  exact ⟨_, .tuple e1 e2 e3 (.cons (.int _ _) (.cons (.str _ _) .nil))⟩
theorem WalkH.in1 {P : Program} {w : World} {A : Around} {I : Addr} {fp wr : List Addr} {G : Array GenState → Array GenState → Prop} {n : Nat} {F : Nat → Value → Heap → Prop} {St : Nat → Shared → Prop} (W : WalkH P w A.in1 I fp wr G n F St) : WalkH P w A I fp wr G n F St :=
  ⟨W.sub, W.grefl, W.gtrans, W.frame, fun i s Q E lt st k => wpAny_of_in1 (W.item i s Q E lt st k), fun s Q E st k => wpAny_of_in1 (W.done s Q E st k), fun i s Q E st k => wpAny_of_in1 (W.self i s Q E st k)⟩
theorem WalkH.in41 {P : Program} {w : World} {A : Around} {I : Addr} {fp wr : List Addr} {G : Array GenState → Array GenState → Prop} {n : Nat} {F : Nat → Value → Heap → Prop} {St : Nat → Shared → Prop} (W : WalkH P w A.in4 I fp wr G n F St) : WalkH P w A.in1 I fp wr G n F St :=
  WalkH.in1 (A := A.in1) (WalkH.in1 (A := A.in1.in1) (WalkH.in1 (A := A.in1.in1.in1) W))
/-- what is told of the values may be said otherwise -/
theorem WalkH.say {P : Program} {w : World} {A : Around} {I : Addr} {fp wr : List Addr} {G : Array GenState → Array GenState → Prop} {n : Nat} {F F' : Nat → Value → Heap → Prop} {St : Nat → Shared → Prop} (W : WalkH P w A I fp wr G n F St) (h : ∀ i v h, F i v h → F' i v h) : WalkH P w A I fp wr G n F' St :=
  ⟨W.sub, W.grefl, W.gtrans, W.frame, fun i s Q E lt st k => W.item i s Q E lt st fun v t a b c d => k v t (h _ _ _ a) b c d, W.done, W.self⟩
theorem argBest_le (bt : Nat → Nat → Bool) : ∀ n, argBest bt n ≤ n
  | 0 => Nat.le_refl _
  | k + 1 => by
    unfold argBest
    split
    · exact Nat.le_refl _
    · exact Nat.le_succ_of_le (argBest_le bt k)
theorem argBest_least {bt : Nat → Nat → Bool} (ir : ∀ i, bt i i = false) (tr : ∀ i j k, bt i j = true → bt j k = true → bt i k = true) : ∀ n j, j ≤ n → bt j (argBest bt n) = false
  | 0, j, h => by
    obtain rfl : j = 0 := by omega
    exact ir 0
  | n + 1, j, h => by
    have ih := argBest_least ir tr n
    unfold argBest
    by_cases e : bt (n + 1) (argBest bt n) = true
    · rw [if_pos e]
      by_cases ej : j = n + 1
      · rw [ej]; exact ir _
      · cases ez : bt j (n + 1) with
        | false => rfl
        | true =>
          have := tr _ _ _ ez e
          rw [ih j (by omega)] at this
          cases this
    · rw [if_neg e]
      by_cases ej : j = n + 1
      · rw [ej]; simpa using e
      · exact ih j (by omega)
theorem isD_alike (a b : Int × Str) : PySem.W.alike (isD a) (isD b) = true := rfl
theorem isD_depth (a : Int × Str) : (isD a).depth ≤ 3 := by
  show (PyData.tuple [.int a.1, .str a.2]).depth ≤ 3
  simp [PyData.depth, PyData.depthAll]
theorem tk_minT (hu : X.A.units + 8 < cLine) : TakerH X (.builtin "min") cMinT := by
  intro pins σ H1 P g s Q h
  obtain ⟨n0, ys, fp, wr, G, F, St, W, st, lo, gm, ty, hF, H2, hT, ⟨ks, rfl, ne, q⟩, hI, hnew⟩ := h
  have pos : 0 < (ks.map isV).length := by
    rw [List.length_map]
    exact List.length_pos_iff.mpr ne
  have W2 := W.in41.say (F' := fun j v h => ∃ a us, (∃ lt : j < ks.length, Vals (isV ks[j]) us) ∧ v = .ref a ∧ IsTup h a us.toArray ∧ n0 ≤ a) fun j v h Fv => by
    obtain ⟨xs, a, us, e1, e2, e3, e4, e5⟩ := hF j v h Fv
    rw [List.getElem?_map] at e1
    obtain ⟨k, ek, rfl⟩ := Option.map_eq_some_iff.mp e1
    obtain ⟨lt, el⟩ := List.getElem?_eq_some_iff.mp ek
    exact ⟨a, us, ⟨lt, by rw [el]; exact e3⟩, e2, e4, e5⟩
  have C : CmpH X.prog X.w X.A.in1 (fun j v h => ∃ a us, (∃ lt : j < ks.length, Vals (isV ks[j]) us) ∧ v = .ref a ∧ IsTup h a us.toArray ∧ n0 ≤ a) (fun i j => PySem.W.dataLt (isD (ks.getD i (0, ""))) (isD (ks.getD j (0, "")))) := by
    refine ⟨fun i j vi vj s Q E hi hj k => ?_, fun {i h h' v} hv kp => ?_, fun {i h S o v} hv eS cl z => ?_⟩
    · obtain ⟨a, us, ⟨l1, r1⟩, rfl, t1, _⟩ := hi
      obtain ⟨b, ws, ⟨l2, r2⟩, rfl, t2, _⟩ := hj
      obtain ⟨as, d1⟩ := isD_reads r1 t1
      obtain ⟨bs, d2⟩ := isD_reads r2 t2
      have g1 : ks.getD i (0, "") = ks[i] := by simp [List.getD_eq_getElem?_getD, l1]
      have g2 : ks.getD j (0, "") = ks[j] := by simp [List.getD_eq_getElem?_getD, l2]
      rw [g1, g2] at k
      have := isD_depth ks[i]
      refine PySem.W.lt_data d1 d2 (isD_alike _ _) (by intro z; cases z) ?_ k
      have := Nat.min_le_left (isD ks[i]).depth (isD ks[j]).depth
      show X.A.units + 1 + _ < cLine
      omega
    · obtain ⟨a, us, e1, rfl, ⟨o, e2, e3⟩, e4⟩ := hv
      exact ⟨a, us, e1, rfl, ⟨o, kp a rfl o e2, e3⟩, e4⟩
    · obtain ⟨a, us, e1, rfl, ⟨o', e2, e3, _⟩, e4⟩ := hv
      cases z
      rw [eS] at e2
      cases e2
      rw [cl] at e3
      exact absurd e3 (by decide)
  refine minCallH W2 C pos st lo fun v t Fv mv => ?_
  obtain ⟨a, us, ⟨lt, rv⟩, rfl, ⟨o, e1, e2, n, e3⟩, ba⟩ := Fv
  have J := hI t mv
  obtain ⟨na, fo⟩ := hnew a ba
  have new : ∀ (xs : List V) (H' : Hp), Vals xs us → xs.length ≤ sizeLine → ObjOk X.prog X.w H' t.heap a (.tup xs) := fun xs H' rv z => ⟨z, us, rv, o, e1, e2, n, e3⟩
  have J2 := J.take (h' := t.heap) (t' := t.toks) (fun b ob _ e => e) fo (new _ _ rv (by show 2 ≤ sizeLine; decide))
  refine ⟨.ref a, _, J2, rfl, q _ (List.getElem_mem lt) (fun y hy => ?_) a na⟩
  obtain ⟨j, lj, ej⟩ := List.mem_iff_getElem.mp hy
  have le := argBest_least (bt := fun i j => PySem.W.dataLt (isD (ks.getD i (0, ""))) (isD (ks.getD j (0, "")))) (fun i => PyProof.Rows.lex_irrefl _) (fun i j k => PyProof.Rows.lex_trans _ _ _) ((ks.map isV).length - 1) j (by rw [List.length_map]; omega)
  have g1 : ks.getD j (0, "") = ks[j] := by simp [List.getD_eq_getElem?_getD, lj]
  have gd : ∀ (b : Nat) (lb : b < ks.length), ks.getD b (0, "") = ks[b] := fun b lb => by rw [List.getD_eq_getElem?_getD, List.getElem?_eq_getElem lb] <;> rfl
  rw [g1, gd _ lt, ej] at le
  exact le
end
end Fy
namespace Fy
open PySem PySem.Spec PyProof.Rows L2
abbrev ltD : PyData → PyData → Bool := PySem.W.dataLt
section
variable {X : Cx}
/-- min over a generator of texts -/
def cMinS : List V → Hp → VK → Prop := fun ys H Q => ∃ ns : List Str, ys = ns.map V.str ∧ ns ≠ [] ∧ ∀ m, m ∈ ns → (∀ y ∈ ns, ltD (.str y) (.str m) = false) → Q (.str m) H
theorem str_at {ns : List Str} {j : Nat} {x : V} {u : Value} (e : (ns.map V.str)[j]? = some x) (r : RelV x u) : ∃ n, ns[j]? = some n ∧ ∃ t, u = .str n t := by
  rw [List.getElem?_map] at e
  obtain ⟨n, e1, rfl⟩ := Option.map_eq_some_iff.mp e
  exact ⟨n, e1, r⟩
theorem tk_minS (hu : X.A.units + 8 < cLine) : Taker X (.builtin "min") cMinS := by
  intro pins σ H1 P g s Q h
  obtain ⟨ys, fp, wr, G, F, St, W, st, lo, gm, ty, hF, H2, hT, ⟨ns, rfl, ne, q⟩, hI⟩ := h
  have pos : 0 < (ns.map V.str).length := by
    rw [List.length_map]
    exact List.length_pos_iff.mpr ne
  have gd : ∀ j y, F j y → ∃ lt : j < ns.length, ∃ t, y = .str ns[j] t := fun j y hy => by
    obtain ⟨x, e, r⟩ := hF j y hy
    obtain ⟨n, e1, t, e2⟩ := str_at e r
    obtain ⟨lt, el⟩ := List.getElem?_eq_some_iff.mp e1
    exact ⟨lt, t, by rw [el]; exact e2⟩
  have ge : ∀ (b : Nat) (lb : b < ns.length), ns.getD b "" = ns[b] := fun b lb => by rw [List.getD_eq_getElem?_getD, List.getElem?_eq_getElem lb] <;> rfl
  have C : CmpOf X.prog X.w X.A.in1 .Lt F (fun i j => ltD (.str (ns.getD i "")) (.str (ns.getD j ""))) := fun i j vi vj s Q E hi hj k => by
    obtain ⟨l1, t1, rfl⟩ := gd i vi hi
    obtain ⟨l2, t2, rfl⟩ := gd j vj hj
    dsimp only at k
    rw [ge i l1, ge j l2] at k
    refine PySem.W.lt_data (.str _ _) (.str _ _) rfl (by intro z; cases z) ?_ k
    show X.A.units + 1 + min (PyData.depth (.str ns[i])) (PyData.depth (.str ns[j])) < cLine
    have : PyData.depth (.str ns[i]) ≤ 1 := by simp [PyData.depth]
    have := Nat.min_le_left (PyData.depth (.str ns[i])) (PyData.depth (.str ns[j]))
    omega
  refine call_min_walkS (W.in4_1.self 0 _ _ _ st ⟨g, fp, wr, G, _, F, St, _, rfl, W.in4_1, st, lo, pos, C, fun v t Fv mv => ?_⟩)
  obtain ⟨lt, t', rfl⟩ := gd _ v Fv
  refine ⟨.str _, H2, hI t mv, ⟨t', rfl⟩, q _ (List.getElem_mem lt) fun y hy => ?_⟩
  obtain ⟨j, lj, ej⟩ := List.mem_iff_getElem.mp hy
  have le := argBest_least (bt := fun i j => ltD (.str (ns.getD i "")) (.str (ns.getD j ""))) (fun i => PyProof.Rows.lex_irrefl _) (fun i j k => PyProof.Rows.lex_trans _ _ _) ((ns.map V.str).length - 1) j (by rw [List.length_map]; omega)
  rw [ge j lj, ge _ lt, ej] at le
  exact le
/-- min of a list of data -/
def rMinD (K : PySem.W.Frag) : List V → Hp → VK → Prop := fun vs H Q => ∃ (a : Addr) (xs : List V) (ds : List PyData), vs = [.ref a] ∧ SqL K H a xs ∧ DpAll K H xs ds ∧ PySem.W.AlikeAll ds ∧ PyData.depthAll ds ≤ 40 ∧ ds ≠ [] ∧
  ∀ (j : Nat) (x : V) (d : PyData), xs[j]? = some x → ds[j]? = some d → (∀ y ∈ ds, ltD y d = false) → Q x H
theorem cr_minD (hc : X.calm = true) (hu : X.A.units + 65 < cLine) : CallR X (.builtin "min") (rMinD X.K) := by
  intro pins s σ H xs us Q I r q
  obtain ⟨a, vs, ds, rfl, hq, hd, al, dp, ne, q⟩ := q
  obtain ⟨u, rfl, rx⟩ := vals1 r
  cases rx
  obtain ⟨its, rv, pl, hz⟩ := I.list hq
  obtain ⟨as, rd⟩ := Dp.readsAll I ds vs its hd rv
  have len : its.toArray.size = ds.length := PySem.W.readsAll_len (vs := its.toArray) rd
  have pos : 0 < ds.length := List.length_pos_iff.mpr ne
  refine call_min_walkH (PySem.W.iter_listW (A := X.A.in1) (I.ok.hd hc) pl.isList fun s2 e W st lo nw up => ?_)
  refine ⟨_, _, _, _, _, _, _, s.heap, _, rfl, W, st, lo, by omega, nw, up, PySem.W.cmpIn_lt (A := X.A.in1) (vs := its.toArray) rd al (by show X.A.units + 1 + _ < _; omega), fun v t hv mv => ?_⟩
  obtain ⟨h', tk, rfl, hk⟩ := PySem.W.moved_old e rfl mv
  have hv : its[argBest (fun i j => PySem.W.dataLt (ds.getD i .none) (ds.getD j .none)) (its.toArray.size - 1)]? = some v := by simpa using hv
  obtain ⟨x, ex, rxv⟩ := vals_at rv hv
  generalize eb : argBest (fun i j => PySem.W.dataLt (ds.getD i .none) (ds.getD j .none)) (its.toArray.size - 1) = b at hv ex
  have lb : b < ds.length := by
    have := (List.getElem?_eq_some_iff.mp hv).1
    have e2 : its.toArray.size = its.length := by simp
    omega
  have J : Inv X pins σ H { s with heap := h', toks := tk } := I.kept hk
  refine ⟨x, H, J, rxv, q b x ds[b] ex (List.getElem?_eq_getElem lb) fun y hy => ?_⟩
  obtain ⟨j, lj, ej⟩ := List.mem_iff_getElem.mp hy
  have le := argBest_least (bt := fun i j => PySem.W.dataLt (ds.getD i .none) (ds.getD j .none)) (fun i => PyProof.Rows.lex_irrefl _) (fun i j k => PyProof.Rows.lex_trans _ _ _) (its.toArray.size - 1) j (by omega)
  have ge : ∀ (c : Nat) (lc : c < ds.length), ds.getD c .none = ds[c] := fun c lc => by rw [List.getD_eq_getElem?_getD, List.getElem?_eq_getElem lc] <;> rfl
  rw [eb, ge j lj, ge b lb, ej] at le
  exact le
/-- d != {} -/
def rEmptyD (K : PySem.W.Frag) : R2 := fun x y H Q => ∃ c d ks, x = .ref c ∧ y = .ref d ∧ H c = some (.dK ks) ∧ H d = some (.dK []) ∧ Q (.bl (decide (ks ≠ []))) H
theorem op_neD0 (hu : X.A.units + 65 < cLine) : OpR X (compareOp .NotEq) (rEmptyD X.K) := by
  intro pins s σ H x y v u Q I rx ry h
  obtain ⟨c, d, ks, rfl, rfl, ec, ed, q⟩ := h
  obtain rfl : v = Value.ref c := rx
  obtain rfl : u = Value.ref d := ry
  obtain ⟨_, mc, vc, rc, dc⟩ := (show ObjOk X.prog X.w H s.heap c (.dK ks) from I.hok c _ ec)
  obtain ⟨_, md, vd, rd, dd⟩ := (show ObjOk X.prog X.w H s.heap d (.dK []) from I.hok d _ ed)
  have e0 : vd = [] := List.eq_nil_of_length_eq_zero rd.length.symm
  have lc : ks.length = vc.length := rc.length
  subst e0
  refine PySem.W.keq_ne (knd := mixKind X.prog X.w) (r := true) mc md dc dd (by omega) (fun z => ?_) ⟨.bl (decide (ks ≠ [])), H, I, ?_, q⟩
  · have : vc = [] := List.eq_nil_of_length_eq_zero z
    rw [this]
    exact .nil
  · show _ = _
    cases ks with
    | nil =>
      have : vc = [] := List.eq_nil_of_length_eq_zero lc.symm
      rw [this] <;> rfl
    | cons a t =>
      cases vc with
      | nil => cases lc
      | cons b r => simp
end
end Fy
namespace Fy
open PySem PySem.Spec PyProof.Rows L2
theorem cut_at {β : Type} {ys : List β} {i : Nat} {y : β} (e : ys[i]? = some y) : ys = ys.take i ++ y :: ys.drop (i + 1) ∧ ∀ {α : Type} (f : α → β → α) (a : α), (ys.take (i + 1)).foldl f a = f ((ys.take i).foldl f a) y := by
  obtain ⟨h1, h2⟩ := List.getElem?_eq_some_iff.mp e
  refine ⟨by rw [← h2, ← List.drop_eq_getElem_cons h1, List.take_append_drop], fun f a => ?_⟩
  rw [List.take_add_one, e, List.foldl_append] <;> rfl
/-- a for loop over a dict's tuples, as a fold -/
theorem for_foldT {α β : Type} {d : Addr} {o : Obj} {kvs : List (List Key × V)} {g : TG} {tb : TS} {D : Ends} {σ : L2.St} {H : Hp} (kv : β → List Key × V) (ys : List β) (ek : kvs = ys.map kv) (f : α → β → α) (a0 : α) (Rp : α → L2.St → Hp → Prop) (h0 : Rp a0 σ H) (hG : ∀ a σ H, Rp a σ H → H d = some (.frz o (.dT kvs)))
    (hs : ∀ pre y post σ H q, ys = pre ++ y :: post → Rp (pre.foldl f a0) σ H → H q = some (.tup ((kv y).1.map kV)) → g (.ref q) σ H fun σ2 H2 => tb { D with nx := Rp (f (pre.foldl f a0) y), ct := Rp (f (pre.foldl f a0) y), bk := D.nx } σ2 H2) (hd : ∀ σ H, Rp (ys.foldl f a0) σ H → D.nx σ H) :
    ∃ W : Nat → Nat → L2.St → Hp → Prop, (∃ m, W 0 m σ H) ∧ ∀ i m σ H, W i m σ H →
      ((Itkt d o kvs).stop i H ∧ D.nx σ H) ∨ ((Itkt d o kvs).go i H ∧ ∃ N : L2.St → Hp → Prop, (∀ σ' H', N σ' H' → ∃ m', m' < m ∧ W (i + 1) m' σ' H') ∧ ∀ x H', (Itkt d o kvs).yld i H x H' → g x σ H' fun σ2 H2 => tb { D with nx := N, ct := N, bk := D.nx } σ2 H2) := by
  subst ek
  refine for_it walk_keysT (fun i => Rp ((ys.take i).foldl f a0)) h0 (fun i σ H _ h => hG _ σ H h) (fun i x σ H H' hi h y => ?_) fun σ H h => hd σ H (by rw [List.length_map, List.take_length] at h; exact h)
  obtain ⟨rfl, k, v, q, e1, rfl, e2⟩ := y
  rw [List.getElem?_map] at e1
  obtain ⟨y, ey, e3⟩ := Option.map_eq_some_iff.mp e1
  obtain ⟨c1, c2⟩ := cut_at ey
  show g (.ref q) σ H' fun σ2 H2 => tb { D with nx := Rp ((ys.take (i + 1)).foldl f a0), ct := Rp ((ys.take (i + 1)).foldl f a0), bk := D.nx } σ2 H2
  rw [c2 f a0]
  exact hs _ y _ σ H' q c1 h (by rw [e3]; exact e2)
/-- a comprehension over a dict's tuples, as a fold -/
theorem lc_foldT {α β : Type} {d : Addr} {o : Obj} {kvs : List (List Key × V)} {g : TG} {tt : TT} {te : TE} {vs : List Nat} {σ : L2.St} {H1 : Hp} {D : Addr} {Qd : Hp → Prop} (kv : β → List Key × V) (ys : List β) (ek : kvs = ys.map kv) (f : α → β → α) (a0 : α) (Rp : α → Hp → Prop) (h0 : Rp a0 (upd H1 D (.lst []))) (hG : ∀ a H, Rp a H → H d = some (.frz o (.dT kvs)))
    (hs : ∀ pre y post H q, ys = pre ++ y :: post → Rp (pre.foldl f a0) H → H q = some (.tup ((kv y).1.map kV)) → g (.ref q) (wipe σ vs) H fun σ2 H2 => wipe σ2 vs = wipe σ vs ∧ tt σ2 H2 fun b H3 =>
      if b = true then te σ2 H3 fun z H4 => ∃ acc, H4 D = some (.lst acc) ∧ acc.length < sizeLine ∧ Rp (f (pre.foldl f a0) y) (upd H4 D (.lst (acc ++ [z]))) else Rp (f (pre.foldl f a0) y) H3) (hd : ∀ H, Rp (ys.foldl f a0) H → Qd H) :
    ∃ W : Nat → Nat → Hp → Prop, (∃ m, W 0 m (upd H1 D (.lst []))) ∧ ∀ i m H, W i m H →
      ((Itkt d o kvs).stop i H ∧ Qd H) ∨ ((Itkt d o kvs).go i H ∧ ∃ Nx : Hp → Prop, (∀ H', Nx H' → ∃ m', m' < m ∧ W (i + 1) m' H') ∧ ∀ x H', (Itkt d o kvs).yld i H x H' → g x (wipe σ vs) H' fun σ2 H2 => wipe σ2 vs = wipe σ vs ∧ tt σ2 H2 fun b H3 =>
        if b = true then te σ2 H3 fun y H4 => ∃ acc, H4 D = some (.lst acc) ∧ acc.length < sizeLine ∧ Nx (upd H4 D (.lst (acc ++ [y]))) else Nx H3) := by
  subst ek
  refine lc_it walk_keysT (fun i => Rp ((ys.take i).foldl f a0)) h0 (fun i H _ h => hG _ H h) (fun i x H H' hi h y => ?_) fun H h => hd H (by rw [List.length_map, List.take_length] at h; exact h)
  obtain ⟨rfl, k, v, q, e1, rfl, e2⟩ := y
  rw [List.getElem?_map] at e1
  obtain ⟨y, ey, e3⟩ := Option.map_eq_some_iff.mp e1
  obtain ⟨c1, c2⟩ := cut_at ey
  have z := hs _ y _ H' q c1 h (by rw [e3]; exact e2)
  rw [← c2 f a0] at z
  exact z
end Fy
namespace Fy
open PySem PySem.Spec PyProof.Rows L2
section
variable {X : Cx}
/-- x < y, data that are alike -/
def rLtD (K : PySem.W.Frag) : R2 := fun x y H Q => ∃ d e, Dp K H x d ∧ Dp K H y e ∧ PySem.W.alike d e = true ∧ d ≠ .none ∧ d.depth ≤ 40 ∧ Q (.bl (ltD d e)) H
theorem op_ltDD (hu : X.A.units + 65 < cLine) : OpR X (compareOp .Lt) (rLtD X.K) := by
  intro pins s σ H x y v u Q I rx ry h
  obtain ⟨d, e, h1, h2, al, ne, dp, q⟩ := h
  obtain ⟨as, r1⟩ := Dp.reads I d x v h1 rx
  obtain ⟨bs, r2⟩ := Dp.reads I e y u h2 ry
  refine PySem.W.lt_data r1 r2 al ne ?_ ⟨.bl (ltD d e), H, I, rfl, q⟩
  have := Nat.min_le_left d.depth e.depth
  omega
end
end Fy
namespace Fy
open PySem PySem.Spec PyProof.Rows L2
section
variable {X : Cx} (K : PySem.W.Frag) (e : X.K = K)
include e
theorem op_catTK : OpR X (binaryOp .Add) (rCatT K) := e ▸ op_catT
end
end Fy
namespace Fy
open PySem PySem.Spec PyProof.Rows L2
section
variable {X : Cx} {pins : List (Addr × Obj)} {σ : L2.St} {H : Hp} {s : Shared}
/-- an exception of a call in the block, noted, the block's names let go -/
theorem blk_fails {E : XK} {ce : Env} {C : Addr} {H1 : Hp} {s1 s2 : Shared} {u : Value} {m : Str → Option Value} (tk : Takes X fun cls d _ H => E cls d H) (hs : X.stack = X.env :: X.outer) (hf : X.env.frame = some X.env.locals) (hcf : ce.frame = X.env.frame) (hcL : ce.locals = C)
    (I : Inv X pins σ H1 s1) (fC : FpOk X pins H1 C) (hn : s1.heap.Ns C m) (c : L2.CX X.prog X.w X.stack H1 s1 E u s2) :
    notedBy (model X.prog X.w) X.A ce (fun x s' => CompFails (model X.prog X.w) X.A X.xe ce x s') u s2 := by
  obtain ⟨a, B, H', cls, d, rfl, fl, hok, ub, na, os, ag, hE⟩ := c
  obtain ⟨f0, f1, f2, f3, f4, f5⟩ := fC
  have hfr : X.A.frames = some (X.env :: X.outer) := by rw [I.ok.frames, hs]
  have nC : C ∉ frs X.stack := fun z => by
    rcases List.mem_cons.mp (I.stkSub C z) with z | z
    · exact f1 z
    · exact f2 z
  obtain ⟨oC, es, ep, ho, hd, hr⟩ := id hn
  have bC : B.get? C = some oC := ub.keep C oC ho f0 nC
  have nC' : H' C = none := ub.free C oC ho f0
  show wpAny _ _ (noteFrame (.ref a) ce) _ _ s2
  rw [noteFrame_env _ hcf]
  have fl' : HandSPX.FlyingZ B (X.env :: X.outer) a (Zc cls d) s2.heap := by rw [← hs]; exact fl
  refine HandSPX.looks_onZ Zc.steady hfr hf fl' fun h2 hh2 up2 => ?_
  obtain ⟨st2, na2, ff2, oe, vs, T, oT, ts, ea, hz, hdd, h1, hT0, hTa, hT, hdT, h3⟩ := hh2
  have c2 : h2.get? C = some oC := st2 C oC bC
  have aC : a ≠ C := fun z => by rw [z, bC] at na2; cases na2
  have TC : T ≠ C := fun z => by rw [z, bC] at hT0; cases hT0
  refine ⟨m, by rw [hcL]; exact ⟨oC, es, ep, c2, hd, hr⟩, fun h4 m4 hn4 sb4 => ?_⟩
  rw [hcL] at hn4 sb4
  obtain ⟨B', b1, b2⟩ := restrict B fun b => decide (b ≠ C)
  have b3 : ∀ b o, B'.get? b = some o → b ≠ C ∧ B.get? b = some o := fun b o e => by
    by_cases z : b = C
    · rw [b2 b (by simp [z])] at e; cases e
    · exact ⟨z, by rw [← b1 b (by simp [z])]; exact e⟩
  have b4 : ∀ b o, B.get? b = some o → b ≠ C → B'.get? b = some o := fun b o e z => by rw [b1 b (by simp [z])]; exact e
  have no' : ∀ b, B.get? b = none → B'.get? b = none := fun b e => by
    cases q : B'.get? b with
    | none => rfl
    | some o => rw [(b3 b o q).2] at e; cases e
  have st4 : B'.StaysIn h4 := fun b o e => (sb4.2 b (b3 b o e).1).trans (st2 b o (b3 b o e).2)
  have ea4 : h4.get? a = some oe := (sb4.2 a aC).trans ea
  have eT4 : h4.get? T = some oT := (sb4.2 T TC).trans hT
  have ff4 : h4.FunFrames B' (X.env :: X.outer) := by
    refine funFrames_none (Heap.FunFrames.sameBut sb4 hn4 ff2) fun L hL => no' L ?_
    obtain ⟨e, he, q⟩ := List.mem_filterMap.mp hL
    exact (ff2.mem hL).1
  have hh4 : HandSPX.HeldZ B' (X.env :: X.outer) a (Zc cls d) X.env.locals h4 := ⟨st4, no' a na2, ff4, oe, vs, T, oT, ts, ea4, hz, hdd, h1, no' T hT0, hTa, eT4, hdT, h3⟩
  unfold PySem.passOn
  refine wpAny_bind (wpAny_field ea4 hdd h1 ?_)
  rw [if_neg (show ¬ ((Value.ref T == Value.none) = true) from by simp), hcf, hf]
  have fin : wpAny (model X.prog X.w) X.A (setFlight (.ref a) (some X.env.locals)) (fun _ s4 => wpAny (model X.prog X.w) X.A (throw (.ref a) : Sem Value) (fun _ _ => False) X.xe s4) X.xe { s2 with heap := h4 } := by
    refine HandSPX.setFlight_onZ hh4 fun h5 hh5 up5 => wpAny_throw (tk _ _ ?_)
    obtain ⟨G, g1, g2⟩ := restrict h5 fun b => (B'.get? b).isSome || decide (b ∈ frs X.stack)
    have st5 : B'.StaysIn h5 := hh5.1
    have gB : ∀ b o, B'.get? b = some o → G.get? b = some o := fun b o e => by
      rw [g1 b (by simp [e])]
      exact st5 b o e
    have gF : ∀ b, b ∈ frs X.stack → G.get? b = h5.get? b := fun b hb => g1 b (by simp [hb])
    have og : ∀ b o, G.get? b = some o → h5.get? b = some o ∧ ((B'.get? b).isSome = true ∨ b ∈ frs X.stack) := fun b o e => by
      cases q : ((B'.get? b).isSome || decide (b ∈ frs X.stack)) with
      | false => rw [g2 b q] at e; cases e
      | true =>
        rw [g1 b q] at e
        exact ⟨e, by simpa [Bool.or_eq_true] using q⟩
    have slt : ∀ b o, s1.heap.get? b = some o → b ∈ frs X.stack → ∃ sl, h5.get? b = some { o with slots := sl } := fun b o e hb => by
      obtain ⟨_, o', e', hd'⟩ := I.stack.mem hb
      rw [e] at e'; cases e'
      obtain ⟨sl, q⟩ := ub.slot b o e hb
      obtain ⟨sl2, q2⟩ := up2 b _ q hd'
      have q4 := (sb4.2 b fun z => nC (by rw [← z]; exact hb)).trans q2
      obtain ⟨sl3, q3⟩ := up5 b _ q4 hd'
      exact ⟨sl3, q3⟩
    have hokB : HOk X.prog X.w H' B' := fun b o q => (hok b o q).stay (fun c v hc r => b4 c v r fun z => by
      rcases hc with hc | hc
      · rw [← hc, z, nC'] at q; cases q
      · rw [z, nC'] at hc; cases hc) (fun _ r => r) fun _ _ r => r
    refine ⟨a, B', { s1 with heap := G, gens := s2.gens, drawn := s2.drawn, toks := s2.toks }, pins, σ, H', cls, d, rfl, ?_, fun b o e hb => ?_, Heap.UpToSlots.of_keeps fun b o e => (og b o e).1, .inr (.inr (by rw [hs]; exact hh5)), na, os, ag, hE⟩
    · refine I.call (ch := [C]) ⟨fun b o e n hb hc => gB b o (b4 b o (ub.keep b o e n hb) fun z => hc (by simp [z])), fun b o e n hb hc => ?_, fun b o e n _ => ub.free b o e n, fun b o e hc => ?_, ub.tups, ub.frzs, ub.tbls⟩ (hokB.kept gB) ag (fun b hb => ?_)
      · obtain ⟨sl, q⟩ := slt b o e hb
        exact ⟨sl, by rw [gF b hb]; exact q⟩
      · by_cases hb : b ∈ frs X.stack
        · obtain ⟨sl, q⟩ := slt b o e hb
          exact ⟨_, by rw [gF b hb]; exact q⟩
        · obtain ⟨o', q⟩ := ub.there b o e hb
          exact ⟨o', gB b o' (b4 b o' q fun z => hc (by simp [z]))⟩
      · rw [List.mem_singleton.mp hb]
        exact ⟨f3, f1, f4, f5⟩
    · obtain ⟨e', h⟩ := og b o e
      rcases h with h | h
      · obtain ⟨o', q⟩ := Option.isSome_iff_exists.mp h
        have z := st5 b o' q
        rw [e'] at z; cases z
        exact q
      · exact absurd h hb
  first
    | exact wpAny_bind (wpAny_pure (wpAny_bind fin))
    | exact wpAny_bind fin
/-- the loop -/
theorem x_loop {elt iter : Expr} {y : Str} {py pos : Pos} {sc : Scope} {ce : Env} {it a D : Addr} {i : Nat} {tel : TE} {ys : List V} {R : Nat → Hp → Prop} {POST : Result → Shared → Prop} {s4 : Shared}
    (hc : X.calm = true) (pg : PG (X.blk s H sc ce [it]) (.Name y py) (gName i)) (pe : ∀ pn, PE ((X.blk s H sc ce [it]).tr pn (notedBy (model X.prog X.w) X.A ce fun e s' => POST (.error e) s')) elt tel)
    (hR : ∀ k H', R k H' → SqL X.K H' a ys)
    (step : ∀ k x, ys[k]? = some x → ∀ H', R k H' → gName i x (wipe σ [i]) H' fun σ2 H2 => wipe σ2 [i] = wipe σ [i] ∧ tel σ2 H2 fun z H3 => ∃ acc, H3 D = some (.lst acc) ∧ acc.length < sizeLine ∧ R (k + 1) (upd H3 D (.lst (acc ++ [z]))))
    (J0 : Inv (X.blk s H sc ce [it]) [] (wipe σ [i]) H s4) (st : s4.heap.IsListIter it a 0) (n0 : H it = none) (r0 : R 0 H)
    (fin : ∀ s' H', Inv (X.blk s H sc ce [it]) [] (wipe σ [i]) H' s' → R ys.length H' → POST (.ok .next) s') :
    codeAny (model X.prog X.w) X.A (.compLoop (.ListComp elt [⟨.Name y py, iter, [], 0⟩] sc pos) 0 (.ref it) (.ref D) ce) POST s4 := by
  have T := turn_list (P := X.prog) (w := X.w) (K := X.K) (tg := .Name y py) a it
  have one : ∀ {G : Hp}, G it = none → ∀ b ∈ [it], G b = none := fun h b hb => by
    rw [List.mem_singleton.mp hb]
    exact h
  refine compLoop_any (fun n s' => ∃ k H', Inv (X.blk s H sc ce [it]) [] (wipe σ [i]) H' s' ∧ s'.heap.IsListIter it a k ∧ H' it = none ∧ R k H' ∧ k + n = ys.length) ?_ ys.length ⟨0, H, J0, st, n0, r0, Nat.zero_add _⟩
  rintro n s5 ⟨k, G, J, st5, ng, rg, hk⟩
  have ok5 := fp_blk J (one ng)
  have hq := hR k G rg
  cases n with
  | zero =>
    refine thnF (T.done (X.blk s H sc ce [it]) rfl rfl rfl hc k [] s5 _ G (fun _ _ => False) J ok5 st5 ⟨ys, hq, by omega⟩) fun r s6 h6 => ?_
    rw [h6.1]
    exact fin s6 G h6.2 (by rw [show ys.length = k by omega]; exact rg)
  | succ n =>
    have lt : k < ys.length := by omega
    refine thnF (T.item (X.blk s H sc ce [it]) rfl rfl rfl hc k [] s5 _ G (fun _ _ => False) J ok5 st5 ⟨ys, ys[k], hq, by simp [lt]⟩) fun r s6 h6 => ?_
    obtain ⟨u, hr, h6⟩ := h6
    rw [hr]
    refine thnF h6 fun _ s7 h7 => ?_
    obtain ⟨x, G7, J7, rx, ⟨eG, hx⟩, st7, n7⟩ := h7
    rw [eG] at J7 n7
    have P7 := J7.pinned (fp_blk J7 n7) (T.obj _ _ st7)
    refine thnF (pg.run _ s7 _ G x u _ P7 rx (step k x (hx ys hq) G rg)) fun _ s8 h8 => ?_
    obtain ⟨σ8, G8, J8, w8, q8⟩ := h8
    refine thnF ((pts_nil (X := X.blk s H sc ce [it])).run _ s8 σ8 G8 (fun b H9 => b = true ∧ H9 = G8) J8 ⟨rfl, rfl⟩) fun b s9 h9 => ?_
    obtain ⟨G9, J9, eb, e9⟩ := h9
    subst eb e9
    simp only [if_true]
    refine thn ((pe _).run [] s9 σ8 G9 _ (J9.toTry _) q8) fun z s10 h10 => ?_
    obtain ⟨yv, G10, J10, r10, acc, hD, hz, nx⟩ := h10
    have J10 := J10.ofTry J9.ok
    refine app_ok (X := X.blk s H sc ce [it]) J10 hD hz r10 fun s11 J11 => ?_
    obtain ⟨oi, ei, _⟩ := T.obj _ _ st7 it (by simp)
    have pin := J11.pin (it, oi) (List.mem_append_right _ (List.mem_append_right _ (mem_pinsAt (by simp) ei)))
    refine ⟨n, Nat.lt_succ_self n, k + 1, _, (J11.unpinned (pins := [])).weak ?_ (fun j v e => ?_), T.keep _ _ _ st7 (fun b hb o e => ?_), pin.2.1, nx, by omega⟩
    · rw [← wipe_length (σ := σ8) (vs := [i]), w8]
    · rw [← w8] at e
      exact (wipe_some e).1
    · rw [List.mem_singleton.mp hb] at e ⊢
      rw [ei] at e
      cases e
      exact pin.1
/-- what the reading asks -/
def tLcX (K : PySem.W.Frag) (te : TE) (i : Nat) (tel : TE) : TE := fun σ H Q => te σ H fun v H1 => ∃ (a : Addr) (ys : List V), v = .ref a ∧ SqL K H1 a ys ∧ ∀ D, H1 D = none → ∃ R : Nat → Hp → Prop, R 0 (upd H1 D (.lst [])) ∧ (∀ k H', R k H' → SqL K H' a ys) ∧
  (∀ k x, ys[k]? = some x → ∀ H', R k H' → gName i x (wipe σ [i]) H' fun σ2 H2 => wipe σ2 [i] = wipe σ [i] ∧ tel σ2 H2 fun z H3 => ∃ acc, H3 D = some (.lst acc) ∧ acc.length < sizeLine ∧ R (k + 1) (upd H3 D (.lst (acc ++ [z])))) ∧ ∀ H', R ys.length H' → Q (.ref D) H'
theorem ps_setLcX {E : XK} {j : Nat} {z : Str} {pz : Pos} {elt iter : Expr} {y : Str} {py pos spos : Pos} {sc : Scope} {i : Nat} {te tel : TE} (tk : Takes X fun cls d _ H => E cls d H) (hs : X.stack = X.env :: X.outer) (hf : X.env.frame = some X.env.locals)
    (hc : X.calm = true) (hN : X.N.Nodup) (hz : X.N[j]? = some z) (hzl : X.env.scope.names.lookup z = some .local) (hsw : swapsWith (.ListComp elt [⟨.Name y py, iter, [], 0⟩] sc pos) (some (.Name z pz)) spos.line X.env = pure true)
    (hi : PE X iter te) (ok : BlkOk X.N X.env.scope sc [(y, i)])
    (hg : ∀ (s : Shared) (H : Hp) (C : Addr) (cl : List (Str × Addr)) (fp : List Addr), PG (X.blk s H sc (compEnvC sc cl C X.env) fp) (.Name y py) (gName i))
    (he : ∀ (s : Shared) (H : Hp) (C : Addr) (cl : List (Str × Addr)) (fp : List Addr) (pn : List (Addr × Obj)) (xe : Value → Shared → Prop), Passes (L2.CX X.prog X.w) ((X.blk s H sc (compEnvC sc cl C X.env) fp).tr pn xe) E → PE ((X.blk s H sc (compEnvC sc cl C X.env) fp).tr pn xe) elt tel)
    (hfi : ∀ x, foldedSetIterable iter X.env x = pure x := by intro _; rfl) : PS X (.Assign [.Name z pz] (.ListComp elt [⟨.Name y py, iter, [], 0⟩] sc pos) spos) (tAsg (tLcX X.K te i tel) (gName j)) := by
  refine ⟨fun pins s σ H D I h => ?_⟩
  rw [exec_Assign_Name_used _ _ _ _ hsw]
  refine wpAny_bind (wpAny_standAt (wpAny_bind ?_))
  have fr : ∀ n ∈ sc.names, n.2 = .free → ∃ c, X.env.cells.lookup n.1 = some c := fun n hn e => I.ok.has _ (ok.free n hn e)
  refine wpAny_bind (thn (comprehension_at (use := some (assign (.Name z pz) X.env)) (Q := fun _ s' => SP X pins D .next s') rfl hfi (closure_ok fr) ok.kind (fun n hn e => by rw [ok.uniq n hn, e]) ?_) fun _ s' q => wpAny_pure (wpAny_pure q))
  have h : tLcX X.K te i tel σ H (fun x H1 => gName j x σ H1 D.nx) := h
  refine thn (hi.run pins s σ H _ I h) fun u s1 h1 => ?_
  obtain ⟨v, H1, I1, ru, a, ys, ev, hq, q⟩ := h1
  subst ev
  cases ru
  obtain ⟨its, rv, pl, hzs⟩ := I1.list hq
  refine wpAny_pyIter_list pl.isList ?_
  have I2 : Inv X pins σ H1 { s1 with heap := s1.heap.push { cls := .type "list_iterator", data := .fields #[.ref a, .int 0 0] } } := I1.kept (t' := s1.toks) fun b o e => Heap.get?_push_of_some _ e
  have st2 : (s1.heap.push { cls := .type "list_iterator", data := .fields #[.ref a, .int 0 0] }).IsListIter s1.heap.objs.size a 0 := ⟨_, Heap.get?_push_size _ rfl, rfl, rfl⟩
  have f2 : FpOk X pins H1 s1.heap.objs.size := I1.fpOk (Nat.le_refl _) (I1.hok.fresh (Nat.le_refl _))
  have lt2 : s1.heap.objs.size < (s1.heap.push { cls := .type "list_iterator", data := .fields #[.ref a, .int 0 0] }).objs.size := by rw [Heap.size_push]; exact Nat.lt_succ_self _
  generalize s1.heap.objs.size = it at st2 f2 lt2 ⊢
  generalize e2 : ({ s1 with heap := s1.heap.push { cls := .type "list_iterator", data := .fields #[.ref a, .int 0 0] } } : Shared) = s2 at I2 ⊢
  have eh : s1.heap.push { cls := .type "list_iterator", data := .fields #[.ref a, .int 0 0] } = s2.heap := by rw [← e2]
  rw [eh] at st2 lt2
  clear e2 eh
  obtain ⟨R, r0, hR, step, hQ⟩ := q s2.heap.objs.size (I2.hok.fresh (Nat.le_refl _))
  have I3 : Inv X pins σ (upd H1 s2.heap.objs.size (.lst [])) { s2 with heap := s2.heap.push { cls := .type "list", data := .seq ([] : List Value).toArray } } :=
    I2.laid (t' := s2.toks) (fun b o e => Heap.get?_push_of_some _ e) (Nat.le_refl _) ⟨Nat.zero_le _, [], 0, .nil, Heap.get?_push_size _ rfl⟩
  refine wpAny_newObj_type (newEnv_comp ?_) (Nat.zero_le _)
  have st3 : (s2.heap.push { cls := .type "list", data := .seq ([] : List Value).toArray }).IsListIter it a 0 := by
    obtain ⟨o, e, r⟩ := st2
    exact ⟨o, Heap.get?_push_of_some _ e, r⟩
  have f3 : FpOk X pins (upd H1 s2.heap.objs.size (.lst [])) it := ⟨by rw [upd_ne (Nat.ne_of_lt lt2)]; exact f2.1, f2.2⟩
  have lt3 : it < (s2.heap.push { cls := .type "list", data := .seq ([] : List Value).toArray }).objs.size := by
    rw [Heap.size_push]
    exact Nat.lt_succ_of_lt lt2
  generalize s2.heap.objs.size = L at r0 hR step hQ I3 f3 ⊢
  generalize upd H1 L (.lst []) = H3 at r0 I3 f3
  generalize e3 : ({ s2 with heap := s2.heap.push { cls := .type "list", data := .seq ([] : List Value).toArray } } : Shared) = s3 at I3 ⊢
  have eh : s2.heap.push { cls := .type "list", data := .seq ([] : List Value).toArray } = s3.heap := by rw [← e3]
  rw [eh] at st3 lt3
  clear e3 eh
  have ff : ∀ b ∈ [it], FpOk X pins H3 b ∧ b < s3.heap.objs.size := fun b hb => by
    rw [List.mem_singleton.mp hb]
    exact ⟨f3, lt3⟩
  have J := block_start I3 ok hN ff
  have st4 : (pushCells (s3.heap.push { cls := .type "dict", data := .dict #[] }) sc.names).IsListIter it a 0 := by
    obtain ⟨o, e, r⟩ := st3
    exact ⟨o, pushCells_keeps _ _ _ _ (Heap.get?_push_of_some _ e), r⟩
  have T := turn_list (P := X.prog) (w := X.w) (K := X.K) (tg := .Name y py) a it
  show codeAny _ _ (.compStart (.ListComp elt [⟨.Name y py, iter, [], 0⟩] sc pos) 0 (.ref it) (.ref L) (compEnvC sc (cellsFrom (s3.heap.objs.size + 1) sc.names (cloFrom X.env.cells sc.names [])) s3.heap.objs.size X.env))
    (compEnds (model X.prog X.w) X.A X.xe (some (assign (.Name z pz) X.env)) (fun _ s' => SP X pins D .next s') (.ref L) (compEnvC sc (cellsFrom (s3.heap.objs.size + 1) sc.names (cloFrom X.env.cells sc.names [])) s3.heap.objs.size X.env)) { s3 with heap := pushCells (s3.heap.push { cls := .type "dict", data := .dict #[] }) sc.names }
  have pes : ∀ pn, PE ((X.blk s3 H3 sc (compEnvC sc (cellsFrom (s3.heap.objs.size + 1) sc.names (cloFrom X.env.cells sc.names [])) s3.heap.objs.size X.env) [it]).tr pn (notedBy (model X.prog X.w) X.A (compEnvC sc (cellsFrom (s3.heap.objs.size + 1) sc.names (cloFrom X.env.cells sc.names [])) s3.heap.objs.size X.env)
      fun e s' => compEnds (model X.prog X.w) X.A X.xe (some (assign (.Name z pz) X.env)) (fun _ s' => SP X pins D .next s') (.ref L) (compEnvC sc (cellsFrom (s3.heap.objs.size + 1) sc.names (cloFrom X.env.cells sc.names [])) s3.heap.objs.size X.env) (.error e) s')) elt tel := fun pn => by
    refine he s3 H3 _ _ [it] pn _ fun pins' σ' H' s e s' K c => ?_
    have I4 : Inv X pins σ H' s := I3.call' (ch := [it]) K.os K.base K.hok K.bare fun b hb => by
      obtain ⟨_, g1, _, g3, g4, g5⟩ := (ff b hb).1
      exact ⟨g3, g1, g4, g5⟩
    obtain ⟨m, hn, _⟩ := K.loc
    exact blk_fails tk hs hf rfl rfl I4 (I3.fpOk (Nat.le_refl _) K.free) hn c
  have loop := x_loop (X := X) (σ := σ) (pos := pos) (iter := iter) hc (hg ..) pes hR step J st4 f3.1 r0 fun s' H' K' r' => by
    have I' := blk_back I3 (fun b hb => (ff b hb).1) K'
    obtain ⟨m, hn, _⟩ := K'.loc
    obtain ⟨g0, g1, g2, g3, g4, g5⟩ := I3.fpOk (H' := H') (Nat.le_refl s3.heap.objs.size) K'.free
    show wpAny _ _ (assign (.Name z pz) X.env (.ref L)) _ _ _
    refine wpAny_assign_Name (store_ok2 (v := V.ref L) I' hN hz (.inl hzl) rfl (fun s5 I5 ha => ?_) (.inr hzl))
    obtain ⟨b, sb, ha⟩ := ha
    have nb : s3.heap.objs.size ≠ b := by
      rcases ha with e | e
      · rw [e]; exact g1
      · exact fun e' => g4 z b e e'.symm
    refine ⟨m, hn.sameBut sb nb, fun h6 sb6 => ?_⟩
    exact ⟨_, H', I5.turned (t' := s5.toks) (fun b o hb e => (sb6.2 b hb).trans e) g0 g1 g3 g4 g5, hQ H' r'⟩
  exact codeAny_compStart_list loop (T.self X.A 0 _ _ _ st4 loop)
end
end Fy
namespace Fy
open PySem PySem.Spec PyProof.Rows L2 PySem.W
open GxR (TabG Tabbed)
open LamX (CodeO TabS Tabs TabB lamEnv codeO_ne)
def itemsO (p d : Addr) : HO := .ext fun h => h.IsItemsView p d
def rItemsV : V → List V → Hp → VK → Prop := fun x xs H Q => ∃ (a : Addr) (kvs : List (Key × V)), x = .ref a ∧ xs = [] ∧ H a = some (.dK kvs) ∧ ∀ p, H p = none → Q (.ref p) (upd H p (itemsO p a))
section
variable {X : Cx}
theorem mt_items : MtR X "dict.items" rItemsV := by
  intro pins s σ H x xs v us Q I rx rxs ⟨a, kvs, ex, exs, ha, q⟩
  subst ex
  subst exs
  cases rx
  cases rxs
  obtain ⟨_, lo, vs, rel, D⟩ := dk_of I.hok ha
  have new : (s.heap.push { cls := .type "dict_items", data := .fields #[.ref a] }).get? s.heap.objs.size = some { cls := .type "dict_items", data := .fields #[.ref a] } := Heap.get?_push_size _ rfl
  have J := I.laid (a := s.heap.objs.size) (o := itemsO s.heap.objs.size a) (t' := s.toks) (h' := s.heap.push { cls := .type "dict_items", data := .fields #[.ref a] }) (fun b u e => Heap.get?_push_of_some _ e) (Nat.le_refl _)
    ⟨⟨_, new, rfl, rfl⟩, ⟨_, new⟩, fun h1 h2 ⟨o, e, r⟩ k => ⟨o, k o e, r⟩⟩
  exact call_meetsIn F.slot_dict_items D.typeIs F.entry_dict_items (F.args_dict_items_1 _) (meets_dict_items (mixKind X.prog X.w) a lo) ⟨⟨vs, D⟩, .ref s.heap.objs.size, _, J, rfl, q _ (I.hok.fresh (Nat.le_refl _))⟩
end
section
variable {prog : Program} {w : World} {A : Around} {s : Shared}
theorem call_lam1 {f c' : Addr} {qual x : Str} {params : Arguments} {body : Expr} {scope : Scope} {pm ctv v : Value} {k : PyData} (hroom : A.depth < recursionLimit) (hf : s.heap.get? f = some (kla_obj "<lambda>" qual params body scope [] pm c' ctv))
    (hcd : s.heap.CodeRec (.ref c') qual) (nl : s.heap.NoLimit) (hco : scope.isCoroutine = false) (hgen : scope.isGenerator = false) (hk : scope.kind = .function) (hn : scope.names = [(x, .local)])
    (hbind : bindArgs (kla_fn "<lambda>" qual params body scope [] pm (.ref c') ctv) ⟨[v], []⟩ = pure [(x, v)])
    (hbody : ∀ (L : Addr) (h1 : Heap) (tk : Nat), h1.Ns L (fun y => [(x, v)].reverse.lookup y) → (∀ b o, s.heap.get? b = some o → h1.get? b = some o) →
      wpAny (model prog w) (A.deeper (envX qual scope L f (.ref c') [])) (eval body (envX qual scope L f (.ref c') [])) (KeyPure k { s with heap := h1, toks := tk }) (fun _ _ => False) { s with heap := h1, toks := tk }) :
    wpAny (model prog w) A (call (.ref f) [v]) (KeyPure k s) (fun _ _ => False) s := by
  have hl : ∀ y ∈ [(x, v)], scope.names.lookup y.1 = some .local := fun y hy => by
    rw [List.mem_singleton.mp hy, hn]
    exact List.lookup_cons_self
  have hc : ∀ y ∈ scope.names, y.2 ≠ .cell := fun y hy => by
    rw [hn] at hy
    rw [List.mem_singleton.mp hy]
    exact fun z => by cases z
  refine wpAny_call (codeAny_mono (R := fun r s' => ∃ y, r = .ok (.ret y) ∧ KeyPure k s y s') ?_ fun r s' h => ?_)
  · refine kla_callFunE hroom hf rfl hco hgen rfl hcd ?_
    rw [hbind]
    refine wpAny_pure (wpAny_newFunctionEnv hc hl (fun h₁ hns hsb => ⟨nl.fresh _ hsb, ?_⟩) hk)
    show codeAny _ _ (.expr body (envX qual scope s.heap.objs.size f (.ref c') [])) _ _
    have kp : ∀ b o, s.heap.get? b = some o → h₁.get? b = some o := fun b o e => hsb.extBut b o (Nat.ne_of_lt (Heap.lt_size e)) (Heap.get?_push_of_some _ e)
    refine kla_codeExpr (wpAny_mono (hbody s.heap.objs.size h₁ _ hns kp) (fun y s' h => ?_) fun _ _ z => z.elim)
    obtain ⟨h', tk, e, kk, r⟩ := h
    subst e
    exact ⟨y, rfl, h', tk, rfl, fun b o e => kk b o (kp b o e), r⟩
  · obtain ⟨y, e, h⟩ := h
    subst e
    exact h
theorem isD_readsN {h : Heap} {a : Addr} {k : Int × Str} {us : List Value} (r : Vals (isV k) us) (t : IsTup h a us.toArray) : Reads h (.ref a) (isD k) [] := by
  obtain ⟨u, v, rfl, ru, rv⟩ := vals2 r
  obtain ⟨t1, rfl⟩ := (show ∃ t, u = Value.int k.1 t from ru)
  obtain ⟨t2, rfl⟩ := (show ∃ t, v = Value.str k.2 t from rv)
  obtain ⟨o, e1, e2, n, e3⟩ := t
  exact .tuple e1 e2 e3 (.cons (.int _ _) (.cons (.str _ _) .nil))
/-- sorted(x, key=f), x anything that is collected -/
theorem sortedKey_coll {β : Type} {enc : β → PyData} {x : Value} {q : Addr} {E : Value → Shared → Prop} {Q : Value → Shared → Prop}
    (hc : wpAny (model prog w) A.in1 (collect x) (fun vs s1 => ∃ (R : Value → β → Prop) (bs : List β), EachIs R vs bs ∧ AllAlike (bs.map enc) ∧ Sortable (bs.map enc) ∧ bs.length ≤ sizeLine ∧ (∀ b, b ∈ bs → A.units + 2 + (enc b).depth < cLine) ∧
      (∀ (v : Value) (b : β), R v b → b ∈ bs → ∀ (h : Heap) (tk : Nat), (∀ c o, s1.heap.get? c = some o → h.get? c = some o) →
        wpAny (model prog w) A.in1.in1 (call (.ref q) [v]) (KeyPure (enc b) { s1 with heap := h, toks := tk }) (fun _ _ => False) { s1 with heap := h, toks := tk }) ∧
      ∀ (out : List Value) (h' : Heap) (tk c : Nat), (∀ b o, s1.heap.get? b = some o → h'.get? b = some o) → h'.get? s1.heap.objs.size = some (seqObj "list" out.toArray c) → out.length = bs.length → EachIs R out (bs.mergeSort (dataLe false enc)) →
        Q (.ref s1.heap.objs.size) { s1 with heap := h', toks := tk }) E s) :
    wpAny (model prog w) A (call (.builtin "sorted") [x] [(Str.ofString "key", .ref q)]) Q E s := by
  refine call_function_entry_kw kind_sorted plain_sorted entry_sorted (ksk_s1 _ _) ?_
  unfold Builtin.«sorted»
  refine wpAny_bind (m := checkCount "sorted" 1 1 _) (wpAny_pure ?_)
  refine wpAny_bind (wpAny_mono hc (fun vs s1 h => ?_) fun _ _ e => e)
  obtain ⟨R, bs, e, hal, hk, hL, hu, turn, h⟩ := h
  have hz : vs.length ≤ sizeLine := by rw [e.length]; exact hL
  refine wpAny_bind (wpAny_newList ?_ hz)
  have h0 : (s1.heap.push (seqObj "list" vs.toArray 0)).get? s1.heap.objs.size = some (seqObj "list" vs.toArray 0) := Heap.get?_push_size _ rfl
  have up : ∀ {g : Heap}, KeepsBut s1.heap.objs.size (s1.heap.push (seqObj "list" vs.toArray 0)) g → ∀ b o, s1.heap.get? b = some o → g.get? b = some o := fun {g} kp b o r =>
    kp b o (Nat.ne_of_lt (Heap.lt_size r)) (Heap.get?_push_of_some _ r)
  show wpAny _ _ _ _ _ { s1 with heap := s1.heap.push (seqObj "list" vs.toArray 0) }
  refine wpAny_bind (wpAny_holding (wpAny_call_entry_kw slot_list_sort ⟨_, h0, rfl⟩ entry_list_sort ?body (ksk_l1 _ _)))
  case body =>
    show wpAny (model prog w) A.in1.in1 (Builtin.«list.sort» ⟨[.ref s1.heap.objs.size], [(Str.ofString "key", .ref q)]⟩) _ _ _
    rw [ksk_t1]
    refine keyH_tree (kz := bs.map enc) (s := { s1 with heap := s1.heap.push (seqObj "list" vs.toArray 0) }) h0 (by rw [List.length_map]; exact e.length.symm) hz hal hk (bound_map (A := A.in1.in1) hu)
      (keyH_turns (s := { s1 with heap := s1.heap.push (seqObj "list" vs.toArray 0) }) e fun v b hR hb g tk kp => turn v b hR hb g tk (up kp)) fun h' tk out c kp hD ko => ?_
    exact ⟨.none, rfl, wpAny_pure ⟨_, rfl, h out h' tk c (up kp) hD ((ko.length (by rw [List.length_map]; exact e.length.symm)).trans e.length) (keyedOut_each enc ko e)⟩⟩
end
theorem each_by {α β : Type} {R : α → β → Prop} : ∀ (xs : List α) (ys : List β), xs.length = ys.length → (∀ (j : Nat) (a : α) (b : β), xs[j]? = some a → ys[j]? = some b → R a b) → EachIs R xs ys
  | [], [], _, _ => .nil
  | [], _ :: _, h, _ => by cases h
  | _ :: _, [], h, _ => by cases h
  | x :: xs, y :: ys, h, f => .cons (f 0 x y rfl rfl) (each_by xs ys (Nat.succ.inj h) fun j a b e1 e2 => f (j + 1) a b e1 e2)
theorem each_refs {β : Type} {G : Addr → β → Prop} {R : Value → β → Prop} (h : ∀ v b, R v b → ∃ t, v = .ref t ∧ G t b) : ∀ {vs : List Value} {bs : List β}, EachIs R vs bs → ∃ ts : List Addr, vs = ts.map Value.ref ∧ Paired G ts bs
  | _, _, .nil => ⟨[], rfl, .nil⟩
  | _, _, .cons r e => by
    obtain ⟨t, rfl, g⟩ := h _ _ r
    obtain ⟨ts, rfl, p⟩ := each_refs h e
    exact ⟨t :: ts, rfl, .cons g p⟩
abbrev siK (F : List (Str × Int)) : List (Key × V) := F.map fun q => (Sum.inr q.1, V.int q.2)
def sortIS (F : List (Str × Int)) : List (Str × Int) := F.mergeSort (dataLe false fun q => isD (q.2, q.1))
def rSortIK (X : Cx) (params : Arguments) (body : Expr) (scope : Scope) : List V → List V → Hp → VK → Prop := fun xs zs H Q => ∃ (p d f c' : Addr) (F : List (Str × Int)), xs = [.ref p] ∧ zs = [.ref f] ∧ H p = some (itemsO p d) ∧ H d = some (.dK (siK F)) ∧ H f = some (LamL X params body scope f c') ∧ H c' = some (CodeO c' (lamQ X)) ∧
  ∀ (H' : Hp) (l : Addr) (ts : List Addr), (∀ b o, H b = some o → H' b = some o) → H l = none → (∀ t ∈ ts, H t = none) → H' l = some (.lst (ts.map V.ref)) → Paired (fun t (q : Str × Int) => H' t = some (.tup [.str q.1, .int q.2])) ts (sortIS F) → Q (.ref l) H'
theorem cloFrom_local {cells : List (Str × Addr)} {x : Str} : cloFrom cells [(x, .local)] [] = [] := rfl
section
variable {X : Cx} {k : Nat}
theorem cr_sortIK {params : Arguments} {body : Expr} {scope : Scope} {x : Str} {tb : QT} (hc : X.calm = true) (hr : Room k X.A) (hco : scope.isCoroutine = false) (hgen : scope.isGenerator = false) (hk : scope.kind = .function) (hn : scope.names = [(x, .local)])
    (hbind : ∀ (q : Str) (cl : List (Str × Addr)) (pm cv ctv v : Value), bindArgs (kla_fn "<lambda>" q params body scope cl pm cv ctv) ⟨[v], []⟩ = pure [(x, v)])
    (hbody : ∀ L f c', QN X.prog X.w X.K (envX (lamQ X) scope L f (.ref c') []) [x] body tb)
    (hb : ∀ (H : Hp) (t : Addr) (q : Str × Int), H t = some (.tup [.str q.1, .int q.2]) → tb [some (.ref t)] H fun y => y = .t [.int q.2, .str q.1]) :
    CallRK X (.builtin "sorted") [(Str.ofString "key")] (rSortIK X params body scope) := by
  intro pins s σ H xs zs us ws Q I rx rz ⟨p, d, f, c', F, exs, ezs, hp, hd, hf, hcc, q⟩
  subst exs
  subst ezs
  obtain ⟨u, rfl, ru⟩ := vals1 rx
  obtain ⟨z, rfl, rzz⟩ := vals1 rz
  cases ru
  cases rzz
  show wpAny _ _ (call (.builtin "sorted") [.ref p] [(Str.ofString "key", .ref f)]) _ _ s
  have hh := I.ok.hd hc
  have view : s.heap.IsItemsView p d := (I.hok p _ hp).1
  obtain ⟨hz, lo, vs, rel, D⟩ := dk_of I.hok hd
  obtain ⟨ep, hat⟩ := D.dictAt
  have lv : (siK F).length = vs.length := Paired.length rel
  have lF : F.length = vs.length := by rw [List.length_map] at lv; exact lv
  rw [List.length_map] at hz
  obtain ⟨nfr, pm, ctv, ef⟩ := (I.hok f _ hf).1
  have ef : s.heap.get? f = some (kla_obj "<lambda>" (lamQ X) params body scope [] pm c' ctv) := by
    unfold lamO at ef
    rw [hn] at ef
    exact ef
  obtain ⟨⟨oc, vc, tc, hoc, hdc, hvc⟩, _, _⟩ := I.hok c' _ hcc
  have dp := hr.dp
  have un := hr.un
  refine sortedKey_coll (β := Str × Int) (enc := fun q => isD (q.2, q.1)) (kdx_collect (knd := mixKind X.prog X.w) (kvs := vs) (ep := ep) hh view hat (by omega) fun h' tk as hkp hl hG => ?_)
  have nd : as.Nodup := hG.rise.imp fun h => Nat.ne_of_lt h
  have I2 : Inv X pins σ H { s with heap := h', toks := tk } := I.kept hkp
  obtain ⟨H2, I4, k1, k2⟩ := L2.DX.takeT (P := fun t vs => ∃ (j : Nat) (q : Str × Int), as[j]? = some t ∧ F[j]? = some q ∧ vs = [.str q.1, .int q.2]) I as _ I2 nd fun t ht => by
    obtain ⟨j, lj, ej⟩ := List.mem_iff_getElem.mp ht
    have ej : as[j]? = some t := by rw [List.getElem?_eq_getElem lj, ej]
    obtain ⟨key, kk, x, e1, e2, e3⟩ := hG.pairs j t ej
    obtain ⟨y, e4, e5, e6⟩ := L2.DX.pget rel e1
    rw [List.getElem?_map] at e4
    obtain ⟨q, e7, e8⟩ := Option.map_eq_some_iff.mp e4
    subst e8
    have rk : RelV (.str q.1) key := by
      have e5 : Sum.inr q.1 = kk := e5
      have := relV_key (show keyIs kk key = true from e2)
      rw [← e5] at this
      exact this
    exact ⟨Nat.le_of_lt (hG.above t ht), I.hok.fresh (Nat.le_of_lt (hG.above t ht)), _, ⟨j, q, ej, e7, rfl⟩, fun H2 => ⟨by show 2 ≤ sizeLine; decide, [key, x], .cons rk (.cons e6 .nil), _, e3, rfl, _, rfl⟩⟩
  have at2 : ∀ (j : Nat) (t : Addr) (q : Str × Int), as[j]? = some t → F[j]? = some q → H2 t = some (.tup [.str q.1, .int q.2]) := fun j t q e1 e2 => by
    obtain ⟨vs', ⟨j', q', f1, f2, rfl⟩, f6⟩ := k2 t (List.mem_of_getElem? e1)
    obtain rfl : j' = j := (List.getElem?_inj (List.getElem?_eq_some_iff.mp f1).1 nd).mp (f1.trans e1.symm)
    obtain rfl : q' = q := Option.some.inj (f2.symm.trans e2)
    exact f6
  refine ⟨fun v q => ∃ (t : Addr) (j : Nat), v = Value.ref t ∧ as[j]? = some t ∧ F[j]? = some q, F, each_by _ _ (by rw [List.length_map]; omega) (fun j v q e1 e2 => ?_), ?_, .inl fun d hd => ?_, hz, fun q _ => ?_, fun v q hR hq h tk2 kp => ?_, fun out h'' tk2 c kp hL lo' ee => ?_⟩
  · rw [List.getElem?_map] at e1
    obtain ⟨t, e3, rfl⟩ := Option.map_eq_some_iff.mp e1
    exact ⟨t, j, rfl, e3, e2⟩
  · intro d hd d' hd'
    obtain ⟨a, _, rfl⟩ := List.mem_map.mp hd
    obtain ⟨b, _, rfl⟩ := List.mem_map.mp hd'
    exact isD_alike _ _
  · obtain ⟨a, _, rfl⟩ := List.mem_map.mp hd
    exact ⟨_, _, rfl⟩
  · have := isD_depth (q.2, q.1)
    show X.A.units + 2 + (isD (q.2, q.1)).depth < cLine
    omega
  · obtain ⟨t, j, rfl, e1, e2⟩ := hR
    have et := at2 j t q e1 e2
    have kp0 : ∀ b o, s.heap.get? b = some o → h.get? b = some o := fun b o e => kp b o (hkp b o e)
    have J : Inv X pins σ H2 { s with heap := h, toks := tk2 } := I4.kept (t' := tk2) kp
    refine call_lam1 (s := { s with heap := h, toks := tk2 }) (x := x) (by show X.A.depth < _; omega) (kp0 f _ ef) ⟨c', oc, vc, tc, rfl, kp0 c' _ hoc, hdc, hvc⟩ J.nolimit hco hgen hk hn (hbind _ _ _ _ _ _) fun L h1 tk3 hns kp1 => ?_
    have g : GV X.prog X.w X.K (envX (lamQ X) scope L f (.ref c') []) [x] [some (.ref t)] H2 { s with heap := h1, toks := tk3 } := by
      refine ⟨J.kIn.keeps kp1, hk, ⟨_, hns, fun i y v f1 f2 _ => ?_⟩, J.hok.kept kp1⟩
      cases i with
      | zero =>
        cases f1
        cases f2
        refine ⟨.ref t, rfl, .inl ⟨?_, ?_⟩⟩
        · show scope.names.lookup x = some .local
          rw [hn]
          exact List.lookup_cons_self
        · show List.lookup x [(x, Value.ref t)] = _
          exact List.lookup_cons_self
      | succ i => cases f1
    refine wpAny_mono ((hbody L f c').run (X.A.in1.in1.deeper (envX (lamQ X) scope L f (.ref c') [])) (fun _ _ => False) _ [some (.ref t)] H2 _ hh (by show X.A.units + 1 + 1 + 3 + 1 < cLine; omega) g (hb H2 t q et)) (fun y s' hy => ?_) fun _ _ z => z
    obtain ⟨⟨h3, tk4, e3, k3⟩, xs', a, us, rfl, _, rv, it, eq⟩ := hy
    cases eq
    subst e3
    exact ⟨h3, tk4, rfl, k3, isD_readsN (k := (q.2, q.1)) rv it⟩
  · obtain ⟨ts, rfl, pr⟩ := each_refs (G := fun t (q : Str × Int) => H2 t = some (.tup [.str q.1, .int q.2]) ∧ t ∈ as) (fun v b hR => by
      obtain ⟨t, j, rfl, e1, e2⟩ := hR
      exact ⟨t, rfl, at2 j t b e1 e2, List.mem_of_getElem? e1⟩) ee
    have nS := I4.hok.fresh (Nat.le_refl h'.objs.size)
    have I5 := I4.laid (a := h'.objs.size) (o := .lst (ts.map V.ref)) (t' := tk2) (h' := h'') kp (Nat.le_refl _) ⟨by rw [List.length_map] at lo' ⊢; omega, ts.map Value.ref, c, LiI.vals_refs ts, hL⟩
    refine ⟨.ref _, _, I5, rfl, q _ h'.objs.size ts (fun b o e => by rw [upd_ne (ne_of_none (k1 b o e) nS)]; exact k1 b o e) ?_ (fun t ht => ?_) upd_same (Paired.mapP pr fun t b e => by rw [upd_ne (ne_of_none e.1 nS)]; exact e.1)⟩
    · cases e : H h'.objs.size with
      | none => rfl
      | some o => rw [k1 _ _ e] at nS; cases nS
    · obtain ⟨j, y, _, _, _, e⟩ := LiI.paired_ix pr ht
      exact I.hok.fresh (Nat.le_of_lt (hG.above t e))
theorem pe_lam1 {TL : List (Addr × Str)} {TG : List Addr} {c P : Addr} {params : Arguments} {body : Expr} {scope : Scope} {x : Str} {pos : Pos} (TB : TabB X.base X.mg c P) (hcode : X.env.code = .ref c)
    (hm : (P, lamQ X) ∈ TL) (hu : ∀ p ∈ TL, p.1 = P → p.2 = lamQ X) (hd : P ∉ TG) (hn : scope.names = [(x, .local)]) (hdef : defaultsOf params X.env = ([], [])) : PE X (.Lambda params body scope pos) (tLamV X TL TG params body scope) := by
  have clo := closure_ok (env := X.env) (scope := scope) fun y hy e => by
    rw [hn] at hy
    rw [List.mem_singleton.mp hy] at e
    cases e
  refine ⟨fun pins s σ H Q I h => ?_⟩
  obtain ⟨tb, h⟩ := h
  obtain ⟨ps, hP, ht, ha⟩ := tb.lam _ hm
  have hP' : s.heap.get? P = some { cls := .none, data := .fields ps } := I.hok P _ hP
  have bP : s.heap.BuiltinsAt X.mg P := TB.bm.keeps I.bk
  have lab : ∀ {H1 : Hp} {h' : Heap} {pm ctv : Value} {c' f : Addr}, s.heap.objs.size ≤ f → h'.get? f = some (lamO X params body scope pm c' ctv) → ObjOk X.prog X.w H1 h' f (LamL X params body scope f c') := fun {H1 h' pm ctv c' f} hf e => lamL_ok (fun z => by
    rcases List.mem_cons.mp (I.stkSub _ z) with q | q
    · have h1 := I.lt
      rw [← q] at h1
      exact Nat.lt_irrefl _ (Nat.lt_of_lt_of_le h1 hf)
    · exact I.nofs hf q) e
  refine kla_eval hdef ?_
  cases hc : codeAmong pos ps.toList with
  | none =>
    refine kla_makeFunction (mg := X.mg) (c := c) (P := P) (ps := ps) clo I.ok.glob (I.mod.glob.keeps I.bk) hcode (TB.code.keeps I.bk) hP' ht hc TB.gP bP fun c' ctv h' tk hx hge hlt hrec htb => ?_
    obtain ⟨c2, oc, vs, t, e2, hoc, hdd, hv⟩ := hrec
    cases e2
    have hsz : s.heap.objs.size ≤ h'.objs.size := Nat.le_trans hge (Nat.le_of_lt hlt)
    have I1 := LamX.inv_table (t' := tk) (more := #[rawInt pos.line, rawInt pos.col, .ref c']) (h' := h') I hP (fun b o hb e => hx b o hb e) htb hge ⟨oc, vs, t, hoc, hdd, hv⟩
    have I2 := I1.laid (a := h'.objs.size) (o := LamL X params body scope h'.objs.size c') (t' := tk) (h' := h'.push (lamO X params body scope ((X.mg "__name__").getD .none) c' ctv)) (fun b o e => Heap.get?_push_of_some _ e) (Nat.le_refl _) (lab hsz (Heap.get?_push_size _ rfl))
    have n2 : h'.objs.size ≠ P := Nat.ne_of_gt (Nat.lt_of_lt_of_le (Heap.lt_size hP') hsz)
    refine ⟨.ref h'.objs.size, _, I2, rfl, h _ c' _ _ (go_table (pos := pos) hm hu hd hP ht ha (I.hok.fresh hge)) ?_ upd_same rfl⟩
    rw [upd_ne (Nat.ne_of_gt hlt), upd_ne n2]
    exact I.hok.fresh hsz
  | some cv =>
    obtain ⟨c', e, hco⟩ := ha pos cv hc
    subst e
    refine kla_makeFunctionHit (mg := X.mg) (c := c) (P := P) (ps := ps) clo I.ok.glob (I.mod.glob.keeps I.bk) hcode (TB.code.keeps I.bk) hP' ht hc bP fun ctv h' tk hx hsz => ?_
    have I2 := I.laid (a := h'.objs.size) (o := LamL X params body scope h'.objs.size c') (t' := tk) (h' := h'.push (lamO X params body scope ((X.mg "__name__").getD .none) c' ctv)) (fun b o e => Heap.get?_push_of_some _ (hx b o e)) hsz (lab hsz (Heap.get?_push_size _ rfl))
    exact ⟨.ref h'.objs.size, _, I2, rfl, h _ c' _ _ .refl (I.hok.fresh hsz) hco rfl⟩
/-- sorted(e.items(), key=lambda x: ..) -/
theorem pe_sortIK {TL : List (Addr × Str)} {TG : List Addr} {c P : Addr} {params : Arguments} {body : Expr} {scope : Scope} {x b : Str} {tb : QT} {e : Expr} {te : TE} {p apos cpos lpos kpos pos : Pos} (hc : X.calm = true) (hr : Room k X.A)
    (TB : TabB X.base X.mg c P) (hcode : X.env.code = .ref c) (hm : (P, lamQ X) ∈ TL) (hu : ∀ p ∈ TL, p.1 = P → p.2 = lamQ X) (hd : P ∉ TG) (hn : scope.names = [(x, .local)]) (hdef : defaultsOf params X.env = ([], []))
    (hco : scope.isCoroutine = false) (hgen : scope.isGenerator = false) (hk : scope.kind = .function)
    (hbind : ∀ (q : Str) (cl : List (Str × Addr)) (pm cv ctv v : Value), bindArgs (kla_fn "<lambda>" q params body scope cl pm cv ctv) ⟨[v], []⟩ = pure [(x, v)])
    (hg : Gl X b) (hmb : X.mg b = none) (hv : bootBuiltins b = some (.builtin "sorted")) (he : PE X e te)
    (hbody : ∀ L f c', QN X.prog X.w X.K (envX (lamQ X) scope L f (.ref c') []) [x] body tb)
    (hb : ∀ (H : Hp) (t : Addr) (q : Str × Int), H t = some (.tup [.str q.1, .int q.2]) → tb [some (.ref t)] H fun y => y = .t [.int q.2, .str q.1])
    (hbase : attributeBase e "items" X.env (eval e X.env) = eval e X.env := by rfl) (hline : (apos.endLine == cpos.line) = true := by rfl) (hnm : b ≠ "__name__" := by decide) (hdb : (b == ("__debug__" : Str)) = false := by decide)
    (hs : backTo pos (starEach [.Call (.Attribute e "items" apos) [] [] cpos] X.env) = (false, eval (.Call (.Attribute e "items" apos) [] [] cpos) X.env) :: backTo pos (starEach [] X.env) := by rfl)
    (hpl : (backTo pos (starEach [.Call (.Attribute e "items" apos) [] [] cpos] X.env)).any (·.1) = false := by rfl) :
    PE X (.Call (.Name b p) [.Call (.Attribute e "items" apos) [] [] cpos] [⟨some "key", .Lambda params body scope lpos, kpos⟩] pos)
      (tCKw (rSortIK X params body scope) (tCons (tBM0 X.K "dict" rItemsV te) tNil) (tCons (tLamV X TL TG params body scope) tNil)) :=
  pe_callBK (cr_sortIK hc hr hco hgen hk hn hbind hbody hb) hg hmb hv (pa_cons (pe_bm0 PySem.F.plainAttrs_dict PySem.F.slot_dict_items PySem.F.type_dict_items mt_items he hbase hline) pa_nil) (pk_cons (pe_lam1 TB hcode hm hu hd hn hdef) pk_nil) hnm hdb hs hpl
end
end Fy
local macro_rules | `(tactic| walk_at "ne") => `(tactic| first | with_reducible assumption | (apply Ne.symm; with_reducible assumption) | (refine L2.ne_of_none (o := ?_) ?_ (by with_reducible assumption); rotate_left; walk_at "hp") | (refine (L2.ne_of_none (o := ?_) ?_ (by with_reducible assumption)).symm; rotate_left; walk_at "hp"))
local macro_rules | `(tactic| walk_at "hp") => `(tactic| first | with_reducible assumption | with_reducible exact L2.upd_same | (refine (L2.upd_ne ?_).trans ?_; (walk_at "ne"); walk_at "hp"))
local macro_rules | `(tactic| walk_at "v") => `(tactic| refine ⟨_, rfl, ?_⟩)
local macro_rules | `(tactic| walk_at "f") => `(tactic| refine ⟨_, _, _, _, _, rfl, (by walk_at "hp"), (by assumption), (by assumption), rfl, ?_⟩)
local macro_rules | `(tactic| walk_at "ix") => `(tactic| refine ⟨_, _, _, _, rfl, rfl, L2.SqL.of (by walk_at "hp"), (by rfl), ?_⟩)
local macro_rules | `(tactic| walk_at "ixt") => `(tactic| refine ⟨_, _, _, _, rfl, rfl, L2.SqT.of (by walk_at "hp"), (by rfl), ?_⟩)
local macro_rules | `(tactic| walk_at "go1") => `(tactic| first | refine ⟨_, rfl, ?_⟩ | refine ⟨_, _, rfl, rfl, ?_⟩ | refine ⟨rfl, ?_⟩ | walk_at "f" | walk_at "ix")
local macro_rules | `(tactic| walk_at "go") => `(tactic| repeat walk_at "go1")
namespace K1
open PySem PySem.Spec PyProof.Rows L2 Fy
abbrev R : PySem.W.OpenRow := PySem.W.OpenLaw.row PySem.Challenge.rw_firestack_k01_streets_of_a_town
def top (i : Nat) : Stmt := PySem.Challenge.pw_firestack_k01_streets_of_a_town.main.body.getD i (.Pass ⟨0, 0, 0, 0⟩)
abbrev s_Town_init : Stmt := inClass (top 5) 0
abbrev s_Town_add : Stmt := inClass (top 5) 1
abbrev s_Town_check : Stmt := inClass (top 5) 2
abbrev s_Town_lay : Stmt := inClass (top 5) 3
abbrev s_Town_close : Stmt := inClass (top 5) 4
abbrev s_Town_times : Stmt := inClass (top 5) 5
abbrev s_Town_minutes : Stmt := inClass (top 5) 6
abbrev s_Town_way : Stmt := inClass (top 5) 7
abbrev s_Town_far_corners : Stmt := inClass (top 5) 8
abbrev s_best_stations : Stmt := top 6
abbrev s_law_dice : Stmt := top 8
abbrev s_law_roll : Stmt := top 9
abbrev s_law_rounds : Stmt := top 10
abbrev s_law_told : Stmt := top 11
abbrev s_law_times : Stmt := top 12
abbrev s_law_sets : Stmt := top 13
abbrev s_law_plain : Stmt := top 14
abbrev s_law : Stmt := top 15
abbrev d_Town_init : He.DefD := ⟨("Town", some "__init__"), "__init__", "Town.__init__", defArgs s_Town_init, defBody s_Town_init, defScope s_Town_init, [], []⟩
abbrev d_Town_add : He.DefD := ⟨("Town", some "add"), "add", "Town.add", defArgs s_Town_add, defBody s_Town_add, defScope s_Town_add, [], []⟩
abbrev d_Town_check : He.DefD := ⟨("Town", some "check"), "check", "Town.check", defArgs s_Town_check, defBody s_Town_check, defScope s_Town_check, [], []⟩
abbrev d_Town_lay : He.DefD := ⟨("Town", some "lay"), "lay", "Town.lay", defArgs s_Town_lay, defBody s_Town_lay, defScope s_Town_lay, [.non], []⟩
abbrev d_Town_close : He.DefD := ⟨("Town", some "close"), "close", "Town.close", defArgs s_Town_close, defBody s_Town_close, defScope s_Town_close, [], []⟩
abbrev d_Town_times : He.DefD := ⟨("Town", some "times"), "times", "Town.times", defArgs s_Town_times, defBody s_Town_times, defScope s_Town_times, [], []⟩
abbrev d_Town_minutes : He.DefD := ⟨("Town", some "minutes"), "minutes", "Town.minutes", defArgs s_Town_minutes, defBody s_Town_minutes, defScope s_Town_minutes, [], []⟩
abbrev d_Town_way : He.DefD := ⟨("Town", some "way"), "way", "Town.way", defArgs s_Town_way, defBody s_Town_way, defScope s_Town_way, [], []⟩
abbrev d_Town_far_corners : He.DefD := ⟨("Town", some "far_corners"), "far_corners", "Town.far_corners", defArgs s_Town_far_corners, defBody s_Town_far_corners, defScope s_Town_far_corners, [], []⟩
abbrev d_best_stations : He.DefD := ⟨("best_stations", none), "best_stations", "best_stations", defArgs s_best_stations, defBody s_best_stations, defScope s_best_stations, [], []⟩
abbrev d_law_dice : He.DefD := ⟨("_law_dice", none), "_law_dice", "_law_dice", defArgs s_law_dice, defBody s_law_dice, defScope s_law_dice, [], []⟩
abbrev d_law_roll : He.DefD := ⟨("_law_roll", none), "_law_roll", "_law_roll", defArgs s_law_roll, defBody s_law_roll, defScope s_law_roll, [], []⟩
abbrev d_law_rounds : He.DefD := ⟨("_law_rounds", none), "_law_rounds", "_law_rounds", defArgs s_law_rounds, defBody s_law_rounds, defScope s_law_rounds, [], []⟩
abbrev d_law_told : He.DefD := ⟨("_law_told", none), "_law_told", "_law_told", defArgs s_law_told, defBody s_law_told, defScope s_law_told, [], []⟩
abbrev d_law_times : He.DefD := ⟨("_law_times", none), "_law_times", "_law_times", defArgs s_law_times, defBody s_law_times, defScope s_law_times, [], []⟩
abbrev d_law_sets : He.DefD := ⟨("_law_sets", none), "_law_sets", "_law_sets", defArgs s_law_sets, defBody s_law_sets, defScope s_law_sets, [], []⟩
abbrev d_law_plain : He.DefD := ⟨("_law_plain", none), "_law_plain", "_law_plain", defArgs s_law_plain, defBody s_law_plain, defScope s_law_plain, [], []⟩
abbrev d_law : He.DefD := ⟨("law", none), "law", "law", defArgs s_law, defBody s_law, defScope s_law, [], []⟩
def fn : List He.DefD := ([d_Town_init, d_Town_add, d_Town_check, d_Town_lay, d_Town_close, d_Town_times, d_Town_minutes, d_Town_way, d_Town_far_corners, d_best_stations, d_law_dice, d_law_roll, d_law_rounds, d_law_told, d_law_times, d_law_sets, d_law_plain, d_law] : List He.DefD)
def fa : List He.Fa := ([.glo "Town", .cls "Town", .mkr "Town", .meth "Town" "add", .meth "Town" "check", .meth "Town" "lay", .meth "Town" "close", .meth "Town" "times", .meth "Town" "minutes", .meth "Town" "way", .meth "Town" "far_corners", .noat "Town" "corners", .noat "Town" "streets", .glo "BrigadeError", .exc "BrigadeError", .glo "StreetError", .exc "StreetError", .exm "BrigadeError" "StreetError" false, .exm "StreetError" "StreetError" true, .int "MOST_CORNERS" 80, .glo "best_stations", .glo "_law_dice", .glo "_law_roll", .glo "_law_rounds", .glo "_law_told", .glo "_law_times", .glo "_law_sets", .glo "_law_plain", .glo "law", .free "abs"] : List He.Fa) ++ ([.free "any", .free "dict", .free "int", .free "len", .free "list", .free "min", .free "range", .free "sorted", .free "str", .free "tuple"] : List He.Fa)
def tfL : List He.Defn := [("_law_plain", none), ("law", none)]
def tfG : List He.Defn := [("Town", some "times"), ("Town", some "way"), ("Town", some "far_corners"), ("best_stations", none)]
def tf : List He.Defn := tfL ++ tfG
def ex (K : PySem.W.Frag) : Bool := decide ((tf.map fun p => (He.cT K p).2).Nodup) && [].all (etB K)
def loose : List PySem.Str := (["BrigadeError", "StreetError", "MOST_CORNERS", "Town", "best_stations", "_law_dice", "_law_roll", "_law_rounds", "_law_told", "_law_times", "_law_sets", "_law_plain"] : List PySem.Str)
abbrev hk : PySem.W.Hook := He.hookX 5 fa fn [] tf ex
def ob (s : PySem.W.SharedT) : He.AlX := He.obsX 5 fa fn [] tf ex (HandSHeadRun.getT s)
theorem ob_eq (s : PySem.W.SharedT) : ob s = hk.obs s.abs := He.obsX_eq (HandSHeadRun.getT_eq s)
/-- tables of lambdas, of generator expressions -/
def TL (K : PySem.W.Frag) : List (Addr × Str) := [((He.cT K ("_law_plain", none)).2, "_law_plain.<locals>.<lambda>"), ((He.cT K ("law", none)).2, "law.<locals>.<lambda>")]
def TG (K : PySem.W.Frag) : List Addr := tfG.map fun p => (He.cT K p).2
theorem tl_mem {K : PySem.W.Frag} {q : Addr × Str} (h : q ∈ TL K) : ∃ a ∈ tfL, q.1 = (He.cT K a).2 := by
  simp only [TL, List.mem_cons, List.not_mem_nil, or_false] at h
  rcases h with rfl | rfl
  · exact ⟨("_law_plain", none), by simp [tfL], rfl⟩
  · exact ⟨("law", none), by simp [tfL], rfl⟩
theorem lq_law_plain : ((d_law_plain.qual ++ ".<locals>.") ++ "<lambda>" : PySem.Str) = "_law_plain.<locals>.<lambda>" := by decide +kernel
theorem lq_law : ((d_law.qual ++ ".<locals>.") ++ "<lambda>" : PySem.Str) = "law.<locals>.<lambda>" := by decide +kernel
/-- all that the walk knows of the text -/
structure Txt (K : PySem.W.Frag) (mg : Str → Option Value) (base : Heap) : Prop where
  gl_Town : mg "Town" = some (.ref (He.ga K "Town"))
  cl_Town : Cls K (He.ga K "Town")
  mk_Town : Mk K (He.ga K "Town") (He.ma K (He.ga K "Town") "__init__")
  me_Town_add : Meth K (He.ga K "Town") "add" (He.ma K (He.ga K "Town") "add")
  me_Town_check : Meth K (He.ga K "Town") "check" (He.ma K (He.ga K "Town") "check")
  me_Town_lay : Meth K (He.ga K "Town") "lay" (He.ma K (He.ga K "Town") "lay")
  me_Town_close : Meth K (He.ga K "Town") "close" (He.ma K (He.ga K "Town") "close")
  me_Town_times : Meth K (He.ga K "Town") "times" (He.ma K (He.ga K "Town") "times")
  me_Town_minutes : Meth K (He.ga K "Town") "minutes" (He.ma K (He.ga K "Town") "minutes")
  me_Town_way : Meth K (He.ga K "Town") "way" (He.ma K (He.ga K "Town") "way")
  me_Town_far_corners : Meth K (He.ga K "Town") "far_corners" (He.ma K (He.ga K "Town") "far_corners")
  no_Town_corners : NoAttr K (He.ga K "Town") "corners"
  no_Town_streets : NoAttr K (He.ga K "Town") "streets"
  gl_BrigadeError : mg "BrigadeError" = some (.ref (He.ga K "BrigadeError"))
  ex_BrigadeError : ExcF K (He.ga K "BrigadeError")
  gl_StreetError : mg "StreetError" = some (.ref (He.ga K "StreetError"))
  ex_StreetError : ExcF K (He.ga K "StreetError")
  em_BrigadeError_StreetError : PySem.W.exmOne K (.ref (He.ga K "BrigadeError")) (.ref (He.ga K "StreetError")) = some false
  em_StreetError_StreetError : PySem.W.exmOne K (.ref (He.ga K "StreetError")) (.ref (He.ga K "StreetError")) = some true
  c_MOST_CORNERS : ∃ t, mg "MOST_CORNERS" = some (.int 80 t)
  gl_best_stations : mg "best_stations" = some (.ref (He.ga K "best_stations"))
  gl_law_dice : mg "_law_dice" = some (.ref (He.ga K "_law_dice"))
  gl_law_roll : mg "_law_roll" = some (.ref (He.ga K "_law_roll"))
  gl_law_rounds : mg "_law_rounds" = some (.ref (He.ga K "_law_rounds"))
  gl_law_told : mg "_law_told" = some (.ref (He.ga K "_law_told"))
  gl_law_times : mg "_law_times" = some (.ref (He.ga K "_law_times"))
  gl_law_sets : mg "_law_sets" = some (.ref (He.ga K "_law_sets"))
  gl_law_plain : mg "_law_plain" = some (.ref (He.ga K "_law_plain"))
  gl_law : mg "law" = some (.ref (He.ga K "law"))
  fr_abs : mg "abs" = none
  fr_any : mg "any" = none
  fr_dict : mg "dict" = none
  fr_int : mg "int" = none
  fr_len : mg "len" = none
  fr_list : mg "list" = none
  fr_min : mg "min" = none
  fr_range : mg "range" = none
  fr_sorted : mg "sorted" = none
  fr_str : mg "str" = none
  fr_tuple : mg "tuple" = none
  fn_Town_init : ∃ fd, FunD K d_Town_init.name d_Town_init.qual d_Town_init.params d_Town_init.body d_Town_init.scope (d_Town_init.dvs K) (d_Town_init.kws K) (He.fAd K d_Town_init.at_) fd
  fn_Town_add : ∃ fd, FunD K d_Town_add.name d_Town_add.qual d_Town_add.params d_Town_add.body d_Town_add.scope (d_Town_add.dvs K) (d_Town_add.kws K) (He.fAd K d_Town_add.at_) fd
  fn_Town_check : ∃ fd, FunD K d_Town_check.name d_Town_check.qual d_Town_check.params d_Town_check.body d_Town_check.scope (d_Town_check.dvs K) (d_Town_check.kws K) (He.fAd K d_Town_check.at_) fd
  fn_Town_lay : ∃ fd, FunD K d_Town_lay.name d_Town_lay.qual d_Town_lay.params d_Town_lay.body d_Town_lay.scope (d_Town_lay.dvs K) (d_Town_lay.kws K) (He.fAd K d_Town_lay.at_) fd
  fn_Town_close : ∃ fd, FunD K d_Town_close.name d_Town_close.qual d_Town_close.params d_Town_close.body d_Town_close.scope (d_Town_close.dvs K) (d_Town_close.kws K) (He.fAd K d_Town_close.at_) fd
  fn_Town_times : ∃ fd, FunD K d_Town_times.name d_Town_times.qual d_Town_times.params d_Town_times.body d_Town_times.scope (d_Town_times.dvs K) (d_Town_times.kws K) (He.fAd K d_Town_times.at_) fd
  fn_Town_minutes : ∃ fd, FunD K d_Town_minutes.name d_Town_minutes.qual d_Town_minutes.params d_Town_minutes.body d_Town_minutes.scope (d_Town_minutes.dvs K) (d_Town_minutes.kws K) (He.fAd K d_Town_minutes.at_) fd
  fn_Town_way : ∃ fd, FunD K d_Town_way.name d_Town_way.qual d_Town_way.params d_Town_way.body d_Town_way.scope (d_Town_way.dvs K) (d_Town_way.kws K) (He.fAd K d_Town_way.at_) fd
  fn_Town_far_corners : ∃ fd, FunD K d_Town_far_corners.name d_Town_far_corners.qual d_Town_far_corners.params d_Town_far_corners.body d_Town_far_corners.scope (d_Town_far_corners.dvs K) (d_Town_far_corners.kws K) (He.fAd K d_Town_far_corners.at_) fd
  fn_best_stations : ∃ fd, FunD K d_best_stations.name d_best_stations.qual d_best_stations.params d_best_stations.body d_best_stations.scope (d_best_stations.dvs K) (d_best_stations.kws K) (He.fAd K d_best_stations.at_) fd
  fn_law_dice : ∃ fd, FunD K d_law_dice.name d_law_dice.qual d_law_dice.params d_law_dice.body d_law_dice.scope (d_law_dice.dvs K) (d_law_dice.kws K) (He.fAd K d_law_dice.at_) fd
  fn_law_roll : ∃ fd, FunD K d_law_roll.name d_law_roll.qual d_law_roll.params d_law_roll.body d_law_roll.scope (d_law_roll.dvs K) (d_law_roll.kws K) (He.fAd K d_law_roll.at_) fd
  fn_law_rounds : ∃ fd, FunD K d_law_rounds.name d_law_rounds.qual d_law_rounds.params d_law_rounds.body d_law_rounds.scope (d_law_rounds.dvs K) (d_law_rounds.kws K) (He.fAd K d_law_rounds.at_) fd
  fn_law_told : ∃ fd, FunD K d_law_told.name d_law_told.qual d_law_told.params d_law_told.body d_law_told.scope (d_law_told.dvs K) (d_law_told.kws K) (He.fAd K d_law_told.at_) fd
  fn_law_times : ∃ fd, FunD K d_law_times.name d_law_times.qual d_law_times.params d_law_times.body d_law_times.scope (d_law_times.dvs K) (d_law_times.kws K) (He.fAd K d_law_times.at_) fd
  fn_law_sets : ∃ fd, FunD K d_law_sets.name d_law_sets.qual d_law_sets.params d_law_sets.body d_law_sets.scope (d_law_sets.dvs K) (d_law_sets.kws K) (He.fAd K d_law_sets.at_) fd
  fn_law_plain : ∃ fd, FunD K d_law_plain.name d_law_plain.qual d_law_plain.params d_law_plain.body d_law_plain.scope (d_law_plain.dvs K) (d_law_plain.kws K) (He.fAd K d_law_plain.at_) fd
  fn_law : ∃ fd, FunD K d_law.name d_law.qual d_law.params d_law.body d_law.scope (d_law.dvs K) (d_law.kws K) (He.fAd K d_law.at_) fd
  tb_law_plain : LamX.TabB base mg (He.cT K ("_law_plain", none)).1 (He.cT K ("_law_plain", none)).2
  tb_law : LamX.TabB base mg (He.cT K ("law", none)).1 (He.cT K ("law", none)).2
  tb_Town_times : LamX.TabB base mg (He.cT K ("Town", some "times")).1 (He.cT K ("Town", some "times")).2
  tb_Town_way : LamX.TabB base mg (He.cT K ("Town", some "way")).1 (He.cT K ("Town", some "way")).2
  tb_Town_far_corners : LamX.TabB base mg (He.cT K ("Town", some "far_corners")).1 (He.cT K ("Town", some "far_corners")).2
  tb_best_stations : LamX.TabB base mg (He.cT K ("best_stations", none)).1 (He.cT K ("best_stations", none)).2
  tg_Town_times : (He.cT K ("Town", some "times")).2 ∈ TG K
  td_Town_times : ∀ q ∈ TL K, q.1 ≠ (He.cT K ("Town", some "times")).2
  tg_Town_way : (He.cT K ("Town", some "way")).2 ∈ TG K
  td_Town_way : ∀ q ∈ TL K, q.1 ≠ (He.cT K ("Town", some "way")).2
  tg_Town_far_corners : (He.cT K ("Town", some "far_corners")).2 ∈ TG K
  td_Town_far_corners : ∀ q ∈ TL K, q.1 ≠ (He.cT K ("Town", some "far_corners")).2
  tg_best_stations : (He.cT K ("best_stations", none)).2 ∈ TG K
  td_best_stations : ∀ q ∈ TL K, q.1 ≠ (He.cT K ("best_stations", none)).2
  tm_law_plain : ((He.cT K ("_law_plain", none)).2, ((d_law_plain.qual ++ ".<locals>.") ++ "<lambda>" : PySem.Str)) ∈ TL K
  tu_law_plain : ∀ p ∈ TL K, p.1 = (He.cT K ("_law_plain", none)).2 → p.2 = ((d_law_plain.qual ++ ".<locals>.") ++ "<lambda>" : PySem.Str)
  tn_law_plain : (He.cT K ("_law_plain", none)).2 ∉ TG K
  tm_law : ((He.cT K ("law", none)).2, ((d_law.qual ++ ".<locals>.") ++ "<lambda>" : PySem.Str)) ∈ TL K
  tu_law : ∀ p ∈ TL K, p.1 = (He.cT K ("law", none)).2 → p.2 = ((d_law.qual ++ ".<locals>.") ++ "<lambda>" : PySem.Str)
  tn_law : (He.cT K ("law", none)).2 ∉ TG K
theorem tl_ne {K : PySem.W.Frag} {P : Addr} (h : P ∈ TG K) (e : ex K = true) : ∀ q ∈ TL K, q.1 ≠ P := by
  obtain ⟨b, hb, rfl⟩ := List.mem_map.mp h
  intro q hq
  obtain ⟨a, ha, e2⟩ := tl_mem hq
  rw [e2]
  exact nodup_apart (of_decide_eq_true (Bool.and_eq_true_iff.mp e).1) a ha b hb
theorem tl_q {K : PySem.W.Frag} (e : ex K = true) (a : He.Defn) (ha : a ∈ tfL) {q : PySem.Str} (hq : ((He.cT K a).2, q) ∈ TL K) : ∀ p ∈ TL K, p.1 = (He.cT K a).2 → p.2 = q := by
  have nd := of_decide_eq_true (Bool.and_eq_true_iff.mp e).1
  unfold tf at nd
  rw [List.map_append, List.nodup_append] at nd
  have nd1 := nd.1
  simp only [TL, List.mem_cons, List.not_mem_nil, or_false] at hq ⊢
  simp only [tfL, List.map_cons, List.map_nil, List.nodup_cons, List.mem_cons, List.not_mem_nil, or_false, not_or] at nd1
  intro p hp e1
  rcases hq with hq | hq
  all_goals obtain ⟨q1, q2⟩ := Prod.mk.inj hq
  all_goals rcases hp with hp | hp
  all_goals (rw [hp] at e1 ⊢; try rw [q2]; try simp_all)
theorem txt_of {K : PySem.W.Frag} {mg : Str → Option Value} {base h : Heap} {w : World} (X : K.In h) (G : h.Ns mainGlobals mg) (c : He.SaysX fa fn [] tf ex w h K) (B : ∀ p ∈ tf, LamX.TabB base mg (He.cT K p).1 (He.cT K p).2) : Txt K mg base where
  gl_Town := He.glo_ok X G (c.t.d.fact 0)
  cl_Town := He.cls_ok (c.t.d.fact 1)
  mk_Town := He.mkr_ok (c.t.d.fact 2)
  me_Town_add := He.meth_ok (c.t.d.fact 3)
  me_Town_check := He.meth_ok (c.t.d.fact 4)
  me_Town_lay := He.meth_ok (c.t.d.fact 5)
  me_Town_close := He.meth_ok (c.t.d.fact 6)
  me_Town_times := He.meth_ok (c.t.d.fact 7)
  me_Town_minutes := He.meth_ok (c.t.d.fact 8)
  me_Town_way := He.meth_ok (c.t.d.fact 9)
  me_Town_far_corners := He.meth_ok (c.t.d.fact 10)
  no_Town_corners := He.noat_ok (c.t.d.fact 11)
  no_Town_streets := He.noat_ok (c.t.d.fact 12)
  gl_BrigadeError := He.glo_ok X G (c.t.d.fact 13)
  ex_BrigadeError := ExcF.of (He.exc_ok (c.t.d.fact 14))
  gl_StreetError := He.glo_ok X G (c.t.d.fact 15)
  ex_StreetError := ExcF.of (He.exc_ok (c.t.d.fact 16))
  em_BrigadeError_StreetError := He.exm_ok (c.t.d.fact 17)
  em_StreetError_StreetError := He.exm_ok (c.t.d.fact 18)
  c_MOST_CORNERS := He.int_ok X G (c.t.d.fact 19)
  gl_best_stations := He.glo_ok X G (c.t.d.fact 20)
  gl_law_dice := He.glo_ok X G (c.t.d.fact 21)
  gl_law_roll := He.glo_ok X G (c.t.d.fact 22)
  gl_law_rounds := He.glo_ok X G (c.t.d.fact 23)
  gl_law_told := He.glo_ok X G (c.t.d.fact 24)
  gl_law_times := He.glo_ok X G (c.t.d.fact 25)
  gl_law_sets := He.glo_ok X G (c.t.d.fact 26)
  gl_law_plain := He.glo_ok X G (c.t.d.fact 27)
  gl_law := He.glo_ok X G (c.t.d.fact 28)
  fr_abs := He.free_ok X G (c.t.d.fact 29)
  fr_any := He.free_ok X G (c.t.d.fact 30)
  fr_dict := He.free_ok X G (c.t.d.fact 31)
  fr_int := He.free_ok X G (c.t.d.fact 32)
  fr_len := He.free_ok X G (c.t.d.fact 33)
  fr_list := He.free_ok X G (c.t.d.fact 34)
  fr_min := He.free_ok X G (c.t.d.fact 35)
  fr_range := He.free_ok X G (c.t.d.fact 36)
  fr_sorted := He.free_ok X G (c.t.d.fact 37)
  fr_str := He.free_ok X G (c.t.d.fact 38)
  fr_tuple := He.free_ok X G (c.t.d.fact 39)
  fn_Town_init := c.t.d.def_ 0
  fn_Town_add := c.t.d.def_ 1
  fn_Town_check := c.t.d.def_ 2
  fn_Town_lay := c.t.d.def_ 3
  fn_Town_close := c.t.d.def_ 4
  fn_Town_times := c.t.d.def_ 5
  fn_Town_minutes := c.t.d.def_ 6
  fn_Town_way := c.t.d.def_ 7
  fn_Town_far_corners := c.t.d.def_ 8
  fn_best_stations := c.t.d.def_ 9
  fn_law_dice := c.t.d.def_ 10
  fn_law_roll := c.t.d.def_ 11
  fn_law_rounds := c.t.d.def_ 12
  fn_law_told := c.t.d.def_ 13
  fn_law_times := c.t.d.def_ 14
  fn_law_sets := c.t.d.def_ 15
  fn_law_plain := c.t.d.def_ 16
  fn_law := c.t.d.def_ 17
  tb_law_plain := B ("_law_plain", none) (by simp [tf, tfL, tfG])
  tb_law := B ("law", none) (by simp [tf, tfL, tfG])
  tb_Town_times := B ("Town", some "times") (by simp [tf, tfL, tfG])
  tb_Town_way := B ("Town", some "way") (by simp [tf, tfL, tfG])
  tb_Town_far_corners := B ("Town", some "far_corners") (by simp [tf, tfL, tfG])
  tb_best_stations := B ("best_stations", none) (by simp [tf, tfL, tfG])
  tg_Town_times := List.mem_map.mpr ⟨("Town", some "times"), by simp [tfG], rfl⟩
  td_Town_times := tl_ne (List.mem_map.mpr ⟨("Town", some "times"), by simp [tfG], rfl⟩) c.more
  tg_Town_way := List.mem_map.mpr ⟨("Town", some "way"), by simp [tfG], rfl⟩
  td_Town_way := tl_ne (List.mem_map.mpr ⟨("Town", some "way"), by simp [tfG], rfl⟩) c.more
  tg_Town_far_corners := List.mem_map.mpr ⟨("Town", some "far_corners"), by simp [tfG], rfl⟩
  td_Town_far_corners := tl_ne (List.mem_map.mpr ⟨("Town", some "far_corners"), by simp [tfG], rfl⟩) c.more
  tg_best_stations := List.mem_map.mpr ⟨("best_stations", none), by simp [tfG], rfl⟩
  td_best_stations := tl_ne (List.mem_map.mpr ⟨("best_stations", none), by simp [tfG], rfl⟩) c.more
  tm_law_plain := by rw [lq_law_plain]; simp [TL]
  tu_law_plain := by rw [lq_law_plain]; exact tl_q c.more ("_law_plain", none) (by simp [tfL]) (by simp [TL])
  tn_law_plain := fun h => tl_ne h c.more ((He.cT K ("_law_plain", none)).2, "_law_plain.<locals>.<lambda>") (by simp [TL]) rfl
  tm_law := by rw [lq_law]; simp [TL]
  tu_law := by rw [lq_law]; exact tl_q c.more ("law", none) (by simp [tfL]) (by simp [TL])
  tn_law := fun h => tl_ne h c.more ((He.cT K ("law", none)).2, "law.<locals>.<lambda>") (by simp [TL]) rfl
theorem run (w : World) : HandSHeadRun.RunEq R (PySem.W.view R.prog [15]) hk ob 8000 loose w := by
  intro os
  kernel_rfl
end K1
namespace K1
open PySem PySem.Spec PyProof.Rows L2 Fy
open GxR (TabG Tabbed)
abbrev Rs := List ((Str × Str) × Int)
abbrev kT (p : Str × Str) : List Key := [Sum.inr p.1, Sum.inr p.2]
abbrev kvT (R : Rs) : List (List Key × V) := R.map fun p => (kT p.1, V.int p.2)
def tfs (c d : Addr) : List (Str × V) := [("corners", .ref c), ("streets", .ref d)]
structure TownAt (C : Addr) (H : Hp) (t c d : Addr) (cs : List Str) (R : Rs) : Prop where
  ob : ∃ dx, H t = some (.ins C dx (tfs c d))
  cr : H c = some (.lst (cs.map V.str))
  st : H d = some (.dT (kvT R))
structure WfT (cs : List Str) (R : Rs) : Prop where
  ndc : cs.Nodup
  nd : (R.map (·.1)).Nodup
  ends : ∀ p ∈ R, p.1.1 ∈ cs ∧ p.1.2 ∈ cs ∧ p.1.1 ≠ p.1.2 ∧ 1 ≤ p.2 ∧ p.2 ≤ 60
  len : R.length ≤ 10000
  lenc : cs.length ≤ 80
abbrev CTwn (K : PySem.W.Frag) : Addr := He.ga K "Town"
abbrev SErr (K : PySem.W.Frag) : Addr := He.ga K "StreetError"
theorem TownAt.go {TL : List (Addr × Str)} {TG : List Addr} {S : Ad} {C : Addr} {H H' : Hp} {t c d : Addr} {cs : List Str} {R : Rs} (D : TownAt C H t c d cs R) (g : Go TL TG S H H') (s1 : ¬ S t) (s2 : ¬ S c) (s3 : ¬ S d) : TownAt C H' t c d cs R := by
  obtain ⟨⟨dx, h1⟩, h2, h3⟩ := D
  exact ⟨⟨dx, g.keep _ _ h1 (by intro _ z; cases z) s1⟩, g.keep _ _ h2 (by intro _ z; cases z) s2, g.keep _ _ h3 (by intro _ z; cases z) s3⟩
theorem kT_inj {p q : Str × Str} (h : kT p = kT q) : p = q := by
  injection h with h1 h2
  injection h2 with h2 _
  exact Prod.ext (Sum.inr.inj h1) (Sum.inr.inj h2)
theorem val_kvT {R : Rs} {p : Str × Str} : valV (kvT R) (kT p) = (R.lookup p).map V.int := by
  induction R with
  | nil => rfl
  | cons q r ih =>
    obtain ⟨k, x⟩ := q
    by_cases e : k = p
    · subst e
      rw [List.lookup_cons_self]
      exact valV_pos rfl
    · have ne : ¬ kT k = kT p := fun z => e (kT_inj z)
      rw [List.lookup_cons, show (p == k) = false from beq_eq_false_iff_ne.mpr (Ne.symm e), ← ih]
      exact valV_neg ne
def putR (R : Rs) (p : Str × Str) (x : Int) : Rs := if (R.lookup p).isSome then R.map (fun q => if q.1 = p then (q.1, x) else q) else R ++ [(p, x)]
theorem put_kvT {R : Rs} {p : Str × Str} {x : Int} : putK (kvT R) (kT p) (.int x) = kvT (putR R p x) := by
  unfold putK putR
  have e : ((kvT R).any fun kv => decide (kv.1 = kT p)) = (R.lookup p).isSome := by
    rw [valV_any, val_kvT, Option.isSome_map]
  rw [e]
  split
  · show (R.map _).map _ = (R.map _).map _
    rw [List.map_map, List.map_map]
    refine List.map_congr_left fun q _ => ?_
    by_cases z : q.1 = p
    · simp [z]
    · have : ¬ kT q.1 = kT p := fun h => z (kT_inj h)
      simp only [Function.comp_apply, if_neg z]
      exact if_neg this
  · show R.map _ ++ _ = (R ++ _).map _
    rw [List.map_append] <;> rfl
theorem drop_kvT {R : Rs} {p : Str × Str} : dropK (kvT R) (kT p) = kvT (R.filter fun q => decide (q.1 ≠ p)) := by
  unfold dropK
  rw [List.filter_map]
  congr 1
  refine List.filter_congr fun q _ => ?_
  show decide (kT q.1 ≠ kT p) = decide (q.1 ≠ p)
  by_cases z : q.1 = p
  · rw [z]; simp
  · rw [decide_eq_true z, decide_eq_true (show kT q.1 ≠ kT p from fun h => z (kT_inj h))]
theorem lookR {R : Rs} {p : Str × Str} {x : Int} (h : R.lookup p = some x) : (p, x) ∈ R := by
  induction R with
  | nil => cases h
  | cons q r ih =>
    obtain ⟨k, y⟩ := q
    by_cases e : k = p
    · subst e
      rw [List.lookup_cons_self] at h
      cases h
      exact List.mem_cons_self
    · rw [List.lookup_cons, show (p == k) = false from beq_eq_false_iff_ne.mpr (Ne.symm e)] at h
      exact List.mem_cons_of_mem _ (ih h)
theorem Rlook {R : Rs} {p : Str × Str} {x : Int} (nd : (R.map (·.1)).Nodup) (h : (p, x) ∈ R) : R.lookup p = some x := by
  induction R with
  | nil => cases h
  | cons q r ih =>
    obtain ⟨k, y⟩ := q
    rw [List.map_cons, List.nodup_cons] at nd
    rcases List.mem_cons.mp h with z | h
    · cases z
      exact List.lookup_cons_self
    · have e : k ≠ p := fun z => nd.1 (List.mem_map.mpr ⟨_, h, z.symm⟩)
      rw [List.lookup_cons, show (p == k) = false from beq_eq_false_iff_ne.mpr (Ne.symm e)]
      exact ih nd.2 h
theorem flat_strs (l : List Str) : (l.map V.str).all flatV = true := List.all_eq_true.mpr fun x hx => by
  obtain ⟨n, _, rfl⟩ := List.mem_map.mp hx
  rfl
theorem inV_str (n : Str) (l : List Str) : inV (V.str n) (l.map V.str) = decide (n ∈ l) := by
  unfold inV
  rw [List.any_map]
  by_cases h : n ∈ l
  · rw [decide_eq_true h]
    exact List.any_eq_true.mpr ⟨n, h, by simp [eqV]⟩
  · rw [decide_eq_false h, List.any_eq_false]
    intro m hm z
    have : m = n := by simpa [eqV] using z
    exact h (by rw [← this]; exact hm)
def oi : Option Int → V
  | none => .non
  | some x => .int x
def sp_Town_init (K : PySem.W.Frag) : Sp := fun vs H Q E => ∃ (t dx : Addr), vs = [.ref t] ∧ H t = some (.ins (CTwn K) dx []) ∧ ∀ (c d : Addr) (H' : Hp), H c = none → H d = none → TownAt (CTwn K) H' t c d [] [] → Go (TL K) (TG K) (fun b => b = t) H H' → Q .non H'
def canCor (cs : List Str) (n : Str) : Bool := !(decide (n ∈ cs) || decide (n = "") || decide (80 ≤ cs.length))
def sp_Town_add (K : PySem.W.Frag) : Sp := fun vs H Q E => ∃ (t c d : Addr) (cs : List Str) (R : Rs) (n : Str), vs = [.ref t, .str n] ∧ TownAt (CTwn K) H t c d cs R ∧
  (canCor cs n = false → E (.ref (SErr K)) none H) ∧ (canCor cs n = true → ∀ H', TownAt (CTwn K) H' t c d (cs ++ [n]) R → Go (TL K) (TG K) (fun b => b = c) H H' → Q .non H')
def sp_Town_check (K : PySem.W.Frag) : Sp := fun vs H Q E => ∃ (t c d : Addr) (cs : List Str) (R : Rs) (n : Str), vs = [.ref t, .str n] ∧ TownAt (CTwn K) H t c d cs R ∧ (n ∉ cs → E (.ref (SErr K)) none H) ∧ (n ∈ cs → Q .non H)
def canLay (cs : List Str) (a b : Str) (m g : Int) : Bool := decide (a ∈ cs) && decide (b ∈ cs) && decide (a ≠ b) && (decide (1 ≤ m) && decide (m ≤ 60)) && (decide (0 ≤ g) && decide (g ≤ 60))
def layR (R : Rs) (a b : Str) (m g : Int) : Rs := if 0 < g then putR (putR R (a, b) m) (b, a) g else putR R (a, b) m
def sp_Town_lay (K : PySem.W.Frag) : Sp := fun vs H Q E => ∃ (t c d : Addr) (cs : List Str) (R : Rs) (a b : Str) (m : Int) (o : Option Int), vs = [.ref t, .str a, .str b, .int m, oi o] ∧ TownAt (CTwn K) H t c d cs R ∧ R.length ≤ 10000 ∧
  (canLay cs a b m (o.getD m) = false → E (.ref (SErr K)) none H) ∧ (canLay cs a b m (o.getD m) = true → ∀ H', TownAt (CTwn K) H' t c d cs (layR R a b m (o.getD m)) → Go (TL K) (TG K) (fun b => b = d) H H' → Q .non H')
def sp_Town_close (K : PySem.W.Frag) : Sp := fun vs H Q E => ∃ (t c d : Addr) (cs : List Str) (R : Rs) (a b : Str), vs = [.ref t, .str a, .str b] ∧ TownAt (CTwn K) H t c d cs R ∧
  ((R.lookup (a, b)).isSome = false → ∀ H', Go (TL K) (TG K) (fun _ => False) H H' → E (.ref (SErr K)) none H') ∧ ((R.lookup (a, b)).isSome = true → ∀ H', TownAt (CTwn K) H' t c d cs (R.filter fun q => decide (q.1 ≠ (a, b))) → Go (TL K) (TG K) (fun b => b = d) H H' → Q .non H')
section
variable {P : Program} {w : World} {K : PySem.W.Frag} {mg : Str → Option Value} {base : Heap}
abbrev N_Town_init : List Str := ["self"]
theorem sc_Town_init : FnScope N_Town_init ["self"] d_Town_init.scope := ⟨rfl, rfl, rfl, by decide +kernel, rfl, by decide +kernel, by decide +kernel⟩
theorem ok_Town_init (T : Txt K mg base) : Good P w K mg base 1 (He.fAd K d_Town_init.at_) ["self"] [] (sp_Town_init K) := by
  refine good_of0 T.fn_Town_init sc_Town_init rfl rfl (fun _ _ _ _ _ _ us hl => match us, hl with | [_], _ => rfl) (fun vs H Q E h => ?_) (fun A outer s H vs Q E hr h => ?_)
  · obtain ⟨t, dx, rfl, _⟩ := h
    rfl
  · obtain ⟨t, dx, rfl, h⟩ := h
    have cl_Town := T.cl_Town
    have no_Town_corners := T.no_Town_corners
    have no_Town_streets := T.no_Town_streets
    refine ⟨_, (pss_cons (ps_fld (pv 0) (pe_lst pa_nil) rfl)
    (pss_one (ps_fld (pv 0) pe_dnewT rfl))), ?_⟩
    obtain ⟨hp, k⟩ := h
    refine ⟨(by decide), fun c hc => ?_⟩
    have n1 : t ≠ c := ne_of_none hp hc
    walk_at "v"
    refine ⟨_, _, _, _, rfl, (by rw [upd_ne n1]; exact hp), T.cl_Town, T.no_Town_corners, (by show 0 < 1000; decide), ?_⟩
    refine fun d hd => ?_
    obtain ⟨n2, hd1⟩ := upd_none.mp hd
    obtain ⟨n3, hd0⟩ := upd_none.mp hd1
    walk_at "v"
    refine ⟨_, _, _, _, rfl, (by rw [upd_ne n2.symm]; exact upd_same), T.cl_Town, T.no_Town_streets, (by show 1 < 1000; decide), ?_⟩
    refine k c d _ hc hd0 ⟨⟨dx, ?_⟩, ?_, ?_⟩ ((((Go.new (o := .lst []) hc).wide.trans (Go.set (S := fun b => b = t) (o := .ins (CTwn K) dx (putF "corners" (.ref c) [])) (by rw [upd_ne n1]; exact hp) plain_ins rfl)).trans (Go.new (o := .dT []) hd)).trans (Go.set (o' := .ins (CTwn K) dx (putF "corners" (.ref c) [])) (by rw [upd_ne n2.symm]; exact upd_same) plain_ins rfl))
    · rw [upd_same] <;> rfl
    · rw [upd_ne n1.symm, upd_ne n3.symm, upd_ne n1.symm, upd_same] <;> rfl
    · rw [upd_ne n2, upd_same] <;> rfl
abbrev N_Town_check : List Str := ["self", "corner"]
theorem sc_Town_check : FnScope N_Town_check ["self", "corner"] d_Town_check.scope := ⟨rfl, rfl, rfl, by decide +kernel, rfl, by decide +kernel, by decide +kernel⟩
theorem ok_Town_check (T : Txt K mg base) : Good P w K mg base 1 (He.fAd K d_Town_check.at_) ["self", "corner"] [] (sp_Town_check K) := by
  refine good_of0 T.fn_Town_check sc_Town_check rfl rfl (fun _ _ _ _ _ _ us hl => match us, hl with | [_, _], _ => rfl) (fun vs H Q E h => ?_) (fun A outer s H vs Q E hr h => ?_)
  · obtain ⟨t, c, d, cs, R, n, rfl, _⟩ := h
    rfl
  · obtain ⟨t, c, d, cs, R, n, rfl, h⟩ := h
    have cl_Town := T.cl_Town
    have no_Town_corners := T.no_Town_corners
    have no_Town_streets := T.no_Town_streets
    refine ⟨_, (pss_one (ps_if (pt_cmpR op_notIn_seq (pv 1) (pe_fld (pv 0) rfl) rfl) (pss_one (ps_raiseC rfl tkx T.ex_StreetError T.gl_StreetError rfl)) pss_nil)), ?_⟩
    obtain ⟨D, k1, k2⟩ := h
    obtain ⟨⟨dx, h1⟩, h2, h3⟩ := id D
    walk_at "go"
    refine ⟨c, cs.map V.str, rfl, .inl (SqL.of h2), rfl, flat_strs cs, ?_⟩
    refine ⟨_, rfl, ?_⟩
    rw [inV_str]
    refine ite2 (fun z => k1 (by simpa using z)) (fun z => k2 (by simpa using z))
abbrev N_Town_add : List Str := ["self", "corner"]
theorem sc_Town_add : FnScope N_Town_add ["self", "corner"] d_Town_add.scope := ⟨rfl, rfl, rfl, by decide +kernel, rfl, by decide +kernel, by decide +kernel⟩
theorem ok_Town_add (T : Txt K mg base) : Good P w K mg base 1 (He.fAd K d_Town_add.at_) ["self", "corner"] [] (sp_Town_add K) := by
  refine good_of0 T.fn_Town_add sc_Town_add rfl rfl (fun _ _ _ _ _ _ us hl => match us, hl with | [_, _], _ => rfl) (fun vs H Q E h => ?_) (fun A outer s H vs Q E hr h => ?_)
  · obtain ⟨t, c, d, cs, R, n, rfl, _⟩ := h
    rfl
  · obtain ⟨t, c, d, cs, R, n, rfl, h⟩ := h
    have cl_Town := T.cl_Town
    have no_Town_corners := T.no_Town_corners
    have no_Town_streets := T.no_Town_streets
    obtain ⟨tk_MOST_CORNERS, C_MOST_CORNERS⟩ := T.c_MOST_CORNERS
    refine ⟨_, (pss_cons (ps_if (PW.pt (pw_or (pt_cmpR op_in_seq (pv 1) (pe_fld (pv 0) rfl) rfl) (pw_or (pt_cmpR op_eq (pv 1) pe_str (nomark _)) (pw_or1 (pt_cmpR op_ge (pe_callB call_len (by rfl) T.fr_len (PySem.boot_len) (pa_cons (pe_fld (pv 0) rfl) pa_nil)) (pe_glob (v := .int 80) rfl C_MOST_CORNERS ⟨_, rfl⟩) (nomark _)))))) (pss_one (ps_raiseC rfl tkx T.ex_StreetError T.gl_StreetError rfl)) pss_nil)
    (pss_one (ps_expr (pe_bm PySem.F.plainAttrs_list PySem.F.slot_list_append PySem.F.type_list_append mt_append (pe_fld (pv 0) rfl) (pa_cons (pv 1) pa_nil))))), ?_⟩
    obtain ⟨D, k1, k2⟩ := h
    obtain ⟨⟨dx, h1⟩, h2, h3⟩ := id D
    walk_at "go"
    refine ⟨c, cs.map V.str, rfl, .inl (SqL.of h2), rfl, flat_strs cs, ?_⟩
    refine ⟨_, rfl, ?_⟩
    rw [inV_str]
    refine ite2 (fun z => iteT (k1 ?_)) (fun z => ?_)
    · have e : n ∈ cs := by simpa using z
      simp [canCor, e]
    have c1 : n ∉ cs := by simpa using z
    walk_at "go"
    refine ite2 (fun z => iteT (k1 ?_)) (fun z => ?_)
    · have e : n = "" := by simpa using z
      simp [canCor, e]
    have c2 : ¬ n = "" := by simpa using z
    walk_at "go"
    refine ⟨_, cs.length, rfl, .inl ⟨_, SqL.of h2, (List.length_map ..).symm⟩, ?_⟩
    walk_at "go"
    refine ite2 (fun z => k1 ?_) (fun z => ?_)
    · have e : 80 ≤ cs.length := by
        have := of_decide_eq_true z
        omega
      simp [canCor, e]
    have c3 : ¬ 80 ≤ cs.length := fun e => z (decide_eq_true (by omega))
    walk_at "v"
    refine ⟨_, _, _, _, _, rfl, h1, T.cl_Town, T.no_Town_corners, rfl, ?_⟩
    refine ⟨.inl ⟨rfl, _, SqL.of h2⟩, ?_⟩
    walk_at "v"
    refine ⟨_, _, _, rfl, rfl, h2, (by rw [List.length_map]; exact Nat.lt_of_lt_of_le (Nat.lt_of_not_le c3) (by decide)), ?_⟩
    have g : Go (TL K) (TG K) (fun b => b = c) H (upd H c (.lst (cs.map V.str ++ [.str n]))) := Go.set h2 plain_lst rfl
    refine k2 (by simp [canCor, c1, c2, c3]) _ ⟨⟨dx, ?_⟩, ?_, ?_⟩ g
    · exact g.keep _ _ h1 (by intro _ z; cases z) (ne_of h1 h2 (by intro z; cases z))
    · rw [upd_same, List.map_append] <;> rfl
    · exact g.keep _ _ h3 (by intro _ z; cases z) (ne_of h3 h2 (by intro z; cases z))
end
section
variable {P : Program} {w : World} {K : PySem.W.Frag} {mg : Str → Option Value} {base : Heap}
theorem bi_Town_lay4 (T : Txt K mg base) (fd : FuncData) (D : FunD K d_Town_lay.name d_Town_lay.qual d_Town_lay.params d_Town_lay.body d_Town_lay.scope (d_Town_lay.dvs K) (d_Town_lay.kws K) (He.fAd K d_Town_lay.at_) fd) :
    ∃ dvs, Vals [V.non] dvs ∧ Binds K fd ["self", "one", "other", "minutes", "back"] dvs :=
  D.binds1 (ps := ["self", "one", "other", "minutes", "back"]) 4 0 (fun z => by cases z) (by rfl) fun T kV doc pm an cdv ct us its hl hi => match us, its, hl, hi with
    | [_, _, _, _], [_], _, _ => ⟨_, rfl, rfl⟩
theorem bi_Town_lay5 (T : Txt K mg base) (fd : FuncData) (D : FunD K d_Town_lay.name d_Town_lay.qual d_Town_lay.params d_Town_lay.body d_Town_lay.scope (d_Town_lay.dvs K) (d_Town_lay.kws K) (He.fAd K d_Town_lay.at_) fd) :
    ∃ dvs, Vals [] dvs ∧ Binds K fd ["self", "one", "other", "minutes", "back"] dvs :=
  D.binds1 (ps := ["self", "one", "other", "minutes", "back"]) 5 1 (fun z => by cases z) (by rfl) fun T kV doc pm an cdv ct us its hl hi => match us, its, hl, hi with
    | [_, _, _, _, _], [_], _, _ => ⟨_, rfl, rfl⟩
theorem put_len (R : Rs) (p : Str × Str) (x : Int) : (putR R p x).length ≤ R.length + 1 := by
  unfold putR
  split
  · rw [List.length_map]; omega
  · rw [List.length_append] <;> exact Nat.le_refl _
theorem TownAt.put {C : Addr} {H : Hp} {t c d y : Addr} {cs : List Str} {R : Rs} {p : Str × Str} {x : Int} (D : TownAt C H t c d cs R) (hy : H y = none) : TownAt C (upd (upd H y (.tup [.str p.1, .str p.2])) d (.dT (kvT (putR R p x)))) t c d cs (putR R p x) := by
  obtain ⟨⟨dx, h1⟩, h2, h3⟩ := D
  refine ⟨⟨dx, ?_⟩, ?_, upd_same⟩
  · rw [upd_ne (ne_of h1 h3 (by intro z; cases z)), upd_ne (ne_of_none h1 hy)]; exact h1
  · rw [upd_ne (ne_of h2 h3 (by intro z; cases z)), upd_ne (ne_of_none h2 hy)]; exact h2
abbrev N_Town_lay : List Str := ["self", "one", "other", "minutes", "back", "again"]
theorem sc_Town_lay : FnScope N_Town_lay ["self", "one", "other", "minutes", "back"] d_Town_lay.scope := ⟨rfl, rfl, rfl, by decide +kernel, rfl, by decide +kernel, by decide +kernel⟩
theorem ok_Town_lay_any (T : Txt K mg base) {ds : List V} (hb : ∀ fd, FunD K d_Town_lay.name d_Town_lay.qual d_Town_lay.params d_Town_lay.body d_Town_lay.scope (d_Town_lay.dvs K) (d_Town_lay.kws K) (He.fAd K d_Town_lay.at_) fd → ∃ dvs, Vals ds dvs ∧ Binds K fd ["self", "one", "other", "minutes", "back"] dvs) : Good P w K mg base 2 (He.fAd K d_Town_lay.at_) ["self", "one", "other", "minutes", "back"] ds (sp_Town_lay K) := by
  refine good_of T.fn_Town_lay sc_Town_lay hb (fun vs H Q E h => ?_) (fun A outer s H vs Q E hr h => ?_)
  · obtain ⟨t, c, d, cs, R, a, b, m, o, rfl, _⟩ := h
    rfl
  · obtain ⟨t, c, d, cs, R, a, b, m, o, rfl, h⟩ := h
    have hu := hu_of hr
    have cl_Town := T.cl_Town
    have no_Town_corners := T.no_Town_corners
    have no_Town_streets := T.no_Town_streets
    refine ⟨_, (pss_cons (ps_expr (pg_meth (ok_Town_check T) (hr.mono (by decide)) T.cl_Town T.me_Town_check px (pv 0) (pa_cons (pv 1) pa_nil)))
    (pss_cons (ps_expr (pg_meth (ok_Town_check T) (hr.mono (by decide)) T.cl_Town T.me_Town_check px (pv 0) (pa_cons (pv 2) pa_nil)))
    (pss_cons (ps_set (i := 5) sc_Town_lay.nd rfl (by first | exact Or.inl rfl | exact Or.inr rfl) (pe_ifExp (pt_cmpR op_isN (pv 4) pe_non (nomark _)) (pv 3) (pv 4)))
    (pss_cons (ps_if (PW.pt (pw_or (pt_cmpR op_eq (pv 1) (pv 2) (nomark _)) (pw_or (pt_not (pt_chain op_le op_le pe_int (pv 3) pe_int)) (pw_or1 (pt_not (pt_chain op_le op_le pe_int (pv 5) pe_int)))))) (pss_one (ps_raiseC rfl tkx T.ex_StreetError T.gl_StreetError rfl)) pss_nil)
    (pss_cons (ps_dput hu (pe_fld (pv 0) rfl) (pe_tup (pa_cons (pv 1) (pa_cons (pv 2) pa_nil))) (pv 3) rfl)
    (pss_one (ps_if (pt_cmpR op_gt (pv 5) pe_int (nomark _)) (pss_one (ps_dput hu (pe_fld (pv 0) rfl) (pe_tup (pa_cons (pv 2) (pa_cons (pv 1) pa_nil))) (pv 5) rfl)) pss_nil))))))), ?_⟩
    obtain ⟨D, len, k1, k2⟩ := h
    obtain ⟨⟨dx, h1⟩, h2, h3⟩ := id D
    walk_at "v"
    refine ⟨_, _, _, rfl, h1, rfl, ?_⟩
    walk_at "v"
    refine ⟨t, c, d, cs, R, a, rfl, D, fun z => k1 (by simp [canLay, z]), fun ca => ?_⟩
    walk_at "v"
    refine ⟨_, _, _, rfl, h1, rfl, ?_⟩
    walk_at "v"
    refine ⟨t, c, d, cs, R, b, rfl, D, fun z => k1 (by simp [canLay, z]), fun cb => ?_⟩
    rcases o with _ | g
    · walk_at "v"
      refine ⟨rfl, _, rfl, iteT ?_⟩
      walk_at "v"
      walk_at "go"
      refine ite2 (fun z => iteT (k1 ?_)) (fun z1 => ?_)
      · have e : a = b := by simpa using z
        simp [canLay, e]
      have n1 : a ≠ b := by simpa using z1
      walk_at "go"
      rcases Decidable.em (1 ≤ m) with m1 | m1
      rotate_left
      · (refine iteF' (decide_eq_false m1) ⟨_, rfl, iteT' rfl (iteT (k1 (by simp [canLay, m1])))⟩)
      refine iteT' (decide_eq_true m1) ?_
      walk_at "go"
      rcases Decidable.em (m ≤ 60) with m2 | m2
      rotate_left
      · (exact iteT' (by simp [m2]) (iteT (k1 (by simp [canLay, m2]))))
      refine iteF' (by simp [m2]) ?_
      walk_at "go"
      rcases Decidable.em (0 ≤ m) with g1 | g1
      rotate_left
      · (refine iteF' (decide_eq_false g1) ⟨_, rfl, iteT' rfl (k1 (by simp [canLay, g1]))⟩)
      refine iteT' (decide_eq_true g1) ?_
      walk_at "go"
      rcases Decidable.em (m ≤ 60) with g2 | g2
      rotate_left
      · (exact iteT' (by simp [g2]) (k1 (by simp [canLay, g2])))
      refine iteF' (by simp [g2]) ?_
      have ok : canLay cs a b m m = true := by simp [canLay, ca, cb, n1, m1, m2, g1, g2]
      walk_at "v"; walk_at "v"
      refine ⟨_, _, _, _, _, rfl, h1, T.cl_Town, T.no_Town_streets, rfl, ?_⟩
      walk_at "v"; walk_at "v"
      refine ⟨(by show 2 ≤ sizeLine; decide), fun y hy => ?_⟩
      have dy : upd H y (.tup [.str a, .str b]) d = some (.dT (kvT R)) := by rw [upd_ne (ne_of_none h3 hy)]; exact h3
      refine ⟨d, _, rfl, DPut.t (k := kT (a, b)) dy upd_same (by rw [List.length_map]; exact Nat.lt_of_le_of_lt len (by decide)), ?_⟩
      rw [put_kvT]
      have D1 := D.put (p := (a, b)) (x := m) hy
      have g1' : Go (TL K) (TG K) (fun b => b = d) H (upd (upd H y (.tup [.str a, .str b])) d (.dT (kvT (putR R (a, b) m)))) := (Go.new hy).trans (Go.set dy plain_dT rfl)
      generalize upd (upd H y (.tup [.str a, .str b])) d (.dT (kvT (putR R (a, b) m))) = H1 at D1 g1' ⊢
      obtain ⟨⟨dx1, e1⟩, e2, e3⟩ := id D1
      walk_at "go"
      refine ite2 (fun z => ?_) (fun z => ?_)
      · have zg : 0 < m := by simpa using z
        walk_at "v"; walk_at "v"
        refine ⟨_, _, _, _, _, rfl, e1, T.cl_Town, T.no_Town_streets, rfl, ?_⟩
        walk_at "v"; walk_at "v"
        refine ⟨(by show 2 ≤ sizeLine; decide), fun y2 hy2 => ?_⟩
        have dy2 : upd H1 y2 (.tup [.str b, .str a]) d = some (.dT (kvT (putR R (a, b) m))) := by rw [upd_ne (ne_of_none e3 hy2)]; exact e3
        refine ⟨d, _, rfl, DPut.t (k := kT (b, a)) dy2 upd_same (by rw [List.length_map]; exact Nat.lt_of_le_of_lt (put_len _ _ _) (Nat.lt_of_le_of_lt (Nat.succ_le_succ len) (by decide))), ?_⟩
        show Q .non (upd (upd H1 y2 (.tup [.str b, .str a])) d (.dT (putK (kvT (putR R (a, b) m)) (kT (b, a)) (.int m))))
        rw [put_kvT]
        have D2 := D1.put (p := (b, a)) (x := m) hy2
        have D3 : TownAt (CTwn K) (upd (upd H1 y2 (.tup [.str b, .str a])) d (.dT (kvT (putR (putR R (a, b) m) (b, a) m)))) t c d cs (layR R a b m m) := by unfold layR; rw [if_pos zg]; exact D2
        exact k2 ok _ D3 ((g1'.trans (Go.new hy2)).trans (Go.set dy2 plain_dT rfl))
      · have zg : ¬ 0 < m := by simpa using z
        have D3 : TownAt (CTwn K) H1 t c d cs (layR R a b m m) := by unfold layR; rw [if_neg zg]; exact D1
        exact k2 ok _ D3 g1'
    · walk_at "v"
      refine ⟨rfl, _, rfl, iteF ?_⟩
      walk_at "v"
      walk_at "go"
      refine ite2 (fun z => iteT (k1 ?_)) (fun z1 => ?_)
      · have e : a = b := by simpa using z
        simp [canLay, e]
      have n1 : a ≠ b := by simpa using z1
      walk_at "go"
      rcases Decidable.em (1 ≤ m) with m1 | m1
      rotate_left
      · (refine iteF' (decide_eq_false m1) ⟨_, rfl, iteT' rfl (iteT (k1 (by simp [canLay, m1])))⟩)
      refine iteT' (decide_eq_true m1) ?_
      walk_at "go"
      rcases Decidable.em (m ≤ 60) with m2 | m2
      rotate_left
      · (exact iteT' (by simp [m2]) (iteT (k1 (by simp [canLay, m2]))))
      refine iteF' (by simp [m2]) ?_
      walk_at "go"
      rcases Decidable.em (0 ≤ g) with g1 | g1
      rotate_left
      · (refine iteF' (decide_eq_false g1) ⟨_, rfl, iteT' rfl (k1 (by simp [canLay, g1]))⟩)
      refine iteT' (decide_eq_true g1) ?_
      walk_at "go"
      rcases Decidable.em (g ≤ 60) with g2 | g2
      rotate_left
      · (exact iteT' (by simp [g2]) (k1 (by simp [canLay, g2])))
      refine iteF' (by simp [g2]) ?_
      have ok : canLay cs a b m g = true := by simp [canLay, ca, cb, n1, m1, m2, g1, g2]
      walk_at "v"; walk_at "v"
      refine ⟨_, _, _, _, _, rfl, h1, T.cl_Town, T.no_Town_streets, rfl, ?_⟩
      walk_at "v"; walk_at "v"
      refine ⟨(by show 2 ≤ sizeLine; decide), fun y hy => ?_⟩
      have dy : upd H y (.tup [.str a, .str b]) d = some (.dT (kvT R)) := by rw [upd_ne (ne_of_none h3 hy)]; exact h3
      refine ⟨d, _, rfl, DPut.t (k := kT (a, b)) dy upd_same (by rw [List.length_map]; exact Nat.lt_of_le_of_lt len (by decide)), ?_⟩
      rw [put_kvT]
      have D1 := D.put (p := (a, b)) (x := m) hy
      have g1' : Go (TL K) (TG K) (fun b => b = d) H (upd (upd H y (.tup [.str a, .str b])) d (.dT (kvT (putR R (a, b) m)))) := (Go.new hy).trans (Go.set dy plain_dT rfl)
      generalize upd (upd H y (.tup [.str a, .str b])) d (.dT (kvT (putR R (a, b) m))) = H1 at D1 g1' ⊢
      obtain ⟨⟨dx1, e1⟩, e2, e3⟩ := id D1
      walk_at "go"
      refine ite2 (fun z => ?_) (fun z => ?_)
      · have zg : 0 < g := by simpa using z
        walk_at "v"; walk_at "v"
        refine ⟨_, _, _, _, _, rfl, e1, T.cl_Town, T.no_Town_streets, rfl, ?_⟩
        walk_at "v"; walk_at "v"
        refine ⟨(by show 2 ≤ sizeLine; decide), fun y2 hy2 => ?_⟩
        have dy2 : upd H1 y2 (.tup [.str b, .str a]) d = some (.dT (kvT (putR R (a, b) m))) := by rw [upd_ne (ne_of_none e3 hy2)]; exact e3
        refine ⟨d, _, rfl, DPut.t (k := kT (b, a)) dy2 upd_same (by rw [List.length_map]; exact Nat.lt_of_le_of_lt (put_len _ _ _) (Nat.lt_of_le_of_lt (Nat.succ_le_succ len) (by decide))), ?_⟩
        show Q .non (upd (upd H1 y2 (.tup [.str b, .str a])) d (.dT (putK (kvT (putR R (a, b) m)) (kT (b, a)) (.int g))))
        rw [put_kvT]
        have D2 := D1.put (p := (b, a)) (x := g) hy2
        have D3 : TownAt (CTwn K) (upd (upd H1 y2 (.tup [.str b, .str a])) d (.dT (kvT (putR (putR R (a, b) m) (b, a) g)))) t c d cs (layR R a b m g) := by unfold layR; rw [if_pos zg]; exact D2
        exact k2 ok _ D3 ((g1'.trans (Go.new hy2)).trans (Go.set dy2 plain_dT rfl))
      · have zg : ¬ 0 < g := by simpa using z
        have D3 : TownAt (CTwn K) H1 t c d cs (layR R a b m g) := by unfold layR; rw [if_neg zg]; exact D1
        exact k2 ok _ D3 g1'
theorem ok_Town_lay (T : Txt K mg base) : Good P w K mg base 2 (He.fAd K d_Town_lay.at_) ["self", "one", "other", "minutes", "back"] [] (sp_Town_lay K) := ok_Town_lay_any T (bi_Town_lay5 T)
theorem ok_Town_lay4 (T : Txt K mg base) : Good P w K mg base 2 (He.fAd K d_Town_lay.at_) ["self", "one", "other", "minutes", "back"] [.non] (sp_Town_lay K) := ok_Town_lay_any T (bi_Town_lay4 T)
abbrev N_Town_close : List Str := ["self", "one", "other"]
theorem sc_Town_close : FnScope N_Town_close ["self", "one", "other"] d_Town_close.scope := ⟨rfl, rfl, rfl, by decide +kernel, rfl, by decide +kernel, by decide +kernel⟩
theorem ok_Town_close (T : Txt K mg base) : Good P w K mg base 1 (He.fAd K d_Town_close.at_) ["self", "one", "other"] [] (sp_Town_close K) := by
  refine good_of0 T.fn_Town_close sc_Town_close rfl rfl (fun _ _ _ _ _ _ us hl => match us, hl with | [_, _, _], _ => rfl) (fun vs H Q E h => ?_) (fun A outer s H vs Q E hr h => ?_)
  · obtain ⟨t, c, d, cs, R, a, b, rfl, _⟩ := h
    rfl
  · obtain ⟨t, c, d, cs, R, a, b, rfl, h⟩ := h
    have hu := hu_of hr
    have cl_Town := T.cl_Town
    have no_Town_corners := T.no_Town_corners
    have no_Town_streets := T.no_Town_streets
    refine ⟨_, (pss_cons (ps_if (pt_cmp (pc_dnotin hu (pe_tup (pa_cons (pv 1) (pa_cons (pv 2) pa_nil))) (pe_fld (pv 0) rfl))) (pss_one (ps_raiseC rfl tkx T.ex_StreetError T.gl_StreetError rfl)) pss_nil)
    (pss_one (ps_ddelT hu (pe_fld (pv 0) rfl) (pe_tup (pa_cons (pv 1) (pa_cons (pv 2) pa_nil)))))), ?_⟩
    obtain ⟨D, k1, k2⟩ := h
    obtain ⟨⟨dx, h1⟩, h2, h3⟩ := id D
    walk_at "go"
    refine ⟨(by show 2 ≤ sizeLine; decide), fun y hy => ?_⟩
    have g1 := Go.new (TL := TL K) (TG := TG K) (S := fun _ => False) (o := .tup [.str a, .str b]) hy
    have D1 := D.go g1 id id id
    have ey : upd H y (.tup [.str a, .str b]) y = some (.tup ((kT (a, b)).map kV)) := upd_same
    obtain ⟨⟨dx1, e1⟩, e2, e3⟩ := id D1
    walk_at "v"
    refine ⟨_, _, _, _, _, rfl, e1, T.cl_Town, T.no_Town_streets, rfl, ?_⟩
    refine ⟨d, _, rfl, DGet.t e3 ey, _, rfl, ?_⟩
    rw [val_kvT]
    cases el : R.lookup (a, b) with
    | none => exact iteT (k1 (by rw [el] <;> rfl) _ g1)
    | some x =>
      refine iteF ?_
      walk_at "v"
      refine ⟨_, _, _, _, _, rfl, e1, T.cl_Town, T.no_Town_streets, rfl, ?_⟩
      walk_at "v"; walk_at "v"
      refine ⟨(by show 2 ≤ sizeLine; decide), fun y2 hy2 => ?_⟩
      have g2 := g1.trans (Go.new (o := .tup [.str a, .str b]) hy2)
      have D2 := D1.go (Go.new (TL := TL K) (TG := TG K) (S := fun _ => False) (o := .tup [.str a, .str b]) hy2) id id id
      obtain ⟨⟨dx2, q1⟩, q2, q3⟩ := id D2
      refine ⟨d, y2, kvT R, kT (a, b), rfl, rfl, q3, upd_same, (by rw [val_kvT, el] <;> rfl), ?_⟩
      rw [drop_kvT]
      have g3 : Go (TL K) (TG K) (fun b => b = d) (upd (upd H y (.tup [.str a, .str b])) y2 (.tup [.str a, .str b])) (upd (upd (upd H y (.tup [.str a, .str b])) y2 (.tup [.str a, .str b])) d (.dT (kvT (R.filter fun q => decide (q.1 ≠ (a, b)))))) := Go.set q3 plain_dT rfl
      refine k2 (by rw [el] <;> rfl) _ ⟨⟨dx2, ?_⟩, ?_, upd_same⟩ (g2.wide.trans g3)
      · exact g3.keep _ _ q1 (by intro _ z; cases z) (ne_of q1 q3 (by intro z; cases z))
      · exact g3.keep _ _ q2 (by intro _ z; cases z) (ne_of q2 q3 (by intro z; cases z))
end
end K1
namespace K1
open PySem PySem.Spec PyProof.Rows L2 Fy
open GxR (TabG Tabbed)
abbrev Fs := List (Str × Int)
/-- a way from s to v that takes x -/
inductive Way (R : Rs) (s : Str) : Str → Int → Prop
  | nil : Way R s s 0
  | snoc {u v : Str} {x m : Int} : Way R s u x → R.lookup (u, v) = some m → Way R s v (x + m)
def strLt (a b : Str) : Bool := ltD (.str a) (.str b)
def ltP (p q : Str × Int) : Prop := p.2 < q.2 ∨ (p.2 = q.2 ∧ strLt p.1 q.1 = true)
theorem strLt_tri {a b : Str} (h : strLt a b = false) (h' : strLt b a = false) : a = b := by
  have e := PyProof.Rows.lex_total (O := PyProof.Rows.itemOrd) _ _ h h'
  have e2 : a.cps.toList = b.cps.toList := by
    have : [(Sum.inr a.cps.toList : Int ⊕ List Nat)] = [Sum.inr b.cps.toList] := e
    injection this with h1 _
    exact Sum.inr.inj h1
  exact PySem.W.str_of_cps e2
theorem strLt_trans {a b c : Str} : strLt a b = true → strLt b c = true → strLt a c = true := PyProof.Rows.lex_trans _ _ _
theorem strLt_irr (a : Str) : strLt a a = false := PyProof.Rows.lex_irrefl _
theorem ltD_isD (a b : Int × Str) : ltD (isD a) (isD b) = (decide (a.1 < b.1) || (decide (a.1 = b.1) && strLt a.2 b.2)) := by
  show PyProof.Rows.lexLt PyProof.Rows.itemOrd [.inl 1, .inl a.1, .inl 1, .inr a.2.cps.toList, .inl 0] [.inl 1, .inl b.1, .inl 1, .inr b.2.cps.toList, .inl 0] = _
  rw [PyProof.Rows.lex_self]
  by_cases e : a.1 = b.1
  · rw [e, PyProof.Rows.lex_self, PyProof.Rows.lex_self, decide_eq_true rfl, decide_eq_false (Int.lt_irrefl _)]
    show _ = strLt a.2 b.2
    unfold strLt ltD PySem.W.dataLt
    by_cases e2 : a.2 = b.2
    · rw [e2, PyProof.Rows.lex_irrefl, PyProof.Rows.lex_irrefl]
    · have ne : (Sum.inr a.2.cps.toList : Int ⊕ List Nat) ≠ Sum.inr b.2.cps.toList := fun z => e2 (PySem.W.str_of_cps (Sum.inr.inj z))
      show PyProof.Rows.lexLt PyProof.Rows.itemOrd [.inr a.2.cps.toList, .inl 0] [.inr b.2.cps.toList, .inl 0] = PyProof.Rows.lexLt PyProof.Rows.itemOrd [.inr a.2.cps.toList] [.inr b.2.cps.toList]
      rw [PyProof.Rows.lex_diff (O := PyProof.Rows.itemOrd) ne, PyProof.Rows.lex_diff (O := PyProof.Rows.itemOrd) ne]
  · have ne : (Sum.inl a.1 : Int ⊕ List Nat) ≠ Sum.inl b.1 := fun z => e (Sum.inl.inj z)
    rw [PyProof.Rows.lex_diff (O := PyProof.Rows.itemOrd) ne, decide_eq_false e, Bool.false_and, Bool.or_false]
    rfl
/-- a table put anew -/
def putI (L : Fs) (n : Str) (x : Int) : Fs := if (L.lookup n).isSome then L.map (fun q => if q.1 = n then (q.1, x) else q) else L ++ [(n, x)]
theorem lk_cons {L : Fs} {a m : Str} {y : Int} : (((a, y) :: L) : Fs).lookup m = if m = a then some y else L.lookup m := by
  by_cases e : m = a
  · rw [if_pos e, e]; exact List.lookup_cons_self
  · rw [if_neg e, List.lookup_cons, show (m == a) = false from beq_eq_false_iff_ne.mpr e]
theorem lk_app {L : Fs} {n m : Str} {x : Int} : (L ++ [(n, x)]).lookup m = (L.lookup m).or (if m = n then some x else none) := by
  induction L with
  | nil =>
    rw [List.nil_append, lk_cons]
    show _ = Option.or none _
    rfl
  | cons q r ih =>
    obtain ⟨k, y⟩ := q
    rw [List.cons_append, lk_cons, lk_cons, ih]
    split <;> rfl
theorem lk_map {L : Fs} {n m : Str} {x : Int} : (L.map fun q => if q.1 = n then (q.1, x) else q).lookup m = if m = n then (L.lookup m).map fun _ => x else L.lookup m := by
  induction L with
  | nil => split <;> rfl
  | cons q r ih =>
    obtain ⟨k, y⟩ := q
    rw [List.map_cons]
    by_cases e : k = n
    · rw [if_pos e, lk_cons, lk_cons, ih]
      by_cases e2 : m = k
      · rw [if_pos e2, if_pos e2, if_pos (e2.trans e)] <;> rfl
      · rw [if_neg e2, if_neg e2]
    · rw [if_neg e, lk_cons, lk_cons, ih]
      by_cases e2 : m = k
      · rw [if_pos e2, if_pos e2, if_neg (fun z => e (e2.symm.trans z))]
      · rw [if_neg e2, if_neg e2]
theorem lk_put {L : Fs} {n m : Str} {x : Int} : (putI L n x).lookup m = if m = n then some x else L.lookup m := by
  unfold putI
  cases e : L.lookup n with
  | none =>
    rw [if_neg (by simp), lk_app]
    by_cases h : m = n
    · rw [if_pos h, if_pos h, h, e] <;> rfl
    · rw [if_neg h, if_neg h, Option.or_none]
  | some y =>
    rw [if_pos (show (some y).isSome = true from rfl), lk_map]
    by_cases h : m = n
    · rw [if_pos h, if_pos h, h, e] <;> rfl
    · rw [if_neg h, if_neg h]
theorem lk_del {L : Fs} {n m : Str} : (L.filter fun q => decide (q.1 ≠ n)).lookup m = if m = n then none else L.lookup m := by
  induction L with
  | nil => split <;> rfl
  | cons q r ih =>
    obtain ⟨k, y⟩ := q
    by_cases e : k = n
    · rw [List.filter_cons_of_neg (by simp [e]), ih, lk_cons]
      by_cases h : m = n
      · rw [if_pos h, if_pos h]
      · rw [if_neg h, if_neg h, if_neg (fun z => h (z.trans e))]
    · rw [List.filter_cons_of_pos (by simp [e]), lk_cons, lk_cons, ih]
      by_cases h : m = k
      · rw [if_pos h, if_pos h, if_neg (fun z => e (h.symm.trans z))]
      · rw [if_neg h, if_neg h]
theorem nd_put {L : Fs} (nd : (L.map (·.1)).Nodup) (n : Str) (x : Int) : ((putI L n x).map (·.1)).Nodup := by
  unfold putI
  split
  · have e : (L.map (fun q => if q.1 = n then (q.1, x) else q)).map (·.1) = L.map (·.1) := by
      rw [List.map_map]
      refine List.map_congr_left fun q _ => ?_
      show (if q.1 = n then (q.1, x) else q).1 = q.1
      split <;> rfl
    rw [e]
    exact nd
  · rename_i h
    rw [List.map_append, List.nodup_append]
    refine ⟨nd, by simp, fun a ha b hb z => ?_⟩
    have z2 : a = n := z.trans (List.mem_singleton.mp hb)
    obtain ⟨q, hq, e⟩ := List.mem_map.mp ha
    have e : q.1 = n := e.trans z2
    refine h ?_
    clear h nd ha hb z z2
    induction L with
    | nil => cases hq
    | cons p r ih =>
      obtain ⟨k, y⟩ := p
      rw [lk_cons]
      split
      · rfl
      · rename_i hn
        rcases List.mem_cons.mp hq with z | z
        · rw [z] at e
          exact absurd e.symm hn
        · exact ih z
theorem nd_del {L : Fs} (nd : (L.map (·.1)).Nodup) (n : Str) : ((L.filter fun q => decide (q.1 ≠ n)).map (·.1)).Nodup := nd.sublist (List.filter_sublist.map _)
theorem lk_mem {L : Fs} {n : Str} {x : Int} (h : L.lookup n = some x) : (n, x) ∈ L := by
  induction L with
  | nil => cases h
  | cons q r ih =>
    obtain ⟨k, y⟩ := q
    rw [lk_cons] at h
    by_cases e : n = k
    · rw [if_pos e] at h
      cases h
      rw [e]
      exact List.mem_cons_self
    · rw [if_neg e] at h
      exact List.mem_cons_of_mem _ (ih h)
theorem mem_lk {L : Fs} {n : Str} {x : Int} (nd : (L.map (·.1)).Nodup) (h : (n, x) ∈ L) : L.lookup n = some x := by
  induction L with
  | nil => cases h
  | cons q r ih =>
    obtain ⟨k, y⟩ := q
    rw [List.map_cons, List.nodup_cons] at nd
    rw [lk_cons]
    rcases List.mem_cons.mp h with z | h
    · cases z
      rw [if_pos rfl]
    · rw [if_neg (fun e => nd.1 (List.mem_map.mpr ⟨_, h, e⟩))]
      exact ih nd.2 h
/-- the search: what is found, what is in reach; the streets from here have been seen as far as pre -/
structure DInv (R : Rs) (s : Str) (F W : Fs) (see : Str → Str → Prop) : Prop where
  ndF : (F.map (·.1)).Nodup
  ndW : (W.map (·.1)).Nodup
  dis : ∀ v x y, F.lookup v = some x → W.lookup v = some y → False
  sndF : ∀ v x, F.lookup v = some x → Way R s v x
  sndW : ∀ v x, W.lookup v = some x → Way R s v x
  clo : ∀ u x v w, F.lookup u = some x → R.lookup (u, v) = some w → see u v → (∃ y, F.lookup v = some y ∧ y ≤ x + w) ∨ ∃ y, W.lookup v = some y ∧ y ≤ x + w
  srt : F.Pairwise ltP
  low : ∀ p ∈ F, ∀ v y, W.lookup v = some y → ltP p (v, y)
  st : F.lookup s = some 0 ∨ W.lookup s = some 0
theorem ltP_le {p q : Str × Int} (h : ltP p q) : p.2 ≤ q.2 := by
  rcases h with h | ⟨h, _⟩ <;> omega
theorem Way.nonneg {R : Rs} {s v : Str} {x : Int} (pos : ∀ p m, R.lookup p = some m → 1 ≤ m) (h : Way R s v x) : 0 ≤ x := by
  induction h with
  | nil => exact Int.le_refl _
  | snoc _ e ih =>
    have := pos _ _ e
    omega
theorem DInv.start (R : Rs) (s : Str) : DInv R s [] [(s, 0)] fun _ _ => True := by
  refine ⟨.nil, by simp, fun _ _ _ h => (by cases h), fun _ _ h => (by cases h), fun v x h => ?_, fun _ _ _ _ h => (by cases h), .nil, fun _ h => (by cases h), .inr (by rw [lk_cons, if_pos rfl])⟩
  rw [lk_cons] at h
  by_cases e : v = s
  · rw [if_pos e] at h
    cases h
    rw [e]
    exact .nil
  · rw [if_neg e] at h
    cases h
/-- the nearest goes over -/
theorem DInv.pop {R : Rs} {s here : Str} {m : Int} {F W : Fs} (I : DInv R s F W fun _ _ => True) (hm : W.lookup here = some m) (least : ∀ v y, W.lookup v = some y → v ≠ here → ltP (here, m) (v, y)) :
    DInv R s (F ++ [(here, m)]) (W.filter fun q => decide (q.1 ≠ here)) fun u _ => u ≠ here := by
  have fh : F.lookup here = none := by
    cases e : F.lookup here with
    | none => rfl
    | some x => exact (I.dis _ _ _ e hm).elim
  have lf : ∀ v x, (F ++ [(here, m)]).lookup v = some x → (v = here ∧ x = m) ∨ (v ≠ here ∧ F.lookup v = some x) := fun v x h => by
    rw [lk_app] at h
    by_cases e : v = here
    · rw [e, fh, if_pos rfl] at h
      cases h
      exact .inl ⟨e, rfl⟩
    · rw [if_neg e, Option.or_none] at h
      exact .inr ⟨e, h⟩
  have lw : ∀ v x, (W.filter fun q => decide (q.1 ≠ here)).lookup v = some x → v ≠ here ∧ W.lookup v = some x := fun v x h => by
    rw [lk_del] at h
    by_cases e : v = here
    · rw [if_pos e] at h
      cases h
    · rw [if_neg e] at h
      exact ⟨e, h⟩
  have keepF : ∀ v x, F.lookup v = some x → (F ++ [(here, m)]).lookup v = some x := fun v x h => by rw [lk_app, h] <;> rfl
  refine ⟨?_, nd_del I.ndW here, fun v x y h1 h2 => ?_, fun v x h => ?_, fun v x h => I.sndW v x (lw v x h).2, fun u x v w h1 h2 h3 => ?_, ?_, fun p hp v y h => ?_, ?_⟩
  · rw [List.map_append, List.nodup_append]
    refine ⟨I.ndF, by simp, fun a ha b hb z => ?_⟩
    have z2 : a = here := z.trans (List.mem_singleton.mp hb)
    obtain ⟨q, hq, e⟩ := List.mem_map.mp ha
    have := mem_lk I.ndF (show (q.1, q.2) ∈ F from hq)
    rw [show q.1 = here from e.trans z2, fh] at this
    cases this
  · obtain ⟨n1, h2⟩ := lw v y h2
    rcases lf v x h1 with ⟨e, _⟩ | ⟨_, h1⟩
    · exact n1 e
    · exact I.dis _ _ _ h1 h2
  · rcases lf v x h with ⟨rfl, rfl⟩ | ⟨_, h⟩
    · exact I.sndW _ _ hm
    · exact I.sndF _ _ h
  · rcases lf u x h1 with ⟨e, _⟩ | ⟨_, h1⟩
    · exact (h3 e).elim
    · rcases I.clo u x v w h1 h2 trivial with ⟨y, e, l⟩ | ⟨y, e, l⟩
      · exact .inl ⟨y, keepF _ _ e, l⟩
      · by_cases ev : v = here
        · rw [ev, hm] at e
          cases e
          exact .inl ⟨m, by rw [ev, lk_app, fh, if_pos rfl] <;> rfl, l⟩
        · exact .inr ⟨y, by rw [lk_del, if_neg ev]; exact e, l⟩
  · rw [List.pairwise_append]
    refine ⟨I.srt, by simp, fun p hp q hq => ?_⟩
    rw [List.mem_singleton.mp hq]
    exact I.low p hp _ _ hm
  · obtain ⟨n1, h⟩ := lw v y h
    rcases List.mem_append.mp hp with hp | hp
    · exact I.low p hp _ _ h
    · rw [List.mem_singleton.mp hp]
      exact least v y h n1
  · rcases I.st with h | h
    · exact .inl (keepF _ _ h)
    · by_cases e : s = here
      · rw [e, hm] at h
        cases h
        exact .inl (by rw [e, lk_app, fh, if_pos rfl] <;> rfl)
      · exact .inr (by rw [lk_del, if_neg e]; exact h)
/-- one street from here -/
def rlx (here : Str) (m : Int) (F : Fs) (W : Fs) (e : (Str × Str) × Int) : Fs :=
  if e.1.1 = here ∧ F.lookup e.1.2 = none then
    match W.lookup e.1.2 with
    | none => putI W e.1.2 (m + e.2)
    | some y => if m + e.2 < y then putI W e.1.2 (m + e.2) else W
  else W
theorem DInv.relax {R : Rs} {s here : Str} {m : Int} {F W : Fs} {see : Str → Str → Prop} {e : (Str × Str) × Int} (I : DInv R s F W see) (pos : ∀ p m, R.lookup p = some m → 1 ≤ m) (re : R.lookup e.1 = some e.2) (hF : F.lookup here = some m) (top : ∀ p ∈ F, p.2 ≤ m) :
    DInv R s F (rlx here m F W e) fun u v => see u v ∨ (u = here ∧ (u, v) = e.1) := by
  obtain ⟨⟨one, other⟩, w⟩ := e
  have re : R.lookup (one, other) = some w := re
  have pos1 : 1 ≤ w := pos _ _ re
  have ms : 0 ≤ m := (I.sndF _ _ hF).nonneg pos
  have same : ∀ {W' : Fs}, (one = here → F.lookup other = none → ∃ y, W.lookup other = some y ∧ y ≤ m + w) → W' = W → DInv R s F W' fun u v => see u v ∨ (u = here ∧ (u, v) = (one, other)) := fun hk z => by
    subst z
    refine ⟨I.ndF, I.ndW, I.dis, I.sndF, I.sndW, fun u x v w' h1 h2 h3 => ?_, I.srt, I.low, I.st⟩
    rcases h3 with h3 | ⟨rfl, h3⟩
    · exact I.clo u x v w' h1 h2 h3
    · cases h3
      rw [re] at h2
      cases h2
      rw [hF] at h1
      cases h1
      cases ef : F.lookup other with
      | some y => exact .inl ⟨y, ef ▸ rfl, by have := top _ (lk_mem ef); show y ≤ _; have : y ≤ m := this; omega⟩
      | none =>
        obtain ⟨y, e, l⟩ := hk rfl ef
        exact .inr ⟨y, e, l⟩
  have put : one = here → F.lookup other = none → (∀ y, W.lookup other = some y → m + w < y) → DInv R s F (putI W other (m + w)) fun u v => see u v ∨ (u = here ∧ (u, v) = (one, other)) := fun eo ef less => by
    subst eo
    have keep : ∀ v y, W.lookup v = some y → ∃ y', (putI W other (m + w)).lookup v = some y' ∧ y' ≤ y := fun v y h => by
      rw [lk_put]
      by_cases e : v = other
      · rw [if_pos e]
        rw [e] at h
        exact ⟨_, rfl, by have := less y h; omega⟩
      · rw [if_neg e]
        exact ⟨y, h, Int.le_refl _⟩
    refine ⟨I.ndF, nd_put I.ndW _ _, fun v x y h1 h2 => ?_, I.sndF, fun v x h => ?_, fun u x v w' h1 h2 h3 => ?_, I.srt, fun p hp v y h => ?_, ?_⟩
    · rw [lk_put] at h2
      by_cases e : v = other
      · rw [e, ef] at h1
        cases h1
      · rw [if_neg e] at h2
        exact I.dis _ _ _ h1 h2
    · rw [lk_put] at h
      by_cases e : v = other
      · rw [if_pos e] at h
        cases h
        rw [e]
        exact .snoc (I.sndF _ _ hF) re
      · rw [if_neg e] at h
        exact I.sndW _ _ h
    · rcases h3 with h3 | ⟨rfl, h3⟩
      · rcases I.clo u x v w' h1 h2 h3 with z | ⟨y, e, l⟩
        · exact .inl z
        · obtain ⟨y', e', l'⟩ := keep v y e
          exact .inr ⟨y', e', by omega⟩
      · cases h3
        rw [re] at h2
        cases h2
        rw [hF] at h1
        cases h1
        exact .inr ⟨_, by rw [lk_put, if_pos rfl], Int.le_refl _⟩
    · rw [lk_put] at h
      by_cases e : v = other
      · rw [if_pos e] at h
        cases h
        exact .inl (by have := top p hp; show p.2 < m + w; omega)
      · rw [if_neg e] at h
        exact I.low p hp v y h
    · rcases I.st with h | h
      · exact .inl h
      · refine .inr ?_
        rw [lk_put]
        by_cases e : s = other
        · have := less 0 (by rw [← e]; exact h)
          omega
        · rw [if_neg e]; exact h
  show DInv R s F (if one = here ∧ F.lookup other = none then _ else W) _
  by_cases c : one = here ∧ F.lookup other = none
  · rw [if_pos c]
    cases ew : W.lookup other with
    | none => exact put c.1 c.2 fun y z => by rw [ew] at z; cases z
    | some y =>
      show DInv R s F (if m + w < y then _ else W) _
      by_cases l : m + w < y
      · rw [if_pos l]
        exact put c.1 c.2 fun y' z => by rw [ew] at z; cases z; exact l
      · rw [if_neg l]
        exact same (fun _ _ => ⟨y, ew, by omega⟩) rfl
  · rw [if_neg c]
    exact same (fun a b => (c ⟨a, b⟩).elim) rfl
/-- all streets from here -/
theorem DInv.relaxAll {R : Rs} {s here : Str} {m : Int} {F : Fs} (nd : (R.map (·.1)).Nodup) (pos : ∀ p m, R.lookup p = some m → 1 ≤ m) (hF : F.lookup here = some m) (top : ∀ p ∈ F, p.2 ≤ m) : ∀ (es : Rs) (W : Fs) (see : Str → Str → Prop), (∀ e ∈ es, e ∈ R) → DInv R s F W see →
    DInv R s F (es.foldl (rlx here m F) W) fun u v => see u v ∨ (u = here ∧ (u, v) ∈ es.map (·.1))
  | [], W, see, _, I => by
    have e : (fun u v => see u v ∨ (u = here ∧ (u, v) ∈ ([] : Rs).map (·.1))) = see := by
      funext u v
      simp
    rw [e]
    exact I
  | e :: es, W, see, h, I => by
    have I1 := I.relax (e := e) pos (Rlook nd (h e List.mem_cons_self)) hF top
    have I2 := relaxAll nd pos hF top es _ _ (fun x hx => h x (List.mem_cons_of_mem _ hx)) I1
    refine ⟨I2.ndF, I2.ndW, I2.dis, I2.sndF, I2.sndW, fun u x v w h1 h2 h3 => I2.clo u x v w h1 h2 ?_, I2.srt, I2.low, I2.st⟩
    rcases h3 with h3 | ⟨h3, h4⟩
    · exact .inl (.inl h3)
    · rw [List.map_cons] at h4
      rcases List.mem_cons.mp h4 with z | z
      · exact .inl (.inr ⟨h3, z⟩)
      · exact .inr ⟨h3, z⟩
theorem DInv.next {R : Rs} {s here : Str} {m : Int} {F W : Fs} (nd : (R.map (·.1)).Nodup) (pos : ∀ p m, R.lookup p = some m → 1 ≤ m) (I : DInv R s F W fun _ _ => True) (hm : W.lookup here = some m) (least : ∀ v y, W.lookup v = some y → v ≠ here → ltP (here, m) (v, y)) :
    DInv R s (F ++ [(here, m)]) (R.foldl (rlx here m (F ++ [(here, m)])) (W.filter fun q => decide (q.1 ≠ here))) fun _ _ => True := by
  have I1 := I.pop hm least
  have hF : (F ++ [(here, m)]).lookup here = some m := mem_lk I1.ndF (List.mem_append_right _ (List.mem_singleton.mpr rfl))
  have top : ∀ p ∈ F ++ [(here, m)], p.2 ≤ m := fun p hp => by
    rcases List.mem_append.mp hp with hp | hp
    · exact ltP_le (I.low p hp _ _ hm)
    · rw [List.mem_singleton.mp hp]; exact Int.le_refl _
  have I2 := DInv.relaxAll nd pos hF top R _ _ (fun _ h => h) I1
  refine ⟨I2.ndF, I2.ndW, I2.dis, I2.sndF, I2.sndW, fun u x v w h1 h2 _ => I2.clo u x v w h1 h2 ?_, I2.srt, I2.low, I2.st⟩
  by_cases e : u = here
  · exact .inr ⟨e, List.mem_map.mpr ⟨_, lookR h2, rfl⟩⟩
  · exact .inl e
/-- a table of least minutes -/
structure Times (R : Rs) (s : Str) (F : Fs) : Prop where
  nd : (F.map (·.1)).Nodup
  snd : ∀ v x, F.lookup v = some x → Way R s v x
  all : ∀ v x, Way R s v x → ∃ y, F.lookup v = some y ∧ y ≤ x
theorem DInv.done {R : Rs} {s : Str} {F : Fs} (I : DInv R s F [] fun _ _ => True) : Times R s F := by
  refine ⟨I.ndF, I.sndF, fun v x h => ?_⟩
  induction h with
  | nil =>
    rcases I.st with h | h
    · exact ⟨0, h, Int.le_refl _⟩
    · cases h
  | snoc _ e ih =>
    obtain ⟨y, h1, h2⟩ := ih
    rcases I.clo _ _ _ _ h1 e trivial with ⟨z, h3, h4⟩ | ⟨z, h3, _⟩
    · exact ⟨z, h3, by omega⟩
    · cases h3
/-- two tables of least minutes say the same -/
theorem Times.same {R : Rs} {s : Str} {F F' : Fs} (a : Times R s F) (b : Times R s F') (v : Str) : F.lookup v = F'.lookup v := by
  have half : ∀ {A B : Fs}, Times R s A → Times R s B → ∀ x, A.lookup v = some x → ∃ y, B.lookup v = some y ∧ y ≤ x := fun ta tb x h => tb.all _ _ (ta.snd _ _ h)
  cases e : F.lookup v with
  | none =>
    cases e' : F'.lookup v with
    | none => rfl
    | some y =>
      obtain ⟨z, h, _⟩ := half b a y e'
      rw [e] at h
      cases h
  | some x =>
    obtain ⟨y, h, l⟩ := half a b x e
    obtain ⟨z, h', l'⟩ := half b a y h
    rw [e] at h'
    cases h'
    rw [h, show y = x by omega]
end K1
namespace K1
open PySem PySem.Spec PyProof.Rows L2 Fy
open GxR (TabG Tabbed)
abbrev tkf (F : Fs) : List (Key × V) := F.map fun p => ((Sum.inr p.1 : Key), V.int p.2)
theorem val_tkf {F : Fs} {n : Str} : valV (tkf F) (Sum.inr n) = (F.lookup n).map V.int := by
  induction F with
  | nil => rfl
  | cons q r ih =>
    obtain ⟨k, x⟩ := q
    rw [lk_cons]
    by_cases e : n = k
    · rw [if_pos e, e]
      exact valV_pos rfl
    · rw [if_neg e, ← ih]
      exact valV_neg (fun z => e (Sum.inr.inj z).symm)
theorem put_tkf {F : Fs} {n : Str} {x : Int} : putK (tkf F) (Sum.inr n) (.int x) = tkf (putI F n x) := by
  unfold putK putI
  have e : ((tkf F).any fun kv => decide (kv.1 = Sum.inr n)) = (F.lookup n).isSome := by
    rw [valV_any, val_tkf, Option.isSome_map]
  rw [e]
  split
  · show (F.map _).map _ = (F.map _).map _
    rw [List.map_map, List.map_map]
    refine List.map_congr_left fun q _ => ?_
    by_cases z : q.1 = n
    · simp [z]
    · have : ¬ (Sum.inr q.1 : Key) = Sum.inr n := fun h => z (Sum.inr.inj h)
      simp only [Function.comp_apply, if_neg z]
      exact if_neg this
  · show F.map _ ++ _ = (F ++ _).map _
    rw [List.map_append] <;> rfl
theorem drop_tkf {F : Fs} {n : Str} : dropK (tkf F) (Sum.inr n) = tkf (F.filter fun q => decide (q.1 ≠ n)) := by
  unfold dropK
  rw [List.filter_map]
  congr 1
  refine List.filter_congr fun q _ => ?_
  show decide ((Sum.inr q.1 : Key) ≠ Sum.inr n) = decide (q.1 ≠ n)
  by_cases z : q.1 = n
  · rw [z]; simp
  · rw [decide_eq_true z, decide_eq_true (show (Sum.inr q.1 : Key) ≠ Sum.inr n from fun h => z (Sum.inr.inj h))]
theorem get_tkf {H : Hp} {a : Addr} {F : Fs} {n : Str} (h : H a = some (.dK (tkf F))) : DGet H a (.str n) ((F.lookup n).map V.int) := by
  have := DGet.k (k := Sum.inr n) h
  rw [val_tkf] at this
  exact this
theorem putI_len (F : Fs) (n : Str) (x : Int) : (putI F n x).length ≤ F.length + 1 := by
  unfold putI
  split
  · rw [List.length_map]; omega
  · rw [List.length_append] <;> exact Nat.le_refl _
/-- names of corners are so many -/
theorem fs_len {cs : List Str} {F : Fs} (nd : (F.map (·.1)).Nodup) (h : ∀ v x, F.lookup v = some x → v ∈ cs) : F.length ≤ cs.length := by
  have : (F.map (·.1)).length ≤ cs.length := by
    have : ∀ (l m : List Str), l.Nodup → (∀ x ∈ l, x ∈ m) → l.length ≤ m.length := by
      intro l
      induction l with
      | nil => intro _ _ _; exact Nat.zero_le _
      | cons x r ih =>
        intro m nd hs
        obtain ⟨h1, h2⟩ := List.nodup_cons.mp nd
        have := ih (m.erase x) h2 fun y hy => (List.mem_erase_of_ne (fun z => h1 (by rw [← z]; exact hy))).mpr (hs y (List.mem_cons_of_mem _ hy))
        rw [List.length_erase_of_mem (hs x List.mem_cons_self)] at this
        have pos : 0 < m.length := List.length_pos_of_mem (hs x List.mem_cons_self)
        rw [List.length_cons]
        omega
    refine this _ _ nd fun v hv => ?_
    obtain ⟨q, hq, e⟩ := List.mem_map.mp hv
    exact h v q.2 (by rw [← e]; exact mem_lk nd hq)
  rw [List.length_map] at this
  exact this
def sp_Town_times (K : PySem.W.Frag) : Sp := fun vs H Q E => ∃ (t c d : Addr) (cs : List Str) (R : Rs) (n : Str), vs = [.ref t, .str n] ∧ TownAt (CTwn K) H t c d cs R ∧ WfT cs R ∧ Tb (TL K) (TG K) H ∧ (n ∉ cs → E (.ref (SErr K)) none H) ∧
  (n ∈ cs → ∀ F p H', Times R n F → F.Pairwise ltP → (∀ v x, F.lookup v = some x → v ∈ cs) → H p = none → H' p = some (.dK (tkf F)) → Go (TL K) (TG K) (fun _ => False) H H' → Q (.ref p) H')
section
variable {P : Program} {w : World} {K : PySem.W.Frag} {mg : Str → Option Value} {base : Heap}
abbrev N_Town_times : List Str := ["self", "start", "found", "rows", "minutes", "here", "one", "other", "far", "corner"]
theorem sc_Town_times : FnScope N_Town_times ["self", "start"] d_Town_times.scope := ⟨rfl, rfl, rfl, by decide +kernel, rfl, by decide +kernel, by decide +kernel⟩
theorem ok_Town_times (T : Txt K mg base) : Good P w K mg base 2 (He.fAd K d_Town_times.at_) ["self", "start"] [] (sp_Town_times K) := by
  refine good_of0 T.fn_Town_times sc_Town_times rfl rfl (fun _ _ _ _ _ _ us hl => match us, hl with | [_, _], _ => rfl) (fun vs H Q E h => ?_) (fun A outer s H vs Q E hr h => ?_)
  · obtain ⟨t, c, d, cs, R, n, rfl, _⟩ := h
    rfl
  · obtain ⟨t, c, d, cs, R, n, rfl, h⟩ := h
    have hu := hu_of hr
    have cl_Town := T.cl_Town
    have no_Town_corners := T.no_Town_corners
    have no_Town_streets := T.no_Town_streets
    refine ⟨_, (pss_cons (ps_expr (pg_meth (ok_Town_check T) (hr.mono (by decide)) T.cl_Town T.me_Town_check px (pv 0) (pa_cons (pv 1) pa_nil)))
    (pss_cons (ps_asg (pe_tup (pa_cons pe_dnewK (pa_cons (pe_disp (pps_cons (pv 1) pe_int pps_nil) (by rfl) (by rfl) (fun z => by cases z) (by decide)) pa_nil))) (pg_tup rfl (pgs_cons (pg_name (i := 2) sc_Town_times.nd rfl (by first | exact Or.inl rfl | exact Or.inr rfl)) (pgs_cons (pg_name (i := 3) sc_Town_times.nd rfl (by first | exact Or.inl rfl | exact Or.inr rfl)) pgs_nil))))
    (pss_cons (ps_while (passes_of rfl) (pt_cmpR (op_neD0 (u65 hr)) (pv 3) pe_dnewK (nomark _)) (pss_cons (ps_asg (pe_genBH (i := 9) (tk_minT (Nat.lt_of_le_of_lt (Nat.add_le_add_left (by decide) _) (u65 hr))) (by rfl) T.fr_min (by decide +kernel) hr T.tb_Town_times rfl sc_Town_times.nd rfl (genS_by (N := N_Town_times) (sc := d_Town_times.scope) (by decide +kernel)) (pv 3) (fun _ _ _ => qts_nil) (fun _ _ _ => (q_tupN (q_get (q_var 3) (q_var 9)) (q_var 9))) (fun _ => rfl)) (pg_tup rfl (pgs_cons (pg_name (i := 4) sc_Town_times.nd rfl (by first | exact Or.inl rfl | exact Or.inr rfl)) (pgs_cons (pg_name (i := 5) sc_Town_times.nd rfl (by first | exact Or.inl rfl | exact Or.inr rfl)) pgs_nil))))
      (pss_cons (ps_dput hu (pv 2) (pv 5) (pe_dpop1 (pv 3) (pv 5) ⟨by rfl, by rfl, by rfl, by rfl⟩) rfl)
      (pss_one (ps_lock (ps_for (passes_of rfl) rfl (pi_keys (pe_fld (pv 0) rfl)) (pg_tup rfl (pgs_cons (pg_name (i := 6) sc_Town_times.nd rfl (by first | exact Or.inl rfl | exact Or.inr rfl)) (pgs_cons (pg_name (i := 7) sc_Town_times.nd rfl (by first | exact Or.inl rfl | exact Or.inr rfl)) pgs_nil))) (pss_one (ps_if (PW.pt (pw_and (pt_cmpR op_eq (pv 6) (pv 5) (nomark _)) (pw_and1 (pt_cmp (pc_dnotin hu (pv 7) (pv 2)))))) (pss_cons (ps_set (i := 8) sc_Town_times.nd rfl (by first | exact Or.inl rfl | exact Or.inr rfl) (pe_op op_add (pv 4) (pe_dget hu (pe_fld (pv 0) rfl) (pe_tup (pa_cons (pv 6) (pa_cons (pv 7) pa_nil))) (fun _ _ => rfl))))
          (pss_one (ps_if (PW.pt (pw_or (pt_cmp (pc_dnotin hu (pv 7) (pv 3))) (pw_or1 (pt_cmpR op_lt (pv 8) (pe_dget hu (pv 3) (pv 7) (fun _ _ => rfl)) (nomark _))))) (pss_one (ps_dput hu (pv 3) (pv 7) (pv 8) rfl)) pss_nil))) pss_nil))))))))
    (pss_one (ps_ret (pv 2)))))), ?_⟩
    obtain ⟨D, wf, tb, k1, k2⟩ := h
    obtain ⟨⟨dx, h1⟩, h2, h3⟩ := id D
    walk_at "v"
    refine ⟨_, _, _, rfl, h1, rfl, ?_⟩
    walk_at "v"
    refine ⟨t, c, d, cs, R, n, rfl, D, k1, fun hn => ?_⟩
    refine fun fd hfd => ?_
    refine fun rd hrd => ?_
    walk_at "v"
    refine ⟨upd_same, [((Sum.inr n : Key), V.int 0)], rfl, (by show 1 ≤ 15; decide), ?_⟩
    have em : mergeK [] [((Sum.inr n : Key), V.int 0)] = tkf [(n, 0)] := mergeK_nodup _ _ (by simp)
    rw [em, upd_upd]
    have nfr : fd ≠ rd := ne_of_none upd_same hrd
    have ga : Go (TL K) (TG K) (fun _ => False) H (upd (upd H fd (.dK [])) rd (.dK (tkf [(n, 0)]))) := (Go.new hfd).trans (Go.new hrd)
    have ffr : H rd = none := (upd_none.mp hrd).2
    have c1 : upd (upd H fd (.dK [])) rd (.dK (tkf [(n, 0)])) fd = some (.dK (tkf [])) := by rw [upd_ne nfr]; exact upd_same
    have c2 : upd (upd H fd (.dK [])) rd (.dK (tkf [(n, 0)])) rd = some (.dK (tkf [(n, 0)])) := upd_same
    generalize upd (upd H fd (.dK [])) rd (.dK (tkf [(n, 0)])) = Ha at ga c1 c2 ⊢
    refine ⟨(by show 2 ≤ sizeLine; decide), fun tp htp => ?_⟩
    have gb := ga.trans (Go.new (o := .tup [.ref fd, .ref rd]) htp)
    have etp : upd Ha tp (.tup [.ref fd, .ref rd]) tp = some (.tup [.ref fd, .ref rd]) := upd_same
    have d1 : upd Ha tp (.tup [.ref fd, .ref rd]) fd = some (.dK (tkf [])) := by rw [upd_ne (ne_of_none c1 htp)]; exact c1
    have d2 : upd Ha tp (.tup [.ref fd, .ref rd]) rd = some (.dK (tkf [(n, 0)])) := by rw [upd_ne (ne_of_none c2 htp)]; exact c2
    generalize upd Ha tp (.tup [.ref fd, .ref rd]) = H3 at gb etp d1 d2 ⊢
    refine ⟨tp, _, rfl, SqT.of etp, rfl, _, _, rfl, _, _, rfl, rfl, ?_⟩
    clear em ga c1 c2 etp
    have pos : ∀ p m, R.lookup p = some m → 1 ≤ m := fun p m e => (wf.ends _ (lookR e)).2.2.2.1
    have kin : ∀ {H' : Hp} {b : Addr} {u : HO}, Go (TL K) (TG K) (fun a => a = fd ∨ a = rd) H3 H' → H b = some u → NoT u → H' b = some u := fun {H' b u} g e n => by
      refine g.keep _ _ (gb.keep _ _ e n id) n fun z => ?_
      rcases z with z | z
      · rw [z, hfd] at e; cases e
      · rw [z, ffr] at e; cases e
    have Dof : ∀ {H' : Hp}, Go (TL K) (TG K) (fun a => a = fd ∨ a = rd) H3 H' → TownAt (CTwn K) H' t c d cs R := fun g => ⟨⟨dx, kin g h1 (by intro _ z; cases z)⟩, kin g h2 (by intro _ z; cases z), kin g h3 (by intro _ z; cases z)⟩
    have tbO : ∀ {H' : Hp}, Go (TL K) (TG K) (fun a => a = fd ∨ a = rd) H3 H' → Tb (TL K) (TG K) H' := fun g => g.tb (gb.tb tb)
    refine ⟨fun μ σ H' => ∃ (F W : Fs) (x4 x5 x6 x7 x8 x9 : Option V), μ = cs.length - F.length ∧ DInv R n F W (fun _ _ => True) ∧ (∀ v x, F.lookup v = some x → v ∈ cs) ∧ (∀ v x, W.lookup v = some x → v ∈ cs) ∧ H' fd = some (.dK (tkf F)) ∧ H' rd = some (.dK (tkf W)) ∧ Go (TL K) (TG K) (fun a => a = fd ∨ a = rd) H3 H' ∧
      σ = [some (.ref t), some (.str n), some (.ref fd), some (.ref rd), x4, x5, x6, x7, x8, x9], ⟨_, [], [(n, 0)], _, _, _, _, _, _, rfl, DInv.start R n, (fun _ _ z => by cases z), (fun v x z => ?_), d1, d2, .refl, rfl⟩, ?_⟩
    · rw [lk_cons] at z
      by_cases e : v = n
      · rw [e]; exact hn
      · rw [if_neg e] at z
        cases z
    rintro μ σ H4 ⟨F, W, x4, x5, x6, x7, x8, x9, rfl, I, cF, cW, e1, e2, g4, rfl⟩
    walk_at "v"
    refine fun p0 hp0 => ?_
    have n2 := ne_of_none e2 hp0
    refine ⟨rd, p0, tkf W, rfl, rfl, (by rw [upd_ne n2]; exact e2), upd_same, ?_⟩
    refine ⟨_, rfl, ?_⟩
    have g5 := g4.trans (Go.new (o := .dK []) hp0)
    have e3 : upd H4 p0 (.dK []) fd = some (.dK (tkf F)) := by rw [upd_ne (ne_of_none e1 hp0)]; exact e1
    have e4 : upd H4 p0 (.dK []) rd = some (.dK (tkf W)) := by rw [upd_ne n2]; exact e2
    generalize upd H4 p0 (.dK []) = H5 at g5 e3 e4 ⊢
    cases eW : W with
    | nil =>
      rw [eW] at I
      refine iteF' (by simp) ?_
      walk_at "v"
      exact k2 hn F fd H5 I.done I.srt cF hfd e3 ((gb.wide.trans g5).drop fun b z => .inr (by rcases z with z | z
                                                                                              · rw [z]; exact hfd
                                                                                              · rw [z]; exact ffr))
    | cons q0 r0 =>
      rw [← eW]
      refine iteT' (by rw [eW]; simp) ?_
      refine ⟨_, fun σ' H' q => q, ?_⟩
      have tb5 := tbO g5
      walk_at "v"
      refine ⟨tb5.gen _ T.tg_Town_times, W.map fun p => V.str p.1, ⟨rd, rfl, .inr (.inr ⟨_, .inl e4, by rw [List.map_map]; rfl⟩)⟩, fun H6 hT6 => ?_⟩
      have gx : Go (TL K) (TG K) (fun _ => False) H5 H6 := Go.tab hT6 (tb5.gen _ T.tg_Town_times) T.tg_Town_times T.td_Town_times
      have g6 := g5.trans gx.wide
      have e5 := gx.get e3
      have e6 := gx.get e4
      refine ⟨fun _ => true, fun x => match x with | .str v => [.int ((W.lookup v).getD 0), .str v] | _ => [], fun x hx => rfl, fun x hx _ => ?_, W.map fun p => (p.2, p.1), ?_, (by rw [eW]; simp), fun best hb least p1 hp1 => ?_⟩
      · obtain ⟨p, hp, rfl⟩ := List.mem_map.mp hx
        have ew : W.lookup p.1 = some p.2 := mem_lk I.ndW hp
        walk_at "v"; walk_at "v"
        refine ⟨_, _, Sum.inr p.1, _, rfl, rfl, .inl e6, (by rw [val_tkf, ew] <;> rfl), ?_⟩
        refine ⟨_, rfl, _, _, rfl, rfl, ?_⟩
        show QV.t [.int p.2, .str p.1] = QV.t [.int ((W.lookup p.1).getD 0), .str p.1]
        rw [ew] <;> rfl
      · rw [List.filter_eq_self.mpr fun _ _ => rfl, List.map_map, List.map_map]
        refine List.map_congr_left fun p hp => ?_
        have ew : W.lookup p.1 = some p.2 := mem_lk I.ndW hp
        show [V.int ((W.lookup p.1).getD 0), V.str p.1] = [.int p.2, .str p.1]
        rw [ew] <;> rfl
      obtain ⟨⟨here, m⟩, hb2, rfl⟩ := List.mem_map.mp hb
      have hm : W.lookup here = some m := mem_lk I.ndW hb2
      have lst : ∀ v y, W.lookup v = some y → v ≠ here → ltP (here, m) (v, y) := fun v y hv nv => by
        have h1 := least (y, v) (List.mem_map.mpr ⟨(v, y), lk_mem hv, rfl⟩)
        have h1 : ltD (isD (y, v)) (isD (m, here)) = false := h1
        rw [ltD_isD, Bool.or_eq_false_iff, Bool.and_eq_false_iff] at h1
        obtain ⟨a1, a2⟩ := h1
        have a1 : ¬ y < m := of_decide_eq_false a1
        by_cases e : m < y
        · exact .inl e
        · have eq : m = y := by omega
          refine .inr ⟨eq, ?_⟩
          have a3 : strLt v here = false := a2.resolve_left (by rw [decide_eq_true (show y = m from eq.symm)]; decide)
          cases a4 : strLt here v with
          | true => rfl
          | false => exact absurd (strLt_tri a3 a4) nv
      have I2 := I.next wf.nd pos hm lst
      have g7 := g6.trans (Go.new (o := .tup (isV (m, here))) hp1)
      have e7 : upd H6 p1 (.tup (isV (m, here))) fd = some (.dK (tkf F)) := by rw [upd_ne (ne_of_none e5 hp1)]; exact e5
      have e8 : upd H6 p1 (.tup (isV (m, here))) rd = some (.dK (tkf W)) := by rw [upd_ne (ne_of_none e6 hp1)]; exact e6
      have e9 : upd H6 p1 (.tup (isV (m, here))) p1 = some (.tup [.int m, .str here]) := upd_same
      generalize upd H6 p1 (.tup (isV (m, here))) = H7 at g7 e7 e8 e9 ⊢
      refine ⟨p1, _, rfl, SqT.of e9, rfl, _, _, rfl, _, _, rfl, rfl, ?_⟩
      walk_at "v"; walk_at "v"
      refine ⟨.inl ⟨_, .inl e8⟩, ?_⟩
      walk_at "v"
      refine ⟨tkf W, Sum.inr here, .int m, e8, rfl, (by rw [val_tkf, hm] <;> rfl), ?_⟩
      rw [drop_tkf]
      have e10 : upd H7 rd (.dK (tkf (W.filter fun q => decide (q.1 ≠ here)))) fd = some (.dK (tkf F)) := by rw [upd_ne nfr]; exact e7
      have g8 := g7.trans (Go.set (o := .dK (tkf (W.filter fun q => decide (q.1 ≠ here)))) e8 plain_dK (.inr rfl))
      walk_at "v"; walk_at "v"
      have e11 : upd H7 rd (.dK (tkf (W.filter fun q => decide (q.1 ≠ here)))) rd = some (.dK (tkf (W.filter fun q => decide (q.1 ≠ here)))) := upd_same
      generalize upd H7 rd (.dK (tkf (W.filter fun q => decide (q.1 ≠ here)))) = H8 at e10 e11 g8 ⊢
      have lF : F.length ≤ 80 := Nat.le_trans (fs_len I.ndF cF) wf.lenc
      refine ⟨fd, _, rfl, DPut.k (k := Sum.inr here) e10 (by rw [List.length_map]; exact Nat.lt_of_le_of_lt lF (by decide)), ?_⟩
      have fh : F.lookup here = none := by
        cases e : F.lookup here with
        | none => rfl
        | some x => exact (I.dis _ _ _ e hm).elim
      have ep : putI F here m = F ++ [(here, m)] := by
        unfold putI
        rw [if_neg (by rw [fh]; simp)]
      rw [put_tkf, ep]
      have g9 := g8.trans (Go.set (o := .dK (tkf (F ++ [(here, m)]))) e10 plain_dK (.inl rfl))
      have e12 : upd H8 fd (.dK (tkf (F ++ [(here, m)]))) fd = some (.dK (tkf (F ++ [(here, m)]))) := upd_same
      have e13 : upd H8 fd (.dK (tkf (F ++ [(here, m)]))) rd = some (.dK (tkf (W.filter fun q => decide (q.1 ≠ here)))) := by rw [upd_ne nfr.symm]; exact e11
      generalize upd H8 fd (.dK (tkf (F ++ [(here, m)]))) = H9 at e12 e13 g9 ⊢
      clear e10 e11 e7 e8 g8 g7
      have D9 := Dof g9
      obtain ⟨⟨dx9, q1⟩, q2, q3⟩ := id D9
      refine ⟨d, _, q3, trivial, fun od => ?_⟩
      have ntd : t ≠ d := ne_of q1 q3 (by intro z; cases z)
      have nfd : fd ≠ d := ne_of e12 q3 (by intro z; cases z)
      have nrd : rd ≠ d := ne_of e13 q3 (by intro z; cases z)
      walk_at "v"
      refine ⟨_, _, _, _, _, rfl, (by rw [upd_ne ntd]; exact q1), T.cl_Town, T.no_Town_streets, rfl, ?_⟩
      have gl : Go (TL K) (TG K) (fun a => a = d) H9 (upd H9 d (.frz od (.dT (kvT R)))) := Go.set q3 plain_dT rfl
      have l1 : upd H9 d (.frz od (.dT (kvT R))) d = some (.frz od (.dT (kvT R))) := upd_same
      have l2 : upd H9 d (.frz od (.dT (kvT R))) fd = some (.dK (tkf (F ++ [(here, m)]))) := by rw [upd_ne nfd]; exact e12
      have l3 : upd H9 d (.frz od (.dT (kvT R))) rd = some (.dK (tkf (W.filter fun q => decide (q.1 ≠ here)))) := by rw [upd_ne nrd]; exact e13
      have l4 : upd H9 d (.frz od (.dT (kvT R))) t = some (.ins (CTwn K) dx9 (tfs c d)) := by rw [upd_ne ntd]; exact q1
      refine ⟨d, od, rfl, .inr ⟨_, l1, ?_⟩⟩
      have unl : ∀ H', Go (TL K) (TG K) (fun a => a = fd ∨ a = rd) (upd H9 d (.frz od (.dT (kvT R)))) H' → Go (TL K) (TG K) (fun a => a = fd ∨ a = rd) H9 (upd H' d (.dT (kvT R))) := fun H' g => g.unlock q3 plain_dT (g.keep _ _ l1 (by intro _ z; cases z) fun z => z.elim (fun z => nfd z.symm) fun z => nrd z.symm)
      generalize upd H9 d (.frz od (.dT (kvT R))) = Hl at gl l1 l2 l3 l4 unl ⊢
      refine for_foldT (fun e => (kT e.1, V.int e.2)) R rfl (rlx here m (F ++ [(here, m)])) (W.filter fun q => decide (q.1 ≠ here))
        (fun W' σ H' => (∃ x6 x7 x8 x9, σ = [some (.ref t), some (.str n), some (.ref fd), some (.ref rd), some (.int m), some (.str here), x6, x7, x8, x9]) ∧ H' rd = some (.dK (tkf W')) ∧ (W'.map (·.1)).Nodup ∧ (∀ v x, W'.lookup v = some x → v ∈ cs) ∧ Go (TL K) (TG K) (fun a => a = fd ∨ a = rd) Hl H' ∧ H' fd = some (.dK (tkf (F ++ [(here, m)]))))
        ⟨⟨_, _, _, _, rfl⟩, l3, nd_del I.ndW here, (fun v x z => ?_), .refl, l2⟩ (fun W' σ H' h => h.2.2.2.2.1.keep _ _ l1 ?_ ?_) ?_ ?_
      · rw [lk_del] at z
        by_cases e : v = here
        · rw [if_pos e] at z; cases z
        · rw [if_neg e] at z; exact cW v x z
      · intro _ z; cases z
      · exact fun z => z.elim (fun z => nfd z.symm) fun z => nrd z.symm
      · rintro pre ⟨⟨one, other⟩, w⟩ post σ H10 q eR ⟨⟨x6, x7, x8, x9, rfl⟩, r1, r2, r3, g10, r4⟩ eq
        have inR : ((one, other), w) ∈ R := by rw [eR]; simp
        have re : R.lookup (one, other) = some w := Rlook wf.nd inR
        generalize pre.foldl (rlx here m (F ++ [(here, m)])) (W.filter fun q => decide (q.1 ≠ here)) = W1 at r1 r2 r3 ⊢
        have lW : W1.length ≤ 80 := Nat.le_trans (fs_len r2 r3) wf.lenc
        have eq : H10 q = some (.tup [.str one, .str other]) := eq
        refine ⟨q, _, rfl, SqT.of eq, rfl, _, _, rfl, _, _, rfl, rfl, ?_⟩
        have putOk : ∀ v x, (putI W1 other (m + w)).lookup v = some x → v ∈ cs := fun v x z => by
          rw [lk_put] at z
          by_cases e : v = other
          · rw [e]; exact (wf.ends _ inR).2.1
          · rw [if_neg e] at z; exact r3 v x z
        walk_at "go"
        refine ite2 (fun z => ?_) (fun z => iteF ?_)
        rotate_left
        · have e : rlx here m (F ++ [(here, m)]) W1 ((one, other), w) = W1 := by
            unfold rlx
            rw [if_neg (fun y => z (decide_eq_true (by rw [show one = here from y.1] <;> rfl)))]
          rw [e]
          exact ⟨⟨_, _, _, _, rfl⟩, r1, r2, r3, g10, r4⟩
        have eo : one = here := by simpa using z
        walk_at "v"; walk_at "v"
        refine ⟨fd, _, rfl, get_tkf r4, ?_⟩
        cases el : (F ++ [(here, m)]).lookup other with
        | some y0 =>
          refine ⟨_, rfl, iteF' rfl ?_⟩
          have e : rlx here m (F ++ [(here, m)]) W1 ((one, other), w) = W1 := by
            unfold rlx
            rw [if_neg (fun y => by have := y.2; rw [show (F ++ [(here, m)]).lookup other = none from this] at el; cases el)]
          rw [e]
          exact ⟨⟨_, _, _, _, rfl⟩, r1, r2, r3, g10, r4⟩
        | none =>
          refine ⟨_, rfl, iteT' rfl ?_⟩
          have l10 : H10 d = some (.frz od (.dT (kvT R))) := g10.keep _ _ l1 (by intro _ z; cases z) fun z => z.elim (fun z => nfd z.symm) fun z => nrd z.symm
          have t10 : H10 t = some (.ins (CTwn K) dx9 (tfs c d)) := g10.keep _ _ l4 (by intro _ z; cases z) fun z => z.elim (ne_of l4 l2 (by intro z; cases z)) (ne_of l4 l3 (by intro z; cases z))
          walk_at "v"; walk_at "v"
          refine ⟨_, _, _, _, _, rfl, t10, T.cl_Town, T.no_Town_streets, rfl, ?_⟩
          walk_at "v"; walk_at "v"
          refine ⟨(by show 2 ≤ sizeLine; decide), fun y hy => ?_⟩
          have g11 := g10.trans (Go.new (o := .tup [.str one, .str other]) hy)
          have l11 : upd H10 y (.tup [.str one, .str other]) d = some (.frz od (.dT (kvT R))) := by rw [upd_ne (ne_of_none l10 hy)]; exact l10
          have r11 : upd H10 y (.tup [.str one, .str other]) rd = some (.dK (tkf W1)) := by rw [upd_ne (ne_of_none r1 hy)]; exact r1
          have f11 : upd H10 y (.tup [.str one, .str other]) fd = some (.dK (tkf (F ++ [(here, m)]))) := by rw [upd_ne (ne_of_none r4 hy)]; exact r4
          refine ⟨d, .int w, rfl, .inr ⟨kvT R, kT (one, other), y, .inr ⟨od, l11⟩, rfl, upd_same, (by rw [val_kvT, re] <;> rfl)⟩, ?_⟩
          generalize upd H10 y (.tup [.str one, .str other]) = H11 at g11 l11 r11 f11 ⊢
          have put : rlx here m (F ++ [(here, m)]) W1 ((one, other), w) = putI W1 other (m + w) → ∀ x8 : Option V, (∃ x6 x7 x8' x9', [some (V.ref t), some (.str n), some (.ref fd), some (.ref rd), some (.int m), some (.str here), some (.str one), some (.str other), some (.int (m + w)), x9] = [some (V.ref t), some (.str n), some (.ref fd), some (.ref rd), some (.int m), some (.str here), x6, x7, x8', x9']) ∧
              upd H11 rd (.dK (tkf (putI W1 other (m + w)))) rd = some (.dK (tkf (rlx here m (F ++ [(here, m)]) W1 ((one, other), w)))) ∧ ((rlx here m (F ++ [(here, m)]) W1 ((one, other), w)).map (·.1)).Nodup ∧ (∀ v x, (rlx here m (F ++ [(here, m)]) W1 ((one, other), w)).lookup v = some x → v ∈ cs) ∧ Go (TL K) (TG K) (fun a => a = fd ∨ a = rd) Hl (upd H11 rd (.dK (tkf (putI W1 other (m + w))))) ∧ upd H11 rd (.dK (tkf (putI W1 other (m + w)))) fd = some (.dK (tkf (F ++ [(here, m)]))) := fun e _ => by
            rw [e]
            exact ⟨⟨_, _, _, _, rfl⟩, upd_same, nd_put r2 _ _, putOk, g11.trans (Go.set r11 plain_dK (.inr rfl)), by rw [upd_ne nfr]; exact f11⟩
          refine ⟨_, _, rfl, rfl, ?_⟩
          walk_at "v"; walk_at "v"
          refine ⟨rd, _, rfl, get_tkf r11, _, rfl, ?_⟩
          have lk : W1.length < sizeLine := Nat.lt_of_le_of_lt lW (by decide)
          cases ew : W1.lookup other with
          | none =>
            refine iteT' rfl (iteT' rfl ?_)
            walk_at "v"; walk_at "v"; walk_at "v"
            refine ⟨rd, _, rfl, DPut.k (k := Sum.inr other) r11 (by rw [List.length_map]; exact lk), ?_⟩
            rw [put_tkf]
            refine put ?_ none
            unfold rlx
            rw [if_pos ⟨eo, el⟩]
            show (match W1.lookup other with | none => _ | some y => _) = _
            rw [ew]
          | some y1 =>
            refine iteF' rfl ?_
            walk_at "v"; walk_at "v"; walk_at "v"
            have gd := get_tkf (n := other) r11
            rw [ew] at gd
            refine ⟨rd, .int y1, rfl, gd, ?_⟩
            refine ⟨_, _, rfl, rfl, ?_⟩
            refine ⟨_, rfl, ite2 (fun z => ?_) (fun z => ?_)⟩
            · have lt : m + w < y1 := by simpa using z
              walk_at "v"; walk_at "v"; walk_at "v"
              refine ⟨rd, _, rfl, DPut.k (k := Sum.inr other) r11 (by rw [List.length_map]; exact lk), ?_⟩
              rw [put_tkf]
              refine put ?_ none
              unfold rlx
              rw [if_pos ⟨eo, el⟩]
              show (match W1.lookup other with | none => _ | some y => _) = _
              rw [ew]
              exact if_pos lt
            · have nl : ¬ m + w < y1 := by simpa using z
              have e : rlx here m (F ++ [(here, m)]) W1 ((one, other), w) = W1 := by
                unfold rlx
                rw [if_pos ⟨eo, el⟩]
                show (match W1.lookup other with | none => _ | some y => _) = _
                rw [ew]
                exact if_neg nl
              rw [e]
              exact ⟨⟨_, _, _, _, rfl⟩, r11, r2, r3, g11, f11⟩
      · rintro σ H10 ⟨⟨x6, x7, x8, x9, rfl⟩, r1, r2, r3, g10, r4⟩
        refine ⟨g10.keep _ _ l1 (by intro _ z; cases z) fun z => z.elim (fun z => nfd z.symm) fun z => nrd z.symm, ?_⟩
        have I3 : F.length < (F ++ [(here, m)]).length := by simp
        have cF2 : ∀ v x, (F ++ [(here, m)]).lookup v = some x → v ∈ cs := fun v x z => by
          rw [lk_app] at z
          by_cases e : v = here
          · rw [e]; exact cW _ _ hm
          · rw [if_neg e, Option.or_none] at z
            exact cF v x z
        have l5 := fs_len I2.ndF cF2
        refine ⟨cs.length - (F ++ [(here, m)]).length, by omega, F ++ [(here, m)], _, _, _, _, _, _, _, rfl, I2, cF2, r3, ?_, ?_, g9.trans (unl _ g10), rfl⟩
        · rw [upd_ne nfd]; exact r4
        · rw [upd_ne nrd]; exact r1
end
end K1
namespace K1
open PySem PySem.Spec PyProof.Rows L2 Fy
open GxR (TabG Tabbed)
theorem ltP_total {a b : Str × Int} (h : a.1 ≠ b.1) : ltP a b ∨ ltP b a := by
  rcases Int.lt_trichotomy a.2 b.2 with l | l | l
  · exact .inl (.inl l)
  · cases e : strLt a.1 b.1 with
    | true => exact .inl (.inr ⟨l, e⟩)
    | false =>
      cases e' : strLt b.1 a.1 with
      | true => exact .inr (.inr ⟨l.symm, e'⟩)
      | false => exact absurd (strLt_tri e e') h
  · exact .inr (.inl l)
theorem ltP_trans {a b c : Str × Int} (h : ltP a b) (h' : ltP b c) : ltP a c := by
  rcases h with h | ⟨h, s⟩
  · rcases h' with h' | ⟨h', _⟩
    · exact .inl (by omega)
    · exact .inl (by omega)
  · rcases h' with h' | ⟨h', s'⟩
    · exact .inl (by omega)
    · exact .inr ⟨by omega, strLt_trans s s'⟩
theorem least_ex : ∀ (W : Fs), W ≠ [] → (W.map (·.1)).Nodup → ∃ q ∈ W, ∀ p ∈ W, p.1 ≠ q.1 → ltP q p
  | [], h, _ => (h rfl).elim
  | [q], _, _ => ⟨q, List.mem_singleton.mpr rfl, fun p hp n => by rw [List.mem_singleton.mp hp] at n; exact (n rfl).elim⟩
  | q :: r :: t, _, nd => by
    rw [List.map_cons, List.nodup_cons] at nd
    obtain ⟨m, hm, lm⟩ := least_ex (r :: t) (by simp) nd.2
    have ne : q.1 ≠ m.1 := fun z => nd.1 (by rw [z]; exact List.mem_map.mpr ⟨m, hm, rfl⟩)
    rcases ltP_total ne with l | l
    · refine ⟨q, List.mem_cons_self, fun p hp n => ?_⟩
      rcases List.mem_cons.mp hp with z | z
      · rw [z] at n; exact (n rfl).elim
      · by_cases e : p.1 = m.1
        · have a := mem_lk nd.2 (show (p.1, p.2) ∈ r :: t from z)
          have b := mem_lk nd.2 (show (m.1, m.2) ∈ r :: t from hm)
          rw [e, b] at a
          have : p = m := Prod.ext e (Option.some.inj a).symm
          rw [this]; exact l
        · exact ltP_trans l (lm p z e)
    · refine ⟨m, List.mem_cons_of_mem _ hm, fun p hp n => ?_⟩
      rcases List.mem_cons.mp hp with z | z
      · rw [z]; exact l
      · exact lm p z n
theorem rlx_in {cs : List Str} {here : Str} {m : Int} {F : Fs} : ∀ (es : Rs) (W : Fs), (∀ e ∈ es, e.1.2 ∈ cs) → (∀ v x, W.lookup v = some x → v ∈ cs) → ∀ v x, (es.foldl (rlx here m F) W).lookup v = some x → v ∈ cs
  | [], W, _, h => h
  | e :: es, W, he, h => by
    refine rlx_in es _ (fun x hx => he x (List.mem_cons_of_mem _ hx)) ?_
    have hp : ∀ v x, (putI W e.1.2 (m + e.2)).lookup v = some x → v ∈ cs := fun v x z => by
      rw [lk_put] at z
      by_cases y : v = e.1.2
      · rw [y]; exact he e List.mem_cons_self
      · rw [if_neg y] at z; exact h v x z
    unfold rlx
    split
    · split
      · exact hp
      · split
        · exact hp
        · exact h
    · exact h
theorem times_from {cs : List Str} {R : Rs} (wf : WfT cs R) (n : Str) : ∀ (k : Nat) (F W : Fs), cs.length - F.length ≤ k → DInv R n F W (fun _ _ => True) → (∀ v x, F.lookup v = some x → v ∈ cs) → (∀ v x, W.lookup v = some x → v ∈ cs) → ∃ F', Times R n F'
  | k, F, [], _, I, _, _ => ⟨F, I.done⟩
  | k, F, q :: r, hk, I, cF, cW => by
    have pos : ∀ p m, R.lookup p = some m → 1 ≤ m := fun p m e => (wf.ends _ (lookR e)).2.2.2.1
    obtain ⟨⟨here, m⟩, hq, lq⟩ := least_ex (q :: r) (by simp) I.ndW
    have hm := mem_lk I.ndW hq
    have I2 := I.next wf.nd pos hm fun v y hv nv => lq (v, y) (lk_mem hv) nv
    have cF2 : ∀ v x, (F ++ [(here, m)]).lookup v = some x → v ∈ cs := fun v x z => by
      rw [lk_app] at z
      by_cases e : v = here
      · rw [e]; exact cW _ _ hm
      · rw [if_neg e, Option.or_none] at z
        exact cF v x z
    have l5 := fs_len I2.ndF cF2
    rw [List.length_append] at l5
    have l5 : F.length + 1 ≤ cs.length := l5
    cases k with
    | zero => omega
    | succ k =>
      refine times_from wf n k _ _ ?_ I2 cF2 (rlx_in R _ (fun e he => (wf.ends e he).2.1) fun v x z => ?_)
      · rw [List.length_append]
        show cs.length - (F.length + 1) ≤ k
        omega
      · rw [lk_del] at z
        by_cases e : v = here
        · rw [if_pos e] at z; cases z
        · rw [if_neg e] at z; exact cW v x z
theorem times_ex {cs : List Str} {R : Rs} (wf : WfT cs R) {n : Str} (hn : n ∈ cs) : ∃ F, Times R n F :=
  times_from wf n _ [] [(n, 0)] (Nat.le_refl _) (DInv.start R n) (fun _ _ z => by cases z) fun v x z => by
    rw [lk_cons] at z
    by_cases e : v = n
    · rw [e]; exact hn
    · rw [if_neg e] at z; cases z
open Classical in
noncomputable def far (R : Rs) (a b : Str) : Option Int := if h : ∃ F, Times R a F then h.choose.lookup b else none
theorem far_eq {R : Rs} {a b : Str} {F : Fs} (h : Times R a F) : F.lookup b = far R a b := by
  unfold far
  rw [dif_pos ⟨F, h⟩]
  exact h.same (Exists.choose_spec (⟨F, h⟩ : ∃ F, Times R a F)) b
def sp_Town_minutes (K : PySem.W.Frag) : Sp := fun vs H Q E => ∃ (t c d : Addr) (cs : List Str) (R : Rs) (a b : Str), vs = [.ref t, .str a, .str b] ∧ TownAt (CTwn K) H t c d cs R ∧ WfT cs R ∧ Tb (TL K) (TG K) H ∧ ((b ∉ cs ∨ a ∉ cs) → E (.ref (SErr K)) none H) ∧
  (b ∈ cs → a ∈ cs → ∀ H', Go (TL K) (TG K) (fun _ => False) H H' → Q (oi (far R a b)) H')
section
variable {P : Program} {w : World} {K : PySem.W.Frag} {mg : Str → Option Value} {base : Heap}
abbrev N_Town_minutes : List Str := ["self", "start", "end"]
theorem sc_Town_minutes : FnScope N_Town_minutes ["self", "start", "end"] d_Town_minutes.scope := ⟨rfl, rfl, rfl, by decide +kernel, rfl, by decide +kernel, by decide +kernel⟩
theorem ok_Town_minutes (T : Txt K mg base) : Good P w K mg base 3 (He.fAd K d_Town_minutes.at_) ["self", "start", "end"] [] (sp_Town_minutes K) := by
  refine good_of0 T.fn_Town_minutes sc_Town_minutes rfl rfl (fun _ _ _ _ _ _ us hl => match us, hl with | [_, _, _], _ => rfl) (fun vs H Q E h => ?_) (fun A outer s H vs Q E hr h => ?_)
  · obtain ⟨t, c, d, cs, R, a, b, rfl, _⟩ := h
    rfl
  · obtain ⟨t, c, d, cs, R, a, b, rfl, h⟩ := h
    have hu := hu_of hr
    have cl_Town := T.cl_Town
    have no_Town_corners := T.no_Town_corners
    have no_Town_streets := T.no_Town_streets
    refine ⟨_, (pss_cons (ps_expr (pg_meth (ok_Town_check T) (hr.mono (by decide)) T.cl_Town T.me_Town_check px (pv 0) (pa_cons (pv 2) pa_nil)))
    (pss_one (ps_ret (pe_dget1 hu (pg_meth (ok_Town_times T) (hr.mono (by decide)) T.cl_Town T.me_Town_times px (pv 0) (pa_cons (pv 1) pa_nil)) (pv 2) ⟨by rfl, by rfl, by rfl, by rfl⟩)))), ?_⟩
    obtain ⟨D, wf, tb, k1, k2⟩ := h
    obtain ⟨⟨dx, h1⟩, h2, h3⟩ := id D
    walk_at "v"
    refine ⟨_, _, _, rfl, h1, rfl, ?_⟩
    walk_at "v"
    refine ⟨t, c, d, cs, R, b, rfl, D, fun z => k1 (.inl z), fun hb => ?_⟩
    walk_at "v"
    refine ⟨_, _, _, rfl, h1, rfl, ?_⟩
    walk_at "v"
    refine ⟨t, c, d, cs, R, a, rfl, D, wf, tb, fun z => k1 (.inr z), fun ha F p H1 tm srt cF hp hp1 g1 => ?_⟩
    refine ⟨p, rfl, .inl ⟨_, .inl hp1⟩, ?_⟩
    walk_at "v"
    refine ⟨_, get_tkf hp1, ?_⟩
    have k3 := k2 hb ha H1 g1
    rw [← far_eq tm] at k3
    cases e : F.lookup b with
    | none => rw [e] at k3; exact k3
    | some x => rw [e] at k3; exact k3
end
end K1
namespace K1
open PySem PySem.Spec PyProof.Rows L2 Fy
open GxR (TabG Tabbed)
theorem Way.cons {R : Rs} {a u b : Str} {m y : Int} (e : R.lookup (a, u) = some m) (h : Way R u b y) : Way R a b (m + y) := by
  induction h with
  | nil =>
    have := Way.snoc (Way.nil (R := R) (s := a)) e
    rw [Int.zero_add] at this
    rw [Int.add_zero]
    exact this
  | snoc h e2 ih =>
    have := Way.snoc ih e2
    rw [Int.add_assoc] at this
    exact this
theorem Way.head {R : Rs} {a b : Str} {x : Int} (h : Way R a b x) : (a = b ∧ x = 0) ∨ ∃ u m y, R.lookup (a, u) = some m ∧ Way R u b y ∧ x = m + y := by
  induction h with
  | nil => exact .inl ⟨rfl, rfl⟩
  | @snoc u v x m h e ih =>
    rcases ih with ⟨rfl, rfl⟩ | ⟨u', m', y, h1, h2, rfl⟩
    · exact .inr ⟨v, m, 0, e, .nil, by omega⟩
    · exact .inr ⟨u', m', y + m, h1, .snoc h2 e, by omega⟩
section
variable {cs : List Str} {R : Rs} {a b : Str} {x : Int}
theorem far_way (wf : WfT cs R) (ha : a ∈ cs) (h : far R a b = some x) : Way R a b x := by
  obtain ⟨F, tm⟩ := times_ex wf ha
  rw [← far_eq tm] at h
  exact tm.snd _ _ h
theorem way_far (wf : WfT cs R) (ha : a ∈ cs) (h : Way R a b x) : ∃ y, far R a b = some y ∧ y ≤ x := by
  obtain ⟨F, tm⟩ := times_ex wf ha
  obtain ⟨y, e, l⟩ := tm.all _ _ h
  exact ⟨y, by rw [← far_eq tm]; exact e, l⟩
theorem WfT.pos (wf : WfT cs R) : ∀ p m, R.lookup p = some m → 1 ≤ m := fun p m e => (wf.ends _ (lookR e)).2.2.2.1
theorem far_nonneg (wf : WfT cs R) (ha : a ∈ cs) (h : far R a b = some x) : 0 ≤ x := (far_way wf ha h).nonneg wf.pos
theorem far_self (wf : WfT cs R) (ha : a ∈ cs) : far R a a = some 0 := by
  obtain ⟨y, e, l⟩ := way_far wf ha (Way.nil (R := R) (s := a))
  have := far_nonneg wf ha e
  rw [e, show y = 0 by omega]
/-- a next corner on a quickest way -/
theorem far_next (wf : WfT cs R) (ha : a ∈ cs) (h : far R a b = some x) (ne : a ≠ b) : ∃ u m y, R.lookup (a, u) = some m ∧ u ∈ cs ∧ far R u b = some y ∧ x = m + y := by
  rcases (far_way wf ha h).head with ⟨e, _⟩ | ⟨u, m, y, e, hw, rfl⟩
  · exact (ne e).elim
  have hu : u ∈ cs := (wf.ends _ (lookR e)).2.1
  obtain ⟨y', e', l⟩ := way_far wf hu hw
  obtain ⟨z, ez, lz⟩ := way_far wf ha (Way.cons e (far_way wf hu e'))
  rw [h] at ez
  cases ez
  exact ⟨u, m, y', e, hu, e', by omega⟩
end
/-- the corners that a quickest way may go on to -/
noncomputable def nextsS (R : Rs) (here e : Str) : List Str := (R.filter fun p => decide (p.1.1 = here) && (far R p.1.2 e).isSome).map fun p => p.1.2
noncomputable def goodS (R : Rs) (here e : Str) : List Str := (nextsS R here e).filter fun o => match R.lookup (here, o), far R o e, far R here e with | some m, some y, some x => decide (m + y = x) | _, _, _ => false
theorem goodS_mem {cs : List Str} {R : Rs} {here e o : Str} (wf : WfT cs R) (h : o ∈ goodS R here e) : ∃ m y, R.lookup (here, o) = some m ∧ o ∈ cs ∧ far R o e = some y ∧ far R here e = some (m + y) := by
  unfold goodS at h
  obtain ⟨h1, h2⟩ := List.mem_filter.mp h
  unfold nextsS at h1
  obtain ⟨p, hp, rfl⟩ := List.mem_map.mp h1
  obtain ⟨hp, hq⟩ := List.mem_filter.mp hp
  rw [Bool.and_eq_true] at hq
  have eh : p.1.1 = here := of_decide_eq_true hq.1
  have el : R.lookup (here, p.1.2) = some p.2 := by
    rw [← eh]
    exact Rlook wf.nd hp
  obtain ⟨y, ey⟩ := Option.isSome_iff_exists.mp hq.2
  rw [el, ey] at h2
  cases ex : far R here e with
  | none => rw [ex] at h2; cases h2
  | some x =>
    rw [ex] at h2
    have h2 : p.2 + y = x := of_decide_eq_true h2
    exact ⟨p.2, y, el, (wf.ends _ hp).2.1, ey, by rw [h2]⟩
theorem goodS_ne {cs : List Str} {R : Rs} {here e : Str} {x : Int} (wf : WfT cs R) (hh : here ∈ cs) (h : far R here e = some x) (ne : here ≠ e) : goodS R here e ≠ [] := by
  obtain ⟨u, m, y, e1, hu, e2, rfl⟩ := far_next wf hh h ne
  intro z
  have : u ∈ goodS R here e := by
    unfold goodS
    refine List.mem_filter.mpr ⟨?_, by rw [e1, e2, h]; exact decide_eq_true rfl⟩
    unfold nextsS
    exact List.mem_map.mpr ⟨((here, u), m), List.mem_filter.mpr ⟨lookR e1, by rw [decide_eq_true rfl, e2] <;> rfl⟩, rfl⟩
  rw [z] at this
  cases this
/-- a quickest way, each next corner the least by names -/
inductive Path (R : Rs) (e : Str) : Str → List Str → Prop
  | stop : Path R e e [e]
  | go {a b : Str} {l : List Str} : a ≠ e → b ∈ goodS R a e → (∀ o ∈ goodS R a e, strLt o b = false) → Path R e b l → Path R e a (a :: l)
theorem Path.one {R : Rs} {e a : Str} {l l' : List Str} (h : Path R e a l) (h' : Path R e a l') : l = l' := by
  induction h generalizing l' with
  | stop =>
    cases h' with
    | stop => rfl
    | go n _ _ _ => exact (n rfl).elim
  | go n m ls _ ih =>
    cases h' with
    | stop => exact (n rfl).elim
    | go n' m' ls' p' =>
      have := strLt_tri (ls _ m') (ls' _ m)
      subst this
      rw [ih p']
end K1
namespace K1
open PySem PySem.Spec PyProof.Rows L2 Fy
open GxR (TabG Tabbed)
noncomputable def tabS (R : Rs) (e : Str) (cs : List Str) : Fs := cs.filterMap fun c => (far R c e).map fun x => (c, x)
theorem tabS_lk {R : Rs} {e n : Str} : ∀ (cs : List Str), (tabS R e cs).lookup n = if n ∈ cs then far R n e else none
  | [] => by simp [tabS]
  | c :: t => by
    have ih := tabS_lk (R := R) (e := e) (n := n) t
    unfold tabS at ih ⊢
    rw [List.filterMap_cons]
    cases ef : far R c e with
    | none =>
      show (t.filterMap _).lookup n = _
      rw [ih]
      by_cases h : n = c
      · rw [h, ef, if_pos List.mem_cons_self]; split <;> rfl
      · by_cases h2 : n ∈ t
        · rw [if_pos h2, if_pos (List.mem_cons_of_mem _ h2)]
        · rw [if_neg h2, if_neg (fun z => (List.mem_cons.mp z).elim h h2)]
    | some x =>
      show ((c, x) :: t.filterMap _).lookup n = _
      rw [lk_cons, ih]
      by_cases h : n = c
      · rw [if_pos h, h, ef, if_pos List.mem_cons_self]
      · rw [if_neg h]
        by_cases h2 : n ∈ t
        · rw [if_pos h2, if_pos (List.mem_cons_of_mem _ h2)]
        · rw [if_neg h2, if_neg (fun z => (List.mem_cons.mp z).elim h h2)]
theorem tabS_snoc {R : Rs} {e c : Str} {pre : List Str} : tabS R e (pre ++ [c]) = tabS R e pre ++ (match far R c e with | some x => [(c, x)] | none => []) := by
  unfold tabS
  rw [List.filterMap_append, List.filterMap_cons]
  cases far R c e <;> rfl
theorem tabS_len (R : Rs) (e : Str) (cs : List Str) : (tabS R e cs).length ≤ cs.length := List.length_filterMap_le _ _
theorem atI_last (l : List Str) (x : Str) : atI ((l ++ [x]).map V.str) (-1) = some (.str x) := by
  have e : ixN ((l ++ [x]).map V.str).length (-1) = some l.length := by
    rw [List.length_map, List.length_append]
    unfold ixN
    simp
    omega
  unfold atI
  rw [e]
  simp
noncomputable def nxF (R : Rs) (cur b : Str) (l : List Str) (p : (Str × Str) × Int) : List Str := if p.1.1 = cur ∧ (far R p.1.2 b).isSome = true then l ++ [p.1.2] else l
theorem nxF_fold {R : Rs} {cur b : Str} : ∀ (es : Rs) (l : List Str), es.foldl (nxF R cur b) l = l ++ (es.filter fun p => decide (p.1.1 = cur) && (far R p.1.2 b).isSome).map fun p => p.1.2
  | [], l => by simp
  | e :: es, l => by
    rw [List.foldl_cons, nxF_fold es]
    unfold nxF
    by_cases h : e.1.1 = cur ∧ (far R e.1.2 b).isSome = true
    · rw [if_pos h, List.filter_cons_of_pos (by rw [decide_eq_true h.1, h.2] <;> rfl), List.map_cons, List.append_assoc] <;> rfl
    · rw [if_neg h, List.filter_cons_of_neg (fun z => h (by rw [Bool.and_eq_true] at z; exact ⟨of_decide_eq_true z.1, z.2⟩))]
theorem nxF_len {R : Rs} {cur b : Str} (es : Rs) : (es.foldl (nxF R cur b) []).length ≤ es.length := by
  rw [nxF_fold, List.nil_append, List.length_map]
  exact List.length_filter_le _ _
theorem nxF_all (R : Rs) (cur b : Str) : R.foldl (nxF R cur b) [] = nextsS R cur b := by
  rw [nxF_fold, List.nil_append] <;> rfl
theorem nd_sub_len : ∀ (l m : List Str), l.Nodup → (∀ x ∈ l, x ∈ m) → l.length ≤ m.length
  | [], _, _, _ => Nat.zero_le _
  | x :: r, m, nd, hs => by
    obtain ⟨h1, h2⟩ := List.nodup_cons.mp nd
    have := nd_sub_len r (m.erase x) h2 fun y hy => (List.mem_erase_of_ne (fun z => h1 (by rw [← z]; exact hy))).mpr (hs y (List.mem_cons_of_mem _ hy))
    rw [List.length_erase_of_mem (hs x List.mem_cons_self)] at this
    have pos : 0 < m.length := List.length_pos_of_mem (hs x List.mem_cons_self)
    rw [List.length_cons]
    omega
def wayOk (R : Rs) (cs : List Str) (a b : Str) : Prop := a ∈ cs ∧ b ∈ cs ∧ ∃ x, far R a b = some x
def sp_Town_way (K : PySem.W.Frag) : Sp := fun vs H Q E => ∃ (t c d : Addr) (cs : List Str) (R : Rs) (a b : Str), vs = [.ref t, .str a, .str b] ∧ TownAt (CTwn K) H t c d cs R ∧ WfT cs R ∧ Tb (TL K) (TG K) H ∧
  (¬ wayOk R cs a b → ∀ H', Go (TL K) (TG K) (fun _ => False) H H' → E (.ref (SErr K)) none H') ∧
  (wayOk R cs a b → ∀ l p H', Path R b a l → H p = none → H' p = some (.tup (l.map V.str)) → Go (TL K) (TG K) (fun _ => False) H H' → Q (.ref p) H')
section
variable {P : Program} {w : World} {K : PySem.W.Frag} {mg : Str → Option Value} {base : Heap}
abbrev N_Town_way : List Str := ["self", "start", "end", "table", "corner", "far", "found", "here", "nexts", "one", "other"]
theorem sc_Town_way : FnScope N_Town_way ["self", "start", "end"] d_Town_way.scope := ⟨rfl, rfl, rfl, by decide +kernel, rfl, by decide +kernel, by decide +kernel⟩
theorem ok_Town_way (T : Txt K mg base) : Good P w K mg base 4 (He.fAd K d_Town_way.at_) ["self", "start", "end"] [] (sp_Town_way K) := by
  refine good_of0 T.fn_Town_way sc_Town_way rfl rfl (fun _ _ _ _ _ _ us hl => match us, hl with | [_, _, _], _ => rfl) (fun vs H Q E h => ?_) (fun A outer s H vs Q E hr h => ?_)
  · obtain ⟨t, c, d, cs, R, a, b, rfl, _⟩ := h
    rfl
  · obtain ⟨t, c, d, cs, R, a, b, rfl, h⟩ := h
    have hu := hu_of hr
    have cl_Town := T.cl_Town
    have no_Town_corners := T.no_Town_corners
    have no_Town_streets := T.no_Town_streets
    refine ⟨_, (pss_cons (ps_set (i := 3) sc_Town_way.nd rfl (by first | exact Or.inl rfl | exact Or.inr rfl) pe_dnewK)
    (pss_cons (ps_for (passes_of rfl) rfl (pi_list (pe_fld (pv 0) rfl)) (pg_name (i := 4) sc_Town_way.nd rfl (by first | exact Or.inl rfl | exact Or.inr rfl)) (pss_cons (ps_set (i := 5) sc_Town_way.nd rfl (by first | exact Or.inl rfl | exact Or.inr rfl) (pg_meth (ok_Town_minutes T) (hr.mono (by decide)) T.cl_Town T.me_Town_minutes px (pv 0) (pa_cons (pv 4) (pa_cons (pv 2) pa_nil))))
      (pss_one (ps_if (pt_cmpR op_notN (pv 5) pe_non (nomark _)) (pss_one (ps_dput hu (pv 3) (pv 4) (pv 5) rfl)) pss_nil))))
    (pss_cons (ps_expr (pg_meth (ok_Town_check T) (hr.mono (by decide)) T.cl_Town T.me_Town_check px (pv 0) (pa_cons (pv 1) pa_nil)))
    (pss_cons (ps_if (pt_cmp (pc_dnotin hu (pv 1) (pv 3))) (pss_one (ps_raiseC rfl tkx T.ex_StreetError T.gl_StreetError rfl)) pss_nil)
    (pss_cons (ps_set (i := 6) sc_Town_way.nd rfl (by first | exact Or.inl rfl | exact Or.inr rfl) (pe_lst (pa_cons (pv 1) pa_nil)))
    (pss_cons (ps_while (passes_of rfl) (pt_cmpR op_ne (pe_ix ix_list (pv 6) (pe_un un_neg pe_int) (fun _ _ => rfl)) (pv 2) (nomark _)) (pss_cons (ps_set (i := 7) sc_Town_way.nd rfl (by first | exact Or.inl rfl | exact Or.inr rfl) (pe_ix ix_list (pv 6) (pe_un un_neg pe_int) (fun _ _ => rfl)))
      (pss_cons (ps_lock (ps_setLc (i := 8) (own := [("one", 9), ("other", 10)]) (g := gTup K 2 (gCons (gName 9) (gCons (gName 10) gNil))) rfl sc_Town_way.nd rfl rfl (sw_true rfl rfl rfl (by decide +kernel)) (pi_keys (pe_fld (pv 0) rfl)) (blkOk_by (own := [("one", 9), ("other", 10)]) (N := N_Town_way) (sc := d_Town_way.scope) (by decide +kernel)) (fun _ _ _ _ _ => (pg_tup rfl (pgs_cons (pg_name (i := 9) sc_Town_way.nd rfl (by first | exact Or.inl rfl | exact Or.inr rfl)) (pgs_cons (pg_name (i := 10) sc_Town_way.nd rfl (by first | exact Or.inl rfl | exact Or.inr rfl)) pgs_nil)))) (fun _ _ _ _ _ => pts_one (PW.pt (pw_and (pt_cmpR op_eq (pv 9) (pv 7) (nomark _)) (pw_and1 (pt_cmp (pc_din hu (pv 10) (pv 3))))))) (fun _ _ _ _ _ => (pv 10))))
      (pss_one (ps_expr (pe_bm PySem.F.plainAttrs_list PySem.F.slot_list_append PySem.F.type_list_append mt_append (pv 6) (pa_cons (pe_genB (i := 10) (tk_minS (Nat.lt_of_le_of_lt (Nat.add_le_add_left (by decide) _) (u65 hr))) (by rfl) T.fr_min (by decide +kernel) hr T.tb_Town_way rfl sc_Town_way.nd rfl (genS_by (N := N_Town_way) (sc := d_Town_way.scope) (by decide +kernel)) (pv 8) (fun _ _ _ => qts_one (qt_cmp oq_eq (q_op oq_add (q_getT (q_fld (q_var 0)) (q_tup2 (q_var 7) (q_var 10))) (q_get (q_var 3) (q_var 10))) (q_get (q_var 3) (q_var 7)))) (fun _ _ _ => (q_var 10)) (fun _ => rfl)) pa_nil)))))))
    (pss_one (ps_ret (pe_callTy call_tuple_of (by rfl) T.fr_tuple (by decide +kernel) (pa_cons (pv 6) pa_nil)))))))))), ?_⟩
    obtain ⟨D, wf, tb, k1, k2⟩ := h
    obtain ⟨⟨dx, h1⟩, h2, h3⟩ := id D
    refine fun td htd => ?_
    have g0 := Go.new (TL := TL K) (TG := TG K) (S := fun _ => False) (o := .dK []) htd
    have e0 : upd H td (.dK []) td = some (.dK (tkf (tabS R b []))) := upd_same
    have D0 := D.go g0 id id id
    generalize upd H td (.dK []) = H0 at g0 e0 D0 ⊢
    obtain ⟨⟨dx0, q1⟩, q2, q3⟩ := id D0
    walk_at "v"
    refine ⟨_, _, _, _, _, rfl, q1, T.cl_Town, T.no_Town_corners, rfl, ?_⟩
    have nt : ∀ {b : Addr} {u : HO}, H b = some u → b ≠ td := fun {b u} e z => by rw [z, htd] at e; cases e
    have Dof : ∀ {H' : Hp}, Go (TL K) (TG K) (fun x => x = td) H0 H' → TownAt (CTwn K) H' t c d cs R := fun g => D0.go g (nt h1) (nt h2) (nt h3)
    have gof : ∀ {H' : Hp}, Go (TL K) (TG K) (fun x => x = td) H0 H' → Go (TL K) (TG K) (fun _ => False) H H' := fun g => (g0.wide.trans g).drop fun b z => .inr (by rw [z]; exact htd)
    refine ⟨c, rfl, ⟨_, SqL.of q2⟩, for_fold V.str cs rfl walk_itl (fun (l : List Str) n => l ++ [n]) [] (fun pre σ H' => (∃ x4 x5 : Option V, σ = [some (.ref t), some (.str a), some (.str b), some (.ref td), x4, x5, none, none, none, none, none]) ∧ H' td = some (.dK (tkf (tabS R b pre))) ∧ (pre ≠ [] → b ∈ cs) ∧ Go (TL K) (TG K) (fun x => x = td) H0 H')
      ⟨⟨_, _, rfl⟩, e0, (fun z => (z rfl).elim), .refl⟩ (fun _ σ H' h => SqL.of (h.2.2.2.keep _ _ q2 (by intro _ z; cases z) (nt h2))) ?_ ?_⟩
    · rintro pre n post σ H1 eb ⟨⟨x4, x5, rfl⟩, r1, r2, g1⟩
      have ep : pre.foldl (fun (l : List Str) n => l ++ [n]) [] = pre := by rw [foldl_snoc0, List.nil_append]
      rw [ep] at r1 r2 ⊢
      have hn : n ∈ cs := by rw [eb]; simp
      have D1 := Dof g1
      obtain ⟨⟨dx1, p1⟩, p2, p3⟩ := id D1
      walk_at "v"
      refine ⟨_, _, _, rfl, p1, rfl, ?_⟩
      walk_at "v"; walk_at "v"
      refine ⟨t, c, d, cs, R, n, b, rfl, D1, wf, g1.tb (g0.tb tb), fun z => k1 (fun ok => ?_) _ (gof g1), fun hb _ H2 g2 => ?_⟩
      · rcases z with z | z
        · exact z ok.2.1
        · exact z hn
      have r3 := g2.get r1
      have g12 := g1.trans g2.wide
      have nn : (tabS R b pre).lookup n = none := by
        rw [tabS_lk, if_neg]
        have nd := wf.ndc
        rw [eb, List.nodup_append] at nd
        exact fun z => nd.2.2 n z n List.mem_cons_self rfl
      have lp : (tabS R b pre).length < sizeLine := by
        have h1 := tabS_len R b pre
        have h2 := congrArg List.length eb
        rw [List.length_append, List.length_cons] at h2
        have := wf.lenc
        exact Nat.lt_of_lt_of_le (show (tabS R b pre).length < 100 by omega) (by decide)
      cases ef : far R n b with
      | none =>
        walk_at "v"
        refine ⟨rfl, _, rfl, iteF ?_⟩
        refine ⟨⟨_, _, rfl⟩, ?_, fun _ => hb, g12⟩
        rw [tabS_snoc, ef, List.append_nil]
        exact r3
      | some x =>
        walk_at "v"
        refine ⟨rfl, _, rfl, iteT ?_⟩
        walk_at "v"; walk_at "v"; walk_at "v"
        refine ⟨td, _, rfl, DPut.k (k := Sum.inr n) r3 (by rw [List.length_map]; exact lp), ?_⟩
        have e : putK (tkf (tabS R b pre)) (Sum.inr n) (oi (some x)) = tkf (tabS R b (pre ++ [n])) := by
          show putK (tkf (tabS R b pre)) (Sum.inr n) (.int x) = _
          rw [put_tkf, tabS_snoc, ef]
          unfold putI
          rw [if_neg (by rw [nn]; simp)]
        rw [e]
        exact ⟨⟨_, _, rfl⟩, upd_same, fun _ => hb, g12.trans (Go.set r3 plain_dK rfl)⟩
    · rintro σ H1 ⟨⟨x4, x5, rfl⟩, r1, r2, g1⟩
      rw [foldl_snoc0, List.nil_append] at r1 r2
      have D1 := Dof g1
      obtain ⟨⟨dx1, p1⟩, p2, p3⟩ := id D1
      walk_at "v"
      refine ⟨_, _, _, rfl, p1, rfl, ?_⟩
      walk_at "v"
      refine ⟨t, c, d, cs, R, a, rfl, D1, fun z => k1 (fun ok => z ok.1) _ (gof g1), fun ha => ?_⟩
      have hb : b ∈ cs := r2 (fun z => by rw [z] at ha; cases ha)
      walk_at "v"; walk_at "v"
      refine ⟨td, _, rfl, get_tkf r1, _, rfl, ?_⟩
      rw [tabS_lk, if_pos ha]
      cases ef : far R a b with
      | none => exact iteT' rfl (k1 (fun ok => by obtain ⟨_, _, x, ex⟩ := ok; rw [ef] at ex; cases ex) _ (gof g1))
      | some x =>
        refine iteF' rfl ?_
        walk_at "v"
        refine ⟨(by show 1 ≤ sizeLine; decide), fun fl hfl => ?_⟩
        have ffl : H fl = none := (gof g1).free fl hfl
        have nfl : td ≠ fl := ne_of_none r1 hfl
        have e2 : upd H1 fl (.lst [.str a]) fl = some (.lst (([] ++ [a] : List Str).map V.str)) := upd_same
        have r2' : upd H1 fl (.lst [.str a]) td = some (.dK (tkf (tabS R b cs))) := by rw [upd_ne nfl]; exact r1
        have g2 := g1.trans (Go.new (S := fun x => x = td) (o := .lst [.str a]) hfl)
        generalize upd H1 fl (.lst [.str a]) = H2 at g2 e2 r2' ⊢
        have kin : ∀ {H' : Hp} {b : Addr} {u : HO}, Go (TL K) (TG K) (fun x => x = fl) H2 H' → H b = some u → NoT u → H' b = some u := fun {H' b u} g e n => g.keep _ _ ((gof g2).keep _ _ e n id) n fun z => by rw [z, ffl] at e; cases e
        have Dof2 : ∀ {H' : Hp}, Go (TL K) (TG K) (fun x => x = fl) H2 H' → TownAt (CTwn K) H' t c d cs R := fun g => ⟨⟨dx, kin g h1 (by intro _ z; cases z)⟩, kin g h2 (by intro _ z; cases z), kin g h3 (by intro _ z; cases z)⟩
        have gof2 : ∀ {H' : Hp}, Go (TL K) (TG K) (fun x => x = fl) H2 H' → Go (TL K) (TG K) (fun _ => False) H H' := fun g => ((gof g2).wide.trans g).drop fun b z => .inr (by rw [z]; exact ffl)
        refine ⟨fun μ σ H' => ∃ (done : List Str) (cur : Str) (y : Int) (x7 x8 : Option V), μ = y.toNat ∧ cur ∈ cs ∧ far R cur b = some y ∧ (∀ l, Path R b cur l → Path R b a (done ++ l)) ∧ H' fl = some (.lst ((done ++ [cur]).map V.str)) ∧ H' td = some (.dK (tkf (tabS R b cs))) ∧ Go (TL K) (TG K) (fun x => x = fl) H2 H' ∧ done.Nodup ∧ (∀ u ∈ done, u ∈ cs ∧ ∃ z, far R u b = some z ∧ y < z) ∧
          σ = [some (.ref t), some (.str a), some (.str b), some (.ref td), x4, x5, some (.ref fl), x7, x8, none, none], ⟨_, [], a, x, none, none, rfl, ha, ef, fun _ h => h, e2, r2', .refl, .nil, (fun _ h => by cases h), rfl⟩, ?_⟩
        rintro μ σ H3 ⟨done, cur, y, x7, x8, rfl, hc, ec, pth, s1, s2, g3, hd1, hd2, rfl⟩
        walk_at "v"
        refine ⟨_, rfl, ?_⟩
        refine ⟨fl, _, -1, .str cur, rfl, rfl, SqL.of s1, atI_last done cur, ?_⟩
        walk_at "go"
        refine ite2 (fun z => ?_) (fun z => ?_)
        · have ne : cur ≠ b := by simpa using z
          refine ⟨_, fun σ' H' q => q, ?_⟩
          walk_at "v"
          refine ⟨_, rfl, ?_⟩
          refine ⟨fl, _, -1, .str cur, rfl, rfl, SqL.of s1, atI_last done cur, ?_⟩
          have D3 := Dof2 g3
          obtain ⟨⟨dx3, u1⟩, u2, u3⟩ := id D3
          refine ⟨d, _, u3, trivial, fun od => ?_⟩
          have ntd : t ≠ d := ne_of u1 u3 (by intro z; cases z)
          have ntb : td ≠ d := ne_of s2 u3 (by intro z; cases z)
          have nfd : fl ≠ d := ne_of s1 u3 (by intro z; cases z)
          walk_at "v"
          refine ⟨_, _, _, _, _, rfl, (by rw [upd_ne ntd]; exact u1), T.cl_Town, T.no_Town_streets, rfl, ?_⟩
          have gl : Go (TL K) (TG K) (fun x => x = d) H3 (upd H3 d (.frz od (.dT (kvT R)))) := Go.set u3 plain_dT rfl
          have l1 : upd H3 d (.frz od (.dT (kvT R))) d = some (.frz od (.dT (kvT R))) := upd_same
          have l2 : upd H3 d (.frz od (.dT (kvT R))) td = some (.dK (tkf (tabS R b cs))) := by rw [upd_ne ntb]; exact s2
          have unl : ∀ H', Go (TL K) (TG K) (fun _ => False) (upd H3 d (.frz od (.dT (kvT R)))) H' → Go (TL K) (TG K) (fun _ => False) H3 (upd H' d (.dT (kvT R))) := fun H' g => g.unlock u3 plain_dT (g.get l1)
          generalize upd H3 d (.frz od (.dT (kvT R))) = Hl at gl l1 l2 unl ⊢
          refine ⟨d, od, rfl, .inr ⟨_, l1, fun L hL => ?_⟩⟩
          refine lc_foldT (fun e => (kT e.1, V.int e.2)) R rfl (nxF R cur b) [] (fun l H' => H' L = some (.lst (l.map V.str)) ∧ Go (TL K) (TG K) (fun x => x = L) Hl H') ⟨upd_same, Go.new hL⟩ (fun _ H' h => h.2.keep _ _ l1 (by intro _ z; cases z) (ne_of_none l1 hL)) ?_ ?_
          · rintro pre ⟨⟨one, other⟩, w⟩ post H4 q eb ⟨v1, g4⟩ eq
            have inR : ((one, other), w) ∈ R := by rw [eb]; simp
            have eq : H4 q = some (.tup [.str one, .str other]) := eq
            refine ⟨q, _, rfl, SqT.of eq, rfl, _, _, rfl, _, _, rfl, rfl, ?_⟩
            refine ⟨rfl, ?_⟩
            have t4 : H4 td = some (.dK (tkf (tabS R b cs))) := g4.keep _ _ l2 (by intro _ z; cases z) (ne_of_none l2 hL)
            have lpre : (pre.foldl (nxF R cur b) []).length < sizeLine := by
              have h1 := nxF_len (R := R) (cur := cur) (b := b) pre
              have h2 := congrArg List.length eb
              rw [List.length_append, List.length_cons] at h2
              have := wf.len
              exact Nat.lt_of_lt_of_le (show (pre.foldl (nxF R cur b) []).length < 10001 by omega) (by decide)
            generalize pre.foldl (nxF R cur b) [] = l at v1 lpre ⊢
            have oc : other ∈ cs := (wf.ends _ inR).2.1
            have no : ¬ (one = cur ∧ (far R other b).isSome = true) → H4 L = some (.lst ((nxF R cur b l ((one, other), w)).map V.str)) ∧ Go (TL K) (TG K) (fun x => x = L) Hl H4 := fun z => by
              unfold nxF
              rw [if_neg z]
              exact ⟨v1, g4⟩
            walk_at "go"
            refine ite2 (fun z1 => ?_) (fun z1 => iteF' rfl (no fun y => z1 (decide_eq_true (by rw [y.1]))))
            have e1 : one = cur := by simpa using z1
            walk_at "v"; walk_at "v"
            refine ⟨td, _, rfl, get_tkf t4, _, rfl, ?_⟩
            rw [tabS_lk, if_pos oc]
            cases eo : far R other b with
            | none => exact iteF' rfl (no fun y => by have := y.2; rw [eo] at this; cases this)
            | some y0 =>
              refine iteT' rfl ?_
              walk_at "v"
              refine ⟨_, v1, (by rw [List.length_map]; exact lpre), ?_, g4.trans (Go.set v1 plain_lst rfl)⟩
              unfold nxF
              rw [if_pos ⟨e1, by show (far R other b).isSome = true; rw [eo] <;> rfl⟩, upd_same, List.map_append] <;> rfl
          · rintro H4 ⟨v1, g4⟩
            rw [nxF_all] at v1
            have g4' : Go (TL K) (TG K) (fun _ => False) Hl H4 := g4.drop fun b z => .inr (by rw [z]; exact hL)
            refine ⟨g4'.get l1, ?_⟩
            have g5 := unl H4 g4'
            have nLd : L ≠ d := (ne_of_none l1 hL).symm
            have v2 : upd H4 d (.dT (kvT R)) L = some (.lst ((nextsS R cur b).map V.str)) := by rw [upd_ne nLd]; exact v1
            generalize upd H4 d (.dT (kvT R)) = H5 at g5 v2 ⊢
            have g35 := g3.trans g5.wide
            have tb5 : Tb (TL K) (TG K) H5 := (gof2 g35).tb tb
            walk_at "v"
            have s5 : H5 fl = some (.lst ((done ++ [cur]).map V.str)) := g5.get s1
            have w5 : H5 td = some (.dK (tkf (tabS R b cs))) := g5.get s2
            refine ⟨.inl ⟨rfl, _, SqL.of s5⟩, ?_⟩
            walk_at "v"
            refine ⟨tb5.gen _ T.tg_Town_way, (nextsS R cur b).map V.str, ⟨L, rfl, .inl (SqL.of v2)⟩, fun H6 hT6 => ?_⟩
            have gx : Go (TL K) (TG K) (fun _ => False) H5 H6 := Go.tab hT6 (tb5.gen _ T.tg_Town_way) T.tg_Town_way T.td_Town_way
            have g36 := g35.trans gx.wide
            have s6 := gx.get s5
            have w6 := gx.get w5
            have D6 := Dof2 g36
            obtain ⟨⟨dx6, m1⟩, m2, m3⟩ := id D6
            refine ⟨fun x => match x with | .str o => (match R.lookup (cur, o), far R o b, far R cur b with | some m, some y, some x => decide (m + y = x) | _, _, _ => false) | _ => false, fun x => x, fun x hx => ?_, fun x hx _ => ?_, goodS R cur b, ?_, goodS_ne wf hc ec ne, fun best hb least => ?_⟩
            · obtain ⟨o, ho, rfl⟩ := List.mem_map.mp hx
              unfold nextsS at ho
              obtain ⟨p, hp, rfl⟩ := List.mem_map.mp ho
              obtain ⟨hp, hq⟩ := List.mem_filter.mp hp
              rw [Bool.and_eq_true] at hq
              have eh : p.1.1 = cur := of_decide_eq_true hq.1
              have el : R.lookup (cur, p.1.2) = some p.2 := by rw [← eh]; exact Rlook wf.nd hp
              obtain ⟨y1, ey⟩ := Option.isSome_iff_exists.mp hq.2
              have hoc : p.1.2 ∈ cs := (wf.ends _ hp).2.1
              walk_at "v"
              refine ⟨_, _, _, _, _, rfl, m1, T.cl_Town, T.no_Town_streets, rfl, ?_⟩
              walk_at "v"; walk_at "v"
              refine ⟨_, _, rfl, rfl, ?_⟩
              refine ⟨d, kvT R, kT (cur, p.1.2), .int p.2, rfl, rfl, .inl m3, (by rw [val_kvT, el] <;> rfl), ?_⟩
              walk_at "v"; walk_at "v"
              refine ⟨_, _, Sum.inr p.1.2, .int y1, rfl, rfl, .inl w6, (by rw [val_tkf, tabS_lk, if_pos hoc, ey] <;> rfl), ?_⟩
              refine ⟨_, _, rfl, rfl, _, _, rfl, rfl, ?_⟩
              walk_at "v"; walk_at "v"
              refine ⟨_, _, Sum.inr cur, .int y, rfl, rfl, .inl w6, (by rw [val_tkf, tabS_lk, if_pos hc, ec] <;> rfl), ?_⟩
              refine ⟨_, _, rfl, rfl, rfl, _, rfl, ?_⟩
              show decide (V.int (p.2 + y1) = V.int y) = (match R.lookup (cur, p.1.2), far R p.1.2 b, far R cur b with | some m, some y, some x => decide (m + y = x) | _, _, _ => false)
              rw [el, ey, ec]
              show decide (V.int (p.2 + y1) = V.int y) = decide (p.2 + y1 = y)
              by_cases e : p.2 + y1 = y
              · rw [e, decide_eq_true rfl, decide_eq_true rfl]
              · rw [decide_eq_false e, decide_eq_false fun z => e (V.int.inj z)]
            · walk_at "v"
              rfl
            · rw [List.map_id', List.filter_map] <;> rfl
            · obtain ⟨m', y', hm', hbc, hy', hx'⟩ := goodS_mem wf hb
              rw [ec] at hx'
              have ey : y = m' + y' := Option.some.inj hx'
              have p1 := wf.pos _ _ hm'
              have p2 := far_nonneg wf hbc hy'
              have ld : done.length ≤ cs.length := nd_sub_len done cs hd1 fun u hu => (hd2 u hu).1
              have lc := wf.lenc
              refine ⟨_, _, _, rfl, rfl, s6, (by rw [List.length_map, List.length_append]; exact Nat.lt_of_lt_of_le (show done.length + 1 < 100 by omega) (by decide)), ?_⟩
              refine ⟨y'.toNat, by omega, done ++ [cur], best, y', _, _, rfl, hbc, hy', fun l hl => ?_, ?_, ?_, g36.trans (Go.set s6 plain_lst rfl), ?_, fun u hu => ?_, rfl⟩
              · rw [List.append_assoc]
                exact pth _ (.go ne hb least hl)
              · rw [upd_same, List.map_append (l₁ := done ++ [cur])] <;> rfl
              · rw [upd_ne nfl]; exact w6
              · rw [List.nodup_append]
                refine ⟨hd1, by simp, fun u hu v hv z => ?_⟩
                have zv : u = cur := z.trans (List.mem_singleton.mp hv)
                obtain ⟨_, zz, ez, lz⟩ := hd2 u hu
                rw [zv, ec] at ez
                cases ez
                omega
              · rcases List.mem_append.mp hu with hu | hu
                · obtain ⟨h1, zz, ez, lz⟩ := hd2 u hu
                  exact ⟨h1, zz, ez, by omega⟩
                · rw [List.mem_singleton.mp hu]
                  exact ⟨hc, y, ec, by omega⟩
        · have eb : cur = b := by simpa using z
          subst eb
          have pa := pth _ .stop
          walk_at "v"
          refine ⟨fl, _, rfl, .inl ⟨SqL.of s1, fun p hp => ?_⟩⟩
          exact k2 ⟨ha, hc, x, ef⟩ _ p _ pa ((gof2 g3).free p hp) upd_same ((gof2 g3).trans (Go.new hp))
end
end K1
namespace K1
open PySem PySem.Spec PyProof.Rows L2 Fy
open GxR (TabG Tabbed)
def combos (n : Nat) : Nat → Nat → List (List Nat)
  | 0, _ => [[]]
  | k + 1, f => (List.range' f (n - f)).flatMap fun p => (combos n k (p + 1)).map (p :: ·)
theorem combos_len {n : Nat} : ∀ (k f : Nat) (l : List Nat), l ∈ combos n k f → l.length = k ∧ ∀ p ∈ l, f ≤ p ∧ p < n
  | 0, f, l, h => by
    obtain rfl := List.mem_singleton.mp h
    exact ⟨rfl, fun _ z => by cases z⟩
  | k + 1, f, l, h => by
    unfold combos at h
    obtain ⟨p, hp, h⟩ := List.mem_flatMap.mp h
    obtain ⟨l', hl, rfl⟩ := List.mem_map.mp h
    have hp := List.mem_range'_1.mp hp
    obtain ⟨e, b⟩ := combos_len k (p + 1) l' hl
    refine ⟨by rw [List.length_cons, e], fun q hq => ?_⟩
    rcases List.mem_cons.mp hq with rfl | hq
    · omega
    · have := b q hq
      omega
theorem fm_congr {α β : Type} {f g : α → List β} : ∀ (l : List α), (∀ a ∈ l, f a = g a) → l.flatMap f = l.flatMap g
  | [], _ => rfl
  | a :: t, h => by rw [List.flatMap_cons, List.flatMap_cons, h a List.mem_cons_self, fm_congr t fun b hb => h b (List.mem_cons_of_mem _ hb)]
/-- what is still to come of a begun choice -/
def leaves (n k : Nat) (x : List Nat × Nat) : List (List Nat) := (combos n (k - x.1.length) x.2).map (x.1 ++ ·)
theorem leaves_full {n k : Nat} {pl : List Nat} {st : Nat} (h : pl.length = k) : leaves n k (pl, st) = [pl] := by
  unfold leaves
  rw [show k - (pl, st).1.length = 0 by show k - pl.length = 0; omega]
  show [pl ++ []] = [pl]
  rw [List.append_nil]
def kids (n : Nat) (x : List Nat × Nat) : List (List Nat × Nat) := (List.range' x.2 (n - x.2)).map fun p => (x.1 ++ [p], p + 1)
theorem leaves_kids {n k : Nat} {pl : List Nat} {st : Nat} (h : pl.length < k) : leaves n k (pl, st) = (kids n (pl, st)).flatMap (leaves n k) := by
  obtain ⟨j, ej⟩ : ∃ j, k - pl.length = j + 1 := ⟨k - pl.length - 1, by omega⟩
  unfold leaves kids
  rw [show k - (pl, st).1.length = j + 1 from ej, List.flatMap_map]
  show ((List.range' st (n - st)).flatMap fun p => (combos n j (p + 1)).map (p :: ·)).map (pl ++ ·) = _
  rw [List.map_flatMap]
  refine fm_congr _ fun p _ => ?_
  rw [List.map_map]
  have e2 : k - (pl ++ [p], p + 1).1.length = j := by
    show k - (pl ++ [p]).length = j
    rw [List.length_append]
    show k - (pl.length + 1) = j
    omega
  rw [e2]
  refine List.map_congr_left fun l _ => ?_
  show pl ++ p :: l = (pl ++ [p]) ++ l
  rw [List.append_assoc] <;> rfl
def wt (n : Nat) (x : List Nat × Nat) : Nat := 2 ^ (n - x.2)
theorem wt_range {n : Nat} : ∀ (m st : Nat), n - st = m → ((List.range' st m).map fun p => 2 ^ (n - (p + 1))).sum + 1 = 2 ^ (n - st)
  | 0, st, h => by rw [h] <;> rfl
  | m + 1, st, h => by
    rw [List.range'_succ, List.map_cons, List.sum_cons, h]
    have e : n - (st + 1) = m := by omega
    have ih := wt_range (n := n) m (st + 1) e
    rw [e] at ih ⊢
    rw [Nat.pow_succ]
    omega
theorem wt_kids {n : Nat} (x : List Nat × Nat) : ((kids n x).map (wt n)).sum + 1 = wt n x := by
  unfold kids
  rw [List.map_map]
  exact wt_range (n - x.2) x.2 rfl
/-- a row of a choice -/
def rowD (c : Nat) (l : List Nat) : PyData := .tuple [.int c, .tuple (l.map fun (p : Nat) => PyData.int (p : Int))]
def rowLt (f : List Nat → Nat) (a b : List Nat) : Bool := ltD (rowD (f a) a) (rowD (f b) b)
theorem rowLt_trans {f : List Nat → Nat} {a b c : List Nat} : rowLt f a b = true → rowLt f b c = true → rowLt f a c = true := PyProof.Rows.lex_trans _ _ _
theorem rowLt_irr {f : List Nat → Nat} (a : List Nat) : rowLt f a a = false := PyProof.Rows.lex_irrefl _
theorem toks_inj : ∀ {l l' : List Nat} {r : List (Int ⊕ List Nat)}, PySem.W.keyToksAll (l.map fun (p : Nat) => PyData.int (p : Int)) ++ r = PySem.W.keyToksAll (l'.map fun (p : Nat) => PyData.int (p : Int)) ++ r → l = l'
  | [], [], _, _ => rfl
  | [], y :: t, r, h => by
    rw [List.map_nil, List.map_cons, PySem.W.keyToksAll, PySem.W.keyToksAll] at h
    injection h with h1 _
    cases h1
  | x :: t, [], r, h => by
    rw [List.map_nil, List.map_cons, PySem.W.keyToksAll, PySem.W.keyToksAll] at h
    injection h with h1 _
    cases h1
  | x :: t, y :: u, r, h => by
    rw [List.map_cons, List.map_cons, PySem.W.keyToksAll, PySem.W.keyToksAll, PySem.W.keyToks, PySem.W.keyToks] at h
    injection h with _ h2
    injection h2 with h3 h4
    have e : x = y := Int.ofNat.inj (Sum.inl.inj h3)
    rw [e, toks_inj h4]
theorem rowLt_tri {f : List Nat → Nat} {a b : List Nat} (h : rowLt f a b = false) (h' : rowLt f b a = false) : a = b := by
  have e := PyProof.Rows.lex_total (O := PyProof.Rows.itemOrd) _ _ h h'
  have e : (Sum.inl 1 : Int ⊕ List Nat) :: Sum.inl (f a : Int) :: Sum.inl 1 :: (PySem.W.keyToksAll (a.map fun (p : Nat) => PyData.int (p : Int)) ++ [Sum.inl 0]) = Sum.inl 1 :: Sum.inl (f b : Int) :: Sum.inl 1 :: (PySem.W.keyToksAll (b.map fun (p : Nat) => PyData.int (p : Int)) ++ [Sum.inl 0]) := e
  injection e with _ e
  injection e with _ e
  injection e with _ e
  exact toks_inj e
/-- the best of some choices -/
def Best (f : List Nat → Nat) (ls : List (List Nat)) (m : List Nat) : Prop := m ∈ ls ∧ ∀ l ∈ ls, rowLt f l m = false
theorem Best.one {f : List Nat → Nat} {ls ls' : List (List Nat)} {m m' : List Nat} (h : Best f ls m) (h' : Best f ls' m') (e : ∀ l, l ∈ ls ↔ l ∈ ls') : m = m' :=
  rowLt_tri (h'.2 _ ((e _).mp h.1)) (h.2 _ ((e _).mpr h'.1))
end K1
namespace K1
open PySem PySem.Spec PyProof.Rows L2 Fy
open GxR (TabG Tabbed)
def stepL (s : Fs × Bool) (e : (Str × Str) × Int) : Fs × Bool :=
  match s.1.lookup e.1.1 with
  | none => s
  | some x => match s.1.lookup e.1.2 with
    | none => (putI s.1 e.1.2 (x + e.2), true)
    | some y => if x + e.2 < y then (putI s.1 e.1.2 (x + e.2), true) else s
def costL (cs : List Str) (F : Fs) : Nat := (cs.map fun c => match F.lookup c with | some x => x.toNat | none => 4861).sum
structure LInv (cs : List Str) (R : Rs) (s : Str) (F : Fs) : Prop where
  nd : (F.map (·.1)).Nodup
  inC : ∀ v x, F.lookup v = some x → v ∈ cs
  snd : ∀ v x, F.lookup v = some x → Way R s v x
  low : ∀ v x, F.lookup v = some x → x ≤ 60 * F.length
  st : F.lookup s = some 0
theorem sum_lt {α : Type} {f g : α → Nat} : ∀ (l : List α) (a : α), a ∈ l → (∀ b ∈ l, f b ≤ g b) → f a < g a → (l.map f).sum < (l.map g).sum
  | [], _, h, _, _ => by cases h
  | b :: t, a, h, le, lt => by
    rw [List.map_cons, List.map_cons, List.sum_cons, List.sum_cons]
    have lb := le b List.mem_cons_self
    have all : (t.map f).sum ≤ (t.map g).sum := by
      clear h lt
      have : ∀ (l : List α), (∀ b ∈ l, f b ≤ g b) → (l.map f).sum ≤ (l.map g).sum := by
        intro l
        induction l with
        | nil => intro _; exact Nat.le_refl _
        | cons c r ih =>
          intro h
          rw [List.map_cons, List.map_cons, List.sum_cons, List.sum_cons]
          have := ih fun b hb => h b (List.mem_cons_of_mem _ hb)
          have := h c List.mem_cons_self
          omega
      exact this t fun b hb => le b (List.mem_cons_of_mem _ hb)
    rcases List.mem_cons.mp h with rfl | h
    · omega
    · have := sum_lt t a h (fun b hb => le b (List.mem_cons_of_mem _ hb)) lt
      omega
theorem LInv.put {cs : List Str} {R : Rs} {s : Str} {F : Fs} {one other : Str} {w x : Int} (wf : WfT cs R) (I : LInv cs R s F) (re : R.lookup (one, other) = some w) (e1 : F.lookup one = some x) (less : ∀ y, F.lookup other = some y → x + w < y) :
    LInv cs R s (putI F other (x + w)) ∧ costL cs (putI F other (x + w)) < costL cs F := by
  have en := wf.ends _ (lookR re)
  have x0 : 0 ≤ x := (I.snd _ _ e1).nonneg wf.pos
  have lenF := Nat.le_trans (fs_len I.nd I.inC) wf.lenc
  have lx := I.low _ _ e1
  have w60 : w ≤ 60 := en.2.2.2.2
  have w1 : 1 ≤ w := en.2.2.2.1
  have inC' : ∀ v y, (putI F other (x + w)).lookup v = some y → v ∈ cs := fun v y h => by
    rw [lk_put] at h
    by_cases e : v = other
    · rw [e]; exact en.2.1
    · rw [if_neg e] at h; exact I.inC v y h
  have grow : F.length ≤ (putI F other (x + w)).length := by
    unfold putI
    split
    · rw [List.length_map] <;> exact Nat.le_refl _
    · rw [List.length_append]; omega
  refine ⟨⟨nd_put I.nd _ _, inC', fun v y h => ?_, fun v y h => ?_, ?_⟩, ?_⟩
  · rw [lk_put] at h
    by_cases e : v = other
    · rw [if_pos e] at h
      cases h
      rw [e]
      exact .snoc (I.snd _ _ e1) re
    · rw [if_neg e] at h
      exact I.snd v y h
  · rw [lk_put] at h
    by_cases e : v = other
    · rw [if_pos e] at h
      cases h
      cases eo : F.lookup other with
      | some y0 =>
        have h1 := I.low _ _ eo
        have h2 := less y0 eo
        omega
      | none =>
        have : (putI F other (x + w)).length = F.length + 1 := by
          unfold putI
          rw [if_neg (by rw [eo]; simp), List.length_append] <;> rfl
        omega
    · rw [if_neg e] at h
      have := I.low v y h
      omega
  · rw [lk_put]
    by_cases e : s = other
    · have := less 0 (by rw [← e]; exact I.st)
      omega
    · rw [if_neg e]; exact I.st
  · refine sum_lt cs other en.2.1 (fun c hc => ?_) ?_
    · show (match (putI F other (x + w)).lookup c with | some x => x.toNat | none => 4861) ≤ (match F.lookup c with | some x => x.toNat | none => 4861)
      rw [lk_put]
      by_cases e : c = other
      · rw [if_pos e, e]
        cases eo : F.lookup other with
        | none => show (x + w).toNat ≤ 4861; omega
        | some y0 => have := less y0 eo; show (x + w).toNat ≤ y0.toNat; omega
      · rw [if_neg e]; exact Nat.le_refl _
    · show (match (putI F other (x + w)).lookup other with | some x => x.toNat | none => 4861) < (match F.lookup other with | some x => x.toNat | none => 4861)
      rw [lk_put, if_pos rfl]
      cases eo : F.lookup other with
      | none => show (x + w).toNat < 4861; omega
      | some y0 => have := less y0 eo; show (x + w).toNat < y0.toNat; omega
def closedE (F : Fs) (e : (Str × Str) × Int) : Prop := ∀ x, F.lookup e.1.1 = some x → ∃ y, F.lookup e.1.2 = some y ∧ y ≤ x + e.2
theorem LInv.step {cs : List Str} {R : Rs} {s : Str} {F : Fs} {b : Bool} {e : (Str × Str) × Int} (wf : WfT cs R) (I : LInv cs R s F) (re : R.lookup e.1 = some e.2) :
    LInv cs R s (stepL (F, b) e).1 ∧ costL cs (stepL (F, b) e).1 ≤ costL cs F ∧ ((stepL (F, b) e).2 = true → b = true ∨ costL cs (stepL (F, b) e).1 < costL cs F) ∧ ((stepL (F, b) e).2 = false → b = false ∧ (stepL (F, b) e).1 = F ∧ closedE F e) := by
  obtain ⟨⟨one, other⟩, w⟩ := e
  have re : R.lookup (one, other) = some w := re
  unfold stepL
  show LInv cs R s (match F.lookup one with | none => (F, b) | some x => match F.lookup other with | none => (putI F other (x + w), true) | some y => if x + w < y then (putI F other (x + w), true) else (F, b)).1 ∧ _
  cases e1 : F.lookup one with
  | none =>
    refine ⟨I, Nat.le_refl _, fun z => .inl z, fun z => ⟨z, rfl, fun x h => ?_⟩⟩
    have h : F.lookup one = some x := h
    rw [e1] at h
    cases h
  | some x =>
    cases e2 : F.lookup other with
    | none =>
      obtain ⟨a, c⟩ := I.put wf re e1 fun y h => by rw [e2] at h; cases h
      exact ⟨a, Nat.le_of_lt c, fun _ => .inr c, fun z => by cases z⟩
    | some y =>
      by_cases l : x + w < y
      · obtain ⟨a, c⟩ := I.put wf re e1 fun y' h => by rw [e2] at h; cases h; exact l
        have e3 : (if x + w < y then (putI F other (x + w), true) else (F, b)) = (putI F other (x + w), true) := if_pos l
        show LInv cs R s (if x + w < y then (putI F other (x + w), true) else (F, b)).1 ∧ costL cs (if x + w < y then (putI F other (x + w), true) else (F, b)).1 ≤ _ ∧ ((if x + w < y then (putI F other (x + w), true) else (F, b)).2 = true → b = true ∨ costL cs (if x + w < y then (putI F other (x + w), true) else (F, b)).1 < _) ∧ ((if x + w < y then (putI F other (x + w), true) else (F, b)).2 = false → b = false ∧ (if x + w < y then (putI F other (x + w), true) else (F, b)).1 = F ∧ _)
        rw [e3]
        exact ⟨a, Nat.le_of_lt c, fun _ => .inr c, fun z => by cases z⟩
      · have e3 : (if x + w < y then (putI F other (x + w), true) else (F, b)) = (F, b) := if_neg l
        show LInv cs R s (if x + w < y then (putI F other (x + w), true) else (F, b)).1 ∧ costL cs (if x + w < y then (putI F other (x + w), true) else (F, b)).1 ≤ _ ∧ ((if x + w < y then (putI F other (x + w), true) else (F, b)).2 = true → b = true ∨ costL cs (if x + w < y then (putI F other (x + w), true) else (F, b)).1 < _) ∧ ((if x + w < y then (putI F other (x + w), true) else (F, b)).2 = false → b = false ∧ (if x + w < y then (putI F other (x + w), true) else (F, b)).1 = F ∧ _)
        rw [e3]
        refine ⟨I, Nat.le_refl _, fun z => .inl z, fun z => ⟨z, rfl, fun x' h => ?_⟩⟩
        have h : F.lookup one = some x' := h
        rw [e1] at h
        cases h
        exact ⟨y, e2, by show y ≤ x + w; omega⟩
theorem LInv.round {cs : List Str} {R : Rs} {s : Str} (wf : WfT cs R) : ∀ (es : Rs) (F : Fs) (b : Bool), (∀ e ∈ es, e ∈ R) → LInv cs R s F →
    LInv cs R s (es.foldl stepL (F, b)).1 ∧ costL cs (es.foldl stepL (F, b)).1 ≤ costL cs F ∧ ((es.foldl stepL (F, b)).2 = true → b = true ∨ costL cs (es.foldl stepL (F, b)).1 < costL cs F) ∧ ((es.foldl stepL (F, b)).2 = false → b = false ∧ (es.foldl stepL (F, b)).1 = F ∧ ∀ e ∈ es, closedE F e)
  | [], F, b, _, I => ⟨I, Nat.le_refl _, fun z => .inl z, fun z => ⟨z, rfl, fun _ h => by cases h⟩⟩
  | e :: es, F, b, h, I => by
    obtain ⟨a1, a2, a3, a4⟩ := I.step (b := b) wf (Rlook wf.nd (h e List.mem_cons_self))
    rw [List.foldl_cons]
    generalize stepL (F, b) e = r at a1 a2 a3 a4
    obtain ⟨F1, b1⟩ := r
    obtain ⟨c1, c2, c3, c4⟩ := LInv.round wf es F1 b1 (fun x hx => h x (List.mem_cons_of_mem _ hx)) a1
    refine ⟨c1, Nat.le_trans c2 a2, fun z => ?_, fun z => ?_⟩
    · rcases c3 z with y | y
      · rcases a3 y with x | x
        · exact .inl x
        · exact .inr (Nat.lt_of_le_of_lt c2 x)
      · exact .inr (Nat.lt_of_lt_of_le y a2)
    · obtain ⟨y1, y2, y3⟩ := c4 z
      obtain ⟨x1, x2, x3⟩ := a4 y1
      have x2 : F1 = F := x2
      refine ⟨x1, y2.trans x2, fun e' he => ?_⟩
      rcases List.mem_cons.mp he with rfl | he
      · exact x3
      · rw [← x2]; exact y3 e' he
theorem LInv.times {cs : List Str} {R : Rs} {s : Str} {F : Fs} (I : LInv cs R s F) (c : ∀ e ∈ R, closedE F e) : Times R s F := by
  refine ⟨I.nd, I.snd, fun v x h => ?_⟩
  induction h with
  | nil => exact ⟨0, I.st, Int.le_refl _⟩
  | snoc _ e ih =>
    obtain ⟨y, h1, h2⟩ := ih
    obtain ⟨z, h3, h4⟩ := c _ (lookR e) y h1
    exact ⟨z, h3, by have : z ≤ y + _ := h4; omega⟩
theorem LInv.start {cs : List Str} {R : Rs} {s : Str} (hs : s ∈ cs) : LInv cs R s [(s, 0)] := by
  have one : ∀ v x, (([(s, 0)] : Fs)).lookup v = some x → v = s ∧ x = 0 := fun v x h => by
    rw [lk_cons] at h
    by_cases e : v = s
    · rw [if_pos e] at h
      cases h
      exact ⟨e, rfl⟩
    · rw [if_neg e] at h
      cases h
  refine ⟨by simp, fun v x h => ?_, fun v x h => ?_, fun v x h => ?_, by rw [lk_cons, if_pos rfl]⟩
  · rw [(one v x h).1]; exact hs
  · obtain ⟨rfl, rfl⟩ := one v x h
    exact .nil
  · obtain ⟨rfl, rfl⟩ := one v x h
    simp
end K1
namespace K1
open PySem PySem.Spec PyProof.Rows L2 Fy
open GxR (TabG Tabbed)
def sp_law_times (K : PySem.W.Frag) : Sp := fun vs H Q E => ∃ (o : Addr) (cs : List Str) (R : Rs) (n : Str), vs = [.ref o, .str n] ∧ H o = some (.dT (kvT R)) ∧ WfT cs R ∧ n ∈ cs ∧
  ∀ F p H', Times R n F → (∀ v x, F.lookup v = some x → v ∈ cs) → H p = none → H' p = some (.dK (tkf F)) → Go (TL K) (TG K) (fun _ => False) H H' → Q (.ref p) H'
section
variable {P : Program} {w : World} {K : PySem.W.Frag} {mg : Str → Option Value} {base : Heap}
abbrev N_law_times : List Str := ["own", "start", "found", "turned", "one", "other"]
theorem sc_law_times : FnScope N_law_times ["own", "start"] d_law_times.scope := ⟨rfl, rfl, rfl, by decide +kernel, rfl, by decide +kernel, by decide +kernel⟩
theorem ok_law_times (T : Txt K mg base) : Good P w K mg base 1 (He.fAd K d_law_times.at_) ["own", "start"] [] (sp_law_times K) := by
  refine good_of0 T.fn_law_times sc_law_times rfl rfl (fun _ _ _ _ _ _ us hl => match us, hl with | [_, _], _ => rfl) (fun vs H Q E h => ?_) (fun A outer s H vs Q E hr h => ?_)
  · obtain ⟨o, cs, R, n, rfl, _⟩ := h
    rfl
  · obtain ⟨o, cs, R, n, rfl, h⟩ := h
    have hu := hu_of hr
    refine ⟨_, (pss_cons (ps_par (i := 2) (j := 3) rfl sc_law_times.nd rfl rfl (by decide) rfl rfl (pa_cons (pe_disp (pps_cons (pv 1) pe_int pps_nil) (by rfl) (by rfl) (fun z => by cases z) (by decide)) (pa_cons pe_bl pa_nil)) (by rfl))
    (pss_cons (ps_while (passes_of rfl) (pt_val (pv 3)) (pss_cons (ps_set (i := 3) sc_law_times.nd rfl (by first | exact Or.inl rfl | exact Or.inr rfl) pe_bl)
      (pss_one (ps_lock (ps_for (passes_of rfl) rfl (pi_keys (pv 0)) (pg_tup rfl (pgs_cons (pg_name (i := 4) sc_law_times.nd rfl (by first | exact Or.inl rfl | exact Or.inr rfl)) (pgs_cons (pg_name (i := 5) sc_law_times.nd rfl (by first | exact Or.inl rfl | exact Or.inr rfl)) pgs_nil))) (pss_one (ps_if (PW.pt (pw_and (pt_cmp (pc_din hu (pv 4) (pv 2))) (pw_and1 (PW.pt (pw_or (pt_cmp (pc_dnotin hu (pv 5) (pv 2))) (pw_or1 (pt_cmpR op_lt (pe_op op_add (pe_dget hu (pv 2) (pv 4) (fun _ _ => rfl)) (pe_dget hu (pv 0) (pe_tup (pa_cons (pv 4) (pa_cons (pv 5) pa_nil))) (fun _ _ => rfl))) (pe_dget hu (pv 2) (pv 5) (fun _ _ => rfl)) (nomark _)))))))) (pss_one (ps_asg (pe_tup (pa_cons (pe_op op_add (pe_dget hu (pv 2) (pv 4) (fun _ _ => rfl)) (pe_dget hu (pv 0) (pe_tup (pa_cons (pv 4) (pa_cons (pv 5) pa_nil))) (fun _ _ => rfl))) (pa_cons pe_bl pa_nil))) (pg_tup rfl (pgs_cons (pg_sub (pv 2) (pv 5) (set_dict hu)) (pgs_cons (pg_name (i := 3) sc_law_times.nd rfl (by first | exact Or.inl rfl | exact Or.inr rfl)) pgs_nil))))) pss_nil)))))))
    (pss_one (ps_ret (pv 2))))), ?_⟩
    obtain ⟨ho, wf, hn, k⟩ := h
    refine fun fd hfd => ?_
    walk_at "v"
    refine ⟨upd_same, [((Sum.inr n : Key), V.int 0)], rfl, (by show 1 ≤ 15; decide), ?_⟩
    have em : mergeK [] [((Sum.inr n : Key), V.int 0)] = tkf [(n, 0)] := mergeK_nodup _ _ (by simp)
    rw [em, upd_upd]
    have g0 : Go (TL K) (TG K) (fun _ => False) H (upd H fd (.dK (tkf [(n, 0)]))) := Go.new hfd
    have e0 : upd H fd (.dK (tkf [(n, 0)])) fd = some (.dK (tkf [(n, 0)])) := upd_same
    generalize upd H fd (.dK (tkf [(n, 0)])) = H0 at g0 e0 ⊢
    refine ⟨_, _, rfl, ?_⟩
    refine ⟨fun μ σ H' => ∃ (F : Fs) (b : Bool) (x4 x5 : Option V), μ = 2 * costL cs F + (if b = true then 1 else 0) ∧ LInv cs R n F ∧ (b = false → ∀ e ∈ R, closedE F e) ∧ H' fd = some (.dK (tkf F)) ∧ Go (TL K) (TG K) (fun a => a = fd) H0 H' ∧ σ = [some (.ref o), some (.str n), some (.ref fd), some (.bl b), x4, x5],
      ⟨_, [(n, 0)], true, _, _, rfl, LInv.start hn, (fun z => by cases z), e0, .refl, rfl⟩, ?_⟩
    rintro μ σ H1 ⟨F, b, x4, x5, rfl, I, cl, e1, g1, rfl⟩
    refine ⟨_, rfl, _, rfl, ?_⟩
    have gof : ∀ {H' : Hp}, Go (TL K) (TG K) (fun a => a = fd) H0 H' → Go (TL K) (TG K) (fun _ => False) H H' := fun g => (g0.wide.trans g).drop fun b z => .inr (by rw [z]; exact hfd)
    cases b with
    | false =>
      refine iteF ?_
      walk_at "v"
      exact k F fd H1 (I.times (cl rfl)) I.inC hfd e1 (gof g1)
    | true =>
      refine iteT ?_
      refine ⟨_, fun σ' H' q => q, ?_⟩
      have o1 := (gof g1).get ho
      refine ⟨o, _, o1, trivial, fun od => ?_⟩
      have nof : fd ≠ o := ne_of e1 o1 (by intro z; cases z)
      walk_at "v"
      have gl : Go (TL K) (TG K) (fun a => a = o) H1 (upd H1 o (.frz od (.dT (kvT R)))) := Go.set o1 plain_dT rfl
      have l1 : upd H1 o (.frz od (.dT (kvT R))) o = some (.frz od (.dT (kvT R))) := upd_same
      have l2 : upd H1 o (.frz od (.dT (kvT R))) fd = some (.dK (tkf F)) := by rw [upd_ne nof]; exact e1
      have unl : ∀ H', Go (TL K) (TG K) (fun a => a = fd) (upd H1 o (.frz od (.dT (kvT R)))) H' → Go (TL K) (TG K) (fun a => a = fd) H1 (upd H' o (.dT (kvT R))) := fun H' g => g.unlock o1 plain_dT (g.keep _ _ l1 (by intro _ z; cases z) (fun z => nof z.symm))
      generalize upd H1 o (.frz od (.dT (kvT R))) = Hl at gl l1 l2 unl ⊢
      refine ⟨o, od, rfl, .inr ⟨_, l1, ?_⟩⟩
      refine for_foldT (fun e => (kT e.1, V.int e.2)) R rfl stepL (F, false)
        (fun r σ H' => (∃ x4 x5, σ = [some (.ref o), some (.str n), some (.ref fd), some (.bl r.2), x4, x5]) ∧ LInv cs R n r.1 ∧ H' fd = some (.dK (tkf r.1)) ∧ Go (TL K) (TG K) (fun a => a = fd) Hl H')
        ⟨⟨_, _, rfl⟩, I, l2, .refl⟩ (fun r σ H' h => h.2.2.2.keep _ _ l1 (by intro _ z; cases z) (fun z => nof z.symm)) ?_ ?_
      · rintro pre ⟨⟨one, other⟩, w⟩ post σ H2 q eR ⟨⟨x4, x5, rfl⟩, I2, r1, g2⟩ eq
        have inR : ((one, other), w) ∈ R := by rw [eR]; simp
        have re : R.lookup (one, other) = some w := Rlook wf.nd inR
        generalize pre.foldl stepL (F, false) = r at I2 r1 ⊢
        obtain ⟨F1, b1⟩ := r
        have I2 : LInv cs R n F1 := I2
        have r1 : H2 fd = some (.dK (tkf F1)) := r1
        have st := (I2.step (b := b1) (e := ((one, other), w)) wf re).1
        have lF : F1.length ≤ 80 := Nat.le_trans (fs_len I2.nd I2.inC) wf.lenc
        have eq : H2 q = some (.tup [.str one, .str other]) := eq
        refine ⟨q, _, rfl, SqT.of eq, rfl, _, _, rfl, _, _, rfl, rfl, ?_⟩
        walk_at "v"; walk_at "v"
        refine ⟨fd, _, rfl, get_tkf r1, _, rfl, ?_⟩
        cases ea : F1.lookup one with
        | none =>
          refine iteF' rfl (iteF' rfl ?_)
          have e : stepL (F1, b1) ((one, other), w) = (F1, b1) := by
            unfold stepL
            show (match F1.lookup one with | none => _ | some x => _) = _
            rw [ea]
          rw [e]
          exact ⟨⟨_, _, rfl⟩, I2, r1, g2⟩
        | some x =>
          refine iteT' rfl ?_
          walk_at "v"; walk_at "v"
          refine ⟨fd, _, rfl, get_tkf r1, _, rfl, ?_⟩
          have l0 := g2.keep _ _ l1 (by intro _ z; cases z) (fun z => nof z.symm)
          have get1 : ∀ {H' : Hp}, H' fd = some (.dK (tkf F1)) → DGet H' fd (.str one) (some (.int x)) := fun h => by
            have := get_tkf (n := one) h
            rw [ea] at this
            exact this
          cases eb : F1.lookup other with
          | none =>
            refine iteT' rfl (iteT' rfl ?_)
            walk_at "v"; walk_at "v"
            refine ⟨fd, .int x, rfl, get1 r1, ?_⟩
            walk_at "v"; walk_at "v"; walk_at "v"
            refine ⟨(by show 2 ≤ sizeLine; decide), fun y3 hy3 => ?_⟩
            have g3 := g2.trans (Go.new (S := fun a => a = fd) (o := .tup [.str one, .str other]) hy3)
            have l3 : upd H2 y3 (.tup [.str one, .str other]) o = some (.frz od (.dT (kvT R))) := by rw [upd_ne (ne_of_none l0 hy3)]; exact l0
            have f3 : upd H2 y3 (.tup [.str one, .str other]) fd = some (.dK (tkf F1)) := by rw [upd_ne (ne_of_none r1 hy3)]; exact r1
            refine ⟨o, .int w, rfl, .inr ⟨kvT R, kT (one, other), y3, .inr ⟨od, l3⟩, rfl, upd_same, (by rw [val_kvT, re] <;> rfl)⟩, ?_⟩
            generalize upd H2 y3 (.tup [.str one, .str other]) = H3 at g3 l3 f3 ⊢
            refine ⟨_, _, rfl, rfl, ?_⟩
            refine ⟨(by show 2 ≤ sizeLine; decide), fun tp htp => ?_⟩
            have eT : upd H3 tp (.tup [.int (x + w), .bl true]) tp = some (.tup [.int (x + w), .bl true]) := upd_same
            have fT : upd H3 tp (.tup [.int (x + w), .bl true]) fd = some (.dK (tkf F1)) := by rw [upd_ne (ne_of_none f3 htp)]; exact f3
            have gT := g3.trans (Go.new (S := fun a => a = fd) (o := .tup [.int (x + w), .bl true]) htp)
            generalize upd H3 tp (.tup [.int (x + w), .bl true]) = HT at eT fT gT ⊢
            refine ⟨tp, _, rfl, SqT.of eT, rfl, _, _, rfl, ?_⟩
            walk_at "v"; walk_at "v"
            refine ⟨fd, _, rfl, DPut.k (k := Sum.inr other) fT (by rw [List.length_map]; exact Nat.lt_of_le_of_lt lF (by decide)), ?_⟩
            rw [put_tkf]
            have es : stepL (F1, b1) ((one, other), w) = (putI F1 other (x + w), true) := by
              unfold stepL
              show (match F1.lookup one with | none => _ | some x => match F1.lookup other with | none => _ | some y => _) = _
              rw [ea, eb]
            have fin : LInv cs R n (putI F1 other (x + w)) := by rw [es] at st; exact st
            refine ⟨_, _, rfl, rfl, ?_⟩
            rw [es]
            exact ⟨⟨_, _, rfl⟩, fin, upd_same, gT.trans (Go.set fT plain_dK rfl)⟩
          | some y =>
            refine iteF' rfl ?_
            walk_at "v"; walk_at "v"
            refine ⟨fd, .int x, rfl, get1 r1, ?_⟩
            walk_at "v"; walk_at "v"; walk_at "v"
            refine ⟨(by show 2 ≤ sizeLine; decide), fun y3 hy3 => ?_⟩
            have g3 := g2.trans (Go.new (S := fun a => a = fd) (o := .tup [.str one, .str other]) hy3)
            have l3 : upd H2 y3 (.tup [.str one, .str other]) o = some (.frz od (.dT (kvT R))) := by rw [upd_ne (ne_of_none l0 hy3)]; exact l0
            have f3 : upd H2 y3 (.tup [.str one, .str other]) fd = some (.dK (tkf F1)) := by rw [upd_ne (ne_of_none r1 hy3)]; exact r1
            refine ⟨o, .int w, rfl, .inr ⟨kvT R, kT (one, other), y3, .inr ⟨od, l3⟩, rfl, upd_same, (by rw [val_kvT, re] <;> rfl)⟩, ?_⟩
            generalize upd H2 y3 (.tup [.str one, .str other]) = H3 at g3 l3 f3 ⊢
            refine ⟨_, _, rfl, rfl, ?_⟩
            walk_at "v"; walk_at "v"
            have gy : DGet H3 fd (.str other) (some (.int y)) := by
              have := get_tkf (n := other) f3
              rw [eb] at this
              exact this
            refine ⟨fd, .int y, rfl, gy, ?_⟩
            refine ⟨_, _, rfl, rfl, ?_⟩
            refine ⟨_, rfl, ite2 (fun z => ?_) (fun z => ?_)⟩
            rotate_left
            · have nl : ¬ x + w < y := by simpa using z
              have es : stepL (F1, b1) ((one, other), w) = (F1, b1) := by
                unfold stepL
                show (match F1.lookup one with | none => _ | some x => match F1.lookup other with | none => _ | some y => _) = _
                rw [ea, eb]
                exact if_neg nl
              rw [es]
              exact ⟨⟨_, _, rfl⟩, I2, f3, g3⟩
            have lt : x + w < y := by simpa using z
            walk_at "v"; walk_at "v"
            refine ⟨fd, .int x, rfl, get1 f3, ?_⟩
            walk_at "v"; walk_at "v"; walk_at "v"
            refine ⟨(by show 2 ≤ sizeLine; decide), fun y4 hy4 => ?_⟩
            have g4 := g3.trans (Go.new (S := fun a => a = fd) (o := .tup [.str one, .str other]) hy4)
            have l4 : upd H3 y4 (.tup [.str one, .str other]) o = some (.frz od (.dT (kvT R))) := by rw [upd_ne (ne_of_none l3 hy4)]; exact l3
            have f4 : upd H3 y4 (.tup [.str one, .str other]) fd = some (.dK (tkf F1)) := by rw [upd_ne (ne_of_none f3 hy4)]; exact f3
            refine ⟨o, .int w, rfl, .inr ⟨kvT R, kT (one, other), y4, .inr ⟨od, l4⟩, rfl, upd_same, (by rw [val_kvT, re] <;> rfl)⟩, ?_⟩
            generalize upd H3 y4 (.tup [.str one, .str other]) = H4 at g4 l4 f4 ⊢
            refine ⟨_, _, rfl, rfl, ?_⟩
            refine ⟨(by show 2 ≤ sizeLine; decide), fun tp htp => ?_⟩
            have eT : upd H4 tp (.tup [.int (x + w), .bl true]) tp = some (.tup [.int (x + w), .bl true]) := upd_same
            have fT : upd H4 tp (.tup [.int (x + w), .bl true]) fd = some (.dK (tkf F1)) := by rw [upd_ne (ne_of_none f4 htp)]; exact f4
            have gT := g4.trans (Go.new (S := fun a => a = fd) (o := .tup [.int (x + w), .bl true]) htp)
            generalize upd H4 tp (.tup [.int (x + w), .bl true]) = HT at eT fT gT ⊢
            refine ⟨tp, _, rfl, SqT.of eT, rfl, _, _, rfl, ?_⟩
            walk_at "v"; walk_at "v"
            refine ⟨fd, _, rfl, DPut.k (k := Sum.inr other) fT (by rw [List.length_map]; exact Nat.lt_of_le_of_lt lF (by decide)), ?_⟩
            rw [put_tkf]
            have es : stepL (F1, b1) ((one, other), w) = (putI F1 other (x + w), true) := by
              unfold stepL
              show (match F1.lookup one with | none => _ | some x => match F1.lookup other with | none => _ | some y => _) = _
              rw [ea, eb]
              exact if_pos lt
            have fin : LInv cs R n (putI F1 other (x + w)) := by rw [es] at st; exact st
            refine ⟨_, _, rfl, rfl, ?_⟩
            rw [es]
            exact ⟨⟨_, _, rfl⟩, fin, upd_same, gT.trans (Go.set fT plain_dK rfl)⟩
      · rintro σ H2 ⟨⟨x4, x5, rfl⟩, I2, r1, g2⟩
        refine ⟨g2.keep _ _ l1 (by intro _ z; cases z) (fun z => nof z.symm), ?_⟩
        obtain ⟨_, a2, a3, a4⟩ := LInv.round (b := false) wf R F (fun _ h => h) I
        generalize R.foldl stepL (F, false) = r at I2 r1 a2 a3 a4 ⊢
        obtain ⟨F1, b1⟩ := r
        have g3 := g1.trans (unl _ g2)
        refine ⟨2 * costL cs F1 + (if b1 = true then 1 else 0), ?_, F1, b1, _, _, rfl, I2, (fun z => ?_), ?_, g3, rfl⟩
        · cases b1 with
          | false => have : costL cs F1 ≤ costL cs F := a2; simp; omega
          | true =>
            rcases a3 rfl with z | z
            · cases z
            · have : costL cs F1 < costL cs F := z; simp; omega
        · obtain ⟨_, e2, e3⟩ := a4 z
          have e2 : F1 = F := e2
          rw [e2]; exact e3
        · rw [upd_ne nof]; exact r1
end
end K1
namespace K1
open PySem PySem.Spec PyProof.Rows L2 Fy
open GxR (TabG Tabbed)
theorem combos_size {n : Nat} : ∀ (k f : Nat), (combos n k f).length ≤ 2 ^ (n - f)
  | 0, f => Nat.one_le_two_pow
  | k + 1, f => by
    have h := wt_range (n := n) (n - f) f rfl
    have : ∀ (l : List Nat), (l.flatMap fun p => (combos n k (p + 1)).map (p :: ·)).length ≤ (l.map fun p => 2 ^ (n - (p + 1))).sum := by
      intro l
      induction l with
      | nil => exact Nat.le_refl _
      | cons p t ih =>
        rw [List.flatMap_cons, List.length_append, List.length_map, List.map_cons, List.sum_cons]
        have := combos_size (n := n) k (p + 1)
        omega
    have h2 := this (List.range' f (n - f))
    unfold combos
    omega
theorem cmb_pre {n k f i : Nat} (h : f + i ≤ n) : ((List.range' f i).flatMap fun q => (combos n k (q + 1)).map (q :: ·)).length ≤ 2 ^ (n - f) := by
  refine Nat.le_trans ?_ (combos_size (n := n) (k + 1) f)
  rw [combos]
  rw [show n - f = i + (n - f - i) by omega, ← List.range'_append_1, List.flatMap_append, List.length_append]
  exact Nat.le_add_right _ _
theorem pow_12 {n f : Nat} (h : n ≤ 12) : 2 ^ (n - f) ≤ 4096 := Nat.pow_le_pow_right (by decide) (show n - f ≤ 12 by omega)
theorem paired_app {α β : Type} {F : α → β → Prop} {zs : List α} {us : List β} (h : Paired F zs us) : ∀ {xs : List α} {ys : List β}, Paired F xs ys → Paired F (xs ++ zs) (ys ++ us)
  | _, _, .nil => h
  | _, _, .cons a t => .cons a (paired_app h t)
theorem paired_zip {α β : Type} {F : α → β → Prop} : ∀ {xs : List α} {ys : List β}, Paired F xs ys → ∃ zs : List (α × β), xs = zs.map (·.1) ∧ ys = zs.map (·.2) ∧ ∀ z ∈ zs, F z.1 z.2
  | _, _, .nil => ⟨[], rfl, rfl, fun _ h => by cases h⟩
  | _, _, .cons (a := x) (b := y) a t => by
    obtain ⟨zs, e1, e2, h⟩ := paired_zip t
    refine ⟨(x, y) :: zs, by rw [e1] <;> rfl, by rw [e2] <;> rfl, fun z hz => ?_⟩
    rcases List.mem_cons.mp hz with rfl | hz
    · exact a
    · exact h z hz
/-- a list of choices -/
def SetsAt (H : Hp) (p : Addr) (ls : List (List Nat)) : Prop := ∃ as : List Addr, H p = some (.lst (as.map V.ref)) ∧ Paired (fun a l => H a = some (.tup (l.map fun (q : Nat) => V.int (q : Int)))) as ls
theorem SetsAt.snoc {H : Hp} {D q : Addr} {ls : List (List Nat)} {l : List Nat} (h : SetsAt H D ls) (hq : H q = some (.tup (l.map fun (q : Nat) => V.int (q : Int)))) : ∃ acc, H D = some (.lst acc) ∧ acc.length = ls.length ∧ SetsAt (upd H D (.lst (acc ++ [.ref q]))) D (ls ++ [l]) := by
  obtain ⟨as, h1, h2⟩ := h
  refine ⟨as.map V.ref, h1, by rw [List.length_map]; exact paired_len h2, as ++ [q], by rw [upd_same, List.map_append] <;> rfl, paired_snoc ?_ (Paired.mapP h2 fun a l e => ?_)⟩
  · rw [upd_ne (ne_of hq h1 (by intro z; cases z))]; exact hq
  · rw [upd_ne (ne_of e h1 (by intro z; cases z))]; exact e
theorem SetsAt.go {TL : List (Addr × Str)} {TG : List Addr} {S : Ad} {H H' : Hp} {D : Addr} {ls : List (List Nat)} (h : SetsAt H D ls) (g : Go TL TG S H H') (s : ¬ S D) (st : ∀ b xs, H b = some (.tup xs) → ¬ S b) : SetsAt H' D ls := by
  obtain ⟨as, h1, h2⟩ := h
  exact ⟨as, g.keep _ _ h1 (by intro _ z; cases z) s, Paired.mapP h2 fun a q e => g.keep _ _ e (by intro _ z; cases z) (st a _ e)⟩
theorem SetsAt.cat {H : Hp} {D E p : Addr} {ls ms : List (List Nat)} (h : SetsAt H D ls) (h' : SetsAt H E ms) : ∃ xs ys, H D = some (.lst xs) ∧ H E = some (.lst ys) ∧ xs.length = ls.length ∧ ys.length = ms.length ∧ (H p = none → SetsAt (upd H p (.lst (xs ++ ys))) p (ls ++ ms)) := by
  obtain ⟨as, h1, h2⟩ := h
  obtain ⟨bs, h3, h4⟩ := h'
  refine ⟨_, _, h1, h3, by rw [List.length_map]; exact paired_len h2, by rw [List.length_map]; exact paired_len h4, fun hp => ⟨as ++ bs, by rw [upd_same, List.map_append], ?_⟩⟩
  have mp : ∀ (a : Addr) (l : List Nat), H a = some (.tup (l.map fun (q : Nat) => V.int (q : Int))) → upd H p (.lst (as.map V.ref ++ bs.map V.ref)) a = some (.tup (l.map fun (q : Nat) => V.int (q : Int))) := fun a l e => by rw [upd_ne (ne_of_none e hp)]; exact e
  exact paired_app (Paired.mapP h4 mp) (Paired.mapP h2 mp)
def sp_law_sets (K : PySem.W.Frag) (k : Nat) : Sp := fun vs H Q E => ∃ (n f : Nat), vs = [.int n, .int k, .int f] ∧ n ≤ 12 ∧ f ≤ n ∧ k ≤ 100 ∧ ∀ p H', H p = none → SetsAt H' p (combos n k f) → Go (TL K) (TG K) (fun _ => False) H H' → Q (.ref p) H'
def sp_law_setsU (K : PySem.W.Frag) (m : Nat) : Sp := fun vs H Q E => ∃ k, k ≤ m ∧ sp_law_sets K k vs H Q E
abbrev N_law_sets : List Str := ["many", "size", "first", "found", "place", "rest"]
theorem sc_law_sets : FnScope N_law_sets ["many", "size", "first"] d_law_sets.scope := ⟨rfl, rfl, rfl, by decide +kernel, rfl, by decide +kernel, by decide +kernel⟩
section
variable {P : Program} {w : World} {K : PySem.W.Frag} {mg : Str → Option Value} {base : Heap}
theorem ok_law_sets_n (T : Txt K mg base) : ∀ m, Good P w K mg base (m + 1) (He.fAd K d_law_sets.at_) ["many", "size", "first"] [] (sp_law_setsU K m)
  | 0 => by
    refine good_of0 T.fn_law_sets sc_law_sets rfl rfl (fun _ _ _ _ _ _ us hl => match us, hl with | [_, _, _], _ => rfl) (fun vs H Q E h => ?_) (fun A outer s H vs Q E hr h => ?_)
    · obtain ⟨_, _, n, f, rfl, _⟩ := h
      rfl
    · obtain ⟨k0, hk0, n, f, rfl, hn, hf, hk, k⟩ := h
      obtain rfl : k0 = 0 := by omega
      refine ⟨_, pss_cons (ps_if (pt_cmpR op_eq (pv 1) pe_int (nomark _)) (pss_one (ps_ret (pe_lst (pa_cons (pe_tup pa_nil) pa_nil)))) pss_nil) pss_dead, ?_⟩
      walk_at "go"
      refine iteT' (decide_eq_true rfl) ?_
      refine ⟨(by decide), fun t0 ht => ⟨(by show 1 ≤ sizeLine; decide), fun p hp => ?_⟩⟩
      have e1 : upd (upd H t0 (.tup [])) p (.lst [.ref t0]) p = some (.lst (([t0] : List Addr).map V.ref)) := upd_same
      have e2 : upd (upd H t0 (.tup [])) p (.lst [.ref t0]) t0 = some (.tup []) := by rw [upd_ne (ne_of_none upd_same hp)]; exact upd_same
      exact k p _ (upd_none.mp hp).2 ⟨[t0], e1, .cons e2 .nil⟩ ((Go.new ht).trans (Go.new hp))
  | m + 1 => by
    have IH := ok_law_sets_n T m
    refine good_of0 T.fn_law_sets sc_law_sets rfl rfl (fun _ _ _ _ _ _ us hl => match us, hl with | [_, _, _], _ => rfl) (fun vs H Q E h => ?_) (fun A outer s H vs Q E hr h => ?_)
    · obtain ⟨_, _, n, f, rfl, _⟩ := h
      rfl
    · obtain ⟨k0, hk0, n, f, rfl, hn, hf, hk, kk⟩ := h
      have hu := hu_of hr
      refine ⟨_, pss_cons (ps_if (pt_cmpR op_eq (pv 1) pe_int (nomark _)) (pss_one (ps_ret (pe_lst (pa_cons (pe_tup pa_nil) pa_nil)))) pss_nil) (pss_cons (ps_set (i := 3) sc_law_sets.nd rfl (by first | exact Or.inl rfl | exact Or.inr rfl) (pe_lst pa_nil)) (pss_cons ((ps_for (passes_of rfl) rfl (pi_range2 rfl T.fr_range (pa_cons (pv 2) (pa_cons (pv 0) pa_nil))) (pg_name (i := 4) sc_law_sets.nd rfl (by first | exact Or.inl rfl | exact Or.inr rfl)) (pss_one (ps_set (i := 3) sc_law_sets.nd rfl (by first | exact Or.inl rfl | exact Or.inr rfl) (pe_op op_cat (pv 3) (pe_lc (own := [("rest", 5)]) (g := gName 5) (tt := tYes) rfl sc_law_sets.nd (pi_list (pg_call IH hr rfl T.gl_law_sets px (pa_cons (pv 0) (pa_cons (pe_op op_sub (pv 1) pe_int) (pa_cons (pe_op op_add (pv 4) pe_int) pa_nil))))) (blkOk_by (own := [("rest", 5)]) (N := N_law_sets) (sc := d_law_sets.scope) (by decide +kernel)) (fun _ _ _ _ _ => (pg_name (i := 5) sc_law_sets.nd rfl (by first | exact Or.inl rfl | exact Or.inr rfl))) (fun _ _ _ _ _ => pts_nil) (fun _ _ _ _ _ => (pe_op (op_catTK K rfl) (pe_tup (pa_cons (pv 4) pa_nil)) (pv 5))))))))) (pss_one (ps_ret (pv 3))))), ?_⟩
      rcases k0 with _ | k
      · walk_at "go"
        refine iteT' (decide_eq_true rfl) ?_
        refine ⟨(by decide), fun t0 ht => ⟨(by show 1 ≤ sizeLine; decide), fun p hp => ?_⟩⟩
        have e1 : upd (upd H t0 (.tup [])) p (.lst [.ref t0]) p = some (.lst (([t0] : List Addr).map V.ref)) := upd_same
        have e2 : upd (upd H t0 (.tup [])) p (.lst [.ref t0]) t0 = some (.tup []) := by rw [upd_ne (ne_of_none upd_same hp)]; exact upd_same
        exact kk p _ (upd_none.mp hp).2 ⟨[t0], e1, .cons e2 .nil⟩ ((Go.new ht).trans (Go.new hp))
      walk_at "go"
      refine iteF' (decide_eq_false fun z => by have := V.int.inj z; omega) ?_
      refine ⟨(by decide), fun p0 hp0 => ?_⟩
      have g0 := Go.new (TL := TL K) (TG := TG K) (S := fun _ => False) (o := .lst []) hp0
      have s0 : SetsAt (upd H p0 (.lst [])) p0 [] := ⟨[], upd_same, .nil⟩
      generalize upd H p0 (.lst []) = H0 at g0 s0 ⊢
      walk_at "v"; walk_at "v"
      refine ⟨f, n, rfl, ⟨by omega, by omega, by omega, by omega⟩, ?_⟩
      rw [show ((n : Int) - (f : Int)).toNat = n - f by omega]
      refine for_range (lo := f) (n := n - f) (fun i σ H' => ∃ (p : Addr) (x4 : Option V), σ = [some (.int n), some (.int (k + 1 : Nat)), some (.int f), some (.ref p), x4, none] ∧ SetsAt H' p ((List.range' f i).flatMap fun q => (combos n k (q + 1)).map (q :: ·)) ∧ H p = none ∧ Go (TL K) (TG K) (fun _ => False) H H') ⟨_, _, rfl, s0, hp0, g0⟩ ?_ ?_
      · rintro i σ H1 hi ⟨p, x4, rfl, s1, hpn, g1⟩
        walk_at "v"; walk_at "v"; walk_at "v"
        refine ⟨_, _, rfl, rfl, ?_⟩
        walk_at "v"
        refine ⟨_, _, rfl, rfl, ?_⟩
        refine ⟨k, by omega, n, f + i + 1, by show [V.int n, V.int (((k + 1 : Nat) : Int) - 1), V.int ((f : Int) + (i : Int) + 1)] = _; rw [show ((k + 1 : Nat) : Int) - 1 = k by omega, show ((f : Int) + (i : Int) + 1) = ((f + i + 1 : Nat) : Int) by omega], hn, by omega, by omega, fun L H2 hL sL g2 => ?_⟩
        obtain ⟨as, l1, l2⟩ := sL
        obtain ⟨zs, rfl, ez, l3⟩ := paired_zip l2
        have lz : zs.length ≤ 4096 := by
          have := congrArg List.length ez
          rw [List.length_map] at this
          rw [← this]
          exact Nat.le_trans (combos_size _ _) (pow_12 hn)
        refine ⟨L, rfl, ⟨_, SqL.of l1⟩, fun D hD => ?_⟩
        refine lc_pre (fun z : Addr × List Nat => V.ref z.1) zs rfl (by rw [List.map_map] at l1; exact walk_itl) (fun pre H' => SetsAt H' D (pre.map fun z => (f + i) :: z.2) ∧ Go (TL K) (TG K) (fun a => a = D) H2 H') ⟨⟨[], upd_same, .nil⟩, Go.new hD⟩ (fun pre H' h => SqL.of (by rw [List.map_map] at l1; exact h.2.keep _ _ l1 (by intro _ z; cases z) (ne_of_none l1 hD))) ?_ ?_
        · rintro pre ⟨a, l⟩ post H3 eb ⟨s3, g3⟩
          refine ⟨rfl, tYes_ok ?_⟩
          have hl : H3 a = some (.tup (l.map fun (q : Nat) => V.int (q : Int))) := g3.keep _ _ (l3 (a, l) (by rw [eb]; simp)) (by intro _ z; cases z) (ne_of_none (l3 (a, l) (by rw [eb]; simp)) hD)
          walk_at "v"
          refine ⟨(by show 1 ≤ sizeLine; decide), fun tp htp => ?_⟩
          walk_at "v"
          have ea : a ≠ tp := ne_of_none hl htp
          have lpre : pre.length < sizeLine := Nat.lt_of_lt_of_le (len_mid eb lz) (by decide)
          have ll : l.length < 999 := by
            have : l ∈ combos n k (f + i + 1) := by rw [ez, eb]; simp
            have := (combos_len k (f + i + 1) l this).1
            omega
          refine ⟨tp, a, [.int (f + i)], _, rfl, rfl, SqT.of upd_same, SqT.of (by rw [upd_ne ea]; exact hl), (by simp), (by rw [List.length_map]; show 1 + l.length ≤ sizeLine; exact Nat.le_of_lt (thou_lt (show 1 + l.length < 1000 by omega))), fun z => ?_, fun z tq htq => ?_⟩
          · have el : l = [] := List.map_eq_nil_iff.mp z
            subst el
            have g4 := g3.trans (Go.new (S := fun a => a = D) (o := .tup [.int ((f : Int) + (i : Int))]) htp)
            have et : upd H3 tp (.tup [.int ((f : Int) + (i : Int))]) tp = some (.tup (([f + i] : List Nat).map fun (q : Nat) => V.int (q : Int))) := upd_same
            obtain ⟨acc, a1, a2, a3⟩ := (s3.go (TL := TL K) (TG := TG K) (Go.new htp) id (fun _ _ _ => id)).snoc et
            exact ⟨acc, a1, by rw [a2, List.length_map]; exact lpre, by rw [List.map_append]; exact a3, g4.trans (Go.set a1 plain_lst rfl)⟩
          · have htq0 := (upd_none.mp htq).2
            have et : upd (upd H3 tp (.tup [.int ((f : Int) + (i : Int))])) tq (.tup ([.int ((f : Int) + (i : Int))] ++ l.map fun (q : Nat) => V.int (q : Int))) tq = some (.tup (((f + i) :: l).map fun (q : Nat) => V.int (q : Int))) := upd_same
            have g4 := (g3.trans (Go.new (S := fun a => a = D) (o := .tup [.int ((f : Int) + (i : Int))]) htp)).trans (Go.new (o := .tup ([.int ((f : Int) + (i : Int))] ++ l.map fun (q : Nat) => V.int (q : Int))) htq)
            obtain ⟨acc, a1, a2, a3⟩ := ((s3.go (TL := TL K) (TG := TG K) (Go.new htp) id (fun _ _ _ => id)).go (TL := TL K) (TG := TG K) (Go.new htq) id (fun _ _ _ => id)).snoc et
            exact ⟨acc, a1, by rw [a2, List.length_map]; exact lpre, by rw [List.map_append]; exact a3, g4.trans (Go.set a1 plain_lst rfl)⟩
        · rintro H3 ⟨s3, g3⟩
          have g4 : Go (TL K) (TG K) (fun _ => False) H1 H3 := (g2.wide.trans g3).drop fun b z => .inr (by rw [z]; exact g2.free _ hD)
          have s4 := s1.go g4 id (fun _ _ _ => id)
          have e3 : zs.map (fun z => (f + i) :: z.2) = (combos n k (f + i + 1)).map ((f + i) :: ·) := by rw [ez, List.map_map] <;> rfl
          rw [e3] at s3
          refine ⟨p, D, ?_⟩
          obtain ⟨xs, ys, x1, x2, x3, x4, x5⟩ := SetsAt.cat (p := p) s4 s3
          refine ⟨_, _, rfl, rfl, x1, x2, ?_, fun p2 hp2 => ?_⟩
          · rw [x3, x4, ← List.length_append]
            have : ((List.range' f i).flatMap fun q => (combos n k (q + 1)).map (q :: ·)) ++ (combos n k (f + i + 1)).map ((f + i) :: ·) = (List.range' f (i + 1)).flatMap fun q => (combos n k (q + 1)).map (q :: ·) := by
              rw [List.range'_1_concat, List.flatMap_append] <;> simp
            rw [this]
            exact Nat.le_of_lt (Nat.lt_of_le_of_lt (Nat.le_trans (cmb_pre (by omega)) (pow_12 hn)) (by decide))
          · obtain ⟨xs', ys', y1, y2, _, _, y5⟩ := SetsAt.cat (p := p2) s4 s3
            rw [x1] at y1
            rw [x2] at y2
            cases y1
            cases y2
            refine ⟨p2, _, rfl, ?_, (g1.trans g4).free _ hp2, (g1.trans g4).trans (Go.new hp2)⟩
            rw [List.range'_1_concat, List.flatMap_append]
            have := y5 hp2
            simpa using this
      · rintro σ H1 ⟨p, x4, rfl, s1, hpn, g1⟩
        walk_at "v"
        exact kk p H1 hpn s1 g1
end
end K1
namespace K1
open PySem PySem.Spec PyProof.Rows L2 Fy
open GxR (TabG Tabbed)
noncomputable def nearQ (R : Rs) (sts : List Str) (most : Int) (c : Str) : Bool := sts.any fun s => match far R s c with | some x => decide (x ≤ most) | none => false
noncomputable def farS (R : Rs) (cs sts : List Str) (most : Int) : List Str := cs.filter fun c => !nearQ R sts most c
def nearV (H : Hp) (n : Str) (most : Int) : V → Bool
  | .ref a => (match H a with | some (.dK kvs) => (match valV kvs (Sum.inr n) with | some (.int y) => decide (y ≤ most) | _ => false) | _ => false)
  | _ => false
theorem nearV_at {H : Hp} {n : Str} {most : Int} {a : Addr} {F : Fs} (h : H a = some (.dK (tkf F))) : nearV H n most (.ref a) = (match F.lookup n with | some y => decide (y ≤ most) | none => false) := by
  show (match H a with | some (.dK kvs) => (match valV kvs (Sum.inr n) with | some (.int y) => decide (y ≤ most) | _ => false) | _ => false) = _
  rw [h]
  show (match valV (tkf F) (Sum.inr n) with | some (.int y) => decide (y ≤ most) | _ => false) = _
  rw [val_tkf]
  cases F.lookup n <;> rfl
theorem near_any {R : Rs} {H : Hp} {n : Str} {most : Int} : ∀ {as : List Addr} {sts : List Str}, Paired (fun a s => ∃ F, Times R s F ∧ H a = some (.dK (tkf F))) as sts → (as.map fun a => nearV H n most (.ref a)).any id = nearQ R sts most n
  | _, _, .nil => rfl
  | _, _, .cons e t => by
    obtain ⟨F, e1, e2⟩ := e
    rw [List.map_cons, List.any_cons, near_any t, nearV_at e2, far_eq e1] <;> rfl
theorem far_fold (R : Rs) (sts : List Str) (most : Int) : ∀ (cs l : List Str), cs.foldl (fun (l : List Str) n => if nearQ R sts most n = true then l else l ++ [n]) l = l ++ farS R cs sts most
  | [], l => by simp [farS]
  | c :: cs, l => by
    rw [List.foldl_cons, far_fold]
    unfold farS
    by_cases h : nearQ R sts most c = true
    · rw [if_pos h, List.filter_cons_of_neg (by rw [h]; decide)]
    · rw [if_neg h, List.filter_cons_of_pos (by rw [eq_false_of_ne_true h] <;> rfl)]
      simp
def sp_Town_far_corners (K : PySem.W.Frag) : Sp := fun vs H Q E => ∃ (t c d sa : Addr) (cs sts : List Str) (R : Rs) (most : Int), vs = [.ref t, .ref sa, .int most] ∧ TownAt (CTwn K) H t c d cs R ∧ WfT cs R ∧ Tb (TL K) (TG K) H ∧ H sa = some (.lst (sts.map V.str)) ∧ sts.length ≤ 1000 ∧
  ((most < 0 ∨ ∃ s ∈ sts, s ∉ cs) → ∀ H', Go (TL K) (TG K) (fun _ => False) H H' → E (.ref (SErr K)) none H') ∧
  (0 ≤ most → (∀ s ∈ sts, s ∈ cs) → ∀ p H', H p = none → H' p = some (.tup ((farS R cs sts most).map V.str)) → Go (TL K) (TG K) (fun _ => False) H H' → Q (.ref p) H')
section
variable {P : Program} {w : World} {K : PySem.W.Frag} {mg : Str → Option Value} {base : Heap}
abbrev N_Town_far_corners : List Str := ["self", "stations", "most", "tables", "station", "found", "corner", "table"]
theorem sc_Town_far_corners : FnScope N_Town_far_corners ["self", "stations", "most"] d_Town_far_corners.scope := ⟨rfl, rfl, rfl, by decide +kernel, rfl, by decide +kernel, by decide +kernel⟩
theorem ok_Town_far_corners (T : Txt K mg base) : Good P w K mg base 3 (He.fAd K d_Town_far_corners.at_) ["self", "stations", "most"] [] (sp_Town_far_corners K) := by
  refine good_of0 T.fn_Town_far_corners sc_Town_far_corners rfl rfl (fun _ _ _ _ _ _ us hl => match us, hl with | [_, _, _], _ => rfl) (fun vs H Q E h => ?_) (fun A outer s H vs Q E hr h => ?_)
  · obtain ⟨t, c, d, sa, cs, sts, R, most, rfl, _⟩ := h
    rfl
  · obtain ⟨t, c, d, sa, cs, sts, R, most, rfl, h⟩ := h
    have cl_Town := T.cl_Town
    have no_Town_corners := T.no_Town_corners
    have no_Town_streets := T.no_Town_streets
    refine ⟨_, (pss_cons (ps_if (pt_cmpR op_lt (pv 2) pe_int (nomark _)) (pss_one (ps_raiseC rfl tkx T.ex_StreetError T.gl_StreetError rfl)) pss_nil)
    (pss_cons (ps_setLcX (j := 3) (i := 4) tkx rfl rfl rfl sc_Town_far_corners.nd rfl rfl (sw_true rfl rfl rfl (by decide +kernel)) (pv 1) (blkOk_by (own := [("station", 4)]) (N := N_Town_far_corners) (sc := d_Town_far_corners.scope) (by decide +kernel)) (fun _ _ _ _ _ => (pg_name (i := 4) sc_Town_far_corners.nd rfl (by first | exact Or.inl rfl | exact Or.inr rfl))) (fun _ _ _ _ _ _ _ hx => (pg_meth (ok_Town_times T) (hr.mono (by decide)) T.cl_Town T.me_Town_times hx (pv 0) (pa_cons (pv 4) pa_nil))))
    (pss_cons (ps_set (i := 5) sc_Town_far_corners.nd rfl (by first | exact Or.inl rfl | exact Or.inr rfl) (pe_lst pa_nil))
    (pss_cons (ps_for (passes_of rfl) rfl (pi_list (pe_fld (pv 0) rfl)) (pg_name (i := 6) sc_Town_far_corners.nd rfl (by first | exact Or.inl rfl | exact Or.inr rfl)) (pss_one (ps_if (pt_not (pt_val (pe_genB (i := 7) tk_any (by rfl) T.fr_any (by decide +kernel) hr T.tb_Town_far_corners rfl sc_Town_far_corners.nd rfl (genS_by (N := N_Town_far_corners) (sc := d_Town_far_corners.scope) (by decide +kernel)) (pv 3) (fun _ _ _ => qts_nil) (fun _ _ _ => (q_and (q_cmp oq_din (q_var 6) (q_var 7)) (q_one (q_cmp oq_le (q_get (q_var 7) (q_var 6)) (q_var 2))))) (fun _ => rfl)))) (pss_one (ps_expr (pe_bm PySem.F.plainAttrs_list PySem.F.slot_list_append PySem.F.type_list_append mt_append (pv 5) (pa_cons (pv 6) pa_nil)))) pss_nil)))
    (pss_one (ps_ret (pe_callTy call_tuple_of (by rfl) T.fr_tuple (by decide +kernel) (pa_cons (pv 5) pa_nil)))))))), ?_⟩
    obtain ⟨D, wf, tb, es, ls, k1, k2⟩ := h
    obtain ⟨⟨dx, h1⟩, h2, h3⟩ := id D
    walk_at "go"
    refine ite2 (fun z => k1 (.inl (of_decide_eq_true z)) _ .refl) (fun z => ?_)
    have mp : 0 ≤ most := by simpa using z
    walk_at "v"
    refine ⟨sa, sts.map V.str, rfl, SqL.of es, fun L hL => ?_⟩
    refine ⟨fun k H' => (∃ as : List Addr, H' L = some (.lst (as.map V.ref)) ∧ Paired (fun a s => ∃ F, Times R s F ∧ H' a = some (.dK (tkf F))) as (sts.take k)) ∧ (∀ s ∈ sts.take k, s ∈ cs) ∧ Go (TL K) (TG K) (fun a => a = L) H H', ⟨⟨[], upd_same, .nil⟩, (fun _ h => by cases h), Go.new hL⟩, (fun k H' h => SqL.of (h.2.2.keep _ _ es (by intro _ z; cases z) (ne_of_none es hL))), ?_, ?_⟩
    · rintro k x ex H' ⟨⟨as, q1, q2⟩, q3, g⟩
      rw [List.getElem?_map] at ex
      obtain ⟨s, es2, rfl⟩ := Option.map_eq_some_iff.mp ex
      have g' : Go (TL K) (TG K) (fun _ => False) H H' := g.drop fun b z => .inr (by rw [z]; exact hL)
      have D1 := D.go g' id id id
      obtain ⟨⟨dx1, u1⟩, u2, u3⟩ := id D1
      have tk1 : sts.take (k + 1) = sts.take k ++ [s] := by rw [List.take_add_one, es2] <;> rfl
      refine ⟨rfl, ?_⟩
      walk_at "v"
      refine ⟨_, _, _, rfl, u1, rfl, ?_⟩
      walk_at "v"
      refine ⟨t, c, d, cs, R, s, rfl, D1, wf, g'.tb tb, fun z => k1 (.inr ⟨s, List.mem_of_getElem? es2, z⟩) H' g', fun hs F p H1 tm srt cF hp hp1 g1 => ?_⟩
      have q1' := g1.get q1
      refine ⟨as.map V.ref, q1', ?_, ⟨as ++ [p], by rw [upd_same, List.map_append] <;> rfl, ?_⟩, ?_, (g.trans g1.wide).trans (Go.set q1' plain_lst rfl)⟩
      · rw [List.length_map, paired_len q2, List.length_take]
        exact thou_le (Nat.le_trans (Nat.min_le_right _ _) ls)
      · rw [tk1]
        refine paired_snoc (F := fun a s => ∃ F, Times R s F ∧ upd H1 L (.lst (as.map V.ref ++ [.ref p])) a = some (.dK (tkf F))) ⟨F, tm, (by rw [upd_ne (ne_of hp1 q1' (by intro z; cases z))]; exact hp1)⟩ (Paired.mapP q2 fun a s e => ?_)
        obtain ⟨F', e1, e2⟩ := e
        have e3 := g1.get e2
        exact ⟨F', e1, by rw [upd_ne (ne_of e3 q1' (by intro z; cases z))]; exact e3⟩
      · intro s' hs'
        rw [tk1] at hs'
        rcases List.mem_append.mp hs' with z | z
        · exact q3 s' z
        · rw [List.mem_singleton.mp z]; exact hs
    · rintro H1 ⟨⟨as, q1, q2⟩, q3, g⟩
      rw [List.length_map, List.take_length] at q2 q3
      have g1 : Go (TL K) (TG K) (fun _ => False) H H1 := g.drop fun b z => .inr (by rw [z]; exact hL)
      have D1 := D.go g1 id id id
      obtain ⟨⟨dx1, u1⟩, u2, u3⟩ := id D1
      refine ⟨by decide, fun fl hfl => ?_⟩
      have fL : L ≠ fl := ne_of_none q1 hfl
      have fc : c ≠ fl := ne_of_none u2 hfl
      have g2 := g1.trans (Go.new (S := fun _ => False) (o := .lst []) hfl)
      have e2 : upd H1 fl (.lst []) fl = some (.lst (([] : List Str).map V.str)) := upd_same
      have kp : ∀ b u, H1 b = some u → upd H1 fl (.lst []) b = some u := fun b u e => by rw [upd_ne (ne_of_none e hfl)]; exact e
      have q1 := kp _ _ q1
      have q2 := Paired.mapP q2 (fun a s (e : ∃ F, Times R s F ∧ H1 a = some (.dK (tkf F))) => (show ∃ F, Times R s F ∧ upd H1 fl (.lst []) a = some (.dK (tkf F)) from let ⟨F, e1, e2⟩ := e; ⟨F, e1, kp _ _ e2⟩))
      have u1 := kp _ _ u1
      have u2 := kp _ _ u2
      have u3 := kp _ _ u3
      have ffl : H fl = none := g1.free fl hfl
      generalize upd H1 fl (.lst []) = H2 at g2 e2 q1 q2 u1 u2 u3 ⊢
      walk_at "v"
      refine ⟨_, _, _, _, _, rfl, u1, T.cl_Town, T.no_Town_corners, rfl, ?_⟩
      refine ⟨c, rfl, ⟨_, SqL.of u2⟩, for_fold V.str cs rfl walk_itl (fun (l : List Str) n => if nearQ R sts most n = true then l else l ++ [n]) [] (fun l σ H' => (∃ x6 : Option V, σ = [some (.ref t), some (.ref sa), some (.int most), some (.ref L), none, some (.ref fl), x6, none]) ∧ H' fl = some (.lst (l.map V.str)) ∧ Go (TL K) (TG K) (fun x => x = fl) H2 H')
        ⟨⟨_, rfl⟩, e2, .refl⟩ (fun _ σ H' h => SqL.of (h.2.2.keep _ _ u2 (by intro _ z; cases z) fc)) ?_ ?_⟩
      · rintro pre n post σ H3 eb ⟨⟨x6, rfl⟩, r1, g3⟩
        have lp : (pre.foldl (fun (l : List Str) n => if nearQ R sts most n = true then l else l ++ [n]) []).length < sizeLine := by
          rw [far_fold, List.nil_append]
          exact thou_lt (Nat.lt_of_le_of_lt (List.length_filter_le _ _) (Nat.lt_trans (len_mid eb wf.lenc) (by decide)))
        generalize (pre.foldl (fun (l : List Str) n => if nearQ R sts most n = true then l else l ++ [n]) []) = l at r1 lp ⊢
        have fz : ∀ {b u}, H2 b = some u → b ≠ fl → NoT u → H3 b = some u := fun e ne n => g3.keep _ _ e n ne
        walk_at "v"
        have gH3 : Go (TL K) (TG K) (fun _ => False) H H3 := (g2.wide.trans g3).drop fun b z => .inr (by rw [z]; exact ffl)
        have tb3 := gH3.tb tb
        refine ⟨tb3.gen _ T.tg_Town_far_corners, as.map V.ref, ⟨L, rfl, .inl (SqL.of (fz q1 fL (by intro _ z; cases z)))⟩, fun H4 hT4 => ?_⟩
        have gx : Go (TL K) (TG K) (fun _ => False) H3 H4 := Go.tab hT4 (tb3.gen _ T.tg_Town_far_corners) T.tg_Town_far_corners T.td_Town_far_corners
        refine ⟨fun _ => true, fun x => .bl (nearV H4 n most x), fun x hx => rfl, fun x hx _ => ?_, ?_⟩
        · obtain ⟨a, ha, rfl⟩ := List.mem_map.mp hx
          obtain ⟨zs, ea, eb2, hz⟩ := paired_zip q2
          rw [ea] at ha
          obtain ⟨z, hz1, rfl⟩ := List.mem_map.mp ha
          obtain ⟨F, f1, f2⟩ := hz z hz1
          have f4 : H4 z.1 = some (.dK (tkf F)) := gx.get (fz f2 (ne_of f2 e2 (by intro z; cases z)) (by intro _ z; cases z))
          have nv := nearV_at (n := n) (most := most) f4
          show qAndV _ _ _ _ fun q => q = QV.v (.bl (nearV H4 n most (.ref z.1)))
          rw [nv]
          walk_at "v"; walk_at "v"
          refine ⟨_, _, rfl, rfl, _, tkf F, Sum.inr n, rfl, rfl, .inl f4, _, rfl, ?_⟩
          rw [val_tkf]
          cases el : F.lookup n with
          | none => exact iteF' rfl rfl
          | some y =>
            refine iteT' rfl ?_
            walk_at "v"; walk_at "v"
            refine ⟨_, _, Sum.inr n, .int y, rfl, rfl, .inl f4, (by rw [val_tkf, el] <;> rfl), ?_⟩
            walk_at "v"
            exact ⟨_, _, rfl, rfl, _, _, rfl, rfl, rfl⟩
        · rw [List.filter_eq_self.mpr fun _ _ => rfl, List.map_map]
          refine ⟨as.map fun a => nearV H4 n most (.ref a), by rw [List.map_map] <;> rfl, ?_⟩
          have q4 := Paired.mapP q2 (fun a s (e : ∃ F, Times R s F ∧ H2 a = some (.dK (tkf F))) => (show ∃ F, Times R s F ∧ H4 a = some (.dK (tkf F)) from let ⟨F, f1, f2⟩ := e; ⟨F, f1, gx.get (fz f2 (ne_of f2 e2 (by intro z; cases z)) (by intro _ z; cases z))⟩))
          rw [near_any q4]
          refine ⟨_, rfl, ?_⟩
          have g4 := g3.trans gx.wide
          have r4 := gx.get r1
          cases en : nearQ R sts most n with
          | true => exact iteF' rfl (by rw [if_pos rfl]; exact ⟨⟨_, rfl⟩, r4, g4⟩)
          | false =>
            refine iteT' rfl ?_
            rw [if_neg (by decide)]
            walk_at "v"
            refine ⟨.inl ⟨rfl, _, SqL.of r4⟩, ?_⟩
            walk_at "v"
            refine ⟨_, _, _, rfl, rfl, r4, (by rw [List.length_map]; exact lp), ⟨_, rfl⟩, ?_, g4.trans (Go.set r4 plain_lst rfl)⟩
            rw [upd_same, List.map_append] <;> rfl
      · rintro σ H3 ⟨⟨x6, rfl⟩, r1, g3⟩
        rw [far_fold, List.nil_append] at r1
        walk_at "v"
        refine ⟨fl, _, rfl, .inl ⟨SqL.of r1, fun p hp => ?_⟩⟩
        have g4 : Go (TL K) (TG K) (fun _ => False) H H3 := (g2.wide.trans g3).drop fun b z => .inr (by rw [z]; exact ffl)
        exact k2 mp q3 p _ (g4.free p hp) upd_same (g4.trans (Go.new hp))
end
end K1
namespace K1
open PySem PySem.Spec PyProof.Rows L2 Fy
open GxR (TabG Tabbed)
abbrev tupN (l : List Nat) : HO := .tup (l.map fun (q : Nat) => V.int (q : Int))
def begD (x : List Nat × Nat) : PyData := .tuple [.tuple (x.1.map fun (q : Nat) => PyData.int (q : Int)), .int x.2]
def BegAt (H : Hp) (a : Addr) (x : List Nat × Nat) : Prop := ∃ b, H a = some (.tup [.ref b, .int (x.2 : Int)]) ∧ H b = some (tupN x.1)
def StkAt (H : Hp) (p : Addr) (xs : List (List Nat × Nat)) : Prop := ∃ as : List Addr, H p = some (.lst (as.map V.ref)) ∧ Paired (BegAt H) as xs
theorem depth_ints (l : List Nat) : PyData.depthAll (l.map fun (q : Nat) => PyData.int (q : Int)) = 0 := by
  induction l with
  | nil => rfl
  | cons a t ih => rw [List.map_cons, PyData.depthAll, ih] <;> rfl
theorem lay_ints (l : List Nat) : PyData.canLayAll0 (l.map fun (q : Nat) => PyData.int (q : Int)) = true := by
  induction l with
  | nil => rfl
  | cons a t ih => rw [List.map_cons, PyData.canLayAll0, ih] <;> rfl
theorem dp_ints {K : PySem.W.Frag} {H : Hp} : ∀ (l : List Nat), DpAll K H (l.map fun (q : Nat) => V.int (q : Int)) (l.map fun (q : Nat) => PyData.int (q : Int))
  | [] => .nil
  | a :: t => .cons (.int _) (dp_ints t)
theorem dp_beg {K : PySem.W.Frag} {H : Hp} {a : Addr} {x : List Nat × Nat} (h : BegAt H a x) : Dp K H (.ref a) (begD x) := by
  obtain ⟨b, h1, h2⟩ := h
  exact .tup (SqT.of h1) (.cons (.tup (SqT.of h2) (dp_ints _)) (.cons (.int _) .nil))
theorem dp_stk {K : PySem.W.Frag} {H : Hp} : ∀ {as : List Addr} {xs : List (List Nat × Nat)}, Paired (BegAt H) as xs → DpAll K H (as.map V.ref) (xs.map begD)
  | _, _, .nil => .nil
  | _, _, .cons h t => .cons (dp_beg h) (dp_stk t)
theorem shaped_stk (xs : List (List Nat × Nat)) : SeqAt.shaped (.list (xs.map begD)) = true := by
  have h1 : PyData.canLayAll0 (xs.map begD) = true := by
    induction xs with
    | nil => rfl
    | cons a t ih =>
      rw [List.map_cons, PyData.canLayAll0, ih]
      unfold begD
      rw [PyData.canLay0, PyData.canLayAll0, PyData.canLay0, lay_ints] <;> rfl
  have h2 : PyData.depthAll (xs.map begD) ≤ 2 := by
    clear h1
    induction xs with
    | nil => exact Nat.zero_le _
    | cons a t ih =>
      rw [List.map_cons, PyData.depthAll]
      unfold begD at ih ⊢
      rw [PyData.depth, PyData.depthAll, PyData.depth, depth_ints, PyData.depthAll, PyData.depth, PyData.depthAll]
      exact Nat.max_le.mpr ⟨by decide, ih⟩
  show (PyData.canLay0 (.list (xs.map begD)) && decide (PyData.depth (.list (xs.map begD)) ≤ 64)) = true
  rw [Bool.and_eq_true]
  refine ⟨by rw [PyData.canLay0]; exact h1, decide_eq_true ?_⟩
  rw [PyData.depth]
  omega
theorem eqv_nil (ds : List PyData) : PyData.eqv (.list ds) (.list []) = decide (ds = []) := by
  rw [PyData.eqv]
  cases ds with
  | nil => rfl
  | cons a t => rw [PyData.eqvAll] <;> rfl
theorem BegAt.go {TL : List (Addr × Str)} {TG : List Addr} {S : Ad} {H H' : Hp} {a : Addr} {x : List Nat × Nat} (h : BegAt H a x) (g : Go TL TG S H H') (st : ∀ b xs, H b = some (.tup xs) → ¬ S b) : BegAt H' a x := by
  obtain ⟨b, h1, h2⟩ := h
  exact ⟨b, g.keep _ _ h1 (by intro _ z; cases z) (st _ _ h1), g.keep _ _ h2 (by intro _ z; cases z) (st _ _ h2)⟩
theorem StkAt.go {TL : List (Addr × Str)} {TG : List Addr} {S : Ad} {H H' : Hp} {p : Addr} {xs : List (List Nat × Nat)} (h : StkAt H p xs) (g : Go TL TG S H H') (s : ¬ S p) (st : ∀ b xs, H b = some (.tup xs) → ¬ S b) : StkAt H' p xs := by
  obtain ⟨as, h1, h2⟩ := h
  exact ⟨as, g.keep _ _ h1 (by intro _ z; cases z) s, Paired.mapP h2 fun a x e => e.go g st⟩
theorem BegAt.upd {H : Hp} {a p : Addr} {x : List Nat × Nat} {xs ys : List V} (h : BegAt H a x) (hp : H p = some (.lst xs)) : BegAt (upd H p (.lst ys)) a x := by
  obtain ⟨b, h1, h2⟩ := h
  exact ⟨b, by rw [upd_ne (ne_of h1 hp (by intro z; cases z))]; exact h1, by rw [upd_ne (ne_of h2 hp (by intro z; cases z))]; exact h2⟩
theorem StkAt.push {H : Hp} {p a : Addr} {xs : List (List Nat × Nat)} {x : List Nat × Nat} (h : StkAt H p xs) (ha : BegAt H a x) : ∃ acc, H p = some (.lst acc) ∧ acc.length = xs.length ∧ StkAt (upd H p (.lst (acc ++ [.ref a]))) p (xs ++ [x]) := by
  obtain ⟨as, h1, h2⟩ := h
  exact ⟨as.map V.ref, h1, by rw [List.length_map]; exact paired_len h2, as ++ [a], by rw [upd_same, List.map_append] <;> rfl, paired_snoc (ha.upd h1) (Paired.mapP h2 fun a x e => e.upd h1)⟩
theorem paired_unsnoc {α β : Type} {F : α → β → Prop} {y : β} : ∀ {xs : List α} {ys : List β}, Paired F xs (ys ++ [y]) → ∃ zs x, xs = zs ++ [x] ∧ Paired F zs ys ∧ F x y
  | _, [], .cons a .nil => ⟨[], _, rfl, .nil, a⟩
  | _, _ :: _, .cons a t => by
    obtain ⟨zs, x, e, h1, h2⟩ := paired_unsnoc t
    exact ⟨_ :: zs, x, by rw [e] <;> rfl, .cons a h1, h2⟩
theorem StkAt.pop {H : Hp} {p : Addr} {xs : List (List Nat × Nat)} {x : List Nat × Nat} (h : StkAt H p (xs ++ [x])) : ∃ acc a, H p = some (.lst acc) ∧ acc[acc.length - 1]? = some (.ref a) ∧ BegAt H a x ∧ BegAt (upd H p (.lst acc.dropLast)) a x ∧ StkAt (upd H p (.lst acc.dropLast)) p xs := by
  obtain ⟨as, h1, h2⟩ := h
  obtain ⟨zs, a, rfl, h3, h4⟩ := paired_unsnoc h2
  refine ⟨_, a, h1, by simp, h4, h4.upd h1, zs, by rw [upd_same, List.map_append]; simp, Paired.mapP h3 fun a x e => e.upd h1⟩
/-- the best of what is done -/
def BestAt (H : Hp) (f : List Nat → Nat) (v : V) (done : List (List Nat)) : Prop := (done = [] ∧ v = .non) ∨ ∃ m a b, v = .ref a ∧ Best f done m ∧ H a = some (.tup [.int (f m : Int), .ref b]) ∧ H b = some (tupN m)
theorem BestAt.go {TL : List (Addr × Str)} {TG : List Addr} {S : Ad} {H H' : Hp} {f : List Nat → Nat} {v : V} {done : List (List Nat)} (h : BestAt H f v done) (g : Go TL TG S H H') (st : ∀ b xs, H b = some (.tup xs) → ¬ S b) : BestAt H' f v done := by
  rcases h with h | ⟨m, a, b, h1, h2, h3, h4⟩
  · exact .inl h
  · exact .inr ⟨m, a, b, h1, h2, g.keep _ _ h3 (by intro _ z; cases z) (st _ _ h3), g.keep _ _ h4 (by intro _ z; cases z) (st _ _ h4)⟩
theorem Best.first (f : List Nat → Nat) (l : List Nat) : Best f [l] l := ⟨List.mem_singleton.mpr rfl, fun a h => by rw [List.mem_singleton.mp h]; exact rowLt_irr l⟩
theorem rowLt_neg {f : List Nat → Nat} {a b c : List Nat} (h : rowLt f a b = false) (h' : rowLt f c b = true) : rowLt f a c = false := by
  cases e : rowLt f a c with
  | false => rfl
  | true => rw [rowLt_trans e h'] at h; cases h
theorem Best.less {f : List Nat → Nat} {done : List (List Nat)} {m l : List Nat} (h : Best f done m) (e : rowLt f l m = true) : Best f (done ++ [l]) l := by
  refine ⟨by simp, fun a ha => ?_⟩
  rcases List.mem_append.mp ha with ha | ha
  · exact rowLt_neg (h.2 a ha) e
  · rw [List.mem_singleton.mp ha]; exact rowLt_irr l
theorem Best.keep {f : List Nat → Nat} {done : List (List Nat)} {m l : List Nat} (h : Best f done m) (e : rowLt f l m = false) : Best f (done ++ [l]) m := by
  refine ⟨by simp [h.1], fun a ha => ?_⟩
  rcases List.mem_append.mp ha with ha | ha
  · exact h.2 a ha
  · rw [List.mem_singleton.mp ha]; exact e
theorem alike_ints : ∀ (a b : List Nat), PySem.W.alikeAll (a.map fun (q : Nat) => PyData.int (q : Int)) (b.map fun (q : Nat) => PyData.int (q : Int)) = true
  | [], _ => by rw [List.map_nil, PySem.W.alikeAll]
  | _ :: _, [] => by rw [List.map_cons, List.map_nil, PySem.W.alikeAll]
  | a :: t, b :: u => by rw [List.map_cons, List.map_cons, PySem.W.alikeAll, PySem.W.alike, alike_ints t u] <;> rfl
theorem alike_row (x y : Nat) (a b : List Nat) : PySem.W.alike (rowD x a) (rowD y b) = true := by
  unfold rowD
  rw [PySem.W.alike, PySem.W.alikeAll, PySem.W.alike, PySem.W.alikeAll, PySem.W.alike, alike_ints, PySem.W.alikeAll] <;> rfl
theorem depth_row (x : Nat) (a : List Nat) : (rowD x a).depth ≤ 40 := by
  unfold rowD
  rw [PyData.depth, PyData.depthAll, PyData.depthAll, PyData.depth, PyData.depth, depth_ints, PyData.depthAll]
  decide
theorem dp_row {K : PySem.W.Frag} {H : Hp} {a b : Addr} {x : Nat} {l : List Nat} (h1 : H a = some (.tup [.int (x : Int), .ref b])) (h2 : H b = some (tupN l)) : Dp K H (.ref a) (rowD x l) :=
  .tup (SqT.of h1) (.cons (.int _) (.cons (.tup (SqT.of h2) (dp_ints _)) .nil))
theorem range_combo {n : Nat} : ∀ (k f : Nat), f + k ≤ n → List.range' f k ∈ combos n k f
  | 0, f, _ => List.mem_singleton.mpr rfl
  | k + 1, f, h => by
    rw [combos, List.range'_succ]
    exact List.mem_flatMap.mpr ⟨f, List.mem_range'_1.mpr (by omega), List.mem_map.mpr ⟨_, range_combo k (f + 1) (by omega), rfl⟩⟩
theorem sum_wt_len {n : Nat} : ∀ (xs : List (List Nat × Nat)), xs.length ≤ (xs.map (wt n)).sum
  | [] => Nat.zero_le _
  | x :: t => by
    have := sum_wt_len (n := n) t
    have h : 1 ≤ wt n x := Nat.one_le_two_pow
    rw [List.map_cons, List.sum_cons, List.length_cons]
    omega
theorem sum_app (a b : List Nat) : (a ++ b).sum = a.sum + b.sum := by rw [List.sum_append]
/-- names of places -/
def nmS (cs : List Str) (l : List Nat) : List Str := l.map fun q => cs.getD q ""
noncomputable def farN (R : Rs) (cs : List Str) (most : Int) (l : List Nat) : Nat := (farS R cs (nmS cs l) most).length
end K1
namespace K1
open PySem PySem.Spec PyProof.Rows L2 Fy
open GxR (TabG Tabbed)
/-- t + u, u not empty: some tuple, all that stood stands -/
def rCatN (K : PySem.W.Frag) : R2 := fun x y H Q => ∃ a b xs ys, x = .ref a ∧ y = .ref b ∧ SqT K H a xs ∧ H b = some (.tup ys) ∧ ys ≠ [] ∧ xs.length + ys.length ≤ sizeLine ∧
  ∀ p H', H' p = some (.tup (xs ++ ys)) → (∀ c o, H c = some o → H' c = some o) → (∀ c, H' c = none → H c = none) → Q (.ref p) H'
theorem op_catN {X : Cx} : OpR X (binaryOp .Add) (rCatN X.K) := by
  intro pins s σ H x y v u Q I rx ry h
  obtain ⟨a, b, xs, ys, rfl, rfl, ha, hb, hy, hz, q⟩ := h
  refine op_catA pins s σ H _ _ v u Q I rx ry ⟨a, b, xs, ys, rfl, rfl, ha, SqT.of hb, hz, fun e => ?_, fun _ e => (hy e).elim, fun _ _ p hp => ?_⟩
  · subst e
    exact q b H hb (fun _ _ e => e) fun _ e => e
  · refine q p _ upd_same (fun c o e => by rw [upd_ne (ne_of_none e hp)]; exact e) fun c e => (upd_none.mp e).2
def statOk (cs : List Str) (many : Int) : Bool := decide (cs.length ≤ 12) && (decide (1 ≤ many) && decide (many ≤ cs.length))
def sp_best_stations (K : PySem.W.Frag) : Sp := fun vs H Q E => ∃ (t c d : Addr) (cs : List Str) (R : Rs) (many most : Int), vs = [.ref t, .int many, .int most] ∧ TownAt (CTwn K) H t c d cs R ∧ WfT cs R ∧ Tb (TL K) (TG K) H ∧ 0 ≤ most ∧ (statOk cs many = false → E (.ref (SErr K)) none H) ∧
  (statOk cs many = true → ∀ m p q H', Best (farN R cs most) (combos cs.length many.toNat 0) m → H p = none → H' p = some (.tup [.int (farN R cs most m : Int), .ref q]) → H' q = some (.tup ((nmS cs m).map V.str)) → Go (TL K) (TG K) (fun _ => False) H H' → Q (.ref p) H')
section
variable {P : Program} {w : World} {K : PySem.W.Frag} {mg : Str → Option Value} {base : Heap}
abbrev N_best_stations : List Str := ["town", "many", "most", "corners", "best", "left", "place", "places", "start", "row"]
theorem sc_best_stations : FnScope N_best_stations ["town", "many", "most"] d_best_stations.scope := ⟨rfl, rfl, rfl, by decide +kernel, rfl, by decide +kernel, by decide +kernel⟩
theorem ok_best_stations (T : Txt K mg base) : Good P w K mg base 4 (He.fAd K d_best_stations.at_) ["town", "many", "most"] [] (sp_best_stations K) := by
  refine good_of0 T.fn_best_stations sc_best_stations rfl rfl (fun _ _ _ _ _ _ us hl => match us, hl with | [_, _, _], _ => rfl) (fun vs H Q E h => ?_) (fun A outer s H vs Q E hr h => ?_)
  · obtain ⟨t, c, d, cs, R, many, most, rfl, _⟩ := h
    rfl
  · obtain ⟨t, c, d, cs, R, many, most, rfl, h⟩ := h
    have cl_Town := T.cl_Town
    have no_Town_corners := T.no_Town_corners
    have no_Town_streets := T.no_Town_streets
    refine ⟨_, (pss_cons (ps_set (i := 3) sc_best_stations.nd rfl (by first | exact Or.inl rfl | exact Or.inr rfl) (pe_fld (pv 0) rfl))
    (pss_cons (ps_if (PW.pt (pw_or (pt_cmpR op_gt (pe_callB call_len (by rfl) T.fr_len (PySem.boot_len) (pa_cons (pv 3) pa_nil)) pe_int (nomark _)) (pw_or1 (pt_not (pt_chain op_le op_le pe_int (pv 1) (pe_callB call_len (by rfl) T.fr_len (PySem.boot_len) (pa_cons (pv 3) pa_nil))))))) (pss_one (ps_raiseC rfl tkx T.ex_StreetError T.gl_StreetError rfl)) pss_nil)
    (pss_cons (ps_par (i := 4) (j := 5) rfl sc_best_stations.nd rfl rfl (by decide) rfl rfl (pa_cons pe_non (pa_cons (pe_lst (pa_cons (pe_tup (pa_cons (pe_tup pa_nil) (pa_cons pe_int pa_nil))) pa_nil)) pa_nil)) (by rfl))
    (pss_cons (ps_while (passes_of rfl) (pt_cmpR (op_neD hr.units) (pv 5) (pe_lst pa_nil) (nomark _)) (pss_cons (ps_asg (pe_bm0 PySem.F.plainAttrs_list PySem.F.slot_list_pop PySem.F.type_list_pop mt_pop (pv 5)) (pg_tup rfl (pgs_cons (pg_name (i := 7) sc_best_stations.nd rfl (by first | exact Or.inl rfl | exact Or.inr rfl)) (pgs_cons (pg_name (i := 8) sc_best_stations.nd rfl (by first | exact Or.inl rfl | exact Or.inr rfl)) pgs_nil))))
      (pss_cons (ps_if (pt_cmpR op_eq (pe_callB call_len (by rfl) T.fr_len (PySem.boot_len) (pa_cons (pv 7) pa_nil)) (pv 1) (nomark _)) (pss_cons (ps_set (i := 9) sc_best_stations.nd rfl (by first | exact Or.inl rfl | exact Or.inr rfl) (pe_tup (pa_cons (pe_callB call_len (by rfl) T.fr_len (PySem.boot_len) (pa_cons (pg_meth (ok_Town_far_corners T) (hr.mono (by decide)) T.cl_Town T.me_Town_far_corners px (pv 0) (pa_cons (pe_lc (own := [("place", 6)]) (g := gName 6) (tt := tYes) rfl sc_best_stations.nd (pi_tup (pv 7)) (blkOk_by (own := [("place", 6)]) (N := N_best_stations) (sc := d_best_stations.scope) (by decide +kernel)) (fun _ _ _ _ _ => (pg_name (i := 6) sc_best_stations.nd rfl (by first | exact Or.inl rfl | exact Or.inr rfl))) (fun _ _ _ _ _ => pts_nil) (fun _ _ _ _ _ => (pe_ix (ix_listK K rfl) (pv 3) (pv 6) (fun _ _ => rfl)))) (pa_cons (pv 2) pa_nil))) pa_nil)) (pa_cons (pv 7) pa_nil))))
        (pss_cons (ps_set (i := 4) sc_best_stations.nd rfl (by first | exact Or.inl rfl | exact Or.inr rfl) (pe_ifExp (PW.pt (pw_or (pt_cmpR op_isN (pv 4) pe_non (nomark _)) (pw_or1 (pt_cmpR (op_ltDD (u65 hr)) (pv 9) (pv 4) (nomark _))))) (pv 9) (pv 4)))
        (pss_one ps_continue))) pss_nil)
      (pss_one (ps_for (passes_of rfl) rfl (pi_range2 rfl T.fr_range (pa_cons (pv 8) (pa_cons (pe_callB call_len (by rfl) T.fr_len (PySem.boot_len) (pa_cons (pv 3) pa_nil)) pa_nil))) (pg_name (i := 6) sc_best_stations.nd rfl (by first | exact Or.inl rfl | exact Or.inr rfl)) (pss_one (ps_expr (pe_bm PySem.F.plainAttrs_list PySem.F.slot_list_append PySem.F.type_list_append mt_append (pv 5) (pa_cons (pe_tup (pa_cons (pe_op op_catN (pv 7) (pe_tup (pa_cons (pv 6) pa_nil))) (pa_cons (pe_op op_add (pv 6) pe_int) pa_nil))) pa_nil)))))))))
    (pss_one (ps_ret (pe_tup (pa_cons (pe_ix ix_tup (pv 4) pe_int (fun _ _ => rfl)) (pa_cons (pe_genT (i := 6) tk_tup (by rfl) T.fr_tuple (by decide +kernel) hr T.tb_best_stations rfl sc_best_stations.nd rfl (genS_by (N := N_best_stations) (sc := d_best_stations.scope) (by decide +kernel)) (pe_ix ix_tup (pv 4) pe_int (fun _ _ => rfl)) (fun _ _ _ => qts_nil) (fun _ _ _ => (q_ix (q_var 3) (q_var 6))) (fun _ => rfl)) pa_nil))))))))), ?_⟩
    obtain ⟨D, wf, tb, mp, k1, k2⟩ := h
    obtain ⟨⟨dx, h1⟩, h2, h3⟩ := id D
    walk_at "go"
    refine ⟨_, cs.length, rfl, .inl ⟨_, SqL.of h2, (List.length_map ..).symm⟩, ?_⟩
    walk_at "go"
    refine ite2 (fun z => iteT (k1 ?_)) (fun z => ?_)
    · have e : ¬ cs.length ≤ 12 := by
        have := of_decide_eq_true z
        omega
      simp [statOk, e]
    have c1 : cs.length ≤ 12 := by
      have := of_decide_eq_false (eq_false_of_ne_true z)
      omega
    walk_at "go"
    rcases Decidable.em (1 ≤ many) with m1 | m1
    rotate_left
    · (refine iteF' (decide_eq_false m1) ⟨_, rfl, iteT' rfl (k1 (by simp [statOk, m1]))⟩)
    refine iteT' (decide_eq_true m1) ?_
    walk_at "v"
    refine ⟨_, cs.length, rfl, .inl ⟨_, SqL.of h2, (List.length_map ..).symm⟩, ?_⟩
    walk_at "go"
    rcases Decidable.em (many ≤ cs.length) with m2 | m2
    rotate_left
    · (refine iteT' (by simp [m2]) (k1 (by simp [statOk, m2])))
    refine iteF' (by simp [m2]) ?_
    have ok : statOk cs many = true := by simp [statOk, c1, m1, m2]
    have k2 := k2 ok
    obtain ⟨k, rfl⟩ : ∃ k : Nat, many = k := ⟨many.toNat, by omega⟩
    rw [show ((k : Nat) : Int).toNat = k from rfl] at k2
    have kn : k ≤ cs.length := by omega
    refine ⟨(by decide), fun b0 hb0 => ?_⟩
    walk_at "go"
    refine ⟨(by show 2 ≤ sizeLine; decide), fun a0 ha0 => ?_⟩
    refine ⟨(by show 1 ≤ sizeLine; decide), fun lf hlf => ?_⟩
    have g0 : Go (TL K) (TG K) (fun _ => False) H (upd (upd (upd H b0 (.tup [])) a0 (.tup [.ref b0, .int 0])) lf (.lst [.ref a0])) := ((Go.new hb0).trans (Go.new ha0)).trans (Go.new hlf)
    have s0 : StkAt (upd (upd (upd H b0 (.tup [])) a0 (.tup [.ref b0, .int 0])) lf (.lst [.ref a0])) lf [([], 0)] := by
      refine ⟨[a0], upd_same, .cons ⟨b0, ?_, ?_⟩ .nil⟩
      · rw [upd_ne (ne_of_none upd_same hlf), upd_same] <;> rfl
      · rw [upd_ne (ne_of_none (by rw [upd_ne (ne_of_none upd_same ha0)]; exact upd_same) hlf), upd_ne (ne_of_none upd_same ha0), upd_same] <;> rfl
    have flf : H lf = none := (upd_none.mp (upd_none.mp hlf).2).2
    generalize upd (upd (upd H b0 (.tup [])) a0 (.tup [.ref b0, .int 0])) lf (.lst [.ref a0]) = H0 at g0 s0 ⊢
    have w0 : 2 ^ (cs.length - 0) ≤ 4096 := pow_12 c1
    have gof : ∀ {H' : Hp}, Go (TL K) (TG K) (fun a => a = lf) H0 H' → Go (TL K) (TG K) (fun _ => False) H H' := fun g => (g0.wide.trans g).drop fun b z => .inr (by rw [z]; exact flf)
    refine ⟨_, _, rfl, ?_⟩
    refine ⟨fun μ σ H' => ∃ (xs : List (List Nat × Nat)) (done : List (List Nat)) (v : V) (x6 x7 x8 x9 : Option V), μ = (xs.map (wt cs.length)).sum ∧ StkAt H' lf xs ∧ BestAt H' (farN R cs most) v done ∧ Go (TL K) (TG K) (fun a => a = lf) H0 H' ∧
      (∀ l, (l ∈ done ∨ ∃ x ∈ xs, l ∈ leaves cs.length k x) ↔ l ∈ combos cs.length k 0) ∧ (∀ x ∈ xs, x.1.length ≤ k ∧ x.2 ≤ cs.length ∧ ∀ q ∈ x.1, q < cs.length) ∧ (xs.map (wt cs.length)).sum ≤ 4096 ∧
      σ = [some (.ref t), some (.int k), some (.int most), some (.ref c), some v, some (.ref lf), x6, x7, x8, x9], ⟨_, [([], 0)], [], .non, none, none, none, none, rfl, s0, .inl ⟨rfl, rfl⟩, .refl, (fun l => ?_), (fun x hx => ?_), ?_, rfl⟩, ?_⟩
    · constructor
      · rintro (z | ⟨x, hx, z⟩)
        · cases z
        · rw [List.mem_singleton.mp hx] at z
          obtain ⟨l', hl', e⟩ := List.mem_map.mp z
          rw [← e]
          exact hl'
      · intro z
        exact .inr ⟨_, List.mem_singleton.mpr rfl, List.mem_map.mpr ⟨l, z, rfl⟩⟩
    · rw [List.mem_singleton.mp hx]
      exact ⟨Nat.zero_le _, Nat.zero_le _, fun q z => by cases z⟩
    · exact w0
    rintro μ σ H1 ⟨xs, done, v, x6, x7, x8, x9, rfl, s1, b1, g1, cov, bnd, wl, rfl⟩
    walk_at "v"
    refine ⟨by decide, fun p0 hp0 => ?_⟩
    have n0 : lf ≠ p0 := by
      obtain ⟨as, e, _⟩ := s1
      exact ne_of_none e hp0
    have g2 := g1.trans (Go.new (S := fun a => a = lf) (o := .lst []) hp0)
    have e0 : upd H1 p0 (.lst []) p0 = some (.lst []) := upd_same
    have s2 := s1.go (TL := TL K) (TG := TG K) (S := fun _ => False) (Go.new (o := .lst []) hp0) id (fun _ _ _ => id)
    have b2 := b1.go (TL := TL K) (TG := TG K) (S := fun _ => False) (Go.new (o := .lst []) hp0) (fun _ _ _ => id)
    generalize upd H1 p0 (.lst []) = H2 at g2 e0 s2 b2 ⊢
    obtain ⟨as, l1, l2⟩ := id s2
    refine ⟨.list (xs.map begD), .list [], .lst (SqL.of l1) (dp_stk l2), .lst (SqL.of e0) .nil, shaped_stk xs, PySem.W.shaped_ints [], ?_⟩
    rw [eqv_nil]
    refine ⟨_, rfl, ?_⟩
    rcases List.eq_nil_or_concat xs with rfl | ⟨xs, x, rfl⟩
    · refine iteF' rfl ?_
      have dn : ∀ l, l ∈ done ↔ l ∈ combos cs.length k 0 := fun l => ⟨fun z => (cov l).mp (.inl z), fun z => by
        rcases (cov l).mpr z with z | ⟨x, hx, _⟩
        · exact z
        · cases hx⟩
      rcases b2 with ⟨e, _⟩ | ⟨m, a, b, rfl, q1, q2, q3⟩
      · have := (dn _).mpr (range_combo k 0 (by omega))
        rw [e] at this
        cases this
      have bm : Best (farN R cs most) (combos cs.length k 0) m := ⟨(dn _).mp q1.1, fun l hl => q1.2 l ((dn _).mpr hl)⟩
      have mlt : ∀ q ∈ m, q < cs.length := fun q hq => ((combos_len k 0 m bm.1).2 q hq).2
      have gH := gof g2
      walk_at "v"; walk_at "ixt"; walk_at "v"; walk_at "ixt"
      have tb2 := gH.tb tb
      refine ⟨tb2.gen _ T.tg_best_stations, m.map fun (q : Nat) => V.int (q : Int), ⟨b, rfl, .inr (.inl (SqT.of q3))⟩, fun H6 hT6 => ?_⟩
      have gx : Go (TL K) (TG K) (fun _ => False) H2 H6 := Go.tab hT6 (tb2.gen _ T.tg_best_stations) T.tg_best_stations T.td_best_stations
      refine ⟨fun _ => true, fun x => match x with | .int i => .str (cs.getD i.toNat "") | _ => .non, fun x hx => rfl, fun x hx _ => ?_, ?_⟩
      · obtain ⟨q, hq, rfl⟩ := List.mem_map.mp hx
        walk_at "v"; walk_at "v"
        refine ⟨c, cs.map V.str, q, .str (cs.getD q ""), rfl, rfl, .inl (SqL.of (gx.get (gH.get h2))), ?_, rfl⟩
        rw [List.getElem?_map, List.getElem?_eq_getElem (mlt q hq), List.getD_eq_getElem?_getD, List.getElem?_eq_getElem (mlt q hq)] <;> rfl
      · have e : ((m.map fun (q : Nat) => V.int (q : Int)).filter fun _ => true).map (fun x => match x with | .int i => V.str (cs.getD i.toNat "") | _ => .non) = (nmS cs m).map V.str := by
          rw [List.filter_eq_self.mpr fun _ _ => rfl, List.map_map]
          unfold nmS
          rw [List.map_map] <;> rfl
        rw [e]
        have lm : m.length = k := (combos_len k 0 m bm.1).1
        refine ⟨by rw [List.length_map]; unfold nmS; rw [List.length_map, lm]; exact Nat.le_of_lt (thou_lt (by omega)), fun tq htq => ?_⟩
        refine ⟨(by show 2 ≤ sizeLine; decide), fun pp hpp => ?_⟩
        have g6 := gH.trans gx
        refine k2 m pp tq _ bm (g6.free _ (upd_none.mp hpp).2) upd_same ?_ ((g6.trans (Go.new htq)).trans (Go.new hpp))
        rw [upd_ne (ne_of_none upd_same hpp)]
        exact upd_same
    · refine iteT' (by simp) ?_
      refine ⟨_, fun σ' H' q => q, ?_⟩
      rw [List.concat_eq_append] at *
      clear l1 l2 as
      obtain ⟨acc, a, l1, l2, l3, l4, l5⟩ := s2.pop
      walk_at "v"
      refine ⟨.inl ⟨rfl, _, SqL.of l1⟩, ?_⟩
      refine ⟨lf, acc, .ref a, rfl, rfl, l1, l2, ?_⟩
      have g3 := g2.trans (Go.set (S := fun a => a = lf) (o := .lst acc.dropLast) l1 plain_lst rfl)
      have b3 := b2.go (TL := TL K) (TG := TG K) (S := fun a => a = lf) (Go.set (o := .lst acc.dropLast) l1 plain_lst rfl) (fun b ys e z => by rw [z, l1] at e; cases e)
      generalize upd H2 lf (.lst acc.dropLast) = H3 at g3 l4 l5 b3 ⊢
      obtain ⟨b, l6, l7⟩ := l4
      refine ⟨a, _, rfl, SqT.of l6, rfl, _, _, rfl, _, _, rfl, rfl, ?_⟩
      walk_at "v"
      refine ⟨_, x.1.length, rfl, .inr ⟨_, SqT.of l7, (List.length_map ..).symm⟩, ?_⟩
      walk_at "go"
      have bx := bnd x (by simp)
      have D3 := D.go (gof g3) id id id
      obtain ⟨⟨dx3, t3⟩, c3, d3⟩ := id D3
      have tb3 := (gof g3).tb tb
      have lpl : x.1.length ≤ 12 := by omega
      have lfn : ∀ {a : Addr} {ys : List V}, H3 a = some (.tup ys) → a ≠ lf := fun {a ys} e z => by
        obtain ⟨as, e2, _⟩ := l5
        rw [z, e2] at e; cases e
      refine ite2 (fun z => ?_) (fun z => ?_)
      · have ek : x.1.length = k := by
          have := of_decide_eq_true z
          have := V.int.inj this
          omega
        walk_at "v"
        refine ⟨_, _, _, rfl, t3, rfl, ?_⟩
        walk_at "v"
        refine ⟨b, rfl, ⟨_, SqT.of l7⟩, fun L hL => ?_⟩
        refine lc_pre (fun q : Nat => V.int (q : Int)) x.1 rfl walk_itt (fun pre H' => H' L = some (.lst ((nmS cs pre).map V.str)) ∧ Go (TL K) (TG K) (fun a => a = L) H3 H') ⟨upd_same, Go.new hL⟩ (fun pre H' h => SqT.of (h.2.keep _ _ l7 (by intro _ z; cases z) (ne_of_none l7 hL))) ?_ ?_
        · rintro pre q post H4 eb ⟨r1, g4⟩
          have hq : q < cs.length := bx.2.2 q (by rw [eb]; simp)
          have c4 := g4.keep _ _ c3 (by intro _ z; cases z) (ne_of_none c3 hL)
          refine ⟨rfl, tYes_ok ?_⟩
          walk_at "v"; walk_at "v"
          refine ⟨c, _, q, .str (cs.getD q ""), rfl, rfl, SqL.of c4, atI_nat ?_, ?_⟩
          · rw [List.getElem?_map, List.getElem?_eq_getElem hq, List.getD_eq_getElem?_getD, List.getElem?_eq_getElem hq] <;> rfl
          · refine ⟨_, r1, (by rw [List.length_map]; unfold nmS; rw [List.length_map]; exact thou_lt (Nat.lt_of_lt_of_le (len_mid eb lpl) (by decide))), ?_, g4.trans (Go.set r1 plain_lst rfl)⟩
            rw [upd_same]
            unfold nmS
            rw [List.map_append, List.map_append] <;> rfl
        · rintro H4 ⟨r1, g4⟩
          have g4' : Go (TL K) (TG K) (fun _ => False) H3 H4 := g4.drop fun b z => .inr (by rw [z]; exact hL)
          walk_at "v"
          refine ⟨t, c, d, L, cs, nmS cs x.1, R, most, rfl, D3.go g4' id id id, wf, g4'.tb tb3, r1, (by unfold nmS; rw [List.length_map]; omega), fun z => ?_, fun _ _ pf H5 hpf r2 g5 => ?_⟩
          · exfalso
            rcases z with z | ⟨s, hs, z⟩
            · omega
            · obtain ⟨q, hq, rfl⟩ := List.mem_map.mp hs
              refine z ?_
              rw [List.getD_eq_getElem?_getD, List.getElem?_eq_getElem (bx.2.2 q hq)]
              exact List.getElem_mem _
          · refine ⟨_, farN R cs most x.1, rfl, .inr ⟨_, SqT.of r2, (by rw [List.length_map] <;> rfl)⟩, ?_⟩
            walk_at "v"
            refine ⟨(by show 2 ≤ sizeLine; decide), fun rw' hrw => ?_⟩
            have g6 : Go (TL K) (TG K) (fun _ => False) H3 (upd H5 rw' (.tup [.int (farN R cs most x.1 : Int), .ref b])) := (g4'.trans g5).trans (Go.new hrw)
            have e6 : upd H5 rw' (.tup [.int (farN R cs most x.1 : Int), .ref b]) rw' = some (.tup [.int (farN R cs most x.1 : Int), .ref b]) := upd_same
            generalize upd H5 rw' (.tup [.int (farN R cs most x.1 : Int), .ref b]) = H6 at g6 e6 ⊢
            have l76 := g6.get l7
            have s6 := l5.go g6 id (fun _ _ _ => id)
            have b6 := b3.go g6 (fun _ _ _ => id)
            have ex : leaves cs.length k x = [x.1] := leaves_full (st := x.2) ek
            have cov' : ∀ l, (l ∈ done ++ [x.1] ∨ ∃ y ∈ xs, l ∈ leaves cs.length k y) ↔ l ∈ combos cs.length k 0 := fun l => by
              rw [← cov l]
              constructor
              · rintro (z | ⟨y, hy, z⟩)
                · rcases List.mem_append.mp z with z | z
                  · exact .inl z
                  · exact .inr ⟨x, by simp, by rw [ex]; exact z⟩
                · exact .inr ⟨y, by simp [hy], z⟩
              · rintro (z | ⟨y, hy, z⟩)
                · exact .inl (by simp [z])
                · rcases List.mem_append.mp hy with hy | hy
                  · exact .inr ⟨y, hy, z⟩
                  · rw [List.mem_singleton.mp hy, ex] at z
                    exact .inl (List.mem_append_right _ z)
            have bnd' : ∀ y ∈ xs, y.1.length ≤ k ∧ y.2 ≤ cs.length ∧ ∀ q ∈ y.1, q < cs.length := fun y hy => bnd y (by simp [hy])
            have lt : (xs.map (wt cs.length)).sum < ((xs ++ [x]).map (wt cs.length)).sum := by
              rw [List.map_append, List.sum_append]
              have : 1 ≤ wt cs.length x := Nat.one_le_two_pow
              show _ < _ + (wt cs.length x + 0)
              omega
            have wl' := Nat.le_trans (Nat.le_of_lt lt) wl
            have g6' := g3.trans g6.wide
            walk_at "v"
            refine ⟨rfl, _, rfl, ?_⟩
            rcases b6 with ⟨e, rfl⟩ | ⟨m, a2, b2', rfl, q1, q2, q3⟩
            · refine iteT' rfl (iteT' rfl ?_)
              walk_at "v"
              refine ⟨_, lt, xs, done ++ [x.1], .ref rw', _, _, _, _, rfl, s6, .inr ⟨x.1, rw', b, rfl, ?_, e6, l76⟩, g6', cov', bnd', wl', rfl⟩
              rw [e]
              exact Best.first _ _
            · refine iteF' rfl ?_
              walk_at "v"; walk_at "v"
              refine ⟨rowD (farN R cs most x.1) x.1, rowD (farN R cs most m) m, dp_row e6 l76, dp_row q2 q3, alike_row _ _ _ _, (by intro z; cases z), depth_row _ _, ?_⟩
              refine ⟨_, rfl, ?_⟩
              cases er : rowLt (farN R cs most) x.1 m with
              | true =>
                refine iteT' er ?_
                walk_at "v"
                exact ⟨_, lt, xs, done ++ [x.1], .ref rw', _, _, _, _, rfl, s6, .inr ⟨x.1, rw', b, rfl, q1.less er, e6, l76⟩, g6', cov', bnd', wl', rfl⟩
              | false =>
                refine iteF' er ?_
                walk_at "v"
                exact ⟨_, lt, xs, done ++ [x.1], .ref a2, _, _, _, _, rfl, s6, .inr ⟨m, a2, b2', rfl, q1.keep er, q2, q3⟩, g6', cov', bnd', wl', rfl⟩
      · have lk : x.1.length < k := by
          have h := bx.1
          have : ¬ x.1.length = k := fun e => z (decide_eq_true (by rw [e]))
          omega
        have c8 := c3
        walk_at "v"; walk_at "v"
        refine ⟨_, cs.length, rfl, .inl ⟨_, SqL.of c3, (List.length_map ..).symm⟩, ?_⟩
        refine ⟨x.2, cs.length, rfl, ⟨by omega, by omega, by omega, by omega⟩, ?_⟩
        rw [show ((cs.length : Int) - (x.2 : Int)).toNat = cs.length - x.2 by omega]
        have kidE : ∀ i, (List.range' x.2 (i + 1)).map (fun p => (x.1 ++ [p], p + 1)) = (List.range' x.2 i).map (fun p => (x.1 ++ [p], p + 1)) ++ [(x.1 ++ [x.2 + i], x.2 + i + 1)] := fun i => by
          rw [List.range'_1_concat, List.map_append] <;> rfl
        have wk : ((kids cs.length x).map (wt cs.length)).sum + 1 = wt cs.length x := wt_kids x
        have lx : ∀ i, i ≤ cs.length - x.2 → (xs ++ (List.range' x.2 i).map (fun p => (x.1 ++ [p], p + 1))).length ≤ 5000 := fun i hi => by
          rw [List.length_append, List.length_map, List.length_range']
          have h1 := sum_wt_len (n := cs.length) xs
          rw [List.map_append, List.sum_append] at wl
          omega
        refine for_range (lo := x.2) (n := cs.length - x.2) (fun i σ H' => ∃ x6 : Option V, σ = [some (.ref t), some (.int k), some (.int most), some (.ref c), some v, some (.ref lf), x6, some (.ref b), some (.int x.2), x9] ∧ StkAt H' lf (xs ++ (List.range' x.2 i).map fun p => (x.1 ++ [p], p + 1)) ∧ BestAt H' (farN R cs most) v done ∧ Go (TL K) (TG K) (fun a => a = lf) H3 H')
          ⟨_, rfl, by simpa using l5, b3, .refl⟩ ?_ ?_
        · rintro i σ H4 hi ⟨x6, rfl, s4, b4, g4⟩
          have l74 := g4.keep _ _ l7 (by intro _ z; cases z) (lfn l7)
          have st4 := s4
          obtain ⟨as4, e4, _⟩ := st4
          walk_at "v"
          refine ⟨.inl ⟨rfl, _, SqL.of e4⟩, ?_⟩
          walk_at "v"; walk_at "v"
          refine ⟨(by show 1 ≤ sizeLine; decide), fun tp htp => ?_⟩
          refine ⟨b, tp, _, _, rfl, rfl, SqT.of (by rw [upd_ne (ne_of_none l74 htp)]; exact l74), upd_same, (by simp), (by rw [List.length_map]; show x.1.length + 1 ≤ sizeLine; exact Nat.le_of_lt (thou_lt (by omega))), fun pb H5 hpb ext fre => ?_⟩
          have g5 : Go (TL K) (TG K) (fun _ => False) H4 H5 := (Go.new htp).trans (Go.ext ext fre)
          walk_at "v"
          refine ⟨_, _, rfl, rfl, ?_⟩
          refine ⟨(by show 2 ≤ sizeLine; decide), fun ra hra => ?_⟩
          have g6 := g5.trans (Go.new (S := fun _ => False) (o := .tup [.ref pb, .int ((x.2 : Int) + (i : Int) + 1)]) hra)
          have bg : BegAt (upd H5 ra (.tup [.ref pb, .int ((x.2 : Int) + (i : Int) + 1)])) ra (x.1 ++ [x.2 + i], x.2 + i + 1) := by
            refine ⟨pb, ?_, ?_⟩
            · rw [upd_same] <;> rfl
            · rw [upd_ne (ne_of_none hpb hra), hpb]
              show some (HO.tup _) = some (HO.tup _)
              rw [List.map_append] <;> rfl
          generalize upd H5 ra (.tup [.ref pb, .int ((x.2 : Int) + (i : Int) + 1)]) = H6 at g6 bg ⊢
          obtain ⟨acc, p1, p2, p3⟩ := (s4.go g6 id (fun _ _ _ => id)).push bg
          have hl := lx i (by omega)
          refine ⟨lf, acc, _, rfl, rfl, p1, (by rw [p2]; exact Nat.lt_of_le_of_lt hl (by decide)), _, rfl, ?_, ?_, (g4.trans g6.wide).trans (Go.set p1 plain_lst rfl)⟩
          · rw [kidE, ← List.append_assoc]
            exact p3
          · exact (b4.go g6 (fun _ _ _ => id)).go (TL := TL K) (TG := TG K) (S := fun a => a = lf) (Go.set (S := fun a => a = lf) (o := .lst (acc ++ [.ref ra])) p1 plain_lst rfl) (fun b ys e z => by rw [z, p1] at e; cases e)
        · rintro σ H4 ⟨x6, rfl, s4, b4, g4⟩
          have eW : ((xs ++ (List.range' x.2 (cs.length - x.2)).map fun p => (x.1 ++ [p], p + 1)).map (wt cs.length)).sum + 1 = ((xs ++ [x]).map (wt cs.length)).sum := by
            rw [List.map_append, List.map_append, List.sum_append, List.sum_append]
            have e1 : (([x] : List (List Nat × Nat)).map (wt cs.length)).sum = wt cs.length x := rfl
            rw [e1, ← wk]
            unfold kids
            omega
          refine ⟨_, by rw [← eW]; exact Nat.lt_succ_self _, _, done, v, _, _, _, _, rfl, s4, b4, g3.trans g4, (fun l => ?_), (fun y hy => ?_), by omega, rfl⟩
          · rw [← cov l]
            have ek : leaves cs.length k x = (kids cs.length x).flatMap (leaves cs.length k) := leaves_kids (st := x.2) lk
            constructor
            · rintro (z | ⟨y, hy, z⟩)
              · exact .inl z
              · rcases List.mem_append.mp hy with hy | hy
                · exact .inr ⟨y, by simp [hy], z⟩
                · refine .inr ⟨x, by simp, ?_⟩
                  rw [ek]
                  exact List.mem_flatMap.mpr ⟨y, hy, z⟩
            · rintro (z | ⟨y, hy, z⟩)
              · exact .inl z
              · rcases List.mem_append.mp hy with hy | hy
                · exact .inr ⟨y, List.mem_append_left _ hy, z⟩
                · rw [List.mem_singleton.mp hy, ek] at z
                  obtain ⟨u, hu, z⟩ := List.mem_flatMap.mp z
                  exact .inr ⟨u, List.mem_append_right _ hu, z⟩
          · rcases List.mem_append.mp hy with hy | hy
            · exact bnd y (by simp [hy])
            · obtain ⟨p, hp, rfl⟩ := List.mem_map.mp hy
              have hp := List.mem_range'_1.mp hp
              refine ⟨by rw [List.length_append]; exact lk, by show p + 1 ≤ cs.length; omega, fun q hq => ?_⟩
              rcases List.mem_append.mp hq with hq | hq
              · exact bx.2.2 q hq
              · rw [List.mem_singleton.mp hq]; omega
end
end K1
namespace K1
open PySem PySem.Spec PyProof.Rows L2 Fy
open GxR (TabG Tabbed)
abbrev N_law_told : List Str := ["what"]
theorem sc_law_told : FnScope N_law_told ["what"] d_law_told.scope := ⟨rfl, rfl, rfl, by decide +kernel, rfl, by decide +kernel, by decide +kernel⟩
abbrev N_law_plain : List Str := ["town", "large", "k", "bad", "f"]
theorem sc_law_plain : FnScope N_law_plain [] d_law_plain.scope := ⟨rfl, rfl, rfl, by decide +kernel, rfl, by decide +kernel, by decide +kernel⟩
section
variable {P : Program} {w : World} {K : PySem.W.Frag} {mg : Str → Option Value} {base : Heap}
theorem toldV_law_plain (T : Txt K mg base) {A : Around} {outer : List Env} {s : Shared} {H0 : Hp} {E0 : XK} (hr : Room 8 (A.deeper (envOfC d_law_plain.qual d_law_plain.scope s.heap.objs.size (He.fAd K d_law_plain.at_) (.ref (He.codeOf K d_law_plain.at_))))) {p pf pos : Pos} {pins : List (Addr × Obj)} {σ : L2.St} {s3 : Shared} {H3 : Hp} {scope : Scope} {ce : Env} {fp : List Addr}
    (I3 : Inv (bodyX P w K mg base N_law_plain d_law_plain A outer s H0 E0) pins σ H3 s3) (f3 : ∀ b ∈ fp, FpOk (bodyX P w K mg base N_law_plain d_law_plain A outer s H0 E0) pins H3 b) (hg : Gl ((bodyX P w K mg base N_law_plain d_law_plain A outer s H0 E0).blk s3 H3 scope ce fp) "_law_told") (hvf : Vis ce.scope "f") :
    PE ((bodyX P w K mg base N_law_plain d_law_plain A outer s H0 E0).blk s3 H3 scope ce fp) (.Call (.Name "_law_told" p) [.Name "f" pf] [] pos) (tTold (bodyX P w K mg base N_law_plain d_law_plain A outer s H0 E0) 5 4 (SErr K) "StreetError" σ) := by
  refine pe_toldV (k := 5) (Ng := N_law_told) (a := "what") (e := "StreetError") (dt := d_law_told) I3 f3 T.fn_law_told ?g1 ?g2 ?g3 ?g4 (show d_law_told.body = [.Try [.Return (some (.Call (.Name _ _) [] [] _)) _] [.ExceptHandler (some (.Name _ _)) none [.Return (some (.Constant (.str _) _ _)) _] _] [] [] _] from rfl) ?g6 ?g7 ?g8 ?g9 ?g10 ?g11 ?g12 ?g13 ?g14 ?g15 ?g16 ?g17
  case g1 => rfl
  case g2 => rfl
  case g3 => rfl
  case g4 => rfl
  case g6 => exact (fun _ _ _ _ _ _ us hl => match us, hl with | [_], _ => rfl)
  case g7 => exact hg
  case g8 => exact T.gl_law_told
  case g9 => exact sc_law_told
  case g10 => rfl
  case g11 => exact .inl rfl
  case g12 => rfl
  case g13 => exact T.gl_StreetError
  case g14 => exact fun _ => rfl
  case g15 => exact (hr.mono (by decide))
  case g16 => rfl
  case g17 => exact hvf
end
end K1
namespace K1
open PySem PySem.Spec PyProof.Rows L2 Fy
open GxR (TabG Tabbed)
/-- the large town's corners -/
def cn (k : Nat) : Str := ("c" : Str) ++ Str.ofString (toString (k : Int))
def cL (k : Nat) : List Str := (List.range k).map cn
/-- where the two towns lie -/
def G1 (K : PySem.W.Frag) : L2.St → Hp → Prop := fun σ H => ∃ (t c d t2 c2 d2 : Addr), σ[0]? = some (some (.ref t)) ∧ σ[1]? = some (some (.ref t2)) ∧ TownAt (CTwn K) H t c d ["a", "b"] [] ∧ TownAt (CTwn K) H t2 c2 d2 (cL 80) [] ∧ Tb (TL K) (TG K) H
theorem TownAt.drp {C : Addr} {H : Hp} {t c d f : Addr} {cs : List Str} {R : Rs} {φ : Heap → Prop} (hf : H f = some (.ext φ)) (D : TownAt C H t c d cs R) : TownAt C (drp H f) t c d cs R := by
  obtain ⟨⟨dx, h1⟩, h2, h3⟩ := D
  exact ⟨⟨dx, drp_get hf h1 (fun _ z => by cases z)⟩, drp_get hf h2 (fun _ z => by cases z), drp_get hf h3 (fun _ z => by cases z)⟩
theorem G1.drp {K : PySem.W.Frag} {σ : L2.St} {H : Hp} {f : Addr} {φ : Heap → Prop} (hf : H f = some (.ext φ)) (hc : ∀ c q, H c = some (LamX.CodeO c q) → c ≠ f) (g : G1 K σ H) : G1 K σ (Fy.drp H f) := by
  obtain ⟨t, c, d, t2, c2, d2, h1, h2, D, D2, tb⟩ := g
  exact ⟨t, c, d, t2, c2, d2, h1, h2, D.drp hf, D2.drp hf, drp_tb hf hc tb⟩
theorem cL_len (k : Nat) : (cL k).length = k := by
  unfold cL
  rw [List.length_map, List.length_range]
theorem cL_nd : (cL 80).Nodup := by decide +kernel
theorem cL_x : ("x" : Str) ∉ cL 80 := by decide +kernel
theorem wf_ab : WfT ["a", "b"] [] := ⟨by decide, .nil, (fun _ z => by cases z), (by decide), (by decide)⟩
theorem wf_cL : WfT (cL 80) [] := ⟨cL_nd, .nil, (fun _ z => by cases z), (by decide), (by rw [cL_len]; decide)⟩
theorem far_nil {a b : Str} (ha : a ∈ (["a", "b"] : List Str)) (n : a ≠ b) : far [] a b = none := by
  cases e : far [] a b with
  | none => rfl
  | some x =>
    rcases (far_way wf_ab ha e).head with ⟨z, _⟩ | ⟨u, m, y, z, _⟩
    · exact (n z).elim
    · cases z
theorem cor_x : canCor (cL 80) "x" = false := by
  unfold canCor
  rw [cL_len] <;> simp
theorem stat_L : statOk (cL 80) 1 = false := by
  unfold statOk
  rw [cL_len] <;> rfl
section
variable {P : Program} {w : World} {K : PySem.W.Frag} {mg : Str → Option Value} {base : Heap}
theorem law_bad0 (T : Txt K mg base) {A : Around} {outer : List Env} {s : Shared} {H0 : Hp} {E0 : XK} :
    ∃ t : XK → TE, (∀ (A' : Around) (outer' : List Env) (s' : Shared) (H : Hp) (E : XK) (f c' : Addr), Room 5 (A'.deeper (LamX.lamEnv (bodyX P w K mg base N_law_plain d_law_plain A outer s H0 E0) (lamSc d_law_plain.scope ((d_law_plain.body).getD 4 noS) 0) s'.heap.objs.size f c')) → PE (LamX.lamCx (bodyX P w K mg base N_law_plain d_law_plain A outer s H0 E0) A' outer' s' H E (lamSc d_law_plain.scope ((d_law_plain.body).getD 4 noS) 0) f c') (lamB ((d_law_plain.body).getD 4 noS) 0) (t E)) ∧
      isBad (bodyX P w K mg base N_law_plain d_law_plain A outer s H0 E0) (SErr K) "StreetError" (G1 K) (TL K) (TG K) t := by
  refine ⟨_, fun A' outer' s' H E f c' hr2 => (pg_meth (ok_Town_add T) (hr2.mono (by decide)) T.cl_Town T.me_Town_add pxl (pv 0) (pa_cons pe_str pa_nil)), fun σ H Q hG k => ?_⟩
  · obtain ⟨t, c, d, t2, c2, d2, hσ, hσ2, D, D2, tb⟩ := hG
    obtain ⟨⟨dx, h1⟩, h2, h3⟩ := id D
    obtain ⟨⟨dx2, h4⟩, h5, h6⟩ := id D2
    refine ⟨_, hσ, ?_⟩
    refine ⟨_, _, _, rfl, h1, rfl, ?_⟩
    exact ⟨t, c, d, ["a", "b"], [], "a", rfl, D, fun _ => ⟨true, T.em_StreetError_StreetError, fun _ => k _ (.refl), fun z => by cases z⟩, fun z => absurd z (by decide)⟩
theorem law_lam0 (T : Txt K mg base) {A : Around} {outer : List Env} {s : Shared} {H0 : Hp} {E0 : XK} :
    ∃ M : LamK (bodyX P w K mg base N_law_plain d_law_plain A outer s H0 E0) 5, PE (bodyX P w K mg base N_law_plain d_law_plain A outer s H0 E0) (lamL ((d_law_plain.body).getD 4 noS) 0) (tLamM (bodyX P w K mg base N_law_plain d_law_plain A outer s H0 E0) (TL K) (TG K) M) ∧ isBad (bodyX P w K mg base N_law_plain d_law_plain A outer s H0 E0) (SErr K) "StreetError" (G1 K) (TL K) (TG K) M.t := by
  obtain ⟨t, p, b⟩ := law_bad0 (P := P) (w := w) (A := A) (outer := outer) (s := s) (E0 := E0) (H0 := H0) T
  have L : LamX.LamS d_law_plain.scope (lamSc d_law_plain.scope ((d_law_plain.body).getD 4 noS) 0) := LamX.lamS_by (by decide +kernel)
  exact ⟨⟨lamP d_law_plain.params ((d_law_plain.body).getD 4 noS) 0, lamB ((d_law_plain.body).getD 4 noS) 0, lamSc d_law_plain.scope ((d_law_plain.body).getD 4 noS) 0, t, L, fun _ _ _ _ _ => rfl, p⟩, pe_lamV T.tb_law_plain rfl T.tm_law_plain T.tu_law_plain T.tn_law_plain L rfl, b⟩
theorem law_bad1 (T : Txt K mg base) {A : Around} {outer : List Env} {s : Shared} {H0 : Hp} {E0 : XK} :
    ∃ t : XK → TE, (∀ (A' : Around) (outer' : List Env) (s' : Shared) (H : Hp) (E : XK) (f c' : Addr), Room 5 (A'.deeper (LamX.lamEnv (bodyX P w K mg base N_law_plain d_law_plain A outer s H0 E0) (lamSc d_law_plain.scope ((d_law_plain.body).getD 4 noS) 1) s'.heap.objs.size f c')) → PE (LamX.lamCx (bodyX P w K mg base N_law_plain d_law_plain A outer s H0 E0) A' outer' s' H E (lamSc d_law_plain.scope ((d_law_plain.body).getD 4 noS) 1) f c') (lamB ((d_law_plain.body).getD 4 noS) 1) (t E)) ∧
      isBad (bodyX P w K mg base N_law_plain d_law_plain A outer s H0 E0) (SErr K) "StreetError" (G1 K) (TL K) (TG K) t := by
  refine ⟨_, fun A' outer' s' H E f c' hr2 => (pg_meth (ok_Town_add T) (hr2.mono (by decide)) T.cl_Town T.me_Town_add pxl (pv 0) (pa_cons pe_str pa_nil)), fun σ H Q hG k => ?_⟩
  · obtain ⟨t, c, d, t2, c2, d2, hσ, hσ2, D, D2, tb⟩ := hG
    obtain ⟨⟨dx, h1⟩, h2, h3⟩ := id D
    obtain ⟨⟨dx2, h4⟩, h5, h6⟩ := id D2
    refine ⟨_, hσ, ?_⟩
    refine ⟨_, _, _, rfl, h1, rfl, ?_⟩
    exact ⟨t, c, d, ["a", "b"], [], "", rfl, D, fun _ => ⟨true, T.em_StreetError_StreetError, fun _ => k _ (.refl), fun z => by cases z⟩, fun z => absurd z (by decide)⟩
theorem law_lam1 (T : Txt K mg base) {A : Around} {outer : List Env} {s : Shared} {H0 : Hp} {E0 : XK} :
    ∃ M : LamK (bodyX P w K mg base N_law_plain d_law_plain A outer s H0 E0) 5, PE (bodyX P w K mg base N_law_plain d_law_plain A outer s H0 E0) (lamL ((d_law_plain.body).getD 4 noS) 1) (tLamM (bodyX P w K mg base N_law_plain d_law_plain A outer s H0 E0) (TL K) (TG K) M) ∧ isBad (bodyX P w K mg base N_law_plain d_law_plain A outer s H0 E0) (SErr K) "StreetError" (G1 K) (TL K) (TG K) M.t := by
  obtain ⟨t, p, b⟩ := law_bad1 (P := P) (w := w) (A := A) (outer := outer) (s := s) (E0 := E0) (H0 := H0) T
  have L : LamX.LamS d_law_plain.scope (lamSc d_law_plain.scope ((d_law_plain.body).getD 4 noS) 1) := LamX.lamS_by (by decide +kernel)
  exact ⟨⟨lamP d_law_plain.params ((d_law_plain.body).getD 4 noS) 1, lamB ((d_law_plain.body).getD 4 noS) 1, lamSc d_law_plain.scope ((d_law_plain.body).getD 4 noS) 1, t, L, fun _ _ _ _ _ => rfl, p⟩, pe_lamV T.tb_law_plain rfl T.tm_law_plain T.tu_law_plain T.tn_law_plain L rfl, b⟩
theorem law_bad2 (T : Txt K mg base) {A : Around} {outer : List Env} {s : Shared} {H0 : Hp} {E0 : XK} :
    ∃ t : XK → TE, (∀ (A' : Around) (outer' : List Env) (s' : Shared) (H : Hp) (E : XK) (f c' : Addr), Room 5 (A'.deeper (LamX.lamEnv (bodyX P w K mg base N_law_plain d_law_plain A outer s H0 E0) (lamSc d_law_plain.scope ((d_law_plain.body).getD 4 noS) 2) s'.heap.objs.size f c')) → PE (LamX.lamCx (bodyX P w K mg base N_law_plain d_law_plain A outer s H0 E0) A' outer' s' H E (lamSc d_law_plain.scope ((d_law_plain.body).getD 4 noS) 2) f c') (lamB ((d_law_plain.body).getD 4 noS) 2) (t E)) ∧
      isBad (bodyX P w K mg base N_law_plain d_law_plain A outer s H0 E0) (SErr K) "StreetError" (G1 K) (TL K) (TG K) t := by
  refine ⟨_, fun A' outer' s' H E f c' hr2 => (pg_meth (ok_Town_add T) (hr2.mono (by decide)) T.cl_Town T.me_Town_add pxl (pv 1) (pa_cons pe_str pa_nil)), fun σ H Q hG k => ?_⟩
  · obtain ⟨t, c, d, t2, c2, d2, hσ, hσ2, D, D2, tb⟩ := hG
    obtain ⟨⟨dx, h1⟩, h2, h3⟩ := id D
    obtain ⟨⟨dx2, h4⟩, h5, h6⟩ := id D2
    refine ⟨_, hσ2, ?_⟩
    refine ⟨_, _, _, rfl, h4, rfl, ?_⟩
    exact ⟨t2, c2, d2, cL 80, [], "x", rfl, D2, fun _ => ⟨true, T.em_StreetError_StreetError, fun _ => k _ (.refl), fun z => by cases z⟩, fun z => absurd z (by rw [cor_x]; decide)⟩
theorem law_lam2 (T : Txt K mg base) {A : Around} {outer : List Env} {s : Shared} {H0 : Hp} {E0 : XK} :
    ∃ M : LamK (bodyX P w K mg base N_law_plain d_law_plain A outer s H0 E0) 5, PE (bodyX P w K mg base N_law_plain d_law_plain A outer s H0 E0) (lamL ((d_law_plain.body).getD 4 noS) 2) (tLamM (bodyX P w K mg base N_law_plain d_law_plain A outer s H0 E0) (TL K) (TG K) M) ∧ isBad (bodyX P w K mg base N_law_plain d_law_plain A outer s H0 E0) (SErr K) "StreetError" (G1 K) (TL K) (TG K) M.t := by
  obtain ⟨t, p, b⟩ := law_bad2 (P := P) (w := w) (A := A) (outer := outer) (s := s) (E0 := E0) (H0 := H0) T
  have L : LamX.LamS d_law_plain.scope (lamSc d_law_plain.scope ((d_law_plain.body).getD 4 noS) 2) := LamX.lamS_by (by decide +kernel)
  exact ⟨⟨lamP d_law_plain.params ((d_law_plain.body).getD 4 noS) 2, lamB ((d_law_plain.body).getD 4 noS) 2, lamSc d_law_plain.scope ((d_law_plain.body).getD 4 noS) 2, t, L, fun _ _ _ _ _ => rfl, p⟩, pe_lamV T.tb_law_plain rfl T.tm_law_plain T.tu_law_plain T.tn_law_plain L rfl, b⟩
theorem law_bad3 (T : Txt K mg base) {A : Around} {outer : List Env} {s : Shared} {H0 : Hp} {E0 : XK} :
    ∃ t : XK → TE, (∀ (A' : Around) (outer' : List Env) (s' : Shared) (H : Hp) (E : XK) (f c' : Addr), Room 5 (A'.deeper (LamX.lamEnv (bodyX P w K mg base N_law_plain d_law_plain A outer s H0 E0) (lamSc d_law_plain.scope ((d_law_plain.body).getD 4 noS) 3) s'.heap.objs.size f c')) → PE (LamX.lamCx (bodyX P w K mg base N_law_plain d_law_plain A outer s H0 E0) A' outer' s' H E (lamSc d_law_plain.scope ((d_law_plain.body).getD 4 noS) 3) f c') (lamB ((d_law_plain.body).getD 4 noS) 3) (t E)) ∧
      isBad (bodyX P w K mg base N_law_plain d_law_plain A outer s H0 E0) (SErr K) "StreetError" (G1 K) (TL K) (TG K) t := by
  refine ⟨_, fun A' outer' s' H E f c' hr2 => (pg_meth (ok_Town_check T) (hr2.mono (by decide)) T.cl_Town T.me_Town_check pxl (pv 0) (pa_cons pe_str pa_nil)), fun σ H Q hG k => ?_⟩
  · obtain ⟨t, c, d, t2, c2, d2, hσ, hσ2, D, D2, tb⟩ := hG
    obtain ⟨⟨dx, h1⟩, h2, h3⟩ := id D
    obtain ⟨⟨dx2, h4⟩, h5, h6⟩ := id D2
    refine ⟨_, hσ, ?_⟩
    refine ⟨_, _, _, rfl, h1, rfl, ?_⟩
    exact ⟨t, c, d, ["a", "b"], [], "z", rfl, D, fun _ => ⟨true, T.em_StreetError_StreetError, fun _ => k _ (.refl), fun z => by cases z⟩, fun z => absurd z (by decide)⟩
theorem law_lam3 (T : Txt K mg base) {A : Around} {outer : List Env} {s : Shared} {H0 : Hp} {E0 : XK} :
    ∃ M : LamK (bodyX P w K mg base N_law_plain d_law_plain A outer s H0 E0) 5, PE (bodyX P w K mg base N_law_plain d_law_plain A outer s H0 E0) (lamL ((d_law_plain.body).getD 4 noS) 3) (tLamM (bodyX P w K mg base N_law_plain d_law_plain A outer s H0 E0) (TL K) (TG K) M) ∧ isBad (bodyX P w K mg base N_law_plain d_law_plain A outer s H0 E0) (SErr K) "StreetError" (G1 K) (TL K) (TG K) M.t := by
  obtain ⟨t, p, b⟩ := law_bad3 (P := P) (w := w) (A := A) (outer := outer) (s := s) (E0 := E0) (H0 := H0) T
  have L : LamX.LamS d_law_plain.scope (lamSc d_law_plain.scope ((d_law_plain.body).getD 4 noS) 3) := LamX.lamS_by (by decide +kernel)
  exact ⟨⟨lamP d_law_plain.params ((d_law_plain.body).getD 4 noS) 3, lamB ((d_law_plain.body).getD 4 noS) 3, lamSc d_law_plain.scope ((d_law_plain.body).getD 4 noS) 3, t, L, fun _ _ _ _ _ => rfl, p⟩, pe_lamV T.tb_law_plain rfl T.tm_law_plain T.tu_law_plain T.tn_law_plain L rfl, b⟩
theorem law_bad4 (T : Txt K mg base) {A : Around} {outer : List Env} {s : Shared} {H0 : Hp} {E0 : XK} :
    ∃ t : XK → TE, (∀ (A' : Around) (outer' : List Env) (s' : Shared) (H : Hp) (E : XK) (f c' : Addr), Room 5 (A'.deeper (LamX.lamEnv (bodyX P w K mg base N_law_plain d_law_plain A outer s H0 E0) (lamSc d_law_plain.scope ((d_law_plain.body).getD 4 noS) 4) s'.heap.objs.size f c')) → PE (LamX.lamCx (bodyX P w K mg base N_law_plain d_law_plain A outer s H0 E0) A' outer' s' H E (lamSc d_law_plain.scope ((d_law_plain.body).getD 4 noS) 4) f c') (lamB ((d_law_plain.body).getD 4 noS) 4) (t E)) ∧
      isBad (bodyX P w K mg base N_law_plain d_law_plain A outer s H0 E0) (SErr K) "StreetError" (G1 K) (TL K) (TG K) t := by
  refine ⟨_, fun A' outer' s' H E f c' hr2 => (pg_meth (ok_Town_lay4 T) (hr2.mono (by decide)) T.cl_Town T.me_Town_lay pxl (pv 0) (pa_cons pe_str (pa_cons pe_str (pa_cons pe_int pa_nil)))), fun σ H Q hG k => ?_⟩
  · obtain ⟨t, c, d, t2, c2, d2, hσ, hσ2, D, D2, tb⟩ := hG
    obtain ⟨⟨dx, h1⟩, h2, h3⟩ := id D
    obtain ⟨⟨dx2, h4⟩, h5, h6⟩ := id D2
    refine ⟨_, hσ, ?_⟩
    refine ⟨_, _, _, rfl, h1, rfl, ?_⟩
    exact ⟨t, c, d, ["a", "b"], [], "a", "z", 1, none, rfl, D, (by decide), fun _ => ⟨true, T.em_StreetError_StreetError, fun _ => k _ (.refl), fun z => by cases z⟩, fun z => absurd z (by decide)⟩
theorem law_lam4 (T : Txt K mg base) {A : Around} {outer : List Env} {s : Shared} {H0 : Hp} {E0 : XK} :
    ∃ M : LamK (bodyX P w K mg base N_law_plain d_law_plain A outer s H0 E0) 5, PE (bodyX P w K mg base N_law_plain d_law_plain A outer s H0 E0) (lamL ((d_law_plain.body).getD 4 noS) 4) (tLamM (bodyX P w K mg base N_law_plain d_law_plain A outer s H0 E0) (TL K) (TG K) M) ∧ isBad (bodyX P w K mg base N_law_plain d_law_plain A outer s H0 E0) (SErr K) "StreetError" (G1 K) (TL K) (TG K) M.t := by
  obtain ⟨t, p, b⟩ := law_bad4 (P := P) (w := w) (A := A) (outer := outer) (s := s) (E0 := E0) (H0 := H0) T
  have L : LamX.LamS d_law_plain.scope (lamSc d_law_plain.scope ((d_law_plain.body).getD 4 noS) 4) := LamX.lamS_by (by decide +kernel)
  exact ⟨⟨lamP d_law_plain.params ((d_law_plain.body).getD 4 noS) 4, lamB ((d_law_plain.body).getD 4 noS) 4, lamSc d_law_plain.scope ((d_law_plain.body).getD 4 noS) 4, t, L, fun _ _ _ _ _ => rfl, p⟩, pe_lamV T.tb_law_plain rfl T.tm_law_plain T.tu_law_plain T.tn_law_plain L rfl, b⟩
theorem law_bad5 (T : Txt K mg base) {A : Around} {outer : List Env} {s : Shared} {H0 : Hp} {E0 : XK} :
    ∃ t : XK → TE, (∀ (A' : Around) (outer' : List Env) (s' : Shared) (H : Hp) (E : XK) (f c' : Addr), Room 5 (A'.deeper (LamX.lamEnv (bodyX P w K mg base N_law_plain d_law_plain A outer s H0 E0) (lamSc d_law_plain.scope ((d_law_plain.body).getD 4 noS) 5) s'.heap.objs.size f c')) → PE (LamX.lamCx (bodyX P w K mg base N_law_plain d_law_plain A outer s H0 E0) A' outer' s' H E (lamSc d_law_plain.scope ((d_law_plain.body).getD 4 noS) 5) f c') (lamB ((d_law_plain.body).getD 4 noS) 5) (t E)) ∧
      isBad (bodyX P w K mg base N_law_plain d_law_plain A outer s H0 E0) (SErr K) "StreetError" (G1 K) (TL K) (TG K) t := by
  refine ⟨_, fun A' outer' s' H E f c' hr2 => (pg_meth (ok_Town_lay4 T) (hr2.mono (by decide)) T.cl_Town T.me_Town_lay pxl (pv 0) (pa_cons pe_str (pa_cons pe_str (pa_cons pe_int pa_nil)))), fun σ H Q hG k => ?_⟩
  · obtain ⟨t, c, d, t2, c2, d2, hσ, hσ2, D, D2, tb⟩ := hG
    obtain ⟨⟨dx, h1⟩, h2, h3⟩ := id D
    obtain ⟨⟨dx2, h4⟩, h5, h6⟩ := id D2
    refine ⟨_, hσ, ?_⟩
    refine ⟨_, _, _, rfl, h1, rfl, ?_⟩
    exact ⟨t, c, d, ["a", "b"], [], "a", "b", 61, none, rfl, D, (by decide), fun _ => ⟨true, T.em_StreetError_StreetError, fun _ => k _ (.refl), fun z => by cases z⟩, fun z => absurd z (by decide)⟩
theorem law_lam5 (T : Txt K mg base) {A : Around} {outer : List Env} {s : Shared} {H0 : Hp} {E0 : XK} :
    ∃ M : LamK (bodyX P w K mg base N_law_plain d_law_plain A outer s H0 E0) 5, PE (bodyX P w K mg base N_law_plain d_law_plain A outer s H0 E0) (lamL ((d_law_plain.body).getD 4 noS) 5) (tLamM (bodyX P w K mg base N_law_plain d_law_plain A outer s H0 E0) (TL K) (TG K) M) ∧ isBad (bodyX P w K mg base N_law_plain d_law_plain A outer s H0 E0) (SErr K) "StreetError" (G1 K) (TL K) (TG K) M.t := by
  obtain ⟨t, p, b⟩ := law_bad5 (P := P) (w := w) (A := A) (outer := outer) (s := s) (E0 := E0) (H0 := H0) T
  have L : LamX.LamS d_law_plain.scope (lamSc d_law_plain.scope ((d_law_plain.body).getD 4 noS) 5) := LamX.lamS_by (by decide +kernel)
  exact ⟨⟨lamP d_law_plain.params ((d_law_plain.body).getD 4 noS) 5, lamB ((d_law_plain.body).getD 4 noS) 5, lamSc d_law_plain.scope ((d_law_plain.body).getD 4 noS) 5, t, L, fun _ _ _ _ _ => rfl, p⟩, pe_lamV T.tb_law_plain rfl T.tm_law_plain T.tu_law_plain T.tn_law_plain L rfl, b⟩
theorem law_bad6 (T : Txt K mg base) {A : Around} {outer : List Env} {s : Shared} {H0 : Hp} {E0 : XK} :
    ∃ t : XK → TE, (∀ (A' : Around) (outer' : List Env) (s' : Shared) (H : Hp) (E : XK) (f c' : Addr), Room 5 (A'.deeper (LamX.lamEnv (bodyX P w K mg base N_law_plain d_law_plain A outer s H0 E0) (lamSc d_law_plain.scope ((d_law_plain.body).getD 4 noS) 6) s'.heap.objs.size f c')) → PE (LamX.lamCx (bodyX P w K mg base N_law_plain d_law_plain A outer s H0 E0) A' outer' s' H E (lamSc d_law_plain.scope ((d_law_plain.body).getD 4 noS) 6) f c') (lamB ((d_law_plain.body).getD 4 noS) 6) (t E)) ∧
      isBad (bodyX P w K mg base N_law_plain d_law_plain A outer s H0 E0) (SErr K) "StreetError" (G1 K) (TL K) (TG K) t := by
  refine ⟨_, fun A' outer' s' H E f c' hr2 => (pg_meth (ok_Town_lay T) (hr2.mono (by decide)) T.cl_Town T.me_Town_lay pxl (pv 0) (pa_cons pe_str (pa_cons pe_str (pa_cons pe_int (pa_cons pe_int pa_nil))))), fun σ H Q hG k => ?_⟩
  · obtain ⟨t, c, d, t2, c2, d2, hσ, hσ2, D, D2, tb⟩ := hG
    obtain ⟨⟨dx, h1⟩, h2, h3⟩ := id D
    obtain ⟨⟨dx2, h4⟩, h5, h6⟩ := id D2
    refine ⟨_, hσ, ?_⟩
    refine ⟨_, _, _, rfl, h1, rfl, ?_⟩
    exact ⟨t, c, d, ["a", "b"], [], "a", "b", 1, some 61, rfl, D, (by decide), fun _ => ⟨true, T.em_StreetError_StreetError, fun _ => k _ (.refl), fun z => by cases z⟩, fun z => absurd z (by decide)⟩
theorem law_lam6 (T : Txt K mg base) {A : Around} {outer : List Env} {s : Shared} {H0 : Hp} {E0 : XK} :
    ∃ M : LamK (bodyX P w K mg base N_law_plain d_law_plain A outer s H0 E0) 5, PE (bodyX P w K mg base N_law_plain d_law_plain A outer s H0 E0) (lamL ((d_law_plain.body).getD 4 noS) 6) (tLamM (bodyX P w K mg base N_law_plain d_law_plain A outer s H0 E0) (TL K) (TG K) M) ∧ isBad (bodyX P w K mg base N_law_plain d_law_plain A outer s H0 E0) (SErr K) "StreetError" (G1 K) (TL K) (TG K) M.t := by
  obtain ⟨t, p, b⟩ := law_bad6 (P := P) (w := w) (A := A) (outer := outer) (s := s) (E0 := E0) (H0 := H0) T
  have L : LamX.LamS d_law_plain.scope (lamSc d_law_plain.scope ((d_law_plain.body).getD 4 noS) 6) := LamX.lamS_by (by decide +kernel)
  exact ⟨⟨lamP d_law_plain.params ((d_law_plain.body).getD 4 noS) 6, lamB ((d_law_plain.body).getD 4 noS) 6, lamSc d_law_plain.scope ((d_law_plain.body).getD 4 noS) 6, t, L, fun _ _ _ _ _ => rfl, p⟩, pe_lamV T.tb_law_plain rfl T.tm_law_plain T.tu_law_plain T.tn_law_plain L rfl, b⟩
theorem law_bad7 (T : Txt K mg base) {A : Around} {outer : List Env} {s : Shared} {H0 : Hp} {E0 : XK} :
    ∃ t : XK → TE, (∀ (A' : Around) (outer' : List Env) (s' : Shared) (H : Hp) (E : XK) (f c' : Addr), Room 5 (A'.deeper (LamX.lamEnv (bodyX P w K mg base N_law_plain d_law_plain A outer s H0 E0) (lamSc d_law_plain.scope ((d_law_plain.body).getD 4 noS) 7) s'.heap.objs.size f c')) → PE (LamX.lamCx (bodyX P w K mg base N_law_plain d_law_plain A outer s H0 E0) A' outer' s' H E (lamSc d_law_plain.scope ((d_law_plain.body).getD 4 noS) 7) f c') (lamB ((d_law_plain.body).getD 4 noS) 7) (t E)) ∧
      isBad (bodyX P w K mg base N_law_plain d_law_plain A outer s H0 E0) (SErr K) "StreetError" (G1 K) (TL K) (TG K) t := by
  refine ⟨_, fun A' outer' s' H E f c' hr2 => (pg_meth (ok_Town_lay T) (hr2.mono (by decide)) T.cl_Town T.me_Town_lay pxl (pv 0) (pa_cons pe_str (pa_cons pe_str (pa_cons pe_int (pa_cons (pe_un un_neg pe_int) pa_nil))))), fun σ H Q hG k => ?_⟩
  · obtain ⟨t, c, d, t2, c2, d2, hσ, hσ2, D, D2, tb⟩ := hG
    obtain ⟨⟨dx, h1⟩, h2, h3⟩ := id D
    obtain ⟨⟨dx2, h4⟩, h5, h6⟩ := id D2
    refine ⟨_, hσ, ?_⟩
    refine ⟨_, _, _, rfl, h1, rfl, ?_⟩
    refine ⟨_, rfl, ?_⟩
    exact ⟨t, c, d, ["a", "b"], [], "a", "b", 1, some (-1), rfl, D, (by decide), fun _ => ⟨true, T.em_StreetError_StreetError, fun _ => k _ (.refl), fun z => by cases z⟩, fun z => absurd z (by decide)⟩
theorem law_lam7 (T : Txt K mg base) {A : Around} {outer : List Env} {s : Shared} {H0 : Hp} {E0 : XK} :
    ∃ M : LamK (bodyX P w K mg base N_law_plain d_law_plain A outer s H0 E0) 5, PE (bodyX P w K mg base N_law_plain d_law_plain A outer s H0 E0) (lamL ((d_law_plain.body).getD 4 noS) 7) (tLamM (bodyX P w K mg base N_law_plain d_law_plain A outer s H0 E0) (TL K) (TG K) M) ∧ isBad (bodyX P w K mg base N_law_plain d_law_plain A outer s H0 E0) (SErr K) "StreetError" (G1 K) (TL K) (TG K) M.t := by
  obtain ⟨t, p, b⟩ := law_bad7 (P := P) (w := w) (A := A) (outer := outer) (s := s) (E0 := E0) (H0 := H0) T
  have L : LamX.LamS d_law_plain.scope (lamSc d_law_plain.scope ((d_law_plain.body).getD 4 noS) 7) := LamX.lamS_by (by decide +kernel)
  exact ⟨⟨lamP d_law_plain.params ((d_law_plain.body).getD 4 noS) 7, lamB ((d_law_plain.body).getD 4 noS) 7, lamSc d_law_plain.scope ((d_law_plain.body).getD 4 noS) 7, t, L, fun _ _ _ _ _ => rfl, p⟩, pe_lamV T.tb_law_plain rfl T.tm_law_plain T.tu_law_plain T.tn_law_plain L rfl, b⟩
theorem law_bad8 (T : Txt K mg base) {A : Around} {outer : List Env} {s : Shared} {H0 : Hp} {E0 : XK} :
    ∃ t : XK → TE, (∀ (A' : Around) (outer' : List Env) (s' : Shared) (H : Hp) (E : XK) (f c' : Addr), Room 5 (A'.deeper (LamX.lamEnv (bodyX P w K mg base N_law_plain d_law_plain A outer s H0 E0) (lamSc d_law_plain.scope ((d_law_plain.body).getD 4 noS) 8) s'.heap.objs.size f c')) → PE (LamX.lamCx (bodyX P w K mg base N_law_plain d_law_plain A outer s H0 E0) A' outer' s' H E (lamSc d_law_plain.scope ((d_law_plain.body).getD 4 noS) 8) f c') (lamB ((d_law_plain.body).getD 4 noS) 8) (t E)) ∧
      isBad (bodyX P w K mg base N_law_plain d_law_plain A outer s H0 E0) (SErr K) "StreetError" (G1 K) (TL K) (TG K) t := by
  refine ⟨_, fun A' outer' s' H E f c' hr2 => (pg_meth (ok_Town_close T) (hr2.mono (by decide)) T.cl_Town T.me_Town_close pxl (pv 0) (pa_cons pe_str (pa_cons pe_str pa_nil))), fun σ H Q hG k => ?_⟩
  · obtain ⟨t, c, d, t2, c2, d2, hσ, hσ2, D, D2, tb⟩ := hG
    obtain ⟨⟨dx, h1⟩, h2, h3⟩ := id D
    obtain ⟨⟨dx2, h4⟩, h5, h6⟩ := id D2
    refine ⟨_, hσ, ?_⟩
    refine ⟨_, _, _, rfl, h1, rfl, ?_⟩
    exact ⟨t, c, d, ["a", "b"], [], "a", "b", rfl, D, fun _ H' g => ⟨true, T.em_StreetError_StreetError, fun _ => k _ (g), fun z => by cases z⟩, fun z => absurd z (by decide)⟩
theorem law_lam8 (T : Txt K mg base) {A : Around} {outer : List Env} {s : Shared} {H0 : Hp} {E0 : XK} :
    ∃ M : LamK (bodyX P w K mg base N_law_plain d_law_plain A outer s H0 E0) 5, PE (bodyX P w K mg base N_law_plain d_law_plain A outer s H0 E0) (lamL ((d_law_plain.body).getD 4 noS) 8) (tLamM (bodyX P w K mg base N_law_plain d_law_plain A outer s H0 E0) (TL K) (TG K) M) ∧ isBad (bodyX P w K mg base N_law_plain d_law_plain A outer s H0 E0) (SErr K) "StreetError" (G1 K) (TL K) (TG K) M.t := by
  obtain ⟨t, p, b⟩ := law_bad8 (P := P) (w := w) (A := A) (outer := outer) (s := s) (E0 := E0) (H0 := H0) T
  have L : LamX.LamS d_law_plain.scope (lamSc d_law_plain.scope ((d_law_plain.body).getD 4 noS) 8) := LamX.lamS_by (by decide +kernel)
  exact ⟨⟨lamP d_law_plain.params ((d_law_plain.body).getD 4 noS) 8, lamB ((d_law_plain.body).getD 4 noS) 8, lamSc d_law_plain.scope ((d_law_plain.body).getD 4 noS) 8, t, L, fun _ _ _ _ _ => rfl, p⟩, pe_lamV T.tb_law_plain rfl T.tm_law_plain T.tu_law_plain T.tn_law_plain L rfl, b⟩
theorem law_bad9 (T : Txt K mg base) {A : Around} {outer : List Env} {s : Shared} {H0 : Hp} {E0 : XK} :
    ∃ t : XK → TE, (∀ (A' : Around) (outer' : List Env) (s' : Shared) (H : Hp) (E : XK) (f c' : Addr), Room 5 (A'.deeper (LamX.lamEnv (bodyX P w K mg base N_law_plain d_law_plain A outer s H0 E0) (lamSc d_law_plain.scope ((d_law_plain.body).getD 4 noS) 9) s'.heap.objs.size f c')) → PE (LamX.lamCx (bodyX P w K mg base N_law_plain d_law_plain A outer s H0 E0) A' outer' s' H E (lamSc d_law_plain.scope ((d_law_plain.body).getD 4 noS) 9) f c') (lamB ((d_law_plain.body).getD 4 noS) 9) (t E)) ∧
      isBad (bodyX P w K mg base N_law_plain d_law_plain A outer s H0 E0) (SErr K) "StreetError" (G1 K) (TL K) (TG K) t := by
  refine ⟨_, fun A' outer' s' H E f c' hr2 => (pg_meth (ok_Town_times T) (hr2.mono (by decide)) T.cl_Town T.me_Town_times pxl (pv 0) (pa_cons pe_str pa_nil)), fun σ H Q hG k => ?_⟩
  · obtain ⟨t, c, d, t2, c2, d2, hσ, hσ2, D, D2, tb⟩ := hG
    obtain ⟨⟨dx, h1⟩, h2, h3⟩ := id D
    obtain ⟨⟨dx2, h4⟩, h5, h6⟩ := id D2
    refine ⟨_, hσ, ?_⟩
    refine ⟨_, _, _, rfl, h1, rfl, ?_⟩
    exact ⟨t, c, d, ["a", "b"], [], "z", rfl, D, wf_ab, tb, fun _ => ⟨true, T.em_StreetError_StreetError, fun _ => k _ (.refl), fun z => by cases z⟩, fun z => absurd z (by decide)⟩
theorem law_lam9 (T : Txt K mg base) {A : Around} {outer : List Env} {s : Shared} {H0 : Hp} {E0 : XK} :
    ∃ M : LamK (bodyX P w K mg base N_law_plain d_law_plain A outer s H0 E0) 5, PE (bodyX P w K mg base N_law_plain d_law_plain A outer s H0 E0) (lamL ((d_law_plain.body).getD 4 noS) 9) (tLamM (bodyX P w K mg base N_law_plain d_law_plain A outer s H0 E0) (TL K) (TG K) M) ∧ isBad (bodyX P w K mg base N_law_plain d_law_plain A outer s H0 E0) (SErr K) "StreetError" (G1 K) (TL K) (TG K) M.t := by
  obtain ⟨t, p, b⟩ := law_bad9 (P := P) (w := w) (A := A) (outer := outer) (s := s) (E0 := E0) (H0 := H0) T
  have L : LamX.LamS d_law_plain.scope (lamSc d_law_plain.scope ((d_law_plain.body).getD 4 noS) 9) := LamX.lamS_by (by decide +kernel)
  exact ⟨⟨lamP d_law_plain.params ((d_law_plain.body).getD 4 noS) 9, lamB ((d_law_plain.body).getD 4 noS) 9, lamSc d_law_plain.scope ((d_law_plain.body).getD 4 noS) 9, t, L, fun _ _ _ _ _ => rfl, p⟩, pe_lamV T.tb_law_plain rfl T.tm_law_plain T.tu_law_plain T.tn_law_plain L rfl, b⟩
theorem law_bad10 (T : Txt K mg base) {A : Around} {outer : List Env} {s : Shared} {H0 : Hp} {E0 : XK} :
    ∃ t : XK → TE, (∀ (A' : Around) (outer' : List Env) (s' : Shared) (H : Hp) (E : XK) (f c' : Addr), Room 5 (A'.deeper (LamX.lamEnv (bodyX P w K mg base N_law_plain d_law_plain A outer s H0 E0) (lamSc d_law_plain.scope ((d_law_plain.body).getD 4 noS) 10) s'.heap.objs.size f c')) → PE (LamX.lamCx (bodyX P w K mg base N_law_plain d_law_plain A outer s H0 E0) A' outer' s' H E (lamSc d_law_plain.scope ((d_law_plain.body).getD 4 noS) 10) f c') (lamB ((d_law_plain.body).getD 4 noS) 10) (t E)) ∧
      isBad (bodyX P w K mg base N_law_plain d_law_plain A outer s H0 E0) (SErr K) "StreetError" (G1 K) (TL K) (TG K) t := by
  refine ⟨_, fun A' outer' s' H E f c' hr2 => (pg_meth (ok_Town_minutes T) (hr2.mono (by decide)) T.cl_Town T.me_Town_minutes pxl (pv 0) (pa_cons pe_str (pa_cons pe_str pa_nil))), fun σ H Q hG k => ?_⟩
  · obtain ⟨t, c, d, t2, c2, d2, hσ, hσ2, D, D2, tb⟩ := hG
    obtain ⟨⟨dx, h1⟩, h2, h3⟩ := id D
    obtain ⟨⟨dx2, h4⟩, h5, h6⟩ := id D2
    refine ⟨_, hσ, ?_⟩
    refine ⟨_, _, _, rfl, h1, rfl, ?_⟩
    exact ⟨t, c, d, ["a", "b"], [], "a", "z", rfl, D, wf_ab, tb, fun _ => ⟨true, T.em_StreetError_StreetError, fun _ => k _ (.refl), fun z => by cases z⟩, fun z => absurd z (by decide)⟩
theorem law_lam10 (T : Txt K mg base) {A : Around} {outer : List Env} {s : Shared} {H0 : Hp} {E0 : XK} :
    ∃ M : LamK (bodyX P w K mg base N_law_plain d_law_plain A outer s H0 E0) 5, PE (bodyX P w K mg base N_law_plain d_law_plain A outer s H0 E0) (lamL ((d_law_plain.body).getD 4 noS) 10) (tLamM (bodyX P w K mg base N_law_plain d_law_plain A outer s H0 E0) (TL K) (TG K) M) ∧ isBad (bodyX P w K mg base N_law_plain d_law_plain A outer s H0 E0) (SErr K) "StreetError" (G1 K) (TL K) (TG K) M.t := by
  obtain ⟨t, p, b⟩ := law_bad10 (P := P) (w := w) (A := A) (outer := outer) (s := s) (E0 := E0) (H0 := H0) T
  have L : LamX.LamS d_law_plain.scope (lamSc d_law_plain.scope ((d_law_plain.body).getD 4 noS) 10) := LamX.lamS_by (by decide +kernel)
  exact ⟨⟨lamP d_law_plain.params ((d_law_plain.body).getD 4 noS) 10, lamB ((d_law_plain.body).getD 4 noS) 10, lamSc d_law_plain.scope ((d_law_plain.body).getD 4 noS) 10, t, L, fun _ _ _ _ _ => rfl, p⟩, pe_lamV T.tb_law_plain rfl T.tm_law_plain T.tu_law_plain T.tn_law_plain L rfl, b⟩
theorem law_bad11 (T : Txt K mg base) {A : Around} {outer : List Env} {s : Shared} {H0 : Hp} {E0 : XK} :
    ∃ t : XK → TE, (∀ (A' : Around) (outer' : List Env) (s' : Shared) (H : Hp) (E : XK) (f c' : Addr), Room 5 (A'.deeper (LamX.lamEnv (bodyX P w K mg base N_law_plain d_law_plain A outer s H0 E0) (lamSc d_law_plain.scope ((d_law_plain.body).getD 4 noS) 11) s'.heap.objs.size f c')) → PE (LamX.lamCx (bodyX P w K mg base N_law_plain d_law_plain A outer s H0 E0) A' outer' s' H E (lamSc d_law_plain.scope ((d_law_plain.body).getD 4 noS) 11) f c') (lamB ((d_law_plain.body).getD 4 noS) 11) (t E)) ∧
      isBad (bodyX P w K mg base N_law_plain d_law_plain A outer s H0 E0) (SErr K) "StreetError" (G1 K) (TL K) (TG K) t := by
  refine ⟨_, fun A' outer' s' H E f c' hr2 => (pg_meth (ok_Town_minutes T) (hr2.mono (by decide)) T.cl_Town T.me_Town_minutes pxl (pv 0) (pa_cons pe_str (pa_cons pe_str pa_nil))), fun σ H Q hG k => ?_⟩
  · obtain ⟨t, c, d, t2, c2, d2, hσ, hσ2, D, D2, tb⟩ := hG
    obtain ⟨⟨dx, h1⟩, h2, h3⟩ := id D
    obtain ⟨⟨dx2, h4⟩, h5, h6⟩ := id D2
    refine ⟨_, hσ, ?_⟩
    refine ⟨_, _, _, rfl, h1, rfl, ?_⟩
    exact ⟨t, c, d, ["a", "b"], [], "z", "a", rfl, D, wf_ab, tb, fun _ => ⟨true, T.em_StreetError_StreetError, fun _ => k _ (.refl), fun z => by cases z⟩, fun _ z => absurd z (by decide)⟩
theorem law_lam11 (T : Txt K mg base) {A : Around} {outer : List Env} {s : Shared} {H0 : Hp} {E0 : XK} :
    ∃ M : LamK (bodyX P w K mg base N_law_plain d_law_plain A outer s H0 E0) 5, PE (bodyX P w K mg base N_law_plain d_law_plain A outer s H0 E0) (lamL ((d_law_plain.body).getD 4 noS) 11) (tLamM (bodyX P w K mg base N_law_plain d_law_plain A outer s H0 E0) (TL K) (TG K) M) ∧ isBad (bodyX P w K mg base N_law_plain d_law_plain A outer s H0 E0) (SErr K) "StreetError" (G1 K) (TL K) (TG K) M.t := by
  obtain ⟨t, p, b⟩ := law_bad11 (P := P) (w := w) (A := A) (outer := outer) (s := s) (E0 := E0) (H0 := H0) T
  have L : LamX.LamS d_law_plain.scope (lamSc d_law_plain.scope ((d_law_plain.body).getD 4 noS) 11) := LamX.lamS_by (by decide +kernel)
  exact ⟨⟨lamP d_law_plain.params ((d_law_plain.body).getD 4 noS) 11, lamB ((d_law_plain.body).getD 4 noS) 11, lamSc d_law_plain.scope ((d_law_plain.body).getD 4 noS) 11, t, L, fun _ _ _ _ _ => rfl, p⟩, pe_lamV T.tb_law_plain rfl T.tm_law_plain T.tu_law_plain T.tn_law_plain L rfl, b⟩
theorem law_bad12 (T : Txt K mg base) {A : Around} {outer : List Env} {s : Shared} {H0 : Hp} {E0 : XK} :
    ∃ t : XK → TE, (∀ (A' : Around) (outer' : List Env) (s' : Shared) (H : Hp) (E : XK) (f c' : Addr), Room 5 (A'.deeper (LamX.lamEnv (bodyX P w K mg base N_law_plain d_law_plain A outer s H0 E0) (lamSc d_law_plain.scope ((d_law_plain.body).getD 4 noS) 12) s'.heap.objs.size f c')) → PE (LamX.lamCx (bodyX P w K mg base N_law_plain d_law_plain A outer s H0 E0) A' outer' s' H E (lamSc d_law_plain.scope ((d_law_plain.body).getD 4 noS) 12) f c') (lamB ((d_law_plain.body).getD 4 noS) 12) (t E)) ∧
      isBad (bodyX P w K mg base N_law_plain d_law_plain A outer s H0 E0) (SErr K) "StreetError" (G1 K) (TL K) (TG K) t := by
  refine ⟨_, fun A' outer' s' H E f c' hr2 => (pg_meth (ok_Town_way T) (hr2.mono (by decide)) T.cl_Town T.me_Town_way pxl (pv 0) (pa_cons pe_str (pa_cons pe_str pa_nil))), fun σ H Q hG k => ?_⟩
  · obtain ⟨t, c, d, t2, c2, d2, hσ, hσ2, D, D2, tb⟩ := hG
    obtain ⟨⟨dx, h1⟩, h2, h3⟩ := id D
    obtain ⟨⟨dx2, h4⟩, h5, h6⟩ := id D2
    refine ⟨_, hσ, ?_⟩
    refine ⟨_, _, _, rfl, h1, rfl, ?_⟩
    exact ⟨t, c, d, ["a", "b"], [], "a", "b", rfl, D, wf_ab, tb, fun _ H' g => ⟨true, T.em_StreetError_StreetError, fun _ => k _ (g), fun z => by cases z⟩, fun z => by obtain ⟨_, _, x, e⟩ := z; rw [far_nil (by simp) (by decide)] at e; cases e⟩
theorem law_lam12 (T : Txt K mg base) {A : Around} {outer : List Env} {s : Shared} {H0 : Hp} {E0 : XK} :
    ∃ M : LamK (bodyX P w K mg base N_law_plain d_law_plain A outer s H0 E0) 5, PE (bodyX P w K mg base N_law_plain d_law_plain A outer s H0 E0) (lamL ((d_law_plain.body).getD 4 noS) 12) (tLamM (bodyX P w K mg base N_law_plain d_law_plain A outer s H0 E0) (TL K) (TG K) M) ∧ isBad (bodyX P w K mg base N_law_plain d_law_plain A outer s H0 E0) (SErr K) "StreetError" (G1 K) (TL K) (TG K) M.t := by
  obtain ⟨t, p, b⟩ := law_bad12 (P := P) (w := w) (A := A) (outer := outer) (s := s) (E0 := E0) (H0 := H0) T
  have L : LamX.LamS d_law_plain.scope (lamSc d_law_plain.scope ((d_law_plain.body).getD 4 noS) 12) := LamX.lamS_by (by decide +kernel)
  exact ⟨⟨lamP d_law_plain.params ((d_law_plain.body).getD 4 noS) 12, lamB ((d_law_plain.body).getD 4 noS) 12, lamSc d_law_plain.scope ((d_law_plain.body).getD 4 noS) 12, t, L, fun _ _ _ _ _ => rfl, p⟩, pe_lamV T.tb_law_plain rfl T.tm_law_plain T.tu_law_plain T.tn_law_plain L rfl, b⟩
theorem law_bad13 (T : Txt K mg base) {A : Around} {outer : List Env} {s : Shared} {H0 : Hp} {E0 : XK} :
    ∃ t : XK → TE, (∀ (A' : Around) (outer' : List Env) (s' : Shared) (H : Hp) (E : XK) (f c' : Addr), Room 5 (A'.deeper (LamX.lamEnv (bodyX P w K mg base N_law_plain d_law_plain A outer s H0 E0) (lamSc d_law_plain.scope ((d_law_plain.body).getD 4 noS) 13) s'.heap.objs.size f c')) → PE (LamX.lamCx (bodyX P w K mg base N_law_plain d_law_plain A outer s H0 E0) A' outer' s' H E (lamSc d_law_plain.scope ((d_law_plain.body).getD 4 noS) 13) f c') (lamB ((d_law_plain.body).getD 4 noS) 13) (t E)) ∧
      isBad (bodyX P w K mg base N_law_plain d_law_plain A outer s H0 E0) (SErr K) "StreetError" (G1 K) (TL K) (TG K) t := by
  refine ⟨_, fun A' outer' s' H E f c' hr2 => (pg_meth (ok_Town_way T) (hr2.mono (by decide)) T.cl_Town T.me_Town_way pxl (pv 0) (pa_cons pe_str (pa_cons pe_str pa_nil))), fun σ H Q hG k => ?_⟩
  · obtain ⟨t, c, d, t2, c2, d2, hσ, hσ2, D, D2, tb⟩ := hG
    obtain ⟨⟨dx, h1⟩, h2, h3⟩ := id D
    obtain ⟨⟨dx2, h4⟩, h5, h6⟩ := id D2
    refine ⟨_, hσ, ?_⟩
    refine ⟨_, _, _, rfl, h1, rfl, ?_⟩
    exact ⟨t, c, d, ["a", "b"], [], "z", "a", rfl, D, wf_ab, tb, fun _ H' g => ⟨true, T.em_StreetError_StreetError, fun _ => k _ (g), fun z => by cases z⟩, fun z => absurd z.1 (by decide)⟩
theorem law_lam13 (T : Txt K mg base) {A : Around} {outer : List Env} {s : Shared} {H0 : Hp} {E0 : XK} :
    ∃ M : LamK (bodyX P w K mg base N_law_plain d_law_plain A outer s H0 E0) 5, PE (bodyX P w K mg base N_law_plain d_law_plain A outer s H0 E0) (lamL ((d_law_plain.body).getD 4 noS) 13) (tLamM (bodyX P w K mg base N_law_plain d_law_plain A outer s H0 E0) (TL K) (TG K) M) ∧ isBad (bodyX P w K mg base N_law_plain d_law_plain A outer s H0 E0) (SErr K) "StreetError" (G1 K) (TL K) (TG K) M.t := by
  obtain ⟨t, p, b⟩ := law_bad13 (P := P) (w := w) (A := A) (outer := outer) (s := s) (E0 := E0) (H0 := H0) T
  have L : LamX.LamS d_law_plain.scope (lamSc d_law_plain.scope ((d_law_plain.body).getD 4 noS) 13) := LamX.lamS_by (by decide +kernel)
  exact ⟨⟨lamP d_law_plain.params ((d_law_plain.body).getD 4 noS) 13, lamB ((d_law_plain.body).getD 4 noS) 13, lamSc d_law_plain.scope ((d_law_plain.body).getD 4 noS) 13, t, L, fun _ _ _ _ _ => rfl, p⟩, pe_lamV T.tb_law_plain rfl T.tm_law_plain T.tu_law_plain T.tn_law_plain L rfl, b⟩
theorem law_bad14 (T : Txt K mg base) {A : Around} {outer : List Env} {s : Shared} {H0 : Hp} {E0 : XK} :
    ∃ t : XK → TE, (∀ (A' : Around) (outer' : List Env) (s' : Shared) (H : Hp) (E : XK) (f c' : Addr), Room 5 (A'.deeper (LamX.lamEnv (bodyX P w K mg base N_law_plain d_law_plain A outer s H0 E0) (lamSc d_law_plain.scope ((d_law_plain.body).getD 4 noS) 14) s'.heap.objs.size f c')) → PE (LamX.lamCx (bodyX P w K mg base N_law_plain d_law_plain A outer s H0 E0) A' outer' s' H E (lamSc d_law_plain.scope ((d_law_plain.body).getD 4 noS) 14) f c') (lamB ((d_law_plain.body).getD 4 noS) 14) (t E)) ∧
      isBad (bodyX P w K mg base N_law_plain d_law_plain A outer s H0 E0) (SErr K) "StreetError" (G1 K) (TL K) (TG K) t := by
  refine ⟨_, fun A' outer' s' H E f c' hr2 => (pg_meth (ok_Town_far_corners T) (hr2.mono (by decide)) T.cl_Town T.me_Town_far_corners pxl (pv 0) (pa_cons (pe_lst (pa_cons pe_str pa_nil)) (pa_cons pe_int pa_nil))), fun σ H Q hG k => ?_⟩
  · obtain ⟨t, c, d, t2, c2, d2, hσ, hσ2, D, D2, tb⟩ := hG
    obtain ⟨⟨dx, h1⟩, h2, h3⟩ := id D
    obtain ⟨⟨dx2, h4⟩, h5, h6⟩ := id D2
    refine ⟨_, hσ, ?_⟩
    refine ⟨_, _, _, rfl, h1, rfl, ?_⟩
    refine ⟨(by show 1 ≤ sizeLine; decide), fun b hb => ?_⟩
    have gb := Go.new (TL := TL K) (TG := TG K) (S := fun _ => False) (o := .lst [.str "z"]) hb
    exact ⟨t, c, d, b, ["a", "b"], ["z"], [], 1, rfl, D.go gb id id id, wf_ab, gb.tb tb, upd_same, by decide, fun _ H' g => ⟨true, T.em_StreetError_StreetError, fun _ => k _ (gb.trans g), fun z => by cases z⟩, fun _ z => absurd (z "z" (by simp)) (by decide)⟩
theorem law_lam14 (T : Txt K mg base) {A : Around} {outer : List Env} {s : Shared} {H0 : Hp} {E0 : XK} :
    ∃ M : LamK (bodyX P w K mg base N_law_plain d_law_plain A outer s H0 E0) 5, PE (bodyX P w K mg base N_law_plain d_law_plain A outer s H0 E0) (lamL ((d_law_plain.body).getD 4 noS) 14) (tLamM (bodyX P w K mg base N_law_plain d_law_plain A outer s H0 E0) (TL K) (TG K) M) ∧ isBad (bodyX P w K mg base N_law_plain d_law_plain A outer s H0 E0) (SErr K) "StreetError" (G1 K) (TL K) (TG K) M.t := by
  obtain ⟨t, p, b⟩ := law_bad14 (P := P) (w := w) (A := A) (outer := outer) (s := s) (E0 := E0) (H0 := H0) T
  have L : LamX.LamS d_law_plain.scope (lamSc d_law_plain.scope ((d_law_plain.body).getD 4 noS) 14) := LamX.lamS_by (by decide +kernel)
  exact ⟨⟨lamP d_law_plain.params ((d_law_plain.body).getD 4 noS) 14, lamB ((d_law_plain.body).getD 4 noS) 14, lamSc d_law_plain.scope ((d_law_plain.body).getD 4 noS) 14, t, L, fun _ _ _ _ _ => rfl, p⟩, pe_lamV T.tb_law_plain rfl T.tm_law_plain T.tu_law_plain T.tn_law_plain L rfl, b⟩
theorem law_bad15 (T : Txt K mg base) {A : Around} {outer : List Env} {s : Shared} {H0 : Hp} {E0 : XK} :
    ∃ t : XK → TE, (∀ (A' : Around) (outer' : List Env) (s' : Shared) (H : Hp) (E : XK) (f c' : Addr), Room 5 (A'.deeper (LamX.lamEnv (bodyX P w K mg base N_law_plain d_law_plain A outer s H0 E0) (lamSc d_law_plain.scope ((d_law_plain.body).getD 4 noS) 15) s'.heap.objs.size f c')) → PE (LamX.lamCx (bodyX P w K mg base N_law_plain d_law_plain A outer s H0 E0) A' outer' s' H E (lamSc d_law_plain.scope ((d_law_plain.body).getD 4 noS) 15) f c') (lamB ((d_law_plain.body).getD 4 noS) 15) (t E)) ∧
      isBad (bodyX P w K mg base N_law_plain d_law_plain A outer s H0 E0) (SErr K) "StreetError" (G1 K) (TL K) (TG K) t := by
  refine ⟨_, fun A' outer' s' H E f c' hr2 => (pg_meth (ok_Town_far_corners T) (hr2.mono (by decide)) T.cl_Town T.me_Town_far_corners pxl (pv 0) (pa_cons (pe_lst pa_nil) (pa_cons (pe_un un_neg pe_int) pa_nil))), fun σ H Q hG k => ?_⟩
  · obtain ⟨t, c, d, t2, c2, d2, hσ, hσ2, D, D2, tb⟩ := hG
    obtain ⟨⟨dx, h1⟩, h2, h3⟩ := id D
    obtain ⟨⟨dx2, h4⟩, h5, h6⟩ := id D2
    refine ⟨_, hσ, ?_⟩
    refine ⟨_, _, _, rfl, h1, rfl, ?_⟩
    refine ⟨(by decide), fun b hb => ?_⟩
    refine ⟨_, rfl, ?_⟩
    have gb := Go.new (TL := TL K) (TG := TG K) (S := fun _ => False) (o := .lst []) hb
    exact ⟨t, c, d, b, ["a", "b"], [], [], -1, rfl, D.go gb id id id, wf_ab, gb.tb tb, upd_same, by decide, fun _ H' g => ⟨true, T.em_StreetError_StreetError, fun _ => k _ (gb.trans g), fun z => by cases z⟩, fun z => absurd z (by decide)⟩
theorem law_lam15 (T : Txt K mg base) {A : Around} {outer : List Env} {s : Shared} {H0 : Hp} {E0 : XK} :
    ∃ M : LamK (bodyX P w K mg base N_law_plain d_law_plain A outer s H0 E0) 5, PE (bodyX P w K mg base N_law_plain d_law_plain A outer s H0 E0) (lamL ((d_law_plain.body).getD 4 noS) 15) (tLamM (bodyX P w K mg base N_law_plain d_law_plain A outer s H0 E0) (TL K) (TG K) M) ∧ isBad (bodyX P w K mg base N_law_plain d_law_plain A outer s H0 E0) (SErr K) "StreetError" (G1 K) (TL K) (TG K) M.t := by
  obtain ⟨t, p, b⟩ := law_bad15 (P := P) (w := w) (A := A) (outer := outer) (s := s) (E0 := E0) (H0 := H0) T
  have L : LamX.LamS d_law_plain.scope (lamSc d_law_plain.scope ((d_law_plain.body).getD 4 noS) 15) := LamX.lamS_by (by decide +kernel)
  exact ⟨⟨lamP d_law_plain.params ((d_law_plain.body).getD 4 noS) 15, lamB ((d_law_plain.body).getD 4 noS) 15, lamSc d_law_plain.scope ((d_law_plain.body).getD 4 noS) 15, t, L, fun _ _ _ _ _ => rfl, p⟩, pe_lamV T.tb_law_plain rfl T.tm_law_plain T.tu_law_plain T.tn_law_plain L rfl, b⟩
theorem law_bad16 (T : Txt K mg base) {A : Around} {outer : List Env} {s : Shared} {H0 : Hp} {E0 : XK} :
    ∃ t : XK → TE, (∀ (A' : Around) (outer' : List Env) (s' : Shared) (H : Hp) (E : XK) (f c' : Addr), Room 5 (A'.deeper (LamX.lamEnv (bodyX P w K mg base N_law_plain d_law_plain A outer s H0 E0) (lamSc d_law_plain.scope ((d_law_plain.body).getD 4 noS) 16) s'.heap.objs.size f c')) → PE (LamX.lamCx (bodyX P w K mg base N_law_plain d_law_plain A outer s H0 E0) A' outer' s' H E (lamSc d_law_plain.scope ((d_law_plain.body).getD 4 noS) 16) f c') (lamB ((d_law_plain.body).getD 4 noS) 16) (t E)) ∧
      isBad (bodyX P w K mg base N_law_plain d_law_plain A outer s H0 E0) (SErr K) "StreetError" (G1 K) (TL K) (TG K) t := by
  refine ⟨_, fun A' outer' s' H E f c' hr2 => (pg_call (ok_best_stations T) (hr2.mono (by decide)) rfl T.gl_best_stations pxl (pa_cons (pv 0) (pa_cons pe_int (pa_cons pe_int pa_nil)))), fun σ H Q hG k => ?_⟩
  · obtain ⟨t, c, d, t2, c2, d2, hσ, hσ2, D, D2, tb⟩ := hG
    obtain ⟨⟨dx, h1⟩, h2, h3⟩ := id D
    obtain ⟨⟨dx2, h4⟩, h5, h6⟩ := id D2
    refine ⟨_, hσ, ?_⟩
    exact ⟨t, c, d, ["a", "b"], [], 0, 1, rfl, D, wf_ab, tb, by decide, fun _ => ⟨true, T.em_StreetError_StreetError, fun _ => k _ (.refl), fun z => by cases z⟩, fun z => absurd z (by decide)⟩
theorem law_lam16 (T : Txt K mg base) {A : Around} {outer : List Env} {s : Shared} {H0 : Hp} {E0 : XK} :
    ∃ M : LamK (bodyX P w K mg base N_law_plain d_law_plain A outer s H0 E0) 5, PE (bodyX P w K mg base N_law_plain d_law_plain A outer s H0 E0) (lamL ((d_law_plain.body).getD 4 noS) 16) (tLamM (bodyX P w K mg base N_law_plain d_law_plain A outer s H0 E0) (TL K) (TG K) M) ∧ isBad (bodyX P w K mg base N_law_plain d_law_plain A outer s H0 E0) (SErr K) "StreetError" (G1 K) (TL K) (TG K) M.t := by
  obtain ⟨t, p, b⟩ := law_bad16 (P := P) (w := w) (A := A) (outer := outer) (s := s) (E0 := E0) (H0 := H0) T
  have L : LamX.LamS d_law_plain.scope (lamSc d_law_plain.scope ((d_law_plain.body).getD 4 noS) 16) := LamX.lamS_by (by decide +kernel)
  exact ⟨⟨lamP d_law_plain.params ((d_law_plain.body).getD 4 noS) 16, lamB ((d_law_plain.body).getD 4 noS) 16, lamSc d_law_plain.scope ((d_law_plain.body).getD 4 noS) 16, t, L, fun _ _ _ _ _ => rfl, p⟩, pe_lamV T.tb_law_plain rfl T.tm_law_plain T.tu_law_plain T.tn_law_plain L rfl, b⟩
theorem law_bad17 (T : Txt K mg base) {A : Around} {outer : List Env} {s : Shared} {H0 : Hp} {E0 : XK} :
    ∃ t : XK → TE, (∀ (A' : Around) (outer' : List Env) (s' : Shared) (H : Hp) (E : XK) (f c' : Addr), Room 5 (A'.deeper (LamX.lamEnv (bodyX P w K mg base N_law_plain d_law_plain A outer s H0 E0) (lamSc d_law_plain.scope ((d_law_plain.body).getD 4 noS) 17) s'.heap.objs.size f c')) → PE (LamX.lamCx (bodyX P w K mg base N_law_plain d_law_plain A outer s H0 E0) A' outer' s' H E (lamSc d_law_plain.scope ((d_law_plain.body).getD 4 noS) 17) f c') (lamB ((d_law_plain.body).getD 4 noS) 17) (t E)) ∧
      isBad (bodyX P w K mg base N_law_plain d_law_plain A outer s H0 E0) (SErr K) "StreetError" (G1 K) (TL K) (TG K) t := by
  refine ⟨_, fun A' outer' s' H E f c' hr2 => (pg_call (ok_best_stations T) (hr2.mono (by decide)) rfl T.gl_best_stations pxl (pa_cons (pv 0) (pa_cons pe_int (pa_cons pe_int pa_nil)))), fun σ H Q hG k => ?_⟩
  · obtain ⟨t, c, d, t2, c2, d2, hσ, hσ2, D, D2, tb⟩ := hG
    obtain ⟨⟨dx, h1⟩, h2, h3⟩ := id D
    obtain ⟨⟨dx2, h4⟩, h5, h6⟩ := id D2
    refine ⟨_, hσ, ?_⟩
    exact ⟨t, c, d, ["a", "b"], [], 3, 1, rfl, D, wf_ab, tb, by decide, fun _ => ⟨true, T.em_StreetError_StreetError, fun _ => k _ (.refl), fun z => by cases z⟩, fun z => absurd z (by decide)⟩
theorem law_lam17 (T : Txt K mg base) {A : Around} {outer : List Env} {s : Shared} {H0 : Hp} {E0 : XK} :
    ∃ M : LamK (bodyX P w K mg base N_law_plain d_law_plain A outer s H0 E0) 5, PE (bodyX P w K mg base N_law_plain d_law_plain A outer s H0 E0) (lamL ((d_law_plain.body).getD 4 noS) 17) (tLamM (bodyX P w K mg base N_law_plain d_law_plain A outer s H0 E0) (TL K) (TG K) M) ∧ isBad (bodyX P w K mg base N_law_plain d_law_plain A outer s H0 E0) (SErr K) "StreetError" (G1 K) (TL K) (TG K) M.t := by
  obtain ⟨t, p, b⟩ := law_bad17 (P := P) (w := w) (A := A) (outer := outer) (s := s) (E0 := E0) (H0 := H0) T
  have L : LamX.LamS d_law_plain.scope (lamSc d_law_plain.scope ((d_law_plain.body).getD 4 noS) 17) := LamX.lamS_by (by decide +kernel)
  exact ⟨⟨lamP d_law_plain.params ((d_law_plain.body).getD 4 noS) 17, lamB ((d_law_plain.body).getD 4 noS) 17, lamSc d_law_plain.scope ((d_law_plain.body).getD 4 noS) 17, t, L, fun _ _ _ _ _ => rfl, p⟩, pe_lamV T.tb_law_plain rfl T.tm_law_plain T.tu_law_plain T.tn_law_plain L rfl, b⟩
theorem law_bad18 (T : Txt K mg base) {A : Around} {outer : List Env} {s : Shared} {H0 : Hp} {E0 : XK} :
    ∃ t : XK → TE, (∀ (A' : Around) (outer' : List Env) (s' : Shared) (H : Hp) (E : XK) (f c' : Addr), Room 5 (A'.deeper (LamX.lamEnv (bodyX P w K mg base N_law_plain d_law_plain A outer s H0 E0) (lamSc d_law_plain.scope ((d_law_plain.body).getD 4 noS) 18) s'.heap.objs.size f c')) → PE (LamX.lamCx (bodyX P w K mg base N_law_plain d_law_plain A outer s H0 E0) A' outer' s' H E (lamSc d_law_plain.scope ((d_law_plain.body).getD 4 noS) 18) f c') (lamB ((d_law_plain.body).getD 4 noS) 18) (t E)) ∧
      isBad (bodyX P w K mg base N_law_plain d_law_plain A outer s H0 E0) (SErr K) "StreetError" (G1 K) (TL K) (TG K) t := by
  refine ⟨_, fun A' outer' s' H E f c' hr2 => (pg_call (ok_best_stations T) (hr2.mono (by decide)) rfl T.gl_best_stations pxl (pa_cons (pv 1) (pa_cons pe_int (pa_cons pe_int pa_nil)))), fun σ H Q hG k => ?_⟩
  · obtain ⟨t, c, d, t2, c2, d2, hσ, hσ2, D, D2, tb⟩ := hG
    obtain ⟨⟨dx, h1⟩, h2, h3⟩ := id D
    obtain ⟨⟨dx2, h4⟩, h5, h6⟩ := id D2
    refine ⟨_, hσ2, ?_⟩
    exact ⟨t2, c2, d2, cL 80, [], 1, 1, rfl, D2, wf_cL, tb, by decide, fun _ => ⟨true, T.em_StreetError_StreetError, fun _ => k _ (.refl), fun z => by cases z⟩, fun z => absurd z (by rw [stat_L]; decide)⟩
theorem law_lam18 (T : Txt K mg base) {A : Around} {outer : List Env} {s : Shared} {H0 : Hp} {E0 : XK} :
    ∃ M : LamK (bodyX P w K mg base N_law_plain d_law_plain A outer s H0 E0) 5, PE (bodyX P w K mg base N_law_plain d_law_plain A outer s H0 E0) (lamL ((d_law_plain.body).getD 4 noS) 18) (tLamM (bodyX P w K mg base N_law_plain d_law_plain A outer s H0 E0) (TL K) (TG K) M) ∧ isBad (bodyX P w K mg base N_law_plain d_law_plain A outer s H0 E0) (SErr K) "StreetError" (G1 K) (TL K) (TG K) M.t := by
  obtain ⟨t, p, b⟩ := law_bad18 (P := P) (w := w) (A := A) (outer := outer) (s := s) (E0 := E0) (H0 := H0) T
  have L : LamX.LamS d_law_plain.scope (lamSc d_law_plain.scope ((d_law_plain.body).getD 4 noS) 18) := LamX.lamS_by (by decide +kernel)
  exact ⟨⟨lamP d_law_plain.params ((d_law_plain.body).getD 4 noS) 18, lamB ((d_law_plain.body).getD 4 noS) 18, lamSc d_law_plain.scope ((d_law_plain.body).getD 4 noS) 18, t, L, fun _ _ _ _ _ => rfl, p⟩, pe_lamV T.tb_law_plain rfl T.tm_law_plain T.tu_law_plain T.tn_law_plain L rfl, b⟩
/-- bad = [..] -/
theorem law_bad (T : Txt K mg base) {A : Around} {outer : List Env} {s : Shared} {H0 : Hp} {E0 : XK} (hr : Room 8 (A.deeper (envOfC d_law_plain.qual d_law_plain.scope s.heap.objs.size (He.fAd K d_law_plain.at_) (.ref (He.codeOf K d_law_plain.at_))))) :
    ∃ t, PS (bodyX P w K mg base N_law_plain d_law_plain A outer s H0 E0) ((d_law_plain.body).getD 4 noS) t ∧ ∀ (D : Ends) (H : Hp) (x0 x1 x2 x3 x4 : Option V), Tb (TL K) (TG K) H →
      (∀ (bd : Addr) (fs : List Addr) (H' : Hp), H' bd = some (.lst (fs.map V.ref)) → (∀ f ∈ fs, BadF (bodyX P w K mg base N_law_plain d_law_plain A outer s H0 E0) 5 (SErr K) "StreetError" (G1 K) (TL K) (TG K) f H') → Go (TL K) (TG K) (fun _ => False) H H' → D.nx [x0, x1, x2, some (.ref bd), x4] H') →
      t D [x0, x1, x2, x3, x4] H := by
  obtain ⟨M0, p0, b0⟩ := law_lam0 (P := P) (w := w) (A := A) (outer := outer) (s := s) (E0 := E0) (H0 := H0) T
  obtain ⟨M1, p1, b1⟩ := law_lam1 (P := P) (w := w) (A := A) (outer := outer) (s := s) (E0 := E0) (H0 := H0) T
  obtain ⟨M2, p2, b2⟩ := law_lam2 (P := P) (w := w) (A := A) (outer := outer) (s := s) (E0 := E0) (H0 := H0) T
  obtain ⟨M3, p3, b3⟩ := law_lam3 (P := P) (w := w) (A := A) (outer := outer) (s := s) (E0 := E0) (H0 := H0) T
  obtain ⟨M4, p4, b4⟩ := law_lam4 (P := P) (w := w) (A := A) (outer := outer) (s := s) (E0 := E0) (H0 := H0) T
  obtain ⟨M5, p5, b5⟩ := law_lam5 (P := P) (w := w) (A := A) (outer := outer) (s := s) (E0 := E0) (H0 := H0) T
  obtain ⟨M6, p6, b6⟩ := law_lam6 (P := P) (w := w) (A := A) (outer := outer) (s := s) (E0 := E0) (H0 := H0) T
  obtain ⟨M7, p7, b7⟩ := law_lam7 (P := P) (w := w) (A := A) (outer := outer) (s := s) (E0 := E0) (H0 := H0) T
  obtain ⟨M8, p8, b8⟩ := law_lam8 (P := P) (w := w) (A := A) (outer := outer) (s := s) (E0 := E0) (H0 := H0) T
  obtain ⟨M9, p9, b9⟩ := law_lam9 (P := P) (w := w) (A := A) (outer := outer) (s := s) (E0 := E0) (H0 := H0) T
  obtain ⟨M10, p10, b10⟩ := law_lam10 (P := P) (w := w) (A := A) (outer := outer) (s := s) (E0 := E0) (H0 := H0) T
  obtain ⟨M11, p11, b11⟩ := law_lam11 (P := P) (w := w) (A := A) (outer := outer) (s := s) (E0 := E0) (H0 := H0) T
  obtain ⟨M12, p12, b12⟩ := law_lam12 (P := P) (w := w) (A := A) (outer := outer) (s := s) (E0 := E0) (H0 := H0) T
  obtain ⟨M13, p13, b13⟩ := law_lam13 (P := P) (w := w) (A := A) (outer := outer) (s := s) (E0 := E0) (H0 := H0) T
  obtain ⟨M14, p14, b14⟩ := law_lam14 (P := P) (w := w) (A := A) (outer := outer) (s := s) (E0 := E0) (H0 := H0) T
  obtain ⟨M15, p15, b15⟩ := law_lam15 (P := P) (w := w) (A := A) (outer := outer) (s := s) (E0 := E0) (H0 := H0) T
  obtain ⟨M16, p16, b16⟩ := law_lam16 (P := P) (w := w) (A := A) (outer := outer) (s := s) (E0 := E0) (H0 := H0) T
  obtain ⟨M17, p17, b17⟩ := law_lam17 (P := P) (w := w) (A := A) (outer := outer) (s := s) (E0 := E0) (H0 := H0) T
  obtain ⟨M18, p18, b18⟩ := law_lam18 (P := P) (w := w) (A := A) (outer := outer) (s := s) (E0 := E0) (H0 := H0) T
  refine ⟨_, (ps_set (i := 3) sc_law_plain.nd rfl (by first | exact Or.inl rfl | exact Or.inr rfl) (pe_lst (pa_cons p0 (pa_cons p1 (pa_cons p2 (pa_cons p3 (pa_cons p4 (pa_cons p5 (pa_cons p6 (pa_cons p7 (pa_cons p8 (pa_cons p9 (pa_cons p10 (pa_cons p11 (pa_cons p12 (pa_cons p13 (pa_cons p14 (pa_cons p15 (pa_cons p16 (pa_cons p17 (pa_cons p18 pa_nil))))))))))))))))))))), fun D H x0 x1 x2 x3 x4 tb k => ?_⟩
  refine ⟨tb, fun f0 c0 G0 I0 g0 n0 hc0 e0 => ?_⟩
  obtain ⟨B0, h0, tb0⟩ := bad_step _ bad_nil b0 tb g0 n0 hc0 e0
  refine ⟨tb0, fun f1 c1 G1 I1 g1 n1 hc1 e1 => ?_⟩
  obtain ⟨B1, h1, tb1⟩ := bad_step _ B0 b1 tb0 g1 n1 hc1 e1
  have h1 := h0.trans h1
  refine ⟨tb1, fun f2 c2 G2 I2 g2 n2 hc2 e2 => ?_⟩
  obtain ⟨B2, h2, tb2⟩ := bad_step _ B1 b2 tb1 g2 n2 hc2 e2
  have h2 := h1.trans h2
  refine ⟨tb2, fun f3 c3 G3 I3 g3 n3 hc3 e3 => ?_⟩
  obtain ⟨B3, h3, tb3⟩ := bad_step _ B2 b3 tb2 g3 n3 hc3 e3
  have h3 := h2.trans h3
  refine ⟨tb3, fun f4 c4 G4 I4 g4 n4 hc4 e4 => ?_⟩
  obtain ⟨B4, h4, tb4⟩ := bad_step _ B3 b4 tb3 g4 n4 hc4 e4
  have h4 := h3.trans h4
  refine ⟨tb4, fun f5 c5 G5 I5 g5 n5 hc5 e5 => ?_⟩
  obtain ⟨B5, h5, tb5⟩ := bad_step _ B4 b5 tb4 g5 n5 hc5 e5
  have h5 := h4.trans h5
  refine ⟨tb5, fun f6 c6 G6 I6 g6 n6 hc6 e6 => ?_⟩
  obtain ⟨B6, h6, tb6⟩ := bad_step _ B5 b6 tb5 g6 n6 hc6 e6
  have h6 := h5.trans h6
  refine ⟨tb6, fun f7 c7 G7 I7 g7 n7 hc7 e7 => ?_⟩
  obtain ⟨B7, h7, tb7⟩ := bad_step _ B6 b7 tb6 g7 n7 hc7 e7
  have h7 := h6.trans h7
  refine ⟨tb7, fun f8 c8 G8 I8 g8 n8 hc8 e8 => ?_⟩
  obtain ⟨B8, h8, tb8⟩ := bad_step _ B7 b8 tb7 g8 n8 hc8 e8
  have h8 := h7.trans h8
  refine ⟨tb8, fun f9 c9 G9 I9 g9 n9 hc9 e9 => ?_⟩
  obtain ⟨B9, h9, tb9⟩ := bad_step _ B8 b9 tb8 g9 n9 hc9 e9
  have h9 := h8.trans h9
  refine ⟨tb9, fun f10 c10 G10 I10 g10 n10 hc10 e10 => ?_⟩
  obtain ⟨B10, h10, tb10⟩ := bad_step _ B9 b10 tb9 g10 n10 hc10 e10
  have h10 := h9.trans h10
  refine ⟨tb10, fun f11 c11 G11 I11 g11 n11 hc11 e11 => ?_⟩
  obtain ⟨B11, h11, tb11⟩ := bad_step _ B10 b11 tb10 g11 n11 hc11 e11
  have h11 := h10.trans h11
  refine ⟨tb11, fun f12 c12 G12 I12 g12 n12 hc12 e12 => ?_⟩
  obtain ⟨B12, h12, tb12⟩ := bad_step _ B11 b12 tb11 g12 n12 hc12 e12
  have h12 := h11.trans h12
  refine ⟨tb12, fun f13 c13 G13 I13 g13 n13 hc13 e13 => ?_⟩
  obtain ⟨B13, h13, tb13⟩ := bad_step _ B12 b13 tb12 g13 n13 hc13 e13
  have h13 := h12.trans h13
  refine ⟨tb13, fun f14 c14 G14 I14 g14 n14 hc14 e14 => ?_⟩
  obtain ⟨B14, h14, tb14⟩ := bad_step _ B13 b14 tb13 g14 n14 hc14 e14
  have h14 := h13.trans h14
  refine ⟨tb14, fun f15 c15 G15 I15 g15 n15 hc15 e15 => ?_⟩
  obtain ⟨B15, h15, tb15⟩ := bad_step _ B14 b15 tb14 g15 n15 hc15 e15
  have h15 := h14.trans h15
  refine ⟨tb15, fun f16 c16 G16 I16 g16 n16 hc16 e16 => ?_⟩
  obtain ⟨B16, h16, tb16⟩ := bad_step _ B15 b16 tb15 g16 n16 hc16 e16
  have h16 := h15.trans h16
  refine ⟨tb16, fun f17 c17 G17 I17 g17 n17 hc17 e17 => ?_⟩
  obtain ⟨B17, h17, tb17⟩ := bad_step _ B16 b17 tb16 g17 n17 hc17 e17
  have h17 := h16.trans h17
  refine ⟨tb17, fun f18 c18 G18 I18 g18 n18 hc18 e18 => ?_⟩
  obtain ⟨B18, h18, tb18⟩ := bad_step _ B17 b18 tb17 g18 n18 hc18 e18
  have h18 := h17.trans h18
  refine ⟨(by show 19 ≤ sizeLine; decide), fun bd hbd => ?_⟩
  have gb := Go.new (TL := TL K) (TG := TG K) (S := fun _ => False) (o := .lst ([f0, f1, f2, f3, f4, f5, f6, f7, f8, f9, f10, f11, f12, f13, f14, f15, f16, f17, f18].map V.ref)) hbd
  exact k bd [f0, f1, f2, f3, f4, f5, f6, f7, f8, f9, f10, f11, f12, f13, f14, f15, f16, f17, f18] _ upd_same (fun x hx => (B18 x hx).go gb) (h18.trans gb)
end
end K1
namespace K1
open PySem PySem.Spec PyProof.Rows L2 Fy
open GxR (TabG Tabbed)
theorem cL_succ (k : Nat) : cL (k + 1) = cL k ++ [cn k] := by
  unfold cL
  rw [List.range_succ, List.map_append]
  rfl
theorem cL_ok : ∀ k, k < 80 → canCor (cL k) (cn k) = true := by decide +kernel
theorem lg80 {kk : Nat} (h : kk < 80) : ((kk : Nat) : Int).natAbs.log2 < 1920 := by
  have := Nat.log2_le_self kk
  show kk.log2 < 1920
  omega
theorem cn_sum : ∀ k, k < 80 → ("c" : Str).length + (Str.ofString (toString ((k : Nat) : Int))).length ≤ 100 := by decide +kernel
theorem ls80 {kk : Nat} (h : kk < 80) : ("c" : Str).length + (Str.ofString (toString ((kk : Nat) : Int))).length ≤ sizeLine := Nat.le_trans (cn_sum kk h) (by decide)
def sp_law_plain (K : PySem.W.Frag) : Sp := fun vs H Q E => vs = [] ∧ Tb (TL K) (TG K) H ∧ ∀ H', Q (.bl true) H'
section
variable {P : Program} {w : World} {K : PySem.W.Frag} {mg : Str → Option Value} {base : Heap}
theorem law_plain_80 (T : Txt K mg base) {A : Around} {outer : List Env} {s : Shared} {H0 : Hp} {E0 : XK} (hr : Room 8 (A.deeper (envOfC d_law_plain.qual d_law_plain.scope s.heap.objs.size (He.fAd K d_law_plain.at_) (.ref (He.codeOf K d_law_plain.at_))))) :
    ∃ t, PS (bodyX P w K mg base N_law_plain d_law_plain A outer s H0 E0) ((d_law_plain.body).getD 3 noS) t ∧ ∀ (D : Ends) (H : Hp) (t1 c d t2 c2 d2 : Addr) (x2 x3 x4 : Option V), TownAt (CTwn K) H t1 c d ["a", "b"] [] → TownAt (CTwn K) H t2 c2 d2 [] [] → c ≠ c2 → Tb (TL K) (TG K) H →
      (∀ (x2 : Option V) (H' : Hp), TownAt (CTwn K) H' t1 c d ["a", "b"] [] → TownAt (CTwn K) H' t2 c2 d2 (cL 80) [] → Tb (TL K) (TG K) H' → D.nx [some (.ref t1), some (.ref t2), x2, x3, x4] H') →
      t D [some (.ref t1), some (.ref t2), x2, x3, x4] H := by
  have hu := hu_of hr
  refine ⟨_, (ps_for (passes_of rfl) rfl (pi_range1 rfl T.fr_range (pa_cons pe_int pa_nil)) (pg_name (i := 2) sc_law_plain.nd rfl (by first | exact Or.inl rfl | exact Or.inr rfl)) (pss_one (ps_expr (pg_meth (ok_Town_add T) (hr.mono (by decide)) T.cl_Town T.me_Town_add px (pv 1) (pa_cons (pe_op op_add_str pe_str (pe_callTy call_str_int (by rfl) T.fr_str (by decide +kernel) (pa_cons (pv 2) pa_nil))) pa_nil))))), fun D H t1 c d t2 c2 d2 x2 x3 x4 D1 D2 nc tb k => ?_⟩
  refine ⟨80, rfl, by decide, by decide, ?_⟩
  refine for_range (n := 80) (fun i σ H' => (∃ x2, σ = [some (.ref t1), some (.ref t2), x2, x3, x4]) ∧ TownAt (CTwn K) H' t1 c d ["a", "b"] [] ∧ TownAt (CTwn K) H' t2 c2 d2 (cL i) [] ∧ Tb (TL K) (TG K) H')
    ⟨⟨_, rfl⟩, D1, D2, tb⟩ ?_ ?_
  · rintro i σ H1 hi ⟨⟨x2, rfl⟩, D1, D2, tb1⟩
    have hi80 : i < 80 := hi
    rw [Int.zero_add]
    obtain ⟨⟨dx, h1⟩, h2, h3⟩ := id D2
    obtain ⟨⟨dx', h1'⟩, h2', h3'⟩ := id D1
    walk_at "v"
    refine ⟨_, _, _, rfl, h1, rfl, ?_⟩
    walk_at "v"
    refine ⟨_, rfl, lg80 hi80, ?_⟩
    refine ⟨_, _, rfl, rfl, ls80 hi80, ?_⟩
    refine ⟨t2, c2, d2, cL i, [], cn i, rfl, D2, fun z => absurd z (by rw [cL_ok i hi80]; decide), fun _ H' D3 g => ?_⟩
    rw [← cL_succ] at D3
    exact ⟨⟨_, rfl⟩, D1.go g (ne_of h1' h2 (by intro z; cases z)) nc (ne_of h3' h2 (by intro z; cases z)), D3, g.tb tb1⟩
  · rintro σ H1 ⟨⟨x2, rfl⟩, D1, D2, tb1⟩
    exact k _ H1 D1 D2 tb1
end
end K1
namespace K1
open PySem PySem.Spec PyProof.Rows L2 Fy
open GxR (TabG Tabbed)
theorem way_aa {l : List Str} (h : Path [] "a" "a" l) : l = (["a"] : List Str) := Path.one h .stop
theorem near_a : nearQ [] ["a"] 5 "a" = true := by
  unfold nearQ
  rw [List.any_cons, far_self wf_ab (by simp)] <;> rfl
theorem near_ab : nearQ [] ["a"] 5 "b" = false := by
  unfold nearQ
  rw [List.any_cons, far_nil (by simp) (by decide)] <;> rfl
theorem near_b : nearQ [] ["b"] 5 "b" = true := by
  unfold nearQ
  rw [List.any_cons, far_self wf_ab (by simp)] <;> rfl
theorem near_ba : nearQ [] ["b"] 5 "a" = false := by
  unfold nearQ
  rw [List.any_cons, far_nil (by simp) (by decide)] <;> rfl
theorem farN_0 : farN [] ["a", "b"] 5 [0] = 1 := by
  show (farS [] ["a", "b"] ["a"] 5).length = 1
  unfold farS
  rw [List.filter_cons_of_neg (by rw [near_a]; decide), List.filter_cons_of_pos (by rw [near_ab] <;> rfl)] <;> rfl
theorem farN_1 : farN [] ["a", "b"] 5 [1] = 1 := by
  show (farS [] ["a", "b"] ["b"] 5).length = 1
  unfold farS
  rw [List.filter_cons_of_pos (by rw [near_ba] <;> rfl), List.filter_cons_of_neg (by rw [near_b]; decide)] <;> rfl
theorem combos_21 : combos 2 1 0 = [[0], [1]] := rfl
theorem best_21 {m : List Nat} (h : Best (farN [] ["a", "b"] 5) (combos 2 1 0) m) : m = [0] := by
  refine Best.one (ls' := combos 2 1 0) h ⟨by rw [combos_21]; simp, fun l hl => ?_⟩ fun _ => .rfl
  rw [combos_21] at hl
  unfold rowLt
  rcases List.mem_cons.mp hl with rfl | hl
  · exact rowLt_irr _
  · rw [List.mem_singleton.mp hl, farN_0, farN_1]
    decide +kernel
theorem farS_none : farS [] ["a", "b"] [] 5 = (["a", "b"] : List Str) := rfl
section
variable {P : Program} {w : World} {K : PySem.W.Frag} {mg : Str → Option Value} {base : Heap}
theorem law_plain_ret (T : Txt K mg base) {A : Around} {outer : List Env} {s : Shared} {H0 : Hp} {E0 : XK} (hr : Room 8 (A.deeper (envOfC d_law_plain.qual d_law_plain.scope s.heap.objs.size (He.fAd K d_law_plain.at_) (.ref (He.codeOf K d_law_plain.at_))))) :
    ∃ t, PS (bodyX P w K mg base N_law_plain d_law_plain A outer s H0 E0) ((d_law_plain.body).getD 5 noS) t ∧ ∀ (D : Ends) (H : Hp) (t1 c d t2 c2 d2 bd : Addr) (fs : List Addr) (x2 x4 : Option V), TownAt (CTwn K) H t1 c d ["a", "b"] [] → TownAt (CTwn K) H t2 c2 d2 (cL 80) [] → Tb (TL K) (TG K) H → H bd = some (.lst (fs.map V.ref)) →
      (∀ f ∈ fs, BadF (bodyX P w K mg base N_law_plain d_law_plain A outer s H0 E0) 5 (SErr K) "StreetError" (G1 K) (TL K) (TG K) f H) → (∀ H', D.rt (.bl true) H') →
      t D [some (.ref t1), some (.ref t2), x2, some (.ref bd), x4] H := by
  have hu := hu_of hr
  obtain ⟨tk_MOST_CORNERS, C_MOST_CORNERS⟩ := T.c_MOST_CORNERS
  refine ⟨_, (ps_ret (pe_and (pe_cmpR (op_eqD hr.units) (pe_lcNo (i := 4) rfl sc_law_plain.nd (pv 3) (blkOk_by (own := [("f", 4)]) (N := N_law_plain) (sc := d_law_plain.scope) (by decide +kernel)) (fun _ _ _ _ _ => (pg_name (i := 4) sc_law_plain.nd rfl (by first | exact Or.inl rfl | exact Or.inr rfl))) (fun _ _ _ _ _ _ _ I3 f3 => pts_one (pt_cmpR op_ne (toldV_law_plain T hr I3 f3 rfl (by first | exact Or.inl rfl | exact Or.inr (Or.inl rfl) | exact Or.inr (Or.inr rfl))) pe_str (nomark _)))) (pe_lst pa_nil) (nomark _)) (pe_and (pe_cmpR op_eq (pe_glob (v := .int 80) rfl C_MOST_CORNERS ⟨_, rfl⟩) pe_int (nomark _)) (pe_and (pe_cmpR (op_eqD hr.units) (pg_meth (ok_Town_way T) (hr.mono (by decide)) T.cl_Town T.me_Town_way px (pv 0) (pa_cons pe_str (pa_cons pe_str pa_nil))) (pe_tup (pa_cons pe_str pa_nil)) (nomark _)) (pe_and (pe_cmpR (op_eqD hr.units) (pg_meth (ok_Town_far_corners T) (hr.mono (by decide)) T.cl_Town T.me_Town_far_corners px (pv 0) (pa_cons (pe_lst pa_nil) (pa_cons pe_int pa_nil))) (pe_tup (pa_cons pe_str (pa_cons pe_str pa_nil))) (nomark _)) (pe_one (pe_cmpR (op_eqD hr.units) (pg_call (ok_best_stations T) (hr.mono (by decide)) rfl T.gl_best_stations px (pa_cons (pv 0) (pa_cons pe_int (pa_cons pe_int pa_nil)))) (pe_tup (pa_cons pe_int (pa_cons (pe_tup (pa_cons pe_str pa_nil)) pa_nil))) (nomark _)))))))), fun D H t1 c d t2 c2 d2 bd fs x2 x4 D1 D2 tb hbd hB k => ?_⟩
  refine ⟨_, rfl, bd, fs.map V.ref, rfl, SqL.of hbd, fun L hL => ?_⟩
  have g0 := Go.new (TL := TL K) (TG := TG K) (S := fun _ => False) (o := .lst []) hL
  have eL : upd H L (.lst []) L = some (.lst []) := upd_same
  refine ⟨fun H' => Go (TL K) (TG K) (fun _ => False) (upd H L (.lst [])) H', .refl, fun H' g => SqL.of (g.get (g0.get hbd)), fun x hx H' g => ?_, ?_⟩
  · obtain ⟨f, hf, rfl⟩ := List.mem_map.mp hx
    refine ⟨rfl, ?_⟩
    have gH := g0.trans g
    unfold tTest tOp
    dsimp only
    refine tTold_bad (G := G1 K) G1.drp rfl ((hB f hf).go gH) ?_ fun H2 g2 => ?_
    · exact ⟨t1, c, d, t2, c2, d2, rfl, rfl, D1.go gH id id id, D2.go gH id id id, gH.tb tb⟩
    · exact ⟨rfl, _, rfl, by simp, g.trans g2⟩
  intro H1 g1
  have gA := g0.trans g1
  refine ⟨(by decide), fun e2 he2 => ?_⟩
  have eL1 := g1.get eL
  have gB := gA.trans (Go.new (o := .lst []) he2)
  have se : SeqAt.shaped (PyData.list []) = true := PySem.W.shaped_ints []
  refine ⟨.list [], .list [], .lst (SqL.of (by rw [upd_ne (ne_of_none eL1 he2)]; exact eL1)) .nil, .lst (SqL.of upd_same) .nil, se, se, ?_⟩
  rw [eqv_same se]
  generalize upd H1 e2 (.lst []) = H2 at gB ⊢
  refine ⟨_, rfl, iteT ?_⟩
  refine ⟨rfl, ?_⟩
  refine ⟨_, rfl, ite2 (fun _ => ?_) fun z => absurd rfl z⟩
  have D3 := D1.go gB id id id
  have tb3 := gB.tb tb
  obtain ⟨⟨dx, h1⟩, h2, h3⟩ := id D3
  walk_at "v"
  refine ⟨_, _, _, rfl, h1, rfl, ?_⟩
  refine ⟨t1, c, d, ["a", "b"], [], "a", "a", rfl, D3, wf_ab, tb3, fun z => absurd ⟨by simp, by simp, 0, far_self wf_ab (by simp)⟩ z, fun _ l p H4 hl hp hp4 g4 => ?_⟩
  rw [way_aa hl] at hp4
  refine ⟨(by decide), fun q hq => ?_⟩
  have s1 : SeqAt.shaped (PyData.tuple [.str "a"]) = true := by decide +kernel
  refine ⟨.tuple [.str "a"], .tuple [.str "a"], .tup (SqT.of (by rw [upd_ne (ne_of_none hp4 hq)]; exact hp4)) (.cons (.str _) .nil), .tup (SqT.of upd_same) (.cons (.str _) .nil), s1, s1, ?_⟩
  rw [eqv_same s1]
  have gC : Go (TL K) (TG K) (fun _ => False) H2 (upd H4 q (.tup [.str "a"])) := g4.trans (Go.new hq)
  have D5 := D3.go gC id id id
  have tb5 := gC.tb tb3
  generalize upd H4 q (.tup [.str "a"]) = H5 at D5 tb5 ⊢
  refine ⟨_, rfl, iteT ?_⟩
  obtain ⟨⟨dx5, h51⟩, h52, h53⟩ := id D5
  walk_at "v"
  refine ⟨_, _, _, rfl, h51, rfl, ?_⟩
  refine ⟨by decide, fun sa hsa => ?_⟩
  have gD : Go (TL K) (TG K) (fun _ => False) H5 (upd H5 sa (.lst [])) := Go.new hsa
  refine ⟨t1, c, d, sa, ["a", "b"], [], [], 5, rfl, D5.go gD id id id, wf_ab, gD.tb tb5, upd_same, by decide, fun z => ?_, fun _ _ p2 H6 hp2 hp6 g6 => ?_⟩
  · exfalso
    rcases z with z | ⟨_, z, _⟩
    · exact absurd z (by decide)
    · cases z
  rw [farS_none] at hp6
  refine ⟨(by decide), fun q2 hq2 => ?_⟩
  have s2 : SeqAt.shaped (PyData.tuple [.str "a", .str "b"]) = true := by decide +kernel
  refine ⟨.tuple [.str "a", .str "b"], .tuple [.str "a", .str "b"], .tup (SqT.of (by rw [upd_ne (ne_of_none hp6 hq2)]; exact hp6)) (.cons (.str _) (.cons (.str _) .nil)), .tup (SqT.of upd_same) (.cons (.str _) (.cons (.str _) .nil)), s2, s2, ?_⟩
  rw [eqv_same s2]
  have gE : Go (TL K) (TG K) (fun _ => False) H5 (upd H6 q2 (.tup [.str "a", .str "b"])) := (gD.trans g6).trans (Go.new hq2)
  have D7 := D5.go gE id id id
  have tb7 := gE.tb tb5
  generalize upd H6 q2 (.tup [.str "a", .str "b"]) = H7 at D7 tb7 ⊢
  refine ⟨_, rfl, iteT ?_⟩
  walk_at "v"
  refine ⟨t1, c, d, ["a", "b"], [], 1, 5, rfl, D7, wf_ab, tb7, by decide, fun z => absurd z (by decide), fun _ m p3 q3 H8 hm hp3 hp8 hq8 g8 => ?_⟩
  rw [best_21 hm] at hp8 hq8
  rw [farN_0] at hp8
  refine ⟨(by decide), fun q4 hq4 => ⟨(by show 2 ≤ sizeLine; decide), fun q5 hq5 => ?_⟩⟩
  have s3 : SeqAt.shaped (PyData.tuple [.int 1, .tuple [.str "a"]]) = true := by decide +kernel
  have n1 : p3 ≠ q4 := ne_of_none hp8 hq4
  have n2 : q3 ≠ q4 := ne_of_none hq8 hq4
  have e1 : upd (upd H8 q4 (.tup [.str "a"])) q5 (.tup [.int 1, .ref q4]) p3 = some (.tup [.int 1, .ref q3]) := by rw [upd_ne (ne_of_none (by rw [upd_ne n1]; exact hp8) hq5), upd_ne n1]; exact hp8
  have e2 : upd (upd H8 q4 (.tup [.str "a"])) q5 (.tup [.int 1, .ref q4]) q3 = some (.tup [.str "a"]) := by rw [upd_ne (ne_of_none (by rw [upd_ne n2]; exact hq8) hq5), upd_ne n2]; exact hq8
  have e3 : upd (upd H8 q4 (.tup [.str "a"])) q5 (.tup [.int 1, .ref q4]) q4 = some (.tup [.str "a"]) := by rw [upd_ne (ne_of_none upd_same hq5)]; exact upd_same
  refine ⟨.tuple [.int 1, .tuple [.str "a"]], .tuple [.int 1, .tuple [.str "a"]], .tup (SqT.of e1) (.cons (.int _) (.cons (.tup (SqT.of e2) (.cons (.str _) .nil)) .nil)), .tup (SqT.of upd_same) (.cons (.int _) (.cons (.tup (SqT.of e3) (.cons (.str _) .nil)) .nil)), s3, s3, ?_⟩
  rw [eqv_same s3]
  exact k _
theorem ok_law_plain (T : Txt K mg base) : Good P w K mg base 9 (He.fAd K d_law_plain.at_) [] [] (sp_law_plain K) := by
  refine good_of0 T.fn_law_plain sc_law_plain rfl rfl (fun _ _ _ _ _ _ us hl => match us, hl with | [], _ => rfl) (fun vs H Q E h => ?_) (fun A outer s H vs Q E hr h => ?_)
  · obtain ⟨rfl, _⟩ := h
    rfl
  obtain ⟨rfl, tb, k⟩ := h
  have hu := hu_of hr
  have cl_Town := T.cl_Town
  obtain ⟨t3, p3, r3⟩ := law_plain_80 (P := P) (w := w) (E0 := E) (H0 := H) T hr
  obtain ⟨t4, p4, r4⟩ := law_bad (P := P) (w := w) (E0 := E) (H0 := H) T hr
  obtain ⟨t5, p5, r5⟩ := law_plain_ret (P := P) (w := w) (E0 := E) (H0 := H) T hr
  refine ⟨_, pss_cons (ps_asg (pe_tup (pa_cons (pg_make0 T.mk_Town (ok_Town_init T) (hr.mono (by decide)) rfl T.gl_Town px) (pa_cons (pg_make0 T.mk_Town (ok_Town_init T) (hr.mono (by decide)) rfl T.gl_Town px) pa_nil))) (pg_tup rfl (pgs_cons (pg_name (i := 0) sc_law_plain.nd rfl (by first | exact Or.inl rfl | exact Or.inr rfl)) (pgs_cons (pg_name (i := 1) sc_law_plain.nd rfl (by first | exact Or.inl rfl | exact Or.inr rfl)) pgs_nil)))) (pss_cons (ps_expr (pg_meth (ok_Town_add T) (hr.mono (by decide)) T.cl_Town T.me_Town_add px (pv 0) (pa_cons pe_str pa_nil))) (pss_cons (ps_expr (pg_meth (ok_Town_add T) (hr.mono (by decide)) T.cl_Town T.me_Town_add px (pv 0) (pa_cons pe_str pa_nil))) (pss_cons p3 (pss_cons p4 (pss_one p5))))), ?_⟩
  refine fun r dx hr0 hdx ndr => ?_
  have gm : Go (TL K) (TG K) (fun _ => False) H (upd (upd H dx (.own r)) r (.ins (CTwn K) dx [])) := (Go.new hdx).trans (Go.new (by rw [upd_ne ndr.symm]; exact hr0))
  refine ⟨r, dx, rfl, upd_same, fun c d H1 hc hd D1 g1 => ⟨rfl, ?_⟩⟩
  have tb1 := g1.tb (gm.tb tb)
  refine fun r2 dx2 hr2 hdx2 ndr2 => ?_
  have gm2 : Go (TL K) (TG K) (fun _ => False) H1 (upd (upd H1 dx2 (.own r2)) r2 (.ins (CTwn K) dx2 [])) := (Go.new hdx2).trans (Go.new (by rw [upd_ne ndr2.symm]; exact hr2))
  have D1' := D1.go gm2 id id id
  have nr2 : ∀ {b : Addr} {u : HO}, H1 b = some u → b ≠ r2 := fun e => ne_of_none e hr2
  obtain ⟨⟨dx1, a1⟩, a2, a3⟩ := id D1
  refine ⟨r2, dx2, rfl, upd_same, fun c2 d2 H2 hc2 hd2 D2 g2 => ⟨rfl, ?_⟩⟩
  have D3 := D1'.go g2 (nr2 a1) (nr2 a2) (nr2 a3)
  have nc : c ≠ c2 := ne_of_none (gm2.get a2) hc2
  have tb2 := g2.tb (gm2.tb tb1)
  refine ⟨(by show 2 ≤ sizeLine; decide), fun tp htp => ?_⟩
  have gt : Go (TL K) (TG K) (fun _ => False) H2 (upd H2 tp (.tup [.ref r, .ref r2])) := Go.new htp
  have et : upd H2 tp (.tup [.ref r, .ref r2]) tp = some (.tup [.ref r, .ref r2]) := upd_same
  have D4 := D3.go gt id id id
  have D5 := D2.go gt id id id
  have tb4 := gt.tb tb2
  generalize upd H2 tp (.tup [.ref r, .ref r2]) = H4 at et D4 D5 tb4 ⊢
  refine ⟨tp, _, rfl, SqT.of et, rfl, _, _, rfl, _, _, rfl, rfl, ?_⟩
  obtain ⟨⟨dx4, b1⟩, b2, b3⟩ := id D4
  obtain ⟨⟨dx5, b4⟩, b5, b6⟩ := id D5
  walk_at "v"
  refine ⟨_, _, _, rfl, b1, rfl, ?_⟩
  refine ⟨r, c, d, [], [], "a", rfl, D4, fun z => absurd z (by decide), fun _ H5 D6 g6 => ?_⟩
  have D7 := D5.go g6 (ne_of b4 b2 (by intro z; cases z)) nc.symm (ne_of b6 b2 (by intro z; cases z))
  have tb6 := g6.tb tb4
  obtain ⟨⟨dx6, c1⟩, c4, c3⟩ := id D6
  obtain ⟨⟨dx7, c5⟩, c6, c7⟩ := id D7
  walk_at "v"
  refine ⟨_, _, _, rfl, c1, rfl, ?_⟩
  refine ⟨r, c, d, _, [], "b", rfl, D6, fun z => absurd z (by decide), fun _ H6 D8 g8 => ?_⟩
  have D9 := D7.go g8 (ne_of c5 c4 (by intro z; cases z)) nc.symm (ne_of c7 c4 (by intro z; cases z))
  refine r3 _ H6 r c d r2 c2 d2 _ _ _ D8 D9 nc (g8.tb tb6) fun x2 H7 E1 E2 tb7 => ?_
  refine r4 _ H7 _ _ _ _ _ tb7 fun bd fs H8 hb8 hB g9 => ?_
  exact r5 _ H8 r c d r2 c2 d2 bd fs _ _ (E1.go g9 id id id) (E2.go g9 id id id) (g9.tb tb7) hb8 hB k
end
end K1
namespace K1
open PySem PySem.Spec PyProof.Rows L2 Fy
open GxR (TabG Tabbed)
theorem cut_take {xs : List V} {k : Nat} : cutV xs none (some (k : Int)) = xs.take k := by
  unfold cutV
  rw [HT.sIx_nat, HT.sIx_none, List.drop_zero, Nat.sub_zero]
  rcases Nat.le_total k xs.length with h | h
  · rw [Nat.min_eq_left h]
  · rw [Nat.min_eq_right h, List.take_of_length_le h, List.take_length]
structure Dice where
  a : Int
  b : Int
  c : Int
def dvals (D : Dice) : List V := [.int D.a, .int D.b, .int D.c]
def dice0 (z : Int) : Dice := if -10 < z ∧ z < 10 then ⟨if z < 0 then -z else z, 0, 2⟩ else ⟨z, 1 + z % 1009, if 1000000000000000000 ≤ z then 1 else 0⟩
def easy (D : Dice) : Bool := decide (D.c = 2) || (decide (D.c = 1) && decide (0 < D.a))
def rollD (D : Dice) (m : Int) : Dice := if easy D = true then { D with a := D.a / m } else ⟨(D.a * 48271 + D.b * 69621 + 11) % 2147483647, D.b + 1, 0⟩
def rollV (D : Dice) (m : Int) : Int := if easy D = true then D.a % m else (D.a * 48271 + D.b * 69621 + 11) % 2147483647 / 7 % m
def sp_law_dice (K : PySem.W.Frag) : Sp := fun vs H Q _ => ∃ z : Int, vs = [.int z] ∧ ∀ p, H p = none → Q (.ref p) (upd H p (.lst (dvals (dice0 z))))
def sp_law_roll (K : PySem.W.Frag) : Sp := fun vs H Q _ => ∃ (da : Addr) (D : Dice) (m : Int), vs = [.ref da, .int m] ∧ H da = some (.lst (dvals D)) ∧ 0 < m ∧ m ≤ 100000000 ∧ Q (.int (rollV D m)) (upd H da (.lst (dvals (rollD D m))))
def cell1 (ns : List Int) : Int := ns.headD 0
def sp_law_rounds (K : PySem.W.Frag) : Sp := fun vs H Q _ => ∃ (sa : Addr) (ns : List Int), vs = [.ref sa, .int 1] ∧ SqL K H sa (ns.map V.int) ∧ ∀ p q H', H' p = some (.lst [.ref q]) → H' q = some (.lst (dvals (dice0 (cell1 ns)))) → p ≠ q → H q = none → Go (TL K) (TG K) (fun _ => False) H H' → Q (.ref p) H'
section
variable {P : Program} {w : World} {K : PySem.W.Frag} {mg : Str → Option Value} {base : Heap}
abbrev N_law_dice : List Str := ["cell"]
theorem sc_law_dice : FnScope N_law_dice ["cell"] d_law_dice.scope := ⟨rfl, rfl, rfl, by decide +kernel, rfl, by decide +kernel, by decide +kernel⟩
theorem ok_law_dice (T : Txt K mg base) : Good P w K mg base 1 (He.fAd K d_law_dice.at_) ["cell"] [] (sp_law_dice K) := by
  refine good_of0 T.fn_law_dice sc_law_dice rfl rfl (fun _ _ _ _ _ _ us hl => match us, hl with | [_], _ => rfl) (fun vs H Q E h => ?_) (fun A outer s H vs Q E hr h => ?_)
  · obtain ⟨z, rfl, _⟩ := h
    rfl
  · obtain ⟨z, rfl, h⟩ := h
    refine ⟨_, (pss_cons (ps_if (pt_chain op_lt op_lt (pe_op op_sub pe_int pe_int) (pv 0) pe_int) (pss_one (ps_ret (pe_lst (pa_cons (pe_callB call_abs (by rfl) T.fr_abs (by decide +kernel) (pa_cons (pv 0) pa_nil)) (pa_cons pe_int (pa_cons pe_int pa_nil)))))) pss_nil)
    (pss_one (ps_ret (pe_lst (pa_cons (pv 0) (pa_cons (pe_op op_add pe_int (pe_op op_mod (pe_callTy call_int1 (by rfl) T.fr_int (by decide +kernel) (pa_cons (pv 0) pa_nil)) pe_int)) (pa_cons (pe_callTy call_int1 (by rfl) T.fr_int (by decide +kernel) (pa_cons (pe_cmpR op_ge (pv 0) (pe_op op_pow pe_int pe_int) (nomark _)) pa_nil)) pa_nil))))))), ?_⟩
    have e10 : (0 : Int) - 10 = -10 := rfl
    have hno : (¬ (-10 < z ∧ z < 10)) → tRet (tLst (tCons (tVar 0) (tCons (tOp (rI0 fun i j => V.int (i + j)) (tC (V.int 1)) (tOp (rI (fun _ j => 0 < j) fun i j => V.int (i % j)) (tCB (fun xs H Q => (∃ i, xs = [V.int i] ∧ Q (V.int i) H) ∨ ∃ k, xs = [V.bl k] ∧ Q (V.int (if k = true then 1 else 0)) H) (tCons (tVar 0) tNil)) (tC (V.int 1009)))) (tCons (tCB (fun xs H Q => (∃ i, xs = [V.int i] ∧ Q (V.int i) H) ∨ ∃ k, xs = [V.bl k] ∧ Q (V.int (if k = true then 1 else 0)) H) (tCons (tOp (rI0 fun i j => V.bl (decide (j ≤ i))) (tVar 0) (tOp (rI CPow fun i j => V.int (i ^ j.toNat)) (tC (V.int 10)) (tC (V.int 18)))) tNil)) tNil)))) { nx := fun _ H' => Q V.non H', rt := Q } [some (V.int z)] H := fun hz => by
      walk_at "v"; walk_at "v"
      refine .inl ⟨_, rfl, ?_⟩
      refine ⟨_, _, rfl, rfl, (by show (0 : Int) < 1009; decide), ?_⟩
      refine ⟨_, _, rfl, rfl, ?_⟩
      walk_at "v"
      refine ⟨_, _, rfl, rfl, ⟨(by decide), (by decide), (by decide)⟩, ?_⟩
      refine ⟨_, _, rfl, rfl, ?_⟩
      refine .inr ⟨_, rfl, ?_⟩
      refine ⟨(by show 3 ≤ sizeLine; decide), fun p hp => ?_⟩
      have e : dvals (dice0 z) = [V.int z, V.int (1 + z % 1009), V.int (if decide ((10 : Int) ^ (18 : Int).toNat ≤ z) = true then 1 else 0)] := by
        unfold dice0
        rw [if_neg hz]
        have : (10 : Int) ^ (18 : Int).toNat = 1000000000000000000 := by decide
        rw [this]
        unfold dvals
        by_cases y : (1000000000000000000 : Int) ≤ z
        · rw [if_pos y, if_pos (decide_eq_true y)]
        · rw [if_neg y, if_neg (by simpa using y)]
      have q := h p hp
      rw [e] at q
      exact q
    walk_at "go"
    refine ite2 (fun y1 => ?_) (fun y1 => ?_)
    · walk_at "go"
      refine ite2 (fun y2 => ?_) (fun y2 => ?_)
      · walk_at "v"
        refine ⟨_, rfl, ?_⟩
        refine ⟨(by show 3 ≤ sizeLine; decide), fun p hp => ?_⟩
        have q := h p hp
        unfold dice0 at q
        have z1 : -10 < z := of_decide_eq_true y1
        have z2 : z < 10 := of_decide_eq_true y2
        rw [if_pos ⟨z1, z2⟩] at q
        exact q
      · exact hno fun y => y2 (decide_eq_true y.2)
    · exact ⟨_, rfl, iteF (hno fun y => y1 (decide_eq_true y.1))⟩
abbrev N_law_roll : List Str := ["dice", "many", "found"]
theorem sc_law_roll : FnScope N_law_roll ["dice", "many"] d_law_roll.scope := ⟨rfl, rfl, rfl, by decide +kernel, rfl, by decide +kernel, by decide +kernel⟩
theorem ok_law_roll (T : Txt K mg base) : Good P w K mg base 1 (He.fAd K d_law_roll.at_) ["dice", "many"] [] (sp_law_roll K) := by
  refine good_of0 T.fn_law_roll sc_law_roll rfl rfl (fun _ _ _ _ _ _ us hl => match us, hl with | [_, _], _ => rfl) (fun vs H Q E h => ?_) (fun A outer s H vs Q E hr h => ?_)
  · obtain ⟨da, D, m, rfl, _⟩ := h
    rfl
  · obtain ⟨da, D, m, rfl, h⟩ := h
    refine ⟨_, (pss_cons (ps_if (PW.pt (pw_or (pt_cmpR op_eq (pe_ix ix_list (pv 0) pe_int (fun _ _ => rfl)) pe_int (nomark _)) (pw_or1 (PW.pt (pw_and (pt_cmpR op_eq (pe_ix ix_list (pv 0) pe_int (fun _ _ => rfl)) pe_int (nomark _)) (pw_and1 (pt_cmpR op_gt (pe_ix ix_list (pv 0) pe_int (fun _ _ => rfl)) pe_int (nomark _)))))))) (pss_cons (ps_set (i := 2) sc_law_roll.nd rfl (by first | exact Or.inl rfl | exact Or.inr rfl) (pe_op op_mod (pe_callTy call_int1 (by rfl) T.fr_int (by decide +kernel) (pa_cons (pe_ix ix_list (pv 0) pe_int (fun _ _ => rfl)) pa_nil)) (pv 1)))
      (pss_cons (ps_asg (pe_op op_fdiv (pe_ix ix_list (pv 0) pe_int (fun _ _ => rfl)) (pv 1)) (pg_sub (pv 0) pe_int set_list))
      (pss_one (ps_ret (pv 2))))) pss_nil)
    (pss_cons (ps_asg pe_int (pg_sub (pv 0) pe_int set_list))
    (pss_cons (ps_if (pt_cmpR op_gt (pv 1) pe_int (nomark _)) pss_dead pss_nil)
    (pss_cons (ps_asg (pe_op op_mod (pe_callTy call_int1 (by rfl) T.fr_int (by decide +kernel) (pa_cons (pe_op op_add (pe_op op_add (pe_op op_mul (pe_ix ix_list (pv 0) pe_int (fun _ _ => rfl)) pe_int) (pe_op op_mul (pe_ix ix_list (pv 0) pe_int (fun _ _ => rfl)) pe_int)) pe_int) pa_nil)) pe_int) (pg_sub (pv 0) pe_int set_list))
    (pss_cons (ps_asg (pe_op op_add (pe_ix ix_list (pv 0) pe_int (fun _ _ => rfl)) pe_int) (pg_sub (pv 0) pe_int set_list))
    (pss_one (ps_ret (pe_op op_mod (pe_callTy call_int1 (by rfl) T.fr_int (by decide +kernel) (pa_cons (pe_op op_fdiv (pe_ix ix_list (pv 0) pe_int (fun _ _ => rfl)) pe_int) pa_nil)) (pv 1))))))))), ?_⟩
    obtain ⟨hd, hm1, hm2, k⟩ := h
    have kE : easy D = true → Q (.int (D.a % m)) (upd H da (.lst [.int (D.a / m), .int D.b, .int D.c])) := fun e => by
      unfold rollV rollD at k
      rw [if_pos e, if_pos e] at k
      exact k
    have kN : ¬ easy D = true → Q (.int ((D.a * 48271 + D.b * 69621 + 11) % 2147483647 / 7 % m)) (upd H da (.lst [.int ((D.a * 48271 + D.b * 69621 + 11) % 2147483647), .int (D.b + 1), .int 0])) := fun e => by
      unfold rollV rollD at k
      rw [if_neg e, if_neg e] at k
      exact k
    walk_at "v"
    refine ⟨_, _, _, _, rfl, rfl, SqL.of hd, rfl, ?_⟩
    walk_at "go"
    refine ite2 (fun z => ?_) (fun z => ?_)
    · have ee : easy D = true := by
        have : D.c = 2 := V.int.inj (of_decide_eq_true z)
        simp [easy, this]
      refine iteT ?_
      walk_at "v"
      refine ⟨_, _, _, _, rfl, rfl, SqL.of hd, rfl, ?_⟩
      refine .inl ⟨_, rfl, ?_⟩
      walk_at "v"
      refine ⟨_, _, rfl, rfl, hm1, ?_⟩
      walk_at "v"
      refine ⟨_, _, _, _, rfl, rfl, SqL.of hd, rfl, ?_⟩
      walk_at "v"
      refine ⟨_, _, rfl, rfl, ⟨hm1, by omega⟩, ?_⟩
      walk_at "v"
      refine ⟨_, _, _, 0, rfl, rfl, hd, rfl, ?_⟩
      walk_at "v"
      exact kE ee
    · have z1 : ¬ D.c = 2 := fun y => z (decide_eq_true (by rw [y]))
      walk_at "v"
      refine ⟨_, _, _, _, rfl, rfl, SqL.of hd, rfl, ?_⟩
      walk_at "go"
      refine ite2 (fun y => ?_) (fun y => ?_)
      · have y1 : D.c = 1 := V.int.inj (of_decide_eq_true y)
        walk_at "v"
        refine ⟨_, _, _, _, rfl, rfl, SqL.of hd, rfl, ?_⟩
        walk_at "go"
        refine ite2 (fun x => ?_) (fun x => ?_)
        · have ee : easy D = true := by
            have : 0 < D.a := of_decide_eq_true x
            simp [easy, y1, this]
          walk_at "v"
          refine ⟨_, _, _, _, rfl, rfl, SqL.of hd, rfl, ?_⟩
          refine .inl ⟨_, rfl, ?_⟩
          walk_at "v"
          refine ⟨_, _, rfl, rfl, hm1, ?_⟩
          walk_at "v"
          refine ⟨_, _, _, _, rfl, rfl, SqL.of hd, rfl, ?_⟩
          walk_at "v"
          refine ⟨_, _, rfl, rfl, ⟨hm1, by omega⟩, ?_⟩
          walk_at "v"
          refine ⟨_, _, _, 0, rfl, rfl, hd, rfl, ?_⟩
          walk_at "v"
          exact kE ee
        · have ee : ¬ easy D = true := by
            have : ¬ 0 < D.a := fun q => x (decide_eq_true q)
            simp [easy, y1, this]
          walk_at "v"
          refine ⟨_, _, _, 2, rfl, rfl, hd, rfl, ?_⟩
          walk_at "go"
          refine ite2 (fun y => absurd (of_decide_eq_true y) (by omega)) (fun y => ?_)
          walk_at "v"
          refine ⟨_, _, _, _, rfl, rfl, SqL.of upd_same, rfl, ?_⟩
          refine ⟨_, _, rfl, rfl, .inr ⟨by decide, by decide⟩, ?_⟩
          walk_at "v"
          refine ⟨_, _, _, _, rfl, rfl, SqL.of upd_same, rfl, ?_⟩
          refine ⟨_, _, rfl, rfl, .inr ⟨by decide, by decide⟩, ?_⟩
          walk_at "go"
          refine .inl ⟨_, rfl, ?_⟩
          refine ⟨_, _, rfl, rfl, (by show (0 : Int) < 2147483647; decide), ?_⟩
          walk_at "v"
          refine ⟨_, _, _, 0, rfl, rfl, upd_same, rfl, ?_⟩
          walk_at "v"
          refine ⟨_, _, _, _, rfl, rfl, SqL.of upd_same, rfl, ?_⟩
          walk_at "go"
          refine ⟨_, _, _, 1, rfl, rfl, upd_same, rfl, ?_⟩
          walk_at "v"
          refine ⟨_, _, _, _, rfl, rfl, SqL.of upd_same, rfl, ?_⟩
          refine ⟨_, _, rfl, rfl, ⟨by decide, by decide⟩, ?_⟩
          refine .inl ⟨_, rfl, ?_⟩
          walk_at "v"
          refine ⟨_, _, rfl, rfl, hm1, ?_⟩
          rw [upd_upd, upd_upd]
          exact kN ee
      · have ee : ¬ easy D = true := by
          have : ¬ D.c = 1 := fun q => y (decide_eq_true (by rw [q]))
          simp [easy, z1, this]
        refine iteF ?_
        walk_at "v"
        refine ⟨_, _, _, 2, rfl, rfl, hd, rfl, ?_⟩
        walk_at "go"
        refine ite2 (fun y => absurd (of_decide_eq_true y) (by omega)) (fun y => ?_)
        walk_at "v"
        refine ⟨_, _, _, _, rfl, rfl, SqL.of upd_same, rfl, ?_⟩
        refine ⟨_, _, rfl, rfl, .inr ⟨by decide, by decide⟩, ?_⟩
        walk_at "v"
        refine ⟨_, _, _, _, rfl, rfl, SqL.of upd_same, rfl, ?_⟩
        refine ⟨_, _, rfl, rfl, .inr ⟨by decide, by decide⟩, ?_⟩
        walk_at "go"
        refine .inl ⟨_, rfl, ?_⟩
        refine ⟨_, _, rfl, rfl, (by show (0 : Int) < 2147483647; decide), ?_⟩
        walk_at "v"
        refine ⟨_, _, _, 0, rfl, rfl, upd_same, rfl, ?_⟩
        walk_at "v"
        refine ⟨_, _, _, _, rfl, rfl, SqL.of upd_same, rfl, ?_⟩
        walk_at "go"
        refine ⟨_, _, _, 1, rfl, rfl, upd_same, rfl, ?_⟩
        walk_at "v"
        refine ⟨_, _, _, _, rfl, rfl, SqL.of upd_same, rfl, ?_⟩
        refine ⟨_, _, rfl, rfl, ⟨by decide, by decide⟩, ?_⟩
        refine .inl ⟨_, rfl, ?_⟩
        walk_at "v"
        refine ⟨_, _, rfl, rfl, hm1, ?_⟩
        rw [upd_upd, upd_upd]
        exact kN ee
abbrev N_law_rounds : List Str := ["script", "most", "cells", "cell"]
theorem sc_law_rounds : FnScope N_law_rounds ["script", "most"] d_law_rounds.scope := ⟨rfl, rfl, rfl, by decide +kernel, rfl, by decide +kernel, by decide +kernel⟩
theorem ok_law_rounds (T : Txt K mg base) : Good P w K mg base 2 (He.fAd K d_law_rounds.at_) ["script", "most"] [] (sp_law_rounds K) := by
  refine good_of0 T.fn_law_rounds sc_law_rounds rfl rfl (fun _ _ _ _ _ _ us hl => match us, hl with | [_, _], _ => rfl) (fun vs H Q E h => ?_) (fun A outer s H vs Q E hr h => ?_)
  · obtain ⟨sa, ns, rfl, _⟩ := h
    rfl
  · obtain ⟨sa, ns, rfl, h⟩ := h
    refine ⟨_, (pss_cons (ps_set (i := 2) sc_law_rounds.nd rfl (by first | exact Or.inl rfl | exact Or.inr rfl) (pe_slice sl_list (pv 0) po_none (po_some (pv 1))))
    (pss_cons (ps_if (pt_cmpR (op_eqD hr.units) (pv 2) (pe_lst pa_nil) (nomark _)) (pss_one (ps_set (i := 2) sc_law_rounds.nd rfl (by first | exact Or.inl rfl | exact Or.inr rfl) (pe_lst (pa_cons pe_int pa_nil)))) pss_nil)
    (pss_one (ps_ret (pe_lc (own := [("cell", 3)]) (g := gName 3) (tt := tYes) rfl sc_law_rounds.nd (pi_list (pv 2)) (blkOk_by (own := [("cell", 3)]) (N := N_law_rounds) (sc := d_law_rounds.scope) (by decide +kernel)) (fun _ _ _ _ _ => (pg_name (i := 3) sc_law_rounds.nd rfl (by first | exact Or.inl rfl | exact Or.inr rfl))) (fun _ _ _ _ _ => pts_nil) (fun _ _ _ _ _ => (pg_call (ok_law_dice T) (hr.mono (by decide)) rfl T.gl_law_dice passL (pa_cons (pv 3) pa_nil)))))))), ?_⟩
    obtain ⟨hs, k⟩ := h
    walk_at "v"; walk_at "v"
    refine ⟨_, rfl, sa, _, rfl, hs, fun ca hca => ?_⟩
    have ec : cutV (ns.map V.int) none (some 1) = (ns.take 1).map V.int := by
      rw [show (1 : Int) = ((1 : Nat) : Int) from rfl, cut_take, List.map_take]
    rw [ec]
    walk_at "v"
    refine ⟨(by decide), fun ea hea => ?_⟩
    have g0 : Go (TL K) (TG K) (fun _ => False) H (upd (upd H ca (.lst ((ns.take 1).map V.int))) ea (.lst [])) := (Go.new hca).trans (Go.new hea)
    have e1 : upd (upd H ca (.lst ((ns.take 1).map V.int))) ea (.lst []) ca = some (.lst ((ns.take 1).map V.int)) := by
      rw [upd_ne (ne_of_none upd_same hea), upd_same]
    have e2 : upd (upd H ca (.lst ((ns.take 1).map V.int))) ea (.lst []) ea = some (.lst []) := upd_same
    generalize upd (upd H ca (.lst ((ns.take 1).map V.int))) ea (.lst []) = H1 at g0 e1 e2 ⊢
    have se : SeqAt.shaped (PyData.list []) = true := PySem.W.shaped_ints []
    match ns, e1, k with
    | [], e1, k =>
      refine ⟨.list [], .list [], .lst (SqL.of e1) .nil, .lst (SqL.of e2) .nil, se, se, ?_⟩
      rw [eqv_same se]
      refine ⟨_, rfl, iteT ?_⟩
      refine ⟨(by show 1 ≤ sizeLine; decide), fun cb hcb => ?_⟩
      have g1 := g0.trans (Go.new (o := .lst [.int 0]) hcb)
      have e3 : upd H1 cb (.lst [.int 0]) cb = some (.lst [.int (cell1 [])]) := upd_same
      generalize upd H1 cb (.lst [.int 0]) = H2 at g1 e3 ⊢
      walk_at "v"
      refine ⟨cb, rfl, ⟨_, SqL.of e3⟩, fun D hD => lc_fold V.int [(cell1 [])] rfl walk_itl (fun _ _ => true) false
        (fun st H' => Go (TL K) (TG K) (fun a => a = D) H2 H' ∧ if st = true then ∃ q, H' D = some (.lst [.ref q]) ∧ H' q = some (.lst (dvals (dice0 (cell1 [])))) ∧ D ≠ q ∧ H q = none else H' D = some (.lst []))
        ⟨Go.new hD, upd_same⟩ (fun st H' h => SqL.of (h.1.keep _ _ e3 (by intro _ z; cases z) (ne_of_none e3 hD))) ?_ ?_⟩
      · intro pre y post H' ey h
        have ep : pre = [] := by
          cases pre with
          | nil => rfl
          | cons _ t => exact absurd (congrArg List.length ey) (by simp)
        subst ep
        injection ey with ey _
        subst ey
        obtain ⟨g3, eD⟩ := h
        have eD' : H' D = some (.lst []) := eD
        refine ⟨rfl, ?_⟩
        refine tYes_ok ?_
        walk_at "v"
        refine ⟨_, rfl, fun p hp => ⟨[], by rw [upd_ne (ne_of_none eD' hp)]; exact eD', (by decide), ?_⟩⟩
        have nDp : D ≠ p := ne_of_none eD' hp
        refine ⟨(g3.trans (Go.new hp)).trans (Go.set (by rw [upd_ne nDp]; exact eD') plain_lst rfl), p, upd_same, by rw [upd_ne nDp.symm]; exact upd_same, nDp, g1.free p (g3.free p hp)⟩
      · rintro H' ⟨g3, q, e4, e5, nq, fq⟩
        exact k D q H' e4 e5 nq fq ((g1.wide (S := fun a => a = D)).trans g3 |>.drop fun b e => .inr (by rw [e]; exact g1.free D hD))
    | z :: r, e1, k =>
      have sz : SeqAt.shaped (PyData.list [PyData.int z]) = true := PySem.W.shaped_ints [z]
      refine ⟨.list [.int z], .list [], .lst (SqL.of e1) (.cons (.int z) .nil), .lst (SqL.of e2) .nil, sz, se, ?_⟩
      rw [show PyData.eqv (.list [.int z]) (.list []) = false from rfl]
      refine ⟨_, rfl, iteF ?_⟩
      have g1 := g0
      have e3 : H1 ca = some (.lst [.int (cell1 (z :: r))]) := e1
      generalize H1 = H2 at g1 e3 ⊢
      generalize ca = cb at e3 ⊢
      walk_at "v"
      refine ⟨cb, rfl, ⟨_, SqL.of e3⟩, fun D hD => lc_fold V.int [(cell1 (z :: r))] rfl walk_itl (fun _ _ => true) false
        (fun st H' => Go (TL K) (TG K) (fun a => a = D) H2 H' ∧ if st = true then ∃ q, H' D = some (.lst [.ref q]) ∧ H' q = some (.lst (dvals (dice0 (cell1 (z :: r))))) ∧ D ≠ q ∧ H q = none else H' D = some (.lst []))
        ⟨Go.new hD, upd_same⟩ (fun st H' h => SqL.of (h.1.keep _ _ e3 (by intro _ z; cases z) (ne_of_none e3 hD))) ?_ ?_⟩
      · intro pre y post H' ey h
        have ep : pre = [] := by
          cases pre with
          | nil => rfl
          | cons _ t => exact absurd (congrArg List.length ey) (by simp)
        subst ep
        injection ey with ey _
        subst ey
        obtain ⟨g3, eD⟩ := h
        have eD' : H' D = some (.lst []) := eD
        refine ⟨rfl, ?_⟩
        refine tYes_ok ?_
        walk_at "v"
        refine ⟨_, rfl, fun p hp => ⟨[], by rw [upd_ne (ne_of_none eD' hp)]; exact eD', (by decide), ?_⟩⟩
        have nDp : D ≠ p := ne_of_none eD' hp
        refine ⟨(g3.trans (Go.new hp)).trans (Go.set (by rw [upd_ne nDp]; exact eD') plain_lst rfl), p, upd_same, by rw [upd_ne nDp.symm]; exact upd_same, nDp, g1.free p (g3.free p hp)⟩
      · rintro H' ⟨g3, q, e4, e5, nq, fq⟩
        exact k D q H' e4 e5 nq fq ((g1.wide (S := fun a => a = D)).trans g3 |>.drop fun b e => .inr (by rw [e]; exact g1.free D hD))
end
end K1
namespace K1
open PySem PySem.Spec PyProof.Rows L2 Fy
open GxR (TabG Tabbed)
abbrev N_law : List Str := ["script", "dice", "corner", "step", "tables", "start", "places", "corners", "town", "own", "end", "way", "many", "most", "ways", "far", "one", "other", "minutes", "back", "good", "again", "here", "k", "pair", "place"]
theorem sc_law : FnScope N_law ["script"] d_law.scope := ⟨rfl, rfl, rfl, by decide +kernel, rfl, by decide +kernel, by decide +kernel⟩
section
variable {P : Program} {w : World} {K : PySem.W.Frag} {mg : Str → Option Value} {base : Heap}
theorem told_law (T : Txt K mg base) {A : Around} {outer : List Env} {s : Shared} {H0 : Hp} {E0 : XK} (hr : Room 9 (A.deeper (envOfC d_law.qual d_law.scope s.heap.objs.size (He.fAd K d_law.at_) (.ref (He.codeOf K d_law.at_))))) {p lpos pos : Pos} {params : Arguments} {body : Expr} {scope : Scope} {t : XK → TE}
  (L : LamX.LamS d_law.scope scope)   (hdef : defaultsOf params (bodyX P w K mg base N_law d_law A outer s H0 E0).env = ([], [])) (hbind : ∀ (q : Str) (cl : List (Str × Addr)) (pm cv ctv : Value), bindArgs (PySem.W.kla_fn "<lambda>" q params body scope cl pm cv ctv) ⟨[], []⟩ = pure [])
    (hbody : ∀ (A' : Around) (outer' : List Env) (s' : Shared) (H : Hp) (E : XK) (f c' : Addr), Room 5 (A'.deeper (LamX.lamEnv (bodyX P w K mg base N_law d_law A outer s H0 E0) scope s'.heap.objs.size f c')) → PE (LamX.lamCx (bodyX P w K mg base N_law d_law A outer s H0 E0) A' outer' s' H E scope f c') body (t E)) :
   PE (bodyX P w K mg base N_law d_law A outer s H0 E0) (.Call (.Name "_law_told" p) [.Lambda params body scope lpos] [] pos) (tLamG (TL K) (TG K) (LamX.TTold K (SErr K) "StreetError") t) := by
  refine pe_told (k := 5) (TL := TL K) (TG := TG K) (Ng := N_law_told) (a := "what") (e := "StreetError") (c := (He.cT K ("law", none)).1) (P := (He.cT K ("law", none)).2) (dt := d_law_told) T.fn_law_told ?g1 ?g2 ?g3 ?g4 (show d_law_told.body = [.Try [.Return (some (.Call (.Name _ _) [] [] _)) _] [.ExceptHandler (some (.Name _ _)) none [.Return (some (.Constant (.str _) _ _)) _] _] [] [] _] from rfl) ?g6 ?g7 ?g8 ?g9 ?g10 ?g11 ?g12 ?g13 ?g14 ?g15 ?g16 ?g17 ?g18 ?g19 ?g20 ?g21 ?g22 ?g23 ?g24
  case g1 => rfl
  case g2 => rfl
  case g3 => rfl
  case g4 => rfl
  case g6 => exact (fun _ _ _ _ _ _ us hl => match us, hl with | [_], _ => rfl)
  case g7 => exact rfl
  case g8 => exact T.gl_law_told
  case g9 => exact sc_law_told
  case g10 => rfl
  case g11 => exact .inl rfl
  case g12 => rfl
  case g13 => exact T.gl_StreetError
  case g14 => exact fun _ => rfl
  case g15 => exact T.tb_law
  case g16 => rfl
  case g17 => exact T.tm_law
  case g18 => exact T.tu_law
  case g19 => exact T.tn_law
  case g20 => exact (hr.mono (by decide))
  case g21 => exact L
  case g22 => exact hdef
  case g23 => exact hbind
  case g24 => exact hbody
end
def lt7 : List Str := ["a", "b", "c", "d", "e", "f", "g"]
theorem lt7_nd : lt7.Nodup := by decide
theorem lt7_ok : ∀ n ∈ lt7, PyData.strOk n = true ∧ n ≠ "" ∧ n ≠ "zz" := by decide +kernel
structure W1 (K : PySem.W.Frag) (H : Hp) (q p t c d o L : Addr) (cs : List Str) (R : Rs) : Prop where
  town : TownAt (CTwn K) H t c d cs R
  own : H o = some (.dT (kvT R))
  cor : H L = some (.lst (cs.map V.str))
  dice : ∃ Dc, H q = some (.lst (dvals Dc))
  pl : H p = some (.lst [.ref q])
  od : o ≠ d
  Lc : L ≠ c
  qc : q ≠ c
  qL : q ≠ L
  pc : p ≠ c
  pL : p ≠ L
  wf : WfT cs R
  sub : ∀ n ∈ cs, n ∈ lt7
  pos : cs ≠ []
  tb : Tb (TL K) (TG K) H
section
variable {K : PySem.W.Frag} {H H' : Hp} {q p t c d o L : Addr} {cs : List Str} {R : Rs} {S : Ad}
theorem W1.go (W : W1 K H q p t c d o L cs R) (g : Go (TL K) (TG K) S H H') (hq : ∃ Dc, H' q = some (.lst (dvals Dc))) (hS : ∀ b, S b → b = q ∨ H b = none) : W1 K H' q p t c d o L cs R := by
  obtain ⟨Dc, e1⟩ := W.dice
  obtain ⟨⟨dx, h1⟩, h2, h3⟩ := id W.town
  have n : ∀ b u, H b = some u → b ≠ q → ¬ S b := fun b u eb n z => by
    rcases hS b z with y | y
    · exact n y
    · rw [y] at eb
      cases eb
  have npq : p ≠ q := fun z => by
    have := W.pl
    rw [z, e1] at this
    injection this with this
    injection this with this
    exact absurd (congrArg List.length this) (by simp [dvals])
  exact ⟨W.town.go g (n _ _ h1 (ne_of h1 e1 (by intro z; cases z))) (n _ _ h2 W.qc.symm) (n _ _ h3 (ne_of h3 e1 (by intro z; cases z))), g.keep _ _ W.own (by intro _ z; cases z) (n _ _ W.own (ne_of W.own e1 (by intro z; cases z))),
    g.keep _ _ W.cor (by intro _ z; cases z) (n _ _ W.cor W.qL.symm), hq, g.keep _ _ W.pl (by intro _ z; cases z) (n _ _ W.pl npq), W.od, W.Lc, W.qc, W.qL, W.pc, W.pL, W.wf, W.sub, W.pos, g.tb W.tb⟩
theorem W1.go0 (W : W1 K H q p t c d o L cs R) (g : Go (TL K) (TG K) (fun _ => False) H H') : W1 K H' q p t c d o L cs R := W.go g (W.dice.imp fun _ h => g.get h) fun _ z => z.elim
theorem W1.roll (W : W1 K H q p t c d o L cs R) {Dc : Dice} (h : H q = some (.lst (dvals Dc))) (Dc2 : Dice) : W1 K (upd H q (.lst (dvals Dc2))) q p t c d o L cs R :=
  W.go (S := fun a => a = q) (Go.set h plain_lst rfl) ⟨_, upd_same⟩ fun _ z => .inl z
theorem W1.len7 (W : W1 K H q p t c d o L cs R) : cs.length ≤ 7 := by
  have := nd_sub_len cs lt7 W.wf.ndc W.sub
  exact this
end
/-- a drawn number as a natural one -/
theorem roll_lt {Dc : Dice} {m : Int} (h : 0 < m) : 0 ≤ rollV Dc m ∧ rollV Dc m < m := by
  unfold rollV
  split
  · exact ⟨Int.emod_nonneg _ (by omega), Int.emod_lt_of_pos _ h⟩
  · exact ⟨Int.emod_nonneg _ (by omega), Int.emod_lt_of_pos _ h⟩
theorem roll_nat (Dc : Dice) (m : Nat) (h : 0 < m) : ∃ j : Nat, j < m ∧ rollV Dc m = j := by
  have := roll_lt (Dc := Dc) (m := (m : Int)) (by omega)
  exact ⟨(rollV Dc m).toNat, by omega, by omega⟩
abbrev Sg (q t o L : Addr) (x0 x2 x3 x4 x5 x6 x10 x11 x12 x13 x14 x15 x16 x17 x18 x19 x20 x21 x22 x23 x24 x25 : Option V) : L2.St :=
  [x0, some (.ref q), x2, x3, x4, x5, x6, some (.ref L), some (.ref t), some (.ref o), x10, x11, x12, x13, x14, x15, x16, x17, x18, x19, x20, x21, x22, x23, x24, x25]
end K1
namespace K1
open PySem PySem.Spec PyProof.Rows L2 Fy
open GxR (TabG Tabbed)
section
variable {P : Program} {w : World} {K : PySem.W.Frag} {mg : Str → Option Value} {base : Heap}
/-- one, other = .. -/
theorem law_draw1 (T : Txt K mg base) {A : Around} {outer : List Env} {s : Shared} {H0 : Hp} {E0 : XK} (hr : Room 9 (A.deeper (envOfC d_law.qual d_law.scope s.heap.objs.size (He.fAd K d_law.at_) (.ref (He.codeOf K d_law.at_))))) :
    ∃ t, PS (bodyX P w K mg base N_law d_law A outer s H0 E0) ((subS ((subS ((d_law.body).getD 0 noS)).getD 2 noS)).getD 0 noS) t ∧ ∀ (D : Ends) (H : Hp) (q p t1 c d o L : Addr) (cs : List Str) (R : Rs) (x0 x2 x3 x4 x5 x6 x10 x11 x12 x13 x14 x15 x16 x17 x18 x19 x20 x21 x22 x23 x24 x25 : Option V), W1 K H q p t1 c d o L cs R →
      (∀ (a b : Str) (H' : Hp), (a ∈ cs ∨ a = "zz") → b ∈ cs → W1 K H' q p t1 c d o L cs R → D.nx (Sg q t1 o L x0 x2 x3 x4 x5 x6 x10 x11 x12 x13 x14 x15 (some (.str a)) (some (.str b)) x18 x19 x20 x21 x22 x23 x24 x25) H') →
      t D (Sg q t1 o L x0 x2 x3 x4 x5 x6 x10 x11 x12 x13 x14 x15 x16 x17 x18 x19 x20 x21 x22 x23 x24 x25) H := by
  have hu := hu_of hr
  refine ⟨_, (ps_asg (pe_tup (pa_cons (pe_ix ix_list (pe_op op_cat (pv 7) (pe_lst (pa_cons pe_str pa_nil))) (pg_call (ok_law_roll T) (hr.mono (by decide)) rfl T.gl_law_roll px (pa_cons (pv 1) (pa_cons (pe_op op_add (pe_callB call_len (by rfl) T.fr_len (PySem.boot_len) (pa_cons (pv 7) pa_nil)) pe_int) pa_nil))) (fun _ _ => rfl)) (pa_cons (pe_ix ix_list (pv 7) (pg_call (ok_law_roll T) (hr.mono (by decide)) rfl T.gl_law_roll px (pa_cons (pv 1) (pa_cons (pe_callB call_len (by rfl) T.fr_len (PySem.boot_len) (pa_cons (pv 7) pa_nil)) pa_nil))) (fun _ _ => rfl)) pa_nil))) (pg_tup rfl (pgs_cons (pg_name (i := 16) sc_law.nd rfl (by first | exact Or.inl rfl | exact Or.inr rfl)) (pgs_cons (pg_name (i := 17) sc_law.nd rfl (by first | exact Or.inl rfl | exact Or.inr rfl)) pgs_nil)))), fun D H q p t1 c d o L cs R x0 x2 x3 x4 x5 x6 x10 x11 x12 x13 x14 x15 x16 x17 x18 x19 x20 x21 x22 x23 x24 x25 W k => ?_⟩
  have l7 := W.len7
  have lp : 0 < cs.length := List.length_pos_iff.mpr W.pos
  walk_at "v"
  refine ⟨by decide, fun zl hzl => ?_⟩
  have W2 := W.go0 (Go.new (o := .lst [.str "zz"]) hzl)
  have ez : upd H zl (.lst [.str "zz"]) zl = some (.lst [.str "zz"]) := upd_same
  generalize upd H zl (.lst [.str "zz"]) = H1 at W2 ez ⊢
  refine ⟨L, zl, _, _, rfl, rfl, W2.cor, ez, (by rw [List.length_map]; show cs.length + 1 ≤ sizeLine; exact Nat.le_of_lt (thou_lt (by omega))), fun cl hcl => ?_⟩
  have W3 := W2.go0 (Go.new (o := .lst (cs.map V.str ++ [.str "zz"])) hcl)
  have ec : upd H1 cl (.lst (cs.map V.str ++ [.str "zz"])) cl = some (.lst ((cs ++ [("zz" : Str)]).map V.str)) := by rw [upd_same, List.map_append] <;> rfl
  have nq : cl ≠ q := by
    obtain ⟨_, e⟩ := W2.dice
    exact (ne_of_none e hcl).symm
  generalize upd H1 cl (.lst (cs.map V.str ++ [.str "zz"])) = H2 at W3 ec ⊢
  obtain ⟨Dc, hq⟩ := W3.dice
  walk_at "v"; walk_at "v"
  refine ⟨_, cs.length, rfl, .inl ⟨_, SqL.of W3.cor, (List.length_map ..).symm⟩, ?_⟩
  refine ⟨_, _, rfl, rfl, ?_⟩
  obtain ⟨j, hj, ej⟩ := roll_nat Dc (cs.length + 1) (by omega)
  have ej : rollV Dc ((cs.length : Int) + 1) = (j : Int) := ej
  refine ⟨q, Dc, _, rfl, hq, (by omega), (by omega), ?_⟩
  rw [ej]
  have ec3 : upd H2 q (.lst (dvals (rollD Dc ((cs.length : Int) + 1)))) cl = some (.lst ((cs ++ [("zz" : Str)]).map V.str)) := by rw [upd_ne nq]; exact ec
  have W4 := W3.roll hq (rollD Dc ((cs.length : Int) + 1))
  generalize upd H2 q (.lst (dvals (rollD Dc ((cs.length : Int) + 1)))) = H3 at ec3 W4 ⊢
  have jl : j < (cs ++ [("zz" : Str)]).length := by rw [List.length_append]; exact hj
  refine ⟨cl, _, j, .str (cs ++ [("zz" : Str)])[j], rfl, rfl, SqL.of ec3, atI_nat (by rw [List.getElem?_map, List.getElem?_eq_getElem jl] <;> rfl), ?_⟩
  have ha : (cs ++ [("zz" : Str)])[j] ∈ cs ∨ (cs ++ [("zz" : Str)])[j] = "zz" := by
    rcases List.mem_append.mp (List.getElem_mem jl) with z | z
    · exact .inl z
    · exact .inr (List.mem_singleton.mp z)
  generalize (cs ++ [("zz" : Str)])[j] = a at ha ⊢
  obtain ⟨Dc2, hq2⟩ := W4.dice
  walk_at "v"; walk_at "v"; walk_at "v"
  refine ⟨_, cs.length, rfl, .inl ⟨_, SqL.of W4.cor, (List.length_map ..).symm⟩, ?_⟩
  obtain ⟨i, hi, ei⟩ := roll_nat Dc2 cs.length (by omega)
  refine ⟨q, Dc2, _, rfl, hq2, (by omega), (by omega), ?_⟩
  rw [ei]
  have W5 := W4.roll hq2 (rollD Dc2 (cs.length : Int))
  generalize upd H3 q (.lst (dvals (rollD Dc2 (cs.length : Int)))) = H4 at W5 ⊢
  refine ⟨L, _, i, .str cs[i], rfl, rfl, SqL.of W5.cor, atI_nat (by rw [List.getElem?_map, List.getElem?_eq_getElem hi] <;> rfl), ?_⟩
  have hb := List.getElem_mem hi
  generalize cs[i] = b at hb ⊢
  refine ⟨(by show 2 ≤ sizeLine; decide), fun tp htp => ?_⟩
  refine ⟨tp, _, rfl, SqT.of upd_same, rfl, ?_⟩
  refine ⟨_, _, rfl, _, _, rfl, rfl, ?_⟩
  exact k a b _ ha hb (W5.go0 (Go.new htp))
/-- minutes, back = .. -/
theorem law_draw2 (T : Txt K mg base) {A : Around} {outer : List Env} {s : Shared} {H0 : Hp} {E0 : XK} (hr : Room 9 (A.deeper (envOfC d_law.qual d_law.scope s.heap.objs.size (He.fAd K d_law.at_) (.ref (He.codeOf K d_law.at_))))) :
    ∃ t, PS (bodyX P w K mg base N_law d_law A outer s H0 E0) ((subS ((subS ((d_law.body).getD 0 noS)).getD 2 noS)).getD 1 noS) t ∧ ∀ (D : Ends) (H : Hp) (q p t1 c d o L : Addr) (cs : List Str) (R : Rs) (x0 x2 x3 x4 x5 x6 x10 x11 x12 x13 x14 x15 x16 x17 x18 x19 x20 x21 x22 x23 x24 x25 : Option V), W1 K H q p t1 c d o L cs R →
      (∀ (m : Int) (g : Option Int) (H' : Hp), 0 ≤ m → m < 20 → (∀ x, g = some x → 0 ≤ x ∧ x < 10) → W1 K H' q p t1 c d o L cs R → D.nx (Sg q t1 o L x0 x2 x3 x4 x5 x6 x10 x11 x12 x13 x14 x15 x16 x17 (some (.int m)) (some (oi g)) x20 x21 x22 x23 x24 x25) H') →
      t D (Sg q t1 o L x0 x2 x3 x4 x5 x6 x10 x11 x12 x13 x14 x15 x16 x17 x18 x19 x20 x21 x22 x23 x24 x25) H := by
  have hu := hu_of hr
  refine ⟨_, (ps_asg (pe_tup (pa_cons (pg_call (ok_law_roll T) (hr.mono (by decide)) rfl T.gl_law_roll px (pa_cons (pv 1) (pa_cons pe_int pa_nil))) (pa_cons (pe_ix ix_list (pe_lst (pa_cons pe_non (pa_cons pe_int (pa_cons (pe_op op_add pe_int (pg_call (ok_law_roll T) (hr.mono (by decide)) rfl T.gl_law_roll px (pa_cons (pv 1) (pa_cons pe_int pa_nil)))) pa_nil)))) (pg_call (ok_law_roll T) (hr.mono (by decide)) rfl T.gl_law_roll px (pa_cons (pv 1) (pa_cons pe_int pa_nil))) (fun _ _ => rfl)) pa_nil))) (pg_tup rfl (pgs_cons (pg_name (i := 18) sc_law.nd rfl (by first | exact Or.inl rfl | exact Or.inr rfl)) (pgs_cons (pg_name (i := 19) sc_law.nd rfl (by first | exact Or.inl rfl | exact Or.inr rfl)) pgs_nil)))), fun D H q p t1 c d o L cs R x0 x2 x3 x4 x5 x6 x10 x11 x12 x13 x14 x15 x16 x17 x18 x19 x20 x21 x22 x23 x24 x25 W k => ?_⟩
  obtain ⟨Dc, hq⟩ := W.dice
  walk_at "v"
  have r1 := roll_lt (Dc := Dc) (m := 20) (by decide)
  refine ⟨q, Dc, 20, rfl, hq, by decide, by decide, ?_⟩
  have W2 := W.roll hq (rollD Dc 20)
  generalize rollV Dc 20 = m at r1 ⊢
  generalize upd H q (.lst (dvals (rollD Dc 20))) = H1 at W2 ⊢
  obtain ⟨Dc2, hq2⟩ := W2.dice
  walk_at "v"
  have r2 := roll_lt (Dc := Dc2) (m := 9) (by decide)
  refine ⟨q, Dc2, 9, rfl, hq2, by decide, by decide, ?_⟩
  have W3 := W2.roll hq2 (rollD Dc2 9)
  generalize rollV Dc2 9 = y at r2 ⊢
  generalize upd H1 q (.lst (dvals (rollD Dc2 9))) = H2 at W3 ⊢
  refine ⟨_, _, rfl, rfl, ?_⟩
  refine ⟨(by show 3 ≤ sizeLine; decide), fun l hl => ?_⟩
  have W4 := W3.go0 (Go.new (o := .lst [.non, .int 0, .int (1 + y)]) hl)
  have el : upd H2 l (.lst [.non, .int 0, .int (1 + y)]) l = some (.lst [.non, .int 0, .int (1 + y)]) := upd_same
  have nq : l ≠ q := by
    obtain ⟨_, e⟩ := W3.dice
    exact (ne_of_none e hl).symm
  generalize upd H2 l (.lst [.non, .int 0, .int (1 + y)]) = H3 at W4 el ⊢
  obtain ⟨Dc3, hq3⟩ := W4.dice
  walk_at "v"
  obtain ⟨i, hi, ei⟩ := roll_nat Dc3 3 (by decide)
  have ei : rollV Dc3 3 = (i : Int) := ei
  refine ⟨q, Dc3, 3, rfl, hq3, by decide, by decide, ?_⟩
  rw [ei]
  have W5 := W4.roll hq3 (rollD Dc3 3)
  have el2 : upd H3 q (.lst (dvals (rollD Dc3 3))) l = some (.lst [.non, .int 0, .int (1 + y)]) := by rw [upd_ne nq]; exact el
  generalize upd H3 q (.lst (dvals (rollD Dc3 3))) = H4 at W5 el2 ⊢
  have : i = 0 ∨ i = 1 ∨ i = 2 := by omega
  rcases this with rfl | rfl | rfl
  · refine ⟨_, _, _, _, rfl, rfl, SqL.of el2, rfl, ?_⟩
    refine ⟨(by show 2 ≤ sizeLine; decide), fun tp htp => ?_⟩
    refine ⟨tp, _, rfl, SqT.of upd_same, rfl, ?_⟩
    refine ⟨_, _, rfl, _, _, rfl, rfl, ?_⟩
    exact k m none _ r1.1 r1.2 (fun _ z => by cases z) (W5.go0 (Go.new htp))
  · refine ⟨_, _, _, _, rfl, rfl, SqL.of el2, rfl, ?_⟩
    refine ⟨(by show 2 ≤ sizeLine; decide), fun tp htp => ?_⟩
    refine ⟨tp, _, rfl, SqT.of upd_same, rfl, ?_⟩
    refine ⟨_, _, rfl, _, _, rfl, rfl, ?_⟩
    exact k m (some 0) _ r1.1 r1.2 (fun _ z => by cases z; decide) (W5.go0 (Go.new htp))
  · refine ⟨_, _, _, _, rfl, rfl, SqL.of el2, rfl, ?_⟩
    refine ⟨(by show 2 ≤ sizeLine; decide), fun tp htp => ?_⟩
    refine ⟨tp, _, rfl, SqT.of upd_same, rfl, ?_⟩
    refine ⟨_, _, rfl, _, _, rfl, rfl, ?_⟩
    exact k m (some (1 + y)) _ r1.1 r1.2 (fun _ z => by cases z; omega) (W5.go0 (Go.new htp))
end
end K1
namespace K1
open PySem PySem.Spec PyProof.Rows L2 Fy
open GxR (TabG Tabbed)
def PtAt (H : Hp) (L : Addr) (es : Rs) : Prop := ∃ ps : List Addr, H L = some (.lst (ps.map V.ref)) ∧ Paired (fun p (e : (Str × Str) × Int) => ∃ b, H p = some (.tup [.ref b, .int e.2]) ∧ H b = some (.tup [.str e.1.1, .str e.1.2])) ps es
theorem PtAt.go {TL : List (Addr × Str)} {TG : List Addr} {S : Ad} {H H' : Hp} {L : Addr} {es : Rs} (h : PtAt H L es) (g : Go TL TG S H H') (s : ¬ S L) (st : ∀ b xs, H b = some (.tup xs) → ¬ S b) : PtAt H' L es := by
  obtain ⟨ps, h1, h2⟩ := h
  exact ⟨ps, g.keep _ _ h1 (by intro _ z; cases z) s, Paired.mapP h2 fun a q e => let ⟨b, e1, e2⟩ := e; ⟨b, g.keep _ _ e1 (by intro _ z; cases z) (st a _ e1), g.keep _ _ e2 (by intro _ z; cases z) (st b _ e2)⟩⟩
theorem PtAt.go0 {TL : List (Addr × Str)} {TG : List Addr} {H H' : Hp} {L : Addr} {es : Rs} (h : PtAt H L es) (g : Go TL TG (fun _ => False) H H') : PtAt H' L es := h.go g id (fun _ _ _ => id)
theorem PtAt.one {H : Hp} {L p b : Addr} {e : (Str × Str) × Int} (h1 : H b = some (.tup [.str e.1.1, .str e.1.2])) (h2 : H p = some (.tup [.ref b, .int e.2])) (h3 : H L = some (.lst [.ref p])) : PtAt H L [e] := ⟨[p], h3, .cons ⟨b, h2, h1⟩ .nil⟩
theorem PtAt.nil {H : Hp} {L : Addr} (h3 : H L = some (.lst [])) : PtAt H L [] := ⟨[], h3, .nil⟩
theorem PtAt.cat {H : Hp} {A B p : Addr} {es fs : Rs} (h : PtAt H A es) (h' : PtAt H B fs) : ∃ xs ys, H A = some (.lst xs) ∧ H B = some (.lst ys) ∧ xs.length = es.length ∧ ys.length = fs.length ∧ (H p = none → PtAt (upd H p (.lst (xs ++ ys))) p (es ++ fs)) := by
  obtain ⟨ps, h1, h2⟩ := h
  obtain ⟨qs, h3, h4⟩ := h'
  refine ⟨_, _, h1, h3, by rw [List.length_map]; exact paired_len h2, by rw [List.length_map]; exact paired_len h4, fun hp => ⟨ps ++ qs, by rw [upd_same, List.map_append], ?_⟩⟩
  have mp : ∀ (a : Addr) (e : (Str × Str) × Int), (∃ b, H a = some (.tup [.ref b, .int e.2]) ∧ H b = some (.tup [.str e.1.1, .str e.1.2])) → ∃ b, upd H p (.lst (ps.map V.ref ++ qs.map V.ref)) a = some (.tup [.ref b, .int e.2]) ∧ upd H p (.lst (ps.map V.ref ++ qs.map V.ref)) b = some (.tup [.str e.1.1, .str e.1.2]) :=
    fun a e z => let ⟨b, e1, e2⟩ := z; ⟨b, by rw [upd_ne (ne_of_none e1 hp)]; exact e1, by rw [upd_ne (ne_of_none e2 hp)]; exact e2⟩
  exact paired_app (Paired.mapP h4 mp) (Paired.mapP h2 mp)
theorem merge_kvT : ∀ (es A : Rs), mergeT (kvT A) (kvT es) = kvT (es.foldl (fun l e => putR l e.1 e.2) A)
  | [], _ => rfl
  | e :: es, A => by
    show mergeT (putK (kvT A) (kT e.1) (.int e.2)) (kvT es) = _
    rw [put_kvT, merge_kvT es] <;> rfl
theorem fold_putR : ∀ (R A : Rs), ((A ++ R).map (·.1)).Nodup → R.foldl (fun l e => putR l e.1 e.2) A = A ++ R
  | [], A, _ => by rw [List.append_nil] <;> rfl
  | e :: R, A, nd => by
    have ne : A.lookup e.1 = none := by
      cases el : A.lookup e.1 with
      | none => rfl
      | some x =>
        have hm := lookR el
        rw [List.map_append, List.map_cons, List.nodup_append] at nd
        exact absurd rfl (nd.2.2 e.1 (List.mem_map.mpr ⟨_, hm, rfl⟩) e.1 List.mem_cons_self)
    have e1 : putR A e.1 e.2 = A ++ [e] := by
      unfold putR
      rw [ne] <;> rfl
    rw [List.foldl_cons, e1, fold_putR R (A ++ [e]) (by rw [List.append_assoc]; exact nd), List.append_assoc] <;> rfl
theorem dict_kvT {R : Rs} (nd : (R.map (·.1)).Nodup) (es : Rs) : mergeT [] (kvT (R ++ es)) = kvT (es.foldl (fun l e => putR l e.1 e.2) R) := by
  have h := merge_kvT (R ++ es) []
  rw [List.foldl_append, fold_putR R [] nd] at h
  exact h
def goodLay (cs : List Str) (a b : Str) (m : Int) : Bool := decide (a ∈ cs) && (decide (a ≠ b) && decide (0 < m))
theorem canLay_eq {cs : List Str} {a b : Str} {m g : Int} (hb : b ∈ cs) (m1 : 0 ≤ m) (m2 : m < 20) (g1 : 0 ≤ g) (g2 : g < 20) : canLay cs a b m g = goodLay cs a b m := by
  unfold canLay goodLay
  rw [decide_eq_true hb, decide_eq_true (show m ≤ 60 by omega), decide_eq_true g1, decide_eq_true (show g ≤ 60 by omega)]
  by_cases h : 0 < m
  · rw [decide_eq_true h, decide_eq_true (show 1 ≤ m by omega)] <;> simp
  · rw [decide_eq_false h, decide_eq_false (show ¬ 1 ≤ m by omega)] <;> simp
/-- the law's own streets to be added -/
def addL (good : Bool) (a b : Str) (m g : Int) : Rs := (if good = true then [((a, b), m)] else []) ++ (if good = true ∧ 0 < g then [((b, a), g)] else [])
theorem addL_fold {R : Rs} (good : Bool) (a b : Str) (m g : Int) : (addL good a b m g).foldl (fun l e => putR l e.1 e.2) R = if good = true then layR R a b m g else R := by
  unfold addL layR
  cases good with
  | false => rfl
  | true =>
    by_cases h : 0 < g
    · rw [if_pos rfl, if_pos ⟨rfl, h⟩, if_pos rfl, if_pos h] <;> rfl
    · rw [if_pos rfl, if_neg (fun z => h z.2), if_pos rfl, if_neg h] <;> rfl
section
variable {P : Program} {w : World} {K : PySem.W.Frag} {mg : Str → Option Value} {base : Heap}
/-- good = one in corners and .. -/
theorem law_l0 (T : Txt K mg base) {A : Around} {outer : List Env} {s : Shared} {H0 : Hp} {E0 : XK} (hr : Room 9 (A.deeper (envOfC d_law.qual d_law.scope s.heap.objs.size (He.fAd K d_law.at_) (.ref (He.codeOf K d_law.at_))))) :
    ∃ t, PS (bodyX P w K mg base N_law d_law A outer s H0 E0) ((subS ((subS ((subS ((d_law.body).getD 0 noS)).getD 2 noS)).getD 2 noS)).getD 0 noS) t ∧ ∀ (D : Ends) (H : Hp) (q t1 o L : Addr) (cs : List Str) (a b : Str) (m : Int) (x0 x2 x3 x4 x5 x6 x10 x11 x12 x13 x14 x15 x19 x20 x21 x22 x23 x24 x25 : Option V), H L = some (.lst (cs.map V.str)) →
      D.nx (Sg q t1 o L x0 x2 x3 x4 x5 x6 x10 x11 x12 x13 x14 x15 (some (.str a)) (some (.str b)) (some (.int m)) x19 (some (.bl (goodLay cs a b m))) x21 x22 x23 x24 x25) H →
      t D (Sg q t1 o L x0 x2 x3 x4 x5 x6 x10 x11 x12 x13 x14 x15 (some (.str a)) (some (.str b)) (some (.int m)) x19 x20 x21 x22 x23 x24 x25) H := by
  have hu := hu_of hr
  refine ⟨_, (ps_set (i := 20) sc_law.nd rfl (by first | exact Or.inl rfl | exact Or.inr rfl) (pe_and (pe_cmpR op_in_seq (pv 16) (pv 7) rfl) (pe_and (pe_cmpR op_ne (pv 16) (pv 17) (nomark _)) (pe_one (pe_cmpR op_gt (pv 18) pe_int (nomark _)))))), fun D H q t1 o L cs a b m x0 x2 x3 x4 x5 x6 x10 x11 x12 x13 x14 x15 x19 x20 x21 x22 x23 x24 x25 eL k => ?_⟩
  unfold goodLay at k
  walk_at "v"; walk_at "v"
  refine ⟨L, cs.map V.str, rfl, .inl (SqL.of eL), rfl, flat_strs cs, ?_⟩
  rw [inV_str]
  refine ⟨_, rfl, ?_⟩
  by_cases z : a ∈ cs
  · rw [decide_eq_true z, Bool.true_and] at k
    refine iteT' (decide_eq_true z) ?_
    walk_at "v"; walk_at "v"
    refine ⟨rfl, _, rfl, ?_⟩
    by_cases z2 : a = b
    · rw [decide_eq_false (show ¬ a ≠ b from fun y => y z2), Bool.false_and] at k
      exact iteF' (by simp [z2]) k
    · rw [decide_eq_true (show a ≠ b from z2), Bool.true_and] at k
      refine iteT' (by simp [z2]) ?_
      walk_at "v"
      exact ⟨_, _, rfl, rfl, k⟩
  · rw [decide_eq_false z, Bool.false_and] at k
    exact iteF' (decide_eq_false z) k
/-- if (told(lambda: town.lay(..)) == ..) == good: return False -/
theorem law_l1 (T : Txt K mg base) {A : Around} {outer : List Env} {s : Shared} {H0 : Hp} {E0 : XK} (hr : Room 9 (A.deeper (envOfC d_law.qual d_law.scope s.heap.objs.size (He.fAd K d_law.at_) (.ref (He.codeOf K d_law.at_))))) :
    ∃ t, PS (bodyX P w K mg base N_law d_law A outer s H0 E0) ((subS ((subS ((subS ((d_law.body).getD 0 noS)).getD 2 noS)).getD 2 noS)).getD 1 noS) t ∧ ∀ (D : Ends) (H : Hp) (q p t1 c d o L : Addr) (cs : List Str) (R : Rs) (a b : Str) (m : Int) (g : Option Int) (x0 x2 x3 x4 x5 x6 x10 x11 x12 x13 x14 x15 x21 x22 x23 x24 x25 : Option V), W1 K H q p t1 c d o L cs R → canLay cs a b m (g.getD m) = goodLay cs a b m →
      (∀ H', goodLay cs a b m = false → W1 K H' q p t1 c d o L cs R → D.nx (Sg q t1 o L x0 x2 x3 x4 x5 x6 x10 x11 x12 x13 x14 x15 (some (.str a)) (some (.str b)) (some (.int m)) (some (oi g)) (some (.bl (goodLay cs a b m))) x21 x22 x23 x24 x25) H') →
      (∀ H1 H', goodLay cs a b m = true → W1 K H1 q p t1 c d o L cs R → TownAt (CTwn K) H' t1 c d cs (layR R a b m (g.getD m)) → Go (TL K) (TG K) (fun b => b = d) H1 H' → D.nx (Sg q t1 o L x0 x2 x3 x4 x5 x6 x10 x11 x12 x13 x14 x15 (some (.str a)) (some (.str b)) (some (.int m)) (some (oi g)) (some (.bl (goodLay cs a b m))) x21 x22 x23 x24 x25) H') →
      t D (Sg q t1 o L x0 x2 x3 x4 x5 x6 x10 x11 x12 x13 x14 x15 (some (.str a)) (some (.str b)) (some (.int m)) (some (oi g)) (some (.bl (goodLay cs a b m))) x21 x22 x23 x24 x25) H := by
  have hu := hu_of hr
  refine ⟨_, (ps_if (pt_cmpR op_eq (pe_cmpR op_eq (told_law T hr (LamX.lamS_by (by decide +kernel)) rfl (fun _ _ _ _ _ => rfl) (fun A outer s H E f c' hr2 => (pg_meth (ok_Town_lay T) (hr2.mono (by decide)) T.cl_Town T.me_Town_lay pxl (pv 8) (pa_cons (pv 16) (pa_cons (pv 17) (pa_cons (pv 18) (pa_cons (pv 19) pa_nil))))))) pe_str (nomark _)) (pv 20) (nomark _)) (pss_one (ps_ret pe_bl)) pss_nil), fun D H q p t1 c d o L cs R a b m g x0 x2 x3 x4 x5 x6 x10 x11 x12 x13 x14 x15 x21 x22 x23 x24 x25 W ce k1 k2 => ?_⟩
  refine ⟨W.tb, fun H1 g1 => ?_⟩
  have W1 := W.go0 g1
  obtain ⟨⟨dx, h1⟩, h2, h3⟩ := id W1.town
  walk_at "v"
  refine ⟨_, _, _, rfl, h1, rfl, ?_⟩
  walk_at "v"; walk_at "v"; walk_at "v"; walk_at "v"
  refine ⟨t1, c, d, cs, R, a, b, m, g, rfl, W1.town, W1.wf.len, fun z => ?_, fun z H' D' g' => ?_⟩
  · rw [ce] at z
    refine ⟨true, T.em_StreetError_StreetError, fun _ => ?_, fun z => by cases z⟩
    refine ⟨rfl, ?_⟩
    walk_at "v"
    refine ⟨rfl, _, rfl, ?_⟩
    refine ite2 (fun y => absurd (of_decide_eq_true y) ?_) (fun _ => k1 H1 z W1)
    rw [z]
    intro y
    have y2 := V.bl.inj y
    rw [decide_eq_true rfl] at y2
    cases y2
  · rw [ce] at z
    refine ⟨rfl, ?_⟩
    walk_at "v"
    refine ⟨rfl, _, rfl, ?_⟩
    refine ite2 (fun y => absurd (of_decide_eq_true y) ?_) (fun _ => k2 H1 H' z W1 D' g')
    rw [z]
    intro y
    have y2 := V.bl.inj y
    rw [decide_eq_false (by intro z; cases z)] at y2
    cases y2
/-- again = .. -/
theorem law_l2 (T : Txt K mg base) {A : Around} {outer : List Env} {s : Shared} {H0 : Hp} {E0 : XK} (hr : Room 9 (A.deeper (envOfC d_law.qual d_law.scope s.heap.objs.size (He.fAd K d_law.at_) (.ref (He.codeOf K d_law.at_))))) :
    ∃ t, PS (bodyX P w K mg base N_law d_law A outer s H0 E0) ((subS ((subS ((subS ((d_law.body).getD 0 noS)).getD 2 noS)).getD 2 noS)).getD 2 noS) t ∧ ∀ (D : Ends) (H : Hp) (q t1 o L : Addr) (m : Int) (g : Option Int) (x0 x2 x3 x4 x5 x6 x10 x11 x12 x13 x14 x15 x16 x17 x20 x21 x22 x23 x24 x25 : Option V),
      D.nx (Sg q t1 o L x0 x2 x3 x4 x5 x6 x10 x11 x12 x13 x14 x15 x16 x17 (some (.int m)) (some (oi g)) x20 (some (.int (g.getD m))) x22 x23 x24 x25) H →
      t D (Sg q t1 o L x0 x2 x3 x4 x5 x6 x10 x11 x12 x13 x14 x15 x16 x17 (some (.int m)) (some (oi g)) x20 x21 x22 x23 x24 x25) H := by
  have hu := hu_of hr
  refine ⟨_, (ps_set (i := 21) sc_law.nd rfl (by first | exact Or.inl rfl | exact Or.inr rfl) (pe_ifExp (pt_cmpR op_isN (pv 19) pe_non (nomark _)) (pv 18) (pv 19))), fun D H q t1 o L m g x0 x2 x3 x4 x5 x6 x10 x11 x12 x13 x14 x15 x16 x17 x20 x21 x22 x23 x24 x25 k => ?_⟩
  walk_at "v"
  cases g with
  | none =>
    refine ⟨rfl, _, rfl, iteT ?_⟩
    walk_at "v"
    exact k
  | some y =>
    refine ⟨rfl, _, rfl, iteF ?_⟩
    walk_at "v"
    exact k
end
end K1
namespace K1
open PySem PySem.Spec PyProof.Rows L2 Fy
open GxR (TabG Tabbed)
theorem paired_of_map {α β γ : Type} {F : α → γ → Prop} {g : β → γ} : ∀ {xs : List α} (ys : List β), Paired F xs (ys.map g) → Paired (fun a b => F a (g b)) xs ys
  | _, [], .nil => .nil
  | _, _ :: _, .cons a t => .cons a (paired_of_map _ t)
theorem PtAt.rep {H : Hp} {p b : Addr} {e : (Str × Str) × Int} {good : Bool} (h1 : H b = some (.tup [.str e.1.1, .str e.1.2])) (h2 : H p = some (.tup [.ref b, .int e.2])) {r : Addr} (hr : H r = none) : PtAt (upd H r (.lst (List.replicate (if good = true then (1 : Int) else 0).toNat [V.ref p]).flatten)) r (if good = true then [e] else []) := by
  cases good with
  | false => exact .nil upd_same
  | true => exact .one (p := p) (b := b) (by rw [upd_ne (ne_of_none h1 hr)]; exact h1) (by rw [upd_ne (ne_of_none h2 hr)]; exact h2) upd_same
section
variable {P : Program} {w : World} {K : PySem.W.Frag} {mg : Str → Option Value} {base : Heap}
/-- own = dict(..) -/
theorem law_l3 (T : Txt K mg base) {A : Around} {outer : List Env} {s : Shared} {H0 : Hp} {E0 : XK} (hr : Room 9 (A.deeper (envOfC d_law.qual d_law.scope s.heap.objs.size (He.fAd K d_law.at_) (.ref (He.codeOf K d_law.at_))))) :
    ∃ t, PS (bodyX P w K mg base N_law d_law A outer s H0 E0) ((subS ((subS ((subS ((d_law.body).getD 0 noS)).getD 2 noS)).getD 2 noS)).getD 3 noS) t ∧ ∀ (D : Ends) (H : Hp) (q t1 o L : Addr) (R : Rs) (a b : Str) (m g : Int) (good : Bool) (x0 x2 x3 x4 x5 x6 x10 x11 x12 x13 x14 x15 x19 x22 x23 x24 x25 : Option V), H o = some (.dT (kvT R)) → (R.map (·.1)).Nodup → R.length ≤ 1000 →
      (∀ o' H', H o' = none → H' o' = some (.dT (kvT (if good = true then layR R a b m g else R))) → Go (TL K) (TG K) (fun _ => False) H H' → D.nx (Sg q t1 o' L x0 x2 x3 x4 x5 x6 x10 x11 x12 x13 x14 x15 (some (.str a)) (some (.str b)) (some (.int m)) x19 (some (.bl good)) (some (.int g)) x22 x23 x24 x25) H') →
      t D (Sg q t1 o L x0 x2 x3 x4 x5 x6 x10 x11 x12 x13 x14 x15 (some (.str a)) (some (.str b)) (some (.int m)) x19 (some (.bl good)) (some (.int g)) x22 x23 x24 x25) H := by
  have hu := hu_of hr
  refine ⟨_, (ps_set (i := 9) sc_law.nd rfl (by first | exact Or.inl rfl | exact Or.inr rfl) (pe_callTy (call_dictPT rfl (Nat.lt_of_le_of_lt (Nat.add_le_add_left (by decide) _) (u65 hr))) (by rfl) T.fr_dict (by decide +kernel) (pa_cons (pe_op op_cat (pe_op op_cat (pe_listItemsT rfl (pv 9) (by rfl) T.fr_list (by decide +kernel)) (pe_op op_rep (pe_lst (pa_cons (pe_tup (pa_cons (pe_tup (pa_cons (pv 16) (pa_cons (pv 17) pa_nil))) (pa_cons (pv 18) pa_nil))) pa_nil)) (pe_callTy call_int1 (by rfl) T.fr_int (by decide +kernel) (pa_cons (pv 20) pa_nil)))) (pe_op op_rep (pe_lst (pa_cons (pe_tup (pa_cons (pe_tup (pa_cons (pv 17) (pa_cons (pv 16) pa_nil))) (pa_cons (pv 21) pa_nil))) pa_nil)) (pe_callTy call_int1 (by rfl) T.fr_int (by decide +kernel) (pa_cons (pe_and (pv 20) (pe_one (pe_cmpR op_gt (pv 21) pe_int (nomark _)))) pa_nil)))) pa_nil))), fun D H q t1 o L R a b m g good x0 x2 x3 x4 x5 x6 x10 x11 x12 x13 x14 x15 x19 x22 x23 x24 x25 eo nd lR k => ?_⟩
  walk_at "v"
  refine ⟨o, kvT R, rfl, eo, fun H1 p ts ext hp hts np e1 e2 => ?_⟩
  have g1 : Go (TL K) (TG K) (fun _ => False) H H1 := Go.ext ext fun c z => by
    cases e : H c with
    | none => rfl
    | some u => rw [ext c u e] at z; cases z
  have p1 : PtAt H1 p R := ⟨ts, e1, Paired.mapP (paired_of_map R e2) fun a q z => z⟩
  clear e1 e2 ext
  walk_at "v"; walk_at "v"
  refine ⟨(by show 2 ≤ sizeLine; decide), fun b1 hb1 => ?_⟩
  have g2 := g1.trans (Go.new (o := .tup [.str a, .str b]) hb1)
  have p2 := p1.go0 (TL := TL K) (TG := TG K) (Go.new (o := .tup [.str a, .str b]) hb1)
  have f1 : upd H1 b1 (.tup [.str a, .str b]) b1 = some (.tup [.str a, .str b]) := upd_same
  generalize upd H1 b1 (.tup [.str a, .str b]) = H2 at g2 p2 f1 ⊢
  walk_at "v"
  refine ⟨(by show 2 ≤ sizeLine; decide), fun t2 ht2 => ?_⟩
  have g3 := g2.trans (Go.new (o := .tup [.ref b1, .int m]) ht2)
  have p3 := p2.go0 (TL := TL K) (TG := TG K) (Go.new (o := .tup [.ref b1, .int m]) ht2)
  have f2 : upd H2 t2 (.tup [.ref b1, .int m]) b1 = some (.tup [.str a, .str b]) := by rw [upd_ne (ne_of_none f1 ht2)]; exact f1
  have f3 : upd H2 t2 (.tup [.ref b1, .int m]) t2 = some (.tup [.ref b1, .int m]) := upd_same
  generalize upd H2 t2 (.tup [.ref b1, .int m]) = H3 at g3 p3 f2 f3 ⊢
  refine ⟨(by show 1 ≤ sizeLine; decide), fun l3 hl3 => ?_⟩
  have g4 := g3.trans (Go.new (o := .lst [.ref t2]) hl3)
  have p4 := p3.go0 (TL := TL K) (TG := TG K) (Go.new (o := .lst [.ref t2]) hl3)
  have f4 : upd H3 l3 (.lst [.ref t2]) b1 = some (.tup [.str a, .str b]) := by rw [upd_ne (ne_of_none f2 hl3)]; exact f2
  have f5 : upd H3 l3 (.lst [.ref t2]) t2 = some (.tup [.ref b1, .int m]) := by rw [upd_ne (ne_of_none f3 hl3)]; exact f3
  have f6 : upd H3 l3 (.lst [.ref t2]) l3 = some (.lst [.ref t2]) := upd_same
  generalize upd H3 l3 (.lst [.ref t2]) = H4 at g4 p4 f4 f5 f6 ⊢
  walk_at "v"
  refine .inr ⟨good, rfl, ?_⟩
  refine ⟨l3, _, _, rfl, rfl, f6, (by cases good <;> decide), (by cases good <;> decide), (by cases good <;> first | exact Nat.zero_le _ | (show 1 ≤ sizeLine; decide)), fun r1 hr1 => ?_⟩
  have g5 := g4.trans (Go.new (o := .lst (List.replicate (if good = true then (1 : Int) else 0).toNat [V.ref t2]).flatten) hr1)
  have p5 := p4.go0 (TL := TL K) (TG := TG K) (Go.new (o := .lst (List.replicate (if good = true then (1 : Int) else 0).toNat [V.ref t2]).flatten) hr1)
  have q5 := PtAt.rep (e := ((a, b), m)) (good := good) f4 f5 hr1
  generalize upd H4 r1 (.lst (List.replicate (if good = true then (1 : Int) else 0).toNat [V.ref t2]).flatten) = H5 at g5 p5 q5 ⊢
  clear f1 f2 f3 f4 f5 f6 p1 p2 p3 p4 g1 g2 g3 g4
  obtain ⟨xs, ys, x1, x2', x3', x4', _⟩ := PtAt.cat (p := p) p5 q5
  refine ⟨p, r1, xs, ys, rfl, rfl, x1, x2', ?_, fun c1 hc1 => ?_⟩
  · rw [x3', x4']
    have : (if good = true then [((a, b), m)] else ([] : Rs)).length ≤ 1 := by cases good <;> first | exact Nat.zero_le _ | exact Nat.le_refl _
    exact Nat.le_of_lt (Nat.lt_of_le_of_lt (show R.length + (if good = true then [((a, b), m)] else ([] : Rs)).length ≤ 1001 by omega) (by decide))
  obtain ⟨xs', ys', y1, y2, _, _, y5⟩ := PtAt.cat (p := c1) p5 q5
  rw [x1] at y1
  rw [x2'] at y2
  cases y1
  cases y2
  have g6 := g5.trans (Go.new (o := .lst (xs ++ ys)) hc1)
  have p6 := y5 hc1
  generalize upd H5 c1 (.lst (xs ++ ys)) = H6 at g6 p6 ⊢
  clear y5 x1 x2' p5 q5 g5
  walk_at "v"; walk_at "v"
  refine ⟨(by show 2 ≤ sizeLine; decide), fun b2 hb2 => ?_⟩
  have g7 := g6.trans (Go.new (o := .tup [.str b, .str a]) hb2)
  have p7 := p6.go0 (TL := TL K) (TG := TG K) (Go.new (o := .tup [.str b, .str a]) hb2)
  have f1 : upd H6 b2 (.tup [.str b, .str a]) b2 = some (.tup [.str b, .str a]) := upd_same
  generalize upd H6 b2 (.tup [.str b, .str a]) = H7 at g7 p7 f1 ⊢
  walk_at "v"
  refine ⟨(by show 2 ≤ sizeLine; decide), fun t3 ht3 => ?_⟩
  have g8 := g7.trans (Go.new (o := .tup [.ref b2, .int g]) ht3)
  have p8 := p7.go0 (TL := TL K) (TG := TG K) (Go.new (o := .tup [.ref b2, .int g]) ht3)
  have f2 : upd H7 t3 (.tup [.ref b2, .int g]) b2 = some (.tup [.str b, .str a]) := by rw [upd_ne (ne_of_none f1 ht3)]; exact f1
  have f3 : upd H7 t3 (.tup [.ref b2, .int g]) t3 = some (.tup [.ref b2, .int g]) := upd_same
  generalize upd H7 t3 (.tup [.ref b2, .int g]) = H8 at g8 p8 f2 f3 ⊢
  refine ⟨(by show 1 ≤ sizeLine; decide), fun l4 hl4 => ?_⟩
  have g9 := g8.trans (Go.new (o := .lst [.ref t3]) hl4)
  have p9 := p8.go0 (TL := TL K) (TG := TG K) (Go.new (o := .lst [.ref t3]) hl4)
  have f4 : upd H8 l4 (.lst [.ref t3]) b2 = some (.tup [.str b, .str a]) := by rw [upd_ne (ne_of_none f2 hl4)]; exact f2
  have f5 : upd H8 l4 (.lst [.ref t3]) t3 = some (.tup [.ref b2, .int g]) := by rw [upd_ne (ne_of_none f3 hl4)]; exact f3
  have f6 : upd H8 l4 (.lst [.ref t3]) l4 = some (.lst [.ref t3]) := upd_same
  generalize upd H8 l4 (.lst [.ref t3]) = H9 at g9 p9 f4 f5 f6 ⊢
  have fin : ∀ gg : Bool, gg = decide (good = true ∧ 0 < g) → (fun x H1 => rRep (.ref l4) x H1 fun y H2 => rCat (.ref c1) y H2 fun z H3 => rDictPT K [z] H3 fun u H4 => D.nx (Sg q t1 o L x0 x2 x3 x4 x5 x6 x10 x11 x12 x13 x14 x15 (some (.str a)) (some (.str b)) (some (.int m)) x19 (some (.bl good)) (some (.int g)) x22 x23 x24 x25 |>.set 9 (some u)) H4) (.int (if gg = true then 1 else 0)) H9 := by
    intro gg eg
    refine ⟨l4, _, _, rfl, rfl, f6, (by cases gg <;> decide), (by cases gg <;> decide), (by cases gg <;> first | exact Nat.zero_le _ | (show 1 ≤ sizeLine; decide)), fun r2 hr2 => ?_⟩
    have g10 := g9.trans (Go.new (o := .lst (List.replicate (if gg = true then (1 : Int) else 0).toNat [V.ref t3]).flatten) hr2)
    have p10 := p9.go0 (TL := TL K) (TG := TG K) (Go.new (o := .lst (List.replicate (if gg = true then (1 : Int) else 0).toNat [V.ref t3]).flatten) hr2)
    have q10 := PtAt.rep (e := ((b, a), g)) (good := gg) f4 f5 hr2
    generalize upd H9 r2 (.lst (List.replicate (if gg = true then (1 : Int) else 0).toNat [V.ref t3]).flatten) = H10 at g10 p10 q10 ⊢
    obtain ⟨xs, ys, x1, x2', x3', x4', _⟩ := PtAt.cat (p := p) p10 q10
    refine ⟨c1, r2, xs, ys, rfl, rfl, x1, x2', ?_, fun c2 hc2 => ?_⟩
    · rw [x3', x4', List.length_append]
      have h1 : (if good = true then [((a, b), m)] else ([] : Rs)).length ≤ 1 := by cases good <;> first | exact Nat.zero_le _ | exact Nat.le_refl _
      have h2 : (if gg = true then [((b, a), g)] else ([] : Rs)).length ≤ 1 := by cases gg <;> first | exact Nat.zero_le _ | exact Nat.le_refl _
      exact Nat.le_of_lt (Nat.lt_of_le_of_lt (show R.length + (if good = true then [((a, b), m)] else ([] : Rs)).length + (if gg = true then [((b, a), g)] else ([] : Rs)).length ≤ 1002 by omega) (by decide))
    obtain ⟨xs', ys', y1, y2, _, _, y5⟩ := PtAt.cat (p := c2) p10 q10
    rw [x1] at y1
    rw [x2'] at y2
    cases y1
    cases y2
    have g11 := g10.trans (Go.new (o := .lst (xs ++ ys)) hc2)
    have p11 := y5 hc2
    generalize upd H10 c2 (.lst (xs ++ ys)) = H11 at g11 p11 ⊢
    obtain ⟨ps, z1, z2⟩ := p11
    refine ⟨c2, ps, kvT ((R ++ if good = true then [((a, b), m)] else []) ++ if gg = true then [((b, a), g)] else []), rfl, SqL.of z1, paired_map (g := fun e : (Str × Str) × Int => (kT e.1, V.int e.2)) (fun p e z => let ⟨b, u1, u2⟩ := z; ⟨b, SqT.of u1, u2⟩) z2, fun o' ho' => ?_⟩
    have ea : ((R ++ if good = true then [((a, b), m)] else []) ++ if gg = true then [((b, a), g)] else []) = R ++ addL good a b m g := by
      unfold addL
      rw [List.append_assoc, eg]
      simp only [decide_eq_true_eq]
    rw [ea, dict_kvT nd, addL_fold]
    exact k o' _ (g11.free _ ho') upd_same (g11.trans (Go.new ho'))
  walk_at "v"
  refine ⟨good, rfl, ?_⟩
  cases good with
  | true =>
    refine iteT ?_
    walk_at "v"
    refine ⟨_, _, rfl, rfl, ?_⟩
    exact .inr ⟨decide (0 < g), rfl, fin (decide (0 < g)) (by simp)⟩
  | false =>
    refine iteF ?_
    exact .inr ⟨false, rfl, fin false (by simp)⟩
end
end K1
namespace K1
open PySem PySem.Spec PyProof.Rows L2 Fy
open GxR (TabG Tabbed)
theorem shaped_2 {x y : Str} (h1 : PyData.strOk x = true) (h2 : PyData.strOk y = true) : SeqAt.shaped (.tuple [.str x, .str y]) = true := by
  show (PyData.canLay0 (.tuple [.str x, .str y]) && decide (PyData.depth (.tuple [.str x, .str y]) ≤ 64)) = true
  rw [PyData.canLay0, PyData.canLayAll0, PyData.canLay0, h1, PyData.canLayAll0, PyData.canLay0, h2, PyData.canLayAll0] <;> rfl
theorem eqv_2 {x y a b : Str} : PyData.eqv (.tuple [.str x, .str y]) (.tuple [.str a, .str b]) = decide ((x, y) = (a, b)) := by
  rw [PyData.eqv, PyData.eqvAll, PyData.eqvAll, PyData.eqvAll, PyData.eqv, PyData.eqv]
  by_cases h : x = a
  · by_cases h2 : y = b
    · simp [h, h2]
    · simp [h, h2]
  · simp [h]
section
variable {P : Program} {w : World} {K : PySem.W.Frag} {mg : Str → Option Value} {base : Heap}
/-- good = (one, other) in own -/
theorem law_c0 (T : Txt K mg base) {A : Around} {outer : List Env} {s : Shared} {H0 : Hp} {E0 : XK} (hr : Room 9 (A.deeper (envOfC d_law.qual d_law.scope s.heap.objs.size (He.fAd K d_law.at_) (.ref (He.codeOf K d_law.at_))))) :
    ∃ t, PS (bodyX P w K mg base N_law d_law A outer s H0 E0) ((elsS ((subS ((subS ((d_law.body).getD 0 noS)).getD 2 noS)).getD 2 noS)).getD 0 noS) t ∧ ∀ (D : Ends) (H : Hp) (q t1 o L : Addr) (R : Rs) (a b : Str) (x0 x2 x3 x4 x5 x6 x10 x11 x12 x13 x14 x15 x18 x19 x20 x21 x22 x23 x24 x25 : Option V), H o = some (.dT (kvT R)) →
      (∀ H', Go (TL K) (TG K) (fun _ => False) H H' → D.nx (Sg q t1 o L x0 x2 x3 x4 x5 x6 x10 x11 x12 x13 x14 x15 (some (.str a)) (some (.str b)) x18 x19 (some (.bl (R.lookup (a, b)).isSome)) x21 x22 x23 x24 x25) H') →
      t D (Sg q t1 o L x0 x2 x3 x4 x5 x6 x10 x11 x12 x13 x14 x15 (some (.str a)) (some (.str b)) x18 x19 x20 x21 x22 x23 x24 x25) H := by
  have hu := hu_of hr
  refine ⟨_, (ps_set (i := 20) sc_law.nd rfl (by first | exact Or.inl rfl | exact Or.inr rfl) (pe_cmp (pc_din hu (pe_tup (pa_cons (pv 16) (pa_cons (pv 17) pa_nil))) (pv 9)))), fun D H q t1 o L R a b x0 x2 x3 x4 x5 x6 x10 x11 x12 x13 x14 x15 x18 x19 x20 x21 x22 x23 x24 x25 eo k => ?_⟩
  walk_at "v"; walk_at "v"
  refine ⟨(by show 2 ≤ sizeLine; decide), fun y hy => ?_⟩
  have g1 := Go.new (TL := TL K) (TG := TG K) (S := fun _ => False) (o := .tup [.str a, .str b]) hy
  have ey : upd H y (.tup [.str a, .str b]) y = some (.tup ((kT (a, b)).map kV)) := upd_same
  walk_at "v"
  refine ⟨o, _, rfl, DGet.t (g1.get eo) ey, ?_⟩
  rw [val_kvT, Option.isSome_map]
  exact k _ g1
/-- if (told(lambda: town.close(..)) == ..) == good: return False -/
theorem law_c1 (T : Txt K mg base) {A : Around} {outer : List Env} {s : Shared} {H0 : Hp} {E0 : XK} (hr : Room 9 (A.deeper (envOfC d_law.qual d_law.scope s.heap.objs.size (He.fAd K d_law.at_) (.ref (He.codeOf K d_law.at_))))) :
    ∃ t, PS (bodyX P w K mg base N_law d_law A outer s H0 E0) ((elsS ((subS ((subS ((d_law.body).getD 0 noS)).getD 2 noS)).getD 2 noS)).getD 1 noS) t ∧ ∀ (D : Ends) (H : Hp) (q p t1 c d o L : Addr) (cs : List Str) (R : Rs) (a b : Str) (x0 x2 x3 x4 x5 x6 x10 x11 x12 x13 x14 x15 x18 x19 x21 x22 x23 x24 x25 : Option V), W1 K H q p t1 c d o L cs R →
      (∀ H', (R.lookup (a, b)).isSome = false → W1 K H' q p t1 c d o L cs R → D.nx (Sg q t1 o L x0 x2 x3 x4 x5 x6 x10 x11 x12 x13 x14 x15 (some (.str a)) (some (.str b)) x18 x19 (some (.bl (R.lookup (a, b)).isSome)) x21 x22 x23 x24 x25) H') →
      (∀ H1 H', (R.lookup (a, b)).isSome = true → W1 K H1 q p t1 c d o L cs R → TownAt (CTwn K) H' t1 c d cs (R.filter fun q => decide (q.1 ≠ (a, b))) → Go (TL K) (TG K) (fun b => b = d) H1 H' → D.nx (Sg q t1 o L x0 x2 x3 x4 x5 x6 x10 x11 x12 x13 x14 x15 (some (.str a)) (some (.str b)) x18 x19 (some (.bl (R.lookup (a, b)).isSome)) x21 x22 x23 x24 x25) H') →
      t D (Sg q t1 o L x0 x2 x3 x4 x5 x6 x10 x11 x12 x13 x14 x15 (some (.str a)) (some (.str b)) x18 x19 (some (.bl (R.lookup (a, b)).isSome)) x21 x22 x23 x24 x25) H := by
  have hu := hu_of hr
  refine ⟨_, (ps_if (pt_cmpR op_eq (pe_cmpR op_eq (told_law T hr (LamX.lamS_by (by decide +kernel)) rfl (fun _ _ _ _ _ => rfl) (fun A outer s H E f c' hr2 => (pg_meth (ok_Town_close T) (hr2.mono (by decide)) T.cl_Town T.me_Town_close pxl (pv 8) (pa_cons (pv 16) (pa_cons (pv 17) pa_nil))))) pe_str (nomark _)) (pv 20) (nomark _)) (pss_one (ps_ret pe_bl)) pss_nil), fun D H q p t1 c d o L cs R a b x0 x2 x3 x4 x5 x6 x10 x11 x12 x13 x14 x15 x18 x19 x21 x22 x23 x24 x25 W k1 k2 => ?_⟩
  refine ⟨W.tb, fun H1 g1 => ?_⟩
  have W1 := W.go0 g1
  obtain ⟨⟨dx, h1⟩, h2, h3⟩ := id W1.town
  walk_at "v"
  refine ⟨_, _, _, rfl, h1, rfl, ?_⟩
  walk_at "v"; walk_at "v"
  refine ⟨t1, c, d, cs, R, a, b, rfl, W1.town, fun z H2 g2 => ?_, fun z H' D' g' => ?_⟩
  · refine ⟨true, T.em_StreetError_StreetError, fun _ => ?_, fun z => by cases z⟩
    refine ⟨rfl, ?_⟩
    walk_at "v"
    refine ⟨rfl, _, rfl, ?_⟩
    refine ite2 (fun y => absurd (of_decide_eq_true y) ?_) (fun _ => k1 H2 z (W1.go0 g2))
    rw [z]
    intro y
    have y2 := V.bl.inj y
    rw [decide_eq_true rfl] at y2
    cases y2
  · refine ⟨rfl, ?_⟩
    walk_at "v"
    refine ⟨rfl, _, rfl, ?_⟩
    refine ite2 (fun y => absurd (of_decide_eq_true y) ?_) (fun _ => k2 H1 H' z W1 D' g')
    rw [z]
    intro y
    have y2 := V.bl.inj y
    rw [decide_eq_false (by intro z; cases z)] at y2
    cases y2
/-- own = dict([.. if pair != ..]) -/
theorem law_c2 (T : Txt K mg base) {A : Around} {outer : List Env} {s : Shared} {H0 : Hp} {E0 : XK} (hr : Room 9 (A.deeper (envOfC d_law.qual d_law.scope s.heap.objs.size (He.fAd K d_law.at_) (.ref (He.codeOf K d_law.at_))))) :
    ∃ t, PS (bodyX P w K mg base N_law d_law A outer s H0 E0) ((elsS ((subS ((subS ((d_law.body).getD 0 noS)).getD 2 noS)).getD 2 noS)).getD 2 noS) t ∧ ∀ (D : Ends) (H : Hp) (q t1 o L : Addr) (R : Rs) (a b : Str) (x0 x2 x3 x4 x5 x6 x10 x11 x12 x13 x14 x15 x18 x19 x20 x21 x22 x23 x24 x25 : Option V), H o = some (.dT (kvT R)) → (R.map (·.1)).Nodup → R.length ≤ 1000 → PyData.strOk a = true → PyData.strOk b = true → (∀ e ∈ R, PyData.strOk e.1.1 = true ∧ PyData.strOk e.1.2 = true) →
      (∀ o' H', H o' = none → H' o' = some (.dT (kvT (R.filter fun q => decide (q.1 ≠ (a, b))))) → Go (TL K) (TG K) (fun _ => False) H H' → D.nx (Sg q t1 o' L x0 x2 x3 x4 x5 x6 x10 x11 x12 x13 x14 x15 (some (.str a)) (some (.str b)) x18 x19 x20 x21 x22 x23 x24 x25) H') →
      t D (Sg q t1 o L x0 x2 x3 x4 x5 x6 x10 x11 x12 x13 x14 x15 (some (.str a)) (some (.str b)) x18 x19 x20 x21 x22 x23 x24 x25) H := by
  have hu := hu_of hr
  refine ⟨_, (ps_set (i := 9) sc_law.nd rfl (by first | exact Or.inl rfl | exact Or.inr rfl) (pe_callTy (call_dictPT rfl (Nat.lt_of_le_of_lt (Nat.add_le_add_left (by decide) _) (u65 hr))) (by rfl) T.fr_dict (by decide +kernel) (pa_cons (pe_lock (pe_lc (own := [("pair", 24)]) (g := gName 24) rfl sc_law.nd (pi_keys (pv 9)) (blkOk_by (own := [("pair", 24)]) (N := N_law) (sc := d_law.scope) (by decide +kernel)) (fun _ _ _ _ _ => (pg_name (i := 24) sc_law.nd rfl (by first | exact Or.inl rfl | exact Or.inr rfl))) (fun _ _ _ _ _ => pts_one (pt_cmpR (op_neDK K rfl hr.units) (pv 24) (pe_tup (pa_cons (pv 16) (pa_cons (pv 17) pa_nil))) (nomark _))) (fun _ _ _ _ _ => (pe_tup (pa_cons (pv 24) (pa_cons (pe_dget hu (pv 9) (pv 24) (fun _ _ => rfl)) pa_nil)))))) pa_nil))), fun D H q t1 o L R a b x0 x2 x3 x4 x5 x6 x10 x11 x12 x13 x14 x15 x18 x19 x20 x21 x22 x23 x24 x25 eo nd lR ka kb kR k => ?_⟩
  refine ⟨o, _, eo, trivial, fun od => ?_⟩
  walk_at "v"
  have gl : Go (TL K) (TG K) (fun x => x = o) H (upd H o (.frz od (.dT (kvT R)))) := Go.set eo plain_dT rfl
  have l1 : upd H o (.frz od (.dT (kvT R))) o = some (.frz od (.dT (kvT R))) := upd_same
  have unl : ∀ H', Go (TL K) (TG K) (fun _ => False) (upd H o (.frz od (.dT (kvT R)))) H' → Go (TL K) (TG K) (fun _ => False) H (upd H' o (.dT (kvT R))) := fun H' g => g.unlock eo plain_dT (g.get l1)
  have fro : ∀ x, upd H o (.frz od (.dT (kvT R))) x = none → H x = none := fun x e => gl.free x e
  generalize upd H o (.frz od (.dT (kvT R))) = Hl at gl l1 unl fro ⊢
  refine ⟨o, od, rfl, .inr ⟨_, l1, fun M hM => ?_⟩⟩
  refine lc_foldT (fun e => (kT e.1, V.int e.2)) R rfl (fun (l : Rs) e => if e.1 = (a, b) then l else l ++ [e]) [] (fun l H' => PtAt H' M l ∧ l.length ≤ 1000 ∧ Go (TL K) (TG K) (fun x => x = M) Hl H') ⟨.nil upd_same, Nat.zero_le _, Go.new hM⟩ (fun _ H' h => h.2.2.keep _ _ l1 (by intro _ z; cases z) (ne_of_none l1 hM)) ?_ ?_
  · rintro pre ⟨⟨x, y⟩, w⟩ post H4 r eb ⟨v1, _, g4⟩ er
    have inR : ((x, y), w) ∈ R := by rw [eb]; simp
    have re : R.lookup (x, y) = some w := Rlook nd inR
    have er : H4 r = some (.tup [.str x, .str y]) := er
    have lpre : ∀ (es l : Rs), (es.foldl (fun (l : Rs) e => if e.1 = (a, b) then l else l ++ [e]) l).length ≤ l.length + es.length := by
      intro es
      induction es with
      | nil => exact fun l => Nat.le_refl _
      | cons e t ih =>
        intro l
        rw [List.foldl_cons]
        refine Nat.le_trans (ih _) ?_
        split
        · rw [List.length_cons]; omega
        · rw [List.length_append, List.length_cons, List.length_cons]
          show l.length + 1 + t.length ≤ _
          omega
    have lp := lpre pre []
    have lm := len_mid eb lR
    generalize (pre.foldl (fun (l : Rs) e => if e.1 = (a, b) then l else l ++ [e]) []) = l at v1 lp ⊢
    have lp : l.length < 1000 := by
      have : ([] : Rs).length = 0 := rfl
      omega
    refine ⟨rfl, ?_⟩
    walk_at "v"; walk_at "v"; walk_at "v"
    refine ⟨(by show 2 ≤ sizeLine; decide), fun z hz => ?_⟩
    have g5 := g4.trans (Go.new (S := fun x => x = M) (o := .tup [.str a, .str b]) hz)
    have v5 := v1.go0 (TL := TL K) (TG := TG K) (Go.new (o := .tup [.str a, .str b]) hz)
    have er5 : upd H4 z (.tup [.str a, .str b]) r = some (.tup [.str x, .str y]) := by rw [upd_ne (ne_of_none er hz)]; exact er
    have ez : upd H4 z (.tup [.str a, .str b]) z = some (.tup [.str a, .str b]) := upd_same
    generalize upd H4 z (.tup [.str a, .str b]) = H5 at g5 v5 er5 ez ⊢
    obtain ⟨k1, k2⟩ := kR _ inR
    refine ⟨.tuple [.str x, .str y], .tuple [.str a, .str b], .tup (SqT.of er5) (.cons (.str _) (.cons (.str _) .nil)), .tup (SqT.of ez) (.cons (.str _) (.cons (.str _) .nil)), shaped_2 k1 k2, shaped_2 ka kb, ?_⟩
    rw [eqv_2]
    refine ⟨_, rfl, ?_⟩
    show if (!decide ((x, y) = (a, b))) = true then _ else _
    by_cases e : (x, y) = (a, b)
    · refine iteF' (by simp [e]) ?_
      rw [if_pos e]
      exact ⟨v5, Nat.le_of_lt lp, g5⟩
    · refine iteT' (by simp [e]) ?_
      rw [if_neg e]
      have l5 := g5.keep _ _ l1 (by intro _ z; cases z) (ne_of_none l1 hM)
      walk_at "v"; walk_at "v"; walk_at "v"
      refine ⟨o, .int w, rfl, .inr ⟨kvT R, kT (x, y), r, .inr ⟨od, l5⟩, rfl, er5, (by rw [val_kvT, re] <;> rfl)⟩, ?_⟩
      refine ⟨(by show 2 ≤ sizeLine; decide), fun u hu' => ?_⟩
      have g6 := g5.trans (Go.new (S := fun x => x = M) (o := .tup [.ref r, .int w]) hu')
      have v6 := v5.go0 (TL := TL K) (TG := TG K) (Go.new (o := .tup [.ref r, .int w]) hu')
      have er6 : upd H5 u (.tup [.ref r, .int w]) r = some (.tup [.str x, .str y]) := by rw [upd_ne (ne_of_none er5 hu')]; exact er5
      have eu : upd H5 u (.tup [.ref r, .int w]) u = some (.tup [.ref r, .int w]) := upd_same
      generalize upd H5 u (.tup [.ref r, .int w]) = H6 at g6 v6 er6 eu ⊢
      obtain ⟨ps, q1, q2⟩ := v6
      refine ⟨_, q1, ?_, ⟨ps ++ [u], by rw [upd_same, List.map_append] <;> rfl, paired_snoc (F := fun p (e : (Str × Str) × Int) => ∃ b, upd H6 M (.lst (ps.map V.ref ++ [.ref u])) p = some (.tup [.ref b, .int e.2]) ∧ upd H6 M (.lst (ps.map V.ref ++ [.ref u])) b = some (.tup [.str e.1.1, .str e.1.2])) ⟨r, ?_, ?_⟩ (Paired.mapP q2 fun p e z => ?_)⟩, ?_, g6.trans (Go.set q1 plain_lst rfl)⟩
      · rw [List.length_map, paired_len q2]; exact thou_lt lp
      · rw [upd_ne (ne_of eu q1 (by intro z; cases z))]; exact eu
      · rw [upd_ne (ne_of er6 q1 (by intro z; cases z))]; exact er6
      · obtain ⟨b', e1, e2⟩ := z
        exact ⟨b', by rw [upd_ne (ne_of e1 q1 (by intro z; cases z))]; exact e1, by rw [upd_ne (ne_of e2 q1 (by intro z; cases z))]; exact e2⟩
      · rw [List.length_append]
        show l.length + 1 ≤ 1000
        omega
  · rintro H4 ⟨v1, _, g4⟩
    have fo : ∀ (es l : Rs), es.foldl (fun (l : Rs) e => if e.1 = (a, b) then l else l ++ [e]) l = l ++ es.filter fun q => decide (q.1 ≠ (a, b)) := by
      intro es
      induction es with
      | nil => intro l; simp
      | cons e t ih =>
        intro l
        rw [List.foldl_cons, ih]
        by_cases z : e.1 = (a, b)
        · rw [if_pos z, List.filter_cons_of_neg (by simp [z])]
        · rw [if_neg z, List.filter_cons_of_pos (by simp [z])]
          simp
    rw [fo, List.nil_append] at v1
    have g4' : Go (TL K) (TG K) (fun _ => False) Hl H4 := g4.drop fun b z => .inr (by rw [z]; exact hM)
    refine ⟨g4'.get l1, ?_⟩
    have g5 := unl H4 g4'
    have nMo : M ≠ o := (ne_of_none l1 hM).symm
    have v5 : PtAt (upd H4 o (.dT (kvT R))) M (R.filter fun q => decide (q.1 ≠ (a, b))) := by
      obtain ⟨ps, w1, w2⟩ := v1
      have l4 := g4'.get l1
      exact ⟨ps, by rw [upd_ne nMo]; exact w1, Paired.mapP w2 fun p e z => let ⟨b', e1, e2⟩ := z; ⟨b', by rw [upd_ne (ne_of e1 l4 (by intro z; cases z))]; exact e1, by rw [upd_ne (ne_of e2 l4 (by intro z; cases z))]; exact e2⟩⟩
    generalize upd H4 o (.dT (kvT R)) = H5 at g5 v5 ⊢
    obtain ⟨ps, z1, z2⟩ := v5
    refine ⟨M, ps, kvT (R.filter fun q => decide (q.1 ≠ (a, b))), rfl, SqL.of z1, paired_map (g := fun e : (Str × Str) × Int => (kT e.1, V.int e.2)) (fun p e z => let ⟨b, u1, u2⟩ := z; ⟨b, SqT.of u1, u2⟩) z2, fun o' ho' => ?_⟩
    have nd2 : ((R.filter fun q => decide (q.1 ≠ (a, b))).map (·.1)).Nodup := (List.Sublist.map _ List.filter_sublist).nodup nd
    have ed := dict_kvT nd2 []
    rw [List.append_nil] at ed
    rw [ed]
    exact k o' _ (g5.free _ ho') upd_same (g5.trans (Go.new ho'))
end
end K1
namespace K1
open PySem PySem.Spec PyProof.Rows L2 Fy
open GxR (TabG Tabbed)
theorem shaped_strs (ns : List Str) (h : ∀ n ∈ ns, PyData.strOk n = true) : SeqAt.shaped (.list (ns.map PyData.str)) = true := by
  have h1 : PyData.canLayAll0 (ns.map PyData.str) = true := by
    induction ns with
    | nil => rfl
    | cons a r ih =>
      simp only [List.map_cons, PyData.canLayAll0, PyData.canLay0, Bool.and_eq_true]
      exact ⟨h a List.mem_cons_self, ih fun n hn => h n (List.mem_cons_of_mem _ hn)⟩
  have h2 : PyData.depthAll (ns.map PyData.str) ≤ 1 := by
    clear h h1
    induction ns with
    | nil => simp [PyData.depthAll]
    | cons a r ih =>
      simp only [List.map_cons, PyData.depthAll, PyData.depth]
      omega
  show (PyData.canLay0 (.list (ns.map PyData.str)) && decide (PyData.depth (.list (ns.map PyData.str)) ≤ 64)) = true
  rw [Bool.and_eq_true]
  refine ⟨by simp only [PyData.canLay0]; exact h1, decide_eq_true ?_⟩
  simp only [PyData.depth]
  omega
theorem dp_strs {K : PySem.W.Frag} {H : Hp} : ∀ (ns : List Str), DpAll K H (ns.map V.str) (ns.map PyData.str)
  | [] => .nil
  | _ :: t => .cons (.str _) (dp_strs t)
theorem mem_putR {R : Rs} {p : Str × Str} {x : Int} {e : (Str × Str) × Int} (h : e ∈ putR R p x) : e ∈ R ∨ e = (p, x) := by
  unfold putR at h
  split at h
  · obtain ⟨q, hq, rfl⟩ := List.mem_map.mp h
    split
    · next z => exact .inr (by rw [z])
    · exact .inl hq
  · rcases List.mem_append.mp h with h | h
    · exact .inl h
    · exact .inr (List.mem_singleton.mp h)
theorem nd_putR {R : Rs} {p : Str × Str} {x : Int} (nd : (R.map (·.1)).Nodup) : ((putR R p x).map (·.1)).Nodup := by
  unfold putR
  split
  · rw [List.map_map]
    have : R.map ((fun q : (Str × Str) × Int => q.1) ∘ fun q => if q.1 = p then (q.1, x) else q) = R.map (·.1) := List.map_congr_left fun q _ => by
      show (if q.1 = p then (q.1, x) else q).1 = q.1
      split <;> rfl
    rw [this]
    exact nd
  · next z =>
    rw [List.map_append, List.nodup_append]
    refine ⟨nd, by simp, fun a ha b hb => ?_⟩
    obtain rfl : b = p := List.mem_singleton.mp hb
    rintro rfl
    obtain ⟨q, hq, e⟩ := List.mem_map.mp ha
    rw [Rlook nd (show (a, q.2) ∈ R by rw [← e]; exact hq)] at z
    exact z rfl
theorem WfT.lay {cs : List Str} {R : Rs} (wf : WfT cs R) {a b : Str} {m g : Int} (h : canLay cs a b m g = true) (l : R.length ≤ 9000) : WfT cs (layR R a b m g) := by
  unfold canLay at h
  simp only [Bool.and_eq_true, decide_eq_true_eq] at h
  obtain ⟨⟨⟨⟨ha, hb⟩, n⟩, m1, m2⟩, g1, g2⟩ := h
  have l1 := put_len R (a, b) m
  have e1 : ∀ e ∈ putR R (a, b) m, e.1.1 ∈ cs ∧ e.1.2 ∈ cs ∧ e.1.1 ≠ e.1.2 ∧ 1 ≤ e.2 ∧ e.2 ≤ 60 := fun e he => by
    rcases mem_putR he with z | z
    · exact wf.ends e z
    · rw [z]; exact ⟨ha, hb, n, m1, m2⟩
  unfold layR
  split
  · next z =>
    refine ⟨wf.ndc, nd_putR (nd_putR wf.nd), fun e he => ?_, ?_, wf.lenc⟩
    · rcases mem_putR he with y | y
      · exact e1 e y
      · rw [y]; exact ⟨hb, ha, fun e => n e.symm, by show 1 ≤ g; omega, g2⟩
    · have := put_len (putR R (a, b) m) (b, a) g
      omega
  · exact ⟨wf.ndc, nd_putR wf.nd, e1, by omega, wf.lenc⟩
theorem lay_len (R : Rs) (a b : Str) (m g : Int) : (layR R a b m g).length ≤ R.length + 2 := by
  unfold layR
  have l1 := put_len R (a, b) m
  have l2 := put_len (putR R (a, b) m) (b, a) g
  split <;> omega
theorem WfT.cut {cs : List Str} {R : Rs} (wf : WfT cs R) (f : ((Str × Str) × Int) → Bool) : WfT cs (R.filter f) :=
  ⟨wf.ndc, (List.Sublist.map _ List.filter_sublist).nodup wf.nd, fun e he => wf.ends e (List.mem_filter.mp he).1, Nat.le_trans (List.length_filter_le _ _) wf.len, wf.lenc⟩
theorem cut_none {R : Rs} {p : Str × Str} (h : (R.lookup p).isSome = false) : R.filter (fun q => decide (q.1 ≠ p)) = R := by
  refine List.filter_eq_self.mpr fun q hq => decide_eq_true fun z => ?_
  have : R.lookup p ≠ none := by
    intro e
    rw [List.lookup_eq_none_iff] at e
    have := e q hq
    rw [z] at this
    simp at this
  rw [Option.isSome_eq_false_iff, Option.isNone_iff_eq_none] at h
  exact this h
section
variable {P : Program} {w : World} {K : PySem.W.Frag} {mg : Str → Option Value} {base : Heap}
/-- if town.streets != own or ..: return False -/
theorem law_cmp (T : Txt K mg base) {A : Around} {outer : List Env} {s : Shared} {H0 : Hp} {E0 : XK} (hr : Room 9 (A.deeper (envOfC d_law.qual d_law.scope s.heap.objs.size (He.fAd K d_law.at_) (.ref (He.codeOf K d_law.at_))))) :
    ∃ t, PS (bodyX P w K mg base N_law d_law A outer s H0 E0) ((subS ((subS ((d_law.body).getD 0 noS)).getD 2 noS)).getD 3 noS) t ∧ ∀ (D : Ends) (H : Hp) (q p t1 c d o L : Addr) (cs : List Str) (R : Rs) (x0 x2 x3 x4 x5 x6 x10 x11 x12 x13 x14 x15 x16 x17 x18 x19 x20 x21 x22 x23 x24 x25 : Option V), W1 K H q p t1 c d o L cs R →
      D.nx (Sg q t1 o L x0 x2 x3 x4 x5 x6 x10 x11 x12 x13 x14 x15 x16 x17 x18 x19 x20 x21 x22 x23 x24 x25) H → t D (Sg q t1 o L x0 x2 x3 x4 x5 x6 x10 x11 x12 x13 x14 x15 x16 x17 x18 x19 x20 x21 x22 x23 x24 x25) H := by
  have hu := hu_of hr
  refine ⟨_, (ps_if (PW.pt (pw_or (pt_cmpR (op_neTT (u65 hr)) (pe_fld (pv 8) rfl) (pv 9) (nomark _)) (pw_or1 (pt_cmpR (op_neD hr.units) (pe_fld (pv 8) rfl) (pv 7) (nomark _))))) (pss_one (ps_ret pe_bl)) pss_nil), fun D H q p t1 c d o L cs R x0 x2 x3 x4 x5 x6 x10 x11 x12 x13 x14 x15 x16 x17 x18 x19 x20 x21 x22 x23 x24 x25 W k => ?_⟩
  obtain ⟨⟨dx, h1⟩, h2, h3⟩ := id W.town
  walk_at "v"
  refine ⟨_, _, _, _, _, rfl, h1, T.cl_Town, T.no_Town_streets, rfl, ?_⟩
  walk_at "v"
  refine ⟨d, o, _, _, rfl, rfl, h3, W.own, rfl, fun e he => ?_, ?_⟩
  · obtain ⟨r, hr', rfl⟩ := List.mem_map.mp he
    exact ⟨.int r.2, by rw [val_kvT, Rlook W.wf.nd (show (r.1, r.2) ∈ R from hr')] <;> rfl, .int r.2, .int _, .int _, rfl⟩
  refine ⟨_, rfl, iteF ?_⟩
  walk_at "v"
  refine ⟨_, _, _, _, _, rfl, h1, T.cl_Town, T.no_Town_corners, rfl, ?_⟩
  walk_at "v"
  have sh := shaped_strs cs fun n hn => (lt7_ok n (W.sub n hn)).1
  refine ⟨.list (cs.map PyData.str), .list (cs.map PyData.str), .lst (SqL.of h2) (dp_strs cs), .lst (SqL.of W.cor) (dp_strs cs), sh, sh, ?_⟩
  rw [eqv_same sh]
  exact ⟨_, rfl, iteF k⟩
end
end K1
namespace K1
open PySem PySem.Spec PyProof.Rows L2 Fy
open GxR (TabG Tabbed)
section
variable {P : Program} {w : World} {K : PySem.W.Frag} {mg : Str → Option Value} {base : Heap}
theorem W1.next {H H' H2 : Hp} {q p t c d o o' L : Addr} {cs : List Str} {R R' : Rs} (W : W1 K H q p t c d o L cs R) (D : TownAt (CTwn K) H' t c d cs R') (g : Go (TL K) (TG K) (fun b => b = d) H H') (g2 : Go (TL K) (TG K) (fun _ => False) H' H2) (n : H' o' = none) (e : H2 o' = some (.dT (kvT R'))) (wf : WfT cs R') : W1 K H2 q p t c d o' L cs R' := by
  obtain ⟨⟨dx, h1⟩, h2, h3⟩ := id W.town
  obtain ⟨Dc, hq⟩ := W.dice
  have kp : ∀ b u, H b = some u → NoT u → u ≠ .dT (kvT R) → H2 b = some u := fun b u e n ne => g2.get (g.keep _ _ e n fun z => by rw [z, h3] at e; exact ne (Option.some.inj e).symm) n id
  exact ⟨D.go g2 id id id, e, kp _ _ W.cor (by intro _ z; cases z) (by intro z; cases z), ⟨Dc, kp _ _ hq (by intro _ z; cases z) (by intro z; cases z)⟩, kp _ _ W.pl (by intro _ z; cases z) (by intro z; cases z), (ne_of_none D.st n).symm, W.Lc, W.qc, W.qL, W.pc, W.pL, wf, W.sub, W.pos, g2.tb (g.tb W.tb)⟩
theorem W1.own2 {H H2 : Hp} {q p t c d o o' L : Addr} {cs : List Str} {R : Rs} (W : W1 K H q p t c d o L cs R) (g2 : Go (TL K) (TG K) (fun _ => False) H H2) (n : H o' = none) (e : H2 o' = some (.dT (kvT R))) : W1 K H2 q p t c d o' L cs R :=
  W.next W.town Go.refl g2 n e W.wf
/-- if roll > 0: lay, else: close -/
theorem law_deed (T : Txt K mg base) {A : Around} {outer : List Env} {s : Shared} {H0 : Hp} {E0 : XK} (hr : Room 9 (A.deeper (envOfC d_law.qual d_law.scope s.heap.objs.size (He.fAd K d_law.at_) (.ref (He.codeOf K d_law.at_))))) :
    ∃ t, PS (bodyX P w K mg base N_law d_law A outer s H0 E0) ((subS ((subS ((d_law.body).getD 0 noS)).getD 2 noS)).getD 2 noS) t ∧ ∀ (D : Ends) (H : Hp) (q p t1 c d o L : Addr) (cs : List Str) (R : Rs) (a b : Str) (m : Int) (g : Option Int) (x0 x2 x3 x4 x5 x6 x10 x11 x12 x13 x14 x15 x20 x21 x22 x23 x24 x25 : Option V), W1 K H q p t1 c d o L cs R → (a ∈ cs ∨ a = "zz") → b ∈ cs → 0 ≤ m → m < 20 → (∀ x, g = some x → 0 ≤ x ∧ x < 10) → R.length ≤ 500 →
      (∀ (o' : Addr) (R' : Rs) (H' : Hp) (x20 x21 : Option V), W1 K H' q p t1 c d o' L cs R' → R'.length ≤ R.length + 2 → D.nx (Sg q t1 o' L x0 x2 x3 x4 x5 x6 x10 x11 x12 x13 x14 x15 (some (.str a)) (some (.str b)) (some (.int m)) (some (oi g)) x20 x21 x22 x23 x24 x25) H') →
      t D (Sg q t1 o L x0 x2 x3 x4 x5 x6 x10 x11 x12 x13 x14 x15 (some (.str a)) (some (.str b)) (some (.int m)) (some (oi g)) x20 x21 x22 x23 x24 x25) H := by
  have hu := hu_of hr
  obtain ⟨tl0, pl0, rl0⟩ := law_l0 (P := P) (w := w) (E0 := E0) (H0 := H0) T hr
  obtain ⟨tl1, pl1, rl1⟩ := law_l1 (P := P) (w := w) (E0 := E0) (H0 := H0) T hr
  obtain ⟨tl2, pl2, rl2⟩ := law_l2 (P := P) (w := w) (E0 := E0) (H0 := H0) T hr
  obtain ⟨tl3, pl3, rl3⟩ := law_l3 (P := P) (w := w) (E0 := E0) (H0 := H0) T hr
  obtain ⟨tc0, pc0, rc0⟩ := law_c0 (P := P) (w := w) (E0 := E0) (H0 := H0) T hr
  obtain ⟨tc1, pc1, rc1⟩ := law_c1 (P := P) (w := w) (E0 := E0) (H0 := H0) T hr
  obtain ⟨tc2, pc2, rc2⟩ := law_c2 (P := P) (w := w) (E0 := E0) (H0 := H0) T hr
  refine ⟨_, (ps_if (pt_cmpR op_gt (pg_call (ok_law_roll T) (hr.mono (by decide)) rfl T.gl_law_roll px (pa_cons (pv 1) (pa_cons pe_int pa_nil))) pe_int (nomark _)) (pss_cons pl0
        (pss_cons pl1
        (pss_cons pl2
        (pss_one pl3)))) (pss_cons pc0
        (pss_cons pc1
        (pss_one pc2)))), fun D H q p t1 c d o L cs R a b m g x0 x2 x3 x4 x5 x6 x10 x11 x12 x13 x14 x15 x20 x21 x22 x23 x24 x25 W ha hb m1 m2 hg lR k => ?_⟩
  obtain ⟨Dc, hq⟩ := W.dice
  walk_at "v"
  refine ⟨q, Dc, 5, rfl, hq, by decide, by decide, ?_⟩
  have W1 := W.roll hq (rollD Dc 5)
  generalize rollV Dc 5 = v
  generalize upd H q (.lst (dvals (rollD Dc 5))) = H1 at W1 ⊢
  refine ⟨_, _, rfl, rfl, _, rfl, ite2 (fun _ => ?_) (fun _ => ?_)⟩
  · have gg : 0 ≤ g.getD m ∧ g.getD m < 20 := by
      cases g with
      | none => exact ⟨m1, m2⟩
      | some x => have := hg x rfl; show 0 ≤ x ∧ x < 20; omega
    have ce := canLay_eq (cs := cs) (a := a) (b := b) (g := g.getD m) hb m1 m2 gg.1 gg.2
    refine rl0 _ H1 q t1 o L cs a b m _ _ _ _ _ _ _ _ _ _ _ _ _ _ _ _ _ _ _ W1.cor ?_
    refine rl1 _ H1 q p t1 c d o L cs R a b m g _ _ _ _ _ _ _ _ _ _ _ _ _ _ _ _ _ W1 ce (fun H2 z W2 => ?_) (fun H2 H3 z W2 D3 g3 => ?_)
    · refine rl2 _ H2 q t1 o L m g _ _ _ _ _ _ _ _ _ _ _ _ _ _ _ _ _ _ _ _ ?_
      refine rl3 _ H2 q t1 o L R a b m (g.getD m) _ _ _ _ _ _ _ _ _ _ _ _ _ _ _ _ _ _ W2.own W2.wf.nd (by omega) fun o' H4 n4 e4 g4 => ?_
      rw [z, if_neg (by decide)] at e4
      exact k o' R H4 _ _ (W2.own2 g4 n4 e4) (by omega)
    · have o3 : H3 o = some (.dT (kvT R)) := g3.keep _ _ W2.own (by intro _ z; cases z) W2.od
      refine rl2 _ H3 q t1 o L m g _ _ _ _ _ _ _ _ _ _ _ _ _ _ _ _ _ _ _ _ ?_
      refine rl3 _ H3 q t1 o L R a b m (g.getD m) _ _ _ _ _ _ _ _ _ _ _ _ _ _ _ _ _ _ o3 W2.wf.nd (by omega) fun o' H4 n4 e4 g4 => ?_
      rw [z, if_pos rfl] at e4
      exact k o' _ H4 _ _ (W2.next D3 g3 g4 n4 e4 (W2.wf.lay (by rw [ce]; exact z) (by omega))) (lay_len _ _ _ _ _)
  · have ka : PyData.strOk a = true := by
      rcases ha with z | z
      · exact (lt7_ok a (W.sub a z)).1
      · rw [z]; decide +kernel
    have kb : PyData.strOk b = true := (lt7_ok b (W.sub b hb)).1
    have kR : ∀ e ∈ R, PyData.strOk e.1.1 = true ∧ PyData.strOk e.1.2 = true := fun e he => ⟨(lt7_ok _ (W.sub _ (W.wf.ends e he).1)).1, (lt7_ok _ (W.sub _ (W.wf.ends e he).2.1)).1⟩
    refine rc0 _ H1 q t1 o L R a b _ _ _ _ _ _ _ _ _ _ _ _ _ _ _ _ _ _ _ _ W1.own fun H2 g2 => ?_
    refine rc1 _ H2 q p t1 c d o L cs R a b _ _ _ _ _ _ _ _ _ _ _ _ _ _ _ _ _ _ _ (W1.go0 g2) (fun H3 z W3 => ?_) (fun H3 H4 z W3 D4 g4 => ?_)
    · refine rc2 _ H3 q t1 o L R a b _ _ _ _ _ _ _ _ _ _ _ _ _ _ _ _ _ _ _ _ W3.own W3.wf.nd (by omega) ka kb kR fun o' H5 n5 e5 g5 => ?_
      rw [cut_none z] at e5
      exact k o' R H5 _ _ (W3.own2 g5 n5 e5) (by omega)
    · have o4 : H4 o = some (.dT (kvT R)) := g4.keep _ _ W3.own (by intro _ z; cases z) W3.od
      refine rc2 _ H4 q t1 o L R a b _ _ _ _ _ _ _ _ _ _ _ _ _ _ _ _ _ _ _ _ o4 W3.wf.nd (by omega) ka kb kR fun o' H5 n5 e5 g5 => ?_
      have := List.length_filter_le (fun q : (Str × Str) × Int => decide (q.1 ≠ (a, b))) R
      exact k o' _ H5 _ _ (W3.next D4 g4 g5 n5 e5 (W3.wf.cut _)) (by omega)
end
end K1
namespace K1
open PySem PySem.Spec PyProof.Rows L2 Fy
open GxR (TabG Tabbed)
section
variable {P : Program} {w : World} {K : PySem.W.Frag} {mg : Str → Option Value} {base : Heap}
/-- for step in range(..) -/
theorem law_steps (T : Txt K mg base) {A : Around} {outer : List Env} {s : Shared} {H0 : Hp} {E0 : XK} (hr : Room 9 (A.deeper (envOfC d_law.qual d_law.scope s.heap.objs.size (He.fAd K d_law.at_) (.ref (He.codeOf K d_law.at_))))) :
    ∃ t, PS (bodyX P w K mg base N_law d_law A outer s H0 E0) ((subS ((d_law.body).getD 0 noS)).getD 2 noS) t ∧ ∀ (D : Ends) (H : Hp) (q p t1 c d o L : Addr) (cs : List Str) (x0 x2 x3 x4 x5 x6 x10 x11 x12 x13 x14 x15 x16 x17 x18 x19 x20 x21 x22 x23 x24 x25 : Option V), W1 K H q p t1 c d o L cs [] →
      (∀ (o' : Addr) (R : Rs) (H' : Hp) (x3 x16 x17 x18 x19 x20 x21 : Option V), W1 K H' q p t1 c d o' L cs R → R.length ≤ 500 → D.nx (Sg q t1 o' L x0 x2 x3 x4 x5 x6 x10 x11 x12 x13 x14 x15 x16 x17 x18 x19 x20 x21 x22 x23 x24 x25) H') →
      t D (Sg q t1 o L x0 x2 x3 x4 x5 x6 x10 x11 x12 x13 x14 x15 x16 x17 x18 x19 x20 x21 x22 x23 x24 x25) H := by
  have hu := hu_of hr
  obtain ⟨t0, p0, r0⟩ := law_draw1 (P := P) (w := w) (E0 := E0) (H0 := H0) T hr
  obtain ⟨t1, p1, r1⟩ := law_draw2 (P := P) (w := w) (E0 := E0) (H0 := H0) T hr
  obtain ⟨t2, p2, r2⟩ := law_deed (P := P) (w := w) (E0 := E0) (H0 := H0) T hr
  obtain ⟨t3, p3, r3⟩ := law_cmp (P := P) (w := w) (E0 := E0) (H0 := H0) T hr
  refine ⟨_, (ps_for (passes_of rfl) rfl (pi_range1 rfl T.fr_range (pa_cons (pg_call (ok_law_roll T) (hr.mono (by decide)) rfl T.gl_law_roll px (pa_cons (pv 1) (pa_cons pe_int pa_nil))) pa_nil)) (pg_name (i := 3) sc_law.nd rfl (by first | exact Or.inl rfl | exact Or.inr rfl)) (pss_cons p0
        (pss_cons p1
        (pss_cons p2
        (pss_one p3))))), fun D H q p t1 c d o L cs x0 x2 x3 x4 x5 x6 x10 x11 x12 x13 x14 x15 x16 x17 x18 x19 x20 x21 x22 x23 x24 x25 W k => ?_⟩
  obtain ⟨Dc, hq⟩ := W.dice
  walk_at "v"
  refine ⟨q, Dc, 20, rfl, hq, by decide, by decide, ?_⟩
  obtain ⟨N, hN, eN⟩ := roll_nat Dc 20 (by decide)
  have eN : rollV Dc 20 = (N : Int) := eN
  rw [eN]
  refine ⟨_, rfl, (by omega), (by show (N : Int) < 2 ^ 62; omega), ?_⟩
  have Wa := W.roll hq (rollD Dc 20)
  rw [show (N : Int).toNat = N from rfl]
  refine for_range (n := N) (fun i σ H' => ∃ (o' : Addr) (R : Rs) (x3 x16 x17 x18 x19 x20 x21 : Option V), W1 K H' q p t1 c d o' L cs R ∧ R.length ≤ 2 * i ∧ σ = Sg q t1 o' L x0 x2 x3 x4 x5 x6 x10 x11 x12 x13 x14 x15 x16 x17 x18 x19 x20 x21 x22 x23 x24 x25)
    ⟨o, [], _, _, _, _, _, _, _, Wa, Nat.zero_le _, rfl⟩ ?_ ?_
  · rintro i σ H1 hi ⟨o1, R, x3, x16, x17, x18, x19, x20, x21, W2, lR, rfl⟩
    refine r0 _ H1 q p t1 c d o1 L cs R _ _ _ _ _ _ _ _ _ _ _ _ _ _ _ _ _ _ _ _ _ _ W2 fun a b H2 ha hb W3 => ?_
    refine r1 _ H2 q p t1 c d o1 L cs R _ _ _ _ _ _ _ _ _ _ _ _ _ _ _ _ _ _ _ _ _ _ W3 fun m g H3 m1 m2 hg W4 => ?_
    refine r2 _ H3 q p t1 c d o1 L cs R a b m g _ _ _ _ _ _ _ _ _ _ _ _ _ _ _ _ _ _ W4 ha hb m1 m2 hg (by omega) fun o2 R2 H4 y20 y21 W5 l5 => ?_
    refine r3 _ H4 q p t1 c d o2 L cs R2 _ _ _ _ _ _ _ _ _ _ _ _ _ _ _ _ _ _ _ _ _ _ W5 ?_
    exact ⟨o2, R2, _, _, _, _, _, _, _, W5, by omega, rfl⟩
  · rintro σ H1 ⟨o1, R, x3, x16, x17, x18, x19, x20, x21, W2, lR, rfl⟩
    exact k o1 R H1 _ _ _ _ _ _ _ W2 (by omega)
end
end K1
namespace K1
open PySem PySem.Spec PyProof.Rows L2 Fy
open GxR (TabG Tabbed)
/-- the law's tables -/
structure TbAt (H : Hp) (tb : Addr) (R : Rs) (cs : List Str) (ta : Str → Addr) (Fa : Str → Fs) : Prop where
  dc : H tb = some (.dK (cs.map fun c => (Sum.inr c, V.ref (ta c))))
  tm : ∀ c ∈ cs, Times R c (Fa c)
  at_ : ∀ c ∈ cs, H (ta c) = some (.dK (tkf (Fa c)))
  inC : ∀ c ∈ cs, ∀ v x, (Fa c).lookup v = some x → v ∈ cs
theorem TbAt.go {H H' : Hp} {tb : Addr} {R : Rs} {cs : List Str} {ta : Str → Addr} {Fa : Str → Fs} {TL : List (Addr × Str)} {TG : List Addr} {S : Ad} (h : TbAt H tb R cs ta Fa) (g : Go TL TG S H H') (s : ∀ b kvs, H b = some (.dK kvs) → ¬ S b) : TbAt H' tb R cs ta Fa :=
  ⟨g.keep _ _ h.dc (by intro _ z; cases z) (s _ _ h.dc), h.tm, fun c hc => g.keep _ _ (h.at_ c hc) (by intro _ z; cases z) (s _ _ (h.at_ c hc)), h.inC⟩
theorem TbAt.go0 {H H' : Hp} {tb : Addr} {R : Rs} {cs : List Str} {ta : Str → Addr} {Fa : Str → Fs} {TL : List (Addr × Str)} {TG : List Addr} (h : TbAt H tb R cs ta Fa) (g : Go TL TG (fun _ => False) H H') : TbAt H' tb R cs ta Fa := h.go g fun _ _ _ => id
theorem val_tab {cs : List Str} {ta : Str → Addr} {n : Str} (h : n ∈ cs) : valV (cs.map fun c => ((Sum.inr c : Key), V.ref (ta c))) (Sum.inr n) = some (.ref (ta n)) := by
  induction cs with
  | nil => cases h
  | cons c t ih =>
    by_cases e : c = n
    · subst e
      exact valV_pos rfl
    · have ne : ¬ (Sum.inr c : Key) = Sum.inr n := fun z => e (Sum.inr.inj z)
      rcases List.mem_cons.mp h with z | z
      · exact (e z.symm).elim
      · rw [← ih z]
        exact valV_neg ne
theorem TbAt.get {H : Hp} {tb : Addr} {R : Rs} {cs : List Str} {ta : Str → Addr} {Fa : Str → Fs} (h : TbAt H tb R cs ta Fa) {n : Str} (hn : n ∈ cs) : DGet H tb (.str n) (some (.ref (ta n))) := by
  have := DGet.k (k := Sum.inr n) h.dc
  rw [val_tab hn] at this
  exact this
section
variable {P : Program} {w : World} {K : PySem.W.Frag} {mg : Str → Option Value} {base : Heap}
/-- tables = dict([..]) -/
theorem law_tabs (T : Txt K mg base) {A : Around} {outer : List Env} {s : Shared} {H0 : Hp} {E0 : XK} (hr : Room 9 (A.deeper (envOfC d_law.qual d_law.scope s.heap.objs.size (He.fAd K d_law.at_) (.ref (He.codeOf K d_law.at_))))) :
    ∃ t, PS (bodyX P w K mg base N_law d_law A outer s H0 E0) ((subS ((d_law.body).getD 0 noS)).getD 3 noS) t ∧ ∀ (D : Ends) (H : Hp) (q p t1 c d o L : Addr) (cs : List Str) (R : Rs) (x0 x2 x3 x4 x5 x6 x10 x11 x12 x13 x14 x15 x16 x17 x18 x19 x20 x21 x22 x23 x24 x25 : Option V), W1 K H q p t1 c d o L cs R →
      (∀ (tb : Addr) (ta : Str → Addr) (Fa : Str → Fs) (H' : Hp), W1 K H' q p t1 c d o L cs R → TbAt H' tb R cs ta Fa → D.nx (Sg q t1 o L x0 x2 x3 (some (.ref tb)) x5 x6 x10 x11 x12 x13 x14 x15 x16 x17 x18 x19 x20 x21 x22 x23 x24 x25) H') →
      t D (Sg q t1 o L x0 x2 x3 x4 x5 x6 x10 x11 x12 x13 x14 x15 x16 x17 x18 x19 x20 x21 x22 x23 x24 x25) H := by
  have hu := hu_of hr
  refine ⟨_, (ps_set (i := 4) sc_law.nd rfl (by first | exact Or.inl rfl | exact Or.inr rfl) (pe_callTy (call_dictP rfl) (by rfl) T.fr_dict (by decide +kernel) (pa_cons (pe_lc (own := [("corner", 2)]) (g := gName 2) (tt := tYes) rfl sc_law.nd (pi_list (pv 7)) (blkOk_by (own := [("corner", 2)]) (N := N_law) (sc := d_law.scope) (by decide +kernel)) (fun _ _ _ _ _ => (pg_name (i := 2) sc_law.nd rfl (by first | exact Or.inl rfl | exact Or.inr rfl))) (fun _ _ _ _ _ => pts_nil) (fun _ _ _ _ _ => (pe_tup (pa_cons (pv 2) (pa_cons (pg_call (ok_law_times T) (hr.mono (by decide)) rfl T.gl_law_times passL (pa_cons (pv 9) (pa_cons (pv 2) pa_nil))) pa_nil))))) pa_nil))), fun D H q p t1 c d o L cs R x0 x2 x3 x4 x5 x6 x10 x11 x12 x13 x14 x15 x16 x17 x18 x19 x20 x21 x22 x23 x24 x25 W k => ?_⟩
  walk_at "v"
  refine ⟨L, rfl, ⟨_, SqL.of W.cor⟩, fun M hM => ?_⟩
  refine lc_pre V.str cs rfl walk_itl (fun pre H' => ∃ (ta : Str → Addr) (Fa : Str → Fs), PrAt H' M (pre.map fun c => (c, V.ref (ta c))) ∧ (∀ c ∈ pre, Times R c (Fa c) ∧ H' (ta c) = some (.dK (tkf (Fa c))) ∧ ∀ v x, (Fa c).lookup v = some x → v ∈ cs) ∧ Go (TL K) (TG K) (fun a => a = M) H H')
    ⟨fun _ => 0, fun _ => [], .nil upd_same, (fun _ z => by cases z), Go.new hM⟩ (fun pre H' h => ?_) ?_ ?_
  · obtain ⟨_, _, _, _, g⟩ := h
    exact SqL.of (g.keep _ _ W.cor (by intro _ z; cases z) (ne_of_none W.cor hM))
  · rintro pre n post H1 eb ⟨ta, Fa, v1, v2, g1⟩
    have hn : n ∈ cs := by rw [eb]; simp
    have np : n ∉ pre := by
      have nd := W.wf.ndc
      rw [eb, List.nodup_append] at nd
      exact fun z => nd.2.2 n z n List.mem_cons_self rfl
    have o1 := g1.keep _ _ W.own (by intro _ z; cases z) (ne_of_none W.own hM)
    refine ⟨rfl, tYes_ok ?_⟩
    walk_at "v"; walk_at "v"; walk_at "v"
    refine ⟨o, cs, R, n, rfl, o1, W.wf, hn, fun F p2 H2 tm inC hp2 e2 g2 => ?_⟩
    have v3 := v1.go g2 id (fun _ _ _ => id)
    refine ⟨(by show 2 ≤ sizeLine; decide), fun u hu' => ?_⟩
    obtain ⟨acc, a1, a2, a3⟩ := v3.snoc (n := n) (v := .ref p2) hu'
    have g3 : Go (TL K) (TG K) (fun a => a = M) H1 (upd (upd H2 u (.tup [.str n, .ref p2])) M (.lst (acc ++ [.ref u]))) := (g2.wide.trans (Go.new hu')).trans (Go.set a1 plain_lst rfl)
    have kp : ∀ b kvs, H1 b = some (.dK kvs) → b ≠ M := fun b kvs e z => by
      obtain ⟨acc', f1, _⟩ := v1.lst
      rw [z, f1] at e; cases e
    refine ⟨acc, a1, ?_, fun c => if c = n then p2 else ta c, fun c => if c = n then F else Fa c, ?_, fun c hc => ?_, g1.trans g3⟩
    · rw [a2, List.length_map]
      exact thou_lt (Nat.lt_trans (len_mid eb W.len7) (by decide))
    · rw [List.map_append]
      have e1 : pre.map (fun c => (c, V.ref (if c = n then p2 else ta c))) = pre.map fun c => (c, V.ref (ta c)) := List.map_congr_left fun c hc => by rw [if_neg (fun z => np (by rw [← z]; exact hc))]
      rw [e1]
      show PrAt _ M (_ ++ [(n, V.ref (if n = n then p2 else ta n))])
      rw [if_pos rfl]
      exact a3
    · rcases List.mem_append.mp hc with hc | hc
      · have ne : c ≠ n := fun z => np (by rw [← z]; exact hc)
        obtain ⟨f1, f2, f3⟩ := v2 c hc
        simp only [if_neg ne]
        exact ⟨f1, g3.keep _ _ f2 (by intro _ z; cases z) (kp _ _ f2), f3⟩
      · obtain rfl := List.mem_singleton.mp hc
        simp only [if_true]
        refine ⟨tm, ?_, inC⟩
        rw [upd_ne (ne_of (show upd H2 u (.tup [.str c, .ref p2]) p2 = some (.dK (tkf F)) by rw [upd_ne (ne_of_none e2 hu')]; exact e2) a1 (by intro z; cases z)), upd_ne (ne_of_none e2 hu')]
        exact e2
  · rintro H1 ⟨ta, Fa, v1, v2, g1⟩
    obtain ⟨as, s1, s2⟩ := v1.pairs (K := K)
    refine ⟨M, as, _, rfl, s1, s2, fun tb htb => ?_⟩
    rw [mergeK_S (by rw [List.map_map]; have : ((fun p : Str × V => p.1) ∘ fun c => (c, V.ref (ta c))) = id := rfl; rw [this, List.map_id]; exact W.wf.ndc)]
    have g0 : Go (TL K) (TG K) (fun _ => False) H H1 := g1.drop fun b z => .inr (by rw [z]; exact hM)
    have W2 := W.go0 (g0.trans (Go.new (o := .dK (kvS (cs.map fun c => (c, V.ref (ta c))))) htb))
    refine k tb ta Fa _ W2 ⟨?_, fun c hc => (v2 c hc).1, fun c hc => ?_, fun c hc => (v2 c hc).2.2⟩
    · rw [upd_same]
      unfold kvS
      rw [List.map_map] <;> rfl
    · rw [upd_ne (ne_of_none (v2 c hc).2.1 htb)]
      exact (v2 c hc).2.1
end
end K1
namespace K1
open PySem PySem.Spec PyProof.Rows L2 Fy
open GxR (TabG Tabbed)
def leIS (a b : Str × Int) : Bool := PySem.W.dataLe false (fun q : Str × Int => isD (q.2, q.1)) a b
theorem leIS_eq (a b : Str × Int) : leIS a b = !ltD (isD (b.2, b.1)) (isD (a.2, a.1)) := rfl
theorem leIS_of {a b : Str × Int} (h : ltP a b) : leIS a b = true := by
  rw [leIS_eq, ltD_isD]
  rcases h with h | ⟨h, h2⟩
  · rw [decide_eq_false (show ¬ b.2 < a.2 by omega), decide_eq_false (show ¬ b.2 = a.2 by omega)] <;> rfl
  · rw [decide_eq_false (show ¬ b.2 < a.2 by omega), decide_eq_true (show b.2 = a.2 from h.symm)]
    cases e : strLt b.1 a.1 with
    | false => rfl
    | true =>
      have := strLt_trans h2 e
      rw [strLt_irr] at this
      cases this
theorem leIS_anti {a b : Str × Int} (h : leIS a b = true) (h' : leIS b a = true) : a = b := by
  rw [leIS_eq, ltD_isD, Bool.not_eq_true', Bool.or_eq_false_iff, Bool.and_eq_false_iff] at h h'
  obtain ⟨h1, h2⟩ := h
  obtain ⟨h3, h4⟩ := h'
  have h1 : ¬ b.2 < a.2 := of_decide_eq_false h1
  have h3 : ¬ a.2 < b.2 := of_decide_eq_false h3
  have e : a.2 = b.2 := by omega
  have h2 : strLt b.1 a.1 = false := h2.resolve_left (by rw [decide_eq_true (show b.2 = a.2 from e.symm)]; decide)
  have h4 : strLt a.1 b.1 = false := h4.resolve_left (by rw [decide_eq_true (show a.2 = b.2 from e)]; decide)
  exact Prod.ext (strLt_tri h4 h2) e
theorem sort_times {R : Rs} {n : Str} {F F' : Fs} (h : Times R n F) (srt : F.Pairwise ltP) (h' : Times R n F') : sortIS F' = F := by
  have p : F'.Perm F := by
    have n1 : F.Nodup := (List.pairwise_map.mp h.nd).imp fun ne e => ne (by rw [e])
    have n2 : F'.Nodup := (List.pairwise_map.mp h'.nd).imp fun ne e => ne (by rw [e])
    refine (List.perm_ext_iff_of_nodup n2 n1).mpr fun a => ⟨fun z => ?_, fun z => ?_⟩
    · have := mem_lk h'.nd (show (a.1, a.2) ∈ F' from z)
      rw [← h.same h' a.1] at this
      exact lk_mem this
    · have := mem_lk h.nd (show (a.1, a.2) ∈ F from z)
      rw [h.same h' a.1] at this
      exact lk_mem this
  unfold sortIS
  have tl := PySem.W.sortLe_total (PyProof.Rows.listOrd PyProof.Rows.itemOrd) false fun q : Str × Int => PySem.W.keyToks (isD (q.2, q.1))
  refine ((List.mergeSort_perm _ _).trans p).eq_of_pairwise (fun a b _ _ z z' => leIS_anti z z') (List.pairwise_mergeSort tl.trans (fun a b => Bool.or_eq_true_iff.mpr (tl.total a b)) F') (srt.imp fun z => leIS_of z)
/-- a table's rows as data -/
def rowsD (F : Fs) : PyData := .list (F.map fun q => .tuple [.str q.1, .int q.2])
theorem shaped_rows (F : Fs) (h : ∀ q ∈ F, PyData.strOk q.1 = true) : SeqAt.shaped (rowsD F) = true := by
  have h1 : PyData.canLayAll0 (F.map fun q => PyData.tuple [.str q.1, .int q.2]) = true := by
    induction F with
    | nil => rfl
    | cons a t ih =>
      rw [List.map_cons, PyData.canLayAll0, ih fun q hq => h q (List.mem_cons_of_mem _ hq), PyData.canLay0, PyData.canLayAll0, PyData.canLay0, h a List.mem_cons_self, PyData.canLayAll0, PyData.canLay0, PyData.canLayAll0] <;> rfl
  have h2 : PyData.depthAll (F.map fun q => PyData.tuple [.str q.1, .int q.2]) ≤ 1 := by
    clear h h1
    induction F with
    | nil => exact Nat.zero_le _
    | cons a t ih =>
      rw [List.map_cons, PyData.depthAll, PyData.depth, PyData.depthAll, PyData.depth, PyData.depthAll, PyData.depth, PyData.depthAll]
      exact Nat.max_le.mpr ⟨by decide, ih⟩
  show (PyData.canLay0 (rowsD F) && decide (PyData.depth (rowsD F) ≤ 64)) = true
  unfold rowsD
  rw [Bool.and_eq_true]
  refine ⟨by rw [PyData.canLay0]; exact h1, decide_eq_true ?_⟩
  rw [PyData.depth]
  omega
theorem dp_rows {K : PySem.W.Frag} {H : Hp} : ∀ {ts : List Addr} {F : Fs}, Paired (fun t (q : Str × Int) => H t = some (.tup [.str q.1, .int q.2])) ts F → DpAll K H (ts.map V.ref) (F.map fun q => PyData.tuple [.str q.1, .int q.2])
  | _, _, .nil => .nil
  | _, _, .cons e t => .cons (.tup (SqT.of e) (.cons (.str _) (.cons (.int _) .nil))) (dp_rows t)
section
variable {P : Program} {w : World} {K : PySem.W.Frag} {mg : Str → Option Value} {base : Heap}
/-- if list(town.times(start).items()) != sorted(..): return False -/
theorem law_e0 (T : Txt K mg base) {A : Around} {outer : List Env} {s : Shared} {H0 : Hp} {E0 : XK} (hr : Room 9 (A.deeper (envOfC d_law.qual d_law.scope s.heap.objs.size (He.fAd K d_law.at_) (.ref (He.codeOf K d_law.at_))))) :
    ∃ t, PS (bodyX P w K mg base N_law d_law A outer s H0 E0) ((subS ((subS ((d_law.body).getD 0 noS)).getD 4 noS)).getD 0 noS) t ∧ ∀ (D : Ends) (H : Hp) (q p t1 c d o L tb : Addr) (cs : List Str) (R : Rs) (ta : Str → Addr) (Fa : Str → Fs) (st : Str) (x0 x2 x3 x6 x10 x11 x12 x13 x14 x15 x16 x17 x18 x19 x20 x21 x22 x23 x24 x25 : Option V), W1 K H q p t1 c d o L cs R → TbAt H tb R cs ta Fa → st ∈ cs →
      (∀ (H' : Hp), W1 K H' q p t1 c d o L cs R → TbAt H' tb R cs ta Fa → Go (TL K) (TG K) (fun _ => False) H H' → D.nx (Sg q t1 o L x0 x2 x3 (some (.ref tb)) (some (.str st)) x6 x10 x11 x12 x13 x14 x15 x16 x17 x18 x19 x20 x21 x22 x23 x24 x25) H') →
      t D (Sg q t1 o L x0 x2 x3 (some (.ref tb)) (some (.str st)) x6 x10 x11 x12 x13 x14 x15 x16 x17 x18 x19 x20 x21 x22 x23 x24 x25) H := by
  have hu := hu_of hr
  have p0 : ∃ t, PS (bodyX P w K mg base N_law d_law A outer s H0 E0) ((subS ((subS ((d_law.body).getD 0 noS)).getD 4 noS)).getD 0 noS) t ∧ t = _ := ⟨_, (ps_if (pt_cmpR (op_neD hr.units) (LiI.pe_listItems rfl (pg_meth (ok_Town_times T) (hr.mono (by decide)) T.cl_Town T.me_Town_times px (pv 8) (pa_cons (pv 5) pa_nil)) (by rfl) T.fr_list (by decide +kernel)) (pe_sortIK rfl hr T.tb_law rfl T.tm_law T.tu_law T.tn_law rfl rfl rfl rfl rfl (fun _ _ _ _ _ _ => rfl) rfl T.fr_sorted (by decide +kernel) (pe_dget hu (pv 4) (pv 5) (fun _ _ => rfl)) (fun _ _ _ => q_tupN (q_ix (q_var 0) q_int) (q_ix (q_var 0) q_int)) (fun H t q e => ⟨_, rfl, t, _, 1, .int q.2, rfl, rfl, .inr (SqT.of e), rfl, _, rfl, t, _, 0, .str q.1, rfl, rfl, .inr (SqT.of e), rfl, _, _, rfl, rfl, rfl⟩)) (nomark _)) (pss_one (ps_ret pe_bl)) pss_nil), rfl⟩
  obtain ⟨t0, p0, e0⟩ := p0
  refine ⟨t0, p0, fun D H q p t1 c d o L tb cs R ta Fa st x0 x2 x3 x6 x10 x11 x12 x13 x14 x15 x16 x17 x18 x19 x20 x21 x22 x23 x24 x25 W Tt hst k => ?_⟩
  rw [e0]
  clear e0 p0
  obtain ⟨⟨dx, h1⟩, h2, h3⟩ := id W.town
  walk_at "v"
  refine ⟨_, _, _, rfl, h1, rfl, ?_⟩
  walk_at "v"
  refine ⟨t1, c, d, cs, R, st, rfl, W.town, W.wf, W.tb, fun z => absurd hst z, fun _ F p1 H1 tm srt inC hp1 e1 g1 => ?_⟩
  refine ⟨p1, tkf F, rfl, e1, fun H2 l ts ext hl hts np l1 l2 => ?_⟩
  have g2 : Go (TL K) (TG K) (fun _ => False) H1 H2 := Go.ext ext fun c z => by
    cases e : H1 c with
    | none => rfl
    | some u => rw [ext c u e] at z; cases z
  have l2 := paired_of_map (F := fun t (q : Key × V) => H2 t = some (.tup [kV q.1, q.2])) F l2
  have T2 := Tt.go0 (g1.trans g2)
  walk_at "v"; walk_at "v"
  refine ⟨tb, _, rfl, T2.get hst, ?_⟩
  refine ⟨.inr (.inr (.inl ⟨rfl, .inl ⟨_, T2.at_ st hst⟩⟩)), ta st, _, rfl, rfl, T2.at_ st hst, fun vp hvp => ?_⟩
  have g3 : Go (TL K) (TG K) (fun _ => False) H2 (upd H2 vp (itemsO vp (ta st))) := Go.new hvp
  have W3 := W.go0 ((g1.trans g2).trans g3)
  have T3 := T2.go0 g3
  have l1' := g3.get l1
  have l2' := Paired.mapP l2 fun t (q : Str × Int) e => g3.get e
  have ev : upd H2 vp (itemsO vp (ta st)) vp = some (itemsO vp (ta st)) := upd_same
  generalize upd H2 vp (itemsO vp (ta st)) = H3 at W3 T3 l1' l2' ev g3 ⊢
  refine ⟨W3.tb, fun f c' H4 H5 g4 n4 hc4 e5 => ?_⟩
  subst e5
  have T4 := T3.go0 g4
  have ev4 : H4 vp = some (itemsO vp (ta st)) := g4.keep _ _ ev (by intro _ z; cases z) id
  refine ⟨vp, ta st, f, c', Fa st, rfl, rfl, (by rw [upd_ne (ne_of_none ev4 n4)]; exact ev4), (by rw [upd_ne (ne_of_none (T4.at_ st hst) n4)]; exact T4.at_ st hst), upd_same, (by rw [upd_ne (ne_of_none hc4 n4)]; exact hc4), fun H5 l5 ts2 ext5 hl5 hts5 e5 e6 => ?_⟩
  have g5 : Go (TL K) (TG K) (fun _ => False) H4 H5 := Go.ext (fun b u e => ext5 b u (by rw [upd_ne (ne_of_none e n4)]; exact e)) fun b z => by
    cases e : H4 b with
    | none => rfl
    | some u => rw [ext5 b u (by rw [upd_ne (ne_of_none e n4)]; exact e)] at z; cases z
  rw [sort_times (Tt.tm st hst |> fun _ => tm) srt (Tt.tm st hst)] at e6
  have g35 := g4.trans g5
  have l3 := g35.get l1'
  have l4 := Paired.mapP l2' fun t (q : Str × Int) e => g35.get e
  have sh := shaped_rows F fun q hq => (lt7_ok q.1 (W.sub _ (inC q.1 q.2 (mem_lk tm.nd hq)))).1
  refine ⟨rowsD F, rowsD F, .lst (SqL.of l3) (dp_rows l4), .lst (SqL.of e5) (dp_rows e6), sh, sh, ?_⟩
  rw [eqv_same sh]
  exact ⟨_, rfl, iteF (k H5 (W3.go0 g35) (T3.go0 g35) (((g1.trans g2).trans g3).trans g35))⟩
end
end K1
namespace K1
open PySem PySem.Spec PyProof.Rows L2 Fy
open GxR (TabG Tabbed)
section
variable {P : Program} {w : World} {K : PySem.W.Frag} {mg : Str → Option Value} {base : Heap}
/-- end = .. -/
theorem law_e1 (T : Txt K mg base) {A : Around} {outer : List Env} {s : Shared} {H0 : Hp} {E0 : XK} (hr : Room 9 (A.deeper (envOfC d_law.qual d_law.scope s.heap.objs.size (He.fAd K d_law.at_) (.ref (He.codeOf K d_law.at_))))) :
    ∃ t, PS (bodyX P w K mg base N_law d_law A outer s H0 E0) ((subS ((subS ((d_law.body).getD 0 noS)).getD 4 noS)).getD 1 noS) t ∧ ∀ (D : Ends) (H : Hp) (q p t1 c d o L tb : Addr) (cs : List Str) (R : Rs) (ta : Str → Addr) (Fa : Str → Fs) (x0 x2 x3 x4 x5 x6 x10 x11 x12 x13 x14 x15 x16 x17 x18 x19 x20 x21 x22 x23 x24 x25 : Option V), W1 K H q p t1 c d o L cs R → TbAt H tb R cs ta Fa →
      (∀ (en : Str) (H' : Hp), en ∈ cs → W1 K H' q p t1 c d o L cs R → TbAt H' tb R cs ta Fa → D.nx (Sg q t1 o L x0 x2 x3 x4 x5 x6 (some (.str en)) x11 x12 x13 x14 x15 x16 x17 x18 x19 x20 x21 x22 x23 x24 x25) H') →
      t D (Sg q t1 o L x0 x2 x3 x4 x5 x6 x10 x11 x12 x13 x14 x15 x16 x17 x18 x19 x20 x21 x22 x23 x24 x25) H := by
  have hu := hu_of hr
  refine ⟨_, (ps_set (i := 10) sc_law.nd rfl (by first | exact Or.inl rfl | exact Or.inr rfl) (pe_ix ix_list (pv 7) (pg_call (ok_law_roll T) (hr.mono (by decide)) rfl T.gl_law_roll px (pa_cons (pv 1) (pa_cons (pe_callB call_len (by rfl) T.fr_len (PySem.boot_len) (pa_cons (pv 7) pa_nil)) pa_nil))) (fun _ _ => rfl))), fun D H q p t1 c d o L tb cs R ta Fa x0 x2 x3 x4 x5 x6 x10 x11 x12 x13 x14 x15 x16 x17 x18 x19 x20 x21 x22 x23 x24 x25 W Tt k => ?_⟩
  have l7 := W.len7
  have lp : 0 < cs.length := List.length_pos_iff.mpr W.pos
  obtain ⟨Dc2, hq2⟩ := W.dice
  walk_at "v"; walk_at "v"; walk_at "v"
  refine ⟨_, cs.length, rfl, .inl ⟨_, SqL.of W.cor, (List.length_map ..).symm⟩, ?_⟩
  obtain ⟨i, hi, ei⟩ := roll_nat Dc2 cs.length (by omega)
  refine ⟨q, Dc2, _, rfl, hq2, (by omega), (by omega), ?_⟩
  rw [ei]
  have W5 := W.roll hq2 (rollD Dc2 (cs.length : Int))
  have T5 := Tt.go (TL := TL K) (TG := TG K) (S := fun a => a = q) (Go.set (o := .lst (dvals (rollD Dc2 (cs.length : Int)))) hq2 plain_lst rfl) fun b kvs e z => by rw [z, hq2] at e; cases e
  generalize upd H q (.lst (dvals (rollD Dc2 (cs.length : Int)))) = H4 at W5 T5 ⊢
  refine ⟨L, _, i, .str cs[i], rfl, rfl, SqL.of W5.cor, atI_nat (by rw [List.getElem?_map, List.getElem?_eq_getElem hi] <;> rfl), ?_⟩
  exact k _ _ (List.getElem_mem hi) W5 T5
/-- if town.minutes(..) != ..: return False -/
theorem law_e2 (T : Txt K mg base) {A : Around} {outer : List Env} {s : Shared} {H0 : Hp} {E0 : XK} (hr : Room 9 (A.deeper (envOfC d_law.qual d_law.scope s.heap.objs.size (He.fAd K d_law.at_) (.ref (He.codeOf K d_law.at_))))) :
    ∃ t, PS (bodyX P w K mg base N_law d_law A outer s H0 E0) ((subS ((subS ((d_law.body).getD 0 noS)).getD 4 noS)).getD 2 noS) t ∧ ∀ (D : Ends) (H : Hp) (q p t1 c d o L tb : Addr) (cs : List Str) (R : Rs) (ta : Str → Addr) (Fa : Str → Fs) (st en : Str) (x0 x2 x3 x6 x11 x12 x13 x14 x15 x16 x17 x18 x19 x20 x21 x22 x23 x24 x25 : Option V), W1 K H q p t1 c d o L cs R → TbAt H tb R cs ta Fa → st ∈ cs → en ∈ cs →
      (∀ (H' : Hp), W1 K H' q p t1 c d o L cs R → TbAt H' tb R cs ta Fa → D.nx (Sg q t1 o L x0 x2 x3 (some (.ref tb)) (some (.str st)) x6 (some (.str en)) x11 x12 x13 x14 x15 x16 x17 x18 x19 x20 x21 x22 x23 x24 x25) H') →
      t D (Sg q t1 o L x0 x2 x3 (some (.ref tb)) (some (.str st)) x6 (some (.str en)) x11 x12 x13 x14 x15 x16 x17 x18 x19 x20 x21 x22 x23 x24 x25) H := by
  have hu := hu_of hr
  refine ⟨_, (ps_if (pt_cmpR op_ne (pg_meth (ok_Town_minutes T) (hr.mono (by decide)) T.cl_Town T.me_Town_minutes px (pv 8) (pa_cons (pv 5) (pa_cons (pv 10) pa_nil))) (pe_dget1 hu (pe_dget hu (pv 4) (pv 5) (fun _ _ => rfl)) (pv 10) ⟨by rfl, by rfl, by rfl, by rfl⟩) (nomark _)) (pss_one (ps_ret pe_bl)) pss_nil), fun D H q p t1 c d o L tb cs R ta Fa st en x0 x2 x3 x6 x11 x12 x13 x14 x15 x16 x17 x18 x19 x20 x21 x22 x23 x24 x25 W Tt hst hen k => ?_⟩
  obtain ⟨⟨dx, h1⟩, h2, h3⟩ := id W.town
  walk_at "v"
  refine ⟨_, _, _, rfl, h1, rfl, ?_⟩
  walk_at "v"; walk_at "v"
  refine ⟨t1, c, d, cs, R, st, en, rfl, W.town, W.wf, W.tb, fun z => (z.elim (fun z => z hen) fun z => z hst).elim, fun _ _ H1 g1 => ?_⟩
  have T1 := Tt.go0 g1
  have fe : (Fa st).lookup en = far R st en := far_eq (Tt.tm st hst)
  have kk := k H1 (W.go0 g1) T1
  walk_at "v"; walk_at "v"
  refine ⟨tb, _, rfl, T1.get hst, ?_⟩
  refine ⟨ta st, rfl, .inl ⟨_, .inl (T1.at_ st hst)⟩, ?_⟩
  walk_at "v"
  refine ⟨_, get_tkf (T1.at_ st hst), ?_⟩
  rw [fe]
  cases far R st en with
  | none => exact ⟨rfl, _, rfl, iteF kk⟩
  | some x => exact ⟨rfl, _, rfl, ite2 (fun z => absurd z (by simp [oi])) fun _ => kk⟩
end
end K1
namespace K1
open PySem PySem.Spec PyProof.Rows L2 Fy
open GxR (TabG Tabbed)
/-- the next corners, as the law gathers them -/
noncomputable def goLaw (R : Rs) (cur b : Str) (p : (Str × Str) × Int) : Bool := decide (p.1.1 = cur) && (match far R p.1.2 b, far R cur b with | some y, some x => decide (p.2 + y = x) | _, _ => false)
noncomputable def nxG (R : Rs) (cur b : Str) (l : List Str) (p : (Str × Str) × Int) : List Str := if goLaw R cur b p = true then l ++ [p.1.2] else l
theorem nxG_fold {R : Rs} {cur b : Str} : ∀ (es : Rs) (l : List Str), es.foldl (nxG R cur b) l = l ++ (es.filter (goLaw R cur b)).map fun p => p.1.2
  | [], l => by simp
  | e :: es, l => by
    rw [List.foldl_cons, nxG_fold]
    unfold nxG
    by_cases h : goLaw R cur b e = true
    · rw [if_pos h, List.filter_cons_of_pos h]
      simp
    · rw [if_neg h, List.filter_cons_of_neg h]
theorem nxG_len {R : Rs} {cur b : Str} (es : Rs) : (es.foldl (nxG R cur b) []).length ≤ es.length := by
  rw [nxG_fold, List.nil_append, List.length_map]
  exact List.length_filter_le _ _
theorem nxG_all {cs : List Str} {R : Rs} (wf : WfT cs R) (cur b : Str) : R.foldl (nxG R cur b) [] = goodS R cur b := by
  rw [nxG_fold, List.nil_append]
  unfold goodS nextsS
  rw [List.filter_map, List.filter_filter]
  congr 1
  refine List.filter_congr fun p hp => ?_
  unfold goLaw
  by_cases h : p.1.1 = cur
  · have el : R.lookup (cur, p.1.2) = some p.2 := by rw [← h]; exact Rlook wf.nd hp
    simp only [Function.comp_apply, el, decide_eq_true h, Bool.true_and]
    cases far R p.1.2 b with
    | none => rfl
    | some y => cases far R cur b <;> simp
  · simp [decide_eq_false h]
theorem alike_strs (ns : List Str) : PySem.W.AlikeAll (ns.map PyData.str) := by
  refine ⟨fun x hx y hy => ?_, fun x hx => ?_⟩
  · obtain ⟨a, _, rfl⟩ := List.mem_map.mp hx
    obtain ⟨b, _, rfl⟩ := List.mem_map.mp hy
    rfl
  · obtain ⟨a, _, rfl⟩ := List.mem_map.mp hx
    exact fun z => by cases z
theorem depth_strs (ns : List Str) : PyData.depthAll (ns.map PyData.str) ≤ 40 := by
  induction ns with
  | nil => exact Nat.zero_le _
  | cons a t ih =>
    rw [List.map_cons, PyData.depthAll, PyData.depth]
    exact Nat.max_le.mpr ⟨Nat.zero_le _, ih⟩
theorem dv_ref {Dc : Dice} {a : Addr} : HO.lst (dvals Dc) ≠ .lst [.ref a] := fun z => by
  injection z with z
  exact absurd (congrArg List.length z) (by simp [dvals])
theorem W1.other {K : PySem.W.Frag} {H H' : Hp} {q p t c d o L wl : Addr} {cs : List Str} {R : Rs} {xs : List V} (W : W1 K H q p t c d o L cs R) (g : Go (TL K) (TG K) (fun a => a = wl) H H') (e : H wl = some (.lst xs)) (n1 : wl ≠ c) (n2 : wl ≠ L) (n3 : wl ≠ q) (n4 : wl ≠ p) : W1 K H' q p t c d o L cs R := by
  obtain ⟨⟨dx, h1⟩, h2, h3⟩ := id W.town
  obtain ⟨Dc, hq⟩ := W.dice
  exact ⟨W.town.go g (ne_of h1 e (by intro z; cases z)) n1.symm (ne_of h3 e (by intro z; cases z)), g.keep _ _ W.own (by intro _ z; cases z) (ne_of W.own e (by intro z; cases z)), g.keep _ _ W.cor (by intro _ z; cases z) n2.symm,
    ⟨Dc, g.keep _ _ hq (by intro _ z; cases z) n3.symm⟩, g.keep _ _ W.pl (by intro _ z; cases z) n4.symm, W.od, W.Lc, W.qc, W.qL, W.pc, W.pL, W.wf, W.sub, W.pos, g.tb W.tb⟩
section
variable {P : Program} {w : World} {K : PySem.W.Frag} {mg : Str → Option Value} {base : Heap}
/-- while end in tables[start] and ..: .. -/
theorem law_e4 (T : Txt K mg base) {A : Around} {outer : List Env} {s : Shared} {H0 : Hp} {E0 : XK} (hr : Room 9 (A.deeper (envOfC d_law.qual d_law.scope s.heap.objs.size (He.fAd K d_law.at_) (.ref (He.codeOf K d_law.at_))))) :
    ∃ t, PS (bodyX P w K mg base N_law d_law A outer s H0 E0) ((subS ((subS ((d_law.body).getD 0 noS)).getD 4 noS)).getD 4 noS) t ∧ ∀ (D : Ends) (H : Hp) (q p t1 c d o L tb wl : Addr) (cs : List Str) (R : Rs) (ta : Str → Addr) (Fa : Str → Fs) (st en : Str) (x0 x2 x3 x6 x12 x13 x14 x15 x16 x17 x18 x19 x20 x21 x22 x23 x24 x25 : Option V), W1 K H q p t1 c d o L cs R → TbAt H tb R cs ta Fa → st ∈ cs → en ∈ cs → H wl = some (.lst [.str st]) → wl ≠ c → wl ≠ L → wl ≠ q → wl ≠ p →
      (∀ (H' : Hp) (l : List Str) (x22 : Option V), W1 K H' q p t1 c d o L cs R → TbAt H' tb R cs ta Fa → H' wl = some (.lst (l.map V.str)) → l.length ≤ 1000 → ((∃ x, far R st en = some x) → Path R en st l) → D.nx (Sg q t1 o L x0 x2 x3 (some (.ref tb)) (some (.str st)) x6 (some (.str en)) (some (.ref wl)) x12 x13 x14 x15 x16 x17 x18 x19 x20 x21 x22 x23 x24 x25) H') →
      t D (Sg q t1 o L x0 x2 x3 (some (.ref tb)) (some (.str st)) x6 (some (.str en)) (some (.ref wl)) x12 x13 x14 x15 x16 x17 x18 x19 x20 x21 x22 x23 x24 x25) H := by
  have hu := hu_of hr
  refine ⟨_, (ps_while (passes_of rfl) (PW.pt (pw_and (pt_cmp (pc_din hu (pv 10) (pe_dget hu (pv 4) (pv 5) (fun _ _ => rfl)))) (pw_and1 (pt_cmpR op_ne (pe_ix ix_list (pv 11) (pe_op op_sub (pe_callB call_len (by rfl) T.fr_len (PySem.boot_len) (pa_cons (pv 11) pa_nil)) pe_int) (fun _ _ => rfl)) (pv 10) (nomark _))))) (pss_cons (ps_set (i := 22) sc_law.nd rfl (by first | exact Or.inl rfl | exact Or.inr rfl) (pe_ix ix_list (pv 11) (pe_op op_sub (pe_callB call_len (by rfl) T.fr_len (PySem.boot_len) (pa_cons (pv 11) pa_nil)) pe_int) (fun _ _ => rfl)))
        (pss_one (ps_expr (pe_bm PySem.F.plainAttrs_list PySem.F.slot_list_append PySem.F.type_list_append mt_append (pv 11) (pa_cons (pe_callB (cr_minD rfl (u65 hr)) (by rfl) T.fr_min (by decide +kernel) (pa_cons (pe_lock (pe_lc (own := [("one", 16), ("other", 17)]) (g := gTup K 2 (gCons (gName 16) (gCons (gName 17) gNil))) rfl sc_law.nd (pi_keys (pv 9)) (blkOk_by (own := [("one", 16), ("other", 17)]) (N := N_law) (sc := d_law.scope) (by decide +kernel)) (fun _ _ _ _ _ => (pg_tup rfl (pgs_cons (pg_name (i := 16) sc_law.nd rfl (by first | exact Or.inl rfl | exact Or.inr rfl)) (pgs_cons (pg_name (i := 17) sc_law.nd rfl (by first | exact Or.inl rfl | exact Or.inr rfl)) pgs_nil)))) (fun _ _ _ _ _ => pts_one (PW.pt (pw_and (pt_cmpR op_eq (pv 16) (pv 22) (nomark _)) (pw_and (pt_cmp (pc_din hu (pv 10) (pe_dget hu (pv 4) (pv 17) (fun _ _ => rfl)))) (pw_and1 (pt_cmpR op_eq (pe_op op_add (pe_dget hu (pv 9) (pe_tup (pa_cons (pv 16) (pa_cons (pv 17) pa_nil))) (fun _ _ => rfl)) (pe_dget hu (pe_dget hu (pv 4) (pv 17) (fun _ _ => rfl)) (pv 10) (fun _ _ => rfl))) (pe_dget hu (pe_dget hu (pv 4) (pv 22) (fun _ _ => rfl)) (pv 10) (fun _ _ => rfl)) (nomark _))))))) (fun _ _ _ _ _ => (pv 17)))) pa_nil)) pa_nil)))))), fun D H q p t1 c d o L tb wl cs R ta Fa st en x0 x2 x3 x6 x12 x13 x14 x15 x16 x17 x18 x19 x20 x21 x22 x23 x24 x25 W Tt hst hen ew n1 n2 n3 n4 k => ?_⟩
  have fe : (Fa st).lookup en = far R st en := far_eq (Tt.tm st hst)
  cases ef : far R st en with
  | none =>
    refine ⟨fun μ σ H' => H' = H ∧ σ = Sg q t1 o L x0 x2 x3 (some (.ref tb)) (some (.str st)) x6 (some (.str en)) (some (.ref wl)) x12 x13 x14 x15 x16 x17 x18 x19 x20 x21 x22 x23 x24 x25, ⟨0, rfl, rfl⟩, ?_⟩
    rintro μ σ H1 ⟨rfl, rfl⟩
    walk_at "v"; walk_at "v"; walk_at "v"
    refine ⟨tb, _, rfl, Tt.get hst, ?_⟩
    refine ⟨ta st, _, rfl, get_tkf (Tt.at_ st hst), _, rfl, ?_⟩
    rw [fe, ef]
    refine iteF (iteF ?_)
    exact k H1 [st] _ W Tt ew (by show 1 ≤ 1000; decide) fun z => by obtain ⟨x, z⟩ := z; rw [ef] at z; cases z
  | some x =>
    refine ⟨fun μ σ H' => ∃ (done : List Str) (cur : Str) (y : Int) (x22 : Option V), μ = y.toNat ∧ cur ∈ cs ∧ far R cur en = some y ∧ (∀ l, Path R en cur l → Path R en st (done ++ l)) ∧ H' wl = some (.lst ((done ++ [cur]).map V.str)) ∧ Go (TL K) (TG K) (fun a => a = wl) H H' ∧ done.Nodup ∧ (∀ u ∈ done, u ∈ cs ∧ ∃ z, far R u en = some z ∧ y < z) ∧
      σ = Sg q t1 o L x0 x2 x3 (some (.ref tb)) (some (.str st)) x6 (some (.str en)) (some (.ref wl)) x12 x13 x14 x15 x16 x17 x18 x19 x20 x21 x22 x23 x24 x25, ⟨_, [], st, x, _, rfl, hst, ef, fun _ h => h, ew, .refl, .nil, (fun _ h => by cases h), rfl⟩, ?_⟩
    rintro μ σ H1 ⟨done, cur, y, x22, rfl, hc, ec, pth, s1, g1, hd1, hd2, rfl⟩
    have W1' := W.other g1 ew n1 n2 n3 n4
    have T1 := Tt.go g1 fun b kvs e z => by rw [z, ew] at e; cases e
    have ld : done.length ≤ cs.length := nd_sub_len done cs hd1 fun u hu => (hd2 u hu).1
    have l7 := W.len7
    have len1 : LenV K (.ref wl) H1 (done.length + 1) := .inl ⟨_, SqL.of s1, by simp⟩
    have at1 : atI ((done ++ [cur]).map V.str) (((done.length + 1 : Nat) : Int) - 1) = some (.str cur) := by
      rw [show ((done.length + 1 : Nat) : Int) - 1 = ((done.length : Nat) : Int) by omega]
      exact atI_nat (by simp)
    walk_at "v"; walk_at "v"; walk_at "v"
    refine ⟨tb, _, rfl, T1.get hst, ?_⟩
    refine ⟨ta st, _, rfl, get_tkf (T1.at_ st hst), _, rfl, ?_⟩
    rw [fe, ef]
    refine iteT ?_
    walk_at "v"; walk_at "v"
    refine ⟨_, done.length + 1, rfl, len1, ?_⟩
    refine ⟨_, _, rfl, rfl, ?_⟩
    refine ⟨wl, _, _, .str cur, rfl, rfl, SqL.of s1, at1, ?_⟩
    walk_at "v"
    refine ⟨rfl, _, rfl, ?_⟩
    refine ite2 (fun z => ?_) (fun z => ?_)
    · have ne : cur ≠ en := by simpa using z
      refine ⟨_, fun σ' H' q => q, ?_⟩
      walk_at "v"; walk_at "v"
      refine ⟨_, done.length + 1, rfl, len1, ?_⟩
      refine ⟨_, _, rfl, rfl, ?_⟩
      refine ⟨wl, _, _, .str cur, rfl, rfl, SqL.of s1, at1, ?_⟩
      walk_at "v"
      refine ⟨.inl ⟨rfl, _, SqL.of s1⟩, ?_⟩
      have o1 := W1'.own
      refine ⟨o, _, o1, trivial, fun od => ?_⟩
      walk_at "v"
      have gl : Go (TL K) (TG K) (fun a => a = o) H1 (upd H1 o (.frz od (.dT (kvT R)))) := Go.set o1 plain_dT rfl
      have l1 : upd H1 o (.frz od (.dT (kvT R))) o = some (.frz od (.dT (kvT R))) := upd_same
      have unl : ∀ H', Go (TL K) (TG K) (fun _ => False) (upd H1 o (.frz od (.dT (kvT R)))) H' → Go (TL K) (TG K) (fun _ => False) H1 (upd H' o (.dT (kvT R))) := fun H' g => g.unlock o1 plain_dT (g.get l1)
      have Tl := T1.go gl fun b kvs e z => by rw [z, o1] at e; cases e
      generalize upd H1 o (.frz od (.dT (kvT R))) = Hl at gl l1 unl Tl ⊢
      refine ⟨o, od, rfl, .inr ⟨_, l1, fun M hM => ?_⟩⟩
      refine lc_foldT (fun e => (kT e.1, V.int e.2)) R rfl (nxG R cur en) [] (fun l H' => H' M = some (.lst (l.map V.str)) ∧ Go (TL K) (TG K) (fun x => x = M) Hl H') ⟨upd_same, Go.new hM⟩ (fun _ H' h => h.2.keep _ _ l1 (by intro _ z; cases z) (ne_of_none l1 hM)) ?_ ?_
      · rintro pre ⟨⟨one, other⟩, w⟩ post H4 r eb ⟨v1, g4⟩ er
        have inR : ((one, other), w) ∈ R := by rw [eb]; simp
        have re : R.lookup (one, other) = some w := Rlook W.wf.nd inR
        have oc : other ∈ cs := (W.wf.ends _ inR).2.1
        have er : H4 r = some (.tup [.str one, .str other]) := er
        have T4 := Tl.go g4 fun b kvs e z => (ne_of_none e hM) z
        have l4 := g4.keep _ _ l1 (by intro _ z; cases z) (ne_of_none l1 hM)
        have lpre : (pre.foldl (nxG R cur en) []).length < sizeLine := by
          have h1 := nxG_len (R := R) (cur := cur) (b := en) pre
          have h2 := congrArg List.length eb
          rw [List.length_append, List.length_cons] at h2
          have := W.wf.len
          exact Nat.lt_of_lt_of_le (show (pre.foldl (nxG R cur en) []).length < 10001 by omega) (by decide)
        generalize pre.foldl (nxG R cur en) [] = l at v1 lpre ⊢
        have no : goLaw R cur en ((one, other), w) = false → ∀ {H'}, Go (TL K) (TG K) (fun _ => False) H4 H' → H' M = some (.lst ((nxG R cur en l ((one, other), w)).map V.str)) ∧ Go (TL K) (TG K) (fun x => x = M) Hl H' := fun z {H'} g => by
          unfold nxG
          rw [if_neg (by rw [z]; decide)]
          exact ⟨g.get v1, g4.trans g.wide⟩
        refine ⟨r, _, rfl, SqT.of er, rfl, _, _, rfl, _, _, rfl, rfl, ?_⟩
        refine ⟨rfl, ?_⟩
        walk_at "v"; walk_at "v"
        refine ⟨rfl, _, rfl, ite2 (fun z1 => ?_) (fun z1 => iteF' rfl (no (by unfold goLaw; rw [decide_eq_false (fun y => z1 (decide_eq_true (by rw [show one = cur from y])))] <;> rfl) .refl))⟩
        have e1 : one = cur := by simpa using z1
        walk_at "v"; walk_at "v"; walk_at "v"
        refine ⟨tb, _, rfl, T4.get oc, ?_⟩
        have fo : (Fa other).lookup en = far R other en := far_eq (T4.tm other oc)
        refine ⟨ta other, _, rfl, get_tkf (T4.at_ other oc), _, rfl, ?_⟩
        rw [fo]
        cases eo : far R other en with
        | none => exact iteF' rfl (iteF' rfl (no (by unfold goLaw; simp [eo]) .refl))
        | some y0 =>
          refine iteT' rfl ?_
          walk_at "v"; walk_at "v"; walk_at "v"
          refine ⟨(by show 2 ≤ sizeLine; decide), fun y3 hy3 => ?_⟩
          have g5 : Go (TL K) (TG K) (fun _ => False) H4 (upd H4 y3 (.tup [.str one, .str other])) := Go.new hy3
          have l5 : upd H4 y3 (.tup [.str one, .str other]) o = some (.frz od (.dT (kvT R))) := g5.keep _ _ l4 (by intro _ z; cases z) id
          have T5 := T4.go0 g5
          refine ⟨o, .int w, rfl, .inr ⟨kvT R, kT (one, other), y3, .inr ⟨od, l5⟩, rfl, upd_same, (by rw [val_kvT, re] <;> rfl)⟩, ?_⟩
          generalize upd H4 y3 (.tup [.str one, .str other]) = H5 at g5 l5 T5 ⊢
          have getT : ∀ {v : Str} {z : Int}, v ∈ cs → far R v en = some z → DGet H5 (ta v) (.str en) (some (.int z)) := fun {v z} hv e => by
            have := get_tkf (n := en) (T5.at_ v hv)
            rw [far_eq (T5.tm v hv), e] at this
            exact this
          walk_at "v"; walk_at "v"
          refine ⟨tb, _, rfl, T5.get oc, ?_⟩
          walk_at "v"
          refine ⟨ta other, _, rfl, getT oc eo, ?_⟩
          refine ⟨_, _, rfl, rfl, ?_⟩
          walk_at "v"; walk_at "v"
          refine ⟨tb, _, rfl, T5.get hc, ?_⟩
          walk_at "v"
          refine ⟨ta cur, _, rfl, getT hc ec, ?_⟩
          refine ⟨rfl, _, rfl, ite2 (fun z => ?_) (fun z => no ?_ g5)⟩
          · have ey : w + y0 = y := by simpa using z
            have gt : goLaw R cur en ((one, other), w) = true := by
              unfold goLaw
              rw [decide_eq_true e1]
              simp only [eo, ec]
              simp [ey]
            have v5 := g5.get v1
            walk_at "v"
            refine ⟨_, v5, (by rw [List.length_map]; exact lpre), ?_, (g4.trans g5.wide).trans (Go.set v5 plain_lst rfl)⟩
            unfold nxG
            rw [if_pos gt, upd_same, List.map_append] <;> rfl
          · have ey : ¬ w + y0 = y := by simpa using z
            unfold goLaw
            simp only [eo, ec]
            simp [ey]
      · rintro H4 ⟨v1, g4⟩
        rw [nxG_all W.wf] at v1
        have g4' : Go (TL K) (TG K) (fun _ => False) Hl H4 := g4.drop fun b z => .inr (by rw [z]; exact hM)
        refine ⟨g4'.get l1, ?_⟩
        have g5 := unl H4 g4'
        have nMo : M ≠ o := (ne_of_none l1 hM).symm
        have v5 : upd H4 o (.dT (kvT R)) M = some (.lst ((goodS R cur en).map V.str)) := by rw [upd_ne nMo]; exact v1
        generalize upd H4 o (.dT (kvT R)) = H5 at g5 v5 ⊢
        have gne := goodS_ne W.wf hc ec ne
        refine ⟨M, _, (goodS R cur en).map PyData.str, rfl, SqL.of v5, dp_strs _, alike_strs _, depth_strs _, (by simpa using gne), fun j x' dd ex ed least => ?_⟩
        rw [List.getElem?_map] at ex ed
        obtain ⟨best, eb1, rfl⟩ := Option.map_eq_some_iff.mp ex
        obtain ⟨best', eb2, rfl⟩ := Option.map_eq_some_iff.mp ed
        obtain rfl : best = best' := Option.some.inj (eb1.symm.trans eb2)
        have hb := List.mem_of_getElem? eb1
        have lst : ∀ u ∈ goodS R cur en, strLt u best = false := fun u hu => least _ (List.mem_map.mpr ⟨u, hu, rfl⟩)
        obtain ⟨m', y', hm', hbc, hy', hx'⟩ := goodS_mem W.wf hb
        rw [ec] at hx'
        have ey : y = m' + y' := Option.some.inj hx'
        have p1 := W.wf.pos _ _ hm'
        have p2 := far_nonneg W.wf hbc hy'
        have s5 := g5.get s1
        refine ⟨wl, _, _, rfl, rfl, s5, (by rw [List.length_map, List.length_append]; exact thou_lt (show done.length + 1 < 1000 by omega)), ?_⟩
        refine ⟨y'.toNat, by omega, done ++ [cur], best, y', _, rfl, hbc, hy', fun l hl => ?_, ?_, (g1.trans g5.wide).trans (Go.set s5 plain_lst rfl), ?_, fun u hu => ?_, rfl⟩
        · rw [List.append_assoc]
          exact pth _ (.go ne hb lst hl)
        · rw [upd_same, List.map_append (l₁ := done ++ [cur])] <;> rfl
        · rw [List.nodup_append]
          refine ⟨hd1, by simp, fun u hu v hv z => ?_⟩
          have zv : u = cur := z.trans (List.mem_singleton.mp hv)
          obtain ⟨_, zz, ez, lz⟩ := hd2 u hu
          rw [zv, ec] at ez
          cases ez
          omega
        · rcases List.mem_append.mp hu with hu | hu
          · obtain ⟨h1, zz, ez, lz⟩ := hd2 u hu
            exact ⟨h1, zz, ez, by omega⟩
          · rw [List.mem_singleton.mp hu]
            exact ⟨hc, y, ec, by omega⟩
    · have eb : cur = en := by simpa using z
      subst eb
      exact k H1 (done ++ [cur]) _ W1' T1 s1 (by rw [List.length_append]; show done.length + 1 ≤ 1000; omega) fun _ => pth _ .stop
end
end K1
namespace K1
open PySem PySem.Spec PyProof.Rows L2 Fy
open GxR (TabG Tabbed)
theorem shaped_tstrs (ns : List Str) (h : ∀ n ∈ ns, PyData.strOk n = true) : SeqAt.shaped (.tuple (ns.map PyData.str)) = true := by
  have := shaped_strs ns h
  exact this
theorem path_in {cs : List Str} {R : Rs} {e a : Str} {l : List Str} (wf : WfT cs R) (he : e ∈ cs) (h : Path R e a l) : a ∈ cs → ∀ n ∈ l, n ∈ cs := by
  induction h with
  | stop => exact fun ha n hn => by rw [List.mem_singleton.mp hn]; exact ha
  | go _ m _ _ ih =>
    intro ha n hn
    obtain ⟨_, _, _, hb, _, _⟩ := goodS_mem wf m
    rcases List.mem_cons.mp hn with z | z
    · rw [z]; exact ha
    · exact ih hb n z
section
variable {P : Program} {w : World} {K : PySem.W.Frag} {mg : Str → Option Value} {base : Heap}
/-- if told(lambda: town.way(start, end)) != ..: return False -/
theorem law_e5 (T : Txt K mg base) {A : Around} {outer : List Env} {s : Shared} {H0 : Hp} {E0 : XK} (hr : Room 9 (A.deeper (envOfC d_law.qual d_law.scope s.heap.objs.size (He.fAd K d_law.at_) (.ref (He.codeOf K d_law.at_))))) :
    ∃ t, PS (bodyX P w K mg base N_law d_law A outer s H0 E0) ((subS ((subS ((d_law.body).getD 0 noS)).getD 4 noS)).getD 5 noS) t ∧ ∀ (D : Ends) (H : Hp) (q p t1 c d o L tb wl : Addr) (cs : List Str) (R : Rs) (ta : Str → Addr) (Fa : Str → Fs) (st en : Str) (l : List Str) (x0 x2 x3 x6 x12 x13 x14 x15 x16 x17 x18 x19 x20 x21 x22 x23 x24 x25 : Option V), W1 K H q p t1 c d o L cs R → TbAt H tb R cs ta Fa → st ∈ cs → en ∈ cs → H wl = some (.lst (l.map V.str)) → l.length ≤ 1000 → ((∃ x, far R st en = some x) → Path R en st l) →
      (∀ (H' : Hp), W1 K H' q p t1 c d o L cs R → TbAt H' tb R cs ta Fa → D.nx (Sg q t1 o L x0 x2 x3 (some (.ref tb)) (some (.str st)) x6 (some (.str en)) (some (.ref wl)) x12 x13 x14 x15 x16 x17 x18 x19 x20 x21 x22 x23 x24 x25) H') →
      t D (Sg q t1 o L x0 x2 x3 (some (.ref tb)) (some (.str st)) x6 (some (.str en)) (some (.ref wl)) x12 x13 x14 x15 x16 x17 x18 x19 x20 x21 x22 x23 x24 x25) H := by
  have hu := hu_of hr
  refine ⟨_, (ps_if (pt_cmpR (op_neD hr.units) (told_law T hr (LamX.lamS_by (by decide +kernel)) rfl (fun _ _ _ _ _ => rfl) (fun A outer s H E f c' hr2 => (pg_meth (ok_Town_way T) (hr2.mono (by decide)) T.cl_Town T.me_Town_way pxl (pv 8) (pa_cons (pv 5) (pa_cons (pv 10) pa_nil))))) (pe_ifExp (pt_cmp (pc_din hu (pv 10) (pe_dget hu (pv 4) (pv 5) (fun _ _ => rfl)))) (pe_callTy call_tuple_of (by rfl) T.fr_tuple (by decide +kernel) (pa_cons (pv 11) pa_nil)) pe_str) (nomark _)) (pss_one (ps_ret pe_bl)) pss_nil), fun D H q p t1 c d o L tb wl cs R ta Fa st en l x0 x2 x3 x6 x12 x13 x14 x15 x16 x17 x18 x19 x20 x21 x22 x23 x24 x25 W Tt hst hen ew ll pth k => ?_⟩
  refine ⟨W.tb, fun H1 g1 => ?_⟩
  have Wa := W.go0 g1
  obtain ⟨⟨dx, h1⟩, h2, h3⟩ := id Wa.town
  walk_at "v"
  refine ⟨_, _, _, rfl, h1, rfl, ?_⟩
  walk_at "v"; walk_at "v"
  have fe : (Fa st).lookup en = far R st en := far_eq (Tt.tm st hst)
  refine ⟨t1, c, d, cs, R, st, en, rfl, Wa.town, W.wf, Wa.tb, fun z H2 g2 => ?_, fun z l2 p2 H2 pth2 hp2 ep2 g2 => ?_⟩
  · refine ⟨true, T.em_StreetError_StreetError, fun _ => ?_, fun z => by cases z⟩
    have T2 := Tt.go0 (g1.trans g2)
    walk_at "v"; walk_at "v"; walk_at "v"
    refine ⟨tb, _, rfl, T2.get hst, ?_⟩
    refine ⟨ta st, _, rfl, get_tkf (T2.at_ st hst), _, rfl, ?_⟩
    rw [fe]
    cases ef : far R st en with
    | some x => exact absurd ⟨hst, hen, x, ef⟩ z
    | none =>
      refine iteF ?_
      have se : SeqAt.shaped (PyData.str "StreetError") = true := by decide +kernel
      refine ⟨.str "StreetError", .str "StreetError", .str _, .str _, se, se, ?_⟩
      rw [eqv_same se]
      exact ⟨_, rfl, iteF (k H2 (Wa.go0 g2) T2)⟩
  · obtain ⟨_, _, x, ef⟩ := z
    have el := Path.one (pth ⟨x, ef⟩) pth2
    subst el
    have T2 := Tt.go0 (g1.trans g2)
    walk_at "v"; walk_at "v"; walk_at "v"
    refine ⟨tb, _, rfl, T2.get hst, ?_⟩
    refine ⟨ta st, _, rfl, get_tkf (T2.at_ st hst), _, rfl, ?_⟩
    rw [fe, ef]
    refine iteT ?_
    walk_at "v"
    have ew2 := (g1.trans g2).get ew
    refine ⟨wl, _, rfl, .inl ⟨SqL.of ew2, fun t2 ht2 => ?_⟩⟩
    have g3 : Go (TL K) (TG K) (fun _ => False) H2 (upd H2 t2 (.tup (l.map V.str))) := Go.new ht2
    have sh := shaped_tstrs l fun n hn => (lt7_ok n (W.sub n (path_in W.wf hen pth2 hst n hn))).1
    refine ⟨.tuple (l.map PyData.str), .tuple (l.map PyData.str), .tup (SqT.of (by rw [upd_ne (ne_of_none ep2 ht2)]; exact ep2)) (dp_strs l), .tup (SqT.of upd_same) (dp_strs l), sh, sh, ?_⟩
    rw [eqv_same sh]
    exact ⟨_, rfl, iteF (k _ (Wa.go0 (g2.trans g3)) (T2.go0 g3))⟩
end
end K1
namespace K1
open PySem PySem.Spec PyProof.Rows L2 Fy
open GxR (TabG Tabbed)
section
variable {P : Program} {w : World} {K : PySem.W.Frag} {mg : Str → Option Value} {base : Heap}
/-- for start in corners -/
theorem law_starts (T : Txt K mg base) {A : Around} {outer : List Env} {s : Shared} {H0 : Hp} {E0 : XK} (hr : Room 9 (A.deeper (envOfC d_law.qual d_law.scope s.heap.objs.size (He.fAd K d_law.at_) (.ref (He.codeOf K d_law.at_))))) :
    ∃ t, PS (bodyX P w K mg base N_law d_law A outer s H0 E0) ((subS ((d_law.body).getD 0 noS)).getD 4 noS) t ∧ ∀ (D : Ends) (H : Hp) (q p t1 c d o L tb : Addr) (cs : List Str) (R : Rs) (ta : Str → Addr) (Fa : Str → Fs) (x0 x2 x3 x5 x6 x10 x11 x12 x13 x14 x15 x16 x17 x18 x19 x20 x21 x22 x23 x24 x25 : Option V), W1 K H q p t1 c d o L cs R → TbAt H tb R cs ta Fa →
      (∀ (H' : Hp) (x5 x10 x11 x22 : Option V), W1 K H' q p t1 c d o L cs R → TbAt H' tb R cs ta Fa → D.nx (Sg q t1 o L x0 x2 x3 (some (.ref tb)) x5 x6 x10 x11 x12 x13 x14 x15 x16 x17 x18 x19 x20 x21 x22 x23 x24 x25) H') →
      t D (Sg q t1 o L x0 x2 x3 (some (.ref tb)) x5 x6 x10 x11 x12 x13 x14 x15 x16 x17 x18 x19 x20 x21 x22 x23 x24 x25) H := by
  have hu := hu_of hr
  obtain ⟨t0, p0, r0⟩ := law_e0 (P := P) (w := w) (E0 := E0) (H0 := H0) T hr
  obtain ⟨t1', p1, r1⟩ := law_e1 (P := P) (w := w) (E0 := E0) (H0 := H0) T hr
  obtain ⟨t2, p2, r2⟩ := law_e2 (P := P) (w := w) (E0 := E0) (H0 := H0) T hr
  obtain ⟨t4, p4, r4⟩ := law_e4 (P := P) (w := w) (E0 := E0) (H0 := H0) T hr
  obtain ⟨t5, p5, r5⟩ := law_e5 (P := P) (w := w) (E0 := E0) (H0 := H0) T hr
  refine ⟨_, (ps_for (passes_of rfl) rfl (pi_list (pv 7)) (pg_name (i := 5) sc_law.nd rfl (by first | exact Or.inl rfl | exact Or.inr rfl)) (pss_cons p0
        (pss_cons p1
        (pss_cons p2
        (pss_cons (ps_set (i := 11) sc_law.nd rfl (by first | exact Or.inl rfl | exact Or.inr rfl) (pe_lst (pa_cons (pv 5) pa_nil)))
        (pss_cons p4
        (pss_one p5))))))), fun D H q p t1 c d o L tb cs R ta Fa x0 x2 x3 x5 x6 x10 x11 x12 x13 x14 x15 x16 x17 x18 x19 x20 x21 x22 x23 x24 x25 W Tt k => ?_⟩
  walk_at "v"
  refine ⟨L, rfl, ⟨_, SqL.of W.cor⟩, for_fold V.str cs rfl walk_itl (fun _ _ => ()) () (fun _ σ H' => W1 K H' q p t1 c d o L cs R ∧ TbAt H' tb R cs ta Fa ∧ ∃ (x5 x10 x11 x22 : Option V), σ = Sg q t1 o L x0 x2 x3 (some (.ref tb)) x5 x6 x10 x11 x12 x13 x14 x15 x16 x17 x18 x19 x20 x21 x22 x23 x24 x25)
    ⟨W, Tt, _, _, _, _, rfl⟩ (fun _ σ H' h => SqL.of h.1.cor) ?_ ?_⟩
  · rintro pre st post σ H1 eb ⟨W2, T2, x5, x10, x11, x22, rfl⟩
    have hst : st ∈ cs := by rw [eb]; simp
    refine r0 _ H1 q p t1 c d o L tb cs R ta Fa st _ _ _ _ _ _ _ _ _ _ _ _ _ _ _ _ _ _ _ _ W2 T2 hst fun H2 W3 T3 _ => ?_
    refine r1 _ H2 q p t1 c d o L tb cs R ta Fa _ _ _ _ _ _ _ _ _ _ _ _ _ _ _ _ _ _ _ _ _ _ W3 T3 fun en H3 hen W4 T4 => ?_
    refine r2 _ H3 q p t1 c d o L tb cs R ta Fa st en _ _ _ _ _ _ _ _ _ _ _ _ _ _ _ _ _ _ _ W4 T4 hst hen fun H4 W5 T5 => ?_
    walk_at "v"
    refine ⟨(by show 1 ≤ sizeLine; decide), fun wl hwl => ?_⟩
    have g5 : Go (TL K) (TG K) (fun _ => False) H4 (upd H4 wl (.lst [.str st])) := Go.new hwl
    have W6 := W5.go0 g5
    have T6 := T5.go0 g5
    have n1 : wl ≠ c := (ne_of_none W5.town.cr hwl).symm
    have n2 : wl ≠ L := (ne_of_none W5.cor hwl).symm
    have n3 : wl ≠ q := by
      obtain ⟨_, e⟩ := W5.dice
      exact (ne_of_none e hwl).symm
    have n4 : wl ≠ p := (ne_of_none W5.pl hwl).symm
    have ew : upd H4 wl (.lst [.str st]) wl = some (.lst [.str st]) := upd_same
    generalize upd H4 wl (.lst [.str st]) = H5 at W6 T6 ew ⊢
    refine r4 _ H5 q p t1 c d o L tb wl cs R ta Fa st en _ _ _ _ _ _ _ _ _ _ _ _ _ _ _ _ _ _ W6 T6 hst hen ew n1 n2 n3 n4 fun H6 l y22 W7 T7 e7 l7 pth => ?_
    refine r5 _ H6 q p t1 c d o L tb wl cs R ta Fa st en l _ _ _ _ _ _ _ _ _ _ _ _ _ _ _ _ _ _ W7 T7 hst hen e7 l7 pth fun H7 W8 T8 => ?_
    exact ⟨W8, T8, _, _, _, _, rfl⟩
  · rintro σ H1 ⟨W2, T2, x5, x10, x11, x22, rfl⟩
    exact k H1 _ _ _ _ W2 T2
end
end K1
namespace K1
open PySem PySem.Spec PyProof.Rows L2 Fy
open GxR (TabG Tabbed)
def row3D (c : Nat) (l : List Nat) (ns : List Str) : PyData := .tuple [.int c, .tuple (l.map fun (p : Nat) => PyData.int (p : Int)), .list (ns.map PyData.str)]
theorem eqv_ints : ∀ (a b : List Nat), PyData.eqvAll (a.map fun (p : Nat) => PyData.int (p : Int)) (b.map fun (p : Nat) => PyData.int (p : Int)) = decide (a = b)
  | [], [] => by rw [List.map_nil, PyData.eqvAll] <;> rfl
  | [], y :: t => by rw [List.map_nil, List.map_cons, PyData.eqvAll] <;> simp
  | x :: t, [] => by rw [List.map_nil, List.map_cons, PyData.eqvAll] <;> simp
  | x :: t, y :: u => by
    rw [List.map_cons, List.map_cons, PyData.eqvAll, PyData.eqv, eqv_ints t u]
    by_cases h : x = y
    · by_cases h2 : t = u
      · simp [h, h2]
      · simp [h, h2]
    · have : ¬ (x : Int) = (y : Int) := by omega
      simp [h, this]
theorem row3_lt {c c' : Nat} {l l' : List Nat} {ns ns' : List Str} (h : l ≠ l') : ltD (row3D c l ns) (row3D c' l' ns') = ltD (rowD c l) (rowD c' l') := by
  show PyProof.Rows.lexLt PyProof.Rows.itemOrd (PySem.W.keyToks (row3D c l ns)) (PySem.W.keyToks (row3D c' l' ns')) = PyProof.Rows.lexLt PyProof.Rows.itemOrd (PySem.W.keyToks (rowD c l)) (PySem.W.keyToks (rowD c' l'))
  unfold row3D rowD
  rw [PySem.W.keyToks, PySem.W.keyToks, PySem.W.keyToks, PySem.W.keyToks]
  have ai : PySem.W.alike (.int (c : Int)) (.int (c' : Int)) = true := by rw [PySem.W.alike]
  have at_ : PySem.W.alike (.tuple (l.map fun (p : Nat) => PyData.int (p : Int))) (.tuple (l'.map fun (p : Nat) => PyData.int (p : Int))) = true := by rw [PySem.W.alike]; exact alike_ints l l'
  have ef : PyData.eqv (.tuple (l.map fun (p : Nat) => PyData.int (p : Int))) (.tuple (l'.map fun (p : Nat) => PyData.int (p : Int))) = false := by rw [PyData.eqv, eqv_ints]; exact decide_eq_false h
  rw [PySem.W.dataLt_cons ai, PySem.W.dataLt_cons ai, PySem.W.dataLt_cons at_, PySem.W.dataLt_cons at_, ef] <;> rfl
theorem row3_same {c c' : Nat} {l l' : List Nat} {ns ns' : List Str} (h : row3D c l ns = row3D c' l' ns') : l = l' := by
  unfold row3D at h
  injection h with h
  injection h with _ h
  injection h with h _
  injection h with h
  have e := eqv_ints l l'
  rw [h, eqv_ints] at e
  exact of_decide_eq_true (by rw [← e]; exact decide_eq_true rfl)
theorem alikeAll_strs : ∀ (a b : List Str), PySem.W.alikeAll (a.map PyData.str) (b.map PyData.str) = true
  | [], _ => by rw [List.map_nil, PySem.W.alikeAll]
  | _ :: _, [] => by rw [List.map_cons, List.map_nil, PySem.W.alikeAll]
  | a :: t, b :: u => by rw [List.map_cons, List.map_cons, PySem.W.alikeAll, PySem.W.alike, alikeAll_strs t u] <;> rfl
theorem alike_row3 (c c' : Nat) (l l' : List Nat) (ns ns' : List Str) : PySem.W.alike (row3D c l ns) (row3D c' l' ns') = true := by
  unfold row3D
  rw [PySem.W.alike, PySem.W.alikeAll, PySem.W.alike, PySem.W.alikeAll, PySem.W.alike, alike_ints, PySem.W.alikeAll, PySem.W.alike, alikeAll_strs, PySem.W.alikeAll] <;> rfl
theorem depth_row3 (c : Nat) (l : List Nat) (ns : List Str) : (row3D c l ns).depth ≤ 3 := by
  have h : PyData.depthAll (ns.map PyData.str) ≤ 1 := by
    induction ns with
    | nil => exact Nat.zero_le _
    | cons a t ih =>
      rw [List.map_cons, PyData.depthAll, PyData.depth]
      exact Nat.max_le.mpr ⟨Nat.zero_le _, ih⟩
  unfold row3D
  rw [PyData.depth, PyData.depthAll, PyData.depthAll, PyData.depthAll, PyData.depth, PyData.depth, PyData.depth, depth_ints, PyData.depthAll]
  have : max 0 (max (0 + 1) (max (PyData.depthAll (ns.map PyData.str) + 1) 0)) ≤ 2 := Nat.max_le.mpr ⟨by decide, Nat.max_le.mpr ⟨by decide, Nat.max_le.mpr ⟨by omega, by decide⟩⟩⟩
  omega
/-- the ways so far -/
noncomputable def farL (R : Rs) (cs : List Str) (most : Int) (l : List Nat) : List Str := farS R cs (nmS cs l) most
def WayAt (H : Hp) (R : Rs) (cs : List Str) (most : Int) (a : Addr) (l : List Nat) : Prop := ∃ b f, H a = some (.tup [.int (farN R cs most l : Int), .ref b, .ref f]) ∧ H b = some (tupN l) ∧ H f = some (.lst ((farL R cs most l).map V.str))
def WaysAt (H : Hp) (wl : Addr) (R : Rs) (cs : List Str) (most : Int) (ls : List (List Nat)) : Prop := ∃ as : List Addr, H wl = some (.lst (as.map V.ref)) ∧ Paired (WayAt H R cs most) as ls
theorem WayAt.keep {H H' : Hp} {R : Rs} {cs : List Str} {most : Int} {a : Addr} {l : List Nat} (h : WayAt H R cs most a l) (k : ∀ b o, H b = some o → (∃ xs, o = .tup xs) ∨ o = .lst ((farL R cs most l).map V.str) → H' b = some o) : WayAt H' R cs most a l := by
  obtain ⟨b, f, h1, h2, h3⟩ := h
  exact ⟨b, f, k _ _ h1 (.inl ⟨_, rfl⟩), k _ _ h2 (.inl ⟨_, rfl⟩), k _ _ h3 (.inr rfl)⟩
theorem WaysAt.go0 {TL : List (Addr × Str)} {TG : List Addr} {H H' : Hp} {wl : Addr} {R : Rs} {cs : List Str} {most : Int} {ls : List (List Nat)} (h : WaysAt H wl R cs most ls) (g : Go TL TG (fun _ => False) H H') : WaysAt H' wl R cs most ls := by
  obtain ⟨as, h1, h2⟩ := h
  exact ⟨as, g.get h1, Paired.mapP h2 fun a l e => e.keep fun b o e z => g.keep _ _ e (by rcases z with ⟨_, rfl⟩ | rfl <;> (intro _ z; cases z)) id⟩
end K1
namespace K1
open PySem PySem.Spec PyProof.Rows L2 Fy
open GxR (TabG Tabbed)
noncomputable def nearP (R : Rs) (cs : List Str) (most : Int) (n : Str) (q : Nat) : Bool := match far R (cs.getD q "") n with | some x => decide (x ≤ most) | none => false
theorem nearP_all {R : Rs} {cs : List Str} {most : Int} {n : Str} {l : List Nat} : decide (l.filter (nearP R cs most n) = []) = !nearQ R (nmS cs l) most n := by
  have e : nearQ R (nmS cs l) most n = l.any (nearP R cs most n) := by
    unfold nearQ nmS
    rw [List.any_map]
    rfl
  rw [e]
  cases h : l.any (nearP R cs most n) with
  | true =>
    obtain ⟨q, h1, h2⟩ := List.any_eq_true.mp h
    refine decide_eq_false fun z => ?_
    have := List.mem_filter.mpr ⟨h1, h2⟩
    rw [z] at this
    cases this
  | false =>
    refine decide_eq_true (List.filter_eq_nil_iff.mpr fun q hq z => ?_)
    rw [List.any_eq_false] at h
    exact h q hq z
section
variable {P : Program} {w : World} {K : PySem.W.Frag} {mg : Str → Option Value} {base : Heap}
theorem ok_law_sets (T : Txt K mg base) : Good P w K mg base 8 (He.fAd K d_law_sets.at_) ["many", "size", "first"] [] (sp_law_setsU K 7) := ok_law_sets_n T 7
/-- many, most, ways = .. -/
theorem law_f (T : Txt K mg base) {A : Around} {outer : List Env} {s : Shared} {H0 : Hp} {E0 : XK} (hr : Room 9 (A.deeper (envOfC d_law.qual d_law.scope s.heap.objs.size (He.fAd K d_law.at_) (.ref (He.codeOf K d_law.at_))))) :
    ∃ t, PS (bodyX P w K mg base N_law d_law A outer s H0 E0) ((subS ((d_law.body).getD 0 noS)).getD 5 noS) t ∧ ∀ (D : Ends) (H : Hp) (q p t1 c d o L tb : Addr) (cs : List Str) (R : Rs) (ta : Str → Addr) (Fa : Str → Fs) (x0 x2 x3 x4 x5 x6 x10 x11 x12 x13 x14 x15 x16 x17 x18 x19 x20 x21 x22 x23 x24 x25 : Option V), W1 K H q p t1 c d o L cs R → TbAt H tb R cs ta Fa →
      (∀ (kk : Nat) (most : Int) (wl : Addr) (H1 H' : Hp), 1 ≤ kk → kk ≤ cs.length → 0 ≤ most → most < 30 → H1 wl = none → W1 K H1 q p t1 c d o L cs R → H' wl = some (.lst []) → W1 K H' q p t1 c d o L cs R → TbAt H' tb R cs ta Fa → D.nx (Sg q t1 o L x0 x2 x3 x4 x5 x6 x10 x11 (some (.int kk)) (some (.int most)) (some (.ref wl)) x15 x16 x17 x18 x19 x20 x21 x22 x23 x24 x25) H') →
      t D (Sg q t1 o L x0 x2 x3 x4 x5 x6 x10 x11 x12 x13 x14 x15 x16 x17 x18 x19 x20 x21 x22 x23 x24 x25) H := by
  have hu := hu_of hr
  refine ⟨_, (ps_asg (pe_tup (pa_cons (pe_op op_add pe_int (pg_call (ok_law_roll T) (hr.mono (by decide)) rfl T.gl_law_roll px (pa_cons (pv 1) (pa_cons (pe_callB call_len (by rfl) T.fr_len (PySem.boot_len) (pa_cons (pv 7) pa_nil)) pa_nil)))) (pa_cons (pg_call (ok_law_roll T) (hr.mono (by decide)) rfl T.gl_law_roll px (pa_cons (pv 1) (pa_cons pe_int pa_nil))) (pa_cons (pe_lst pa_nil) pa_nil)))) (pg_tup rfl (pgs_cons (pg_name (i := 12) sc_law.nd rfl (by first | exact Or.inl rfl | exact Or.inr rfl)) (pgs_cons (pg_name (i := 13) sc_law.nd rfl (by first | exact Or.inl rfl | exact Or.inr rfl)) (pgs_cons (pg_name (i := 14) sc_law.nd rfl (by first | exact Or.inl rfl | exact Or.inr rfl)) pgs_nil))))), fun D H q p t1 c d o L tb cs R ta Fa x0 x2 x3 x4 x5 x6 x10 x11 x12 x13 x14 x15 x16 x17 x18 x19 x20 x21 x22 x23 x24 x25 W Tt k => ?_⟩
  have l7 := W.len7
  have lp : 0 < cs.length := List.length_pos_iff.mpr W.pos
  obtain ⟨Dc2, hq2⟩ := W.dice
  walk_at "v"; walk_at "v"
  refine ⟨_, cs.length, rfl, .inl ⟨_, SqL.of W.cor, (List.length_map ..).symm⟩, ?_⟩
  obtain ⟨i, hi, ei⟩ := roll_nat Dc2 cs.length (by omega)
  refine ⟨q, Dc2, _, rfl, hq2, (by omega), (by omega), ?_⟩
  rw [ei]
  have W5 := W.roll hq2 (rollD Dc2 (cs.length : Int))
  have T5 := Tt.go (TL := TL K) (TG := TG K) (S := fun a => a = q) (Go.set (o := .lst (dvals (rollD Dc2 (cs.length : Int)))) hq2 plain_lst rfl) fun b kvs e z => by rw [z, hq2] at e; cases e
  generalize upd H q (.lst (dvals (rollD Dc2 (cs.length : Int)))) = H4 at W5 T5 ⊢
  refine ⟨_, _, rfl, rfl, ?_⟩
  obtain ⟨Dc3, hq3⟩ := W5.dice
  walk_at "v"
  have r3 := roll_lt (Dc := Dc3) (m := 30) (by decide)
  refine ⟨q, Dc3, 30, rfl, hq3, by decide, by decide, ?_⟩
  have W6 := W5.roll hq3 (rollD Dc3 30)
  have T6 := T5.go (TL := TL K) (TG := TG K) (S := fun a => a = q) (Go.set (o := .lst (dvals (rollD Dc3 30))) hq3 plain_lst rfl) fun b kvs e z => by rw [z, hq3] at e; cases e
  generalize rollV Dc3 30 = most at r3 ⊢
  generalize upd H4 q (.lst (dvals (rollD Dc3 30))) = H5 at W6 T6 ⊢
  refine ⟨(by decide), fun wl hwl => ?_⟩
  have g7 : Go (TL K) (TG K) (fun _ => False) H5 (upd H5 wl (.lst [])) := Go.new hwl
  have e7 : upd H5 wl (.lst []) wl = some (.lst []) := upd_same
  have W7 := W6.go0 g7
  have T7 := T6.go0 g7
  generalize upd H5 wl (.lst []) = H6 at g7 e7 W7 T7 ⊢
  refine ⟨(by show 3 ≤ sizeLine; decide), fun tp htp => ?_⟩
  have g8 : Go (TL K) (TG K) (fun _ => False) H6 (upd H6 tp (.tup [.int (1 + (i : Int)), .int most, .ref wl])) := Go.new htp
  refine ⟨tp, _, rfl, SqT.of upd_same, rfl, ?_⟩
  refine ⟨_, _, rfl, _, _, rfl, _, _, rfl, rfl, ?_⟩
  have kk := k (1 + i) most wl H5 _ (by omega) (by omega) r3.1 r3.2 hwl W6 (g8.get e7) (W7.go0 g8) (T7.go0 g8)
  rw [show ((1 + i : Nat) : Int) = 1 + (i : Int) by omega] at kk
  exact kk
/-- for places in sets: .. -/
theorem law_g (T : Txt K mg base) {A : Around} {outer : List Env} {s : Shared} {H0 : Hp} {E0 : XK} (hr : Room 9 (A.deeper (envOfC d_law.qual d_law.scope s.heap.objs.size (He.fAd K d_law.at_) (.ref (He.codeOf K d_law.at_))))) :
    ∃ t, PS (bodyX P w K mg base N_law d_law A outer s H0 E0) ((subS ((d_law.body).getD 0 noS)).getD 6 noS) t ∧ ∀ (D : Ends) (H : Hp) (q p t1 c d o L tb wl : Addr) (cs : List Str) (R : Rs) (ta : Str → Addr) (Fa : Str → Fs) (kk : Nat) (most : Int) (x0 x2 x3 x5 x6 x10 x11 x15 x16 x17 x18 x19 x20 x21 x22 x23 x24 x25 : Option V), W1 K H q p t1 c d o L cs R → TbAt H tb R cs ta Fa → H wl = some (.lst []) → wl ≠ c → wl ≠ L → wl ≠ q → wl ≠ p → kk ≤ cs.length → most < 30 →
      (∀ (H' : Hp) (x6 x15 : Option V), W1 K H' q p t1 c d o L cs R → TbAt H' tb R cs ta Fa → WaysAt H' wl R cs most (combos cs.length kk 0) → D.nx (Sg q t1 o L x0 x2 x3 (some (.ref tb)) x5 x6 x10 x11 (some (.int kk)) (some (.int most)) (some (.ref wl)) x15 x16 x17 x18 x19 x20 x21 x22 x23 x24 x25) H') →
      t D (Sg q t1 o L x0 x2 x3 (some (.ref tb)) x5 x6 x10 x11 (some (.int kk)) (some (.int most)) (some (.ref wl)) x15 x16 x17 x18 x19 x20 x21 x22 x23 x24 x25) H := by
  have hu := hu_of hr
  refine ⟨_, (ps_for (passes_of rfl) rfl (pi_list (pg_call (ok_law_sets T) (hr.mono (by decide)) rfl T.gl_law_sets px (pa_cons (pe_callB call_len (by rfl) T.fr_len (PySem.boot_len) (pa_cons (pv 7) pa_nil)) (pa_cons (pv 12) (pa_cons pe_int pa_nil))))) (pg_name (i := 6) sc_law.nd rfl (by first | exact Or.inl rfl | exact Or.inr rfl)) (pss_cons (ps_setLc (i := 15) (own := [("corner", 2)]) (g := gName 2) rfl sc_law.nd rfl rfl (sw_true rfl rfl rfl (by decide +kernel)) (pi_list (pv 7)) (blkOk_by (own := [("corner", 2)]) (N := N_law) (sc := d_law.scope) (by decide +kernel)) (fun _ _ _ _ _ => (pg_name (i := 2) sc_law.nd rfl (by first | exact Or.inl rfl | exact Or.inr rfl))) (fun _ _ _ _ _ => pts_one (pt_cmpR (op_eqDK K rfl hr.units) (pe_lc (own := [("place", 25)]) (g := gName 25) rfl sc_law.nd (pi_tupK K rfl (pv 6)) (blkOk_by (own := [("place", 25)]) rfl) (fun _ _ _ _ _ => (pg_name (i := 25) sc_law.nd rfl (by first | exact Or.inl rfl | exact Or.inr rfl))) (fun _ _ _ _ _ => pts_one (pt_cmpR op_le (pe_dget2 hu (pe_dget hu (pv 4) (pe_ix (ix_listK K rfl) (pv 7) (pv 25) (fun _ _ => rfl)) (fun _ _ => rfl)) (pv 2) pe_int ⟨by rfl, by rfl, by rfl, by rfl⟩) (pv 13) (nomark _))) (fun _ _ _ _ _ => pe_int)) (pe_lst pa_nil) (nomark _))) (fun _ _ _ _ _ => (pv 2)))
        (pss_one (ps_expr (pe_bm PySem.F.plainAttrs_list PySem.F.slot_list_append PySem.F.type_list_append mt_append (pv 14) (pa_cons (pe_tup (pa_cons (pe_callB call_len (by rfl) T.fr_len (PySem.boot_len) (pa_cons (pv 15) pa_nil)) (pa_cons (pv 6) (pa_cons (pv 15) pa_nil)))) pa_nil)))))), fun D H q p t1 c d o L tb wl cs R ta Fa kk most x0 x2 x3 x5 x6 x10 x11 x15 x16 x17 x18 x19 x20 x21 x22 x23 x24 x25 W Tt ew n1 n2 n3 n4 hk hm k => ?_⟩
  have l7 := W.len7
  walk_at "v"
  refine ⟨_, cs.length, rfl, .inl ⟨_, SqL.of W.cor, (List.length_map ..).symm⟩, ?_⟩
  walk_at "v"
  refine ⟨kk, by omega, cs.length, 0, rfl, (by omega), Nat.zero_le _, (by omega), fun S H1 hS sS g1 => ?_⟩
  obtain ⟨as, s1, s2⟩ := sS
  obtain ⟨zs, rfl, ez, s3⟩ := paired_zip s2
  have W2 := W.go0 g1
  have T2 := Tt.go0 g1
  have ew1 := g1.get ew
  have lz : zs.length ≤ 4096 := by
    have := congrArg List.length ez
    rw [List.length_map] at this
    rw [← this]
    exact Nat.le_trans (combos_size _ _) (pow_12 (by omega))
  have nSw : S ≠ wl := (ne_of_none ew hS).symm
  rw [List.map_map] at s1
  refine ⟨S, rfl, ⟨_, SqL.of s1⟩, for_fold (fun z : Addr × List Nat => V.ref z.1) zs rfl walk_itl (fun (l : List (Addr × List Nat)) y => l ++ [y]) [] (fun pre σ H' => (∃ x6 x15 : Option V, σ = Sg q t1 o L x0 x2 x3 (some (.ref tb)) x5 x6 x10 x11 (some (.int kk)) (some (.int most)) (some (.ref wl)) x15 x16 x17 x18 x19 x20 x21 x22 x23 x24 x25) ∧ WaysAt H' wl R cs most (pre.map fun z => z.2) ∧ Go (TL K) (TG K) (fun a => a = wl) H1 H')
    ⟨⟨_, _, rfl⟩, ⟨[], ew1, .nil⟩, .refl⟩ (fun _ σ H' h => SqL.of (h.2.2.keep _ _ s1 (by intro _ z; cases z) nSw)) ?_ ?_⟩
  · rintro pre ⟨a, l⟩ post σ H2 eb ⟨⟨x6, x15, rfl⟩, v2, g2⟩
    rw [foldl_snoc0, List.nil_append] at v2 ⊢
    have hmem : (a, l) ∈ zs := by rw [eb]; simp
    have hlc : l ∈ combos cs.length kk 0 := by rw [ez]; exact List.mem_map.mpr ⟨_, hmem, rfl⟩
    have hlb := combos_len kk 0 l hlc
    have ea1 : H1 a = some (tupN l) := s3 (a, l) hmem
    have ea2 : H2 a = some (tupN l) := g2.keep _ _ ea1 (by intro _ z; cases z) (ne_of ea1 ew1 (by intro z; cases z))
    have W3 := W2.other g2 ew1 n1 n2 n3 n4
    have T3 := T2.go g2 fun b kvs e z => by rw [z, ew1] at e; cases e
    have lpre : pre.length < sizeLine := Nat.lt_of_lt_of_le (len_mid eb lz) (by decide)
    walk_at "v"
    refine ⟨L, rfl, ⟨_, SqL.of W3.cor⟩, fun M hM => ?_⟩
    refine lc_pre V.str cs rfl walk_itl (fun pre' H' => H' M = some (.lst ((pre'.filter fun n => !nearQ R (nmS cs l) most n).map V.str)) ∧ Go (TL K) (TG K) (fun a => a = M) H2 H') ⟨upd_same, Go.new hM⟩ (fun pre' H' h => SqL.of (h.2.keep _ _ W3.cor (by intro _ z; cases z) (ne_of_none W3.cor hM))) ?_ ?_
    · rintro pre' n post' H3 eb' ⟨v3, g3⟩
      have hn : n ∈ cs := by rw [eb']; simp
      have W4 : W1 K H3 q p t1 c d o L cs R := W3.go g3 (W3.dice.imp fun _ h => g3.keep _ _ h (by intro _ z; cases z) (ne_of_none h hM)) fun b z => .inr (by rw [z]; exact hM)
      have T4 := T3.go g3 fun b kvs e z => ne_of_none e hM z
      have ea3 : H3 a = some (tupN l) := g3.keep _ _ ea2 (by intro _ z; cases z) (ne_of_none ea2 hM)
      refine ⟨rfl, ?_⟩
      walk_at "v"
      refine ⟨a, rfl, ⟨_, SqT.of ea3⟩, fun M2 hM2 => ?_⟩
      refine lc_pre (fun q : Nat => V.int (q : Int)) l rfl walk_itt (fun pre2 H' => H' M2 = some (.lst ((pre2.filter (nearP R cs most n)).map fun _ => V.int 1)) ∧ Go (TL K) (TG K) (fun a => a = M2) H3 H') ⟨upd_same, Go.new hM2⟩ (fun pre2 H' h => SqT.of (h.2.keep _ _ ea3 (by intro _ z; cases z) (ne_of_none ea3 hM2))) ?_ ?_
      · rintro pre2 r post2 H4 eb2 ⟨v4, g4⟩
        have hr' : r < cs.length := (hlb.2 r (by rw [eb2]; simp)).2
        have nc : cs.getD r "" ∈ cs := by
          rw [List.getD_eq_getElem?_getD, List.getElem?_eq_getElem hr']
          exact List.getElem_mem _
        have c4 := g4.keep _ _ W4.cor (by intro _ z; cases z) (ne_of_none W4.cor hM2)
        have T5 := T4.go g4 fun b kvs e z => ne_of_none e hM2 z
        refine ⟨rfl, ?_⟩
        walk_at "v"; walk_at "v"; walk_at "v"
        refine ⟨L, _, r, .str (cs.getD r ""), rfl, rfl, SqL.of c4, atI_nat ?_, ?_⟩
        · rw [List.getElem?_map, List.getElem?_eq_getElem hr', List.getD_eq_getElem?_getD, List.getElem?_eq_getElem hr'] <;> rfl
        refine ⟨tb, _, rfl, T5.get nc, ?_⟩
        refine ⟨ta (cs.getD r ""), rfl, .inl ⟨_, .inl (T5.at_ _ nc)⟩, ?_⟩
        walk_at "v"
        have fe : (Fa (cs.getD r "")).lookup n = far R (cs.getD r "") n := far_eq (T5.tm _ nc)
        have gt := get_tkf (n := n) (T5.at_ _ nc)
        rw [fe] at gt
        refine ⟨_, gt, ?_⟩
        have lp2 : ((pre2.filter (nearP R cs most n)).map fun _ => V.int 1).length < sizeLine := by
          rw [List.length_map]
          have h1 := List.length_filter_le (nearP R cs most n) pre2
          have h2 := congrArg List.length eb2
          rw [List.length_append, List.length_cons, hlb.1] at h2
          exact thou_lt (by omega)
        have yes : nearP R cs most n r = true → ∀ {H'}, Go (TL K) (TG K) (fun _ => False) H4 H' → ∃ acc, H' M2 = some (.lst acc) ∧ acc.length < sizeLine ∧ upd H' M2 (.lst (acc ++ [.int 1])) M2 = some (.lst (((pre2 ++ [r]).filter (nearP R cs most n)).map fun _ => V.int 1)) ∧ Go (TL K) (TG K) (fun a => a = M2) H3 (upd H' M2 (.lst (acc ++ [.int 1]))) := fun z {H'} g => by
          refine ⟨_, g.get v4, lp2, ?_, (g4.trans g.wide).trans (Go.set (g.get v4) plain_lst rfl)⟩
          rw [upd_same, List.filter_append, List.filter_cons_of_pos z, List.filter_nil, List.map_append] <;> rfl
        have noo : nearP R cs most n r = false → H4 M2 = some (.lst (((pre2 ++ [r]).filter (nearP R cs most n)).map fun _ => V.int 1)) ∧ Go (TL K) (TG K) (fun a => a = M2) H3 H4 := fun z => by
          refine ⟨?_, g4⟩
          rw [List.filter_append, List.filter_cons_of_neg (by rw [z]; decide), List.filter_nil, List.append_nil]
          exact v4
        cases ef : far R (cs.getD r "") n with
        | none =>
          have en : nearP R cs most n r = false := by unfold nearP; rw [ef]
          walk_at "v"
          refine ⟨_, _, rfl, rfl, _, rfl, iteF' (decide_eq_false (by omega)) (noo en)⟩
        | some x =>
          walk_at "v"
          refine ⟨_, _, rfl, rfl, _, rfl, ?_⟩
          by_cases hx : x ≤ most
          · exact iteT' (decide_eq_true hx) (yes (by unfold nearP; rw [ef]; exact decide_eq_true hx) .refl)
          · exact iteF' (decide_eq_false hx) (noo (by unfold nearP; rw [ef]; exact decide_eq_false hx))
      · rintro H4 ⟨v4, g4⟩
        refine ⟨(by decide), fun e2 he2 => ?_⟩
        have nM2 := ne_of_none v4 he2
        have sh := PySem.W.shaped_ints ((l.filter (nearP R cs most n)).map fun _ => (1 : Int))
        rw [List.map_map] at sh
        have dp1 : ∀ xs : List Nat, DpAll K (upd H4 e2 (.lst [])) (xs.map fun _ => V.int 1) (xs.map fun _ => PyData.int 1) := fun xs => by
          induction xs with
          | nil => exact .nil
          | cons _ _ ih => exact .cons (.int _) ih
        refine ⟨.list ((l.filter (nearP R cs most n)).map fun _ => PyData.int 1), .list [], .lst (SqL.of (by rw [upd_ne nM2]; exact v4)) (dp1 _), .lst (SqL.of upd_same) .nil, sh, PySem.W.shaped_ints [], ?_⟩
        have ed : decide ((l.filter (nearP R cs most n)).map (fun _ => PyData.int 1) = []) = !nearQ R (nmS cs l) most n := by
          rw [← nearP_all]
          simp
        rw [eqv_nil, ed]
        have g5 : Go (TL K) (TG K) (fun a => a = M) H2 (upd H4 e2 (.lst [])) := g3.trans ((g4.drop fun b z => .inr (by rw [z]; exact hM2)).wide.trans (Go.new he2))
        have v5 : upd H4 e2 (.lst []) M = some (.lst ((pre'.filter fun n => !nearQ R (nmS cs l) most n).map V.str)) := by
          have h4 := g4.keep _ _ v3 (by intro _ z; cases z) (ne_of_none v3 hM2)
          rw [upd_ne (ne_of_none h4 he2)]
          exact h4
        generalize upd H4 e2 (.lst []) = H5 at g5 v5 ⊢
        refine ⟨_, rfl, ?_⟩
        cases en : nearQ R (nmS cs l) most n with
        | true =>
          refine iteF' rfl ⟨?_, g5⟩
          rw [List.filter_append, List.filter_cons_of_neg (by rw [en]; decide), List.filter_nil, List.append_nil]
          exact v5
        | false =>
          refine iteT' rfl ?_
          walk_at "v"
          refine ⟨_, v5, ?_, ?_, g5.trans (Go.set v5 plain_lst rfl)⟩
          · rw [List.length_map]
            have h1 := List.length_filter_le (fun n => !nearQ R (nmS cs l) most n) pre'
            have h2 := len_mid eb' l7
            exact thou_lt (by omega)
          · rw [upd_same, List.filter_append, List.filter_cons_of_pos (by rw [en] <;> rfl), List.filter_nil, List.map_append] <;> rfl
    · rintro H3 ⟨v3, g3⟩
      have g3' : Go (TL K) (TG K) (fun _ => False) H2 H3 := g3.drop fun b z => .inr (by rw [z]; exact hM)
      have v3 : H3 M = some (.lst ((farL R cs most l).map V.str)) := v3
      have ea3 : H3 a = some (tupN l) := g3'.get ea2
      obtain ⟨ws, w1, w2⟩ := v2.go0 g3'
      have fM : H1 M = none := g2.free _ hM
      have nMw : M ≠ wl := fun z => by rw [z, ew1] at fM; cases fM
      walk_at "v"
      refine ⟨.inl ⟨rfl, _, SqL.of w1⟩, ?_⟩
      walk_at "v"
      refine ⟨_, farN R cs most l, rfl, .inl ⟨_, SqL.of v3, (by rw [List.length_map] <;> rfl)⟩, ?_⟩
      walk_at "v"; walk_at "v"
      refine ⟨(by show 3 ≤ sizeLine; decide), fun u hu' => ?_⟩
      have g4 : Go (TL K) (TG K) (fun _ => False) H3 (upd H3 u (.tup [.int (farN R cs most l : Int), .ref a, .ref M])) := Go.new hu'
      have f1 : upd H3 u (.tup [.int (farN R cs most l : Int), .ref a, .ref M]) u = some (.tup [.int (farN R cs most l : Int), .ref a, .ref M]) := upd_same
      have f2 := g4.get ea3
      have f3 := g4.get v3
      have f4 := g4.get w1
      have f5 := Paired.mapP w2 fun b m e => (WayAt.keep e fun b o e z => g4.keep _ _ e (by rcases z with ⟨_, rfl⟩ | rfl <;> (intro _ z; cases z)) id)
      generalize upd H3 u (.tup [.int (farN R cs most l : Int), .ref a, .ref M]) = H4 at g4 f1 f2 f3 f4 f5 ⊢
      have lw := paired_len f5
      have g5 : Go (TL K) (TG K) (fun b => b = wl) H1 (upd H4 wl (.lst (ws.map V.ref ++ [.ref u]))) := (g2.trans ((g3'.trans g4).wide)).trans (Go.set f4 plain_lst rfl)
      refine ⟨wl, _, .ref u, rfl, rfl, f4, ?_, ⟨_, _, rfl⟩, ⟨ws ++ [u], (by rw [upd_same, List.map_append] <;> rfl), ?_⟩, g5⟩
      · rw [List.length_map] at lw ⊢
        rw [lw]
        exact lpre
      · rw [List.map_append]
        refine paired_snoc (F := WayAt (upd H4 wl (.lst (ws.map V.ref ++ [.ref u]))) R cs most) ⟨a, M, ?_, ?_, ?_⟩ ?_
        · rw [upd_ne (ne_of f1 f4 (by intro z; cases z))]; exact f1
        · rw [upd_ne (ne_of f2 f4 (by intro z; cases z))]; exact f2
        · rw [upd_ne nMw]; exact f3
        · cases ws with
          | nil =>
            cases hp : pre.map fun z => z.2 with
            | nil => exact .nil
            | cons x t => rw [hp] at f5; cases f5
          | cons w0 wt =>
            refine Paired.mapP f5 fun b m e => ?_
            obtain ⟨b1, f, k1, k2, k3⟩ := e
            refine ⟨b1, f, ?_, ?_, ?_⟩
            · rw [upd_ne (ne_of k1 f4 (by intro z; cases z))]; exact k1
            · rw [upd_ne (ne_of k2 f4 (by intro z; cases z))]; exact k2
            · rw [upd_ne (ne_of k3 f4 (by
                intro z
                injection z with z
                cases hf : farL R cs most m with
                | nil => rw [hf] at z; cases z
                | cons y t => rw [hf] at z; injection z with z _; cases z))]
              exact k3
  · rintro σ H2 ⟨⟨x6, x15, rfl⟩, v2, g2⟩
    rw [foldl_snoc0, List.nil_append, ← ez] at v2
    exact k H2 _ _ (W2.other g2 ew1 n1 n2 n3 n4) (T2.go g2 fun b kvs e z => by rw [z, ew1] at e; cases e) v2
end
end K1
namespace K1
open PySem PySem.Spec PyProof.Rows L2 Fy
open GxR (TabG Tabbed)
noncomputable def row3W (R : Rs) (cs : List Str) (most : Int) (l : List Nat) : PyData := row3D (farN R cs most l) l (farL R cs most l)
theorem dp_way {K : PySem.W.Frag} {H : Hp} {R : Rs} {cs : List Str} {most : Int} {a : Addr} {l : List Nat} (h : WayAt H R cs most a l) : Dp K H (.ref a) (row3W R cs most l) := by
  obtain ⟨b, f, h1, h2, h3⟩ := h
  exact .tup (SqT.of h1) (.cons (.int _) (.cons (.tup (SqT.of h2) (dp_ints _)) (.cons (.lst (SqL.of h3) (dp_strs _)) .nil)))
theorem dp_ways {K : PySem.W.Frag} {H : Hp} {R : Rs} {cs : List Str} {most : Int} : ∀ {as : List Addr} {ls : List (List Nat)}, Paired (WayAt H R cs most) as ls → DpAll K H (as.map V.ref) (ls.map (row3W R cs most))
  | _, _, .nil => .nil
  | _, _, .cons h t => .cons (dp_way h) (dp_ways t)
theorem alike_ways (R : Rs) (cs : List Str) (most : Int) (ls : List (List Nat)) : PySem.W.AlikeAll (ls.map (row3W R cs most)) := by
  refine ⟨fun x hx y hy => ?_, fun x hx => ?_⟩
  · obtain ⟨a, _, rfl⟩ := List.mem_map.mp hx
    obtain ⟨b, _, rfl⟩ := List.mem_map.mp hy
    exact alike_row3 _ _ _ _ _ _
  · obtain ⟨a, _, rfl⟩ := List.mem_map.mp hx
    exact fun z => by cases z
theorem depth_ways (R : Rs) (cs : List Str) (most : Int) (ls : List (List Nat)) : PyData.depthAll (ls.map (row3W R cs most)) ≤ 40 := by
  induction ls with
  | nil => exact Nat.zero_le _
  | cons a t ih =>
    rw [List.map_cons, PyData.depthAll]
    exact Nat.max_le.mpr ⟨Nat.le_trans (depth_row3 _ _ _) (by decide), ih⟩
theorem min_way {R : Rs} {cs : List Str} {most : Int} {as : List Addr} {ls : List (List Nat)} {H : Hp} (w : Paired (WayAt H R cs most) as ls) {j : Nat} {x : V} {d : PyData} (ex : (as.map V.ref)[j]? = some x) (ed : (ls.map (row3W R cs most))[j]? = some d) (least : ∀ y ∈ ls.map (row3W R cs most), ltD y d = false) :
    ∃ a l, x = .ref a ∧ WayAt H R cs most a l ∧ Best (farN R cs most) ls l := by
  rw [List.getElem?_map] at ex ed
  obtain ⟨a, ea, rfl⟩ := Option.map_eq_some_iff.mp ex
  obtain ⟨l, el, rfl⟩ := Option.map_eq_some_iff.mp ed
  obtain ⟨l2, el2, wa⟩ := LiI.paired_get w ea
  rw [el] at el2
  cases el2
  refine ⟨a, l, rfl, wa, List.mem_of_getElem? el, fun l' hl' => ?_⟩
  by_cases e : l' = l
  · rw [e]; exact rowLt_irr l
  · have := least _ (List.mem_map.mpr ⟨l', hl', rfl⟩)
    unfold row3W at this
    rw [row3_lt e] at this
    exact this
section
variable {P : Program} {w : World} {K : PySem.W.Frag} {mg : Str → Option Value} {base : Heap}
/-- if best_stations(..) != .. or ..: return False -/
theorem law_h (T : Txt K mg base) {A : Around} {outer : List Env} {s : Shared} {H0 : Hp} {E0 : XK} (hr : Room 9 (A.deeper (envOfC d_law.qual d_law.scope s.heap.objs.size (He.fAd K d_law.at_) (.ref (He.codeOf K d_law.at_))))) :
    ∃ t, PS (bodyX P w K mg base N_law d_law A outer s H0 E0) ((subS ((d_law.body).getD 0 noS)).getD 7 noS) t ∧ ∀ (D : Ends) (H : Hp) (q p t1 c d o L wl : Addr) (cs : List Str) (R : Rs) (kk : Nat) (most : Int) (x0 x2 x3 x4 x5 x6 x10 x11 x15 x16 x17 x18 x19 x20 x21 x22 x23 x24 x25 : Option V), W1 K H q p t1 c d o L cs R → WaysAt H wl R cs most (combos cs.length kk 0) → 1 ≤ kk → kk ≤ cs.length → 0 ≤ most →
      (∀ H', W1 K H' q p t1 c d o L cs R → D.nx (Sg q t1 o L x0 x2 x3 x4 x5 x6 x10 x11 (some (.int kk)) (some (.int most)) (some (.ref wl)) x15 x16 x17 x18 x19 x20 x21 x22 x23 x24 x25) H') →
      t D (Sg q t1 o L x0 x2 x3 x4 x5 x6 x10 x11 (some (.int kk)) (some (.int most)) (some (.ref wl)) x15 x16 x17 x18 x19 x20 x21 x22 x23 x24 x25) H := by
  have hu := hu_of hr
  refine ⟨_, (ps_if (PW.pt (pw_or (pt_cmpR (op_neD hr.units) (pg_call (ok_best_stations T) (hr.mono (by decide)) rfl T.gl_best_stations px (pa_cons (pv 8) (pa_cons (pv 12) (pa_cons (pv 13) pa_nil)))) (pe_tup (pa_cons (pe_ix ix_tup (pe_callB (cr_minD rfl (u65 hr)) (by rfl) T.fr_min (by decide +kernel) (pa_cons (pv 14) pa_nil)) pe_int (fun _ _ => rfl)) (pa_cons (pe_callTy call_tuple_of (by rfl) T.fr_tuple (by decide +kernel) (pa_cons (pe_lc (own := [("place", 25)]) (g := gName 25) (tt := tYes) rfl sc_law.nd (pi_tup (pe_ix ix_tup (pe_callB (cr_minD rfl (u65 hr)) (by rfl) T.fr_min (by decide +kernel) (pa_cons (pv 14) pa_nil)) pe_int (fun _ _ => rfl))) (blkOk_by (own := [("place", 25)]) (N := N_law) (sc := d_law.scope) (by decide +kernel)) (fun _ _ _ _ _ => (pg_name (i := 25) sc_law.nd rfl (by first | exact Or.inl rfl | exact Or.inr rfl))) (fun _ _ _ _ _ => pts_nil) (fun _ _ _ _ _ => (pe_ix (ix_listK K rfl) (pv 7) (pv 25) (fun _ _ => rfl)))) pa_nil)) pa_nil))) (nomark _)) (pw_or1 (pt_cmpR (op_neD hr.units) (pe_callTy call_list_of (by rfl) T.fr_list (by decide +kernel) (pa_cons (pg_meth (ok_Town_far_corners T) (hr.mono (by decide)) T.cl_Town T.me_Town_far_corners px (pv 8) (pa_cons (pe_lc (own := [("place", 25)]) (g := gName 25) (tt := tYes) rfl sc_law.nd (pi_tup (pe_ix ix_tup (pe_ix ix_list (pv 14) pe_int (fun _ _ => rfl)) pe_int (fun _ _ => rfl))) (blkOk_by (own := [("place", 25)]) (N := N_law) (sc := d_law.scope) (by decide +kernel)) (fun _ _ _ _ _ => (pg_name (i := 25) sc_law.nd rfl (by first | exact Or.inl rfl | exact Or.inr rfl))) (fun _ _ _ _ _ => pts_nil) (fun _ _ _ _ _ => (pe_ix (ix_listK K rfl) (pv 7) (pv 25) (fun _ _ => rfl)))) (pa_cons (pv 13) pa_nil))) pa_nil)) (pe_ix ix_tup (pe_ix ix_list (pv 14) pe_int (fun _ _ => rfl)) pe_int (fun _ _ => rfl)) (nomark _))))) (pss_one (ps_ret pe_bl)) pss_nil), fun D H q p t1 c d o L wl cs R kk most x0 x2 x3 x4 x5 x6 x10 x11 x15 x16 x17 x18 x19 x20 x21 x22 x23 x24 x25 W Ws hk1 hk2 hm k => ?_⟩
  have l7 := W.len7
  have okS : statOk cs (kk : Int) = true := by
    unfold statOk
    rw [decide_eq_true (show cs.length ≤ 12 by omega), decide_eq_true (show (1 : Int) ≤ (kk : Int) by omega), decide_eq_true (show (kk : Int) ≤ (cs.length : Int) by omega)] <;> rfl
  have lne : combos cs.length kk 0 ≠ [] := fun z => by
    have := range_combo (n := cs.length) kk 0 (by omega)
    rw [z] at this
    cases this
  walk_at "v"; walk_at "v"; walk_at "v"
  refine ⟨t1, c, d, cs, R, kk, most, rfl, W.town, W.wf, W.tb, hm, fun z => absurd z (by rw [okS]; decide), fun _ m pp qq H1 bm hpp epp eqq g1 => ?_⟩
  rw [show ((kk : Nat) : Int).toNat = kk from rfl] at bm
  have Wa := W.go0 g1
  obtain ⟨ws, w1, w2⟩ := Ws.go0 g1
  have isB : ∀ {l : List Nat}, Best (farN R cs most) (combos cs.length kk 0) l → l = m := fun b => Best.one b bm fun _ => .rfl
  walk_at "v"
  refine ⟨wl, _, (combos cs.length kk 0).map (row3W R cs most), rfl, SqL.of w1, dp_ways w2, alike_ways _ _ _ _, depth_ways _ _ _ _, (by simpa using lne), fun j x dd ex ed least => ?_⟩
  obtain ⟨a, l, rfl, wa, bl⟩ := min_way w2 ex ed least
  obtain rfl := isB bl
  obtain ⟨b, f, a1, a2, a3⟩ := wa
  refine ⟨_, _, _, _, rfl, rfl, SqT.of a1, rfl, ?_⟩
  walk_at "v"
  refine ⟨wl, _, (combos cs.length kk 0).map (row3W R cs most), rfl, SqL.of w1, dp_ways w2, alike_ways _ _ _ _, depth_ways _ _ _ _, (by simpa using lne), fun j x dd ex ed least => ?_⟩
  obtain ⟨a', l', rfl, wa', bl'⟩ := min_way w2 ex ed least
  obtain rfl := isB bl'
  obtain ⟨b', f', a1', a2', a3'⟩ := wa'
  refine ⟨_, _, _, _, rfl, rfl, SqT.of a1', rfl, ?_⟩
  have mlt : ∀ q ∈ l', q < cs.length := fun q hq => ((combos_len kk 0 l' bm.1).2 q hq).2
  have ml : l'.length ≤ 7 := by rw [(combos_len kk 0 l' bm.1).1]; omega
  refine ⟨b', rfl, ⟨_, SqT.of a2'⟩, fun M hM => ?_⟩
  refine lc_pre (fun r : Nat => V.int (r : Int)) l' rfl walk_itt (fun pre H' => H' M = some (.lst ((nmS cs pre).map V.str)) ∧ Go (TL K) (TG K) (fun a => a = M) H1 H') ⟨upd_same, Go.new hM⟩ (fun pre H' h => SqT.of (h.2.keep _ _ a2' (by intro _ z; cases z) (ne_of_none a2' hM))) ?_ ?_
  · rintro pre r post H4 eb ⟨r1, g4⟩
    have hr' : r < cs.length := mlt r (by rw [eb]; simp)
    have c4 := g4.keep _ _ Wa.cor (by intro _ z; cases z) (ne_of_none Wa.cor hM)
    refine ⟨rfl, tYes_ok ?_⟩
    walk_at "v"; walk_at "v"
    refine ⟨L, _, r, .str (cs.getD r ""), rfl, rfl, SqL.of c4, atI_nat ?_, ?_⟩
    · rw [List.getElem?_map, List.getElem?_eq_getElem hr', List.getD_eq_getElem?_getD, List.getElem?_eq_getElem hr'] <;> rfl
    · refine ⟨_, r1, (by rw [List.length_map]; unfold nmS; rw [List.length_map]; exact thou_lt (Nat.lt_of_lt_of_le (len_mid eb ml) (by decide))), ?_, g4.trans (Go.set r1 plain_lst rfl)⟩
      rw [upd_same]
      unfold nmS
      rw [List.map_append, List.map_append] <;> rfl
  rintro H2 ⟨v2, g2⟩
  have g2' : Go (TL K) (TG K) (fun _ => False) H1 H2 := g2.drop fun b z => .inr (by rw [z]; exact hM)
  refine ⟨M, _, rfl, .inl ⟨SqL.of v2, fun u hu' => ?_⟩⟩
  have g3 : Go (TL K) (TG K) (fun _ => False) H2 (upd H2 u (.tup ((nmS cs l').map V.str))) := Go.new hu'
  have e3 : upd H2 u (.tup ((nmS cs l').map V.str)) u = some (.tup ((nmS cs l').map V.str)) := upd_same
  generalize upd H2 u (.tup ((nmS cs l').map V.str)) = H3 at g3 e3 ⊢
  refine ⟨(by show 2 ≤ sizeLine; decide), fun u2 hu2 => ?_⟩
  have g4 : Go (TL K) (TG K) (fun _ => False) H3 (upd H3 u2 (.tup [.int (farN R cs most l' : Int), .ref u])) := Go.new hu2
  have e4 : upd H3 u2 (.tup [.int (farN R cs most l' : Int), .ref u]) u2 = some (.tup [.int (farN R cs most l' : Int), .ref u]) := upd_same
  have gB := (g2'.trans g3).trans g4
  have epp4 := gB.get epp
  have eqq4 := gB.get eqq
  have e34 := g4.get e3
  have W4 := Wa.go0 gB
  have Ws4 : WaysAt (upd H3 u2 (.tup [.int (farN R cs most l' : Int), .ref u])) wl R cs most (combos cs.length kk 0) := (Ws.go0 g1).go0 gB
  generalize upd H3 u2 (.tup [.int (farN R cs most l' : Int), .ref u]) = H4 at g4 e4 gB epp4 eqq4 e34 W4 Ws4 ⊢
  have nm_ok : ∀ l : List Nat, (∀ r ∈ l, r < cs.length) → ∀ n ∈ nmS cs l, n ∈ cs := fun l hl n hn => by
    obtain ⟨r, hr1, rfl⟩ := List.mem_map.mp hn
    rw [List.getD_eq_getElem?_getD, List.getElem?_eq_getElem (hl r hr1)]
    exact List.getElem_mem _
  have shn := shaped_tstrs (nmS cs l') fun n hn => (lt7_ok n (W.sub n (nm_ok l' mlt n hn))).1
  have sh : SeqAt.shaped (PyData.tuple [.int (farN R cs most l' : Int), .tuple ((nmS cs l').map PyData.str)]) = true := by
    have h1 := SeqAt.canLay_of_shaped shn
    have h2 : PyData.depth (.tuple ((nmS cs l').map PyData.str)) ≤ 2 := by
      have := depth_strs (nmS cs l')
      rw [PyData.depth]
      have h3 : PyData.depthAll ((nmS cs l').map PyData.str) ≤ 1 := by
        generalize nmS cs l' = ns
        induction ns with
        | nil => exact Nat.zero_le _
        | cons a t ih =>
          rw [List.map_cons, PyData.depthAll, PyData.depth]
          exact Nat.max_le.mpr ⟨Nat.zero_le _, ih⟩
      omega
    show (PyData.canLay0 _ && decide (PyData.depth _ ≤ 64)) = true
    rw [Bool.and_eq_true]
    refine ⟨?_, decide_eq_true ?_⟩
    · rw [PyData.canLay0, PyData.canLayAll0, PyData.canLayAll0, h1, PyData.canLay0, PyData.canLayAll0] <;> rfl
    · rw [PyData.depth, PyData.depthAll, PyData.depthAll, PyData.depthAll]
      have : max (PyData.depth (PyData.int (farN R cs most l' : Int))) (max (PyData.depth (.tuple ((nmS cs l').map PyData.str))) 0) ≤ 2 := Nat.max_le.mpr ⟨by rw [PyData.depth]; decide, Nat.max_le.mpr ⟨h2, by decide⟩⟩
      omega
  refine ⟨.tuple [.int (farN R cs most l' : Int), .tuple ((nmS cs l').map PyData.str)], .tuple [.int (farN R cs most l' : Int), .tuple ((nmS cs l').map PyData.str)], .tup (SqT.of epp4) (.cons (.int _) (.cons (.tup (SqT.of eqq4) (dp_strs _)) .nil)), .tup (SqT.of e4) (.cons (.int _) (.cons (.tup (SqT.of e34) (dp_strs _)) .nil)), sh, sh, ?_⟩
  rw [eqv_same sh]
  refine ⟨_, rfl, iteF ?_⟩
  clear a1 a2 a3 a1' a2' a3' w1 w2 v2 g2 g2' e3 e4 epp4 eqq4 e34 epp eqq
  obtain ⟨vs, w1, w2⟩ := Ws4
  obtain ⟨⟨dx, h1⟩, h2, h3⟩ := id W4.town
  walk_at "v"
  refine ⟨_, _, _, rfl, h1, rfl, ?_⟩
  cases hc : combos cs.length kk 0 with
  | nil => exact absurd hc lne
  | cons l0 lt =>
    have h0 : l0 ∈ combos cs.length kk 0 := by rw [hc]; simp
    rw [hc] at w2
    cases w2 with
    | @cons a0 _ vt _ wa0 wt =>
      obtain ⟨b0, f0, c1, c2, c3⟩ := wa0
      walk_at "v"
      refine ⟨wl, _, 0, .ref a0, rfl, rfl, SqL.of w1, atI_nat (j := 0) rfl, ?_⟩
      refine ⟨_, _, _, _, rfl, rfl, SqT.of c1, rfl, ?_⟩
      have mlt0 : ∀ q ∈ l0, q < cs.length := fun q hq => ((combos_len kk 0 l0 h0).2 q hq).2
      have ml0 : l0.length ≤ 7 := by rw [(combos_len kk 0 l0 h0).1]; omega
      refine ⟨b0, rfl, ⟨_, SqT.of c2⟩, fun M hM => ?_⟩
      refine lc_pre (fun r : Nat => V.int (r : Int)) l0 rfl walk_itt (fun pre H' => H' M = some (.lst ((nmS cs pre).map V.str)) ∧ Go (TL K) (TG K) (fun a => a = M) H4 H') ⟨upd_same, Go.new hM⟩ (fun pre H' h => SqT.of (h.2.keep _ _ c2 (by intro _ z; cases z) (ne_of_none c2 hM))) ?_ ?_
      · rintro pre r post H5 eb ⟨r1, g5⟩
        have hr' : r < cs.length := mlt0 r (by rw [eb]; simp)
        have c4 := g5.keep _ _ W4.cor (by intro _ z; cases z) (ne_of_none W4.cor hM)
        refine ⟨rfl, tYes_ok ?_⟩
        walk_at "v"; walk_at "v"
        refine ⟨L, _, r, .str (cs.getD r ""), rfl, rfl, SqL.of c4, atI_nat ?_, ?_⟩
        · rw [List.getElem?_map, List.getElem?_eq_getElem hr', List.getD_eq_getElem?_getD, List.getElem?_eq_getElem hr'] <;> rfl
        · refine ⟨_, r1, (by rw [List.length_map]; unfold nmS; rw [List.length_map]; exact thou_lt (Nat.lt_of_lt_of_le (len_mid eb ml0) (by decide))), ?_, g5.trans (Go.set r1 plain_lst rfl)⟩
          rw [upd_same]
          unfold nmS
          rw [List.map_append, List.map_append] <;> rfl
      rintro H5 ⟨v5, g5⟩
      have g5' : Go (TL K) (TG K) (fun _ => False) H4 H5 := g5.drop fun b z => .inr (by rw [z]; exact hM)
      have W5 := W4.go0 g5'
      walk_at "v"
      refine ⟨t1, c, d, M, cs, nmS cs l0, R, most, rfl, W5.town, W5.wf, W5.tb, v5, (by unfold nmS; rw [List.length_map]; omega), fun bad => ?_, fun _ _ pf H6 hpf r6 g6 => ?_⟩
      · exfalso
        rcases bad with z | ⟨n, z1, z2⟩
        · omega
        · exact z2 (nm_ok l0 mlt0 n z1)
      refine ⟨pf, _, rfl, .inr (SqT.of r6), fun lf hlf => ?_⟩
      have g7 := (g5'.trans g6).trans (Go.new (o := .lst ((farS R cs (nmS cs l0) most).map V.str)) hlf)
      have e7 : upd H6 lf (.lst ((farS R cs (nmS cs l0) most).map V.str)) lf = some (.lst ((farS R cs (nmS cs l0) most).map V.str)) := upd_same
      have W7 := W4.go0 g7
      have w17 := g7.keep _ _ w1 (by intro _ z; cases z) (fun z => z)
      have c17 := g7.get c1
      have c37 := g7.keep _ _ c3 (by intro _ z; cases z) (fun z => z)
      generalize upd H6 lf (.lst ((farS R cs (nmS cs l0) most).map V.str)) = H7 at g7 e7 W7 w17 c17 c37 ⊢
      walk_at "v"
      refine ⟨wl, _, 0, .ref a0, rfl, rfl, SqL.of w17, atI_nat (j := 0) rfl, ?_⟩
      refine ⟨_, _, _, _, rfl, rfl, SqT.of c17, rfl, ?_⟩
      have shf := shaped_strs (farS R cs (nmS cs l0) most) fun n hn => (lt7_ok n (W.sub n (List.mem_filter.mp hn).1)).1
      refine ⟨_, _, .lst (SqL.of e7) (dp_strs _), .lst (SqL.of c37) (dp_strs _), shf, shf, ?_⟩
      rw [show farL R cs most l0 = farS R cs (nmS cs l0) most from rfl, eqv_same shf]
      exact ⟨_, rfl, iteF (k _ W7)⟩
end
end K1
namespace K1
open PySem PySem.Spec PyProof.Rows L2 Fy
open GxR (TabG Tabbed)
section
variable {P : Program} {w : World} {K : PySem.W.Frag} {mg : Str → Option Value} {base : Heap}
theorem WfT.nil0 {cs : List Str} (h : cs.Nodup) (l : cs.length ≤ 80) : WfT cs [] := ⟨h, .nil, fun _ z => (by cases z), Nat.zero_le _, l⟩
theorem lt7_at : ∀ i : Nat, i < 7 → ∃ c, atI ("abcdefg" : Str).cps.toList (i : Int) = some c ∧ lt7[i]? = some (⟨#[c]⟩ : Str)
  | 0, _ => ⟨_, rfl, rfl⟩
  | 1, _ => ⟨_, rfl, rfl⟩
  | 2, _ => ⟨_, rfl, rfl⟩
  | 3, _ => ⟨_, rfl, rfl⟩
  | 4, _ => ⟨_, rfl, rfl⟩
  | 5, _ => ⟨_, rfl, rfl⟩
  | 6, _ => ⟨_, rfl, rfl⟩
  | _ + 7, h => absurd h (by omega)
theorem take_snoc {α : Type} {xs : List α} {i : Nat} {x : α} (h : xs[i]? = some x) : xs.take (i + 1) = xs.take i ++ [x] := by
  rw [List.take_succ, h] <;> rfl
theorem cor_step {k : Nat} {pre post : List Str} {n : Str} (e : lt7.take k = pre ++ n :: post) : canCor pre n = true := by
  have nd : (lt7.take k).Nodup := List.Sublist.nodup (List.take_sublist _ _) lt7_nd
  rw [e] at nd
  have hn : n ∈ lt7 := List.mem_of_mem_take (show n ∈ lt7.take k by rw [e]; simp)
  have h1 : n ∉ pre := fun z => (List.nodup_append.mp nd).2.2 n z n (by simp) rfl
  have h2 := (lt7_ok n hn).2.1
  have h3 : pre.length < 80 := by
    have a := congrArg List.length e
    have b : (lt7.take k).length ≤ 7 := List.length_take_le' k lt7
    rw [List.length_append, List.length_cons] at a
    omega
  unfold canCor
  rw [decide_eq_false h1, decide_eq_false h2, decide_eq_false (by omega)] <;> rfl
theorem law_outer (T : Txt K mg base) {A : Around} {outer : List Env} {s : Shared} {H0 : Hp} {E0 : XK} (hr : Room 9 (A.deeper (envOfC d_law.qual d_law.scope s.heap.objs.size (He.fAd K d_law.at_) (.ref (He.codeOf K d_law.at_))))) :
    ∃ t, PS (bodyX P w K mg base N_law d_law A outer s H0 E0) ((d_law.body).getD 0 noS) t ∧ ∀ (D : Ends) (H : Hp) (sa : Addr) (ns : List Int) (x1 x2 x3 x4 x5 x6 x7 x8 x9 x10 x11 x12 x13 x14 x15 x16 x17 x18 x19 x20 x21 x22 x23 x24 x25 : Option V), SqL K H sa (ns.map V.int) → Tb (TL K) (TG K) H →
      (∀ (x1 x2 x3 x4 x5 x6 x7 x8 x9 x10 x11 x12 x13 x14 x15 x16 x17 x18 x19 x20 x21 x22 x23 x24 x25 : Option V) (H' : Hp), Tb (TL K) (TG K) H' → D.nx [some (.ref sa), x1, x2, x3, x4, x5, x6, x7, x8, x9, x10, x11, x12, x13, x14, x15, x16, x17, x18, x19, x20, x21, x22, x23, x24, x25] H') →
      t D [some (.ref sa), x1, x2, x3, x4, x5, x6, x7, x8, x9, x10, x11, x12, x13, x14, x15, x16, x17, x18, x19, x20, x21, x22, x23, x24, x25] H := by
  have hu := hu_of hr
  have cl_Town := T.cl_Town
  obtain ⟨tst, pst, rst⟩ := law_steps (P := P) (w := w) (E0 := E0) (H0 := H0) T hr
  obtain ⟨ttb, ptb, rtb⟩ := law_tabs (P := P) (w := w) (E0 := E0) (H0 := H0) T hr
  obtain ⟨tss, pss', rss⟩ := law_starts (P := P) (w := w) (E0 := E0) (H0 := H0) T hr
  obtain ⟨tf, pf, rf⟩ := law_f (P := P) (w := w) (E0 := E0) (H0 := H0) T hr
  obtain ⟨tg, pg, rg⟩ := law_g (P := P) (w := w) (E0 := E0) (H0 := H0) T hr
  obtain ⟨th, ph, rh⟩ := law_h (P := P) (w := w) (E0 := E0) (H0 := H0) T hr
  refine ⟨_, (ps_for (passes_of rfl) rfl (pi_list (pg_call (ok_law_rounds T) (hr.mono (by decide)) rfl T.gl_law_rounds px (pa_cons (pv 0) (pa_cons pe_int pa_nil)))) (pg_name (i := 1) sc_law.nd rfl (by first | exact Or.inl rfl | exact Or.inr rfl)) (pss_cons (ps_asg (pe_tup (pa_cons (pe_lc (own := [("k", 23)]) (g := gName 23) (tt := tYes) rfl sc_law.nd (pi_range1 rfl T.fr_range (pa_cons (pe_op op_add pe_int (pg_call (ok_law_roll T) (hr.mono (by decide)) rfl T.gl_law_roll px (pa_cons (pv 1) (pa_cons pe_int pa_nil)))) pa_nil)) (blkOk_by (own := [("k", 23)]) (N := N_law) (sc := d_law.scope) (by decide +kernel)) (fun _ _ _ _ _ => (pg_name (i := 23) sc_law.nd rfl (by first | exact Or.inl rfl | exact Or.inr rfl))) (fun _ _ _ _ _ => pts_nil) (fun _ _ _ _ _ => (pe_ix ix_str pe_str (pv 23) (fun _ _ => rfl)))) (pa_cons (pg_make0 T.mk_Town (ok_Town_init T) (hr.mono (by decide)) rfl T.gl_Town px) (pa_cons pe_dnewT pa_nil)))) (pg_tup rfl (pgs_cons (pg_name (i := 7) sc_law.nd rfl (by first | exact Or.inl rfl | exact Or.inr rfl)) (pgs_cons (pg_name (i := 8) sc_law.nd rfl (by first | exact Or.inl rfl | exact Or.inr rfl)) (pgs_cons (pg_name (i := 9) sc_law.nd rfl (by first | exact Or.inl rfl | exact Or.inr rfl)) pgs_nil)))))
        (pss_cons (ps_for (passes_of rfl) rfl (pi_list (pv 7)) (pg_name (i := 2) sc_law.nd rfl (by first | exact Or.inl rfl | exact Or.inr rfl)) (pss_one (ps_expr (pg_meth (ok_Town_add T) (hr.mono (by decide)) T.cl_Town T.me_Town_add px (pv 8) (pa_cons (pv 2) pa_nil)))))
        (pss_cons pst
        (pss_cons ptb
        (pss_cons pss'
        (pss_cons pf
        (pss_cons pg
        (pss_one ph))))))))), fun D H sa ns x1 x2 x3 x4 x5 x6 x7 x8 x9 x10 x11 x12 x13 x14 x15 x16 x17 x18 x19 x20 x21 x22 x23 x24 x25 hs tB k => ?_⟩
  walk_at "v"
  refine ⟨sa, ns, rfl, hs, fun p q H1 ep eq npq fq g1 => ?_⟩
  refine ⟨p, rfl, ⟨_, SqL.of ep⟩, for_fold V.ref [q] rfl walk_itl (fun _ _ => true) false
    (fun st σ H' => (∃ x1 x2 x3 x4 x5 x6 x7 x8 x9 x10 x11 x12 x13 x14 x15 x16 x17 x18 x19 x20 x21 x22 x23 x24 x25 : Option V, σ = [some (.ref sa), x1, x2, x3, x4, x5, x6, x7, x8, x9, x10, x11, x12, x13, x14, x15, x16, x17, x18, x19, x20, x21, x22, x23, x24, x25]) ∧ Tb (TL K) (TG K) H' ∧ H' p = some (.lst [.ref q]) ∧ (st = false → H' = H1))
    ⟨⟨_, _, _, _, _, _, _, _, _, _, _, _, _, _, _, _, _, _, _, _, _, _, _, _, _, rfl⟩, g1.tb tB, ep, fun _ => rfl⟩ (fun _ σ H' h => SqL.of h.2.2.1) ?_ ?_⟩
  · intro pre y post σ H2 ey h
    have ep2 : pre = [] := by
      cases pre with
      | nil => rfl
      | cons _ t => exact absurd (congrArg List.length ey) (by simp)
    subst ep2
    injection ey with ey _
    subst ey
    obtain ⟨⟨x1, x2, x3, x4, x5, x6, x7, x8, x9, x10, x11, x12, x13, x14, x15, x16, x17, x18, x19, x20, x21, x22, x23, x24, x25, rfl⟩, _, _, eH⟩ := h
    obtain rfl := eH rfl
    walk_at "v"
    refine ⟨q, dice0 (cell1 ns), 7, rfl, eq, by decide, by decide, ?_⟩
    obtain ⟨i7, h7, e7⟩ := roll_nat (dice0 (cell1 ns)) 7 (by decide)
    rw [show (7 : Int) = ((7 : Nat) : Int) from rfl, e7]
    have gq : Go (TL K) (TG K) (fun b => b = q) H2 (upd H2 q (.lst (dvals (rollD (dice0 (cell1 ns)) ((7 : Nat) : Int))))) := Go.set eq plain_lst rfl
    have eq2 : upd H2 q (.lst (dvals (rollD (dice0 (cell1 ns)) ((7 : Nat) : Int)))) q = some (.lst (dvals (rollD (dice0 (cell1 ns)) ((7 : Nat) : Int)))) := upd_same
    have ep2 := gq.keep _ _ ep (by intro _ z; cases z) npq
    have tbq := gq.tb (g1.tb tB)
    generalize rollD (dice0 (cell1 ns)) ((7 : Nat) : Int) = Dc at eq2 ep2 tbq ⊢
    generalize upd H2 q (.lst (dvals Dc)) = H3 at eq2 ep2 tbq ⊢
    refine ⟨_, _, rfl, rfl, ?_⟩
    refine ⟨((1 + i7 : Nat) : Int), congrArg (fun z => [V.int z]) (show (1 : Int) + (i7 : Int) = ((1 + i7 : Nat) : Int) by omega), (by omega), (by omega), fun L hL => ?_⟩
    rw [Int.toNat_natCast]
    generalize hm : 1 + i7 = m7
    have hm7 : m7 ≤ 7 := by omega
    have hm1 : 1 ≤ m7 := by omega
    have qL : q ≠ L := ne_of_none eq2 hL
    have pL : p ≠ L := ne_of_none ep2 hL
    refine lc_it walk_range (fun i H' => i ≤ m7 ∧ H' L = some (.lst ((lt7.take i).map V.str)) ∧ Go (TL K) (TG K) (fun a => a = L) H3 H') ⟨Nat.zero_le _, upd_same, Go.new hL⟩ (fun _ _ _ _ => trivial) ?_ ?_
    · rintro i x H4 H5 hi ⟨_, r1, g4⟩ ⟨rfl, rfl⟩
      obtain ⟨ch, hch, hlt⟩ := lt7_at i (by omega)
      refine ⟨rfl, tYes_ok ?_⟩
      walk_at "v"
      refine ⟨"abcdefg", (0 : Int) + (i : Int), ch, rfl, rfl, (by decide), (by rw [Int.zero_add]; exact hch), ?_⟩
      refine ⟨_, r1, (by rw [List.length_map]; exact thou_lt (Nat.lt_of_le_of_lt (List.length_take_le' i lt7) (by decide))), (by omega), ?_, g4.trans (Go.set r1 plain_lst rfl)⟩
      rw [upd_same, take_snoc hlt, List.map_append] <;> rfl
    rintro H4 ⟨_, eL, g4⟩
    have g4' : Go (TL K) (TG K) (fun _ => False) H3 H4 := g4.drop fun b z => .inr (by rw [z]; exact hL)
    have eq4 := g4'.get eq2
    have ep4 := g4'.get ep2
    have tb4 := g4'.tb tbq
    have csl : (lt7.take m7).length = m7 := by rw [List.length_take]; show min m7 7 = m7; omega
    have csn : (lt7.take m7).Nodup := List.Sublist.nodup (List.take_sublist _ _) lt7_nd
    have css : ∀ n ∈ lt7.take m7, n ∈ lt7 := fun n hn => List.mem_of_mem_take hn
    have cst : ∀ pre n post, lt7.take m7 = pre ++ n :: post → canCor pre n = true := fun _ _ _ e => cor_step e
    generalize lt7.take m7 = cs at eL csl csn css cst
    clear g4 g4' hL gq
    intro m dx hm' hdx ndm
    have gm : Go (TL K) (TG K) (fun _ => False) H4 (upd (upd H4 dx (.own m)) m (.ins (CTwn K) dx [])) := (Go.new hdx).trans (Go.new (by rw [upd_ne ndm.symm]; exact hm'))
    refine ⟨m, dx, rfl, upd_same, fun c d H5 hc hd D5 g5 => ⟨rfl, ?_⟩⟩
    have g45 : Go (TL K) (TG K) (fun _ => False) H4 H5 := (gm.wide.trans g5).drop fun b z => .inr (by rw [z]; exact hm')
    have Lc : L ≠ c := ne_of_none (gm.get eL) hc
    have qc : q ≠ c := ne_of_none (gm.get eq4) hc
    have pc : p ≠ c := ne_of_none (gm.get ep4) hc
    obtain ⟨_, _, d5⟩ := id D5
    refine fun o ho => ?_
    have od : o ≠ d := fun z => (ne_of_none d5 ho) z.symm
    refine ⟨(by show 3 ≤ sizeLine; decide), fun tp htp => ?_⟩
    have g6 : Go (TL K) (TG K) (fun _ => False) H5 (upd (upd H5 o (.dT [])) tp (.tup [.ref L, .ref m, .ref o])) := (Go.new ho).trans (Go.new htp)
    have eo : upd (upd H5 o (.dT [])) tp (.tup [.ref L, .ref m, .ref o]) o = some (.dT []) := by
      rw [upd_ne (ne_of_none (upd_same (a := o)) htp)]
      exact upd_same
    have et : upd (upd H5 o (.dT [])) tp (.tup [.ref L, .ref m, .ref o]) tp = some (.tup [.ref L, .ref m, .ref o]) := upd_same
    have D6 := D5.go g6 id id id
    have g46 := g45.trans g6
    have eL6 := g46.get eL
    have eq6 := g46.get eq4
    have ep6 := g46.get ep4
    have tb6 := g46.tb tb4
    generalize upd (upd H5 o (.dT [])) tp (.tup [.ref L, .ref m, .ref o]) = H6 at eo et D6 eL6 eq6 ep6 tb6 ⊢
    refine ⟨tp, _, rfl, SqT.of et, rfl, _, _, rfl, _, _, rfl, _, _, rfl, rfl, ?_⟩
    walk_at "v"
    clear g46 g6 g45 g5 gm D5 d5 hc hd ho htp hdx hm' eL eq4 ep4 tb4 eq2 ep2 tbq eq ep
    refine ⟨L, rfl, ⟨_, SqL.of eL6⟩, for_fold V.str cs rfl walk_itl (fun l n => l ++ [n]) [] (fun pre σ H' => (∃ x2, σ = [some (.ref sa), some (.ref q), x2, x3, x4, x5, x6, some (.ref L), some (.ref m), some (.ref o), x10, x11, x12, x13, x14, x15, x16, x17, x18, x19, x20, x21, x22, x23, x24, x25]) ∧ TownAt (CTwn K) H' m c d pre [] ∧ Go (TL K) (TG K) (fun a => a = c) H6 H')
      ⟨⟨_, rfl⟩, D6, .refl⟩ (fun _ σ H' h => SqL.of (h.2.2.keep _ _ eL6 (by intro _ z; cases z) Lc)) ?_ ?_⟩
    · intro pre n post σ H' ee h
      rw [foldl_snoc0, List.nil_append] at h ⊢
      obtain ⟨⟨x2, rfl⟩, D7, g7⟩ := h
      obtain ⟨⟨dx7, h1⟩, h2, h3⟩ := id D7
      walk_at "v"
      refine ⟨_, _, _, rfl, h1, rfl, ?_⟩
      walk_at "v"
      exact ⟨m, c, d, pre, [], n, rfl, D7, fun z => (by rw [cst pre n post ee] at z; cases z), fun _ H8 D8 g8 => ⟨⟨_, rfl⟩, D8, g7.trans g8⟩⟩
    rintro σ H7 ⟨⟨x2, rfl⟩, D7, g7⟩
    rw [foldl_snoc0, List.nil_append] at D7
    have W7 : W1 K H7 q p m c d o L cs [] := ⟨D7, g7.keep _ _ eo (by intro _ z; cases z) (fun z => by obtain ⟨_, b, _⟩ := id D6; rw [← z, eo] at b; cases b), g7.keep _ _ eL6 (by intro _ z; cases z) Lc, ⟨_, g7.keep _ _ eq6 (by intro _ z; cases z) qc⟩, g7.keep _ _ ep6 (by intro _ z; cases z) pc, od, Lc, qc, qL, pc, pL, WfT.nil0 csn (by omega), css, (fun z => by rw [z] at csl; simp at csl; omega), g7.tb tb6⟩
    refine rst _ H7 q p m c d o L cs _ _ _ _ _ _ _ _ _ _ _ _ _ _ _ _ _ _ _ _ _ _ W7 fun o' R H8 y3 y16 y17 y18 y19 y20 y21 W8 _ => ?_
    refine rtb _ H8 q p m c d o' L cs R _ _ _ _ _ _ _ _ _ _ _ _ _ _ _ _ _ _ _ _ _ _ W8 fun tb ta Fa H9 W9 T9 => ?_
    refine rss _ H9 q p m c d o' L tb cs R ta Fa _ _ _ _ _ _ _ _ _ _ _ _ _ _ _ _ _ _ _ _ _ W9 T9 fun H10 z5 z10 z11 z22 W10 T10 => ?_
    refine rf _ H10 q p m c d o' L tb cs R ta Fa _ _ _ _ _ _ _ _ _ _ _ _ _ _ _ _ _ _ _ _ _ _ W10 T10 fun kk most wl H11 H12 hk1 hk2 hm0 hm30 hwl W11 ew W12 T12 => ?_
    refine rg _ H12 q p m c d o' L tb wl cs R ta Fa kk most _ _ _ _ _ _ _ _ _ _ _ _ _ _ _ _ _ _ W12 T12 ew (ne_of_none W11.town.cr hwl).symm (ne_of_none W11.cor hwl).symm (fun z => by obtain ⟨_, e⟩ := W11.dice; exact ne_of_none e hwl z.symm) (ne_of_none W11.pl hwl).symm hk2 hm30 fun H13 u6 u15 W13 T13 Ws => ?_
    refine rh _ H13 q p m c d o' L wl cs R kk most _ _ _ _ _ _ _ _ _ _ _ _ _ _ _ _ _ _ _ W13 Ws hk1 hk2 hm0 fun H14 W14 => ?_
    exact ⟨⟨_, _, _, _, _, _, _, _, _, _, _, _, _, _, _, _, _, _, _, _, _, _, _, _, _, rfl⟩, W14.tb, W14.pl, fun z => by cases z⟩
  · rintro σ H2 ⟨⟨x1, x2, x3, x4, x5, x6, x7, x8, x9, x10, x11, x12, x13, x14, x15, x16, x17, x18, x19, x20, x21, x22, x23, x24, x25, rfl⟩, t2, _, _⟩
    exact k _ _ _ _ _ _ _ _ _ _ _ _ _ _ _ _ _ _ _ _ _ _ _ _ _ H2 t2
end
end K1
namespace K1
open PySem PySem.Spec PyProof.Rows L2 Fy
open GxR (TabG Tabbed)
def sp_law (K : PySem.W.Frag) : Sp := fun vs H Q _ => ∃ (sa : Addr) (ns : List Int), vs = [.ref sa] ∧ SqL K H sa (ns.map V.int) ∧ Tb (TL K) (TG K) H ∧ ∀ H', Q (.bl true) H'
section
variable {P : Program} {w : World} {K : PySem.W.Frag} {mg : Str → Option Value} {base : Heap}
theorem ok_law (T : Txt K mg base) {fd : FuncData} (F : FunD K d_law.name d_law.qual d_law.params d_law.body d_law.scope (d_law.dvs K) (d_law.kws K) (He.fAd K d_law.at_) fd) : FnOk P w K mg base (L2.CX P w) 10 (He.fAd K d_law.at_) fd ["script"] (sp_law K) := by
  refine fnOk_of F sc_law (fun vs H Q E h => ?_) (fun A outer s H vs Q E hr h => ?_)
  · obtain ⟨sa, ns, rfl, _⟩ := h
    rfl
  obtain ⟨sa, ns, rfl, hs, tb, k⟩ := h
  obtain ⟨t0, p0, r0⟩ := law_outer (P := P) (w := w) (E0 := E) (H0 := H) T hr
  refine ⟨_, pss_cons p0 (pss_one (ps_ret (pg_call0 (ok_law_plain T) (hr.mono (by decide)) rfl T.gl_law_plain px))), ?_⟩
  refine r0 _ H sa ns _ _ _ _ _ _ _ _ _ _ _ _ _ _ _ _ _ _ _ _ _ _ _ _ _ hs tb fun x1 x2 x3 x4 x5 x6 x7 x8 x9 x10 x11 x12 x13 x14 x15 x16 x17 x18 x19 x20 x21 x22 x23 x24 x25 H1 tb1 => ?_
  exact ⟨rfl, tb1, k⟩
end
theorem law_at {l : PySem.W.OpenLaw} {w : World} {K : PySem.W.Frag} {h : Heap} {mg : Str → Option Value} {f : Addr} (KX : K.In h) (G : h.Ns mainGlobals mg) (c : He.SaysX fa fn [] tf ex w h K) (hmg : mg "law" = some (.ref f)) : LamX.LawAtS l w K (L2.CX l.prog w) 10 63 "script" mg f h := by
  have e0 : mg "law" = some (.ref (He.fAd K d_law.at_)) := He.glo_ok KX G (c.t.d.facts (f := .glo "law") (by simp [fa]))
  obtain ⟨fd, D⟩ := c.t.d.defs (d := d_law) (by simp [fn])
  have hf : f = He.fAd K d_law.at_ := Value.ref.inj (Option.some.inj (hmg.symm.trans e0))
  have hb := FunD.bindsA (ps := ["script"]) D fun _ _ _ _ _ _ us hl => match us, hl with | [_], _ => rfl
  refine lawAt_of (TL := TL K) (TG := TG K) (sp := sp_law K) KX c hf (fun s u => hb s [u] rfl) (fun q hq => ?_) (fun q hq => ?_) (fun H a ns h1 h2 h3 h4 => ⟨a, ns, rfl, h3, h4, fun _ => rfl⟩) fun base KB GB TB => ok_law (txt_of KX G c TB) D
  · obtain ⟨a, ha, e⟩ := tl_mem hq
    exact ⟨a, List.mem_append_left _ ha, e⟩
  · obtain ⟨a, ha, rfl⟩ := List.mem_map.mp hq
    exact ⟨a, List.mem_append_right _ ha, rfl⟩
end K1
set_option maxHeartbeats 0
open PySem PySem.W PySem.Calls PyProof.Rows
theorem PySem.Challenge.cw_firestack_k01_streets_of_a_town_holds : PySem.Challenge.rw_firestack_k01_streets_of_a_town.Holds := by
  w_on; o_law
  refine HandSHeadRun.head_any (r := K1.R) (q := view K1.R.prog [15]) (H := K1.hk) (ob := K1.ob) (M := 8000) (loose := K1.loose) (d := HandSHeadRun.topDef K1.R.prog 15) (kwd := []) K1.ob_eq
    (by kernel_rfl) (fun s => by kernel_rfl) K1.run (by kernel_rfl) (by kernel_rfl) (by kernel_rfl) (by rfl) (by first | assumption | decide +kernel) (by decide +kernel) ⟨rfl, rfl, rfl, rfl, rfl, by decide +kernel⟩ ?hw ?hc
  case hw => w_witness2
  case hc =>
    refine LamX.walk_ofTsE (l := PySem.Challenge.rw_firestack_k01_streets_of_a_town) (n := 63) (k := 10) (x := "script") (CX := fun w => L2.CX (PySem.Challenge.rw_firestack_k01_streets_of_a_town).prog w) rfl (by decide) (by kernel_rfl) ⟨rfl, by decide, by decide⟩ ?F (fun _ _ _ _ _ z => Fy.cx_false z)
    intro w mg fa h Y G hmg0
    obtain ⟨K, KX, c⟩ := Y
    have hmg : mg ("law" : PySem.Str) = some (.ref fa) := by
      have e : (HandSHeadRun.topDef K1.R.prog 15).name = ("law" : PySem.Str) := by kernel_rfl
      rw [← e]
      exact hmg0
    exact ⟨K, KX, K1.law_at KX G c hmg⟩
