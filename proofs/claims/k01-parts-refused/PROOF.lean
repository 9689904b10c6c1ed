import PyProof.Rows.All
import Wide.All
import OpenK.AllK
import Wide.FinOn
import HandS.Base
import HandS.Call
import HandS.List
import HandS.Comp
import HandS.Dict
import HandS.Iter
import HandS.Text
import HandS.Ends
import HandS.More
import HandS.Exc
import HandS.Words
import HandS.WordsExc
import HandS.IsInst
import HandS.Defaults
import HandS.TupAny
import HandS.Lambda
import HandS.Deep
import HandS.Zip
import HandS.Set
import HandS.SetFor
import PyProof.Rows.SortShellAny
import KE.GoesMore
import KE.GoesEnum
import KE.KDictPairs
import HandS.Small
import HandS.SortKw
import KE.DataMinMax
import PyProof.ListStr
import PyProof.SetRoads
import HandS.Head0
import HandS.Head1
import HandS.Head2
import HandS.HeadEnd
import HandS.HeadHook1
import HandS.HeadHook2
import HandS.HeadHook3
import HandS.HeadHook4
import HandS.RaiseMore
import HandS.Strs
import PyProof.CallStr
import KE.KDictOf
import HandS.Codes
import HandS.TupSets
import KE.SortKeyHeap
import HandS.SetKeys
import KE.FramesApart
import HandS.Nested
import HandS.NestedK
import HandS.TryOnly
import HandS.Finally
import HandS.SuiteRaise
import KE.KExcRaise
import PyProof.ExcBaseAll.ValueError
import HandS.Flow
import HandS.TupLe
import HandS.ExcIs
import HandS.ExcField
import HandS.ExcInit
import HandS.ClsMeth
import KE.SortData
import PyProof.StrBlock2
import HandS.ReplaceLit
import KE.KDflt
import HandS.HeadWalk
import PySem.Challenge.RW_partdeeds_k01_parts_refused
set_option Elab.async false
set_option linter.all false
set_option maxRecDepth 100000
set_option maxHeartbeats 4000000
/-! L3v: new tuples, told with their object: it has no dict of its own. -/
namespace L3
open PySem PySem.Spec PyProof.Rows L2
section
variable {X : Cx} {pos : Pos}
/-- a new tuple's object -/
abbrev tupO (its : List Value) : Obj := { cls := .type "tuple", data := .seq its.toArray }
/-- a new tuple comes: a tuple that is known as an object without a dict -/
def NewT (H : Hp) (xs : List V) (Q : VK) : Prop := ∀ (p : Addr) (o : Obj), H p = none → o.dict = none → Q (.ref p) (upd H p (.frz o (.tup xs)))
theorem laidT {pins : List (Addr × Obj)} {σ : L2.St} {H : Hp} {s : Shared} {xs : List V} {its : List Value} {Q : VK} (I : Inv X pins σ H s) (hz : xs.length ≤ sizeLine) (r : Vals xs its) (q : NewT H xs Q) :
    EP X pins σ Q (.ref s.heap.objs.size) { s with heap := s.heap.push (tupO its) } :=
  ⟨.ref s.heap.objs.size, _, I.laid (t' := s.toks) (o := .frz (tupO its) (.tup xs)) (fun _ _ e => Heap.get?_push_of_some _ e) (Nat.le_refl _) ⟨Heap.get?_push_size _ rfl, ⟨hz, its, r, IsTup.new _ _⟩⟩, rfl, q _ _ (I.hok.fresh (Nat.le_refl _)) rfl⟩
def tTupF (t : TA) : TE := fun σ H Q => t σ H fun xs H1 => xs.length ≤ sizeLine ∧ NewT H1 xs Q
theorem pe_tupF {es : List Expr} {t : TA} {x1} (h : PA X es t) : PE X (.Tuple es x1 pos) (tTupF t) :=
  ⟨fun pins s σ H Q I hq => wpAny_Tuple_spliced (thn (h.run pos pins s σ H _ I hq) fun us s1 ⟨xs, H1, I1, r, z, q⟩ => ⟨by rw [← r.length]; exact z, laidT I1 z r q⟩)⟩
def rCatF (K : PySem.W.Frag) : R2 := fun x y H Q => ∃ a b xs ys, x = .ref a ∧ y = .ref b ∧ SqT K H a xs ∧ SqT K H b ys ∧ xs.length + ys.length ≤ sizeLine ∧
  (xs = [] → Q (.ref b) H) ∧ (xs ≠ [] → ys = [] → Q (.ref a) H) ∧ (xs ≠ [] → ys ≠ [] → NewT H (xs ++ ys) Q)
theorem op_catF : OpR X (binaryOp .Add) (rCatF X.K) := by
  intro pins s σ H x y v u Q I rx ry ⟨a, b, xs, ys, ex, ey, ha, hb, hz, q0, q1, q2⟩
  subst ex ey
  by_cases hx : xs = []
  · exact op_catA pins s σ H _ _ v u Q I rx ry ⟨a, b, xs, ys, rfl, rfl, ha, hb, hz, q0, q1, fun h => absurd hx h⟩
  · cases rx
    cases ry
    obtain ⟨its, r1, p1, _⟩ := I.tuple ha
    obtain ⟨its2, r2, p2, _⟩ := I.tuple hb
    exact HT.cat_tup p1 p2 (fun z => hx (r1.nil_iff.mp z)) (fun z => ⟨.ref a, H, I, rfl, q1 hx (r2.nil_iff.mp z)⟩) (fun z => laidT I (by rw [List.length_append]; exact hz) (r1.append r2) (q2 hx fun w => z (r2.nil_iff.mpr w)))
      (by rw [← r1.length, ← r2.length]; exact hz)
def rSlF (K : PySem.W.Frag) : V → Option Int → Option Int → Hp → VK → Prop := fun x lo hi H Q => ∃ a xs, x = .ref a ∧ SqT K H a xs ∧
  (HT.sIx xs.length 0 lo = 0 ∧ HT.sIx xs.length xs.length hi = xs.length → Q (.ref a) H) ∧ (¬ (HT.sIx xs.length 0 lo = 0 ∧ HT.sIx xs.length xs.length hi = xs.length) → NewT H (cutV xs lo hi) Q)
theorem sl_tupF : SlR X (rSlF X.K) := by
  intro pins s σ H x v vl vu lo hi sl Q I rx hs pl pu ⟨a, xs, ex, hx, q1, q2⟩
  subst ex
  by_cases hw : HT.sIx xs.length 0 lo = 0 ∧ HT.sIx xs.length xs.length hi = xs.length
  · exact sl_tupA pins s σ H _ v vl vu lo hi sl Q I rx hs pl pu ⟨a, xs, rfl, hx, q1, fun h => absurd hw h⟩
  · cases rx
    obtain ⟨its, r, ht, hz⟩ := I.tuple hx
    have hn : its.toArray.size = xs.length := by rw [List.size_toArray, r.length]
    refine ⟨"tuple", _, PyProof.Rows.slot_tuple_getitem.lookup, ht.typeIs, HT.getItem_tuple_cut ht hs pl pu (by rw [hn]; exact hw) ?_ (by rw [hn]; exact hz)⟩
    rw [hn]
    exact laidT I (Nat.le_trans (cutV_length xs lo hi) hz) ((r.drop _).take _) (q2 hw)
theorem call_tupleF : CallR X (.type "tuple") (fun xs H Q => ∃ p ys, xs = [.ref p] ∧ ((SqL X.K H p ys ∧ NewT H ys Q) ∨ (SqT X.K H p ys ∧ Q (.ref p) H))) := by
  intro pins s σ H xs us Q I r ⟨p, ys, ex, h⟩
  subst ex
  rcases h with ⟨hq, q⟩ | ⟨hq, q⟩
  · obtain ⟨u, rfl, rx⟩ := vals1 r
    cases rx
    obtain ⟨its, r', pl, hz⟩ := I.list hq
    have hn := r'.length
    refine call_tuple_list pl.isList (fun g kp => ?_) (by simp only [List.size_toArray]; omega)
    exact laidT (I.kept (t' := s.toks) kp) hz r' q
  · exact call_tuple_of pins s σ H _ us Q I r ⟨p, ys, rfl, .inr ⟨hq, q⟩⟩
end
end L3
/-! L3: readings over data. Data that never changes is by value (D); what changes stands in a store Mu. -/
namespace L3
open PySem PySem.Spec PyProof.Rows L2

/-- data by value; ref: what stands in the store, or is handed on unread -/
inductive D where
  | non | bl (b : Bool) | int (i : Int) | str (x : Str) | tup (ds : List D) | lst (ds : List D) | dct (kvs : List (Key × D)) | ref (a : Addr) | ty (n : String) | fl (ns : List Int)

instance : Inhabited D := ⟨.non⟩

def TupAt (K : PySem.W.Frag) (H : Hp) (N : Addr → Prop) (a : Addr) (vs : List V) : Prop := (∃ o, H a = some (.frz o (.tup vs)) ∧ o.dict = none ∧ ¬ N a) ∨
  ∃ (o : Obj) (its : Array Value) (n : Nat), K.lookup a = some o ∧ o.cls = .type "tuple" ∧ o.dict = none ∧ o.data = .seq its n ∧ its.size ≤ sizeLine ∧ Vals vs its.toList
def LstAt (H : Hp) (N : Addr → Prop) (a : Addr) (vs : List V) : Prop := H a = some (.lst vs) ∧ ¬ N a
/-- a list of ints that was handed in, and that nobody changes -/
def FlAt (K : PySem.W.Frag) (H : Hp) (N : Addr → Prop) (a : Addr) (ns : List Int) : Prop := (Rd H a (.lst (ns.map V.int)) ∧ ¬ N a) ∨
  ∃ (o : Obj) (its : Array Value) (n : Nat), K.lookup a = some o ∧ o.cls = .type "list" ∧ o.dict = none ∧ o.data = .seq its n ∧ its.size ≤ sizeLine ∧ Vals (ns.map V.int) its.toList
def DctAt (H : Hp) (N : Addr → Prop) (a : Addr) (vs : List (Key × V)) : Prop := H a = some (.dK vs) ∧ ¬ N a

mutual
def Rep (K : PySem.W.Frag) (H : Hp) (N : Addr → Prop) : D → V → Prop
  | .non, v => v = .non
  | .bl b, v => v = .bl b
  | .int i, v => v = .int i
  | .str x, v => v = .str x
  | .tup ds, v => ∃ a vs, v = .ref a ∧ TupAt K H N a vs ∧ Reps K H N ds vs
  | .lst ds, v => ∃ a vs, v = .ref a ∧ LstAt H N a vs ∧ Reps K H N ds vs
  | .dct kvs, v => ∃ a vs, v = .ref a ∧ DctAt H N a vs ∧ Repk K H N kvs vs
  | .ref a, v => v = .ref a
  | .ty n, v => v = .ty n
  | .fl ns, v => ∃ a, v = .ref a ∧ FlAt K H N a ns
def Reps (K : PySem.W.Frag) (H : Hp) (N : Addr → Prop) : List D → List V → Prop
  | [], vs => vs = []
  | d :: ds, vs => ∃ v ws, vs = v :: ws ∧ Rep K H N d v ∧ Reps K H N ds ws
def Repk (K : PySem.W.Frag) (H : Hp) (N : Addr → Prop) : List (Key × D) → List (Key × V) → Prop
  | [], vs => vs = []
  | (k, d) :: ds, vs => ∃ v ws, vs = (k, v) :: ws ∧ Rep K H N d v ∧ Repk K H N ds ws
end

/-- the object at a is a dict of these entries -/
def DtO (P : Program) (w : World) (a : Addr) (xs : List (List Str × Addr × Value)) : HO := .ext fun h => ∃ o es ep, h.get? a = some o ∧ o.ExactDict ∧ o.data = .dict es ep ∧ es.toList = xs.map (entryOfKey (tupleKind (PySem.strKind P w)))
/-- the object at a is o -/
def ObjO (a : Addr) (o : Obj) : HO := .ext fun h => h.get? a = some o
/-- what changes -/
inductive Cell where
  | lst (ds : List D)
  | dct (kvs : List (Key × D))
  | ins (C dx : Addr) (fs : List (Str × D))
  /-- a dict that is walked over: read, not written -/
  | dfz (od : Obj) (vs : List (Key × V)) (kvs : List (Key × D))
  /-- a def's table of its lambdas' code objects, all of one name -/
  | tab (q : Str)
  /-- an exception's own dict -/
  | xd (vs : List (Str × V)) (fs : List (Str × D))
  /-- a dict whose keys are tuples of texts: they alone are told -/
  | dT (P : Program) (w : World) (rows : List (List Str))
  /-- a lambda: its object, its code's address and name, the tuple of its defaults -/
  | fnc (o : Obj) (c : Addr) (q : Str) (t : Option (Addr × Obj))
  /-- a captured name's cell, known for a while: its object, what it holds -/
  | cel (o : Obj) (v : V) (d : D)
abbrev Mu := Addr → Option Cell
def Mu.put (m : Mu) (a : Addr) (c : Cell) : Mu := fun b => if b = a then some c else m b
def Mu.del (m : Mu) (a : Addr) : Mu := fun b => if b = a then none else m b
theorem Mu.put_same {m : Mu} {a : Addr} {c : Cell} : m.put a c a = some c := by unfold Mu.put; rw [if_pos rfl]
theorem Mu.put_ne {m : Mu} {a b : Addr} {c : Cell} (h : b ≠ a) : m.put a c b = m b := by unfold Mu.put; rw [if_neg h]
theorem Mu.put_put {m : Mu} {a : Addr} {c d : Cell} : (m.put a c).put a d = m.put a d := by funext b; unfold Mu.put; split <;> rfl
theorem Mu.del_same {m : Mu} {a : Addr} : m.del a a = none := by unfold Mu.del; rw [if_pos rfl]
theorem Mu.del_ne {m : Mu} {a b : Addr} (h : b ≠ a) : m.del a b = m b := by unfold Mu.del; rw [if_neg h]
def Repf (K : PySem.W.Frag) (H : Hp) (N : Addr → Prop) : List (Str × D) → List (Str × V) → Prop
  | [], vs => vs = []
  | (k, d) :: ds, vs => ∃ v ws, vs = (k, v) :: ws ∧ Rep K H N d v ∧ Repf K H N ds ws
def CellOk (K : PySem.W.Frag) (H : Hp) (N : Addr → Prop) (m : Mu) (a : Addr) : Cell → Prop
  | .lst ds => ∃ vs, H a = some (.lst vs) ∧ Reps K H N ds vs
  | .dct kvs => ∃ vs, H a = some (.dK vs) ∧ Repk K H N kvs vs
  | .ins C dx fs => ∃ vs, H a = some (.ins C dx vs) ∧ Repf K H N fs vs ∧ H dx = some (.own a) ∧ m dx = none
  | .dfz od vs kvs => H a = some (.frz od (.dK vs)) ∧ Repk K H N kvs vs
  | .tab q => ∃ ps : Array Value, H a = some (.tbl ps) ∧ TriplesOk ps.toList ∧ ∀ (pos : Pos) (cv : Value), codeAmong pos ps.toList = some cv → ∃ c, cv = .ref c ∧ H c = some (LamX.CodeO c q) ∧ ¬ N c
  | .xd vs fs => H a = some (.xd vs) ∧ Repf K H N fs vs
  | .dT P w rows => ∃ xs : List (List Str × Addr × Value), H a = some (DtO P w a xs) ∧ (a == sysModules) = false ∧ xs.map (·.1) = rows ∧ rows.Nodup ∧ ∀ x ∈ xs, TupAt K H N x.2.1 (x.1.map V.str)
  | .fnc o c q t => H a = some (ObjO a o) ∧ H c = some (LamX.CodeO c q) ∧ ¬ N c ∧ ∀ p, t = some p → H p.1 = some (ObjO p.1 p.2) ∧ ¬ N p.1
  | .cel o v d => H a = some (ObjO a o) ∧ (∃ u, o.data = .cell (some u) ∧ RelV v u) ∧ Rep K H N d v
/-- what data may not stand at: what is hidden (B), what is in the store -/
def Ban (B : Addr → Prop) (m : Mu) : Addr → Prop := fun a => B a ∨ m a ≠ none
structure Wd (K : PySem.W.Frag) (H : Hp) (B : Addr → Prop) (m : Mu) : Prop where
  cell : ∀ a c, m a = some c → CellOk K H (Ban B m) m a c
  hid : ∀ a, B a → H a ≠ none ∧ m a = none
/-- what isn't in the store stays, and stays out of it -/
def Step (H : Hp) (m : Mu) (H' : Hp) (m' : Mu) : Prop := ∀ x o, H x = some o → m x = none → H' x = some o ∧ m' x = none
theorem Step.refl (H : Hp) (m : Mu) : Step H m H m := fun _ _ h1 h2 => ⟨h1, h2⟩
theorem Step.trans {H H1 H2 : Hp} {m m1 m2 : Mu} (a : Step H m H1 m1) (b : Step H1 m1 H2 m2) : Step H m H2 m2 := fun x o h1 h2 =>
  let ⟨p, q⟩ := a x o h1 h2
  b x o p q
/-- all that is there stays -/
theorem Step.same {H H' : Hp} {m : Mu} (e : ∀ x o, H x = some o → H' x = some o) : Step H m H' m := fun x o h1 h2 => ⟨e x o h1, h2⟩

theorem Rd.mono {H H' : Hp} {a : Addr} {u : HO} (h : Rd H a u) (k : ∀ o, H a = some o → H' a = some o) : Rd H' a u := by
  rcases h with h | ⟨o, h⟩
  · exact .inl (k _ h)
  · exact .inr ⟨o, k _ h⟩
theorem Rd.some {H : Hp} {a : Addr} {u : HO} (h : Rd H a u) : ∃ o, H a = some o := by
  rcases h with h | ⟨o, h⟩
  · exact ⟨_, h⟩
  · exact ⟨_, h⟩
/-- how places are carried on -/
def Carry (H : Hp) (N : Addr → Prop) (H' : Hp) (N' : Addr → Prop) : Prop := ∀ a o, H a = some o → ¬ N a → H' a = some o ∧ ¬ N' a
theorem Carry.rd {H H' : Hp} {N N' : Addr → Prop} (c : Carry H N H' N') {a : Addr} {u : HO} (h : Rd H a u) (n : ¬ N a) : Rd H' a u ∧ ¬ N' a :=
  ⟨Rd.mono h fun o e => (c a o e n).1, let ⟨o, e⟩ := Rd.some h; (c a o e n).2⟩
section
variable {K : PySem.W.Frag} {H H' : Hp} {N N' : Addr → Prop}
theorem TupAt.carry (c : Carry H N H' N') {a : Addr} {vs : List V} (h : TupAt K H N a vs) : TupAt K H' N' a vs := by
  rcases h with ⟨o, h, d, n⟩ | h
  · exact .inl ⟨o, (c a _ h n).1, d, (c a _ h n).2⟩
  · exact .inr h
theorem LstAt.carry (c : Carry H N H' N') {a : Addr} {vs : List V} (h : LstAt H N a vs) : LstAt H' N' a vs := c a _ h.1 h.2
theorem DctAt.carry (c : Carry H N H' N') {a : Addr} {vs : List (Key × V)} (h : DctAt H N a vs) : DctAt H' N' a vs := c a _ h.1 h.2
theorem TupAt.sq {a : Addr} {vs : List V} (h : TupAt K H N a vs) : SqT K H a vs := by
  rcases h with ⟨o, h, _⟩ | ⟨o, its, n, h1, h2, _, h3⟩
  · exact .inl (.inr ⟨o, h⟩)
  · exact .inr ⟨o, its, n, h1, h2, h3⟩
theorem LstAt.sq {a : Addr} {vs : List V} (h : LstAt H N a vs) : SqL K H a vs := .inl (.inl h.1)
theorem FlAt.carry (c : Carry H N H' N') {a : Addr} {ns : List Int} (h : FlAt K H N a ns) : FlAt K H' N' a ns := by
  rcases h with ⟨h, n⟩ | h
  · exact .inl (c.rd h n)
  · exact .inr h
theorem FlAt.sq {a : Addr} {ns : List Int} (h : FlAt K H N a ns) : SqL K H a (ns.map V.int) := h.imp (·.1) id
mutual
theorem Rep.carry (c : Carry H N H' N') : ∀ (d : D) (v : V), Rep K H N d v → Rep K H' N' d v
  | .non, _, h => by simpa only [Rep] using h
  | .bl _, _, h => by simpa only [Rep] using h
  | .int _, _, h => by simpa only [Rep] using h
  | .str _, _, h => by simpa only [Rep] using h
  | .ref _, _, h => by simpa only [Rep] using h
  | .ty _, _, h => by simpa only [Rep] using h
  | .fl ns, v, h => by
    simp only [Rep] at h ⊢
    obtain ⟨a, e, t⟩ := h
    exact ⟨a, e, t.carry c⟩
  | .tup ds, v, h => by
    simp only [Rep] at h ⊢
    obtain ⟨a, vs, e, t, r⟩ := h
    exact ⟨a, vs, e, t.carry c, Reps.carry c ds vs r⟩
  | .lst ds, v, h => by
    simp only [Rep] at h ⊢
    obtain ⟨a, vs, e, t, r⟩ := h
    exact ⟨a, vs, e, t.carry c, Reps.carry c ds vs r⟩
  | .dct ds, v, h => by
    simp only [Rep] at h ⊢
    obtain ⟨a, vs, e, t, r⟩ := h
    exact ⟨a, vs, e, t.carry c, Repk.carry c ds vs r⟩
theorem Reps.carry (c : Carry H N H' N') : ∀ (ds : List D) (vs : List V), Reps K H N ds vs → Reps K H' N' ds vs
  | [], _, h => by simpa only [Reps] using h
  | d :: ds, vs, h => by
    simp only [Reps] at h ⊢
    obtain ⟨v, ws, e, r, rs⟩ := h
    exact ⟨v, ws, e, Rep.carry c d v r, Reps.carry c ds ws rs⟩
theorem Repk.carry (c : Carry H N H' N') : ∀ (ds : List (Key × D)) (vs : List (Key × V)), Repk K H N ds vs → Repk K H' N' ds vs
  | [], _, h => by simpa only [Repk] using h
  | (k, d) :: ds, vs, h => by
    simp only [Repk] at h ⊢
    obtain ⟨v, ws, e, r, rs⟩ := h
    exact ⟨v, ws, e, Rep.carry c d v r, Repk.carry c ds ws rs⟩
end
theorem Repf.carry (c : Carry H N H' N') : ∀ (ds : List (Str × D)) (vs : List (Str × V)), Repf K H N ds vs → Repf K H' N' ds vs
  | [], _, h => h
  | (k, d) :: ds, vs, h => by
    obtain ⟨v, ws, e, r, rs⟩ := h
    exact ⟨v, ws, e, Rep.carry c d v r, Repf.carry c ds ws rs⟩
end
theorem Step.carry {H H' : Hp} {m m' : Mu} {B : Addr → Prop} (s : Step H m H' m') : Carry H (Ban B m) H' (Ban B m') := fun a o h n =>
  have hm : m a = none := by
    cases e : m a with
    | none => rfl
    | some c => exact absurd (.inr (by rw [e]; exact fun z => nomatch z)) n
  let ⟨p, q⟩ := s a o h hm
  ⟨p, fun z => z.elim (fun b => n (.inl b)) fun z => z q⟩

section
variable {K : PySem.W.Frag} {H H' : Hp} {N : Addr → Prop}
theorem reps_nil {vs : List V} : Reps K H N [] vs ↔ vs = [] := by simp only [Reps]
theorem reps_cons {d : D} {ds : List D} {vs : List V} : Reps K H N (d :: ds) vs ↔ ∃ v ws, vs = v :: ws ∧ Rep K H N d v ∧ Reps K H N ds ws := by simp only [Reps]
theorem Reps.len : ∀ {ds : List D} {vs : List V}, Reps K H N ds vs → vs.length = ds.length
  | [], _, h => by rw [reps_nil.mp h]; rfl
  | d :: ds, _, h => by
    obtain ⟨v, ws, rfl, _, r⟩ := reps_cons.mp h
    rw [List.length_cons, List.length_cons, Reps.len r]
theorem Reps.get : ∀ {ds : List D} {vs : List V}, Reps K H N ds vs → ∀ (i : Nat) (d : D), ds[i]? = some d → ∃ v, vs[i]? = some v ∧ Rep K H N d v
  | [], _, _, i, d, e => by simp at e
  | x :: ds, _, h, i, d, e => by
    obtain ⟨v, ws, rfl, r, rs⟩ := reps_cons.mp h
    cases i with
    | zero => simp at e; subst e; exact ⟨v, rfl, r⟩
    | succ i => simpa using Reps.get rs i d (by simpa using e)
theorem Reps.mk : ∀ {ds : List D} {vs : List V}, vs.length = ds.length → (∀ (i : Nat) d v, ds[i]? = some d → vs[i]? = some v → Rep K H N d v) → Reps K H N ds vs
  | [], [], _, _ => reps_nil.mpr rfl
  | [], _ :: _, h, _ => by simp at h
  | _ :: _, [], h, _ => by simp at h
  | d :: ds, v :: vs, h, k => reps_cons.mpr ⟨v, vs, rfl, k 0 d v rfl rfl, Reps.mk (by simpa using h) fun i d' v' a b => k (i + 1) d' v' (by simpa using a) (by simpa using b)⟩
theorem Reps.app : ∀ {ds es : List D} {vs ws : List V}, Reps K H N ds vs → Reps K H N es ws → Reps K H N (ds ++ es) (vs ++ ws)
  | [], _, _, _, a, b => by rw [reps_nil.mp a]; exact b
  | d :: ds, _, _, _, a, b => by
    obtain ⟨v, us, rfl, r, rs⟩ := reps_cons.mp a
    exact reps_cons.mpr ⟨v, us ++ _, rfl, r, Reps.app rs b⟩
theorem Reps.one {d : D} {v : V} (h : Rep K H N d v) : Reps K H N [d] [v] := reps_cons.mpr ⟨v, [], rfl, h, reps_nil.mpr rfl⟩
theorem Reps.take {ds : List D} {vs : List V} (h : Reps K H N ds vs) (n : Nat) : Reps K H N (ds.take n) (vs.take n) := by
  refine Reps.mk (by simp [h.len]) fun i d v a b => ?_
  rw [List.getElem?_take] at a b
  split at a
  · obtain ⟨v', e, r⟩ := h.get i d a
    rw [if_pos (by assumption), e] at b
    cases b; exact r
  · cases a
theorem Reps.drop {ds : List D} {vs : List V} (h : Reps K H N ds vs) (n : Nat) : Reps K H N (ds.drop n) (vs.drop n) := by
  refine Reps.mk (by simp [h.len]) fun i d v a b => ?_
  rw [List.getElem?_drop] at a b
  obtain ⟨v', e, r⟩ := h.get _ d a
  rw [e] at b
  cases b; exact r
theorem Reps.set {ds : List D} {vs : List V} (h : Reps K H N ds vs) {d : D} {v : V} (hd : Rep K H N d v) (n : Nat) : Reps K H N (ds.set n d) (vs.set n v) := by
  refine Reps.mk (by simp [h.len]) fun i d' v' a b => ?_
  rw [List.getElem?_set] at a b
  have := h.len
  by_cases e : n = i
  · subst e
    rw [if_pos rfl] at a b
    split at a
    · cases a
      rw [if_pos (by omega)] at b
      cases b; exact hd
    · cases a
  · rw [if_neg e] at a b
    obtain ⟨v2, e2, r⟩ := h.get _ d' a
    rw [e2] at b
    cases b; exact r
/-- the form of the value -/
theorem rep_tup {ds : List D} {v : V} : Rep K H N (.tup ds) v ↔ ∃ a vs, v = .ref a ∧ TupAt K H N a vs ∧ Reps K H N ds vs := by simp only [Rep]
theorem rep_lst {ds : List D} {v : V} : Rep K H N (.lst ds) v ↔ ∃ a vs, v = .ref a ∧ LstAt H N a vs ∧ Reps K H N ds vs := by simp only [Rep]
theorem rep_dct {ds : List (Key × D)} {v : V} : Rep K H N (.dct ds) v ↔ ∃ a vs, v = .ref a ∧ DctAt H N a vs ∧ Repk K H N ds vs := by simp only [Rep]
theorem rep_non {v : V} : Rep K H N .non v ↔ v = .non := by simp only [Rep]
theorem rep_bl {b : Bool} {v : V} : Rep K H N (.bl b) v ↔ v = .bl b := by simp only [Rep]
theorem rep_int {i : Int} {v : V} : Rep K H N (.int i) v ↔ v = .int i := by simp only [Rep]
theorem rep_str {x : Str} {v : V} : Rep K H N (.str x) v ↔ v = .str x := by simp only [Rep]
theorem rep_ref {a : Addr} {v : V} : Rep K H N (.ref a) v ↔ v = .ref a := by simp only [Rep]
theorem rep_ty {n : String} {v : V} : Rep K H N (.ty n) v ↔ v = .ty n := by simp only [Rep]
theorem rep_fl {ns : List Int} {v : V} : Rep K H N (.fl ns) v ↔ ∃ a, v = .ref a ∧ FlAt K H N a ns := by simp only [Rep]
/-- dicts -/
theorem Repk.val : ∀ {ds : List (Key × D)} {vs : List (Key × V)}, Repk K H N ds vs → ∀ k, (valV vs k = none ∧ (ds.find? fun p => decide (p.1 = k)) = none) ∨ ∃ d v, (ds.find? fun p => decide (p.1 = k)) = some (k, d) ∧ valV vs k = some v ∧ Rep K H N d v
  | [], _, h, k => by simp only [Repk] at h; subst h; exact .inl ⟨rfl, rfl⟩
  | (j, d) :: ds, _, h, k => by
    simp only [Repk] at h
    obtain ⟨v, ws, rfl, r, rs⟩ := h
    by_cases e : j = k
    · subst e
      exact .inr ⟨d, v, by simp, valV_pos rfl, r⟩
    · have := Repk.val rs k
      rw [valV_neg (by exact e)]
      simpa [e] using this
end
end L3
namespace L3
open PySem PySem.Spec PyProof.Rows L2
mutual
/-- data of the top as it is written -/
def repB (K : PySem.W.Frag) : D → Value → Bool
  | .non, .none => true
  | .bl b, .bool c => b == c
  | .int i, .int j _ => decide (i = j)
  | .str x, .str y _ => decide (x = y)
  | .tup ds, .ref a => match K.lookup a with
    | some ⟨.type t, none, .seq its _, _⟩ => decide (t = "tuple") && (Nat.ble its.size 1000 && repsB K ds its.toList)
    | _ => false
  | _, _ => false
def repsB (K : PySem.W.Frag) : List D → List Value → Bool
  | [], [] => true
  | d :: ds, u :: us => repB K d u && repsB K ds us
  | _, _ => false
end
end L3
namespace L3
open PySem PySem.Spec PyProof.Rows L2
/-- a name of the top -/
def gloB (K : PySem.W.Frag) (x : Str) (d : D) : Bool := match PySem.W.nsIn K mainGlobals x with
  | some (some u) => repB K d u
  | _ => false
end L3
namespace L3
open PySem PySem.Spec PyProof.Rows L2
/-- a table's entries, in order -/
def entB (K : PySem.W.Frag) : List (Str × D) → List DictEntry → Bool
  | [], [] => true
  | (k, d) :: r, e :: es => (match e.key with | .str x _ => decide (x = k) | _ => false) && (repB K d e.val && entB K r es)
  | _, _ => false
end L3
namespace L3
open PySem PySem.Spec PyProof.Rows L2
def tabB (K : PySem.W.Frag) (a : Addr) (kvs : List (Str × D)) : Bool := match K.lookup a with
  | some ⟨_, _, .dict es _, _⟩ => entB K kvs es.toList
  | _ => false
end L3
namespace L3
open PySem PySem.Spec PyProof.Rows L2
def yesB : Option Bool → Bool
  | some true => true
  | _ => false
end L3
namespace L3
open PySem PySem.Spec PyProof.Rows L2
def tyB : Option Value → Bool
  | some (.type t) => decide (t = "type")
  | _ => false
end L3
namespace L3
open PySem PySem.Spec PyProof.Rows L2
def excB (K : PySem.W.Frag) (C : Addr) : Bool := PySem.W.excIn K C [.type "ValueError", .type "Exception", .type "BaseException", .type "object"] "ValueError.__new__" &&
  (PySem.W.keepIn K (.ref C) && (yesB (PySem.W.subIn K (.ref C) (.type "BaseException")) && (tyB (PySem.W.typeIn K (.ref C)) && yesB (PySem.W.exmOne K (.ref C) (.ref C)))))
end L3
namespace L2
open PySem PySem.Spec PyProof.Rows
def oexB (K : PySem.W.Frag) (C : Addr) : Bool := match K.lookup C with
  | some ⟨.type "type", _, .cls cd, sl⟩ => (match cd.mro, sl.toList with
    | .ref C' :: bm, [_, _, _, _, some (.builtin n), _] => decide (C' = C) && (decide (n = "ValueError.__new__") && (!cd.hasDel && (PySem.HandSPX.refsVE bm && cd.hasDict)))
    | _, _ => false)
  | _ => false
end L2
namespace L2
open PySem PySem.Spec PyProof.Rows
def valB : Option PySem.W.CFound → Bool
  | some (.val (.builtin n)) => decide (n = "ValueError.__init__")
  | _ => false
end L2
namespace L3
open PySem PySem.Spec PyProof.Rows L2
def xNames : List Str := ["BadPart", "BadShelf", "BadTree", "NotRight", "NotWhole", "BadCall", "Long", "BadText"]
end L3
namespace L3
open PySem PySem.Spec PyProof.Rows L2
def xFields : List Str := ["why", "name", "place"]
end L3
namespace L3
open PySem PySem.Spec PyProof.Rows L2
def optB (o : Option Bool) (b : Bool) : Bool := match o with
  | some c => c == b
  | none => false
end L3
namespace L3
open PySem PySem.Spec PyProof.Rows L2
def gab (K : PySem.W.Frag) (C : Addr) : Bool := decide (PySem.W.findIn K (.ref C) "__getattribute__" = some (some (.builtin "BaseException.__getattribute__"))) && (decide (PySem.W.findIn K (.ref C) "__getattr__" = some none) && (yesB (PySem.W.subIn K (.ref C) (.type "BaseException")) && (PySem.W.hasDictIn K C &&
  (decide (PySem.W.findIn K (.ref C) "__class__" = some (some (.builtin "object.__class__"))) && (decide (PySem.W.specialIn K (.builtin "object.__class__") "__get__" = some (some (.builtin "getset_descriptor.__get__"))) && (yesB (PySem.W.takesIn K (.builtin "object.__class__")) && yesB (PySem.W.mroIn K C (.type "object"))))))))
end L3
namespace L3
open PySem PySem.Spec PyProof.Rows L2
def eightB (K : PySem.W.Frag) : Bool := xNames.all fun n => gab K (He.ga K n) && (xFields.all (fun f => decide (PySem.W.findIn K (.ref (He.ga K n)) f = some none)) && (xNames.all (fun n2 => optB (PySem.W.kitOne K (.ref (He.ga K n)) (.ref (He.ga K n2))) (n == n2)) &&
  (optB (PySem.W.kitOne K (.ref (He.ga K n)) (.type "ValueError")) true && optB (PySem.W.exmOne K (.ref (He.ga K n)) (.ref (He.ga K "PartError"))) true)))
end L3
namespace L3
open PySem PySem.Spec PyProof.Rows L2
def tyFB : Option Value → Bool
  | some (.type t) => decide (t = "function")
  | _ => false
end L3
namespace L3
open PySem PySem.Spec PyProof.Rows L2
def abvB (K : PySem.W.Frag) (P : Addr) : Bool := PySem.W.readsIn K P (.type "type") && (decide (PySem.W.specialIn K (.ref P) "__getattribute__" = some (some (.builtin "type.__getattribute__"))) && valB (PySem.W.findCls K (.ref P) (.type "type") "__init__"))
end L3
namespace L3
open PySem PySem.Spec PyProof.Rows L2
def excDB (K : PySem.W.Frag) (C fI : Addr) (f : Str) : Bool := oexB K C && (decide (PySem.W.findIn K (.ref C) "__setattr__" = some (some (.builtin "object.__setattr__"))) && (yesB (PySem.W.subIn K (.ref C) (.type "BaseException")) && (tyB (PySem.W.typeIn K (.ref C)) && (PySem.W.keepIn K (.ref C) &&
  (decide (PySem.W.findIn K (.ref C) f = some none) && (abvB K (He.ga K "PartError") && (decide (PySem.W.findIn K (.ref C) "__init__" = some (some (.ref fI))) && tyFB (PySem.W.typeIn K (.ref fI)))))))))
end L3
namespace K01
open PySem PySem.Spec PyProof.Rows L2 L3
def topS (i : Nat) : Stmt := PySem.Challenge.pw_partdeeds_k01_parts_refused.main.body.getD i (.Pass ⟨0, 0, 0, 0⟩)
end K01
namespace K01
open PySem PySem.Spec PyProof.Rows L2 L3
abbrev s_is_letter : Stmt := topS 10
end K01
namespace K01
open PySem PySem.Spec PyProof.Rows L2 L3
abbrev s_is_whole_kinds : Stmt := topS 11
end K01
namespace K01
open PySem PySem.Spec PyProof.Rows L2 L3
def kt_ARMS : List (Str × D) := [("number", (.str "n")), ("truth", (.str "t")), ("empty", (.str "")), ("argument", (.str "")), ("cell", (.str "c")), ("plus", (.str "xx")), ("less", (.str "xx")), ("times", (.str "xx")), ("below", (.str "xx")), ("same", (.str "xx")), ("not", (.str "x")), ("and", (.str "xx")), ("if", (.str "xxx")), ("put", (.str "xx")), ("first", (.str "x")), ("rest", (.str "x")), ("many", (.str "x")), ("set", (.str "cx")), ("then", (.str "xx")), ("call", (.str "dx"))]
end K01
namespace K01
open PySem PySem.Spec PyProof.Rows L2 L3
def kt_TAKES : List (Str × D) := [("plus", (.tup [(.str "number"), (.str "number")])), ("less", (.tup [(.str "number"), (.str "number")])), ("times", (.tup [(.str "number"), (.str "number")])), ("below", (.tup [(.str "number"), (.str "number")])), ("not", (.tup [(.str "truth")])), ("and", (.tup [(.str "truth"), (.str "truth")])), ("put", (.tup [(.str "number"), (.str "list")])), ("first", (.tup [(.str "list")])), ("rest", (.tup [(.str "list")])), ("many", (.tup [(.str "list")]))]
end K01
namespace K01
open PySem PySem.Spec PyProof.Rows L2 L3
def kt_TELLS : List (Str × D) := [("number", (.str "number")), ("truth", (.str "truth")), ("empty", (.str "list")), ("plus", (.str "number")), ("less", (.str "number")), ("times", (.str "number")), ("below", (.str "truth")), ("same", (.str "truth")), ("not", (.str "truth")), ("and", (.str "truth")), ("put", (.str "list")), ("first", (.str "number")), ("rest", (.str "list")), ("many", (.str "number"))]
end K01
namespace K01
open PySem PySem.Spec PyProof.Rows L2 L3
abbrev s_is_arm : Stmt := topS 23
end K01
namespace K01
open PySem PySem.Spec PyProof.Rows L2 L3
abbrev s_words_in : Stmt := topS 24
end K01
namespace K01
open PySem PySem.Spec PyProof.Rows L2 L3
abbrev s_is_body : Stmt := topS 25
end K01
namespace K01
open PySem PySem.Spec PyProof.Rows L2 L3
abbrev s_within : Stmt := topS 26
end K01
namespace K01
open PySem PySem.Spec PyProof.Rows L2 L3
abbrev s_kind_in : Stmt := topS 30
end K01
namespace K01
open PySem PySem.Spec PyProof.Rows L2 L3
abbrev s_are_kinds : Stmt := topS 31
end K01
namespace K01
open PySem PySem.Spec PyProof.Rows L2 L3
abbrev s_are_rising : Stmt := topS 46
end K01
namespace K01
open PySem PySem.Spec PyProof.Rows L2 L3
abbrev s_are_rows : Stmt := topS 47
end K01
namespace K01
open PySem PySem.Spec PyProof.Rows L2 L3
abbrev s_are_deeds : Stmt := topS 48
end K01
namespace K01
open PySem PySem.Spec PyProof.Rows L2 L3
abbrev s_why_none : Stmt := topS 49
end K01
namespace K01
open PySem PySem.Spec PyProof.Rows L2 L3
abbrev s_need_part : Stmt := topS 50
end K01
namespace K01
open PySem PySem.Spec PyProof.Rows L2 L3
abbrev s_need_shelf : Stmt := topS 51
end K01
namespace K01
open PySem PySem.Spec PyProof.Rows L2 L3
abbrev s_given_in : Stmt := topS 52
end K01
namespace K01
open PySem PySem.Spec PyProof.Rows L2 L3
abbrev s_wrong_deed : Stmt := topS 53
end K01
namespace K01
open PySem PySem.Spec PyProof.Rows L2 L3
abbrev s_right : Stmt := topS 54
end K01
namespace K01
open PySem PySem.Spec PyProof.Rows L2 L3
def kt_SHAPES : List (Str × D) := [("part", (.str "p")), ("with", (.str "tt")), ("without", (.str "td")), ("also", (.str "tdd")), ("renamed", (.str "tdd")), ("over", (.str "tp"))]
end K01
namespace K01
open PySem PySem.Spec PyProof.Rows L2 L3
abbrev s_trees_in : Stmt := topS 59
end K01
namespace K01
open PySem PySem.Spec PyProof.Rows L2 L3
abbrev s_need_tree : Stmt := topS 60
end K01
namespace K01
open PySem PySem.Spec PyProof.Rows L2 L3
abbrev s_forms : Stmt := topS 68
end K01
namespace K01
open PySem PySem.Spec PyProof.Rows L2 L3
abbrev s_wanting : Stmt := topS 70
end K01
namespace K01
open PySem PySem.Spec PyProof.Rows L2 L3
abbrev s_parted : Stmt := topS 72
end K01
namespace K01
open PySem PySem.Spec PyProof.Rows L2 L3
abbrev s_alike : Stmt := topS 73
end K01
namespace K01
open PySem PySem.Spec PyProof.Rows L2 L3
abbrev s_flat : Stmt := topS 77
end K01
namespace K01
open PySem PySem.Spec PyProof.Rows L2 L3
abbrev s_givers : Stmt := topS 80
end K01
namespace K01
open PySem PySem.Spec PyProof.Rows L2 L3
abbrev s_written : Stmt := topS 90
end K01
namespace K01
open PySem PySem.Spec PyProof.Rows L2 L3
abbrev s_written_tree : Stmt := topS 92
end K01
namespace K01
open PySem PySem.Spec PyProof.Rows L2 L3
abbrev s_read_tree : Stmt := topS 93
end K01
namespace K01
open PySem PySem.Spec PyProof.Rows L2 L3
abbrev s_Thing_init : Stmt := inClass (topS 101) 0
end K01
namespace K01
open PySem PySem.Spec PyProof.Rows L2 L3
abbrev s_tried : Stmt := topS 102
end K01
namespace K01
open PySem PySem.Spec PyProof.Rows L2 L3
abbrev s__law_mix : Stmt := topS 104
end K01
namespace K01
open PySem PySem.Spec PyProof.Rows L2 L3
abbrev s__law_next : Stmt := topS 105
end K01
namespace K01
open PySem PySem.Spec PyProof.Rows L2 L3
abbrev s__law_leaf : Stmt := topS 107
end K01
namespace K01
open PySem PySem.Spec PyProof.Rows L2 L3
abbrev s__law_call : Stmt := topS 108
end K01
namespace K01
open PySem PySem.Spec PyProof.Rows L2 L3
abbrev s__law_body : Stmt := topS 109
end K01
namespace K01
open PySem PySem.Spec PyProof.Rows L2 L3
abbrev s__law_reckons : Stmt := topS 110
end K01
namespace K01
open PySem PySem.Spec PyProof.Rows L2 L3
abbrev s__law_calls : Stmt := topS 111
end K01
namespace K01
open PySem PySem.Spec PyProof.Rows L2 L3
abbrev s__law_used : Stmt := topS 112
end K01
namespace K01
open PySem PySem.Spec PyProof.Rows L2 L3
abbrev s__law_part : Stmt := topS 113
end K01
namespace K01
open PySem PySem.Spec PyProof.Rows L2 L3
abbrev s__law_shelf : Stmt := topS 114
end K01
namespace K01
open PySem PySem.Spec PyProof.Rows L2 L3
abbrev s__law_kind : Stmt := topS 115
end K01
namespace K01
open PySem PySem.Spec PyProof.Rows L2 L3
abbrev s__law_bad_body : Stmt := topS 116
end K01
namespace K01
open PySem PySem.Spec PyProof.Rows L2 L3
abbrev s__law_odd : Stmt := topS 117
end K01
namespace K01
open PySem PySem.Spec PyProof.Rows L2 L3
abbrev s__law_works : Stmt := topS 118
end K01
namespace K01
open PySem PySem.Spec PyProof.Rows L2 L3
abbrev s__law_are : Stmt := topS 119
end K01
namespace K01
open PySem PySem.Spec PyProof.Rows L2 L3
abbrev s_law : Stmt := topS 120
end K01
namespace K01
open PySem PySem.Spec PyProof.Rows L2 L3
abbrev s_BadPart_init : Stmt := inClass (topS 34) 0
end K01
namespace K01
open PySem PySem.Spec PyProof.Rows L2 L3
abbrev s_NotRight_init : Stmt := inClass (topS 37) 0
end K01
namespace K01
open PySem PySem.Spec PyProof.Rows L2 L3
abbrev s_BadText_init : Stmt := inClass (topS 41) 0
end K01
namespace L3
open PySem PySem.Spec PyProof.Rows L2
def obsZ (as : List Addr) (fa : List He.Fa) (fn : List He.DefD) (ts : List He.Tab) (tf : List He.Defn) (ex : PySem.W.Frag → Bool) (g : Addr → Option Obj) : He.AlX :=
  (He.obsT fa fn ts (He.frT g as), ex (He.frT g as) && He.tabsB g tf (He.frT g as))
end L3
namespace L3
open PySem PySem.Spec PyProof.Rows L2
theorem saysZ_of {as : List Addr} {fa : List He.Fa} {fn : List He.DefD} {ts : List He.Tab} {tf : List He.Defn} {ex : PySem.W.Frag → Bool} {w : World} {h : Heap} (e : obsZ as fa fn ts tf ex h.get? = He.valX fn ts w) : He.SaysX fa fn ts tf ex w h (He.frT h.get? as) := by
  have e1 := congrArg Prod.fst e
  have e2 : (ex (He.frT h.get? as) && He.tabsB h.get? tf (He.frT h.get? as)) = true := congrArg Prod.snd e
  rw [Bool.and_eq_true] at e2
  have key : ∀ p ∈ tf, PySem.W.codeHdIn (He.frT h.get? as) (He.cT (He.frT h.get? as) p).1 (He.cT (He.frT h.get? as) p).2 = true ∧ ∃ o, h.get? (He.cT (He.frT h.get? as) p).2 = some o ∧ He.emptyTab o = true := fun p hp => by
    have z := List.all_eq_true.mp e2.2 p hp
    rw [Bool.and_eq_true] at z
    refine ⟨z.1, ?_⟩
    have z2 := z.2
    cases q : h.get? (He.cT (He.frT h.get? as) p).2 with
    | none => rw [q] at z2; cases z2
    | some o => rw [q] at z2; exact ⟨o, rfl, z2⟩
  exact ⟨e1, e2.1, fun p hp => (key p hp).1, fun p hp => let ⟨_, _, q, z⟩ := key p hp; He.frT_none q z, fun p hp => by
    obtain ⟨_, o, q, z⟩ := key p hp
    rw [q, He.emptyTab_eq z]⟩
end L3
namespace L3
open PySem PySem.Spec PyProof.Rows L2
def hookZ (as : List Addr) (fa : List He.Fa) (fn : List He.DefD) (ts : List He.Tab) (tf : List He.Defn) (ex : PySem.W.Frag → Bool) : PySem.W.Hook where
  α := He.AlX
  obs := fun s => obsZ as fa fn ts tf ex s.heap.get?
  val := fun w => He.valX fn ts w
  says := fun w h => ∃ K : PySem.W.Frag, K.In h ∧ He.SaysX fa fn ts tf ex w h K
  of := fun _ _ e => ⟨_, He.frT_in, saysZ_of e⟩
  keeps := fun _ _ _ ⟨K, hK, c⟩ k => ⟨K, PySem.W.Frag.In.keeps hK k, ⟨c.t, c.more, c.hd, c.out, fun p hp => k _ _ (c.empty p hp)⟩⟩
end L3
namespace L3
open PySem PySem.Spec PyProof.Rows L2
theorem obsZ_eq {as : List Addr} {fa : List He.Fa} {fn : List He.DefD} {ts : List He.Tab} {tf : List He.Defn} {ex : PySem.W.Frag → Bool} {g : Addr → Option Obj} {s : Shared} (h : ∀ a, g a = s.heap.get? a) : obsZ as fa fn ts tf ex g = (hookZ as fa fn ts tf ex).obs s := by
  have e : g = s.heap.get? := funext h
  rw [e]; rfl
end L3
set_option maxHeartbeats 0
/-! the head's run. -/
namespace K01
open PySem PySem.Spec PyProof.Rows L2 L3
def as0 : List Addr := ([3, 6, 4, 15, 22, 425, 29, 34, 41, 48, 49, 51, 62, 69, 76, 83, 88, 93, 100, 107, 112, 117, 127, 147, 159, 171, 190, 202, 214, 226, 245, 252, 259, 264, 269, 276, 281, 286, 293, 300] : List Addr) ++ ([301, 308, 313, 340, 349, 356, 363, 370, 375, 380, 385, 392, 399, 406, 413, 420, 430, 435, 440, 441, 442, 443, 448, 486, 497, 502, 509, 516, 523, 528, 535, 571, 582, 616, 627, 634, 641, 646, 653, 658] : List Addr) ++ ([665, 672, 677, 684, 689, 694, 701, 708, 715, 722, 727, 732, 0, 21, 424, 28, 33, 40, 47, 52, 53, 54, 55, 56, 57, 58, 59, 60, 61, 68, 75, 82, 87, 92, 99, 106, 111, 116, 126, 146] : List Addr) ++ ([158, 170, 189, 201, 213, 225, 244, 251, 258, 263, 268, 275, 280, 285, 292, 299, 307, 312, 339, 348, 355, 362, 369, 374, 379, 384, 391, 398, 405, 412, 419, 429, 434, 439, 447, 485, 496, 501, 508, 515] : List Addr) ++ ([522, 527, 534, 570, 581, 615, 626, 633, 640, 645, 652, 657, 664, 671, 676, 683, 688, 693, 700, 707, 714, 721, 726, 731, 16, 17, 18, 19, 20, 421, 422, 423, 23, 24, 25, 26, 27, 30, 31, 32] : List Addr) ++ ([35, 36, 37, 38, 39, 42, 43, 44, 45, 46, 63, 64, 65, 66, 67, 70, 71, 72, 73, 74, 77, 78, 79, 80, 81, 84, 85, 86, 89, 90, 91, 94, 95, 96, 97, 98, 101, 102, 103, 104] : List Addr) ++ ([105, 108, 109, 110, 113, 114, 115, 125, 128, 144, 145, 157, 169, 187, 188, 200, 212, 224, 242, 243, 248, 249, 250, 253, 254, 255, 256, 257, 260, 261, 262, 265, 266, 267, 270, 271, 272, 273, 274, 277] : List Addr) ++ ([278, 279, 282, 283, 284, 287, 288, 289, 290, 291, 294, 295, 296, 297, 298, 302, 303, 304, 305, 306, 309, 310, 311, 327, 332, 337, 338, 341, 342, 345, 346, 347, 350, 351, 352, 353, 354, 357, 358, 359] : List Addr) ++ ([360, 361, 364, 365, 366, 367, 368, 371, 372, 373, 376, 377, 378, 381, 382, 383, 386, 387, 388, 389, 390, 393, 394, 395, 396, 397, 400, 401, 402, 403, 404, 407, 408, 409, 410, 411, 414, 415, 416, 417] : List Addr) ++ ([418, 426, 427, 428, 431, 432, 433, 436, 437, 438, 444, 445, 446, 462, 469, 476, 483, 484, 487, 488, 491, 492, 493, 494, 495, 498, 499, 500, 503, 504, 505, 506, 507, 510, 511, 512, 513, 514, 517, 518] : List Addr) ++ ([519, 520, 521, 524, 525, 526, 529, 530, 531, 532, 533, 547, 554, 561, 568, 569, 572, 573, 576, 577, 578, 579, 580, 596, 603, 608, 613, 614, 617, 618, 621, 622, 623, 624, 625, 628, 629, 630, 631, 632] : List Addr) ++ ([635, 636, 637, 638, 639, 642, 643, 644, 647, 648, 649, 650, 651, 654, 655, 656, 659, 660, 661, 662, 663, 666, 667, 668, 669, 670, 673, 674, 675, 678, 679, 680, 681, 682, 685, 686, 687, 690, 691, 692] : List Addr) ++ ([695, 696, 697, 698, 699, 702, 703, 704, 705, 706, 709, 710, 711, 712, 713, 716, 717, 718, 719, 720, 723, 724, 725, 728, 729, 730, 143, 186, 241, 326, 331, 336, 461, 468, 475, 482, 546, 553, 560, 567] : List Addr) ++ ([595, 602, 607, 612, 2] : List Addr)
def dd_is_letter : He.DefD := ⟨("is_letter", none), "is_letter", "is_letter", defArgs s_is_letter, defBody s_is_letter, defScope s_is_letter, [], []⟩
def dd_is_whole_kinds : He.DefD := ⟨("is_whole_kinds", none), "is_whole", "is_whole", defArgs s_is_whole_kinds, defBody s_is_whole_kinds, defScope s_is_whole_kinds, [], []⟩
def dd_is_arm : He.DefD := ⟨("is_arm", none), "is_arm", "is_arm", defArgs s_is_arm, defBody s_is_arm, defScope s_is_arm, [], []⟩
def dd_words_in : He.DefD := ⟨("words_in", none), "words_in", "words_in", defArgs s_words_in, defBody s_words_in, defScope s_words_in, [], []⟩
def dd_is_body : He.DefD := ⟨("is_body", none), "is_body", "is_body", defArgs s_is_body, defBody s_is_body, defScope s_is_body, [], []⟩
def dd_within : He.DefD := ⟨("within", none), "within", "within", defArgs s_within, defBody s_within, defScope s_within, [], []⟩
def dd_kind_in : He.DefD := ⟨("kind_in", none), "kind_in", "kind_in", defArgs s_kind_in, defBody s_kind_in, defScope s_kind_in, [], []⟩
def dd_are_kinds : He.DefD := ⟨("are_kinds", none), "are_kinds", "are_kinds", defArgs s_are_kinds, defBody s_are_kinds, defScope s_are_kinds, [], []⟩
def dd_are_rising : He.DefD := ⟨("are_rising", none), "are_rising", "are_rising", defArgs s_are_rising, defBody s_are_rising, defScope s_are_rising, [], []⟩
def dd_are_rows : He.DefD := ⟨("are_rows", none), "are_rows", "are_rows", defArgs s_are_rows, defBody s_are_rows, defScope s_are_rows, [], []⟩
def dd_are_deeds : He.DefD := ⟨("are_deeds", none), "are_deeds", "are_deeds", defArgs s_are_deeds, defBody s_are_deeds, defScope s_are_deeds, [], []⟩
def dd_why_none : He.DefD := ⟨("why_none", none), "why_none", "why_none", defArgs s_why_none, defBody s_why_none, defScope s_why_none, [], []⟩
def dd_need_part : He.DefD := ⟨("need_part", none), "need_part", "need_part", defArgs s_need_part, defBody s_need_part, defScope s_need_part, [], []⟩
def dd_need_shelf : He.DefD := ⟨("need_shelf", none), "need_shelf", "need_shelf", defArgs s_need_shelf, defBody s_need_shelf, defScope s_need_shelf, [], []⟩
def dd_given_in : He.DefD := ⟨("given_in", none), "given_in", "given_in", defArgs s_given_in, defBody s_given_in, defScope s_given_in, [], []⟩
def dd_wrong_deed : He.DefD := ⟨("wrong_deed", none), "wrong_deed", "wrong_deed", defArgs s_wrong_deed, defBody s_wrong_deed, defScope s_wrong_deed, [], []⟩
def dd_right : He.DefD := ⟨("right", none), "right", "right", defArgs s_right, defBody s_right, defScope s_right, [], []⟩
def dd_trees_in : He.DefD := ⟨("trees_in", none), "trees_in", "trees_in", defArgs s_trees_in, defBody s_trees_in, defScope s_trees_in, [], []⟩
def dd_need_tree : He.DefD := ⟨("need_tree", none), "need_tree", "need_tree", defArgs s_need_tree, defBody s_need_tree, defScope s_need_tree, [], []⟩
def dd_forms : He.DefD := ⟨("forms", none), "forms", "forms", defArgs s_forms, defBody s_forms, defScope s_forms, [], []⟩
def dd_wanting : He.DefD := ⟨("wanting", none), "wanting", "wanting", defArgs s_wanting, defBody s_wanting, defScope s_wanting, [], []⟩
def dd_parted : He.DefD := ⟨("parted", none), "parted", "parted", defArgs s_parted, defBody s_parted, defScope s_parted, [], []⟩
def dd_alike : He.DefD := ⟨("alike", none), "alike", "alike", defArgs s_alike, defBody s_alike, defScope s_alike, [], []⟩
def dd_flat : He.DefD := ⟨("flat", none), "flat", "flat", defArgs s_flat, defBody s_flat, defScope s_flat, [], []⟩
def dd_givers : He.DefD := ⟨("givers", none), "givers", "givers", defArgs s_givers, defBody s_givers, defScope s_givers, [], []⟩
def dd_written : He.DefD := ⟨("written", none), "written", "written", defArgs s_written, defBody s_written, defScope s_written, [], []⟩
def dd_written_tree : He.DefD := ⟨("written_tree", none), "written_tree", "written_tree", defArgs s_written_tree, defBody s_written_tree, defScope s_written_tree, [], []⟩
def dd_read_tree : He.DefD := ⟨("read_tree", none), "read_tree", "read_tree", defArgs s_read_tree, defBody s_read_tree, defScope s_read_tree, [], []⟩
def dd_tried : He.DefD := ⟨("tried", none), "tried", "tried", defArgs s_tried, defBody s_tried, defScope s_tried, [], []⟩
def dd__law_mix : He.DefD := ⟨("_law_mix", none), "_law_mix", "_law_mix", defArgs s__law_mix, defBody s__law_mix, defScope s__law_mix, [], []⟩
def dd__law_next : He.DefD := ⟨("_law_next", none), "_law_next", "_law_next", defArgs s__law_next, defBody s__law_next, defScope s__law_next, [], []⟩
def dd__law_leaf : He.DefD := ⟨("_law_leaf", none), "_law_leaf", "_law_leaf", defArgs s__law_leaf, defBody s__law_leaf, defScope s__law_leaf, [], []⟩
def dd__law_call : He.DefD := ⟨("_law_call", none), "_law_call", "_law_call", defArgs s__law_call, defBody s__law_call, defScope s__law_call, [], []⟩
def dd__law_body : He.DefD := ⟨("_law_body", none), "_law_body", "_law_body", defArgs s__law_body, defBody s__law_body, defScope s__law_body, [], []⟩
def dd__law_reckons : He.DefD := ⟨("_law_reckons", none), "_law_reckons", "_law_reckons", defArgs s__law_reckons, defBody s__law_reckons, defScope s__law_reckons, [], []⟩
def dd__law_calls : He.DefD := ⟨("_law_calls", none), "_law_calls", "_law_calls", defArgs s__law_calls, defBody s__law_calls, defScope s__law_calls, [], []⟩
def dd__law_used : He.DefD := ⟨("_law_used", none), "_law_used", "_law_used", defArgs s__law_used, defBody s__law_used, defScope s__law_used, [], []⟩
def dd__law_part : He.DefD := ⟨("_law_part", none), "_law_part", "_law_part", defArgs s__law_part, defBody s__law_part, defScope s__law_part, [], []⟩
def dd__law_shelf : He.DefD := ⟨("_law_shelf", none), "_law_shelf", "_law_shelf", defArgs s__law_shelf, defBody s__law_shelf, defScope s__law_shelf, [], []⟩
def dd__law_kind : He.DefD := ⟨("_law_kind", none), "_law_kind", "_law_kind", defArgs s__law_kind, defBody s__law_kind, defScope s__law_kind, [], []⟩
def dd__law_bad_body : He.DefD := ⟨("_law_bad_body", none), "_law_bad_body", "_law_bad_body", defArgs s__law_bad_body, defBody s__law_bad_body, defScope s__law_bad_body, [], []⟩
def dd__law_odd : He.DefD := ⟨("_law_odd", none), "_law_odd", "_law_odd", defArgs s__law_odd, defBody s__law_odd, defScope s__law_odd, [], []⟩
def dd__law_works : He.DefD := ⟨("_law_works", none), "_law_works", "_law_works", defArgs s__law_works, defBody s__law_works, defScope s__law_works, [], []⟩
def dd__law_are : He.DefD := ⟨("_law_are", none), "_law_are", "_law_are", defArgs s__law_are, defBody s__law_are, defScope s__law_are, [], []⟩
def dd_law : He.DefD := ⟨("law", none), "law", "law", defArgs s_law, defBody s_law, defScope s_law, [], []⟩
def dd_Thing_init : He.DefD := ⟨("Thing", some "__init__"), "__init__", "Thing.__init__", defArgs s_Thing_init, defBody s_Thing_init, defScope s_Thing_init, [], []⟩
def dd_BadPart_init : He.DefD := ⟨("BadPart", some "__init__"), "__init__", "BadPart.__init__", defArgs s_BadPart_init, defBody s_BadPart_init, defScope s_BadPart_init, [], []⟩
def dd_NotRight_init : He.DefD := ⟨("NotRight", some "__init__"), "__init__", "NotRight.__init__", defArgs s_NotRight_init, defBody s_NotRight_init, defScope s_NotRight_init, [], []⟩
def dd_BadText_init : He.DefD := ⟨("BadText", some "__init__"), "__init__", "BadText.__init__", defArgs s_BadText_init, defBody s_BadText_init, defScope s_BadText_init, [], []⟩
def fn : List He.DefD := [dd_is_letter, dd_is_whole_kinds, dd_is_arm, dd_words_in, dd_is_body, dd_within, dd_kind_in, dd_are_kinds, dd_are_rising, dd_are_rows, dd_are_deeds, dd_why_none, dd_need_part, dd_need_shelf, dd_given_in, dd_wrong_deed, dd_right, dd_trees_in, dd_need_tree, dd_forms, dd_wanting, dd_parted, dd_alike, dd_flat, dd_givers, dd_written, dd_written_tree, dd_read_tree, dd_tried, dd__law_mix, dd__law_next, dd__law_leaf, dd__law_call, dd__law_body, dd__law_reckons, dd__law_calls, dd__law_used, dd__law_part, dd__law_shelf, dd__law_kind, dd__law_bad_body, dd__law_odd, dd__law_works, dd__law_are, dd_law, dd_Thing_init, dd_BadPart_init, dd_NotRight_init, dd_BadText_init]
def fa : List He.Fa := ([.glo "is_letter", .glo "is_whole_kinds", .glo "is_arm", .glo "words_in", .glo "is_body", .glo "within", .glo "kind_in", .glo "are_kinds", .glo "are_rising", .glo "are_rows", .glo "are_deeds", .glo "why_none", .glo "need_part", .glo "need_shelf", .glo "given_in", .glo "wrong_deed", .glo "right", .glo "trees_in", .glo "need_tree", .glo "forms", .glo "wanting", .glo "parted", .glo "alike", .glo "flat", .glo "givers", .glo "written", .glo "written_tree", .glo "read_tree", .glo "tried", .glo "_law_mix"] : List He.Fa) ++ ([.glo "_law_next", .glo "_law_leaf", .glo "_law_call", .glo "_law_body", .glo "_law_reckons", .glo "_law_calls", .glo "_law_used", .glo "_law_part", .glo "_law_shelf", .glo "_law_kind", .glo "_law_bad_body", .glo "_law_odd", .glo "_law_works", .glo "_law_are", .glo "law", .glo "ARMS", .glo "TAKES", .glo "TELLS", .glo "SHAPES", .free "bool", .free "dict", .free "int", .free "isinstance", .free "len", .free "list", .free "max", .free "min", .free "range", .free "set", .free "sorted"] : List He.Fa) ++ ([.free "str", .free "tuple", .free "zip", .glo "Thing", .cls "Thing", .mkr "Thing", .noat "Thing" "runner", .glo "BadShelf", .glo "BadTree", .glo "PartError", .glo "BadPart", .glo "NotRight", .glo "NotWhole", .glo "BadCall", .glo "Long", .glo "BadText", .free "ValueError"] : List He.Fa)
def ts : List He.Tab := [(fun K => He.ga K "ARMS", ["number", "truth", "empty", "argument", "cell", "plus", "less", "times", "below", "same", "not", "and", "if", "put", "first", "rest", "many", "set", "then", "call"]), (fun K => He.ga K "TAKES", ["plus", "less", "times", "below", "not", "and", "put", "first", "rest", "many"]), (fun K => He.ga K "TELLS", ["number", "truth", "empty", "plus", "less", "times", "below", "same", "not", "and", "put", "first", "rest", "many"]), (fun K => He.ga K "SHAPES", ["part", "with", "without", "also", "renamed", "over"])]
def exs : List (PySem.W.Frag → Bool) := ([(fun K => gloB K "TRUTH" (.str "truth")), (fun K => gloB K "KINDS" (.tup [(.str "number"), (.str "truth"), (.str "list")])), (fun K => gloB K "DEEDS" (.str "abcdefgh")), (fun K => gloB K "CELLS" (.str "pqrs")), (fun K => gloB K "PARTS" (.str "ABCDEF")), (fun K => gloB K "MOST_WORDS" (.int (60))), (fun K => gloB K "MOST_WITHIN_bodies" (.int (9))), (fun K => gloB K "MOST_WRITTEN" (.int (99))), (fun K => gloB K "MOST_DEEDS" (.int (8))), (fun K => gloB K "MOST_CELLS" (.int (4))), (fun K => gloB K "MOST_PARTS" (.int (6))), (fun K => gloB K "MOST_TREES" (.int (40))), (fun K => gloB K "MOST_WITHIN_trees" (.int (9))), (fun K => tabB K (He.ga K "ARMS") kt_ARMS), (fun K => tabB K (He.ga K "TAKES") kt_TAKES), (fun K => tabB K (He.ga K "TELLS") kt_TELLS), (fun K => tabB K (He.ga K "SHAPES") kt_SHAPES), (fun K => decide ([(He.cT K ("_law_works", none)).2, (He.cT K ("law", none)).2].Nodup)), (fun K => excB K (He.ga K "BadShelf")), (fun K => excB K (He.ga K "BadTree")), eightB, (fun K => excDB K (He.ga K "BadPart") (He.fAd K ("BadPart", some "__init__")) "why"), (fun K => excDB K (He.ga K "NotRight") (He.fAd K ("NotRight", some "__init__")) "name"), (fun K => excDB K (He.ga K "BadText") (He.fAd K ("BadText", some "__init__")) "place")] : List (PySem.W.Frag → Bool))
def ex : PySem.W.Frag → Bool := fun K => exs.all fun f => f K
theorem ex_at {K : PySem.W.Frag} (h : ex K = true) (i : Nat) {f : PySem.W.Frag → Bool} (e : exs[i]? = some f := by rfl) : f K = true := List.all_eq_true.mp h f (List.mem_of_getElem? e)
abbrev R : PySem.W.OpenRow := PySem.W.OpenLaw.row PySem.Challenge.rw_partdeeds_k01_parts_refused
abbrev hk : PySem.W.Hook := L3.hookZ as0 fa fn ts [("_law_works", none), ("law", none)] ex
def loose : List PySem.Str := (["__name__", "NUMBER", "TRUTH", "LIST", "KINDS", "DEEDS", "CELLS", "PARTS", "MOST", "MOST_LIST", "is_letter", "is_whole", "is_whole_kinds", "kind_of", "first_worth", "cut", "MOST_WORDS", "MOST_WITHIN_bodies", "MOST_WRITTEN", "ARMS", "TAKES", "TELLS", "is_arm", "words_in", "is_body", "within", "calls_in", "words_of", "renamed_body", "kind_in"] : List PySem.Str) ++ (["are_kinds", "PartError", "BadPart", "BadShelf", "BadTree", "NotRight", "NotWhole", "BadCall", "Long", "BadText", "MOST_DEEDS", "MOST_CELLS", "MOST_PARTS", "are_rising", "are_rows", "are_deeds", "why_none", "need_part", "need_shelf", "given_in", "wrong_deed", "right", "MOST_TREES", "MOST_WITHIN_trees", "SHAPES", "trees_in", "need_tree", "Sheaf", "of_part", "renamed_form"] : List PySem.Str) ++ (["renamed_sheaf", "put", "put_together", "wanting_in", "forms", "in_order", "wanting", "unlike_in", "parted", "alike", "is_whole_flats", "flat", "lists_of", "givers", "FIGURES", "MOST_FIGURES", "TRUTHS", "LETTERS", "TREE_SHAPES", "number_of", "Reader", "written_row", "written", "tree_words", "written_tree", "read_tree", "MOST_STEPS", "MOST_CALLS", "reckoned", "of_list"] : List PySem.Str) ++ (["Runner", "named_in", "Thing", "tried", "_law_mix", "_law_next", "_law_alike", "_law_leaf", "_law_call", "_law_body", "_law_reckons", "_law_calls", "_law_used", "_law_part", "_law_shelf", "_law_kind", "_law_bad_body", "_law_odd", "_law_works", "_law_are"] : List PySem.Str)
def ob (s : PySem.W.SharedT) : He.AlX := L3.obsZ as0 fa fn ts [("_law_works", none), ("law", none)] ex (HandSHeadRun.getT s)
theorem ob_eq (s : PySem.W.SharedT) : ob s = hk.obs s.abs := L3.obsZ_eq (HandSHeadRun.getT_eq s)
theorem run_false (w : World) : HandSHeadRun.RunEq R (PySem.W.view R.prog [120]) hk ob 9600 loose (w.withFollow "special-get-raises" false) := by
  intro os
  kernel_rfl
theorem run_true (w : World) : HandSHeadRun.RunEq R (PySem.W.view R.prog [120]) hk ob 9600 loose (w.withFollow "special-get-raises" true) := by
  intro os
  kernel_rfl
theorem run (w : World) : HandSHeadRun.RunEq R (PySem.W.view R.prog [120]) hk ob 9600 loose w := PySem.W.byRow2 "special-get-raises" (P := fun w => HandSHeadRun.RunEq R (PySem.W.view R.prog [120]) hk ob 9600 loose w) run_false run_true w
end K01
namespace L3
open PySem PySem.Spec PyProof.Rows L2

abbrev Dt := List (Option D)
structure EnvD (K : PySem.W.Frag) (H : Hp) (N : Addr → Prop) (σ : L2.St) (δ : Dt) : Prop where
  len : σ.length = δ.length
  at_ : ∀ (i : Nat) d, δ[i]? = some (some d) → ∃ v, σ[i]? = some (some v) ∧ Rep K H N d v
def wipeD (δ : Dt) : List Nat → Dt
  | [] => δ
  | v :: vs => (wipeD δ vs).set v none
section
variable {K : PySem.W.Frag} {H H' : Hp} {N N' : Addr → Prop} {σ : L2.St} {δ : Dt}
theorem EnvD.carry (c : Carry H N H' N') (E : EnvD K H N σ δ) : EnvD K H' N' σ δ := ⟨E.len, fun i d e => let ⟨v, h, r⟩ := E.at_ i d e; ⟨v, h, Rep.carry c d v r⟩⟩
theorem EnvD.set (E : EnvD K H N σ δ) {d : D} {v : V} (r : Rep K H N d v) (i : Nat) : EnvD K H N (σ.set i (some v)) (δ.set i (some d)) := by
  refine ⟨by simp [E.len], fun j e h => ?_⟩
  have hl := E.len
  rw [List.getElem?_set] at h ⊢
  by_cases q : i = j
  · subst q
    rw [if_pos rfl] at h ⊢
    split at h
    · cases h
      exact ⟨v, by rw [if_pos (by omega)], r⟩
    · cases h
  · rw [if_neg q] at h ⊢
    exact E.at_ j e h
theorem EnvD.unset (E : EnvD K H N σ δ) (i : Nat) : EnvD K H N (σ.set i none) (δ.set i none) := by
  refine ⟨by simp [E.len], fun j e h => ?_⟩
  rw [List.getElem?_set] at h ⊢
  by_cases q : i = j
  · subst q
    rw [if_pos rfl] at h
    split at h <;> cases h
  · rw [if_neg q] at h ⊢
    exact E.at_ j e h
theorem EnvD.wipe (E : EnvD K H N σ δ) : ∀ vs, EnvD K H N (L2.wipe σ vs) (wipeD δ vs)
  | [] => E
  | v :: vs => (EnvD.wipe E vs).unset v
theorem EnvD.start {ds : List D} {vs : List V} (N' : List Str) (r : Reps K H N ds vs) : EnvD K H N (L2.start N' vs) (ds.map some ++ List.replicate (N'.length - ds.length) none) := by
  have hl := r.len
  refine ⟨by simp [L2.start, hl], fun i d h => ?_⟩
  unfold L2.start
  rw [List.getElem?_append] at h ⊢
  simp only [List.length_map, List.getElem?_map, hl] at h ⊢
  split at h
  · rw [if_pos (by assumption)]
    cases e : ds[i]? with
    | none => rw [e] at h; cases h
    | some d' =>
      rw [e] at h
      cases h
      obtain ⟨v, hv, q⟩ := r.get i _ e
      exact ⟨v, by rw [hv]; rfl, q⟩
  · rw [List.getElem?_replicate] at h
    split at h <;> cases h
end

/-! ### readings -/
abbrev EK := D → Mu → Prop
abbrev AEt := Dt → Mu → EK → Prop
abbrev ATt := Dt → Mu → (Bool → Mu → Prop) → Prop
abbrev AAt := Dt → Mu → (List D → Mu → Prop) → Prop
structure AEnds where
  nx : Dt → Mu → Prop
  rt : EK
  bk : Dt → Mu → Prop := fun _ _ => False
  ct : Dt → Mu → Prop := fun _ _ => False
abbrev ASt := AEnds → Dt → Mu → Prop
section
variable (K : PySem.W.Frag)
def PostE (B : Addr → Prop) (H : Hp) (m : Mu) (Q : EK) (Q' : VK) : Prop := ∀ d m' v H', Step H m H' m' → Wd K H' B m' → Rep K H' (Ban B m') d v → Q d m' → Q' v H'
def PostA (B : Addr → Prop) (H : Hp) (m : Mu) (Q : List D → Mu → Prop) (Q' : List V → Hp → Prop) : Prop := ∀ d m' v H', Step H m H' m' → Wd K H' B m' → Reps K H' (Ban B m') d v → Q d m' → Q' v H'
def PostT (B : Addr → Prop) (H : Hp) (m : Mu) (Q : Bool → Mu → Prop) (Q' : Bool → Hp → Prop) : Prop := ∀ b m' H', Step H m H' m' → Wd K H' B m' → Q b m' → Q' b H'
def PostN (B : Addr → Prop) (H : Hp) (m : Mu) (Q : Dt → Mu → Prop) (Q' : L2.St → Hp → Prop) : Prop := ∀ δ' m' σ' H', Step H m H' m' → Wd K H' B m' → EnvD K H' (Ban B m') σ' δ' → Q δ' m' → Q' σ' H'
structure EndsOk (B : Addr → Prop) (H : Hp) (m : Mu) (D : AEnds) (De : Ends) : Prop where
  nx : PostN K B H m D.nx De.nx
  rt : PostE K B H m D.rt De.rt
  bk : PostN K B H m D.bk De.bk
  ct : PostN K B H m D.ct De.ct
def SE (te : TE) (t : AEt) : Prop := ∀ (B : Addr → Prop) (δ : Dt) (m : Mu) (Q : EK) (σ : L2.St) (H : Hp), Wd K H B m → EnvD K H (Ban B m) σ δ → t δ m Q → ∀ Q' : VK, PostE K B H m Q Q' → te σ H Q'
def ST (te : TT) (t : ATt) : Prop := ∀ (B : Addr → Prop) (δ : Dt) (m : Mu) (Q : Bool → Mu → Prop) (σ : L2.St) (H : Hp), Wd K H B m → EnvD K H (Ban B m) σ δ → t δ m Q → ∀ Q', PostT K B H m Q Q' → te σ H Q'
def SA (te : TA) (t : AAt) : Prop := ∀ (B : Addr → Prop) (δ : Dt) (m : Mu) (Q : List D → Mu → Prop) (σ : L2.St) (H : Hp), Wd K H B m → EnvD K H (Ban B m) σ δ → t δ m Q → ∀ Q', PostA K B H m Q Q' → te σ H Q'
def SS (ts : TS) (t : ASt) : Prop := ∀ (B : Addr → Prop) (D : AEnds) (δ : Dt) (m : Mu) (σ : L2.St) (H : Hp), Wd K H B m → EnvD K H (Ban B m) σ δ → t D δ m → ∀ De : Ends, EndsOk K B H m D De → ts De σ H
end
structure AE (X : Cx) (e : Expr) (t : AEt) : Prop where
  ex : ∃ te, PE X e te ∧ SE X.K te t
structure AT (X : Cx) (e : Expr) (t : ATt) : Prop where
  ex : ∃ te, PT X e te ∧ ST X.K te t
structure AW (X : Cx) (e : Expr) (t : ATt) : Prop where
  ex : ∃ te, PW X e te ∧ ST X.K te t
structure AA (X : Cx) (es : List Expr) (t : AAt) : Prop where
  ex : ∃ te, PA X es te ∧ SA X.K te t
structure AS (X : Cx) (st : Stmt) (t : ASt) : Prop where
  ex : ∃ ts, PS X st ts ∧ SS X.K ts t
structure ASs (X : Cx) (st : List Stmt) (t : ASt) : Prop where
  ex : ∃ ts, PSs X st ts ∧ SS X.K ts t
section
variable {K : PySem.W.Frag} {B : Addr → Prop} {H H' : Hp} {m m' : Mu}
theorem PostE.step {Q : EK} {Q' : VK} (s : Step H m H' m') (k : PostE K B H m Q Q') : PostE K B H' m' Q Q' := fun d m2 v H2 s2 W r q => k d m2 v H2 (s.trans s2) W r q
theorem PostA.step {Q Q'} (s : Step H m H' m') (k : PostA K B H m Q Q') : PostA K B H' m' Q Q' := fun d m2 v H2 s2 W r q => k d m2 v H2 (s.trans s2) W r q
theorem PostT.step {Q Q'} (s : Step H m H' m') (k : PostT K B H m Q Q') : PostT K B H' m' Q Q' := fun b m2 H2 s2 W q => k b m2 H2 (s.trans s2) W q
theorem PostN.step {Q Q'} (s : Step H m H' m') (k : PostN K B H m Q Q') : PostN K B H' m' Q Q' := fun b m2 v H2 s2 W r q => k b m2 v H2 (s.trans s2) W r q
theorem EndsOk.step {D : AEnds} {De : Ends} (s : Step H m H' m') (k : EndsOk K B H m D De) : EndsOk K B H' m' D De := ⟨k.nx.step s, k.rt.step s, k.bk.step s, k.ct.step s⟩
theorem PostE.now {Q : EK} {Q' : VK} (k : PostE K B H m Q Q') (W : Wd K H B m) {d : D} {v : V} (r : Rep K H (Ban B m) d v) (q : Q d m) : Q' v H := k d m v H (Step.refl H m) W r q
theorem PostT.now {Q Q'} (k : PostT K B H m Q Q') (W : Wd K H B m) {b : Bool} (q : Q b m) : Q' b H := k b m H (Step.refl H m) W q
/-- a new object -/
theorem Wd.free (W : Wd K H B m) {p : Addr} (hp : H p = none) : m p = none ∧ ¬ B p := by
  refine ⟨?_, fun b => (W.hid p b).1 hp⟩
  cases e : m p with
  | none => rfl
  | some c =>
    have := W.cell p c e
    cases c with
    | lst ds => obtain ⟨vs, h, _⟩ := this; rw [hp] at h; cases h
    | dct ds => obtain ⟨vs, h, _⟩ := this; rw [hp] at h; cases h
    | ins C dx fs => obtain ⟨vs, h, _⟩ := this; rw [hp] at h; cases h
    | dfz od vs ds => obtain ⟨h, _⟩ := this; rw [hp] at h; cases h
    | tab q => obtain ⟨ps, h, _⟩ := this; rw [hp] at h; cases h
    | xd vs fs => obtain ⟨h, _⟩ := this; rw [hp] at h; cases h
    | dT P w rows => obtain ⟨xs, h, _⟩ := this; rw [hp] at h; cases h
    | fnc o c q t => obtain ⟨h, _⟩ := this; rw [hp] at h; cases h
    | cel o v d => obtain ⟨h, _⟩ := this; rw [hp] at h; cases h
theorem Step.new {p : Addr} {o : HO} (hp : H p = none) : Step H m (upd H p o) m := Step.same fun x u e => by rw [upd_ne (ne_of_none e hp)]; exact e
theorem CellOk.carry {N N' : Addr → Prop} {a : Addr} {c : Cell} (k : Carry H N H' N') (ha : ∀ o, H a = some o → H' a = some o) (hd : ∀ dx, H dx = some (.own a) → m dx = none → H' dx = some (.own a) ∧ m' dx = none) (h : CellOk K H N m a c) : CellOk K H' N' m' a c := by
  cases c with
  | lst ds => obtain ⟨vs, e, r⟩ := h; exact ⟨vs, ha _ e, Reps.carry k ds vs r⟩
  | dct ds => obtain ⟨vs, e, r⟩ := h; exact ⟨vs, ha _ e, Repk.carry k ds vs r⟩
  | ins C dx fs => obtain ⟨vs, e, r, o, q⟩ := h; exact ⟨vs, ha _ e, Repf.carry k fs vs r, hd dx o q⟩
  | dfz od vs ds => obtain ⟨e, r⟩ := h; exact ⟨ha _ e, Repk.carry k ds vs r⟩
  | tab q => obtain ⟨ps, e, t, r⟩ := h; exact ⟨ps, ha _ e, t, fun pos cv z => let ⟨c, e1, e2, e3⟩ := r pos cv z; ⟨c, e1, (k c _ e2 e3).1, (k c _ e2 e3).2⟩⟩
  | xd vs fs => obtain ⟨e, r⟩ := h; exact ⟨ha _ e, Repf.carry k fs vs r⟩
  | dT P w rows => obtain ⟨xs, e, n, e2, nd, t⟩ := h; exact ⟨xs, ha _ e, n, e2, nd, fun x hx => (t x hx).carry k⟩
  | fnc o c q t => obtain ⟨e, e1, e2, e3⟩ := h; exact ⟨ha _ e, (k c _ e1 e2).1, (k c _ e1 e2).2, fun p hp => k p.1 _ (e3 p hp).1 (e3 p hp).2⟩
  | cel o v d => obtain ⟨e, e1, e2⟩ := h; exact ⟨ha _ e, e1, Rep.carry k _ _ e2⟩
theorem Wd.new (W : Wd K H B m) {p : Addr} {o : HO} (hp : H p = none) : Wd K (upd H p o) B m ∧ ¬ Ban B m p := by
  obtain ⟨f1, f2⟩ := W.free hp
  have st : Step H m (upd H p o) m := Step.new hp
  refine ⟨⟨fun a c e => ?_, fun a b => ?_⟩, fun z => z.elim f2 fun z => z f1⟩
  · exact CellOk.carry st.carry (fun u q => by rw [upd_ne (ne_of_none q hp)]; exact q) (fun dx q h => ⟨by rw [upd_ne (ne_of_none q hp)]; exact q, h⟩) (W.cell a c e)
  · obtain ⟨h1, h2⟩ := W.hid a b
    refine ⟨?_, h2⟩
    cases q : H a with
    | none => exact absurd q h1
    | some u => rw [upd_ne (ne_of_none q hp), q]; exact fun z => nomatch z
/-- .. handed on as data -/
theorem PostE.tup {Q : EK} {Q' : VK} (k : PostE K B H m Q Q') (W : Wd K H B m) {ds : List D} {vs : List V} (r : Reps K H (Ban B m) ds vs) (q : Q (.tup ds) m) : NewT H vs Q' := fun p o hp hd =>
  have ⟨W', n⟩ := W.new (o := .frz o (.tup vs)) hp
  k _ m _ _ (Step.new hp) W' (rep_tup.mpr ⟨p, vs, rfl, .inl ⟨o, upd_same, hd, n⟩, Reps.carry (Step.new hp : Step H m _ m).carry _ _ r⟩) q
theorem PostE.lst {Q : EK} {Q' : VK} (k : PostE K B H m Q Q') (W : Wd K H B m) {ds : List D} {vs : List V} (r : Reps K H (Ban B m) ds vs) (q : Q (.lst ds) m) {p : Addr} (hp : H p = none) : Q' (.ref p) (upd H p (.lst vs)) :=
  have ⟨W', n⟩ := W.new (o := .lst vs) hp
  k _ m _ _ (Step.new hp) W' (rep_lst.mpr ⟨p, vs, rfl, ⟨upd_same, n⟩, Reps.carry (Step.new hp : Step H m _ m).carry _ _ r⟩) q
theorem PostE.dct {Q : EK} {Q' : VK} (k : PostE K B H m Q Q') (W : Wd K H B m) {ds : List (Key × D)} {vs : List (Key × V)} (r : Repk K H (Ban B m) ds vs) (q : Q (.dct ds) m) {p : Addr} (hp : H p = none) : Q' (.ref p) (upd H p (.dK vs)) :=
  have ⟨W', n⟩ := W.new (o := .dK vs) hp
  k _ m _ _ (Step.new hp) W' (rep_dct.mpr ⟨p, vs, rfl, ⟨upd_same, n⟩, Repk.carry (Step.new hp : Step H m _ m).carry _ _ r⟩) q
/-- a cell written -/
theorem Wd.write (W : Wd K H B m) {p : Addr} {c0 c : Cell} {o : HO} (h0 : m p = some c0) (hin : ∀ C dx fs, c0 = .ins C dx fs → ∃ gs, c = .ins C dx gs)
    (hno : ∀ x, H p ≠ some (.own x)) (new : CellOk K (upd H p o) (Ban B (m.put p c)) (m.put p c) p c) : Step H m (upd H p o) (m.put p c) ∧ Wd K (upd H p o) B (m.put p c) := by
  have st : Step H m (upd H p o) (m.put p c) := fun x u e n => by
    have ne : x ≠ p := fun z => by subst z; rw [h0] at n; cases n
    rw [upd_ne ne, Mu.put_ne ne]; exact ⟨e, n⟩
  refine ⟨st, fun a d e => ?_, fun a b => ?_⟩
  · by_cases q : a = p
    · subst q; rw [Mu.put_same] at e; cases e; exact new
    · rw [Mu.put_ne q] at e
      refine CellOk.carry st.carry (fun u z => by rw [upd_ne q]; exact z) (fun dx z n => st dx _ z n) (W.cell a d e)
  · obtain ⟨h1, h2⟩ := W.hid a b
    have ne : a ≠ p := fun z => by subst z; rw [h0] at h2; cases h2
    rw [upd_ne ne, Mu.put_ne ne]; exact ⟨h1, h2⟩
/-- a new object into the store -/
theorem Wd.into (W : Wd K H B m) {p : Addr} {c : Cell} {o : HO} (hp : H p = none) (new : CellOk K (upd H p o) (Ban B (m.put p c)) (m.put p c) p c) : Step H m (upd H p o) (m.put p c) ∧ Wd K (upd H p o) B (m.put p c) := by
  have st : Step H m (upd H p o) (m.put p c) := fun x u e n => by
    have ne : x ≠ p := ne_of_none e hp
    rw [upd_ne ne, Mu.put_ne ne]; exact ⟨e, n⟩
  refine ⟨st, fun a d e => ?_, fun a b => ?_⟩
  · by_cases q : a = p
    · subst q; rw [Mu.put_same] at e; cases e; exact new
    · rw [Mu.put_ne q] at e
      exact CellOk.carry st.carry (fun u z => by rw [upd_ne q]; exact z) (fun dx z n => st dx _ z n) (W.cell a d e)
  · obtain ⟨h1, h2⟩ := W.hid a b
    cases q : H a with
    | none => exact absurd q h1
    | some u =>
      have ne : a ≠ p := ne_of_none q hp
      rw [upd_ne ne, Mu.put_ne ne, q]; exact ⟨(fun z => nomatch z), h2⟩
end
end L3
namespace L3
open PySem PySem.Spec PyProof.Rows L2
section
variable {X : Cx} {pos : Pos}
/-! ### names, constants -/
def aVar (i : Nat) : AEt := fun δ m Q => ∃ d, δ[i]? = some (some d) ∧ Q d m
def aC (d : D) : AEt := fun _ m Q => Q d m
theorem ae_var (i : Nat) {x : Str} (hN : X.N[i]? = some x := by rfl) (hv : Vis X.env.scope x := by first | exact Or.inl rfl | exact Or.inr (Or.inl rfl) | exact Or.inr (Or.inr rfl)) (hd : (x == ("__debug__" : Str)) = false := by decide)
    (hcd : (x == ("__classdict__" : Str)) = false := by decide) : AE X (.Name x pos) (aVar i) :=
  ⟨tVar i, pv i hN hv hd hcd, fun B δ m Q σ H W E ⟨d, e, q⟩ Q' k => let ⟨v, hv, r⟩ := E.at_ i d e; ⟨v, hv, k.now W r q⟩⟩
/-- a value that the heap has nothing to do with -/
theorem ae_c {e : Expr} {d : D} {v : V} (h : PE X e (tC v)) (r : ∀ H N, Rep X.K H N d v) : AE X e (aC d) :=
  ⟨tC v, h, fun B δ m Q σ H W E q Q' k => k.now W (r _ _) q⟩
theorem ae_int {i j} : AE X (.Constant (.int i) j pos) (aC (.int i)) := ae_c pe_int fun _ _ => rep_int.mpr rfl
theorem ae_bl {b j} : AE X (.Constant (.bool b) j pos) (aC (.bl b)) := ae_c pe_bl fun _ _ => rep_bl.mpr rfl
theorem ae_non {j} : AE X (.Constant .none j pos) (aC .non) := ae_c pe_non fun _ _ => rep_non.mpr rfl
theorem ae_str {x j} : AE X (.Constant (.str x) j pos) (aC (.str x)) := ae_c pe_str fun _ _ => rep_str.mpr rfl
/-- what the module's name x stands for -/
structure GloD (K : PySem.W.Frag) (mg : Str → Option Value) (x : Str) (d : D) : Prop where
  ex : ∃ u v, mg x = some u ∧ RelV v u ∧ ∀ H N, Rep K H N d v
theorem GloD.int {K mg x i} (h : ∃ t, mg x = some (.int i t)) : GloD K mg x (.int i) := let ⟨t, h⟩ := h; ⟨_, .int i, h, ⟨t, rfl⟩, fun _ _ => rep_int.mpr rfl⟩
theorem GloD.str {K mg x z} (h : ∃ t, mg x = some (.str z t)) : GloD K mg x (.str z) := let ⟨t, h⟩ := h; ⟨_, .str z, h, ⟨t, rfl⟩, fun _ _ => rep_str.mpr rfl⟩
theorem ae_glo {x : Str} {d : D} (h : GloD X.K X.mg x d) (hg : Gl X x := by rfl) (hd : (x == ("__debug__" : Str)) = false := by decide) : AE X (.Name x pos) (aC d) :=
  let ⟨_, _, hm, r, q⟩ := h.ex
  ae_c (pe_glob hg hm r hd) q
theorem ae_ty {x : Str} {n : String} (hm : X.mg x = none) (hv : bootBuiltins x = some (.type n)) (hg : Gl X x := by rfl) (hn : x ≠ "__name__" := by decide) (hd : (x == ("__debug__" : Str)) = false := by decide) : AE X (.Name x pos) (aC (.ty n)) :=
  ae_c (pe_bltn (v := .ty n) hg hm hv rfl hn hd) fun _ _ => rep_ty.mpr rfl

/-! ### operations by values -/
abbrev Rho2 := D → D → Mu → EK → Prop
def rOf (K : PySem.W.Frag) (ρ : Rho2) : R2 := fun x y H Q' => ∃ B m dx dy Q, Wd K H B m ∧ Rep K H (Ban B m) dx x ∧ Rep K H (Ban B m) dy y ∧ ρ dx dy m Q ∧ PostE K B H m Q Q'
def aOp (ρ : Rho2) (ta tb : AEt) : AEt := fun δ m Q => ta δ m fun x m1 => tb δ m1 fun y m2 => ρ x y m2 Q
theorem SE.bin {K : PySem.W.Frag} {ρ : Rho2} {ta tb : AEt} {sa sb : TE} (ha : SE K sa ta) (hb : SE K sb tb) : SE K (tOp (rOf K ρ) sa sb) (aOp ρ ta tb) := fun B δ m Q σ H W E h Q' k =>
  ha B δ m _ σ H W E h _ fun x m1 v H1 s1 W1 r1 q1 => hb B δ m1 _ σ H1 W1 (E.carry s1.carry) q1 _ fun y m2 u H2 s2 W2 r2 q2 =>
    ⟨B, m2, x, y, Q, W2, Rep.carry s2.carry _ _ r1, r2, q2, k.step (s1.trans s2)⟩
theorem ae_op {op : Operator} {ρ : Rho2} {a b : Expr} {ta tb : AEt} (ho : OpR X (binaryOp op) (rOf X.K ρ)) (ha : AE X a ta) (hb : AE X b tb) : AE X (.BinOp a op b pos) (aOp ρ ta tb) :=
  let ⟨_, pa, sa⟩ := ha.ex
  let ⟨_, pb, sb⟩ := hb.ex
  ⟨_, pe_op ho pa pb, sa.bin sb⟩
theorem ae_cmp {op : CmpOp} {ρ : Rho2} {a b : Expr} {ta tb : AEt} (ho : OpR X (compareOp op) (rOf X.K ρ)) (ha : AE X a ta) (hb : AE X b tb) (hm : behindInMarks op b = false) : AE X (.Compare a [op] [b] pos) (aOp ρ ta tb) :=
  let ⟨_, pa, sa⟩ := ha.ex
  let ⟨_, pb, sb⟩ := hb.ex
  ⟨_, pe_cmpR ho pa pb hm, sa.bin sb⟩
/-- a list, also one in the store -/
def lstOf (m : Mu) : D → Option (List D)
  | .lst ds => some ds
  | .ref p => match m p with
    | some (.lst ds) => some ds
    | _ => none
  | _ => none
/-- it stands there as a tracked list -/
theorem lst_at {K : PySem.W.Frag} {H : Hp} {B : Addr → Prop} {m : Mu} {d : D} {ds : List D} {v : V} (W : Wd K H B m) (r : Rep K H (Ban B m) d v) (h : lstOf m d = some ds) : ∃ a vs, v = .ref a ∧ H a = some (.lst vs) ∧ Reps K H (Ban B m) ds vs := by
  unfold lstOf at h
  split at h
  · cases h
    obtain ⟨a, vs, e, t, q⟩ := rep_lst.mp r
    exact ⟨a, vs, e, t.1, q⟩
  · rename_i p
    split at h
    · rename_i e
      cases h
      obtain ⟨vs, hp, q⟩ := W.cell p _ e
      exact ⟨p, vs, rep_ref.mp r, hp, q⟩
    · cases h
  · cases h
def rhoAdd : Rho2 := fun x y m Q => match x, y with
  | .int i, .int j => Q (.int (i + j)) m
  | .str s, .str t => s.length + t.length ≤ sizeLine ∧ Q (.str (s ++ t)) m
  | .tup a, .tup b => a.length + b.length ≤ sizeLine ∧ Q (.tup (a ++ b)) m
  | x, y => ∃ a b, lstOf m x = some a ∧ lstOf m y = some b ∧ a.length + b.length ≤ sizeLine ∧ Q (.lst (a ++ b)) m
theorem add_lst {x y : D} {B : Addr → Prop} {m : Mu} {Q : EK} {a b : List D} (hx : lstOf m x = some a) (hy : lstOf m y = some b) (hl : a.length + b.length ≤ sizeLine) (hq : Q (.lst (a ++ b)) m)
    {pins s σ H v u} {Q' : VK} {vv uu : Value} (I : Inv X pins σ H s) (rv : RelV v vv) (ru : RelV u uu) (W : Wd X.K H B m) (r1 : Rep X.K H (Ban B m) x v) (r2 : Rep X.K H (Ban B m) y u) (k : PostE X.K B H m Q Q') :
    wpAny (model X.prog X.w) X.A (binaryOp .Add vv uu) (EP X pins σ Q') X.xe s := by
  obtain ⟨p, vs, rfl, hp, q1⟩ := lst_at W r1 hx
  obtain ⟨p', ws, rfl, hp', q2⟩ := lst_at W r2 hy
  exact op_cat pins s σ H _ _ _ _ Q' I rv ru ⟨p, p', vs, ws, rfl, rfl, hp, hp', by rw [q1.len, q2.len]; exact hl, fun l hl' => k.lst W (q1.app q2) hq hl'⟩
theorem or_add : OpR X (binaryOp .Add) (rOf X.K rhoAdd) := by
  intro pins s σ H x y v u Q' I rx ry h
  obtain ⟨B, m, dx, dy, Q, W, r1, r2, h, k⟩ := h
  unfold rhoAdd at h
  split at h
  · cases rep_int.mp r1; cases rep_int.mp r2
    exact op_add pins s σ H _ _ v u Q' I rx ry ⟨_, _, rfl, rfl, k.now W (rep_int.mpr rfl) h⟩
  · cases rep_str.mp r1; cases rep_str.mp r2
    exact op_add_str pins s σ H _ _ v u Q' I rx ry ⟨_, _, rfl, rfl, h.1, k.now W (rep_str.mpr rfl) h.2⟩
  · rename_i a b
    obtain ⟨p, vs, rfl, t1, q1⟩ := rep_tup.mp r1
    obtain ⟨p', ws, rfl, t2, q2⟩ := rep_tup.mp r2
    refine op_catF pins s σ H _ _ v u Q' I rx ry ⟨p, p', vs, ws, rfl, rfl, t1.sq, t2.sq, by rw [q1.len, q2.len]; exact h.1, fun e => ?_, fun _ e => ?_, fun _ _ => k.tup W (q1.app q2) h.2⟩
    · have : a = [] := by have := q1.len; rw [e] at this; exact List.eq_nil_of_length_eq_zero this.symm
      subst this
      exact k.now W r2 h.2
    · have : b = [] := by have := q2.len; rw [e] at this; exact List.eq_nil_of_length_eq_zero this.symm
      subst this
      exact k.now W r1 (by simpa using h.2)
  · obtain ⟨a, b, hx, hy, hl, hq⟩ := h
    exact add_lst hx hy hl hq I rx ry W r1 r2 k
def rhoSub : Rho2 := fun x y m Q => ∃ i j, x = .int i ∧ y = .int j ∧ Q (.int (i - j)) m
theorem or_sub : OpR X (binaryOp .Sub) (rOf X.K rhoSub) := by
  intro pins s σ H x y v u Q' I rx ry h
  obtain ⟨B, m, dx, dy, Q, W, r1, r2, ⟨i, j, rfl, rfl, h⟩, k⟩ := h
  cases rep_int.mp r1; cases rep_int.mp r2
  exact op_sub pins s σ H _ _ v u Q' I rx ry ⟨_, _, rfl, rfl, k.now W (rep_int.mpr rfl) h⟩
def rhoMul : Rho2 := fun x y m Q => match x, y with
  | .int i, .int j => CMul i j ∧ Q (.int (i * j)) m
  | .lst a, .int n => 0 ≤ n ∧ n < 1000 ∧ a.length * n.toNat ≤ sizeLine ∧ Q (.lst (List.replicate n.toNat a).flatten) m
  | .tup a, .int n => False
  | _, _ => False
theorem reps_rep {K : PySem.W.Frag} {H : Hp} {N : Addr → Prop} {ds : List D} {vs : List V} (h : Reps K H N ds vs) : ∀ n, Reps K H N (List.replicate n ds).flatten (List.replicate n vs).flatten
  | 0 => reps_nil.mpr rfl
  | n + 1 => by
    rw [List.replicate_succ, List.replicate_succ, List.flatten_cons, List.flatten_cons]
    exact h.app (reps_rep h n)
theorem or_mul : OpR X (binaryOp .Mult) (rOf X.K rhoMul) := by
  intro pins s σ H x y v u Q' I rx ry h
  obtain ⟨B, m, dx, dy, Q, W, r1, r2, h, k⟩ := h
  unfold rhoMul at h
  split at h
  · cases rep_int.mp r1; cases rep_int.mp r2
    exact op_mul pins s σ H _ _ v u Q' I rx ry ⟨_, _, rfl, rfl, h.1, k.now W (rep_int.mpr rfl) h.2⟩
  · obtain ⟨p, vs, rfl, t1, q1⟩ := rep_lst.mp r1
    cases rep_int.mp r2
    obtain ⟨h1, h2, h3, h4⟩ := h
    exact op_rep pins s σ H _ _ v u Q' I rx ry ⟨p, _, vs, rfl, rfl, t1.1, by omega, by omega, by rw [q1.len]; exact h3, fun l hl => k.lst W (reps_rep q1 _) h4 hl⟩
  · exact h.elim
  · exact h.elim
def rhoMod : Rho2 := fun x y m Q => ∃ i j, x = .int i ∧ y = .int j ∧ 0 < j ∧ Q (.int (i % j)) m
theorem or_mod : OpR X (binaryOp .Mod) (rOf X.K rhoMod) := by
  intro pins s σ H x y v u Q' I rx ry h
  obtain ⟨B, m, dx, dy, Q, W, r1, r2, ⟨i, j, rfl, rfl, hj, h⟩, k⟩ := h
  cases rep_int.mp r1; cases rep_int.mp r2
  exact op_mod pins s σ H _ _ v u Q' I rx ry ⟨_, _, rfl, rfl, hj, k.now W (rep_int.mpr rfl) h⟩
def rhoDiv : Rho2 := fun x y m Q => ∃ i j, x = .int i ∧ y = .int j ∧ CDiv i j ∧ Q (.int (i / j)) m
theorem or_div : OpR X (binaryOp .FloorDiv) (rOf X.K rhoDiv) := by
  intro pins s σ H x y v u Q' I rx ry h
  obtain ⟨B, m, dx, dy, Q, W, r1, r2, ⟨i, j, rfl, rfl, hj, h⟩, k⟩ := h
  cases rep_int.mp r1; cases rep_int.mp r2
  exact op_fdiv pins s σ H _ _ v u Q' I rx ry ⟨_, _, rfl, rfl, hj, k.now W (rep_int.mpr rfl) h⟩
def rhoPow : Rho2 := fun x y m Q => ∃ i j, x = .int i ∧ y = .int j ∧ CPow i j ∧ Q (.int (i ^ j.toNat)) m
theorem or_pow : OpR X (binaryOp .Pow) (rOf X.K rhoPow) := by
  intro pins s σ H x y v u Q' I rx ry h
  obtain ⟨B, m, dx, dy, Q, W, r1, r2, ⟨i, j, rfl, rfl, hj, h⟩, k⟩ := h
  cases rep_int.mp r1; cases rep_int.mp r2
  exact op_pow pins s σ H _ _ v u Q' I rx ry ⟨_, _, rfl, rfl, hj, k.now W (rep_int.mpr rfl) h⟩
/-- comparisons of ints -/
def rhoI (f : Int → Int → Bool) : Rho2 := fun x y m Q => ∃ i j, x = .int i ∧ y = .int j ∧ Q (.bl (f i j)) m
theorem or_int {op : CmpOp} {f : Int → Int → Bool} (h0 : OpR X (compareOp op) (rI0 fun i j => .bl (f i j))) : OpR X (compareOp op) (rOf X.K (rhoI f)) := by
  intro pins s σ H x y v u Q' I rx ry h
  obtain ⟨B, m, dx, dy, Q, W, r1, r2, ⟨i, j, rfl, rfl, h⟩, k⟩ := h
  cases rep_int.mp r1; cases rep_int.mp r2
  exact h0 pins s σ H _ _ v u Q' I rx ry ⟨_, _, rfl, rfl, k.now W (rep_bl.mpr rfl) h⟩
abbrev rhoLt : Rho2 := rhoI fun i j => decide (i < j)
abbrev rhoLe : Rho2 := rhoI fun i j => decide (i ≤ j)
abbrev rhoGt : Rho2 := rhoI fun i j => decide (j < i)
abbrev rhoGe : Rho2 := rhoI fun i j => decide (j ≤ i)
theorem or_lt : OpR X (compareOp .Lt) (rOf X.K rhoLt) := or_int op_lt
theorem or_le : OpR X (compareOp .LtE) (rOf X.K rhoLe) := or_int op_le
theorem or_gt : OpR X (compareOp .Gt) (rOf X.K rhoGt) := or_int op_gt
theorem or_ge : OpR X (compareOp .GtE) (rOf X.K rhoGe) := or_int op_ge
/-! ### equality: data of any depth -/
mutual
def D.pd : D → PyData
  | .non => .none
  | .bl b => .bool b
  | .int i => .int i
  | .str x => .str x
  | .tup ds => .tuple (pds ds)
  | .lst ds => .list (pds ds)
  | .dct _ => .none
  | .ref _ => .none
  | .ty _ => .none
  | .fl _ => .none
def pds : List D → List PyData
  | [] => []
  | d :: ds => d.pd :: pds ds
end
mutual
/-- data that == is reckoned of -/
def D.plain : D → Bool
  | .tup ds => plains ds
  | .lst ds => plains ds
  | .dct _ => false
  | .ref _ => false
  | .ty _ => false
  | .fl _ => false
  | _ => true
def plains : List D → Bool
  | [] => true
  | d :: ds => d.plain && plains ds
end
section
variable {K : PySem.W.Frag} {H : Hp} {N : Addr → Prop}
mutual
theorem dp_of : ∀ (d : D) (v : V), d.plain = true → Rep K H N d v → Dp K H v d.pd
  | .non, _, _, r => by cases rep_non.mp r; exact .non
  | .bl _, _, _, r => by cases rep_bl.mp r; exact .bl _
  | .int _, _, _, r => by cases rep_int.mp r; exact .int _
  | .str _, _, _, r => by cases rep_str.mp r; exact .str _
  | .tup ds, _, p, r => by
    obtain ⟨a, vs, rfl, t, q⟩ := rep_tup.mp r
    exact .tup t.sq (dps_of ds vs (by simpa only [D.plain] using p) q)
  | .lst ds, _, p, r => by
    obtain ⟨a, vs, rfl, t, q⟩ := rep_lst.mp r
    exact .lst t.sq (dps_of ds vs (by simpa only [D.plain] using p) q)
  | .dct _, _, p, _ => by simp [D.plain] at p
  | .ref _, _, p, _ => by simp [D.plain] at p
  | .ty _, _, p, _ => by simp [D.plain] at p
  | .fl _, _, p, _ => by simp [D.plain] at p
theorem dps_of : ∀ (ds : List D) (vs : List V), plains ds = true → Reps K H N ds vs → DpAll K H vs (pds ds)
  | [], _, _, r => by rw [reps_nil.mp r]; exact .nil
  | d :: ds, _, p, r => by
    obtain ⟨v, ws, rfl, r1, r2⟩ := reps_cons.mp r
    have p' : d.plain = true ∧ plains ds = true := by simpa [plains] using p
    exact .cons (dp_of d v p'.1 r1) (dps_of ds ws p'.2 r2)
end
end
/-- what == looks at: a list of the store as it stands -/
def rsv (m : Mu) (d : D) : D := match lstOf m d with
  | some ds => .lst ds
  | none => d
theorem rsv_dp {K : PySem.W.Frag} {H : Hp} {B : Addr → Prop} {m : Mu} {d : D} {v : V} (W : Wd K H B m) (r : Rep K H (Ban B m) d v) (p : (rsv m d).plain = true) : Dp K H v (rsv m d).pd := by
  unfold rsv at p ⊢
  cases e : lstOf m d with
  | none => rw [e] at p; exact dp_of d v p r
  | some ds =>
    rw [e] at p
    obtain ⟨a, vs, rfl, h, q⟩ := lst_at W r e
    exact .lst (SqL.of h) (dps_of ds vs (by simpa only [D.plain] using p) q)
def eqOk (d : D) : Bool := d.plain && SeqAt.shaped d.pd
/-- flat data -/
def D.flat : D → Bool
  | .non => true
  | .bl _ => true
  | .int _ => true
  | .str _ => true
  | _ => false
def vOf : D → V
  | .non => .non
  | .bl b => .bl b
  | .int i => .int i
  | .str x => .str x
  | _ => .non
theorem rep_flat {K : PySem.W.Frag} {H : Hp} {N : Addr → Prop} {d : D} {v : V} (f : d.flat = true) (r : Rep K H N d v) : v = vOf d := by
  cases d <;> first | (cases f; done) | (simp only [Rep] at r; exact r)
/-- what == tells apart by itself -/
def scalD (x y : D) : Bool := x.flat && (y.flat && scal (vOf x) (vOf y))
def eqD (x y : D) : Bool := PyData.eqv x.pd y.pd
theorem rsv_flat {m : Mu} {d : D} (f : d.flat = true) : rsv m d = d := by
  cases d <;> first | (cases f; done) | rfl
theorem scal_eqv {x y : D} (f : x.flat = true) (g : y.flat = true) (h : scal (vOf x) (vOf y) = true) : decide (vOf x = vOf y) = eqD x y := by
  unfold eqD
  cases x <;> first | (cases f; done) | skip
  all_goals (cases y <;> first | (cases g; done) | (cases h; done) | skip)
  all_goals (simp only [vOf, D.pd, PyData.eqv])
  all_goals first
    | rfl
    | exact dec_int
    | exact dec_bl
    | (rename_i a b
       by_cases e : a = b
       · subst e; simp
       · simp [e])
    | simp
def rhoEq : Rho2 := fun x y m Q => (scalD x y = true ∨ (eqOk (rsv m x) = true ∧ eqOk (rsv m y) = true)) ∧ Q (.bl (eqD (rsv m x) (rsv m y))) m
def rhoNe : Rho2 := fun x y m Q => (scalD x y = true ∨ (eqOk (rsv m x) = true ∧ eqOk (rsv m y) = true)) ∧ Q (.bl (!eqD (rsv m x) (rsv m y))) m
theorem scalD_of {x y : D} (h : scalD x y = true) : x.flat = true ∧ y.flat = true ∧ scal (vOf x) (vOf y) = true :=
  let ⟨a, b⟩ := Bool.and_eq_true_iff.mp h
  let ⟨c, d⟩ := Bool.and_eq_true_iff.mp b
  ⟨a, c, d⟩
theorem or_eq (hu : X.A.units + 64 < cLine) : OpR X (compareOp .Eq) (rOf X.K rhoEq) := by
  intro pins s σ H x y v u Q' I rx ry ⟨B, m, dx, dy, Q, W, r1, r2, ⟨c, h⟩, k⟩
  rcases c with c | ⟨h1, h2⟩
  · obtain ⟨f, g, e⟩ := scalD_of c
    obtain rfl := rep_flat f r1
    obtain rfl := rep_flat g r2
    rw [rsv_flat f, rsv_flat g, ← scal_eqv f g e] at h
    exact op_eq pins s σ H _ _ v u Q' I rx ry ⟨e, k.now W (rep_bl.mpr rfl) h⟩
  · obtain ⟨p1, s1⟩ := Bool.and_eq_true_iff.mp h1
    obtain ⟨p2, s2⟩ := Bool.and_eq_true_iff.mp h2
    exact op_eqD hu pins s σ H _ _ v u Q' I rx ry ⟨_, _, rsv_dp W r1 p1, rsv_dp W r2 p2, s1, s2, k.now W (rep_bl.mpr rfl) h⟩
theorem or_ne (hu : X.A.units + 64 < cLine) : OpR X (compareOp .NotEq) (rOf X.K rhoNe) := by
  intro pins s σ H x y v u Q' I rx ry ⟨B, m, dx, dy, Q, W, r1, r2, ⟨c, h⟩, k⟩
  rcases c with c | ⟨h1, h2⟩
  · obtain ⟨f, g, e⟩ := scalD_of c
    obtain rfl := rep_flat f r1
    obtain rfl := rep_flat g r2
    rw [rsv_flat f, rsv_flat g, ← scal_eqv f g e] at h
    exact op_ne pins s σ H _ _ v u Q' I rx ry ⟨e, k.now W (rep_bl.mpr rfl) h⟩
  · obtain ⟨p1, s1⟩ := Bool.and_eq_true_iff.mp h1
    obtain ⟨p2, s2⟩ := Bool.and_eq_true_iff.mp h2
    exact op_neD hu pins s σ H _ _ v u Q' I rx ry ⟨_, _, rsv_dp W r1 p1, rsv_dp W r2 p2, s1, s2, k.now W (rep_bl.mpr rfl) h⟩
/-! ### is None -/
def D.isNon : D → Bool
  | .non => true
  | _ => false
theorem rep_isNon {K : PySem.W.Frag} {H : Hp} {N : Addr → Prop} {d : D} {v : V} (r : Rep K H N d v) : decide (v = .non) = d.isNon := by
  cases d with
  | non => cases rep_non.mp r; rfl
  | bl b => cases rep_bl.mp r; rfl
  | int b => cases rep_int.mp r; rfl
  | str b => cases rep_str.mp r; rfl
  | tup ds => obtain ⟨a, vs, rfl, _⟩ := rep_tup.mp r; rfl
  | lst ds => obtain ⟨a, vs, rfl, _⟩ := rep_lst.mp r; rfl
  | dct ds => obtain ⟨a, vs, rfl, _⟩ := rep_dct.mp r; rfl
  | ref a => cases rep_ref.mp r; rfl
  | ty a => cases rep_ty.mp r; rfl
  | fl a => obtain ⟨p, rfl, _⟩ := rep_fl.mp r; rfl
def rhoIsN : Rho2 := fun x y m Q => y = .non ∧ Q (.bl x.isNon) m
def rhoNotN : Rho2 := fun x y m Q => y = .non ∧ Q (.bl (!x.isNon)) m
theorem or_isN : OpR X (compareOp .Is) (rOf X.K rhoIsN) := by
  intro pins s σ H x y v u Q' I rx ry h
  obtain ⟨B, m, dx, dy, Q, W, r1, r2, ⟨rfl, h⟩, k⟩ := h
  cases rep_non.mp r2
  exact op_isN pins s σ H _ _ v u Q' I rx ry ⟨rfl, by rw [rep_isNon r1]; exact k.now W (rep_bl.mpr rfl) h⟩
end
end L3
namespace L3
open PySem PySem.Spec PyProof.Rows L2
section
variable {X : Cx} {pos : Pos}
/-! ### tests -/
def aB (t : AEt) : ATt := fun δ m Q => t δ m fun x m' => ∃ c, x = .bl c ∧ Q c m'
theorem at_cmp {op : CmpOp} {ρ : Rho2} {a b : Expr} {ta tb : AEt} (ho : OpR X (compareOp op) (rOf X.K ρ)) (ha : AE X a ta) (hb : AE X b tb) (hm : behindInMarks op b = false) : AT X (.Compare a [op] [b] pos) (aB (aOp ρ ta tb)) :=
  let ⟨_, pa, sa⟩ := ha.ex
  let ⟨_, pb, sb⟩ := hb.ex
  ⟨_, pt_cmpR ho pa pb hm, fun B δ m Q σ H W E h Q' k => sa.bin sb B δ m _ σ H W E h _ fun d m' v H' s W' r ⟨c, e, q⟩ => by subst e; exact ⟨c, rep_bl.mp r, k c m' H' s W' q⟩⟩
theorem at_val {e : Expr} {t : AEt} (h : AE X e t) (he : ∀ whole, isTrue e X.env whole = (do let v ← whole; standAt e.pos; holding [v] (truthy v)) := by intro _; rfl) : AT X e (aB t) :=
  let ⟨_, pa, sa⟩ := h.ex
  ⟨_, pt_val pa he, fun B δ m Q σ H W E h Q' k => sa B δ m _ σ H W E h _ fun d m' v H' s W' r ⟨c, e, q⟩ => by subst e; exact ⟨c, rep_bl.mp r, k c m' H' s W' q⟩⟩
def aAnd (t u : ATt) : ATt := fun δ m Q => t δ m fun c m1 => if c = true then u δ m1 Q else Q false m1
def aOr (t u : ATt) : ATt := fun δ m Q => t δ m fun c m1 => if c = true then Q true m1 else u δ m1 Q
def aNot (t : ATt) : ATt := fun δ m Q => t δ m fun c m1 => Q (!c) m1
theorem AW.t {e : Expr} {t : ATt} (h : AW X e t) : AT X e t := let ⟨_, p, s⟩ := h.ex; ⟨_, p.pt, s⟩
section
variable {a b : Expr} {rest : List Expr} {t u : ATt}
theorem aw_and1 (h : AT X a t) : AW X (.BoolOp .And [a] pos) t := let ⟨_, p, s⟩ := h.ex; ⟨_, pw_and1 p, s⟩
theorem aw_or1 (h : AT X a t) : AW X (.BoolOp .Or [a] pos) t := let ⟨_, p, s⟩ := h.ex; ⟨_, pw_or1 p, s⟩
theorem aw_and (h : AT X a t) (g : AW X (.BoolOp .And (b :: rest) pos) u) : AW X (.BoolOp .And (a :: b :: rest) pos) (aAnd t u) :=
  let ⟨_, p, s⟩ := h.ex
  let ⟨_, p', s'⟩ := g.ex
  ⟨_, pw_and p p', fun B δ m Q σ H W E h Q' k => s B δ m _ σ H W E h _ fun c m1 H1 s1 W1 q => by
    cases c with
    | true => exact s' B δ m1 _ σ H1 W1 (E.carry s1.carry) q _ (k.step s1)
    | false => exact k false m1 H1 s1 W1 q⟩
theorem aw_or (h : AT X a t) (g : AW X (.BoolOp .Or (b :: rest) pos) u) : AW X (.BoolOp .Or (a :: b :: rest) pos) (aOr t u) :=
  let ⟨_, p, s⟩ := h.ex
  let ⟨_, p', s'⟩ := g.ex
  ⟨_, pw_or p p', fun B δ m Q σ H W E h Q' k => s B δ m _ σ H W E h _ fun c m1 H1 s1 W1 q => by
    cases c with
    | false => exact s' B δ m1 _ σ H1 W1 (E.carry s1.carry) q _ (k.step s1)
    | true => exact k true m1 H1 s1 W1 q⟩
theorem at_not (h : AT X a t) : AT X (.UnaryOp .Not a pos) (aNot t) :=
  let ⟨_, p, s⟩ := h.ex
  ⟨_, pt_not p, fun B δ m Q σ H W E h Q' k => s B δ m _ σ H W E h _ fun c m1 H1 s1 W1 q => k (!c) m1 H1 s1 W1 q⟩
end
/-! ### and, or, not as values; a if t else b -/
section
variable {a b c : Expr} {rest : List Expr} {ta tb : AEt} {t : ATt}
def aAndV (ta tb : AEt) : AEt := fun δ m Q => ta δ m fun x m1 => ∃ c, x = .bl c ∧ if c = true then tb δ m1 Q else Q (.bl false) m1
def aOrV (ta tb : AEt) : AEt := fun δ m Q => ta δ m fun x m1 => ∃ c, x = .bl c ∧ if c = true then Q (.bl true) m1 else tb δ m1 Q
def aNotV (ta : AEt) : AEt := fun δ m Q => ta δ m fun x m1 => ∃ c, x = .bl c ∧ Q (.bl (!c)) m1
def aIf (t : ATt) (ta tb : AEt) : AEt := fun δ m Q => t δ m fun c m1 => if c = true then ta δ m1 Q else tb δ m1 Q
theorem ae_one {op} (h : AE X a ta) : AE X (.BoolOp op [a] pos) ta := let ⟨_, p, s⟩ := h.ex; ⟨_, pe_one p, s⟩
theorem ae_and (h : AE X a ta) (g : AE X (.BoolOp .And (b :: rest) pos) tb) : AE X (.BoolOp .And (a :: b :: rest) pos) (aAndV ta tb) :=
  let ⟨_, p, s⟩ := h.ex
  let ⟨_, p', s'⟩ := g.ex
  ⟨_, pe_and p p', fun B δ m Q σ H W E h Q' k => s B δ m _ σ H W E h _ fun x m1 v H1 s1 W1 r ⟨c, e, q⟩ => by
    subst e
    refine ⟨c, rep_bl.mp r, ?_⟩
    cases c with
    | true => exact s' B δ m1 _ σ H1 W1 (E.carry s1.carry) q _ (k.step s1)
    | false => exact k _ m1 _ H1 s1 W1 (rep_bl.mpr rfl) q⟩
theorem ae_not (h : AE X a ta) : AE X (.UnaryOp .Not a pos) (aNotV ta) :=
  let ⟨_, p, s⟩ := h.ex
  ⟨_, pe_not p, fun B δ m Q σ H W E h Q' k => s B δ m _ σ H W E h _ fun x m1 v H1 s1 W1 r ⟨c, e, q⟩ => by
    subst e
    exact ⟨c, rep_bl.mp r, k _ m1 _ H1 s1 W1 (rep_bl.mpr rfl) q⟩⟩
theorem ae_if (hc : AT X c t) (h : AE X a ta) (g : AE X b tb) : AE X (.IfExp c a b pos) (aIf t ta tb) :=
  let ⟨_, pc, sc⟩ := hc.ex
  let ⟨_, p, s⟩ := h.ex
  let ⟨_, p', s'⟩ := g.ex
  ⟨_, pe_ifExp pc p p', fun B δ m Q σ H W E h Q' k => sc B δ m _ σ H W E h _ fun c m1 H1 s1 W1 q => by
    cases c with
    | true => exact s B δ m1 _ σ H1 W1 (E.carry s1.carry) q _ (k.step s1)
    | false => exact s' B δ m1 _ σ H1 W1 (E.carry s1.carry) q _ (k.step s1)⟩
/-- -a of an int -/
def aNeg (ta : AEt) : AEt := fun δ m Q => ta δ m fun x m1 => ∃ i, x = .int i ∧ Q (.int (-i)) m1
theorem ae_neg (h : AE X a ta) : AE X (.UnaryOp .USub a pos) (aNeg ta) :=
  let ⟨_, p, s⟩ := h.ex
  ⟨_, pe_un un_neg p, fun B δ m Q σ H W E h Q' k => s B δ m _ σ H W E h _ fun x m1 v H1 s1 W1 r ⟨i, e, q⟩ => by
    subst e
    exact ⟨i, rep_int.mp r, k _ m1 _ H1 s1 W1 (rep_int.mpr rfl) q⟩⟩
/-- a <= b <= c of ints -/
def aChain (ρ ρ' : Rho2) (ta tb tc : AEt) : AEt := fun δ m Q => ta δ m fun x m1 => tb δ m1 fun y m2 => ρ x y m2 fun z m3 => ∃ c, z = .bl c ∧ if c = true then tc δ m3 fun w m4 => ρ' y w m4 Q else Q (.bl false) m3
end
/-! ### arguments, displays -/
section
variable {e : Expr} {es : List Expr} {te : AEt} {t : AAt}
def aNil : AAt := fun _ m Q => Q [] m
def aCons (ta : AEt) (tr : AAt) : AAt := fun δ m Q => ta δ m fun x m1 => tr δ m1 fun xs m2 => Q (x :: xs) m2
theorem aa_nil : AA X [] aNil := ⟨_, pa_nil, fun B δ m Q σ H W E h Q' k => k [] m [] H (Step.refl H m) W (reps_nil.mpr rfl) h⟩
theorem aa_cons (h : AE X e te) (g : AA X es t) (hs : starEach (e :: es) X.env = (false, eval e X.env) :: starEach es X.env := by rfl) : AA X (e :: es) (aCons te t) :=
  let ⟨_, p, s⟩ := h.ex
  let ⟨_, p', s'⟩ := g.ex
  ⟨_, pa_cons p p' hs, fun B δ m Q σ H W E h Q' k => s B δ m _ σ H W E h _ fun x m1 v H1 s1 W1 r q => s' B δ m1 _ σ H1 W1 (E.carry s1.carry) q _ fun xs m2 vs H2 s2 W2 r2 q2 =>
    k (x :: xs) m2 (v :: vs) H2 (s1.trans s2) W2 (reps_cons.mpr ⟨v, vs, rfl, Rep.carry s2.carry _ _ r, r2⟩) q2⟩
def aTup (t : AAt) : AEt := fun δ m Q => t δ m fun ds m1 => ds.length ≤ sizeLine ∧ Q (.tup ds) m1
def aLst (t : AAt) : AEt := fun δ m Q => t δ m fun ds m1 => ds.length ≤ sizeLine ∧ Q (.lst ds) m1
/-- a new list that goes into the store -/
def aLstM (t : AAt) : AEt := fun δ m Q => t δ m fun ds m1 => ds.length ≤ sizeLine ∧ ∀ p, m1 p = none → Q (.ref p) (m1.put p (.lst ds))
theorem ae_tup {x1} (h : AA X es t) : AE X (.Tuple es x1 pos) (aTup t) :=
  let ⟨_, p, s⟩ := h.ex
  ⟨_, pe_tupF p, fun B δ m Q σ H W E h Q' k => s B δ m _ σ H W E h _ fun ds m1 vs H1 s1 W1 r q => ⟨by rw [r.len]; exact q.1, (k.step s1).tup W1 r q.2⟩⟩
theorem ae_lst (h : AA X es t) : AE X (.List es pos) (aLst t) :=
  let ⟨_, p, s⟩ := h.ex
  ⟨_, pe_lst p, fun B δ m Q σ H W E h Q' k => s B δ m _ σ H W E h _ fun ds m1 vs H1 s1 W1 r q => ⟨by rw [r.len]; exact q.1, fun l hl => (k.step s1).lst W1 r q.2 hl⟩⟩
theorem carry_put {H : Hp} {m : Mu} {B : Addr → Prop} {p : Addr} {c : Cell} {o : HO} (hp : H p = none) : Carry H (Ban B m) (upd H p o) (Ban B (m.put p c)) := fun x u e n => by
  have ne : x ≠ p := ne_of_none e hp
  exact ⟨by rw [upd_ne ne]; exact e, fun z => z.elim (fun b => n (.inl b)) fun z => n (.inr (by rw [Mu.put_ne ne] at z; exact z))⟩
theorem ae_lstM (h : AA X es t) : AE X (.List es pos) (aLstM t) :=
  let ⟨_, p, s⟩ := h.ex
  ⟨_, pe_lst p, fun B δ m Q σ H W E h Q' k => s B δ m _ σ H W E h _ fun ds m1 vs H1 s1 W1 r q => ⟨by rw [r.len]; exact q.1, fun l hl => by
    have ⟨st, W2⟩ := W1.into (c := .lst ds) (o := .lst vs) hl ⟨vs, upd_same, Reps.carry (carry_put hl) _ _ r⟩
    exact k _ _ _ _ (s1.trans st) W2 (rep_ref.mpr rfl) (q.2 l (W1.free hl).1)⟩⟩
/-! ### calls -/
abbrev SpD := List D → Mu → EK → Prop
/-- what is promised of data -/
def spD (K : PySem.W.Frag) (sp : SpD) : Sp := fun vs H Q' _ => ∃ B m ds Q, Wd K H B m ∧ Reps K H (Ban B m) ds vs ∧ sp ds m Q ∧ PostE K B H m Q Q'
def aCall (sp : SpD) (t : AAt) : AEt := fun δ m Q => t δ m fun ds m1 => sp ds m1 Q
/-- a def of the program that keeps a promise over data, and may be called by its name -/
structure FnD (P : Program) (w : World) (K : PySem.W.Frag) (mg : Str → Option Value) (base : Heap) (x : Str) (k : Nat) (sp : SpD) : Prop where
  ex : ∃ (f : Addr) (fd : FuncData) (ps : List Str), FnOk P w K mg base L2.CX0 k f fd ps (spD K sp) ∧ mg x = some (.ref f) ∧ PySem.W.keepIn K (.ref f) = true ∧ Binds K fd ps []
theorem FnD.mono {P w K mg base x j k sp} (h : FnD P w K mg base x j sp) (hj : j ≤ k) : FnD P w K mg base x k sp := let ⟨f, fd, ps, F, r⟩ := h.ex; ⟨f, fd, ps, F.mono hj, r⟩
theorem FnD.imp {P w K mg base x k} {sp sp' : SpD} (h : FnD P w K mg base x k sp) (i : ∀ ds m Q, sp' ds m Q → sp ds m Q) : FnD P w K mg base x k sp' :=
  let ⟨f, fd, ps, F, r⟩ := h.ex
  ⟨f, fd, ps, F.imp fun vs H Q' E ⟨B, m, ds, Q, W, rr, q, p⟩ => ⟨B, m, ds, Q, W, rr, i _ _ _ q, p⟩, r⟩
theorem ae_call {x : Str} {k : Nat} {sp : SpD} {p : Pos} (F : FnD X.prog X.w X.K X.mg X.base x k sp) (hr : Room k X.A) (h : AA X (e :: es) t) (hg : Gl X x := by rfl) (hdb : (x == ("__debug__" : Str)) = false := by decide)
    (he : starEach (e :: es) X.env = (false, eval e X.env) :: starEach es X.env := by rfl) (hpl : (backTo pos (starEach es X.env)).any (·.1) = false := by rfl) : AE X (.Call (.Name x p) (e :: es) [] pos) (aCall sp t) :=
  let ⟨_, pa, s⟩ := h.ex
  let ⟨_, _, _, F, hm, hk, hb⟩ := F.ex
  ⟨_, pe_call F hr hg hm hk hb .nil pass0 pa hdb he hpl, fun B δ m Q σ H W E h Q' k => s B δ m _ σ H W E h _ fun ds m1 vs H1 s1 W1 r q => by
    rw [List.append_nil]
    exact ⟨B, m1, ds, Q, W1, r, q, k.step s1⟩⟩
/-- a call of a built-in, by values -/
def rcOf (K : PySem.W.Frag) (ρ : SpD) : List V → Hp → VK → Prop := fun vs H Q' => ∃ B m ds Q, Wd K H B m ∧ Reps K H (Ban B m) ds vs ∧ ρ ds m Q ∧ PostE K B H m Q Q'
theorem ae_callB {x : Str} {id : String} {ρ : SpD} {p : Pos} (hc : CallR X (.builtin id) (rcOf X.K ρ)) (hm : X.mg x = none) (hv : bootBuiltins x = some (.builtin id)) (h : AA X (e :: es) t) (hg : Gl X x := by rfl) (hn : x ≠ "__name__" := by decide) (hdb : (x == ("__debug__" : Str)) = false := by decide)
    (he : starEach (e :: es) X.env = (false, eval e X.env) :: starEach es X.env := by rfl) (hpl : (backTo pos (starEach es X.env)).any (·.1) = false := by rfl) : AE X (.Call (.Name x p) (e :: es) [] pos) (aCall ρ t) :=
  let ⟨_, pa, s⟩ := h.ex
  ⟨_, pe_callB hc hg hm hv pa hn hdb he hpl, fun B δ m Q σ H W E h Q' k => s B δ m _ σ H W E h _ fun ds m1 vs H1 s1 W1 r q => ⟨B, m1, ds, Q, W1, r, q, k.step s1⟩⟩
theorem ae_callTy {x : Str} {T : String} {ρ : SpD} {p : Pos} (hc : CallR X (.type T) (rcOf X.K ρ)) (hm : X.mg x = none) (hv : bootBuiltins x = some (.type T)) (h : AA X (e :: es) t) (hg : Gl X x := by rfl) (hn : x ≠ "__name__" := by decide) (hdb : (x == ("__debug__" : Str)) = false := by decide)
    (he : starEach (e :: es) X.env = (false, eval e X.env) :: starEach es X.env := by rfl) (hpl : (backTo pos (starEach es X.env)).any (·.1) = false := by rfl) : AE X (.Call (.Name x p) (e :: es) [] pos) (aCall ρ t) :=
  let ⟨_, pa, s⟩ := h.ex
  ⟨_, pe_callTy hc hg hm hv pa hn hdb he hpl, fun B δ m Q σ H W E h Q' k => s B δ m _ σ H W E h _ fun ds m1 vs H1 s1 W1 r q => ⟨B, m1, ds, Q, W1, r, q, k.step s1⟩⟩
end
/-! ### in -/
theorem flat_vOf {d : D} (f : d.flat = true) : flatV (vOf d) = true := by
  cases d <;> first | (cases f; done) | rfl
theorem eq_vOf {d e : D} (f : d.flat = true) (g : e.flat = true) : eqV (vOf d) (vOf e) = PyData.eqv d.pd e.pd := by
  cases d <;> first | (cases f; done) | (cases e <;> first | (cases g; done) | (simp only [vOf, D.pd, PyData.eqv, eqV]) | rfl)
theorem reps_flat {K : PySem.W.Frag} {H : Hp} {N : Addr → Prop} : ∀ {ds : List D} {vs : List V}, ds.all D.flat = true → Reps K H N ds vs → vs = ds.map vOf
  | [], _, _, r => reps_nil.mp r
  | d :: ds, _, f, r => by
    obtain ⟨v, ws, rfl, r1, r2⟩ := reps_cons.mp r
    rw [List.all_cons, Bool.and_eq_true] at f
    rw [List.map_cons, rep_flat f.1 r1, reps_flat f.2 r2]
theorem flats_vOf : ∀ {ds : List D}, ds.all D.flat = true → (ds.map vOf).all flatV = true
  | [], _ => rfl
  | d :: ds, f => by
    rw [List.all_cons, Bool.and_eq_true] at f
    rw [List.map_cons, List.all_cons, flat_vOf f.1, flats_vOf f.2]; rfl
def inD (x : D) (ds : List D) : Bool := ds.any fun y => PyData.eqv y.pd x.pd
theorem inV_of {x : D} (f : x.flat = true) : ∀ {ds : List D}, ds.all D.flat = true → inV (vOf x) (ds.map vOf) = inD x ds
  | [], _ => rfl
  | d :: ds, g => by
    rw [List.all_cons, Bool.and_eq_true] at g
    have ih := inV_of f g.2
    unfold inV inD at ih ⊢
    rw [List.map_cons, List.any_cons, List.any_cons, ih, eq_vOf g.1 f]
def getK (kvs : List (Key × D)) (k : Key) : Option D := (kvs.find? fun p => decide (p.1 = k)).map (·.2)
def keyD : D → Option Key
  | .int i => some (.inl i)
  | .str x => some (.inr x)
  | _ => none
theorem keyD_v {K : PySem.W.Frag} {H : Hp} {N : Addr → Prop} {d : D} {v : V} {k : Key} (h : keyD d = some k) (r : Rep K H N d v) : v = kV k := by
  cases d <;> first | (cases h; done) | (cases h; simp only [Rep] at r; exact r)
/-- a dict, also one in the store -/
def dctOf (m : Mu) : D → Option (List (Key × D))
  | .dct ds => some ds
  | .ref p => match m p with
    | some (.dct ds) => some ds
    | some (.dfz _ _ ds) => some ds
    | _ => none
  | _ => none
theorem dct_at {K : PySem.W.Frag} {H : Hp} {B : Addr → Prop} {m : Mu} {d : D} {ds : List (Key × D)} {v : V} (W : Wd K H B m) (r : Rep K H (Ban B m) d v) (h : dctOf m d = some ds) : ∃ a vs, v = .ref a ∧ Rd H a (.dK vs) ∧ Repk K H (Ban B m) ds vs := by
  unfold dctOf at h
  split at h
  · cases h
    obtain ⟨a, vs, e, t, q⟩ := rep_dct.mp r
    exact ⟨a, vs, e, .inl t.1, q⟩
  · rename_i p
    split at h
    · rename_i e
      cases h
      obtain ⟨vs, hp, q⟩ := W.cell p _ e
      exact ⟨p, vs, rep_ref.mp r, .inl hp, q⟩
    · rename_i e
      cases h
      obtain ⟨hp, q⟩ := W.cell p _ e
      exact ⟨p, _, rep_ref.mp r, .inr ⟨_, hp⟩, q⟩
    · cases h
  · cases h
theorem dget_rd {H : Hp} {a : Addr} {kvs : List (Key × V)} {k : Key} (e : Rd H a (.dK kvs)) : DGet H a (kV k) (valV kvs k) := .inl ⟨kvs, k, e, rfl, rfl⟩
theorem getK_val {K : PySem.W.Frag} {H : Hp} {N : Addr → Prop} {ds : List (Key × D)} {vs : List (Key × V)} (r : Repk K H N ds vs) (k : Key) : (valV vs k = none ∧ getK ds k = none) ∨ ∃ d v, getK ds k = some d ∧ valV vs k = some v ∧ Rep K H N d v := by
  rcases r.val k with ⟨h1, h2⟩ | ⟨d, v, h1, h2, h3⟩
  · exact .inl ⟨h1, by unfold getK; rw [h2]; rfl⟩
  · exact .inr ⟨d, v, by unfold getK; rw [h1]; rfl, h2, h3⟩
/-- x in y: a sign in a text; flat things in a list or tuple; a key in a dict -/
def rhoIn (neg : Bool) : Rho2 := fun x y m Q => match y with
  | .str z => ∃ c, x = .str ⟨#[c]⟩ ∧ Q (.bl (neg ^^ decide (c ∈ z.cps.toList))) m
  | .tup ds => x.flat = true ∧ ds.all D.flat = true ∧ Q (.bl (neg ^^ inD x ds)) m
  | y => (∃ ds, lstOf m y = some ds ∧ ((x.flat = true ∧ ds.all D.flat = true) ∨ (eqOk x = true ∧ eqOk (.lst ds) = true)) ∧ Q (.bl (neg ^^ inD x ds)) m) ∨ ∃ ds k, dctOf m y = some ds ∧ keyD x = some k ∧ Q (.bl (neg ^^ (getK ds k).isSome)) m
theorem any_pd (x : D) : ∀ ds : List D, ((pds ds).any fun z => PyData.eqv z x.pd) = inD x ds
  | [] => rfl
  | d :: ds => by
    have ih := any_pd x ds
    unfold inD at ih ⊢
    rw [pds, List.any_cons, List.any_cons, ih]
theorem d_inR {neg : Bool} (hu : X.A.units + 1 < cLine) {pins : List (Addr × Obj)} {σ : L2.St} {H : Hp} {s : Shared} {a : Addr} {y : V} {u : Value} {o : Option V} {Q : VK} (I : Inv X pins σ H s) (g : DGet H a y o) (ry : RelV y u) (q : Q (.bl (neg ^^ o.isSome)) H) :
    wpAny (model X.prog X.w) X.A (compareOp (if neg then .NotIn else .In) u (.ref a)) (EP X pins σ Q) X.xe s := by
  cases neg with
  | true => exact d_notIn hu I g ry fun s3 I3 => ⟨.bl (!o.isSome), H, I3, rfl, by simpa using q⟩
  | false => exact d_in hu I g ry fun s3 I3 => ⟨.bl o.isSome, H, I3, rfl, by simpa using q⟩
theorem or_in (hu : X.A.units + 65 < cLine) (neg : Bool) : OpR X (compareOp (if neg then .NotIn else .In)) (rOf X.K (rhoIn neg)) := by
  intro pins s σ H x y v u Q' I rx ry h
  obtain ⟨B, m, dx, dy, Q, W, r1, r2, h, k⟩ := h
  unfold rhoIn at h
  split at h
  · rename_i z
    obtain ⟨c, rfl, h⟩ := h
    cases rep_str.mp r1; cases rep_str.mp r2
    cases neg with
    | true => exact op_notIn_sign pins s σ H _ _ v u Q' I rx ry ⟨c, z, rfl, rfl, by have := k.now W (rep_bl.mpr rfl) h; simpa using this⟩
    | false => exact op_in_sign pins s σ H _ _ v u Q' I rx ry ⟨c, z, rfl, rfl, by have := k.now W (rep_bl.mpr rfl) h; simpa using this⟩
  · rename_i ds
    obtain ⟨f, g, h⟩ := h
    obtain ⟨p, vs, rfl, t, q⟩ := rep_tup.mp r2
    obtain rfl := reps_flat g q
    obtain rfl := rep_flat f r1
    have hq := k.now W (rep_bl.mpr rfl) h
    rw [← inV_of f g] at hq
    cases neg with
    | true => exact op_notIn_seq pins s σ H _ _ v u Q' I rx ry ⟨p, _, rfl, .inr t.sq, flat_vOf f, flats_vOf g, by simpa using hq⟩
    | false => exact op_in_seq pins s σ H _ _ v u Q' I rx ry ⟨p, _, rfl, .inr t.sq, flat_vOf f, flats_vOf g, by simpa using hq⟩
  · rcases h with ⟨ds, hl, c, h⟩ | ⟨ds, key, hd, hk, h⟩
    · obtain ⟨p, vs, rfl, hp, q⟩ := lst_at W r2 hl
      have hq := k.now W (rep_bl.mpr rfl) h
      rcases c with ⟨f, g⟩ | ⟨f, g⟩
      · obtain rfl := reps_flat g q
        obtain rfl := rep_flat f r1
        rw [← inV_of f g] at hq
        cases neg with
        | true => exact op_notIn_seq pins s σ H _ _ v u Q' I rx ry ⟨p, _, rfl, .inl (SqL.of hp), flat_vOf f, flats_vOf g, by simpa using hq⟩
        | false => exact op_in_seq pins s σ H _ _ v u Q' I rx ry ⟨p, _, rfl, .inl (SqL.of hp), flat_vOf f, flats_vOf g, by simpa using hq⟩
      · obtain ⟨f1, f2⟩ := Bool.and_eq_true_iff.mp f
        obtain ⟨g1, g2⟩ := Bool.and_eq_true_iff.mp g
        have dl : Dp X.K H (.ref p) (.list (pds ds)) := .lst (SqL.of hp) (dps_of ds vs (by simpa only [D.plain] using g1) q)
        have g2' : SeqAt.shaped (.list (pds ds)) = true := by simpa only [D.pd] using g2
        rw [← any_pd] at hq
        cases neg with
        | true => exact op_notInD hu pins s σ H _ _ v u Q' I rx ry ⟨_, _, dp_of _ _ f1 r1, dl, f2, g2', by simpa using hq⟩
        | false => exact op_inD hu pins s σ H _ _ v u Q' I rx ry ⟨_, _, dp_of _ _ f1 r1, dl, f2, g2', by simpa using hq⟩
    · obtain ⟨p, vs, rfl, hp, q⟩ := dct_at W r2 hd
      obtain rfl := keyD_v hk r1
      cases ry
      have hq := k.now W (rep_bl.mpr rfl) h
      refine d_inR (neg := neg) (by omega) I (dget_rd (k := key) hp) rx ?_
      rcases getK_val q key with ⟨e1, e2⟩ | ⟨d, v, e1, e2, _⟩
      · rw [e1]; rw [e2] at hq; exact hq
      · rw [e2]; rw [e1] at hq; exact hq
end
end L3
namespace L3
open PySem PySem.Spec PyProof.Rows L2
section
variable {X : Cx} {pos : Pos}
/-! ### a[b] -/
def rhoIx : Rho2 := fun x y m Q => match x with
  | .tup ds => ∃ i d, y = .int i ∧ atI ds i = some d ∧ Q d m
  | .str z => ∃ i c, y = .int i ∧ z.length ≤ sizeLine ∧ atI z.cps.toList i = some c ∧ Q (.str ⟨#[c]⟩) m
  | x => (∃ ds i d, lstOf m x = some ds ∧ y = .int i ∧ atI ds i = some d ∧ Q d m) ∨ ∃ ds k d, dctOf m x = some ds ∧ keyD y = some k ∧ getK ds k = some d ∧ Q d m
theorem reps_atI {K : PySem.W.Frag} {H : Hp} {N : Addr → Prop} {ds : List D} {vs : List V} (r : Reps K H N ds vs) {i : Int} {d : D} (h : atI ds i = some d) : ∃ v, atI vs i = some v ∧ Rep K H N d v := by
  unfold atI at h ⊢
  rw [r.len]
  cases e : ixN ds.length i with
  | none => rw [e] at h; cases h
  | some j =>
    rw [e] at h
    exact r.get j d h
theorem ix_D (hu : X.A.units + 1 < cLine) : IxR X (rOf X.K rhoIx) := by
  intro value slice pins s σ H x y v u Q' I rx ry h hs
  obtain ⟨B, m, dx, dy, Q, W, r1, r2, h, k⟩ := h
  unfold rhoIx at h
  split at h
  · obtain ⟨i, d, rfl, ha, q⟩ := h
    obtain ⟨p, vs, rfl, t, rs⟩ := rep_tup.mp r1
    obtain ⟨w, hw, rw⟩ := reps_atI rs ha
    cases rep_int.mp r2
    exact ix_tup value slice pins s σ H _ _ v u Q' I rx ry ⟨p, vs, i, w, rfl, rfl, t.sq, hw, k.now W rw q⟩ hs
  · obtain ⟨i, c, rfl, hl, ha, q⟩ := h
    cases rep_str.mp r1; cases rep_int.mp r2
    exact ix_str value slice pins s σ H _ _ v u Q' I rx ry ⟨_, i, c, rfl, rfl, hl, ha, k.now W (rep_str.mpr rfl) q⟩ hs
  · rcases h with ⟨ds, i, d, hl, rfl, ha, q⟩ | ⟨ds, key, d, hd, hk, hg, q⟩
    · obtain ⟨p, vs, rfl, hp, rs⟩ := lst_at W r1 hl
      obtain ⟨w, hw, rw⟩ := reps_atI rs ha
      cases rep_int.mp r2
      exact ix_list value slice pins s σ H _ _ v u Q' I rx ry ⟨p, vs, i, w, rfl, rfl, SqL.of hp, hw, k.now W rw q⟩ hs
    · obtain ⟨p, vs, rfl, hp, rs⟩ := dct_at W r1 hd
      obtain rfl := keyD_v hk r2
      cases rx
      rcases getK_val rs key with ⟨e1, e2⟩ | ⟨d', w, e1, e2, rw⟩
      · rw [hg] at e2; cases e2
      · rw [hg] at e1; cases e1
        have g : DGet H p (kV key) (some w) := by rw [← e2]; exact dget_rd hp
        exact tail_any (dict_typeIs I g) PySem.F.slot_dict_getitem.lookup (d_getItem hu I g ry fun w' s' I' rw' => ⟨w, H, I', rw', k.now W rw q⟩) hs
section
variable {a b : Expr} {ta tb : AEt}
theorem ae_ix (hu : X.A.units + 1 < cLine) (ha : AE X a ta) (hb : AE X b tb) (hs : PlainIx b := by exact fun _ _ => rfl) : AE X (.Subscript a b pos) (aOp rhoIx ta tb) :=
  let ⟨_, pa, sa⟩ := ha.ex
  let ⟨_, pb, sb⟩ := hb.ex
  ⟨_, pe_ix (ix_D hu) pa pb hs, sa.bin sb⟩
end
/-- a dict of the module with text keys: KTab K w x kvs -/
structure KTab (K : PySem.W.Frag) (w : World) (mg : Str → Option Value) (x : Str) (kvs : List (Str × D)) : Prop where
  ex : ∃ d es n, mg x = some (.ref d) ∧ KDict K w d es n ∧
    ∀ z, match (kvs.find? fun p => decide (p.1 = z)).map (·.2) with
      | some e => ∃ u v, PySem.W.nsIn K d z = some (some u) ∧ RelV v u ∧ ∀ H N, Rep K H N e v
      | none => PySem.W.nsIn K d z = some none
def getS (kvs : List (Str × D)) (z : Str) : Option D := (kvs.find? fun p => decide (p.1 = z)).map (·.2)
def aKix (kvs : List (Str × D)) (tb : AEt) : AEt := fun δ m Q => tb δ m fun y m1 => ∃ z d, y = .str z ∧ getS kvs z = some d ∧ Q d m1
theorem ix_kd {d : Addr} {es : Array DictEntry} {n : Nat} (D : KDict X.K X.w d es n) : IxR X (fun x y H Q => ∃ (z : Str) (u0 : Value) (v0 : V), x = .ref d ∧ y = .str z ∧ PySem.W.nsIn X.K d z = some (some u0) ∧ RelV v0 u0 ∧ Q v0 H) := by
  intro value slice pins s σ H x y v u Q I rx ry h hs
  have h' := h
  obtain ⟨z, u0, v0, rfl, rfl, _⟩ := h'
  have hg := op_item_kd D pins s σ H _ _ v u Q I rx ry h
  cases rx
  exact tail_any (kd_type D I) PySem.F.slot_dict_getitem.lookup hg hs
theorem ae_kix {x : Str} {kvs : List (Str × D)} {b : Expr} {tb : AEt} {p : Pos} (T : KTab X.K X.w X.mg x kvs) (hb : AE X b tb) (hg : Gl X x := by rfl) (hd : (x == ("__debug__" : Str)) = false := by decide) (hs : PlainIx b := by exact fun _ _ => rfl) : AE X (.Subscript (.Name x p) b pos) (aKix kvs tb) :=
  let ⟨d, es, n, hm, D, val⟩ := T.ex
  let ⟨_, pb, sb⟩ := hb.ex
  ⟨_, pe_ix (ix_kd D) (pe_glob (v := .ref d) hg hm rfl hd) pb hs, fun B δ m Q σ H W E h Q' k => sb B δ m _ σ H W E h _ fun y m1 v H1 s1 W1 r ⟨z, e, ey, hz, q⟩ => by
    subst ey
    cases rep_str.mp r
    have hv := val z
    unfold getS at hz
    rw [hz] at hv
    obtain ⟨u, w, h1, h2, h3⟩ := hv
    exact ⟨z, u, w, rfl, rfl, h1, h2, k e m1 w H1 s1 W1 (h3 _ _) q⟩⟩
/-! ### slices -/
abbrev AOt := Dt → Mu → (Option Int → Mu → Prop) → Prop
def SO (K : PySem.W.Frag) (te : TO) (t : AOt) : Prop := ∀ (B : Addr → Prop) (δ : Dt) (m : Mu) (Q : Option Int → Mu → Prop) (σ : L2.St) (H : Hp), Wd K H B m → EnvD K H (Ban B m) σ δ → t δ m Q → ∀ Q' : Option Int → Hp → Prop, (∀ o m' H', Step H m H' m' → Wd K H' B m' → Q o m' → Q' o H') → te σ H Q'
structure AO (X : Cx) (e : Option Expr) (t : AOt) : Prop where
  ex : ∃ te, PO X e te ∧ SO X.K te t
def aNoPart : AOt := fun _ m Q => Q none m
def aPart (t : AEt) : AOt := fun δ m Q => t δ m fun x m1 => ∃ i, x = .int i ∧ Q (some i) m1
theorem ao_none : AO X none aNoPart := ⟨_, po_none, fun B δ m Q σ H W E h Q' k => k none m H (Step.refl H m) W h⟩
theorem ao_some {e : Expr} {t : AEt} (h : AE X e t) : AO X (some e) (aPart t) :=
  let ⟨_, p, s⟩ := h.ex
  ⟨_, po_some p, fun B δ m Q σ H W E h Q' k => s B δ m _ σ H W E h _ fun x m1 v H1 s1 W1 r ⟨i, e, q⟩ => by
    subst e
    exact ⟨i, rep_int.mp r, k (some i) m1 H1 s1 W1 q⟩⟩
def cutD (xs : List D) (lo hi : Option Int) : List D := (xs.drop (HT.sIx xs.length 0 lo)).take (HT.sIx xs.length xs.length hi - HT.sIx xs.length 0 lo)
def rhoSl : D → Option Int → Option Int → Mu → EK → Prop := fun x lo hi m Q => match x with
  | .tup ds => Q (.tup (cutD ds lo hi)) m
  | .str z => z.length ≤ sizeLine ∧ Q (.str (cutS z lo hi)) m
  | x => ∃ ds, lstOf m x = some ds ∧ Q (.lst (cutD ds lo hi)) m
def rsOf (K : PySem.W.Frag) : V → Option Int → Option Int → Hp → VK → Prop := fun x lo hi H Q' => ∃ B m dx Q, Wd K H B m ∧ Rep K H (Ban B m) dx x ∧ rhoSl dx lo hi m Q ∧ PostE K B H m Q Q'
theorem cut_reps {K : PySem.W.Frag} {H : Hp} {N : Addr → Prop} {ds : List D} {vs : List V} (r : Reps K H N ds vs) (lo hi : Option Int) : Reps K H N (cutD ds lo hi) (cutV vs lo hi) := by
  unfold cutD cutV
  rw [r.len]
  exact (r.drop _).take _
theorem sl_D : SlR X (rsOf X.K) := by
  intro pins s σ H x v vl vu lo hi sl Q' I rx hs pl pu h
  obtain ⟨B, m, dx, Q, W, r1, h, k⟩ := h
  unfold rhoSl at h
  split at h
  · rename_i ds
    obtain ⟨p, vs, rfl, t, rs⟩ := rep_tup.mp r1
    refine sl_tupF pins s σ H _ v vl vu lo hi sl Q' I rx hs pl pu ⟨p, vs, rfl, t.sq, fun e => ?_, fun _ => k.tup W (cut_reps rs lo hi) h⟩
    have e' : cutD ds lo hi = ds := by
      unfold cutD
      rw [rs.len] at e
      rw [e.1, e.2]
      simp
    rw [e'] at h
    exact k.now W r1 h
  · obtain ⟨hl, q⟩ := h
    cases rep_str.mp r1
    exact sl_str pins s σ H _ v vl vu lo hi sl Q' I rx hs pl pu ⟨_, rfl, hl, k.now W (rep_str.mpr rfl) q⟩
  · obtain ⟨ds, hl, q⟩ := h
    obtain ⟨p, vs, rfl, hp, rs⟩ := lst_at W r1 hl
    exact sl_list pins s σ H _ v vl vu lo hi sl Q' I rx hs pl pu ⟨p, vs, rfl, SqL.of hp, fun l hl => k.lst W (cut_reps rs lo hi) q hl⟩
def aSl (t : AEt) (tl th : AOt) : AEt := fun δ m Q => t δ m fun x m1 => tl δ m1 fun lo m2 => th δ m2 fun hi m3 => rhoSl x lo hi m3 Q
theorem ae_sl {e : Expr} {lo hi : Option Expr} {p2 : Pos} {t : AEt} {tl th : AOt} (h : AE X e t) (hl : AO X lo tl) (hh : AO X hi th) : AE X (.Subscript e (.Slice lo hi none p2) pos) (aSl t tl th) :=
  let ⟨_, p, s⟩ := h.ex
  let ⟨_, pl, s1⟩ := hl.ex
  let ⟨_, ph, s2⟩ := hh.ex
  ⟨_, pe_slice sl_D p pl ph, fun B δ m Q σ H W E h Q' k => s B δ m _ σ H W E h _ fun x m1 v H1 st1 W1 r q =>
    s1 B δ m1 _ σ H1 W1 (E.carry st1.carry) q _ fun lo m2 H2 st2 W2 q => s2 B δ m2 _ σ H2 W2 (E.carry (st1.trans st2).carry) q _ fun hi m3 H3 st3 W3 q =>
      ⟨B, m3, x, Q, W3, Rep.carry (st2.trans st3).carry _ _ r, q, k.step ((st1.trans st2).trans st3)⟩⟩
/-! ### built-ins by values -/
def rcLen : SpD := fun ds m Q => ∃ x, ds = [x] ∧ match x with
  | .str z => z.length ≤ sizeLine ∧ Q (.int (z.length : Int)) m
  | .tup es => Q (.int (es.length : Int)) m
  | x => ∃ es, lstOf m x = some es ∧ Q (.int (es.length : Int)) m
theorem reps1 {K : PySem.W.Frag} {H : Hp} {N : Addr → Prop} {d : D} {vs : List V} (r : Reps K H N [d] vs) : ∃ v, vs = [v] ∧ Rep K H N d v := by
  obtain ⟨v, ws, rfl, r1, r2⟩ := reps_cons.mp r
  rw [reps_nil.mp r2]
  exact ⟨v, rfl, r1⟩
theorem reps2 {K : PySem.W.Frag} {H : Hp} {N : Addr → Prop} {d e : D} {vs : List V} (r : Reps K H N [d, e] vs) : ∃ v w, vs = [v, w] ∧ Rep K H N d v ∧ Rep K H N e w := by
  obtain ⟨v, ws, rfl, r1, r2⟩ := reps_cons.mp r
  obtain ⟨w, rfl, r3⟩ := reps1 r2
  exact ⟨v, w, rfl, r1, r3⟩
theorem cr_len : CallR X (.builtin "len") (rcOf X.K rcLen) := by
  intro pins s σ H xs us Q' I r h
  obtain ⟨B, m, ds, Q, W, rs, ⟨x, rfl, h⟩, k⟩ := h
  obtain ⟨v, rfl, r1⟩ := reps1 rs
  split at h
  · cases rep_str.mp r1
    exact call_len pins s σ H _ us Q' I r ⟨_, _, rfl, ⟨h.1, rfl⟩, k.now W (rep_int.mpr rfl) h.2⟩
  · obtain ⟨p, vs, rfl, t, q⟩ := rep_tup.mp r1
    exact call_len pins s σ H _ us Q' I r ⟨_, _, rfl, .inr ⟨vs, t.sq, rfl⟩, k.now W (rep_int.mpr (by rw [q.len])) h⟩
  · obtain ⟨es, hl, h⟩ := h
    obtain ⟨p, vs, rfl, hp, q⟩ := lst_at W r1 hl
    exact call_len pins s σ H _ us Q' I r ⟨_, _, rfl, .inl ⟨vs, SqL.of hp, rfl⟩, k.now W (rep_int.mpr (by rw [q.len])) h⟩
/-- isinstance -/
def tyD (m : Mu) : D → Option String
  | .non => some "NoneType"
  | .bl _ => some "bool"
  | .int _ => some "int"
  | .str _ => some "str"
  | .tup _ => some "tuple"
  | .lst _ => some "list"
  | .dct _ => some "dict"
  | .ref p => match m p with
    | some (.lst _) => some "list"
    | some (.dct _) => some "dict"
    | _ => none
  | .ty _ => none
  | .fl _ => none
theorem tyX_of {K : PySem.W.Frag} {H : Hp} {B : Addr → Prop} {m : Mu} {d : D} {v : V} {t : String} (W : Wd K H B m) (r : Rep K H (Ban B m) d v) (h : tyD m d = some t) : TyX K H v (.type t) := by
  cases d with
  | non => cases h; cases rep_non.mp r; exact .base .non
  | bl b => cases h; cases rep_bl.mp r; exact .base (.bl _)
  | int b => cases h; cases rep_int.mp r; exact .base (.int _)
  | str b => cases h; cases rep_str.mp r; exact .base (.str _)
  | tup ds =>
    cases h
    obtain ⟨p, vs, rfl, tt, q⟩ := rep_tup.mp r
    rcases tt with ⟨o, tt, _⟩ | ⟨o, its, n, h1, h2, _⟩
    · exact .fTuple tt
    · exact .kTuple h1 h2
  | lst ds => cases h; obtain ⟨p, vs, rfl, tt, q⟩ := rep_lst.mp r; exact .base (.lst tt.1)
  | dct ds => cases h; obtain ⟨p, vs, rfl, tt, q⟩ := rep_dct.mp r; exact .base (.dK tt.1)
  | ref p =>
    cases rep_ref.mp r
    have h' : (match m p with | some (.lst _) => some "list" | some (.dct _) => some "dict" | _ => none) = some t := h
    cases e : m p with
    | none => rw [e] at h'; cases h'
    | some c =>
      rw [e] at h'
      cases c with
      | lst ds => cases h'; obtain ⟨vs, hp, _⟩ := W.cell p _ e; exact .base (.lst hp)
      | dct ds => cases h'; obtain ⟨vs, hp, _⟩ := W.cell p _ e; exact .base (.dK hp)
      | ins C dx fs => cases h'
      | dfz od vs ds => cases h'
      | tab q => cases h'
      | xd vs fs => cases h'
      | dT P w rows => cases h'
      | fnc o c q t => cases h'
      | cel o v d => cases h'
  | ty n => cases h
  | fl n => cases h
def isB (t n : String) : Bool := decide (t = n) || (decide (t = "bool") && decide (n = "int"))
theorem isB_tab : ∀ t ∈ ["NoneType", "bool", "int", "str", "tuple", "list", "dict"], ∀ n ∈ ["str", "int", "bool", "tuple", "list"], kitB t n = some (isB t n) := by decide +kernel
theorem tyD_mem {m : Mu} {d : D} {t : String} (h : tyD m d = some t) : t ∈ ["NoneType", "bool", "int", "str", "tuple", "list", "dict"] := by
  unfold tyD at h
  split at h <;> first | (cases h; done) | (cases h; simp; done) | (split at h <;> cases h <;> simp)
def rcIsi : SpD := fun ds m Q => ∃ x n t, ds = [x, .ty n] ∧ n ∈ ["str", "int", "bool", "tuple", "list"] ∧ tyD m x = some t ∧ Q (.bl (isB t n)) m
theorem cr_isi : CallR X (.builtin "isinstance") (rcOf X.K rcIsi) := by
  intro pins s σ H xs us Q' I r h
  obtain ⟨B, m, ds, Q, W, rs, ⟨x, n, t, rfl, hn, ht, h⟩, k⟩ := h
  obtain ⟨v, w, rfl, r1, r2⟩ := reps2 rs
  cases rep_ty.mp r2
  exact call_isi pins s σ H _ us Q' I r ⟨v, .ty n, .type t, .type n, _, rfl, ClsV.ty n, tyX_of W r1 ht, kit_ty (isB_tab t (tyD_mem ht) n hn), k.now W (rep_bl.mpr rfl) h⟩
/-- str of an int, a bool, a text: see what is asked -/
def rcTuple : SpD := fun ds m Q => ∃ x, ds = [x] ∧ match x with
  | .tup es => Q (.tup es) m
  | x => ∃ es, lstOf m x = some es ∧ Q (.tup es) m
theorem cr_tuple : CallR X (.type "tuple") (rcOf X.K rcTuple) := by
  intro pins s σ H xs us Q' I r h
  obtain ⟨B, m, ds, Q, W, rs, ⟨x, rfl, h⟩, k⟩ := h
  obtain ⟨v, rfl, r1⟩ := reps1 rs
  split at h
  · obtain ⟨p, vs, rfl, t, q⟩ := rep_tup.mp r1
    exact call_tupleF pins s σ H _ us Q' I r ⟨p, vs, rfl, .inr ⟨t.sq, k.now W r1 h⟩⟩
  · obtain ⟨es, hl, h⟩ := h
    obtain ⟨p, vs, rfl, hp, q⟩ := lst_at W r1 hl
    exact call_tupleF pins s σ H _ us Q' I r ⟨p, vs, rfl, .inl ⟨SqL.of hp, k.tup W q h⟩⟩
def rcMax2 : SpD := fun ds m Q => ∃ i j, ds = [.int i, .int j] ∧ Q (.int (if j > i then j else i)) m
theorem cr_max2 (hc : X.calm = true := by rfl) : CallR X (.builtin "max") (rcOf X.K rcMax2) := by
  intro pins s σ H xs us Q' I r h
  obtain ⟨B, m, ds, Q, W, rs, ⟨i, j, rfl, h⟩, k⟩ := h
  obtain ⟨v, w, rfl, r1, r2⟩ := reps2 rs
  cases rep_int.mp r1; cases rep_int.mp r2
  exact call_max2 hc pins s σ H _ us Q' I r ⟨i, j, rfl, k.now W (rep_int.mpr rfl) h⟩
/-! ### methods of lists that stand in the store -/
abbrev Rho3 := D → List D → Mu → EK → Prop
def rmOf (K : PySem.W.Frag) (ρ : Rho3) : V → List V → Hp → VK → Prop := fun x vs H Q' => ∃ B m dx ds Q, Wd K H B m ∧ Rep K H (Ban B m) dx x ∧ Reps K H (Ban B m) ds vs ∧ ρ dx ds m Q ∧ PostE K B H m Q Q'
/-- the receiver is a list, ahead of the arguments and behind -/
def aLM (ρ : Rho3) (to : AEt) (t : AAt) : AEt := fun δ m Q => to δ m fun x m1 => (∃ es, lstOf m1 x = some es) ∧ t δ m1 fun ds m2 => ρ x ds m2 Q
def rhoAppend : Rho3 := fun x ds m Q => ∃ p es d, x = .ref p ∧ m p = some (.lst es) ∧ ds = [d] ∧ es.length < sizeLine ∧ Q .non (m.put p (.lst (es ++ [d])))
theorem wd_lst {K : PySem.W.Frag} {H : Hp} {B : Addr → Prop} {m : Mu} {p : Addr} {es es' : List D} {vs' : List V} (W : Wd K H B m) (h : m p = some (.lst es)) (r : Reps K H (Ban B m) es' vs') : Step H m (upd H p (.lst vs')) (m.put p (.lst es')) ∧ Wd K (upd H p (.lst vs')) B (m.put p (.lst es')) := by
  obtain ⟨vs, hp, q⟩ := W.cell p _ h
  refine W.write h (fun C dx fs e => nomatch e) (fun x e => by rw [hp] at e; cases e) ⟨vs', upd_same, Reps.carry (fun x u e n => ?_) _ _ r⟩
  have ne : x ≠ p := fun z => n (.inr (by rw [z, h]; exact fun z => nomatch z))
  exact ⟨by rw [upd_ne ne]; exact e, fun z => z.elim (fun b => n (.inl b)) fun z => n (.inr (by rw [Mu.put_ne ne] at z; exact z))⟩
theorem mt_appendD : MtM X "list.append" (rmOf X.K rhoAppend) := by
  intro pins s σ H x vs v us Q' I rx rv h
  obtain ⟨B, m, dx, ds, Q, W, r1, r2, ⟨p, es, d, rfl, hm, rfl, hl, q⟩, k⟩ := h
  cases rep_ref.mp r1
  obtain ⟨w, rfl, rw⟩ := reps1 r2
  obtain ⟨vs, hp, rs⟩ := W.cell p _ hm
  obtain ⟨st, W2⟩ := wd_lst W hm (rs.app (Reps.one rw))
  exact mt_append pins s σ H _ _ v us Q' I rx rv ⟨p, vs, w, rfl, rfl, hp, by rw [rs.len]; exact hl, k _ _ _ _ st W2 (rep_non.mpr rfl) q⟩
def rhoExtend : Rho3 := fun x ds m Q => ∃ p es d zs, x = .ref p ∧ m p = some (.lst es) ∧ ds = [d] ∧ lstOf m d = some zs ∧ es.length + zs.length ≤ sizeLine ∧ Q .non (m.put p (.lst (es ++ zs)))
theorem mt_extendD : MtM X "list.extend" (rmOf X.K rhoExtend) := by
  intro pins s σ H x vs v us Q' I rx rv h
  obtain ⟨B, m, dx, ds, Q, W, r1, r2, ⟨p, es, d, zs, rfl, hm, rfl, hz, hl, q⟩, k⟩ := h
  cases rep_ref.mp r1
  obtain ⟨w, rfl, rw⟩ := reps1 r2
  obtain ⟨vs, hp, rs⟩ := W.cell p _ hm
  obtain ⟨b, ws, rfl, hb, rz⟩ := lst_at W rw hz
  obtain ⟨st, W2⟩ := wd_lst W hm (rs.app rz)
  exact mt_extend pins s σ H _ _ v us Q' I rx rv ⟨p, b, vs, ws, rfl, rfl, hp, hb, by rw [rs.len, rz.len]; exact hl, k _ _ _ _ st W2 (rep_non.mpr rfl) q⟩
theorem tyV_lst {K : PySem.W.Frag} {H : Hp} {p : Addr} {vs : List V} (h : H p = some (.lst vs)) : tyV K "list" (.ref p) H := .inl ⟨rfl, vs, SqL.of h⟩
section
variable {o e : Expr} {es : List Expr} {to : AEt} {t : AAt} {apos : Pos}
theorem ae_lm {name : Str} {id : String} {ρ : Rho3} (slot : Slot "list" name id) (hty : typeOf (.builtin id) = pure (.type "method_descriptor")) (hm : MtR X id (rmOf X.K ρ)) (ho : AE X o to) (h : AA X (e :: es) t)
    (hbase : attributeBase o name X.env (eval o X.env) = eval o X.env := by rfl)
    (hfew : ((backTo pos (starEach (e :: es) X.env)).all (fun x => !x.1) && (backToKw pos (keywordEach [] X.env)).all (fun x => x.1.isSome)
      && decide ((e :: es).length + ([] : List Keyword).length + (if ([] : List Keyword).isEmpty then 0 else 1) < 30)) = true := by rfl)
    (hline : (apos.endLine == pos.line) = true := by rfl) (hs : starEach (e :: es) X.env = (false, eval e X.env) :: starEach es X.env := by rfl) (hplain : (backTo pos (starEach es X.env)).any (·.1) = false := by rfl) :
    AE X (.Call (.Attribute o name apos) (e :: es) [] pos) (aLM ρ to t) :=
  let ⟨_, po, so⟩ := ho.ex
  let ⟨_, pa, s⟩ := h.ex
  ⟨_, pe_bm PySem.F.plainAttrs_list slot hty hm po pa hbase hfew hline hs hplain, fun B δ m Q σ H W E h Q' k => so B δ m _ σ H W E h _ fun x m1 v H1 s1 W1 r ⟨⟨es, hl⟩, q⟩ => by
    obtain ⟨p, vs, rfl, hp, rs⟩ := lst_at W1 r hl
    exact ⟨tyV_lst hp, s B δ m1 _ σ H1 W1 (E.carry s1.carry) q _ fun ds m2 ws H2 s2 W2 r2 q2 => ⟨B, m2, x, ds, Q, W2, Rep.carry s2.carry _ _ r, r2, q2, k.step (s1.trans s2)⟩⟩⟩
end
end
end L3
namespace L3
open PySem PySem.Spec PyProof.Rows L2
section
variable {X : Cx} {pos : Pos}
/-! ### statements -/
def aNext : ASt := fun D δ m => D.nx δ m
def aSeq (t u : ASt) : ASt := fun D δ m => t { D with nx := u D } δ m
def aRet (t : AEt) : ASt := fun D δ m => t δ m D.rt
def aRetN : ASt := fun D _ m => D.rt .non m
def aDrop (t : AEt) : ASt := fun D δ m => t δ m fun _ m1 => D.nx δ m1
def aIfS (c : ATt) (t u : ASt) : ASt := fun D δ m => c δ m fun b m1 => if b = true then t D δ m1 else u D δ m1
def aNever : ASt := fun _ _ _ => False
def aBreak : ASt := fun D δ m => D.bk δ m
def aCont : ASt := fun D δ m => D.ct δ m
section
variable {st : Stmt} {rest : List Stmt} {t u : ASt} {e : Expr} {te : AEt}
theorem ass_nil : ASs X [] aNext := ⟨_, pss_nil, fun B D δ m σ H W E h De k => k.nx δ m σ H (Step.refl H m) W E h⟩
theorem ass_one (h : AS X st t) : ASs X [st] t := let ⟨_, p, s⟩ := h.ex; ⟨_, pss_one p, s⟩
theorem ass_cons (h : AS X st t) (g : ASs X rest u) : ASs X (st :: rest) (aSeq t u) :=
  let ⟨_, p, s⟩ := h.ex
  let ⟨_, p', s'⟩ := g.ex
  ⟨_, pss_cons p p', fun B D δ m σ H W E h De k => s B _ δ m σ H W E h _ ⟨fun δ' m' σ' H' st W' E' q => s' B D δ' m' σ' H' W' E' q De (k.step st), k.rt, k.bk, k.ct⟩⟩
theorem as_ret (h : AE X e te) : AS X (.Return (some e) pos) (aRet te) := let ⟨_, p, s⟩ := h.ex; ⟨_, ps_ret p, fun B D δ m σ H W E h De k => s B δ m _ σ H W E h _ k.rt⟩
theorem as_expr (h : AE X e te) (hs : swapsWith e none pos.line X.env = pure false := by rfl) : AS X (.Expr e pos) (aDrop te) :=
  let ⟨_, p, s⟩ := h.ex
  ⟨_, ps_expr p hs, fun B D δ m σ H W E h De k => s B δ m _ σ H W E h _ fun d m1 v H1 s1 W1 r q => k.nx δ m1 σ H1 s1 W1 (E.carry s1.carry) q⟩
theorem as_if {c : Expr} {a b : List Stmt} {tc : ATt} (hc : AT X c tc) (ha : ASs X a t) (hb : ASs X b u) : AS X (.If c a b pos) (aIfS tc t u) :=
  let ⟨_, pc, sc⟩ := hc.ex
  let ⟨_, p, s⟩ := ha.ex
  let ⟨_, p', s'⟩ := hb.ex
  ⟨_, ps_if pc p p', fun B D δ m σ H W E h De k => sc B δ m _ σ H W E h _ fun c m1 H1 s1 W1 q => by
    cases c with
    | true => exact s B D δ m1 σ H1 W1 (E.carry s1.carry) q De (k.step s1)
    | false => exact s' B D δ m1 σ H1 W1 (E.carry s1.carry) q De (k.step s1)⟩
theorem ass_never {sts : List Stmt} : ASs X sts aNever := ⟨_, pss_never, fun B D δ m σ H W E h De k => h.elim⟩
end
/-! ### targets -/
abbrev AGt := D → Dt → Mu → (Dt → Mu → Prop) → Prop
def SG (K : PySem.W.Frag) (tg : TG) (g : AGt) : Prop := ∀ (B : Addr → Prop) (d : D) (v : V) (δ : Dt) (m : Mu) (Q : Dt → Mu → Prop) (σ : L2.St) (H : Hp), Wd K H B m → EnvD K H (Ban B m) σ δ → Rep K H (Ban B m) d v → g d δ m Q → ∀ Q', PostN K B H m Q Q' → tg v σ H Q'
structure AG (X : Cx) (e : Expr) (g : AGt) : Prop where
  ex : ∃ tg, PG X e tg ∧ SG X.K tg g
abbrev AGts := List D → Dt → Mu → (Dt → Mu → Prop) → Prop
def SGs (K : PySem.W.Frag) (tg : TGs) (g : AGts) : Prop := ∀ (B : Addr → Prop) (d : List D) (v : List V) (δ : Dt) (m : Mu) (Q : Dt → Mu → Prop) (σ : L2.St) (H : Hp), Wd K H B m → EnvD K H (Ban B m) σ δ → Reps K H (Ban B m) d v → g d δ m Q → ∀ Q', PostN K B H m Q Q' → tg v σ H Q'
structure AGs (X : Cx) (es : List Expr) (g : AGts) : Prop where
  ex : ∃ tg, PGs X es tg ∧ SGs X.K tg g
def gNm (i : Nat) : AGt := fun d δ m Q => Q (δ.set i (some d)) m
theorem ag_name (i : Nat) {x : Str} (hN : X.N.Nodup) (hi : X.N[i]? = some x := by rfl) (hx : Loc X.env.scope x := by first | exact Or.inl rfl | exact Or.inr rfl) (hf : X.fn x = true ∨ X.env.scope.names.lookup x = some .local := by first | exact .inl rfl | exact .inr rfl) : AG X (.Name x pos) (gNm i) :=
  ⟨_, pg_name hN hi hx hf, fun B d v δ m Q σ H W E r h Q' k => k _ m _ H (Step.refl H m) W (E.set r i) h⟩
def gNilD : AGts := fun ds δ m Q => ds = [] ∧ Q δ m
def gConsD (t : AGt) (u : AGts) : AGts := fun ds δ m Q => ∃ d r, ds = d :: r ∧ t d δ m fun δ' m' => u r δ' m' Q
theorem ags_nil : AGs X [] gNilD := ⟨_, pgs_nil, fun B ds vs δ m Q σ H W E r ⟨e, q⟩ Q' k => by
  subst e
  exact ⟨reps_nil.mp r, k δ m σ H (Step.refl H m) W E q⟩⟩
theorem ags_cons {e : Expr} {es : List Expr} {t : AGt} {u : AGts} (h : AG X e t) (g : AGs X es u) (hs : (assignEach (e :: es) X.env).map (·.2) = assign e X.env :: (assignEach es X.env).map (·.2) := by rfl) : AGs X (e :: es) (gConsD t u) :=
  let ⟨_, p, s⟩ := h.ex
  let ⟨_, p', s'⟩ := g.ex
  ⟨_, pgs_cons p p' hs, fun B ds vs δ m Q σ H W E r ⟨d, ds', e, q⟩ Q' k => by
    subst e
    obtain ⟨v, ws, rfl, r1, r2⟩ := reps_cons.mp r
    exact ⟨v, ws, rfl, s B d v δ m _ σ H W E r1 q _ fun δ' m' σ' H' st W' E' q' => s' B ds' ws δ' m' Q σ' H' W' E' (Reps.carry st.carry _ _ r2) q' Q' (k.step st)⟩⟩
def gTupD (n : Nat) (t : AGts) : AGt := fun d δ m Q => ∃ ds, d = .tup ds ∧ ds.length = n ∧ t ds δ m Q
theorem ag_tup {es : List Expr} {k : Nat} {t : AGts} {n : Nat} (hc : X.calm = true) (h : AGs X es t) (hn : (assignEach es X.env).length = n := by rfl) (hst : (assignEach es X.env).findIdx? (·.1) = none := by rfl) : AG X (.Tuple es k pos) (gTupD n t) :=
  let ⟨_, p, s⟩ := h.ex
  ⟨_, pg_tup (n := n) hc p hn hst, fun B d v δ m Q σ H W E r ⟨ds, e, hn', q⟩ Q' k => by
    subst e
    obtain ⟨a, vs, rfl, t, rs⟩ := rep_tup.mp r
    exact ⟨a, vs, rfl, t.sq, by rw [rs.len]; exact hn', s B ds vs δ m Q σ H W E rs q Q' k⟩⟩
/-! ### assignment -/
def aAsg (t : AEt) (g : AGt) : ASt := fun D δ m => t δ m fun d m1 => g d δ m1 D.nx
section
variable {e tg : Expr} {te : AEt} {g : AGt}
theorem as_asg (he : AE X e te) (hg : AG X tg g) (hs : swapsWithSole [tg] e pos.line X.env = pure false := by rfl) (hw : swappedStores [tg] e X.env = pure none := by rfl) (h1 : (assignEach [tg] X.env).map (·.2) = [assign tg X.env] := by rfl) : AS X (.Assign [tg] e pos) (aAsg te g) :=
  let ⟨_, p, s⟩ := he.ex
  let ⟨_, pg, sg⟩ := hg.ex
  ⟨_, ps_asg p pg hs hw h1, fun B D δ m σ H W E h De k => s B δ m _ σ H W E h _ fun d m1 v H1 s1 W1 r q => sg B d v δ m1 _ σ H1 W1 (E.carry s1.carry) r q _ (k.nx.step s1)⟩
end
/-! ### what is walked -/
/-- at turn i the i-th of ds comes -/
def Yields (K : PySem.W.Frag) (B : Addr → Prop) (H1 : Hp) (m1 : Mu) (J : It) (ds : List D) : Prop := ∀ (B' : Addr → Prop), (∀ a, B' a → B a ∨ H1 a = none) → ∀ (i : Nat) (H' : Hp) (m' : Mu), Step H1 m1 H' m' → Wd K H' B' m' →
  (∀ d, ds[i]? = some d → J.go i H' ∧ ∀ x H'', J.yld i H' x H'' → Step H' m' H'' m' ∧ Wd K H'' B' m' ∧ Rep K H'' (Ban B' m') d x) ∧ (i = ds.length → J.stop i H')
theorem Step.carry2 {H H' : Hp} {m m' : Mu} {B B' : Addr → Prop} (hB : ∀ a, B' a → B a ∨ H a = none) (s : Step H m H' m') : Carry H (Ban B m) H' (Ban B' m') := fun a o h n =>
  have ⟨p, q⟩ := (s.carry (B := B)) a o h n
  ⟨p, fun z => z.elim (fun b => (hB a b).elim (fun b => n (.inl b)) fun e => by rw [h] at e; cases e) fun z => q (.inr z)⟩
abbrev AIt := Dt → Mu → (List D → Mu → Prop) → Prop
def SI (K : PySem.W.Frag) (wi : TI) (t : AIt) : Prop := ∀ (B : Addr → Prop) (δ : Dt) (m : Mu) (Q : List D → Mu → Prop) (σ : L2.St) (H : Hp), Wd K H B m → EnvD K H (Ban B m) σ δ → t δ m Q → ∀ R : It → Hp → Prop,
  (∀ J ds m1 H1, Step H m H1 m1 → Wd K H1 B m1 → Yields K B H1 m1 J ds → Q ds m1 → R J H1) → wi σ H R
structure AI (X : Cx) (tg iter : Expr) (t : AIt) : Prop where
  ex : ∃ wi, PI X tg iter wi ∧ SI X.K wi t
/-- a tuple or a list by value -/
def aList (t : AEt) : AIt := fun δ m Q => t δ m fun d m1 => ∃ ds, d = .lst ds ∧ Q ds m1
def aTupI (t : AEt) : AIt := fun δ m Q => t δ m fun d m1 => ∃ ds, d = .tup ds ∧ Q ds m1
def aStrI (t : AEt) : AIt := fun δ m Q => t δ m fun d m1 => ∃ z : Str, d = .str z ∧ Q (z.cps.toList.map fun c => D.str ⟨#[c]⟩) m1
theorem yields_list {K : PySem.W.Frag} {B : Addr → Prop} {H : Hp} {m : Mu} {a : Addr} {vs : List V} {ds : List D} (t : LstAt H (Ban B m) a vs) (r : Reps K H (Ban B m) ds vs) : Yields K B H m (Itl K a) ds := fun B' hB i H' m' st W' => by
  have t' := t.carry (st.carry2 hB)
  have r' := Reps.carry (st.carry2 hB) _ _ r
  refine ⟨fun d hd => ?_, fun hi => ⟨vs, t'.sq, by rw [r'.len]; exact Nat.le_of_eq hi.symm⟩⟩
  obtain ⟨v, hv, rv⟩ := r'.get i d hd
  refine ⟨⟨vs, v, t'.sq, hv⟩, fun x H'' y => ?_⟩
  obtain ⟨rfl, y⟩ := y
  have := y vs t'.sq
  rw [hv] at this
  cases this
  exact ⟨Step.refl _ _, W', rv⟩
theorem yields_tup {K : PySem.W.Frag} {B : Addr → Prop} {H : Hp} {m : Mu} {a : Addr} {vs : List V} {ds : List D} (t : TupAt K H (Ban B m) a vs) (r : Reps K H (Ban B m) ds vs) : Yields K B H m (Itt K a) ds := fun B' hB i H' m' st W' => by
  have t' := t.carry (st.carry2 hB)
  have r' := Reps.carry (st.carry2 hB) _ _ r
  refine ⟨fun d hd => ?_, fun hi => ⟨vs, t'.sq, by rw [r'.len]; exact Nat.le_of_eq hi.symm⟩⟩
  obtain ⟨v, hv, rv⟩ := r'.get i d hd
  refine ⟨⟨vs, v, t'.sq, hv⟩, fun x H'' y => ?_⟩
  obtain ⟨rfl, y⟩ := y
  have := y vs t'.sq
  rw [hv] at this
  cases this
  exact ⟨Step.refl _ _, W', rv⟩
theorem ai_list {tg e : Expr} {t : AEt} (h : AE X e t) : AI X tg e (aList t) :=
  let ⟨_, p, s⟩ := h.ex
  ⟨_, pi_list p, fun B δ m Q σ H W E h R k => s B δ m _ σ H W E h _ fun d m1 v H1 s1 W1 r ⟨ds, e, q⟩ => by
    subst e
    obtain ⟨a, vs, rfl, t, rs⟩ := rep_lst.mp r
    exact ⟨a, rfl, ⟨vs, t.sq⟩, k _ ds m1 H1 s1 W1 (yields_list t rs) q⟩⟩
theorem ai_tup {tg e : Expr} {t : AEt} (h : AE X e t) : AI X tg e (aTupI t) :=
  let ⟨_, p, s⟩ := h.ex
  ⟨_, pi_tup p, fun B δ m Q σ H W E h R k => s B δ m _ σ H W E h _ fun d m1 v H1 s1 W1 r ⟨ds, e, q⟩ => by
    subst e
    obtain ⟨a, vs, rfl, t, rs⟩ := rep_tup.mp r
    exact ⟨a, rfl, ⟨vs, t.sq⟩, k _ ds m1 H1 s1 W1 (yields_tup t rs) q⟩⟩
theorem yields_str {K : PySem.W.Frag} {B : Addr → Prop} {H : Hp} {m : Mu} {z : Str} : Yields K B H m (Its z) (z.cps.toList.map fun c => D.str ⟨#[c]⟩) := fun B' hB i H' m' st W' => by
  refine ⟨fun d hd => ?_, fun hi => by simp [Its] at hi ⊢; omega⟩
  rw [List.getElem?_map] at hd
  cases e : z.cps.toList[i]? with
  | none => rw [e] at hd; cases hd
  | some c =>
    rw [e] at hd
    cases hd
    have e' : z.cps[i]? = some c := by simpa using e
    refine ⟨(Array.getElem?_eq_some_iff.mp e').1, fun x H'' ⟨q, c', hc, hx⟩ => ?_⟩
    subst q hx
    rw [e'] at hc
    cases hc
    exact ⟨Step.refl _ _, W', rep_str.mpr rfl⟩
theorem ai_str {tg e : Expr} {t : AEt} (h : AE X e t) : AI X tg e (aStrI t) :=
  let ⟨_, p, s⟩ := h.ex
  ⟨_, pi_str p, fun B δ m Q σ H W E h R k => s B δ m _ σ H W E h _ fun d m1 v H1 s1 W1 r ⟨z, e, q⟩ => by
    subst e
    exact ⟨z, rep_str.mp r, k _ _ m1 H1 s1 W1 yields_str q⟩⟩
/-- range(n), range(a, b) -/
def rngD (lo : Int) (n : Nat) : List D := (List.range n).map fun (i : Nat) => D.int (lo + i)
theorem yields_rng {K : PySem.W.Frag} {B : Addr → Prop} {H : Hp} {m : Mu} {lo : Int} {n : Nat} : Yields K B H m (Itr lo n) (rngD lo n) := fun B' hB i H' m' st W' => by
  refine ⟨fun d hd => ?_, fun hi => by simp [Itr, rngD] at hi ⊢; omega⟩
  unfold rngD at hd
  rw [List.getElem?_map] at hd
  have hi : i < n := by
    cases e : (List.range n)[i]? with
    | none => rw [e] at hd; cases hd
    | some j => simpa using (List.getElem?_eq_some_iff.mp e).1
  rw [List.getElem?_range hi] at hd
  cases hd
  refine ⟨hi, fun x H'' ⟨q, hx⟩ => ?_⟩
  subst q hx
  exact ⟨Step.refl _ _, W', rep_int.mpr rfl⟩
def aRng1 (t : AAt) : AIt := fun δ m Q => t δ m fun ds m1 => ∃ n, ds = [.int n] ∧ -(2 ^ 62) ≤ n ∧ n < 2 ^ 62 ∧ Q (rngD 0 n.toNat) m1
theorem ai_rng1 {tg a : Expr} {p : Pos} {t : AAt} (hm : X.mg "range" = none) (h : AA X [a] t) (hg : Gl X "range" := by rfl) (hs : starEach [a] X.env = [(false, eval a X.env)] := by rfl) : AI X tg (.Call (.Name "range" p) [a] [] pos) (aRng1 t) :=
  let ⟨_, pa, s⟩ := h.ex
  ⟨_, pi_range1 hg hm pa hs, fun B δ m Q σ H W E h R k => s B δ m _ σ H W E h _ fun ds m1 vs H1 s1 W1 r ⟨n, e, h1, h2, q⟩ => by
    subst e
    obtain ⟨v, rfl, rv⟩ := reps1 r
    exact ⟨n, by rw [rep_int.mp rv], h1, h2, k _ _ m1 H1 s1 W1 yields_rng q⟩⟩
end
end L3
namespace L3
open PySem PySem.Spec PyProof.Rows L2
section
variable {X : Cx} {pos : Pos}
/-! ### for -/
def forGo (g : AGt) (tb : ASt) (Z : AEnds) : List D → Dt → Mu → Prop
  | [], δ, m => Z.nx δ m
  | d :: ds, δ, m => g d δ m fun δ2 m2 => tb { Z with nx := forGo g tb Z ds, ct := forGo g tb Z ds, bk := Z.nx } δ2 m2
def aFor (ai : AIt) (g : AGt) (tb : ASt) : ASt := fun D δ m => ai δ m fun ds m1 => forGo g tb D ds δ m1
theorem as_for {iter tg : Expr} {body : List Stmt} {ai : AIt} {g : AGt} {tb : ASt} (hp : PassesOwn (model X.prog X.w) X.A X.env X.xe) (hc : X.calm = true) (hi : AI X tg iter ai) (hg : AG X tg g) (hb : ASs X body tb)
    (hs : ∀ x, foldedSetIterable iter X.env x = pure x := by intro _; rfl) : AS X (.For tg iter body [] pos) (aFor ai g tb) := by
  obtain ⟨wi, pi, si⟩ := hi.ex
  obtain ⟨tg', pg, sg⟩ := hg.ex
  obtain ⟨ts, ps, ss⟩ := hb.ex
  refine ⟨_, ps_for hp hc pi pg ps hs, fun B D δ m σ H W E h De k => ?_⟩
  refine si B δ m _ σ H W E h _ fun J ds m1 H1 s1 W1 Y q => ?_
  have k1 := k.step s1
  refine ⟨fun i n σ' H' => ∃ δ' m', Step H1 m1 H' m' ∧ Wd X.K H' B m' ∧ EnvD X.K H' (Ban B m') σ' δ' ∧ n + i = ds.length ∧ forGo g tb D (ds.drop i) δ' m', ⟨ds.length, δ, m1, Step.refl _ _, W1, E.carry s1.carry, rfl, q⟩, ?_⟩
  rintro i n σ' H' ⟨δ', m', st, W', E', hn, hq⟩
  have Yi := Y B (fun a b => .inl b) i H' m' st W'
  by_cases hlt : i < ds.length
  · have hd : ds[i]? = some ds[i] := List.getElem?_eq_getElem hlt
    rw [List.drop_eq_getElem_cons hlt] at hq
    obtain ⟨hgo, hy⟩ := Yi.1 _ hd
    refine .inr ⟨hgo, fun σ2 H2 => ∃ δ2 m2, Step H1 m1 H2 m2 ∧ Wd X.K H2 B m2 ∧ EnvD X.K H2 (Ban B m2) σ2 δ2 ∧ forGo g tb D (ds.drop (i + 1)) δ2 m2, ?_, ?_⟩
    · rintro σ2 H2 ⟨δ2, m2, st2, W2, E2, q2⟩
      exact ⟨n - 1, by omega, δ2, m2, st2, W2, E2, by omega, q2⟩
    · intro x H'' y
      obtain ⟨st2, W2, r2⟩ := hy x H'' y
      refine sg B _ x δ' m' _ σ' H'' W2 (E'.carry st2.carry) r2 hq _ fun δ3 m3 σ3 H3 st3 W3 E3 q3 => ?_
      refine ss B _ δ3 m3 σ3 H3 W3 E3 q3 _ ?_
      have sall := (st.trans st2).trans st3
      refine ⟨fun δ4 m4 σ4 H4 st4 W4 E4 q4 => ⟨δ4, m4, sall.trans st4, W4, E4, q4⟩, k1.rt.step sall, k1.nx.step sall, fun δ4 m4 σ4 H4 st4 W4 E4 q4 => ⟨δ4, m4, sall.trans st4, W4, E4, q4⟩⟩
  · refine .inl ⟨Yi.2 (by omega), ?_⟩
    rw [List.drop_eq_nil_of_le (by omega)] at hq
    exact k1.nx δ' m' σ' H' st W' E' hq
/-! ### comprehensions -/
def lcGo (g : AGt) (tt : ATt) (te : AEt) (δw : Dt) (Q : EK) : List D → List D → Mu → Prop
  | [], acc, m => Q (.lst acc) m
  | d :: ds, acc, m => g d δw m fun δ2 m2 => tt δ2 m2 fun b m3 => if b = true then te δ2 m3 fun y m4 => lcGo g tt te δw Q ds (acc ++ [y]) m4 else lcGo g tt te δw Q ds acc m3
def aLc (ai : AIt) (g : AGt) (tt : ATt) (te : AEt) (vs : List Nat) : AEt := fun δ m Q => ai δ m fun ds m1 => ds.length ≤ sizeLine ∧ lcGo g tt te (wipeD δ vs) Q ds [] m1
/-- a target that sets the block's own names alone -/
def Win (tg : TG) (vs : List Nat) : Prop := ∀ (v : V) (σ : L2.St) (H : Hp) (Q : L2.St → Hp → Prop), tg v σ H Q → tg v σ H fun σ2 H2 => wipe σ2 vs = wipe σ vs ∧ Q σ2 H2
def Wins (tg : TGs) (vs : List Nat) : Prop := ∀ (v : List V) (σ : L2.St) (H : Hp) (Q : L2.St → Hp → Prop), tg v σ H Q → tg v σ H fun σ2 H2 => wipe σ2 vs = wipe σ vs ∧ Q σ2 H2
theorem wipe_get {σ : L2.St} {i : Nat} : ∀ {vs : List Nat}, i ∈ vs → i < σ.length → (wipe σ vs)[i]? = some none
  | v :: vs, h, hl => by
    show ((wipe σ vs).set v none)[i]? = some none
    rw [List.getElem?_set]
    by_cases e : v = i
    · rw [if_pos e, if_pos (by rw [wipe_length]; omega)]
    · rw [if_neg e]
      exact wipe_get ((List.mem_cons.mp h).resolve_left fun z => e z.symm) hl
theorem wipe_set {σ : L2.St} {i : Nat} {o : Option V} {vs : List Nat} (h : i ∈ vs) : wipe (σ.set i o) vs = wipe σ vs := by
  refine List.ext_getElem? fun j => ?_
  by_cases hj : j ∈ vs
  · by_cases hl : j < σ.length
    · rw [wipe_get hj (by simpa using hl), wipe_get hj hl]
    · rw [List.getElem?_eq_none (by rw [wipe_length]; simpa using hl), List.getElem?_eq_none (by rw [wipe_length]; omega)]
  · rw [wipe_out hj, wipe_out hj, List.getElem?_set_ne (fun e => hj (by rw [← e]; exact h))]
theorem wipe_wipe {σ : L2.St} {vs : List Nat} : wipe (wipe σ vs) vs = wipe σ vs := by
  refine List.ext_getElem? fun j => ?_
  by_cases hj : j ∈ vs
  · by_cases hl : j < σ.length
    · rw [wipe_get hj (by rw [wipe_length]; exact hl), wipe_get hj hl]
    · rw [List.getElem?_eq_none (by rw [wipe_length, wipe_length]; omega), List.getElem?_eq_none (by rw [wipe_length]; omega)]
  · rw [wipe_out hj]
theorem win_name {i : Nat} {vs : List Nat} (h : i ∈ vs) : Win (gName i) vs := fun v σ H Q q => ⟨wipe_set h, q⟩
theorem wins_nil {vs : List Nat} : Wins gNil vs := fun v σ H Q ⟨e, q⟩ => ⟨e, rfl, q⟩
/-- .. and is monotone -/
def MonG (tg : TG) : Prop := ∀ (v : V) (σ : L2.St) (H : Hp) (Q Q' : L2.St → Hp → Prop), (∀ σ H, Q σ H → Q' σ H) → tg v σ H Q → tg v σ H Q'
def MonGs (tg : TGs) : Prop := ∀ (v : List V) (σ : L2.St) (H : Hp) (Q Q' : L2.St → Hp → Prop), (∀ σ H, Q σ H → Q' σ H) → tg v σ H Q → tg v σ H Q'
theorem mon_name {i : Nat} : MonG (gName i) := fun v σ H Q Q' k q => k _ _ q
theorem mons_nil : MonGs gNil := fun v σ H Q Q' k ⟨e, q⟩ => ⟨e, k _ _ q⟩
theorem mons_cons {t : TG} {u : TGs} (h : MonG t) (g : MonGs u) : MonGs (gCons t u) := fun v σ H Q Q' k ⟨x, r, e, q⟩ => ⟨x, r, e, h x σ H _ _ (fun σ' H' q' => g r σ' H' Q Q' k q') q⟩
theorem mon_tup {K : PySem.W.Frag} {n : Nat} {t : TGs} (h : MonGs t) : MonG (gTup K n t) := fun v σ H Q Q' k ⟨a, xs, e, s, l, q⟩ => ⟨a, xs, e, s, l, h xs σ H Q Q' k q⟩
theorem wins_cons {t : TG} {u : TGs} {vs : List Nat} (m : MonG t) (mu : MonGs u) (h : Win t vs) (g : Wins u vs) : Wins (gCons t u) vs := fun v σ H Q ⟨x, r, e, q⟩ =>
  ⟨x, r, e, m x σ H _ _ (fun σ' H' ⟨e1, q'⟩ => mu r σ' H' _ _ (fun σ2 H2 ⟨e2, q2⟩ => ⟨e2.trans e1, q2⟩) (g r σ' H' Q q')) (h x σ H _ q)⟩
theorem win_tup {K : PySem.W.Frag} {n : Nat} {t : TGs} {vs : List Nat} (h : Wins t vs) : Win (gTup K n t) vs := fun v σ H Q ⟨a, xs, e, s, l, q⟩ => ⟨a, xs, e, s, l, h xs σ H Q q⟩
/-- a target for a comprehension: the library's reading, ours -/
structure GoodG (K : PySem.W.Frag) (vs : List Nat) (tg : TG) (g : AGt) : Prop where
  s : SG K tg g
  w : Win tg vs
  m : MonG tg
structure GoodGs (K : PySem.W.Frag) (vs : List Nat) (tg : TGs) (g : AGts) : Prop where
  s : SGs K tg g
  w : Wins tg vs
  m : MonGs tg
theorem gg_name {K : PySem.W.Frag} {vs : List Nat} {i : Nat} (h : i ∈ vs) : GoodG K vs (gName i) (gNm i) := ⟨fun B d v δ m Q σ H W E r h Q' k => k _ m _ H (Step.refl H m) W (E.set r i) h, win_name h, mon_name⟩
theorem ggs_nil {K : PySem.W.Frag} {vs : List Nat} : GoodGs K vs gNil gNilD := ⟨fun B ds vs δ m Q σ H W E r ⟨e, q⟩ Q' k => by
  subst e
  exact ⟨reps_nil.mp r, k δ m σ H (Step.refl H m) W E q⟩, wins_nil, mons_nil⟩
theorem ggs_cons {K : PySem.W.Frag} {vs : List Nat} {tg tgs g gs} (h : GoodG K vs tg g) (k : GoodGs K vs tgs gs) : GoodGs K vs (gCons tg tgs) (gConsD g gs) := ⟨fun B ds us δ m Q σ H W E r ⟨d, ds', e, q⟩ Q' kk => by
    subst e
    obtain ⟨v, ws, rfl, r1, r2⟩ := reps_cons.mp r
    exact ⟨v, ws, rfl, h.s B d v δ m _ σ H W E r1 q _ fun δ' m' σ' H' st W' E' q' => k.s B ds' ws δ' m' Q σ' H' W' E' (Reps.carry st.carry _ _ r2) q' Q' (kk.step st)⟩, wins_cons h.m k.m h.w k.w, mons_cons h.m k.m⟩
theorem gg_tup {K : PySem.W.Frag} {vs : List Nat} {n : Nat} {tgs gs} (h : GoodGs K vs tgs gs) : GoodG K vs (gTup K n tgs) (gTupD n gs) := ⟨fun B d v δ m Q σ H W E r ⟨ds, e, hn', q⟩ Q' k => by
    subst e
    obtain ⟨a, vs, rfl, t, rs⟩ := rep_tup.mp r
    exact ⟨a, vs, rfl, t.sq, by rw [rs.len]; exact hn', h.s B ds vs δ m Q σ H W E rs q Q' k⟩, win_tup h.w, mon_tup h.m⟩
/-- the canonical readings -/
def teOf (K : PySem.W.Frag) (t : AEt) : TE := fun σ H Q' => ∃ B δ m Q, Wd K H B m ∧ EnvD K H (Ban B m) σ δ ∧ t δ m Q ∧ PostE K B H m Q Q'
def ttOf (K : PySem.W.Frag) (t : ATt) : TT := fun σ H Q' => ∃ B δ m Q, Wd K H B m ∧ EnvD K H (Ban B m) σ δ ∧ t δ m Q ∧ PostT K B H m Q Q'
theorem AE.canon {X : Cx} {e : Expr} {t : AEt} (h : AE X e t) : PE X e (teOf X.K t) :=
  let ⟨_, p, s⟩ := h.ex
  ⟨fun pins s' σ H Q' I ⟨B, δ, m, Q, W, E, q, k⟩ => p.run pins s' σ H Q' I (s B δ m Q σ H W E q Q' k)⟩
theorem AT.canon {X : Cx} {e : Expr} {t : ATt} (h : AT X e t) : PT X e (ttOf X.K t) :=
  let ⟨_, p, s⟩ := h.ex
  ⟨fun pins s' σ H Q' I ⟨B, δ, m, Q, W, E, q, k⟩ => p.run pins s' σ H Q' I (s B δ m Q σ H W E q Q' k)⟩
def aYes : ATt := fun _ m Q => Q true m
/-- the tests of a clause -/
structure ATs (X : Cx) (ifs : List Expr) (t : ATt) : Prop where
  p : PTs X ifs (ttOf X.K t)
theorem ats_nil : ATs X [] aYes := ⟨⟨fun pins s σ H Q' I ⟨B, δ, m, Q, W, E, q, k⟩ => pts_nil.run pins s σ H Q' I (k true m H (Step.refl H m) W q)⟩⟩
theorem ats_one {c : Expr} {t : ATt} (h : AT X c t) : ATs X [c] t := ⟨pts_one h.canon⟩
/-- hidden: one more address -/
def Hid (B : Addr → Prop) (p : Addr) : Addr → Prop := fun a => B a ∨ a = p
theorem ban_hid {B : Addr → Prop} {m : Mu} {p a : Addr} (h : Ban B m a) : Ban (Hid B p) m a := h.elim (fun b => .inl (.inl b)) .inr
theorem Wd.unhide {K : PySem.W.Frag} {H : Hp} {B : Addr → Prop} {m : Mu} {p : Addr} (W : Wd K H (Hid B p) m) : Wd K H B m :=
  ⟨fun a c e => CellOk.carry (fun x o h n => ⟨h, fun z => n (ban_hid z)⟩) (fun o h => h) (fun dx h n => ⟨h, n⟩) (W.cell a c e), fun a b => W.hid a (.inl b)⟩
theorem carry_unhide {H : Hp} {B : Addr → Prop} {m : Mu} {p : Addr} : Carry H (Ban (Hid B p) m) H (Ban B m) := fun x o h n => ⟨h, fun z => n (ban_hid z)⟩
theorem carry_hidden {H : Hp} {B : Addr → Prop} {m : Mu} {p : Addr} {o : HO} : Carry H (Ban (Hid B p) m) (upd H p o) (Ban (Hid B p) m) := fun x u h n =>
  have ne : x ≠ p := fun z => n (.inl (.inr z))
  ⟨by rw [upd_ne ne]; exact h, n⟩
theorem Wd.hidden {K : PySem.W.Frag} {H : Hp} {B : Addr → Prop} {m : Mu} {p : Addr} {o : HO} (W : Wd K H (Hid B p) m) (hno : ∀ x, H p ≠ some (.own x)) : Wd K (upd H p o) (Hid B p) m := by
  have hp := W.hid p (.inr rfl)
  refine ⟨fun a c e => ?_, fun a b => ?_⟩
  · have ne : a ≠ p := fun z => by subst z; rw [hp.2] at e; cases e
    refine CellOk.carry carry_hidden (fun u q => by rw [upd_ne ne]; exact q) (fun dx q n => ⟨?_, n⟩) (W.cell a c e)
    have : dx ≠ p := fun z => by subst z; exact hno _ q
    rw [upd_ne this]; exact q
  · obtain ⟨h1, h2⟩ := W.hid a b
    refine ⟨?_, h2⟩
    by_cases q : a = p
    · subst q; rw [upd_same]; exact fun z => nomatch z
    · rw [upd_ne q]; exact h1
theorem Wd.hideNew {K : PySem.W.Frag} {H : Hp} {B : Addr → Prop} {m : Mu} {p : Addr} {o : HO} (W : Wd K H B m) (hp : H p = none) : Wd K (upd H p o) (Hid B p) m ∧ Carry H (Ban B m) (upd H p o) (Ban (Hid B p) m) := by
  have c : Carry H (Ban B m) (upd H p o) (Ban (Hid B p) m) := Step.carry2 (fun a b => b.elim .inl fun e => .inr (by rw [e]; exact hp)) (Step.new hp)
  refine ⟨⟨fun a cc e => ?_, fun a b => ?_⟩, c⟩
  · have hne : ∀ {x u}, H x = some u → x ≠ p := fun h => ne_of_none h hp
    exact CellOk.carry c (fun u q => by rw [upd_ne (hne q)]; exact q) (fun dx q n => ⟨by rw [upd_ne (hne q)]; exact q, n⟩) (W.cell a cc e)
  · rcases b with b | rfl
    · obtain ⟨h1, h2⟩ := W.hid a b
      cases q : H a with
      | none => exact absurd q h1
      | some u => rw [upd_ne (ne_of_none q hp), q]; exact ⟨(fun z => nomatch z), h2⟩
    · rw [upd_same]; exact ⟨(fun z => nomatch z), (W.free hp).1⟩
theorem lc_sound {K : PySem.W.Frag} {wi : TI} {tg : TG} {ai : AIt} {g : AGt} {tt : ATt} {te : AEt} {vs : List Nat} (si : SI K wi ai) (gg : GoodG K vs tg g) : SE K (tLc wi tg (ttOf K tt) (teOf K te) vs) (aLc ai g tt te vs) := by
  intro B δ m Q σ H W E h Q' k
  refine si B δ m _ σ H W E h _ fun J ds m1 H1 s1 W1 Y ⟨hz, q⟩ => ?_
  have k1 := k.step s1
  intro p hp
  obtain ⟨Wn, cn⟩ := W1.hideNew (o := .lst []) hp
  have stn : Step H1 m1 (upd H1 p (.lst [])) m1 := Step.new hp
  have hB : ∀ a, Hid B p a → B a ∨ H1 a = none := fun a b => b.elim .inl fun e => .inr (by rw [e]; exact hp)
  have E1 : EnvD K H1 (Ban B m1) (wipe σ vs) (wipeD δ vs) := (E.carry s1.carry).wipe vs
  refine ⟨fun i n H' => ∃ m' acc av, Step H1 m1 H' m' ∧ Wd K H' (Hid B p) m' ∧ H' p = some (.lst av) ∧ Reps K H' (Ban (Hid B p) m') acc av ∧ EnvD K H' (Ban (Hid B p) m') (wipe σ vs) (wipeD δ vs) ∧ n + i = ds.length ∧ acc.length ≤ i ∧ lcGo g tt te (wipeD δ vs) Q (ds.drop i) acc m',
    ⟨ds.length, m1, [], [], stn, Wn, upd_same, reps_nil.mpr rfl, E1.carry cn, rfl, Nat.le_refl _, q⟩, ?_⟩
  rintro i n H' ⟨m', acc, av, st, W', hp', rv, E', hn, hacc, hq⟩
  have Yi := Y (Hid B p) hB i H' m' st W'
  by_cases hlt : i < ds.length
  · have hd : ds[i]? = some ds[i] := List.getElem?_eq_getElem hlt
    rw [List.drop_eq_getElem_cons hlt] at hq
    obtain ⟨hgo, hy⟩ := Yi.1 _ hd
    refine .inr ⟨hgo, fun H2 => ∃ m2 acc2 av2, Step H1 m1 H2 m2 ∧ Wd K H2 (Hid B p) m2 ∧ H2 p = some (.lst av2) ∧ Reps K H2 (Ban (Hid B p) m2) acc2 av2 ∧ EnvD K H2 (Ban (Hid B p) m2) (wipe σ vs) (wipeD δ vs) ∧ acc2.length ≤ i + 1 ∧ lcGo g tt te (wipeD δ vs) Q (ds.drop (i + 1)) acc2 m2, ?_, ?_⟩
    · rintro H2 ⟨m2, acc2, av2, a1, a2, a3, a4, a5, a6, a7⟩
      exact ⟨n - 1, by omega, m2, acc2, av2, a1, a2, a3, a4, a5, by omega, a6, a7⟩
    · intro x H'' y
      obtain ⟨st2, W2, r2⟩ := hy x H'' y
      refine gg.m x _ H'' _ _ (fun σ2 H2 ⟨e, q⟩ => ⟨e.trans wipe_wipe, q⟩) (gg.w x _ H'' _ ?_)
      refine gg.s (Hid B p) _ x _ m' _ _ H'' W2 (E'.carry st2.carry) r2 hq _ fun δ3 m3 σ3 H3 st3 W3 E3 q3 => ?_
      refine ⟨Hid B p, δ3, m3, _, W3, E3, q3, fun b m4 H4 st4 W4 q4 => ?_⟩
      have s34 := (st2.trans st3).trans st4
      have keep : H' p = some (.lst av) := hp'
      have hm' : m' p = none := (W'.hid p (.inr rfl)).2
      cases b with
      | true =>
        refine ⟨Hid B p, δ3, m4, _, W4, E3.carry st4.carry, q4, fun d m5 v H5 st5 W5 r5 q5 => ?_⟩
        have s35 := s34.trans st5
        have h5 : H5 p = some (.lst av) := (s35 p _ keep hm').1
        refine ⟨av, h5, ?_, m5, acc ++ [d], av ++ [v], ?_, W5.hidden (fun x e => by rw [h5] at e; cases e), upd_same, ?_, ?_, by rw [List.length_append]; simp; omega, q5⟩
        · have := rv.len; omega
        · intro a o ha hm
          have ne : a ≠ p := ne_of_none ha hp
          have := (st.trans s35) a o ha hm
          rw [upd_ne ne]; exact this
        · exact Reps.carry carry_hidden _ _ ((Reps.carry s35.carry _ _ rv).app (Reps.one r5))
        · exact (E'.carry s35.carry).carry carry_hidden
      | false =>
        exact ⟨m4, acc, av, st.trans s34, W4, (s34 p _ keep hm').1, Reps.carry s34.carry _ _ rv, E'.carry s34.carry, by omega, q4⟩
  · refine .inl ⟨Yi.2 (by omega), ?_⟩
    rw [List.drop_eq_nil_of_le (by omega)] at hq
    have hm' : m' p = none := (W'.hid p (.inr rfl)).2
    refine k1 _ m' _ H' st W'.unhide (rep_lst.mpr ⟨p, av, rfl, ⟨hp', fun z => z.elim (fun b => (W1.hid p b).1 hp) fun z => z hm'⟩, Reps.carry carry_unhide _ _ rv⟩) hq
section
variable {elt tg iter : Expr} {ifs : List Expr} {scope : Scope} {own : List (Str × Nat)} {ai : AIt} {g : AGt} {tt : ATt} {te : AEt} {gt : TG}
theorem ae_lc (hc : X.calm = true) (hN : X.N.Nodup) (hi : AI X tg iter ai) (ok : BlkOk X.N X.env.scope scope own) (gg : GoodG X.K (own.map (·.2)) gt g)
    (hg : ∀ (s : Shared) (H : Hp) (C : Addr) (cl : List (Str × Addr)) (fp : List Addr), PG (X.blk s H scope (compEnvC scope cl C X.env) fp) tg gt)
    (ht : ∀ (s : Shared) (H : Hp) (C : Addr) (cl : List (Str × Addr)) (fp : List Addr), ATs (X.blk s H scope (compEnvC scope cl C X.env) fp) ifs tt)
    (he : ∀ (s : Shared) (H : Hp) (C : Addr) (cl : List (Str × Addr)) (fp : List Addr), AE (X.blk s H scope (compEnvC scope cl C X.env) fp) elt te)
    (hs : ∀ x, foldedSetIterable iter X.env x = pure x := by intro _; rfl) : AE X (.ListComp elt [⟨tg, iter, ifs, 0⟩] scope pos) (aLc ai g tt te (own.map (·.2))) :=
  let ⟨_, pi, si⟩ := hi.ex
  ⟨_, pe_lc hc hN pi ok hg (fun s H C cl fp => (ht s H C cl fp).p) (fun s H C cl fp => (he s H C cl fp).canon) hs, lc_sound si gg⟩
theorem as_setLc {i : Nat} {y : Str} {py spos : Pos} (hc : X.calm = true) (hN : X.N.Nodup) (hy : X.N[i]? = some y) (hyl : X.env.scope.names.lookup y = some .local)
    (hsw : swapsWith (.ListComp elt [⟨tg, iter, ifs, 0⟩] scope pos) (some (.Name y py)) spos.line X.env = pure true) (hi : AI X tg iter ai) (ok : BlkOk X.N X.env.scope scope own) (gg : GoodG X.K (own.map (·.2)) gt g)
    (hg : ∀ (s : Shared) (H : Hp) (C : Addr) (cl : List (Str × Addr)) (fp : List Addr), PG (X.blk s H scope (compEnvC scope cl C X.env) fp) tg gt)
    (ht : ∀ (s : Shared) (H : Hp) (C : Addr) (cl : List (Str × Addr)) (fp : List Addr), ATs (X.blk s H scope (compEnvC scope cl C X.env) fp) ifs tt)
    (he : ∀ (s : Shared) (H : Hp) (C : Addr) (cl : List (Str × Addr)) (fp : List Addr), AE (X.blk s H scope (compEnvC scope cl C X.env) fp) elt te)
    (hs : ∀ x, foldedSetIterable iter X.env x = pure x := by intro _; rfl) : AS X (.Assign [.Name y py] (.ListComp elt [⟨tg, iter, ifs, 0⟩] scope pos) spos) (aAsg (aLc ai g tt te (own.map (·.2))) (gNm i)) :=
  let ⟨_, pi, si⟩ := hi.ex
  ⟨_, ps_setLc hc hN hy hyl hsw pi ok hg (fun s H C cl fp => (ht s H C cl fp).p) (fun s H C cl fp => (he s H C cl fp).canon) hs, fun B D δ m σ H W E h De k =>
    lc_sound si gg B δ m _ σ H W E h _ fun d m1 v H1 s1 W1 r q => k.nx _ m1 _ H1 s1 W1 ((E.carry s1.carry).set r i) q⟩
end
end
end L3
namespace L3
open PySem PySem.Spec PyProof.Rows L2
theorem _root_.L2.Room.u65 {k : Nat} {A : Around} (r : Room k A) : A.units + 65 < cLine := by have := r.un; omega
theorem _root_.L2.Room.u1 {k : Nat} {A : Around} (r : Room k A) : A.units + 1 < cLine := by have := r.un; omega
section
variable {X : Cx}
theorem or_in1 (hu : X.A.units + 65 < cLine) : OpR X (compareOp .In) (rOf X.K (rhoIn false)) := or_in hu false
theorem or_nin (hu : X.A.units + 65 < cLine) : OpR X (compareOp .NotIn) (rOf X.K (rhoIn true)) := or_in hu true
end
def startD (N : List Str) (ds : List D) : Dt := ds.map some ++ List.replicate (N.length - ds.length) none
/-- a def as it stands behind the top, by its name -/
structure DefT (K : PySem.W.Frag) (mg : Str → Option Value) (x : Str) (st : Stmt) (ps : List Str) : Prop where
  ex : ∃ (f : Addr) (fd : FuncData), FunD K x x (defArgs st) (defBody st) (defScope st) [] [] f fd ∧ mg x = some (.ref f) ∧ Binds K fd ps []
end L3
/-! L3s: sets of texts: set(list of texts), sorted of it. -/
namespace L3
open PySem PySem.Spec PyProof.Rows L2
/-- the text of an entry -/
def txOf (e : Int × Value) : Str := match e.2 with
  | .str x _ => x
  | _ => Str.empty
def TxE (w : World) (e : Int × Value) : Prop := ∃ x u, e.2 = Value.str x u ∧ e.1 = hashStr w x
/-- a set of texts: its members (in some order, each once); its table can be walked -/
def SetS (w : World) (g : Heap) (p : Addr) (l : List Str) : Prop :=
  ∃ ob xs ep tb, g.get? p = some ob ∧ ob.ExactSet ∧ ob.data = .set xs ep tb ∧ (∀ e ∈ xs.toList, TxE w e) ∧ (xs.toList.map txOf).Perm l ∧ l.Nodup ∧ xs.size < scanBound ∧ tb.fits xs.size = true ∧
    Ris tb.place.toList ∧ (w.params.followText "set-order" = true ∨ tb.led = true)
section
variable {P : Program} {w : World} {A : Around} {E : Value → Shared → Prop} {s : Shared} {p : Addr} {l : List Str}
theorem SetS.at {g g' : Heap} (R : SetS w g p l) (k : ∀ o, g.get? p = some o → g'.get? p = some o) : SetS w g' p l :=
  let ⟨ob, xs, ep, tb, h, r⟩ := R
  ⟨ob, xs, ep, tb, k ob h, r⟩
theorem txE_elems {es : List (Int × Value)} (g : ∀ e ∈ es, TxE w e) : ElemsOf (PySem.strKind P w) es := fun e he =>
  let ⟨x, u, h1, h2⟩ := g e he
  ⟨⟨x, by rw [h1]; exact PySem.strKind_is P w x u, h2⟩, by rw [h1]; rfl⟩
theorem txE_is {e : Int × Value} (g : TxE w e) (x : Str) : (PySem.strKind P w).is x e.2 = true ↔ txOf e = x := by
  obtain ⟨y, u, h1, _⟩ := g
  unfold txOf
  rw [h1]
  show Value.isStrOf x (.str y u) = true ↔ y = x
  unfold Value.isStrOf
  simp
theorem txE_mem {es : List (Int × Value)} (g : ∀ e ∈ es, TxE w e) (x : Str) : x ∈ es.map txOf ↔ ∃ e ∈ es, (PySem.strKind P w).is x e.2 = true := by
  rw [List.mem_map]
  exact ⟨fun ⟨e, he, q⟩ => ⟨e, he, (txE_is (g e he) x).2 q⟩, fun ⟨e, he, q⟩ => ⟨e, he, (txE_is (g e he) x).1 q⟩⟩
theorem setS_tail {gw : Bool → Sem Unit} (hgw : ∀ (b : Bool) (s₁ : Shared) (Q' : Unit → Shared → Prop), Q' () s₁ → wpAny (model P w) A (gw b) Q' E s₁)
    {ob : Obj} {xs : Array (Int × Value)} {ep : Nat} {tb : SetTable} (h : s.heap.get? p = some ob) (hex : ob.ExactSet) (hd : ob.data = .set xs ep tb)
    {ys : Array (Int × Value)} {tc : SetTable} (gy : ∀ e ∈ ys.toList, TxE w e) (py : (ys.toList.map txOf).Perm l) (nl : l.Nodup)
    (hb : ys.size < scanBound) (hf : tc.fits ys.size = true) (hr : Ris tc.place.toList) (hl : w.params.followText "set-order" = true ∨ tc.led = true) {dum : Bool} {R : Option Bool → Shared → Prop}
    (hR : ∀ g', Heap.SameBut p s.heap g' → SetS w g' p l → R (some true) { s with heap := g' }) :
    wpAny (model P w) A (do
        storeSet p ys tc
        if (!dum && tc.tooFull) = true then do
            gw (relayAll tc ys (SetTable.grown ys.size)).2.2
            storeSet p (relayAll tc ys (SetTable.grown ys.size)).1 (relayAll tc ys (SetTable.grown ys.size)).2.1
            pure (some true)
          else pure (some true)) R E s := by
  refine wpAny_bind (wpAny_storeSet_of h hd ?_ (fits_of_scanBound hb))
  have h1 := store_at (es' := ys) (t' := tc) h hd
  have b1 := Heap.SameBut.update s.heap p (Obj.putSet ys tc)
  split
  · have z1 := relayAll_perm tc ys (SetTable.grown ys.size)
    have z2 := relayAll_fits tc ys (SetTable.grown ys.size)
    have z3 := relayAll_ris tc ys (SetTable.grown ys.size)
    have z4 := relayAll_led tc ys (SetTable.grown ys.size)
    generalize relayAll tc ys (SetTable.grown ys.size) = Y at z1 z2 z3 z4 ⊢
    obtain ⟨zs, td, gave⟩ := Y
    dsimp only at z1 z2 z3 z4 ⊢
    have z5 : zs.size = ys.size := by rw [← Array.length_toList, z1.length_eq, Array.length_toList]
    refine wpAny_bind (hgw _ _ _ ?_)
    refine wpAny_bind (wpAny_storeSet_of h1 rfl ?_ (fits_of_scanBound (by rw [z5]; exact hb)))
    have h2 := store_at (es' := zs) (t' := td) h1 rfl
    refine wpAny_pure (hR _ (b1.trans (Heap.SameBut.update _ p _)) ?_)
    exact ⟨_, zs, _, td, h2, hex, rfl, fun e he => gy e (z1.mem_iff.mp he), (z1.map txOf).trans py, nl, by rw [z5]; exact hb, z2, z3, hl.imp id fun z => by rw [z4]; exact z⟩
  · exact wpAny_pure (hR _ b1 ⟨_, ys, _, tc, h1, hex, rfl, gy, py, nl, hb, hf, hr, hl⟩)
/-- one text more, or as it is -/
theorem setS_add {x : Str} {u : Tok} {Q : Bool → Shared → Prop} (R : SetS w s.heap p l) (room : l.length + 1 < scanBound)
    (hQ : ∀ b g', Heap.SameBut p s.heap g' → SetS w g' p (if x ∈ l then l else x :: l) → Q b { s with heap := g' }) :
    wpAny (model P w) A (setAddHashed p (.str x u) ((PySem.strKind P w).hash x)) Q E s := by
  obtain ⟨ob, xs, ep, tb, h, hex, hd, g, pl, nl, hb, hf, hr, hl⟩ := R
  have hkey : (PySem.strKind P w).is x (.str x u) = true := PySem.strKind_is P w x u
  have hsc : (Value.str x u).scannable = true := rfl
  have hel : ElemsOf (PySem.strKind P w) xs.toList := txE_elems g
  unfold setAddHashed setAddHashedIn
  refine wpAny_holding (wpAny_bind (wpAny_setState_of h hd hf ?_))
  dsimp only
  rw [byScan_of hsc hb hel]
  simp only [↓reduceIte]
  unfold setAddByScan
  refine wpAny_bind (wpAny_bind (wpAny_rule ?_))
  refine wpAny_bind (wpAny_setScan_of hkey h hd hf hel ?_)
  cases hfi : List.findIdx? (fun e => (PySem.strKind P w).is x e.2) xs.toList with
  | some j =>
    dsimp only
    obtain ⟨hj, pj, _⟩ := List.findIdx?_eq_some_iff_getElem.mp hfi
    have hin : x ∈ l := pl.mem_iff.mp ((txE_mem (P := P) g x).2 ⟨xs.toList[j], List.getElem_mem hj, pj⟩)
    refine wpAny_pure (wpAny_pure (hQ _ s.heap (Heap.SameBut.refl p s.heap) ?_))
    rw [if_pos hin]
    exact ⟨ob, xs, ep, tb, h, hex, hd, g, pl, nl, hb, hf, hr, hl⟩
  | none =>
    dsimp only
    have hno : x ∉ l := fun z => by
      obtain ⟨e, he, q⟩ := (txE_mem (P := P) g x).1 (pl.mem_iff.mpr z)
      have c := List.findIdx?_eq_none_iff.mp hfi e he
      rw [q] at c; cases c
    have hgw : ∀ (b : Bool) {s₁ : Shared} {Q' : Unit → Shared → Prop}, Q' () s₁ → wpAny (model P w) A (match b with | true => rule "set.scan.the-table-gave-way" | false => pure ()) Q' E s₁ :=
      fun b s₁ Q' q => by cases b with
        | false => exact wpAny_pure q
        | true => exact wpAny_rule q
    have y1 := layNew_perm tb xs ((PySem.strKind P w).hash x) (.str x u)
    have y2 := layNew_fits tb xs ((PySem.strKind P w).hash x) (.str x u)
    have y3 := layNew_ris tb xs ((PySem.strKind P w).hash x) (.str x u) hr
    have y4 := layNew_led tb xs ((PySem.strKind P w).hash x) (.str x u)
    generalize layNew tb xs ((PySem.strKind P w).hash x) (.str x u) = Y at y1 y2 y3 y4 ⊢
    obtain ⟨ys, tc, dum, gave⟩ := Y
    dsimp only at y1 y2 y3 y4 ⊢
    rw [Array.toList_push] at y1
    have pc := y1.trans (List.perm_append_singleton _ _)
    have pk : (ys.toList.map txOf).Perm (x :: l) := (pc.map txOf).trans (List.Perm.cons x pl)
    have gy : ∀ e ∈ ys.toList, TxE w e := fun e he => by
      rcases List.mem_cons.mp (pc.mem_iff.mp he) with z | z
      · rw [z]; exact ⟨x, u, rfl, rfl⟩
      · exact g e z
    have nx : (x :: l).Nodup := List.nodup_cons.mpr ⟨hno, nl⟩
    have hsz : ys.size < scanBound := by
      have q := pk.length_eq
      rw [List.length_map, Array.length_toList, List.length_cons] at q
      omega
    have hled : w.params.followText "set-order" = true ∨ tc.led = true := hl.imp id fun z => by rw [y4]; exact z
    have fin : ∀ g', Heap.SameBut p s.heap g' → SetS w g' p (x :: l) → Q true { s with heap := g' } := fun g' sb r => hQ _ g' sb (by rw [if_neg hno]; exact r)
    refine wpAny_bind (hgw _ ?_)
    split
    · refine wpAny_bind ?_
      rw [hashByValue_scannable 8 hsc]
      refine wpAny_pure ?_
      refine setS_tail (l := x :: l) ?_ h hex hd gy pk nx hsz ?_ ?_ ?_ ?_
      · intro b s₁ Q' q
        cases b with
        | false => exact wpAny_pure q
        | true => exact wpAny_rule q
      · first | (split <;> first | exact y2 | exact SetTable.fits_plain_off y2) | exact y2
      · first | (split <;> exact y3) | exact y3
      · first | (split <;> exact hled) | exact hled
      · intro g' sb r; dsimp only; exact wpAny_pure (fin g' sb r)
    · refine wpAny_bind (wpAny_pure ?_)
      simp only [↓reduceIte]
      refine setS_tail (l := x :: l) ?_ h hex hd gy pk nx hsz y2 y3 hled ?_
      · intro b s₁ Q' q
        cases b with
        | false => exact wpAny_pure q
        | true => exact wpAny_rule q
      · intro g' sb r; dsimp only; exact wpAny_pure (fin g' sb r)
/-- what the first i of ns make -/
def putAllS : List Str → List Str → List Str
  | [], l => l
  | x :: xs, l => putAllS xs (if x ∈ l then l else x :: l)
theorem putAllS_snoc (x : Str) : ∀ (xs l : List Str), putAllS (xs ++ [x]) l = if x ∈ putAllS xs l then putAllS xs l else x :: putAllS xs l
  | [], l => rfl
  | y :: ys, l => putAllS_snoc x ys _
theorem putAllS_len : ∀ (xs l : List Str), (putAllS xs l).length ≤ xs.length + l.length
  | [], l => by simp [putAllS]
  | y :: ys, l => by
    have q := putAllS_len ys (if y ∈ l then l else y :: l)
    show (putAllS ys _).length ≤ _
    rw [List.length_cons]
    by_cases h : y ∈ l
    · rw [if_pos h] at q ⊢; omega
    · rw [if_neg h] at q ⊢; rw [List.length_cons] at q; omega
theorem putAllS_mem {z : Str} : ∀ (xs l : List Str), z ∈ putAllS xs l ↔ z ∈ xs ∨ z ∈ l
  | [], l => by simp [putAllS]
  | y :: ys, l => by
    rw [show putAllS (y :: ys) l = putAllS ys (if y ∈ l then l else y :: l) from rfl, putAllS_mem ys, List.mem_cons]
    by_cases h : y ∈ l
    · rw [if_pos h]
      exact ⟨fun q => q.elim (fun q => .inl (.inr q)) .inr, fun q => q.elim (fun q => q.elim (fun e => .inr (by rw [e]; exact h)) .inl) .inr⟩
    · rw [if_neg h, List.mem_cons]
      exact ⟨fun q => q.elim (fun q => .inl (.inr q)) fun q => q.elim (fun e => .inl (.inl e)) .inr, fun q => q.elim (fun q => q.elim (fun e => .inr (.inl e)) .inl) fun q => .inr (.inr q)⟩
theorem setS_loop {I : Addr} {fp wr : List Addr} {G : Array GenState → Array GenState → Prop} {n : Nat} {Pv : Nat → Value → Prop} {St : Nat → Shared → Prop} {R : Result → Shared → Prop}
    (W : WalksS P w A.in1 I fp wr G n Pv St) (p : Addr) (hpf : p ∉ fp) (ns : List Str) (hn : n = ns.length) (hb : ns.length + 1 < scanBound) (hval : ∀ i v, Pv i v → ∃ x t, ns[i]? = some x ∧ v = .str x t) :
    ∀ (k i : Nat) (s : Shared), n - i = k → i ≤ n → St i s → SetS w s.heap p (putAllS (ns.take i) []) →
      (∀ s', Moved (p :: wr) G s s' → SetS w s'.heap p (putAllS ns []) → R (.ok (.ret .none)) s') →
      codeAny (model P w) A (.builtin "set.update.loop" ⟨[.ref p, .ref I], []⟩) R s := by
  have hpw : p ∉ wr := fun h => hpf (W.sub _ h)
  have hsub : ∀ b ∈ wr, b ∈ p :: wr := fun b hb => List.mem_cons_of_mem _ hb
  intro k
  induction k with
  | zero =>
    intro i s hk hi hst hS hR
    obtain rfl : i = n := by omega
    refine codeAny_builtin F.entry_set_update_loop ?_
    rw [Around.under_plainId F.plain_set_update_loop _]
    show wpAny _ A.in1 (pyNext (.ref I) >>= _) _ _ s
    refine wpAny_bind (W.done s _ _ hst fun s' hm => ?_)
    show wpAny _ A.in1 (ret Value.none) _ _ s'
    rw [List.take_of_length_le (by omega)] at hS
    exact wpAny_pure (hR s' (hm.mono hsub) (hS.at fun o e => hm.heap p o hpw e))
  | succ k ih =>
    intro i s hk hi hst hS hR
    have hlt : i < n := by omega
    refine codeAny_builtin F.entry_set_update_loop ?_
    rw [Around.under_plainId F.plain_set_update_loop _]
    show wpAny _ A.in1 (pyNext (.ref I) >>= _) _ _ s
    refine wpAny_bind (W.item i s _ _ hlt hst fun v s' hP hst' hm => ?_)
    obtain ⟨z, t, hz, rfl⟩ := hval i v hP
    have hS1 : SetS w s'.heap p (putAllS (ns.take i) []) := hS.at fun o e => hm.heap p o hpw e
    show wpAny _ A.in1 (holding [Value.str z t] (setAdd p (.str z t)) >>= _) _ _ s'
    refine wpAny_bind (wpAny_holding ?_)
    unfold setAdd
    refine wpAny_holding (wpAny_bind ((PySem.strKind P w).pyHash (k := z) (PySem.strKind_is _ _ _ _) ?_))
    have hlen : (putAllS (ns.take i) []).length + 1 < scanBound := by
      have q := putAllS_len (ns.take i) []
      have q2 : (ns.take i).length ≤ ns.length := by rw [List.length_take]; omega
      rw [List.length_nil] at q
      omega
    refine setS_add (s := { s' with toks := s'.toks + 1 }) hS1 hlen fun b h' hsb hS2 => ?_
    have hS3 : SetS w h' p (putAllS (ns.take (i + 1)) []) := by
      rw [List.take_add_one, hz]
      show SetS w h' p (putAllS (ns.take i ++ [z]) [])
      rw [putAllS_snoc]
      exact hS2
    refine wpAny_pure ⟨plainId_quiet F.plain_set_update_loop _, ih (i + 1) _ (by omega) hlt (W.frame _ s' _ _ hst' (Nat.le_succ _) fun c hc o e => ?_) hS3 fun s'' hm'' hS'' => ?_⟩
    · rw [hsb.2 c (fun h : c = p => hpf (by rw [← h]; exact hc))]; exact e
    · refine hR s'' (Moved.trans W.gtrans ((hm.mono hsub).then_heap (Nat.le_succ _) fun c o hc e => ?_) hm'') hS''
      rw [hsb.2 c (fun h : c = p => hc (by rw [h]; exact List.mem_cons_self))]; exact e
/-- the new set's object -/
abbrev newSet (w : World) : Obj := { cls := .type "set", dict := none, data := .set #[] 0 (.fresh 0 0 (!w.params.followText "set-order")) }
theorem setS_empty {g : Heap} (h : g.get? p = some (newSet w)) : SetS w g p [] :=
  ⟨_, #[], 0, _, h, ⟨rfl, rfl, rfl⟩, rfl, (fun e he => by simp at he), .nil, List.nodup_nil, (by decide), (by rfl), List.Pairwise.nil, by
    show _ ∨ (!w.params.followText "set-order") = true
    cases w.params.followText "set-order" with
    | true => exact .inl rfl
    | false => exact .inr rfl⟩
end
end L3
namespace L3
open PySem PySem.Spec PyProof.Rows L2
section
variable {P : Program} {w : World} {A : Around} {E : Value → Shared → Prop} {s : Shared}
theorem strs_get : ∀ {us : List Value} {xs : List Str}, StrsAre us xs → ∀ (i : Nat) (v : Value), us[i]? = some v → ∃ x t, xs[i]? = some x ∧ v = .str x t
  | _, _, .nil, i, v, h => by simp at h
  | _, _, .cons x t r, 0, v, h => by simp at h; exact ⟨x, t, rfl, h.symm⟩
  | _, _, .cons x t r, i + 1, v, h => by simpa using strs_get r i v (by simpa using h)
/-- set(a list): its loop by a promise -/
theorem call_set_gen {l : Addr} {items : Array Value} (Post : Shared → Prop) {Q : Value → Shared → Prop} (hh : A.handled = none) (hl : s.heap.IsList l items)
    (loop : ∀ {I : Addr} {fp wr : List Addr} {G : Array GenState → Array GenState → Prop} {Pv : Nat → Value → Prop} {St : Nat → Shared → Prop} {R : Result → Shared → Prop} (s1 : Shared), WalksS P w A.in1.in1.in1 I fp wr G items.size Pv St → (∀ i v, Pv i v → items[i]? = some v) → s.heap.objs.size ∉ fp → (∀ b ∈ wr, s.heap.get? b = none) →
      St 0 s1 → s1.heap.get? s.heap.objs.size = some (newSet w) → (∀ b o, s.heap.get? b = some o → s1.heap.get? b = some o) → (∀ s', Moved (s.heap.objs.size :: wr) G s1 s' → Post s' → R (.ok (.ret .none)) s') →
      codeAny (model P w) A.in1.in1 (.builtin "set.update.loop" ⟨[.ref s.heap.objs.size, .ref I], []⟩) R s1)
    (h : ∀ (g : Heap) (tk : Nat), Post { s with heap := g, toks := tk } → (∀ b o, s.heap.get? b = some o → g.get? b = some o) → Q (.ref s.heap.objs.size) { s with heap := g, toks := tk }) :
    wpAny (model P w) A (call (.type "set") [.ref l]) Q E s := by
  obtain ⟨c, tl, hmro⟩ := F.called_set.mro
  have hmade := F.called_set.made
  have hsub := F.called_set.sub
  refine wpAny_call (codeAny_of_tree ?_)
  show wpAny _ _ (callAny (.type "set") _) _ _ _
  refine wpAny_pure ⟨Code.quiet_builtin _ (by decide +kernel), codeAny_builtin F.entry_type_call ?_⟩
  rw [Around.under_plain (weight_type_call_type "set" [.ref l] []) rfl]
  have h1 := F.called_set.notType
  have h2 := F.called_set.canCreate
  have hct := F.typeCall_set_1 (.ref l)
  repeat (any_goals (first | assumption | wp_step))
  refine codeAny_mono (code_set_led1 (.ref l) (E := E) (Q₁ := fun ob s₁ => ob = .ref s.heap.objs.size ∧ s₁ = { s with heap := s.heap.push (newSet w) }) ⟨rfl, rfl⟩) fun r s₁ hr => ?_
  cases r with
  | error e => exact hr
  | ok fl =>
    cases fl with
    | ret ob =>
      obtain ⟨rfl, rfl⟩ := hr
      have hS : (s.heap.push (newSet w)).get? s.heap.objs.size = some (newSet w) := Heap.get?_push_size _ rfl
      have hT : Shared.TypeIs { s with heap := s.heap.push (newSet w) } (.ref s.heap.objs.size) "set" := ⟨_, hS, rfl⟩
      have hli := F.called_set.init.lookup
      have hbi := F.called_set.init.bind (.ref s.heap.objs.size)
      repeat (any_goals (first | assumption | wp_step))
      refine codeAny_mono (codeAny_call_builtin (R := wants (fun r s₂ => r = .none ∧ ∃ g tk, s₂ = { s with heap := g, toks := tk } ∧ Post { s with heap := g, toks := tk } ∧
          (∀ b o, s.heap.get? b = some o → g.get? b = some o)) E) F.called_set.init.plain F.entry_set_init (check_set_init_1 hT ?_)) fun r₂ s₂ hr₂ => ?_
      · obtain ⟨ol, hol, hcl, nl, hdl⟩ := hl
        obtain ⟨c1, c2, c3, c4⟩ := ol
        simp only at hcl hdl
        subst hcl; subst hdl
        have hl1 : (s.heap.push (newSet w)).IsList l items := ⟨_, Heap.get?_push_of_some _ hol, rfl, nl, rfl⟩
        have hol1 : (s.heap.push (newSet w)).get? l = some { cls := .type "list", dict := c2, data := .seq items nl, slots := c4 } := Heap.get?_push_of_some _ hol
        have q1 := F.sub_list_set
        have q2 := F.sub_list_frozenset
        have q3 : (Value.type "list" == Value.type "dict") = false := by decide
        unfold Builtin.«set.__init__» noKeywords Builtin.Frozenset.updateFrom
        generalize hPI : pyIter = PI
        wp_walk
        subst hPI
        refine wpAny_pyIter_list hl1 ?_
        refine wpAny_bind (wpAny_runValue ?_)
        have hlS : l < s.heap.objs.size := Heap.lt_size hol
        have hh3 : A.in1.in1.in1.handled = none := by simp [hh]
        have hneI : l ≠ (s.heap.push (newSet w)).objs.size := by
          rw [Heap.size_push]; exact Nat.ne_of_lt (Nat.lt_succ_of_lt hlS)
        have hSf : s.heap.objs.size ∉ [(s.heap.push (newSet w)).objs.size, l] := by
          rw [Heap.size_push]
          intro z
          rcases List.mem_cons.mp z with z | z
          · exact absurd z (Nat.ne_of_lt (Nat.lt_succ_self _))
          · exact absurd (List.mem_singleton.mp z) (Nat.ne_of_gt hlS)
        refine loop _ ((Walks.list hh3 _ l hneI items).toS) (fun i v hv => hv) hSf (fun b hb => Heap.get?_none_of_le (by
            rw [List.mem_singleton.mp hb, Heap.size_push]
            exact Nat.le_succ _))
          ⟨⟨_, Heap.get?_push_size _ rfl, rfl, rfl⟩, (hl1.push _)⟩ (Heap.get?_push_of_some _ hS) (fun b o e => Heap.get?_push_of_some _ (Heap.get?_push_of_some _ e)) ?hR
        case hR =>
          intro s' hm hS'
          obtain ⟨g, g2, d', tk', os'⟩ := s'
          obtain rfl : g2 = s.gens := hm.gens
          obtain rfl : d' = s.drawn := hm.drawn
          obtain rfl : os' = s.os := hm.os
          show wpAny _ _ _ _ _ _
          refine wpAny_pure ?_
          show wpAny _ _ (ret Value.none) _ _ _
          refine wpAny_pure ⟨rfl, g, tk', rfl, hS', fun b o e => ?_⟩
          have b0 : b < s.heap.objs.size := Heap.lt_size e
          refine hm.heap b o (fun z => ?_) (Heap.get?_push_of_some _ (Heap.get?_push_of_some _ e))
          rcases List.mem_cons.mp z with z | z
          · exact absurd z (Nat.ne_of_lt b0)
          · have z := List.mem_singleton.mp z
            rw [Heap.size_push] at z
            exact absurd z (Nat.ne_of_lt (Nat.lt_succ_of_lt b0))
      · cases r₂ with
        | error e => exact hr₂
        | ok fl₂ =>
          cases fl₂ with
          | ret r =>
            obtain ⟨rfl, g, tk, rfl, hS', hk⟩ := hr₂
            repeat (any_goals (first | assumption | wp_step))
            exact h _ _ hS' hk
          | _ => exact hr₂.elim
    | _ => exact hr.elim
theorem call_set_list {l : Addr} {items : Array Value} (ns : List Str) {Q : Value → Shared → Prop} (hh : A.handled = none) (hl : s.heap.IsList l items) (hit : StrsAre items.toList ns) (hb : ns.length + 1 < scanBound)
    (h : ∀ (g : Heap) (tk : Nat), SetS w g s.heap.objs.size (putAllS ns []) → (∀ b o, s.heap.get? b = some o → g.get? b = some o) → Q (.ref s.heap.objs.size) { s with heap := g, toks := tk }) :
    wpAny (model P w) A (call (.type "set") [.ref l]) Q E s := by
  have hisz : items.size = ns.length := by
    have q := hit.length
    rw [Array.length_toList] at q
    exact q
  refine call_set_gen (fun s' => SetS w s'.heap s.heap.objs.size (putAllS ns [])) hh hl (fun s1 W hv hSf hw hst hS hk hR => ?_) fun g tk hS hk => h g tk hS hk
  exact setS_loop W s.heap.objs.size hSf ns hisz hb (fun i v e => strs_get hit i v (by rw [Array.getElem?_toList]; exact hv i v e)) (items.size - 0) 0 _ (by omega) (Nat.zero_le _) hst (setS_empty hS) fun s' hm hS' => hR s' hm hS'
theorem strs_of : ∀ (l : List Value), (∀ v ∈ l, ∃ x tk, v = Value.str x tk) → ∃ xs, StrsAre l xs
  | [], _ => ⟨[], .nil⟩
  | v :: l, h => by
    obtain ⟨x, tk, rfl⟩ := h v List.mem_cons_self
    obtain ⟨xs, r⟩ := strs_of l fun u hu => h u (List.mem_cons_of_mem _ hu)
    exact ⟨x :: xs, .cons x tk r⟩
def txV (v : Value) : Str := match v with
  | .str x _ => x
  | _ => Str.empty
theorem strsAre_map : ∀ {l : List Value} {xs : List Str}, StrsAre l xs → l.map txV = xs
  | _, _, .nil => rfl
  | _, _, .cons x t r => by rw [List.map_cons, strsAre_map r]; rfl
theorem sorted_setS {p : Addr} {l : List Str} {Q : Value → Shared → Prop} (R : SetS w s.heap p l) (hh : A.handled = none) (h64 : l.length < 64)
    (hQ : ∀ s' q (out : Array Value) (c : Nat) (ys : List Str), (∀ b o, s.heap.get? b = some o → s'.heap.get? b = some o) → s'.gens = s.gens → s'.os = s.os → s.heap.objs.size ≤ q →
      s'.heap.get? q = some (seqObj "list" out c) → StrsAre out.toList ys → ys.Perm l → sortedS ys = true → Q (.ref q) s') :
    wpAny (model P w) A (call (.builtin "sorted") [.ref p]) Q E s := by
  obtain ⟨ob, xs, ep, tb, h, hex, hd, g, pl, nl, hb, hf, hr, hl⟩ := R
  refine Calls.call_function_entry kind_sorted plain_sorted entry_sorted (args_sorted1 _) ?_
  unfold Builtin.«sorted»
  refine wpAny_bind (m := checkCount "sorted" 1 1 _) (wpAny_pure ?_)
  refine wpAny_bind (collect_set (A := A.in1) hh ⟨ob, h, hex.1, hd⟩ hf hb hr hl fun s1 vs k1 hz g1 o1 pm => ?_)
  have pt : (vs.map txV).Perm l := by
    have q := pm.map txV
    rw [List.map_map] at q
    exact q.trans pl
  obtain ⟨zs, hI⟩ := strs_of vs fun v hv => by
    obtain ⟨e, he, q⟩ := List.mem_map.mp (pm.mem_iff.mp hv)
    obtain ⟨x, tk, e1, _⟩ := g e he
    exact ⟨x, tk, by rw [← q]; exact e1⟩
  rw [strsAre_map hI] at pt
  have hvl : vs.length = l.length := by rw [hI.length, pt.length_eq]
  refine wpAny_bind (wpAny_newList ?_ (by rw [hvl, sizeLine_eq]; omega))
  have hoL : (s1.heap.push (seqObj "list" vs.toArray 0)).get? s1.heap.objs.size = some (seqObj "list" vs.toArray 0) := Heap.get?_push_size _ rfl
  refine wpAny_bind (wpAny_holding (wpAny_call_entry slot_list_sort ⟨_, hoL, rfl⟩ entry_list_sort (list_sort_treeKAny strKind_oneLt hoL hI.keysOf (fun v₁ v₂ rest e => keyKind_strs (by rw [← e]; exact hI)) (by rw [hvl, sizeLine_eq]; omega)
    fun st' a1 a2 => ⟨_, rfl, ?_⟩) (args_list_sort _)))
  obtain ⟨ys, b1, b2, b3⟩ := sorted_out_str hI a1 a2
  generalize hout : (arrOf st').map (·.2) = out at b1 ⊢
  obtain ⟨c, hc⟩ := sortedHeap_at (vs := vs) (out := out) hoL
  refine wpAny_pure ⟨_, rfl, hQ _ s1.heap.objs.size out c ys (fun b u e => ?_) g1 o1 hz hc b1 (b2.trans pt) b3⟩
  have q := k1 b u e
  have hlt := Heap.lt_size q
  show (sortedHeap (s1.heap.push (seqObj "list" vs.toArray 0)) s1.heap.objs.size vs out).get? b = some u
  rw [sortedHeap_old (Nat.ne_of_lt hlt) (by rw [size_push']; exact Nat.lt_succ_of_lt hlt)]
  exact Heap.get?_push_of_some _ q
end
end L3
namespace L3
open PySem PySem.Spec PyProof.Rows L2
/-! ### zip of a tuple and a text -/
theorem n_ne (n : Nat) : n + 2 ≠ n + 4 ∧ n + 3 ≠ n + 4 ∧ n ≠ n + 4 ∧ n + 1 ≠ n + 4 ∧ n + 2 ≠ n + 3 ∧ n + 2 ≠ n ∧ n + 2 ≠ n + 1 := by omega
theorem n_lt (n k : Nat) (h : n + 4 < k) : n + 2 < k ∧ n + 3 < k ∧ n < k ∧ n + 1 < k := by omega
def ItzS (K : PySem.W.Frag) (a : Addr) (z : Str) : It :=
  ⟨fun i H => ∃ (xs : List V) (x : V) (c : Nat), SqT K H a xs ∧ xs[i]? = some x ∧ z.cps[i]? = some c,
    fun i H v H' => ∃ T x c o, v = .ref T ∧ H T = none ∧ o.dict = none ∧ H' = upd H T (.frz o (.tup [x, .str ⟨#[c]⟩])) ∧ (∀ xs, SqT K H a xs → xs[i]? = some x) ∧ z.cps[i]? = some c,
    fun i H => ∃ xs : List V, SqT K H a xs ∧ i ≤ xs.length ∧ i ≤ z.cps.size ∧ (i = xs.length ∨ i = z.cps.size)⟩
/-- what the walk's own objects are at turn i -/
def ZipS (a : Addr) (z : Str) (t : Tok) (N : Addr) (i : Nat) (h : Heap) : Prop :=
  IsZip h (N + 4) (N + 2) (N + 3) .none ∧ IsTupOf2 h (N + 2) (.ref N) (.ref (N + 1)) ∧ (∃ x y, IsTupOf2 h (N + 3) x y) ∧ h.IsTupleIter N a i ∧ h.IsStrIter (N + 1) (strIterType z) z t i
theorem turn_zipS {P : Program} {w : World} {K : PySem.W.Frag} {elts : List Expr} {kk : Nat} {tpos : Pos} {a N : Addr} {z : Str} {t : Tok} (ha : a < N) :
    Turn P w K (.Tuple elts kk tpos) (ItzS K a z) [N + 4, N + 2, N + 3, N, N + 1] (N + 4) (ZipS a z t N) where
  mem := by simp
  obj := fun i h st c hc => by
    obtain ⟨hz, hTI, ⟨x, y, hTO⟩, ⟨o1, e1, _, d1⟩, ⟨o2, e2, _, d2⟩⟩ := st
    simp only [List.mem_cons, List.not_mem_nil, or_false] at hc
    rcases hc with rfl | rfl | rfl | rfl | rfl
    · exact ⟨_, hz, fun v q => nomatch q⟩
    · exact ⟨_, hTI, fun v q => nomatch q⟩
    · exact ⟨_, hTO, fun v q => nomatch q⟩
    · exact ⟨o1, e1, fun v q => by rw [d1] at q; cases q⟩
    · exact ⟨o2, e2, fun v q => by rw [d2] at q; cases q⟩
  keep := fun i h h' st k => by
    obtain ⟨hz, hTI, ⟨x, y, hTO⟩, ⟨o1, e1, r1⟩, ⟨o2, e2, r2⟩⟩ := st
    exact ⟨k _ (by simp) _ hz, k _ (by simp) _ hTI, ⟨x, y, k _ (by simp) _ hTO⟩, ⟨o1, k _ (by simp) _ e1, r1⟩, ⟨o2, k _ (by simp) _ e2, r2⟩⟩
  item := by
    intro X hP hw hK hc i pins s σ H E I hf st hg
    subst hP hw hK
    obtain ⟨hz, hTI, ⟨x0, y0, hTO⟩, h1, h2⟩ := st
    obtain ⟨xs, x, c, hq, hx, hcz⟩ := hg
    obtain ⟨its, rv, p, _⟩ := I.tuple hq
    obtain ⟨u, hu, ru⟩ := rv.get hx
    have S := zip_sep2 (N := N) (fp1 := [a]) (fp2 := []) (fun b hb => by rw [List.mem_singleton.mp hb]; exact ha) (fun b hb => by cases hb)
    have hne : a ≠ N := Nat.ne_of_lt ha
    have hh : X.A.in1.handled = none := I.ok.hd hc
    have hi1 : i < its.toArray.size := by rw [List.size_toArray]; exact (List.getElem?_eq_some_iff.mp hu).1
    have hi2 : i < z.cps.size := (Array.getElem?_eq_some_iff.mp hcz).1
    have hzl : N + 4 < s.heap.objs.size := Heap.lt_size hz
    refine wpAny_pyNext_zipD2_item S (Draws.tuple hh N a hne its.toArray) (Draws.text hh (N + 1) z t) hz hTI hTO ⟨h1, p⟩ h2 hi1 hi2 fun v1 v2 h' tk p1 p2 z' TO' s1' s2' hT hsz hk => ?_
    obtain ⟨c', tk2, hc', e2⟩ := p2
    rw [hcz] at hc'
    cases hc'
    have e1 : v1 = u := by
      have q : its.toArray[i]? = some v1 := p1
      simp only [List.getElem?_toArray] at q
      rw [hu] at q
      exact (Option.some.inj q).symm
    subst e1 e2
    refine ⟨_, rfl, wpAny_letOwnedTupleGo_zip (s := { s with heap := h', toks := tk }) z' fun h'' z'' sb => ?_⟩
    have hT2 : h''.get? s.heap.objs.size = some { cls := .type "tuple", data := .seq #[v1, .str ⟨#[c]⟩ tk2] } := (sb.2 _ (Nat.ne_of_gt hzl)).trans hT
    have new : ObjOk X.prog X.w (upd H s.heap.objs.size (.frz (tupO [v1, .str ⟨#[c]⟩ tk2]) (.tup [x, .str ⟨#[c]⟩]))) h'' s.heap.objs.size (.frz (tupO [v1, .str ⟨#[c]⟩ tk2]) (.tup [x, .str ⟨#[c]⟩])) :=
      ⟨hT2, by show 2 ≤ sizeLine; decide, [v1, .str ⟨#[c]⟩ tk2], .cons ru (.cons ⟨tk2, rfl⟩ .nil), ⟨_, hT2, rfl, _, rfl⟩⟩
    have I1 : Inv X pins σ (upd H s.heap.objs.size (.frz (tupO [v1, .str ⟨#[c]⟩ tk2]) (.tup [x, .str ⟨#[c]⟩]))) { s with heap := h'', toks := tk } :=
      I.turnedNew (t' := tk) (ch := [N + 4, N + 2, N + 3, N, N + 1]) (fun b o hb q => (sb.2 b (fun q' => hb (by simp [q']))).trans (hk b o (fun q' => hb (by simp [q'])) (fun q' => hb (by simp [q'])) (fun q' => hb (by simp [q'])) (fun q' => hb (by simp [q'])) q)) hf (Nat.le_refl _) new
    obtain ⟨n42, n43, n40, n41, n23, n20, n21⟩ := n_ne N
    refine ⟨.ref s.heap.objs.size, _, I1, rfl, ⟨_, x, c, tupO [v1, .str ⟨#[c]⟩ tk2], rfl, I.hok.fresh (Nat.le_refl _), rfl, rfl, fun l hl => by rw [I.tuple_inj hl hq]; exact hx, hcz⟩, ⟨z'', ?_, ⟨v1, .str ⟨#[c]⟩ tk2, ?_⟩, ?_, ?_⟩, fun b hb => ?_⟩
    · exact (sb.2 _ n42).trans (hk _ _ n42 n23 n20 n21 hTI)
    · exact (sb.2 _ n43).trans TO'
    · exact s1'.1.at fun o q => (sb.2 _ n40).trans q
    · obtain ⟨o, ho, r⟩ := (show h'.IsStrIter (N + 1) (strIterType z) z t (i + 1) from s2')
      exact ⟨o, (sb.2 _ n41).trans ho, r⟩
    · have hlt : b < s.heap.objs.size := by
        simp only [List.mem_cons, List.not_mem_nil, or_false] at hb
        obtain ⟨q2, q3, q0, q1⟩ := n_lt N _ hzl
        rcases hb with e | e | e | e | e
        · rw [e]; exact hzl
        · rw [e]; exact q2
        · rw [e]; exact q3
        · rw [e]; exact q0
        · rw [e]; exact q1
      rw [upd_ne (Nat.ne_of_lt hlt)]
      exact (hf b hb).1
  done := by
    intro X hP hw hK hc i pins s σ H E I hf st hg
    subst hP hw hK
    obtain ⟨hz, hTI, ⟨x0, y0, hTO⟩, h1, h2⟩ := st
    obtain ⟨xs, hq, l1, l2, hend⟩ := hg
    obtain ⟨its, rv, p, _⟩ := I.tuple hq
    have S := zip_sep2 (N := N) (fp1 := [a]) (fp2 := []) (fun b hb => by rw [List.mem_singleton.mp hb]; exact ha) (fun b hb => by cases hb)
    have hne : a ≠ N := Nat.ne_of_lt ha
    have hh : X.A.in1.handled = none := I.ok.hd hc
    have hl : its.toArray.size = xs.length := by rw [List.size_toArray]; exact rv.length.symm
    exact wpAny_pyNext_zipD2_end S (Draws.tuple hh N a hne its.toArray) (Draws.text hh (N + 1) z t) hz hTI hTO ⟨h1, p⟩ h2 (by omega) l2 (by omega) fun h' tk hk => ⟨rfl, I.turnedL (t' := tk) (ch := [N + 4, N + 2, N + 3, N, N + 1]) (fun b o hb q =>
      hk b o (fun q' => hb (by simp [q'])) (fun q' => hb (by simp [q'])) (fun q' => hb (by simp [q'])) (fun q' => hb (by simp [q'])) q) hf⟩
  self := fun A i s Q E st h => wpAny_pyIter_zip st.1 h
def iZipS (K : PySem.W.Frag) (ta : TA) : TI := fun σ H R => ta σ H fun vs H1 => ∃ a xs z, vs = [.ref a, .str z] ∧ SqT K H1 a xs ∧ R (ItzS K a z) H1
theorem pi_zipS {X : Cx} {e e2 : Expr} {ta : TA} {p pos tpos : Pos} {elts : List Expr} {kk : Nat} (hg : Gl X "zip") (hm : X.mg "zip" = none) (ha : PA X [e, e2] ta)
    (hs : starEach [e, e2] X.env = (false, eval e X.env) :: starEach [e2] X.env := by rfl) (hpl : (backTo pos (starEach [e2] X.env)).any (·.1) = false := by rfl) :
    PI X (.Tuple elts kk tpos) (.Call (.Name "zip" p) [e, e2] [] pos) (iZipS X.K ta) := by
  refine ⟨fun pins s σ H R I h => ?_⟩
  refine Call_ (ld_blt I hg hm PyProof.Rows.boot_zip (PyProof.Rows.callWith_type1 (thn (ha.run pos pins s σ H _ I h) fun us s1 ⟨vs, H1, I1, r1, q1⟩ => ?_) hs hpl))
  obtain ⟨a, xs, z, rfl, hq, q⟩ := q1
  obtain ⟨u1, u2, rfl, r, r'⟩ := vals2 r1
  cases r
  obtain ⟨t, rfl⟩ := r'
  obtain ⟨its, rv, p1, _⟩ := I1.tuple hq
  have hal : a < s1.heap.objs.size := p1.lt
  refine zip_begins2 (begins_tuple a its.toArray) (begins_text z t) p1 trivial fun h' hz hTI hTO h1 h2 hsz hk => wpAny_pyIter_zip hz ?_
  have I2 : Inv X pins σ H1 { s1 with heap := h' } := I1.kept (t' := s1.toks) hk
  have fresh : ∀ b, b ∈ [s1.heap.objs.size + 4, s1.heap.objs.size + 2, s1.heap.objs.size + 3, s1.heap.objs.size, s1.heap.objs.size + 1] → FpOk X pins H1 b := fun b hb => by
    have hle : s1.heap.objs.size ≤ b := by
      simp only [List.mem_cons, List.not_mem_nil, or_false] at hb
      rcases hb with e | e | e | e | e
      all_goals (rw [e]; first | exact Nat.le_refl _ | exact Nat.le_add_right _ _)
    exact I1.fpOk hle (I1.hok.fresh hle)
  exact ⟨s1.heap.objs.size + 4, _, _, _, H1, rfl, I2, turn_zipS (t := t) hal, ⟨hz, hTI, ⟨_, _, hTO⟩, ⟨_, h1, rfl, rfl⟩, ⟨_, h2, rfl, rfl⟩⟩, fresh, q⟩
def zipS (ds : List D) (z : Str) : List D := (ds.zip z.cps.toList).map fun p => D.tup [p.1, .str ⟨#[p.2]⟩]
def aZipS (t : AAt) : AIt := fun δ m Q => t δ m fun ds m1 => ∃ es z, ds = [.tup es, .str z] ∧ Q (zipS es z) m1
theorem ai_zipTS {X : Cx} {e e2 : Expr} {t : AAt} {p pos tpos : Pos} {elts : List Expr} {kk : Nat} (hm : X.mg "zip" = none) (h : AA X [e, e2] t) (hg : Gl X "zip" := by rfl)
    (hs : starEach [e, e2] X.env = (false, eval e X.env) :: starEach [e2] X.env := by rfl) (hpl : (backTo pos (starEach [e2] X.env)).any (·.1) = false := by rfl) :
    AI X (.Tuple elts kk tpos) (.Call (.Name "zip" p) [e, e2] [] pos) (aZipS t) :=
  let ⟨_, pa, s⟩ := h.ex
  ⟨_, pi_zipS hg hm pa hs hpl, fun B δ m Q σ H W E h R k => s B δ m _ σ H W E h _ fun ds m1 vs H1 s1 W1 r ⟨es, z, e, q⟩ => by
    subst e
    obtain ⟨v1, v2, rfl, r1, r2⟩ := reps2 r
    obtain ⟨a, us, rfl, t, rs⟩ := rep_tup.mp r1
    cases rep_str.mp r2
    refine ⟨a, us, z, rfl, t.sq, k _ _ m1 H1 s1 W1 (fun B' hB i H' m' st W' => ?_) q⟩
    have t' := t.carry (st.carry2 hB)
    have r' := Reps.carry (st.carry2 hB) _ _ rs
    unfold zipS
    refine ⟨fun d hd => ?_, fun hi => ?_⟩
    · rw [List.getElem?_map] at hd
      cases e : (es.zip z.cps.toList)[i]? with
      | none => rw [e] at hd; cases hd
      | some pr =>
        rw [e] at hd
        cases hd
        obtain ⟨e1, e2⟩ := List.getElem?_zip_eq_some.mp e
        have e2' : z.cps[i]? = some pr.2 := by simpa using e2
        obtain ⟨v, hv, rv⟩ := r'.get i _ e1
        refine ⟨⟨us, v, pr.2, t'.sq, hv, e2'⟩, fun x H'' ⟨T, x1, c, ob, ex, hT, hdn, eH, hx1, hc⟩ => ?_⟩
        subst ex eH
        rw [e2'] at hc
        cases hc
        have := hx1 us t'.sq
        rw [hv] at this
        cases this
        have ⟨W2, nb⟩ := W'.new (o := .frz ob (.tup [v, .str ⟨#[pr.2]⟩])) hT
        exact ⟨Step.new hT, W2, rep_tup.mpr ⟨T, _, rfl, .inl ⟨ob, upd_same, hdn, nb⟩, Reps.carry (Step.new hT : Step H' m' _ m').carry _ _ (reps_cons.mpr ⟨v, _, rfl, rv, Reps.one (rep_str.mpr rfl)⟩)⟩⟩
    · rw [List.length_map, List.length_zip] at hi
      have hz : z.cps.toList.length = z.cps.size := Array.length_toList
      have hu := r'.len
      exact ⟨us, t'.sq, by omega, by omega, by omega⟩⟩
end L3
namespace L3
open PySem PySem.Spec PyProof.Rows L2
section
variable {X : Cx} {pos : Pos}
/-! ### d.get -/
section
variable {o e f : Expr} {to te tf : AEt} {apos : Pos}
def aDGet1 (to te : AEt) : AEt := fun δ m Q => to δ m fun x m1 => (∃ ds, dctOf m1 x = some ds) ∧ te δ m1 fun y m2 => ∃ ds k, dctOf m2 x = some ds ∧ keyD y = some k ∧ Q ((getK ds k).getD .non) m2
def aDGet2 (to te tf : AEt) : AEt := fun δ m Q => to δ m fun x m1 => (∃ ds, dctOf m1 x = some ds) ∧ te δ m1 fun y m2 => tf δ m2 fun z m3 => ∃ ds k, dctOf m3 x = some ds ∧ keyD y = some k ∧ Q ((getK ds k).getD z) m3
theorem getK_rep {K : PySem.W.Frag} {H : Hp} {N : Addr → Prop} {ds : List (Key × D)} {vs : List (Key × V)} (r : Repk K H N ds vs) (k : Key) {z : D} {u : V} (rz : Rep K H N z u) : Rep K H N ((getK ds k).getD z) ((valV vs k).getD u) := by
  rcases getK_val r k with ⟨h1, h2⟩ | ⟨d, v, h1, h2, h3⟩
  · rw [h1, h2]; exact rz
  · rw [h1, h2]; exact h3
theorem ae_dget1 (hu : X.A.units + 1 < cLine) (ho : AE X o to) (he : AE X e te) (h1 : attributeBase o "get" X.env (eval o X.env) = eval o X.env := by rfl)
    (h2 : ((backTo pos (starEach [e] X.env)).all (fun x => !x.1) && (backToKw pos (keywordEach [] X.env)).all (fun x => x.1.isSome) && decide (([e] : List Expr).length + ([] : List Keyword).length + (if ([] : List Keyword).isEmpty then 0 else 1) < 30)) = true := by rfl)
    (h3 : (apos.endLine == pos.line) = true := by rfl) (h4 : backTo pos (starEach [e] X.env) = [(false, eval e X.env)] := by rfl) : AE X (.Call (.Attribute o "get" apos) [e] [] pos) (aDGet1 to te) :=
  let ⟨_, po, so⟩ := ho.ex
  let ⟨_, pe, se⟩ := he.ex
  ⟨_, pe_dget1 hu po pe ⟨h1, h2, h3, h4⟩, fun B δ m Q σ H W E h Q' k => so B δ m _ σ H W E h _ fun x m1 v H1 s1 W1 r ⟨⟨ds, hd⟩, q⟩ => by
    obtain ⟨a, vs, rfl, ha, rs⟩ := dct_at W1 r hd
    refine ⟨a, rfl, .inl ⟨vs, ha⟩, se B δ m1 _ σ H1 W1 (E.carry s1.carry) q _ fun y m2 u H2 s2 W2 r2 ⟨ds2, key, hd2, hk, q2⟩ => ?_⟩
    obtain ⟨a2, vs2, ea, ha2, rs2⟩ := dct_at W2 (Rep.carry s2.carry _ _ r) hd2
    cases ea
    obtain rfl := keyD_v hk r2
    exact ⟨_, dget_rd ha2, (k.step (s1.trans s2)).now W2 (getK_rep rs2 key (rep_non.mpr rfl)) q2⟩⟩
theorem ae_dget2 (hu : X.A.units + 1 < cLine) (ho : AE X o to) (he : AE X e te) (hf : AE X f tf) (h1 : attributeBase o "get" X.env (eval o X.env) = eval o X.env := by rfl)
    (h2 : ((backTo pos (starEach [e, f] X.env)).all (fun x => !x.1) && (backToKw pos (keywordEach [] X.env)).all (fun x => x.1.isSome) && decide (([e, f] : List Expr).length + ([] : List Keyword).length + (if ([] : List Keyword).isEmpty then 0 else 1) < 30)) = true := by rfl)
    (h3 : (apos.endLine == pos.line) = true := by rfl) (h4 : backTo pos (starEach [e, f] X.env) = [(false, eval e X.env), (false, eval f X.env)] := by rfl) : AE X (.Call (.Attribute o "get" apos) [e, f] [] pos) (aDGet2 to te tf) :=
  let ⟨_, po, so⟩ := ho.ex
  let ⟨_, pe, se⟩ := he.ex
  let ⟨_, pf, sf⟩ := hf.ex
  ⟨_, pe_dget2 hu po pe pf ⟨h1, h2, h3, h4⟩, fun B δ m Q σ H W E h Q' k => so B δ m _ σ H W E h _ fun x m1 v H1 s1 W1 r ⟨⟨ds, hd⟩, q⟩ => by
    obtain ⟨a, vs, rfl, ha, rs⟩ := dct_at W1 r hd
    refine ⟨a, rfl, .inl ⟨vs, ha⟩, se B δ m1 _ σ H1 W1 (E.carry s1.carry) q _ fun y m2 u H2 s2 W2 r2 q => sf B δ m2 _ σ H2 W2 (E.carry (s1.trans s2).carry) q _ fun z m3 u3 H3 s3 W3 r3 ⟨ds2, key, hd2, hk, q2⟩ => ?_⟩
    obtain ⟨a2, vs2, ea, ha2, rs2⟩ := dct_at W3 (Rep.carry (s2.trans s3).carry _ _ r) hd2
    cases ea
    obtain rfl := keyD_v hk (Rep.carry s3.carry _ _ r2)
    exact ⟨_, dget_rd ha2, (k.step ((s1.trans s2).trans s3)).now W3 (getK_rep rs2 key r3) q2⟩⟩
/-- .. of a table of the module -/
theorem kd_find {K : PySem.W.Frag} {w : World} {mg : Str → Option Value} {x : Str} {kvs : List (Str × D)} (T : KTab K w mg x kvs) : ∃ d es n, mg x = some (.ref d) ∧ KDict K w d es n ∧
    ∀ z, ∃ r, PySem.W.nsIn K d z = some r ∧ ((getS kvs z = none ∧ r = none) ∨ ∃ u v e, getS kvs z = some e ∧ r = some u ∧ RelV v u ∧ ∀ H N, Rep K H N e v) := by
  obtain ⟨d, es, n, hm, D, val⟩ := T.ex
  refine ⟨d, es, n, hm, D, fun z => ?_⟩
  have hv := val z
  unfold getS
  cases e : (kvs.find? fun p => decide (p.1 = z)).map (·.2) with
  | none => rw [e] at hv; exact ⟨none, hv, .inl ⟨rfl, rfl⟩⟩
  | some d' =>
    rw [e] at hv
    obtain ⟨u, v, h1, h2, h3⟩ := hv
    exact ⟨some u, h1, .inr ⟨u, v, d', rfl, rfl, h2, h3⟩⟩
def aKGet1 (kvs : List (Str × D)) (te : AEt) : AEt := fun δ m Q => te δ m fun y m1 => ∃ z, y = .str z ∧ Q ((getS kvs z).getD .non) m1
def aKGet2 (kvs : List (Str × D)) (te tf : AEt) : AEt := fun δ m Q => te δ m fun y m1 => tf δ m1 fun f m2 => ∃ z, y = .str z ∧ Q ((getS kvs z).getD f) m2
theorem ae_kget1 {x : Str} {kvs : List (Str × D)} {p : Pos} (hu : X.A.units + 1 < cLine) (T : KTab X.K X.w X.mg x kvs) (he : AE X e te) (hg : Gl X x := by rfl) (hd : (x == ("__debug__" : Str)) = false := by decide)
    (h1 : attributeBase (.Name x p) "get" X.env (eval (.Name x p) X.env) = eval (.Name x p) X.env := by rfl)
    (h2 : ((backTo pos (starEach [e] X.env)).all (fun x => !x.1) && (backToKw pos (keywordEach [] X.env)).all (fun x => x.1.isSome) && decide (([e] : List Expr).length + ([] : List Keyword).length + (if ([] : List Keyword).isEmpty then 0 else 1) < 30)) = true := by rfl)
    (h3 : (apos.endLine == pos.line) = true := by rfl) (h4 : backTo pos (starEach [e] X.env) = [(false, eval e X.env)] := by rfl) : AE X (.Call (.Attribute (.Name x p) "get" apos) [e] [] pos) (aKGet1 kvs te) := by
  obtain ⟨d, es, n, hm, D, find⟩ := kd_find T
  obtain ⟨t, pe, se⟩ := he.ex
  refine ⟨fun σ H Q' => t σ H fun y H1 => ∃ z r v, y = .str z ∧ PySem.W.nsIn X.K d z = some r ∧ RelV v (r.getD .none) ∧ Q' v H1, ⟨fun pins s σ H Q' I h => ?_⟩, fun B δ m Q σ H W E h Q' k => ?_⟩
  · refine wpAny_Call_method h1 h2 h3 PySem.F.plainAttrs_dict PySem.F.slot_dict_get PySem.F.type_dict_get (thn ((pe_glob (v := .ref d) (pos := p) hg hm rfl hd).run pins s σ H (fun v H' => v = .ref d ∧ t σ H' fun y H1 => ∃ z r v, y = .str z ∧ PySem.W.nsIn X.K d z = some r ∧ RelV v (r.getD .none) ∧ Q' v H1) I ⟨rfl, h⟩) fun u s1 ⟨v, H1, I1, rv, ev, q⟩ => ?_)
    subst ev
    cases rv
    have mp := PySem.W.mapOf_K (prog := X.prog) (w := X.w) I1.kIn D.at_ D.lit
    refine ⟨mp.typeIs, mp.noDict, ?_⟩
    rw [h4]
    refine Calls.callWith_builtin rfl (Calls.evalArgs_plain (Calls.spliced_cons (thn (pe.run pins s1 σ H1 _ I1 q) fun u s2 ⟨y, H2, I2, r2, z, r, v, ey, hz, rv, q2⟩ => Calls.spliced_nil ?_)))
    subst ey
    obtain ⟨tk, rfl⟩ := r2
    have mp2 := PySem.W.mapOf_K (prog := X.prog) (w := X.w) I2.kIn D.at_ D.lit
    refine call_meetsIn PySem.F.slot_dict_get mp2.typeIs PySem.F.entry_dict_get (PySem.F.args_dict_get_2 _ _) (meets_dict_get (PySem.strKind X.prog X.w) d (PySem.strKind_is X.prog X.w z tk) D.low) ⟨_, mp2, ?_⟩
    rw [PySem.W.find_K D.at_ hz]
    exact ⟨v, H2, I2.tok _, rv, q2⟩
  · refine se B δ m _ σ H W E h _ fun y m1 v H1 s1 W1 r ⟨z, ey, q⟩ => ?_
    subst ey
    cases rep_str.mp r
    obtain ⟨r, hz, c⟩ := find z
    rcases c with ⟨h1, h2⟩ | ⟨u, v, e, h1, h2, h3, h4⟩
    · subst h2
      rw [h1] at q
      exact ⟨z, none, .non, rfl, hz, rfl, (k.step s1).now W1 (rep_non.mpr rfl) q⟩
    · subst h2
      rw [h1] at q
      exact ⟨z, some u, v, rfl, hz, h3, (k.step s1).now W1 (h4 _ _) q⟩
theorem ae_kget2 {x : Str} {kvs : List (Str × D)} {p : Pos} (hu : X.A.units + 1 < cLine) (T : KTab X.K X.w X.mg x kvs) (he : AE X e te) (hf : AE X f tf) (hg : Gl X x := by rfl) (hd : (x == ("__debug__" : Str)) = false := by decide)
    (h1 : attributeBase (.Name x p) "get" X.env (eval (.Name x p) X.env) = eval (.Name x p) X.env := by rfl)
    (h2 : ((backTo pos (starEach [e, f] X.env)).all (fun x => !x.1) && (backToKw pos (keywordEach [] X.env)).all (fun x => x.1.isSome) && decide (([e, f] : List Expr).length + ([] : List Keyword).length + (if ([] : List Keyword).isEmpty then 0 else 1) < 30)) = true := by rfl)
    (h3 : (apos.endLine == pos.line) = true := by rfl) (h4 : backTo pos (starEach [e, f] X.env) = [(false, eval e X.env), (false, eval f X.env)] := by rfl) : AE X (.Call (.Attribute (.Name x p) "get" apos) [e, f] [] pos) (aKGet2 kvs te tf) := by
  obtain ⟨d, es, n, hm, D, find⟩ := kd_find T
  obtain ⟨t, pe, se⟩ := he.ex
  obtain ⟨t', pf, sf⟩ := hf.ex
  refine ⟨fun σ H Q' => t σ H fun y H1 => t' σ H1 fun f H2 => ∃ z r, y = .str z ∧ PySem.W.nsIn X.K d z = some r ∧ (r = none → Q' f H2) ∧ (∀ u, r = some u → ∃ v, RelV v u ∧ Q' v H2), ⟨fun pins s σ H Q' I h => ?_⟩, fun B δ m Q σ H W E h Q' k => ?_⟩
  · refine wpAny_Call_method h1 h2 h3 PySem.F.plainAttrs_dict PySem.F.slot_dict_get PySem.F.type_dict_get (thn ((pe_glob (v := .ref d) (pos := p) hg hm rfl hd).run pins s σ H (fun v H' => v = .ref d ∧ t σ H' fun y H1 => t' σ H1 fun f H2 => ∃ z r, y = .str z ∧ PySem.W.nsIn X.K d z = some r ∧ (r = none → Q' f H2) ∧ (∀ u, r = some u → ∃ v, RelV v u ∧ Q' v H2)) I ⟨rfl, h⟩) fun u s1 ⟨v, H1, I1, rv, ev, q⟩ => ?_)
    subst ev
    cases rv
    have mp := PySem.W.mapOf_K (prog := X.prog) (w := X.w) I1.kIn D.at_ D.lit
    refine ⟨mp.typeIs, mp.noDict, ?_⟩
    rw [h4]
    refine Calls.callWith_builtin rfl (Calls.evalArgs_plain (Calls.spliced_cons (thn (pe.run pins s1 σ H1 _ I1 q) fun u s2 ⟨y, H2, I2, r2, q2⟩ => Calls.spliced_cons (thn (pf.run pins s2 σ H2 _ I2 q2) fun u3 s3 ⟨fv, H3, I3, r3, z, r, ey, hz, q3, q4⟩ => Calls.spliced_nil ?_))))
    subst ey
    obtain ⟨tk, rfl⟩ := r2
    have mp2 := PySem.W.mapOf_K (prog := X.prog) (w := X.w) I3.kIn D.at_ D.lit
    refine call_meetsIn PySem.F.slot_dict_get mp2.typeIs PySem.F.entry_dict_get (PySem.F.args_dict_get_3 _ _ _) (meets_dict_get_default (PySem.strKind X.prog X.w) d (PySem.strKind_is X.prog X.w z tk) D.low u3) ⟨_, mp2, ?_⟩
    rw [PySem.W.find_K D.at_ hz]
    cases r with
    | none => exact ⟨fv, H3, I3.tok _, r3, q3 rfl⟩
    | some u => obtain ⟨v, h5, h6⟩ := q4 u rfl; exact ⟨v, H3, I3.tok _, h5, h6⟩
  · refine se B δ m _ σ H W E h _ fun y m1 v H1 s1 W1 r q0 => sf B δ m1 _ σ H1 W1 (E.carry s1.carry) q0 _ fun f m2 u H2 s2 W2 r2 ⟨z, ey, q⟩ => ?_
    subst ey
    cases rep_str.mp r
    obtain ⟨r, hz, c⟩ := find z
    have k2 := k.step (s1.trans s2)
    refine ⟨z, r, rfl, hz, fun e => ?_, fun u' e => ?_⟩
    · rcases c with ⟨h1, _⟩ | ⟨u, v, e', _, h2, _⟩
      · rw [h1] at q; exact k2.now W2 r2 q
      · rw [h2] at e; cases e
    · rcases c with ⟨_, h2⟩ | ⟨u, v, e', h1, h2, h3, h4⟩
      · rw [h2] at e; cases e
      · rw [h2] at e
        cases e
        rw [h1] at q
        exact ⟨v, h3, k2.now W2 (h4 _ _) q⟩
end
/-! ### a <= b <= c -/
theorem ae_chain {op op' : CmpOp} {ρ ρ' : Rho2} {a b c : Expr} {ta tb tc : AEt} (ho : OpR X (compareOp op) (rOf X.K ρ)) (ho' : OpR X (compareOp op') (rOf X.K ρ')) (ha : AE X a ta) (hb : AE X b tb) (hc : AE X c tc) (hm : lastMarks [op, op'] [b, c] = false := by with_unfolding_all rfl) :
    AE X (.Compare a [op, op'] [b, c] pos) (aChain ρ ρ' ta tb tc) :=
  let ⟨_, pa, sa⟩ := ha.ex
  let ⟨_, pb, sb⟩ := hb.ex
  let ⟨_, pc, sc⟩ := hc.ex
  ⟨_, pe_chain ho ho' pa pb pc hm, fun B δ m Q σ H W E h Q' k => sa B δ m _ σ H W E h _ fun x m1 v H1 s1 W1 r1 q1 => sb B δ m1 _ σ H1 W1 (E.carry s1.carry) q1 _ fun y m2 u H2 s2 W2 r2 q2 =>
    ⟨B, m2, x, y, _, W2, Rep.carry s2.carry _ _ r1, r2, q2, fun z m3 t H3 s3 W3 r3 ⟨c, e, q3⟩ => by
      subst e
      refine ⟨c, rep_bl.mp r3, ?_⟩
      have s123 := (s1.trans s2).trans s3
      cases c with
      | true => exact sc B δ m3 _ σ H3 W3 (E.carry s123.carry) q3 _ fun w m4 t4 H4 s4 W4 r4 q4 => ⟨B, m4, y, w, Q, W4, Rep.carry (s3.trans s4).carry _ _ r2, r4, q4, k.step (s123.trans s4)⟩
      | false => exact (k.step s123).now W3 (rep_bl.mpr rfl) q3⟩⟩
end
end L3
namespace L3
open PySem PySem.Spec PyProof.Rows L2
section
variable {X : Cx} {pos : Pos}
/-! ### sorted(set(xs)) of texts -/
theorem sset64 {xs : List Str} (h : xs.length < 64) : xs.length < 4000 ∧ (putAllS xs []).length < 64 := ⟨by omega, Nat.lt_of_le_of_lt (by simpa using putAllS_len xs []) h⟩
theorem scan64 {n : Nat} (h : n < 64) : n + 1 < scanBound := by
  have : (64 : Nat) < scanBound := by decide
  omega
def strD (xs : List Str) : List D := xs.map D.str
theorem vals_strD {K : PySem.W.Frag} {H : Hp} {N : Addr → Prop} : ∀ {xs : List Str} {vs : List V}, Reps K H N (strD xs) vs → vs = xs.map V.str
  | [], _, r => by rw [reps_nil.mp r]; rfl
  | x :: xs, _, r => by
    obtain ⟨v, ws, rfl, r1, r2⟩ := reps_cons.mp r
    rw [rep_str.mp r1, vals_strD r2]; rfl
theorem reps_strD {K : PySem.W.Frag} {H : Hp} {N : Addr → Prop} : ∀ {xs : List Str}, Reps K H N (strD xs) (xs.map V.str)
  | [] => reps_nil.mpr rfl
  | x :: xs => reps_cons.mpr ⟨_, _, rfl, rep_str.mpr rfl, reps_strD⟩
theorem strs_vals : ∀ {xs : List Str} {us : List Value}, Vals (xs.map V.str) us → StrsAre us xs
  | [], _, .nil => .nil
  | x :: xs, _, .cons r t => by
    obtain ⟨k, rfl⟩ := r
    exact .cons x k (strs_vals t)
theorem vals_strs : ∀ {us : List Value} {xs : List Str}, StrsAre us xs → Vals (xs.map V.str) us
  | _, _, .nil => .nil
  | _, _, .cons x t r => .cons ⟨t, rfl⟩ (vals_strs r)
def aSset (t : AEt) : AEt := fun δ m Q => t δ m fun d m1 => ∃ xs : List Str, lstOf m1 d = some (strD xs) ∧ (xs.length < 4000 ∧ (putAllS xs []).length < 64) ∧ ∀ ys, ys.Perm (putAllS xs []) → sortedS ys = true → Q (.lst (strD ys)) m1
def tSset (K : PySem.W.Frag) (ta : TE) : TE := fun σ H Q => ta σ H fun x H1 => ∃ (l : Addr) (xs : List Str), x = .ref l ∧ H1 l = some (.lst (xs.map V.str)) ∧ (xs.length < 4000 ∧ (putAllS xs []).length < 64) ∧ ∀ (ys : List Str) (p : Addr), ys.Perm (putAllS xs []) → sortedS ys = true → H1 p = none → Q (.ref p) (upd H1 p (.lst (ys.map V.str)))
theorem pe_sset {a : Expr} {ta : TE} {p p2 q : Pos} (hc : X.calm = true) (hg : Gl X "sorted") (hm : X.mg "sorted" = none) (hg2 : Gl X "set") (hm2 : X.mg "set" = none) (ha : PE X a ta)
    (na : starEach [a] X.env = (false, eval a X.env) :: starEach [] X.env := by rfl) : PE X (.Call (.Name "sorted" p) [.Call (.Name "set" p2) [a] [] q] [] pos) (tSset X.K ta) := by
  refine ⟨fun pins s σ H Q I h => ?_⟩
  refine Call_ (ld_blt I hg hm boot_sorted ?_)
  refine PyProof.Rows.callWith_builtin1 (PyProof.Rows.args_cons ?_ rfl) rfl rfl
  refine Call_ (ld_blt I hg2 hm2 boot_set ?_)
  refine PyProof.Rows.callWith_type1 (PyProof.Rows.args_cons (thn (ha.run pins s σ H _ I h) fun v s1 ⟨x, H1, I1, r1, q1⟩ => PyProof.Rows.args_nil ?_) na) na rfl
  obtain ⟨l, xs, rfl, hl, h64, q1⟩ := q1
  cases r1
  obtain ⟨its, r, pl, hz⟩ := I1.list (SqL.of hl : SqL X.K H1 l _)
  have hll : (putAllS xs []).length < 64 := h64.2
  have hsc : xs.length + 1 < scanBound := Nat.lt_of_lt_of_le (Nat.succ_lt_succ h64.1) (by decide)
  refine call_set_list xs (I1.ok.hd hc) pl.isList (by simpa using strs_vals r) hsc fun g tk hS hk => ?_
  have I2 : L2.Inv X pins σ H1 { s1 with heap := g, toks := tk } := I1.kept hk
  refine PyProof.Rows.args_nil ?_
  refine sorted_setS hS (I2.ok.hd hc) hll fun s' p out c ys k hgen ho hp hg' hi hs hm => ?_
  have hlen : (ys.map V.str).length ≤ sizeLine := by rw [List.length_map, hs.length_eq, sizeLine_eq]; omega
  have hn : H1 p = none := I2.hok.fresh hp
  refine ⟨.ref p, upd H1 p (.lst (ys.map V.str)), ?_, rfl, q1 ys p hs hm hn⟩
  exact I2.call' (ch := []) ho (Un.laid k hp hn) (I2.hok.laid k hp ⟨hlen, out.toList, c, vals_strs hi, hg'⟩) (by rw [hgen]; exact I2.bare) (fun _ z => nomatch z)
theorem ae_sset {a : Expr} {t : AEt} {p p2 q : Pos} (hm : X.mg "sorted" = none) (hm2 : X.mg "set" = none) (h : AE X a t) (hc : X.calm = true := by rfl) (hg : Gl X "sorted" := by rfl) (hg2 : Gl X "set" := by rfl)
    (na : starEach [a] X.env = (false, eval a X.env) :: starEach [] X.env := by rfl) : AE X (.Call (.Name "sorted" p) [.Call (.Name "set" p2) [a] [] q] [] pos) (aSset t) :=
  let ⟨_, pa, s⟩ := h.ex
  ⟨_, pe_sset hc hg hm hg2 hm2 pa na, fun B δ m Q σ H W E h Q' k => s B δ m _ σ H W E h _ fun d m1 v H1 s1 W1 r ⟨xs, hx, h64, q⟩ => by
    obtain ⟨l, vs, rfl, hl, rs⟩ := lst_at W1 r hx
    obtain rfl := vals_strD rs
    exact ⟨l, xs, rfl, hl, h64, fun ys p h1 h2 hp => (k.step s1).lst W1 reps_strD (q ys h1 h2) hp⟩⟩
/-! ### sorted of a list of texts, of a dict -/
def rcSorted : SpD := fun ds m Q => ∃ x xs, ds = [x] ∧ (lstOf m x = some (strD xs) ∨ ∃ kvs, dctOf m x = some kvs ∧ kvs.map (·.1) = xs.map Sum.inr) ∧ xs.length < 64 ∧ ∀ ys, ys.Perm xs → sortedS ys = true → Q (.lst (strD ys)) m
theorem repk_keys {K : PySem.W.Frag} {H : Hp} {N : Addr → Prop} : ∀ {ds : List (Key × D)} {vs : List (Key × V)}, Repk K H N ds vs → vs.map (·.1) = ds.map (·.1)
  | [], _, h => by simp only [Repk] at h; subst h; rfl
  | (j, d) :: ds, _, h => by
    simp only [Repk] at h
    obtain ⟨v, ws, rfl, r, rs⟩ := h
    rw [List.map_cons, List.map_cons, repk_keys rs]
theorem cr_sorted (hc : X.calm = true := by rfl) : CallR X (.builtin "sorted") (rcOf X.K rcSorted) := by
  intro pins s σ H xs us Q' I r h
  obtain ⟨B, m, ds, Q, W, rs, ⟨x, xs, rfl, h, h64, q⟩, k⟩ := h
  obtain ⟨v, rfl, r1⟩ := reps1 rs
  rcases h with h | ⟨kvs, h, hk⟩
  · obtain ⟨l, vs, rfl, hl, rz⟩ := lst_at W r1 h
    obtain rfl := vals_strD rz
    exact cr_sortedS pins s σ H _ us Q' I r ⟨l, xs, rfl, SqL.of hl, h64, fun ys p h1 h2 hp => k.lst W reps_strD (q ys h1 h2) hp⟩
  · obtain ⟨l, vs, rfl, hl, rz⟩ := dct_at W r1 h
    exact call_sortedD hc pins s σ H _ us Q' I r ⟨l, vs, xs, rfl, hl, by rw [repk_keys rz]; exact hk, h64, fun ys p h1 h2 hp => k.lst W reps_strD (q ys h1 h2) hp⟩
/-! ### dict of pairs -/
/-- later ones win, in the place of the first -/
def putD (kvs : List (Key × D)) (k : Key) (d : D) : List (Key × D) := if (kvs.any fun p => decide (p.1 = k)) = true then kvs.map (fun p => if p.1 = k then (p.1, d) else p) else kvs ++ [(k, d)]
def mergeD (kvs more : List (Key × D)) : List (Key × D) := more.foldl (fun acc p => putD acc p.1 p.2) kvs
theorem repk_any {K : PySem.W.Frag} {H : Hp} {N : Addr → Prop} (k : Key) {ds : List (Key × D)} {vs : List (Key × V)} (r : Repk K H N ds vs) : (vs.any fun p => decide (p.1 = k)) = (ds.any fun p => decide (p.1 = k)) := by
  have h := repk_keys r
  have e1 : ∀ {α : Type} (l : List (Key × α)), (l.any fun p => decide (p.1 = k)) = (l.map (·.1)).any fun j => decide (j = k) := fun l => by rw [List.any_map]; rfl
  rw [e1, e1, h]
section
variable {K : PySem.W.Frag} {H : Hp} {N : Addr → Prop}
theorem repk_nil {vs : List (Key × V)} : Repk K H N [] vs ↔ vs = [] := by simp only [Repk]
theorem repk_cons {k : Key} {d : D} {ds : List (Key × D)} {vs : List (Key × V)} : Repk K H N ((k, d) :: ds) vs ↔ ∃ v ws, vs = (k, v) :: ws ∧ Rep K H N d v ∧ Repk K H N ds ws := by simp only [Repk]
theorem repk_map (k : Key) {d : D} {v : V} (rd : Rep K H N d v) : ∀ {ds : List (Key × D)} {vs : List (Key × V)}, Repk K H N ds vs → Repk K H N (ds.map fun p => if p.1 = k then (p.1, d) else p) (vs.map fun p => if p.1 = k then (p.1, v) else p)
  | [], _, h => by rw [repk_nil.mp h]; exact repk_nil.mpr rfl
  | (j, e) :: ds, _, h => by
    obtain ⟨w, ws, rfl, r, rs⟩ := repk_cons.mp h
    rw [List.map_cons, List.map_cons]
    by_cases q : j = k
    · simp only [q, if_true]
      exact repk_cons.mpr ⟨v, _, rfl, rd, repk_map k rd rs⟩
    · simp only [q, if_false]
      exact repk_cons.mpr ⟨w, _, rfl, r, repk_map k rd rs⟩
theorem repk_app : ∀ {ds es : List (Key × D)} {vs ws : List (Key × V)}, Repk K H N ds vs → Repk K H N es ws → Repk K H N (ds ++ es) (vs ++ ws)
  | [], _, _, _, a, b => by rw [repk_nil.mp a]; exact b
  | (k, d) :: ds, _, _, _, a, b => by
    obtain ⟨v, us, rfl, r, rs⟩ := repk_cons.mp a
    exact repk_cons.mpr ⟨v, us ++ _, rfl, r, repk_app rs b⟩
theorem repk_put {ds : List (Key × D)} {vs : List (Key × V)} (r : Repk K H N ds vs) (k : Key) {d : D} {v : V} (rd : Rep K H N d v) : Repk K H N (putD ds k d) (putK vs k v) := by
  unfold putD putK
  rw [repk_any k r]
  by_cases h : (ds.any fun p => decide (p.1 = k)) = true
  · rw [if_pos h, if_pos h]; exact repk_map k rd r
  · rw [if_neg h, if_neg h]; exact repk_app r (repk_cons.mpr ⟨v, [], rfl, rd, repk_nil.mpr rfl⟩)
theorem repk_merge : ∀ {more : List (Key × D)} {mv : List (Key × V)}, Repk K H N more mv → ∀ {ds : List (Key × D)} {vs : List (Key × V)}, Repk K H N ds vs → Repk K H N (mergeD ds more) (mergeK vs mv)
  | [], _, a, _, _, b => by rw [repk_nil.mp a]; exact b
  | (k, d) :: more, _, a, _, _, b => by
    obtain ⟨v, us, rfl, r, rs⟩ := repk_cons.mp a
    exact repk_merge rs (repk_put b k r)
end
/-- pairs: tuples of a key and what it has -/
def pairD (p : Key × D) : D := .tup [match p.1 with | .inl i => .int i | .inr x => .str x, p.2]
theorem rep_key {K : PySem.W.Frag} {H : Hp} {N : Addr → Prop} {k : Key} {v : V} (r : Rep K H N (match k with | .inl i => D.int i | .inr x => D.str x) v) : v = kV k := by
  cases k with
  | inl i => exact rep_int.mp r
  | inr x => exact rep_str.mp r
theorem pairs_D {K : PySem.W.Frag} {H : Hp} {N : Addr → Prop} : ∀ {ps : List (Key × D)} {vs : List V}, Reps K H N (ps.map pairD) vs → ∃ as kvs, vs = as.map V.ref ∧ Repk K H N ps kvs ∧ Paired (fun p kv => SqT K H p [kV kv.1, kv.2]) as kvs
  | [], _, r => by rw [List.map_nil] at r; rw [reps_nil.mp r]; exact ⟨[], [], rfl, repk_nil.mpr rfl, .nil⟩
  | (k, d) :: ps, _, r => by
    rw [List.map_cons] at r
    obtain ⟨v, ws, rfl, r1, r2⟩ := reps_cons.mp r
    obtain ⟨as, kvs, rfl, r3, r4⟩ := pairs_D r2
    obtain ⟨a, us, rfl, t, rs⟩ := rep_tup.mp r1
    obtain ⟨x, y, rfl, rk, rd⟩ := reps2 rs
    obtain rfl := rep_key rk
    exact ⟨a :: as, (k, y) :: kvs, rfl, repk_cons.mpr ⟨y, kvs, rfl, rd, r3⟩, .cons t.sq r4⟩
def rcDict : SpD := fun ds m Q => ∃ x ps, ds = [x] ∧ lstOf m x = some (ps.map pairD) ∧ Q (.dct (mergeD [] ps)) m
theorem cr_dict (hc : X.calm = true := by rfl) : CallR X (.type "dict") (rcOf X.K rcDict) := by
  intro pins s σ H xs us Q' I r h
  obtain ⟨B, m, ds, Q, W, rs, ⟨x, ps, rfl, h, q⟩, k⟩ := h
  obtain ⟨v, rfl, r1⟩ := reps1 rs
  obtain ⟨l, vs, rfl, hl, rz⟩ := lst_at W r1 h
  obtain ⟨as, kvs, rfl, r3, r4⟩ := pairs_D rz
  exact call_dictP hc pins s σ H _ us Q' I r ⟨l, as, kvs, rfl, SqL.of hl, r4, fun p hp => k.dct W (repk_merge r3 (repk_nil.mpr rfl)) q hp⟩
/-! ### sum of ints, int of a truth -/
def rcSum : SpD := fun ds m Q => ∃ (x : D) (ns : List Int), ds = [x] ∧ lstOf m x = some (ns.map D.int) ∧ Q (.int ns.sum) m
end
end L3
namespace L3
open PySem PySem.Spec PyProof.Rows L2
section
variable {X : Cx} {pos : Pos}
theorem pairs2 {pins : List (Addr × Obj)} {σ : L2.St} {H : Hp} {s : Shared} (I : Inv X pins σ H s) : ∀ {as : List Addr} {kvs : List (Key × V)}, Paired (fun p kv => SqT X.K H p [kV kv.1, kv.2]) as kvs →
    ∃ (ps : List (Value × Value)) (rs : List (Key × Value)), KV kvs rs ∧ ps.length = as.length ∧ rs.length = as.length ∧
      ∀ (j : Nat) (k v : Value), ps[j]? = some (k, v) → (∃ b, as[j]? = some b ∧ s.heap.IsTuple b #[k, v]) ∧ ∃ key, rs[j]? = some (key, v) ∧ keyIs key k = true
  | _, _, .nil => ⟨[], [], .nil, rfl, rfl, fun j k v e => by simp at e⟩
  | _, _, .cons (a := p) (b := kv) h t => by
    obtain ⟨ps, rs, r, l1, l2, hj⟩ := pairs2 I t
    obtain ⟨its, rv, ht, _⟩ := I.tuple h
    obtain ⟨u, y, rfl, ru, ry⟩ := vals2 rv
    refine ⟨(u, y) :: ps, (kv.1, y) :: rs, .cons ⟨rfl, ry⟩ r, by rw [List.length_cons, List.length_cons, l1], by rw [List.length_cons, List.length_cons, l2], fun j k v e => ?_⟩
    cases j with
    | zero =>
      have e' : (u, y) = (k, v) := Option.some.inj e
      cases e'
      exact ⟨⟨p, rfl, ht⟩, kv.1, rfl, kV_is (P := X.prog) (w := X.w) ru⟩
    | succ j => simpa using hj j k v (by simpa using e)
theorem call_dictTup {pins : List (Addr × Obj)} {σ : L2.St} {H : Hp} {s : Shared} {Q : VK} {a : Addr} {o : Obj} {as : List Addr} {kvs : List (Key × V)} (I : Inv X pins σ H s) (hc : X.calm = true) (ht : s.heap.get? a = some o) (hd : o.dict = none) (hcl : o.cls = .type "tuple")
    {its : List Value} {n : Nat} (hdat : o.data = .seq its.toArray n) (rv : Vals (as.map V.ref) its) (hz : as.length ≤ sizeLine) (hp : Paired (fun p kv => SqT X.K H p [kV kv.1, kv.2]) as kvs)
    (q : ∀ p, H p = none → Q (.ref p) (upd H p (.dK (mergeK [] kvs)))) : wpAny (model X.prog X.w) X.A (call (.type "dict") [.ref a]) (EP X pins σ Q) X.xe s := by
  obtain ⟨ps, rs, rel, l1, l2, hj⟩ := pairs2 I hp
  obtain rfl := refs_at rv
  refine PySem.call_dict_pairs (knd := mixKind X.prog X.w) (kvs := rs) (PairArg.tuple a (as.map Value.ref).toArray (fun j => as.getD j 0) ps) (I.ok.hd hc) ⟨⟨o, n, ht, hcl, hd, hdat⟩, by simp [l1], fun j k v e => ?_⟩ ⟨by rw [l1, l2], fun i k v e => ?_⟩ (by rw [l1]; exact hz) fun g tk hd' kp => ?_
  · obtain ⟨⟨b, e1, e2⟩, _⟩ := hj j k v e
    have e3 : as.getD j 0 = b := by rw [List.getD_eq_getElem?_getD, e1]; rfl
    refine ⟨?_, .inl (show s.heap.IsTuple (as.getD j 0) #[k, v] by rw [e3]; exact e2)⟩
    show (as.map Value.ref).toArray[j]? = some (Value.ref (as.getD j 0))
    rw [e3]
    simp [e1]
  · have e' : ps[i]? = some (k, v) := e
    obtain ⟨_, key, e1, e2⟩ := hj i k v e'
    exact ⟨key, e1, e2⟩
  · have hm : (s.heap.objs.size == sysModules) = false := beq_eq_false_iff_ne.mpr (Nat.ne_of_gt I.big)
    have hl : (mergeK [] kvs).length ≤ sizeLine := by
      refine Nat.le_trans (length_mergeK kvs []) ?_
      rw [List.length_nil, Nat.zero_add, rel.length, l2]
      exact hz
    exact ⟨.ref s.heap.objs.size, upd H s.heap.objs.size (.dK (mergeK [] kvs)), I.laid (t' := tk) (fun b o e => kp b o (fun h => nomatch h) e) (Nat.le_refl _) (show ObjOk X.prog X.w _ _ _ (.dK (mergeK [] kvs)) from ⟨hl, hm, merged [] rs, KV.merge rel .nil, hd'⟩), rfl, q _ (I.hok.fresh (Nat.le_refl _))⟩
def rcDict2 : SpD := fun ds m Q => ∃ x ps, ds = [x] ∧ (lstOf m x = some (ps.map pairD) ∨ x = .tup (ps.map pairD)) ∧ Q (.dct (mergeD [] ps)) m
theorem cr_dict2 (hc : X.calm = true := by rfl) : CallR X (.type "dict") (rcOf X.K rcDict2) := by
  intro pins s σ H xs us Q' I r h
  obtain ⟨B, m, ds, Q, W, rs, ⟨x, ps, rfl, h, q⟩, k⟩ := h
  rcases h with h | rfl
  · exact cr_dict hc pins s σ H xs us Q' I r ⟨B, m, [x], Q, W, rs, ⟨x, ps, rfl, h, q⟩, k⟩
  · obtain ⟨v, rfl, r1⟩ := reps1 rs
    obtain ⟨a, vs, rfl, t, rz⟩ := rep_tup.mp r1
    obtain ⟨as, kvs, rfl, r3, r4⟩ := pairs_D rz
    obtain ⟨u, rfl, ru⟩ := vals1 r
    cases ru
    have fin : ∀ p, H p = none → Q' (.ref p) (upd H p (.dK (mergeK [] kvs))) := fun p hp => k.dct W (repk_merge r3 (repk_nil.mpr rfl)) q hp
    rcases t with ⟨o, e, hd, _⟩ | ⟨o, its, n, h1, h2, hd, h3, h4, h5⟩
    · obtain ⟨g1, hz, its, rv, ob, g2, g3, n, g4⟩ := I.hok a _ e
      rw [g1] at g2
      cases g2
      rw [List.length_map] at hz
      exact call_dictTup I hc g1 hd g3 g4 rv hz r4 fin
    · have hl := h5.length
      rw [List.length_map] at hl
      have hl2 : its.toList.length = its.size := Array.length_toList
      exact call_dictTup I hc (I.kIn a _ h1) hd h2 (its := its.toList) (n := n) (by rw [h3]) h5 (by omega) r4 fin
end
end L3
/-! L3r: how readings run on data that is known. -/
namespace L3
open PySem PySem.Spec PyProof.Rows L2
section
variable {δ : Dt} {m : Mu} {Q : EK} {n : Nat} {d : D} {o : Option D}
theorem ex_var0 : aVar 0 (some d :: δ) m Q = Q d m := by
  unfold aVar
  simp
theorem ex_varS : aVar (n + 1) (o :: δ) m Q = aVar n δ m Q := by
  unfold aVar
  simp
/-- isinstance -/
def isTy (m : Mu) (x : D) (n : String) : Option Bool := (tyD m x).map fun t => isB t n
theorem ex_isi {x : D} {n : String} {b : Bool} (hn : n ∈ ["str", "int", "bool", "tuple", "list"]) (h : isTy m x n = some b) : rcIsi [x, .ty n] m Q = Q (.bl b) m := by
  unfold isTy at h
  cases e : tyD m x with
  | none => rw [e] at h; cases h
  | some t =>
    rw [e] at h
    obtain rfl := Option.some.inj h
    unfold rcIsi
    refine propext ⟨?_, fun q => ⟨x, n, t, rfl, hn, e, q⟩⟩
    rintro ⟨x', n', t', e1, _, e2, q⟩
    injection e1 with a1 a2
    subst a1
    injection a2 with a3 _
    injection a3 with a4
    subst a4
    rw [e] at e2
    cases e2
    exact q
/-- len -/
theorem ex_len_str {z : Str} : rcLen [.str z] m Q = (z.length ≤ sizeLine ∧ Q (.int (z.length : Int)) m) := by
  unfold rcLen
  exact propext ⟨fun ⟨x, e, q⟩ => by injection e with e _; subst e; exact q, fun q => ⟨_, rfl, q⟩⟩
theorem ex_len_tup {z : List D} : rcLen [.tup z] m Q = Q (.int (z.length : Int)) m := by
  unfold rcLen
  exact propext ⟨fun ⟨x, e, q⟩ => by injection e with e _; subst e; exact q, fun q => ⟨_, rfl, q⟩⟩
theorem ex_len_lst {z : List D} : rcLen [.lst z] m Q = Q (.int (z.length : Int)) m := by
  unfold rcLen
  exact propext ⟨fun ⟨x, e, q⟩ => by injection e with e _; subst e; obtain ⟨es, h, q⟩ := q; cases h; exact q, fun q => ⟨_, rfl, _, rfl, q⟩⟩
/-- equality -/
theorem ex_eq_flat {x y : D} (h : scalD x y = true) : rhoEq x y m Q = Q (.bl (eqD x y)) m := by
  obtain ⟨f, g, _⟩ := scalD_of h
  unfold rhoEq
  rw [rsv_flat f, rsv_flat g]
  exact propext ⟨fun q => q.2, fun q => ⟨.inl h, q⟩⟩
theorem ex_ne_flat {x y : D} (h : scalD x y = true) : rhoNe x y m Q = Q (.bl (!eqD x y)) m := by
  obtain ⟨f, g, _⟩ := scalD_of h
  unfold rhoNe
  rw [rsv_flat f, rsv_flat g]
  exact propext ⟨fun q => q.2, fun q => ⟨.inl h, q⟩⟩
theorem ex_eq_str {x y : Str} : rhoEq (.str x) (.str y) m Q = Q (.bl (decide (x = y))) m := by
  rw [ex_eq_flat rfl]
  show Q (.bl (x == y)) m = _
  rw [show (x == y) = decide (x = y) from rfl]
theorem ex_ne_str {x y : Str} : rhoNe (.str x) (.str y) m Q = Q (.bl (!decide (x = y))) m := by
  rw [ex_ne_flat rfl]
  show Q (.bl (!(x == y))) m = _
  rw [show (x == y) = decide (x = y) from rfl]
theorem ex_eq_int {x y : Int} : rhoEq (.int x) (.int y) m Q = Q (.bl (decide (x = y))) m := by
  rw [ex_eq_flat rfl]
  show Q (.bl (x == y)) m = _
  rw [show (x == y) = decide (x = y) from rfl]
theorem ex_ne_int {x y : Int} : rhoNe (.int x) (.int y) m Q = Q (.bl (!decide (x = y))) m := by
  rw [ex_ne_flat rfl]
  show Q (.bl (!(x == y))) m = _
  rw [show (x == y) = decide (x = y) from rfl]
theorem ex_eq_ns {y : Str} : rhoEq .non (.str y) m Q = Q (.bl false) m := by rw [ex_eq_flat rfl]; rfl
theorem ex_eq_sn {y : Str} : rhoEq (.str y) .non m Q = Q (.bl false) m := by rw [ex_eq_flat rfl]; rfl
theorem ex_eq_nn : rhoEq .non .non m Q = Q (.bl true) m := by rw [ex_eq_flat rfl]; rfl
theorem ex_ne_ns {y : Str} : rhoNe .non (.str y) m Q = Q (.bl true) m := by rw [ex_ne_flat rfl]; rfl
theorem ex_ne_sn {y : Str} : rhoNe (.str y) .non m Q = Q (.bl true) m := by rw [ex_ne_flat rfl]; rfl
theorem ex_ne_nn : rhoNe .non .non m Q = Q (.bl false) m := by rw [ex_ne_flat rfl]; rfl
/-- of whole data -/
theorem ex_eq {x y : D} (hx : eqOk (rsv m x) = true) (hy : eqOk (rsv m y) = true) : rhoEq x y m Q = Q (.bl (eqD (rsv m x) (rsv m y))) m := by
  unfold rhoEq
  exact propext ⟨fun q => q.2, fun q => ⟨.inr ⟨hx, hy⟩, q⟩⟩
theorem ex_ne {x y : D} (hx : eqOk (rsv m x) = true) (hy : eqOk (rsv m y) = true) : rhoNe x y m Q = Q (.bl (!eqD (rsv m x) (rsv m y))) m := by
  unfold rhoNe
  exact propext ⟨fun q => q.2, fun q => ⟨.inr ⟨hx, hy⟩, q⟩⟩
/-- order of ints, reckoning -/
theorem ex_I {f : Int → Int → Bool} {x y : Int} : rhoI f (.int x) (.int y) m Q = Q (.bl (f x y)) m := by
  unfold rhoI
  exact propext ⟨fun ⟨i, j, e1, e2, q⟩ => by cases e1; cases e2; exact q, fun q => ⟨_, _, rfl, rfl, q⟩⟩
theorem ex_add_int {x y : Int} : rhoAdd (.int x) (.int y) m Q = Q (.int (x + y)) m := rfl
theorem ex_add_str {x y : Str} : rhoAdd (.str x) (.str y) m Q = (x.length + y.length ≤ sizeLine ∧ Q (.str (x ++ y)) m) := rfl
theorem ex_add_tup {x y : List D} : rhoAdd (.tup x) (.tup y) m Q = (x.length + y.length ≤ sizeLine ∧ Q (.tup (x ++ y)) m) := rfl
theorem ex_add_lst {x y : List D} : rhoAdd (.lst x) (.lst y) m Q = (x.length + y.length ≤ sizeLine ∧ Q (.lst (x ++ y)) m) := by
  show (∃ a b, lstOf m (.lst x) = some a ∧ lstOf m (.lst y) = some b ∧ a.length + b.length ≤ sizeLine ∧ Q (.lst (a ++ b)) m) = _
  exact propext ⟨fun ⟨a, b, e1, e2, q⟩ => by cases e1; cases e2; exact q, fun q => ⟨_, _, rfl, rfl, q⟩⟩
theorem ex_sub {x y : Int} : rhoSub (.int x) (.int y) m Q = Q (.int (x - y)) m := by
  unfold rhoSub
  exact propext ⟨fun ⟨i, j, e1, e2, q⟩ => by cases e1; cases e2; exact q, fun q => ⟨_, _, rfl, rfl, q⟩⟩
theorem ex_mul {x y : Int} : rhoMul (.int x) (.int y) m Q = (CMul x y ∧ Q (.int (x * y)) m) := rfl
theorem ex_mul_lst {x : List D} {y : Int} : rhoMul (.lst x) (.int y) m Q = (0 ≤ y ∧ y < 1000 ∧ x.length * y.toNat ≤ sizeLine ∧ Q (.lst (List.replicate y.toNat x).flatten) m) := rfl
theorem ex_mod {x y : Int} : rhoMod (.int x) (.int y) m Q = (0 < y ∧ Q (.int (x % y)) m) := by
  unfold rhoMod
  exact propext ⟨fun ⟨i, j, e1, e2, q⟩ => by cases e1; cases e2; exact q, fun q => ⟨_, _, rfl, rfl, q⟩⟩
theorem ex_div {x y : Int} : rhoDiv (.int x) (.int y) m Q = (CDiv x y ∧ Q (.int (x / y)) m) := by
  unfold rhoDiv
  exact propext ⟨fun ⟨i, j, e1, e2, q⟩ => by cases e1; cases e2; exact q, fun q => ⟨_, _, rfl, rfl, q⟩⟩
theorem ex_pow {x y : Int} : rhoPow (.int x) (.int y) m Q = (CPow x y ∧ Q (.int (x ^ y.toNat)) m) := by
  unfold rhoPow
  exact propext ⟨fun ⟨i, j, e1, e2, q⟩ => by cases e1; cases e2; exact q, fun q => ⟨_, _, rfl, rfl, q⟩⟩
theorem ex_isN {x : D} : rhoIsN x .non m Q = Q (.bl x.isNon) m := by
  unfold rhoIsN
  exact propext ⟨fun q => q.2, fun q => ⟨rfl, q⟩⟩
theorem ex_notN {x : D} : rhoNotN x .non m Q = Q (.bl (!x.isNon)) m := by
  unfold rhoNotN
  exact propext ⟨fun q => q.2, fun q => ⟨rfl, q⟩⟩
/-- in -/
theorem ex_in_str {c : Nat} {z : Str} {b : Bool} : rhoIn b (.str ⟨#[c]⟩) (.str z) m Q = Q (.bl (b ^^ decide (c ∈ z.cps.toList))) m := by
  show (∃ c', D.str ⟨#[c]⟩ = D.str ⟨#[c']⟩ ∧ Q (.bl (b ^^ decide (c' ∈ z.cps.toList))) m) = _
  exact propext ⟨fun ⟨c', e, q⟩ => by cases e; exact q, fun q => ⟨c, rfl, q⟩⟩
theorem ex_in_tup {x : D} {ds : List D} {b : Bool} (f : x.flat = true) (g : ds.all D.flat = true) : rhoIn b x (.tup ds) m Q = Q (.bl (b ^^ inD x ds)) m := propext ⟨fun q => q.2.2, fun q => ⟨f, g, q⟩⟩
theorem ex_in_lst {x : D} {ds : List D} {b : Bool} (f : x.flat = true) (g : ds.all D.flat = true) : rhoIn b x (.lst ds) m Q = Q (.bl (b ^^ inD x ds)) m := by
  refine propext ⟨?_, fun q => .inl ⟨ds, rfl, .inl ⟨f, g⟩, q⟩⟩
  rintro (⟨es, h, _, q⟩ | ⟨es, k, h, _⟩)
  · cases h; exact q
  · cases h
theorem ex_in_dct {x : D} {k : Key} {ds : List (Key × D)} {b : Bool} (f : keyD x = some k) : rhoIn b x (.dct ds) m Q = Q (.bl (b ^^ (getK ds k).isSome)) m := by
  refine propext ⟨?_, fun q => .inr ⟨ds, k, rfl, f, q⟩⟩
  rintro (⟨es, h, _, q⟩ | ⟨es, k', h, hk, q⟩)
  · cases h
  · cases h
    rw [f] at hk
    cases hk
    exact q
/-- a[b] -/
theorem ex_ix_tup {ds : List D} {i : Int} : rhoIx (.tup ds) (.int i) m Q = ∃ d, atI ds i = some d ∧ Q d m := by
  show (∃ i' d, D.int i = D.int i' ∧ atI ds i' = some d ∧ Q d m) = _
  exact propext ⟨fun ⟨i', d, e, h⟩ => by cases e; exact ⟨d, h⟩, fun ⟨d, h⟩ => ⟨i, d, rfl, h⟩⟩
theorem ex_ix_lst {ds : List D} {i : Int} : rhoIx (.lst ds) (.int i) m Q = ∃ d, atI ds i = some d ∧ Q d m := by
  refine propext ⟨?_, fun ⟨d, h⟩ => .inl ⟨ds, i, d, rfl, rfl, h⟩⟩
  rintro (⟨es, i', d, h, e, h2⟩ | ⟨es, k, d, h, _⟩)
  · cases h; cases e; exact ⟨d, h2⟩
  · cases h
theorem ex_ix_str {z : Str} {i : Int} : rhoIx (.str z) (.int i) m Q = ∃ c, z.length ≤ sizeLine ∧ atI z.cps.toList i = some c ∧ Q (.str ⟨#[c]⟩) m := by
  show (∃ i' c, D.int i = D.int i' ∧ z.length ≤ sizeLine ∧ atI z.cps.toList i' = some c ∧ Q (.str ⟨#[c]⟩) m) = _
  exact propext ⟨fun ⟨i', d, e, h⟩ => by cases e; exact ⟨d, h⟩, fun ⟨d, h⟩ => ⟨i, d, rfl, h⟩⟩
theorem ex_ix_dct {ds : List (Key × D)} {x : D} {k : Key} (hk : keyD x = some k) : rhoIx (.dct ds) x m Q = ∃ d, getK ds k = some d ∧ Q d m := by
  refine propext ⟨?_, fun ⟨d, h⟩ => .inr ⟨ds, k, d, rfl, hk, h⟩⟩
  rintro (⟨es, i', d, h, e, h2⟩ | ⟨es, k', d, h, e, h2⟩)
  · cases h
  · cases h
    rw [hk] at e
    cases e
    exact ⟨d, h2⟩
theorem atI_0 {α : Type} {x : α} {xs : List α} : atI (x :: xs) 0 = some x := atI_nat (j := 0) rfl
theorem atI_1 {α : Type} {x y : α} {xs : List α} : atI (x :: y :: xs) 1 = some y := atI_nat (j := 1) rfl
theorem atI_2 {α : Type} {x y z : α} {xs : List α} : atI (x :: y :: z :: xs) 2 = some z := atI_nat (j := 2) rfl
theorem atI_3 {α : Type} {x y z u : α} {xs : List α} : atI (x :: y :: z :: u :: xs) 3 = some u := atI_nat (j := 3) rfl
theorem cut_1 {x : D} {xs : List D} : cutD (x :: xs) (some 1) none = xs := by
  unfold cutD HT.sIx
  simp
theorem cut_13 {x y z : D} {xs : List D} : cutD (x :: y :: z :: xs) (some 1) (some 3) = [y, z] := by
  unfold cutD HT.sIx
  simp
theorem ex_sl_tup {ds : List D} {lo hi : Option Int} : rhoSl (.tup ds) lo hi m Q = Q (.tup (cutD ds lo hi)) m := rfl
theorem ex_sl_lst {ds : List D} {lo hi : Option Int} : rhoSl (.lst ds) lo hi m Q = Q (.lst (cutD ds lo hi)) m := by
  show (∃ es, lstOf m (.lst ds) = some es ∧ Q (.lst (cutD es lo hi)) m) = _
  exact propext ⟨fun ⟨es, e, q⟩ => by cases e; exact q, fun q => ⟨ds, rfl, q⟩⟩
theorem ex_sl_str {z : Str} {lo hi : Option Int} : rhoSl (.str z) lo hi m Q = (z.length ≤ sizeLine ∧ Q (.str (cutS z lo hi)) m) := rfl
theorem ex_tuple_lst {ds : List D} : rcTuple [.lst ds] m Q = Q (.tup ds) m := by
  unfold rcTuple
  exact propext ⟨fun ⟨x, e, q⟩ => by injection e with e _; subst e; obtain ⟨es, h, q⟩ := q; cases h; exact q, fun q => ⟨_, rfl, _, rfl, q⟩⟩
end
end L3
/-! L3m: more rules: freezing, lists into the store, stores at an index, displays, update, max of none. -/
namespace L3
open PySem PySem.Spec PyProof.Rows L2
section
variable {X : Cx} {pos : Pos}
/-! ### freezing -/
theorem step_del {H : Hp} {m : Mu} {p : Addr} : Step H m H (m.del p) := fun x o h n => ⟨h, by unfold Mu.del; split <;> first | rfl | exact n⟩
theorem ban_del {B : Addr → Prop} {m : Mu} {p a : Addr} (h : Ban B (m.del p) a) : Ban B m a := h.imp id fun z e => z (by unfold Mu.del; split <;> first | rfl | exact e)
theorem Wd.del {K : PySem.W.Frag} {H : Hp} {B : Addr → Prop} {m : Mu} (W : Wd K H B m) (p : Addr) : Wd K H B (m.del p) := by
  refine ⟨fun a c e => ?_, fun a b => ?_⟩
  · by_cases q : a = p
    · subst q; rw [Mu.del_same] at e; cases e
    · rw [Mu.del_ne q] at e
      exact CellOk.carry (fun x o h n => ⟨h, fun z => n (ban_del z)⟩) (fun o h => h) (fun dx h n => ⟨h, by unfold Mu.del; split <;> first | rfl | exact n⟩) (W.cell a c e)
  · obtain ⟨h1, h2⟩ := W.hid a b
    exact ⟨h1, by unfold Mu.del; split <;> first | rfl | exact h2⟩
theorem carry_del {H : Hp} {B : Addr → Prop} {m : Mu} {p : Addr} : Carry H (Ban B m) H (Ban B (m.del p)) := fun x o h n => ⟨h, fun z => n (ban_del z)⟩
theorem not_ban_del {K : PySem.W.Frag} {H : Hp} {B : Addr → Prop} {m : Mu} {p : Addr} {c : Cell} (W : Wd K H B m) (h : m p = some c) : ¬ Ban B (m.del p) p := fun z => z.elim (fun b => by have := (W.hid p b).2; rw [h] at this; cases this) fun z => z Mu.del_same
/-! ### lists and dicts into the store -/
theorem PostE.lstM {K : PySem.W.Frag} {B : Addr → Prop} {H : Hp} {m : Mu} {Q : EK} {Q' : VK} (k : PostE K B H m Q Q') (W : Wd K H B m) {ds : List D} {vs : List V} (r : Reps K H (Ban B m) ds vs) (q : ∀ p, m p = none → Q (.ref p) (m.put p (.lst ds))) {p : Addr} (hp : H p = none) : Q' (.ref p) (upd H p (.lst vs)) := by
  have ⟨st, W2⟩ := W.into (c := .lst ds) (o := .lst vs) hp ⟨vs, upd_same, Reps.carry (carry_put hp) _ _ r⟩
  exact k _ _ _ _ st W2 (rep_ref.mpr rfl) (q p (W.free hp).1)
/-- a + b of lists, the new list into the store -/
def rhoAddM : Rho2 := fun x y m Q => ∃ a b, lstOf m x = some a ∧ lstOf m y = some b ∧ a.length + b.length ≤ sizeLine ∧ ∀ p, m p = none → Q (.ref p) (m.put p (.lst (a ++ b)))
theorem or_addM : OpR X (binaryOp .Add) (rOf X.K rhoAddM) := by
  intro pins s σ H x y v u Q' I rx ry h
  obtain ⟨B, m, dx, dy, Q, W, r1, r2, ⟨a, b, hx, hy, hl, hq⟩, k⟩ := h
  obtain ⟨p, vs, rfl, hp, q1⟩ := lst_at W r1 hx
  obtain ⟨p', ws, rfl, hp', q2⟩ := lst_at W r2 hy
  exact op_cat pins s σ H _ _ _ _ Q' I rx ry ⟨p, p', vs, ws, rfl, rfl, hp, hp', by rw [q1.len, q2.len]; exact hl, fun l hl' => k.lstM W (q1.app q2) hq hl'⟩
/-- list(x) into the store -/
def rcListM : SpD := fun ds m Q => ∃ x es, ds = [x] ∧ (lstOf m x = some es ∨ x = .tup es ∨ ∃ ns, x = .fl ns ∧ es = ns.map D.int) ∧ ∀ p, m p = none → Q (.ref p) (m.put p (.lst es))
theorem reps_ints {K : PySem.W.Frag} {H : Hp} {N : Addr → Prop} : ∀ {ns : List Int}, Reps K H N (ns.map D.int) (ns.map V.int)
  | [] => reps_nil.mpr rfl
  | x :: xs => reps_cons.mpr ⟨_, _, rfl, rep_int.mpr rfl, reps_ints⟩
theorem cr_listM : CallR X (.type "list") (rcOf X.K rcListM) := by
  intro pins s σ H xs us Q' I r h
  obtain ⟨B, m, ds, Q, W, rs, ⟨x, es, rfl, h, hq⟩, k⟩ := h
  obtain ⟨v, rfl, r1⟩ := reps1 rs
  rcases h with h | rfl | ⟨ns, rfl, rfl⟩
  · obtain ⟨p, vs, rfl, hp, q⟩ := lst_at W r1 h
    exact call_list_of pins s σ H _ us Q' I r ⟨p, vs, rfl, .inl (SqL.of hp), fun l hl => k.lstM W q hq hl⟩
  · obtain ⟨p, vs, rfl, t, q⟩ := rep_tup.mp r1
    exact call_list_of pins s σ H _ us Q' I r ⟨p, vs, rfl, .inr t.sq, fun l hl => k.lstM W q hq hl⟩
  · obtain ⟨p, rfl, t⟩ := rep_fl.mp r1
    exact call_list_of pins s σ H _ us Q' I r ⟨p, _, rfl, .inl t.sq, fun l hl => k.lstM W reps_ints hq hl⟩
/-- a list that was handed in, walked -/
def aFlI (t : AEt) : AIt := fun δ m Q => t δ m fun d m1 => ∃ ns, d = .fl ns ∧ Q (ns.map D.int) m1
theorem ai_fl {tg e : Expr} {t : AEt} (h : AE X e t) : AI X tg e (aFlI t) :=
  let ⟨_, p, s⟩ := h.ex
  ⟨_, pi_list p, fun B δ m Q σ H W E h R k => s B δ m _ σ H W E h _ fun d m1 v H1 s1 W1 r ⟨ns, e, q⟩ => by
    subst e
    obtain ⟨a, rfl, t⟩ := rep_fl.mp r
    refine ⟨a, rfl, ⟨_, t.sq⟩, k _ _ m1 H1 s1 W1 (fun B' hB i H' m' st W' => ?_) q⟩
    have t' := t.carry (st.carry2 hB)
    refine ⟨fun d hd => ?_, fun hi => ⟨_, t'.sq, by simp at hi ⊢; omega⟩⟩
    rw [List.getElem?_map] at hd
    cases e : ns[i]? with
    | none => rw [e] at hd; cases hd
    | some n =>
      rw [e] at hd
      cases hd
      have hv : (ns.map V.int)[i]? = some (.int n) := by rw [List.getElem?_map, e]; rfl
      refine ⟨⟨_, _, t'.sq, hv⟩, fun x H'' y => ?_⟩
      obtain ⟨rfl, y⟩ := y
      have := y _ t'.sq
      rw [hv] at this
      cases this
      exact ⟨Step.refl _ _, W', rep_int.mpr rfl⟩⟩
/-! ### o[i] = v -/
/-- into a list or a dict of the store -/
def rhoSet (x y v : D) (m : Mu) (Q : Mu → Prop) : Prop := ∃ p, x = .ref p ∧ ((∃ es i j, m p = some (.lst es) ∧ y = .int i ∧ ixN es.length i = some j ∧ Q (m.put p (.lst (es.set j v)))) ∨
  ∃ es k, m p = some (.dct es) ∧ keyD y = some k ∧ es.length < sizeLine ∧ Q (m.put p (.dct (putD es k v))))
def sOf (K : PySem.W.Frag) : TSet := fun o i v H Q' => ∃ B m x y d Q, Wd K H B m ∧ Rep K H (Ban B m) x o ∧ Rep K H (Ban B m) y i ∧ Rep K H (Ban B m) d v ∧ rhoSet x y d m Q ∧ ∀ m' H', Step H m H' m' → Wd K H' B m' → Q m' → Q' H'
theorem wd_dct {K : PySem.W.Frag} {H : Hp} {B : Addr → Prop} {m : Mu} {p : Addr} {es es' : List (Key × D)} {vs' : List (Key × V)} (W : Wd K H B m) (h : m p = some (.dct es)) (r : Repk K H (Ban B m) es' vs') : Step H m (upd H p (.dK vs')) (m.put p (.dct es')) ∧ Wd K (upd H p (.dK vs')) B (m.put p (.dct es')) := by
  obtain ⟨vs, hp, q⟩ := W.cell p _ h
  refine W.write h (fun C dx fs e => nomatch e) (fun x e => by rw [hp] at e; cases e) ⟨vs', upd_same, Repk.carry (fun x u e n => ?_) _ _ r⟩
  have ne : x ≠ p := fun z => n (.inr (by rw [z, h]; exact fun z => nomatch z))
  exact ⟨by rw [upd_ne ne]; exact e, fun z => z.elim (fun b => n (.inl b)) fun z => n (.inr (by rw [Mu.put_ne ne] at z; exact z))⟩
theorem repk_len {K : PySem.W.Frag} {H : Hp} {N : Addr → Prop} : ∀ {ds : List (Key × D)} {vs : List (Key × V)}, Repk K H N ds vs → vs.length = ds.length
  | [], _, r => by rw [repk_nil.mp r]; rfl
  | (k, d) :: ds, _, r => by
    obtain ⟨v, ws, rfl, _, rs⟩ := repk_cons.mp r
    rw [List.length_cons, List.length_cons, repk_len rs]
theorem set_D (hu : X.A.units + 1 < cLine) : PSet X (sOf X.K) := by
  intro pins s σ H o i v ov iv u Q I ro ri rv h
  obtain ⟨B, m, x, y, d, Qm, W, r1, r2, r3, ⟨p, rfl, h⟩, k⟩ := h
  cases rep_ref.mp r1
  rcases h with ⟨es, n, j, hm, rfl, hj, q⟩ | ⟨es, key, hm, hk, hl, q⟩
  · obtain ⟨vs, hp, rs⟩ := W.cell p _ hm
    obtain ⟨st, W2⟩ := wd_lst W hm (rs.set r3 j)
    cases rep_int.mp r2
    exact set_list pins s σ H _ _ v ov iv u Q I ro ri rv ⟨p, vs, n, j, rfl, rfl, hp, by rw [rs.len]; exact hj, k _ _ st W2 q⟩
  · obtain ⟨vs, hp, rs⟩ := W.cell p _ hm
    obtain ⟨st, W2⟩ := wd_dct W hm (repk_put rs key r3)
    obtain rfl := keyD_v hk r2
    exact set_dict hu pins s σ H _ _ v ov iv u Q I ro ri rv ⟨p, _, rfl, DPut.k hp (by rw [repk_len rs]; exact hl), k _ _ st W2 q⟩
def gSubD (to ti : AEt) : AGt := fun v δ m Q => to δ m fun x m1 => ti δ m1 fun y m2 => rhoSet x y v m2 fun m3 => Q δ m3
theorem ag_sub {o i : Expr} {to ti : AEt} (hu : X.A.units + 1 < cLine) (ho : AE X o to) (hi : AE X i ti)
    (ha : ∀ v, assign (.Subscript o i pos) X.env v = (do
      let ov ← holding [v] (eval o X.env)
      let iv ← holding [v, ov] (eval i X.env)
      standAt pos
      holding [v, ov, iv] (setItem ov iv v)
      release [v, ov, iv] []) := by intro _; rfl) : AG X (.Subscript o i pos) (gSubD to ti) :=
  let ⟨_, po, so⟩ := ho.ex
  let ⟨_, pi, si⟩ := hi.ex
  ⟨_, pg_sub po pi (set_D hu) ha, fun B d v δ m Q σ H W E r h Q' k => so B δ m _ σ H W E h _ fun x m1 o H1 s1 W1 r1 q1 => si B δ m1 _ σ H1 W1 (E.carry s1.carry) q1 _ fun y m2 i H2 s2 W2 r2 q2 =>
    ⟨B, m2, x, y, d, _, W2, Rep.carry s2.carry _ _ r1, r2, Rep.carry (s1.trans s2).carry _ _ r, q2, fun m3 H3 s3 W3 q3 => k δ m3 σ H3 ((s1.trans s2).trans s3) W3 (E.carry ((s1.trans s2).trans s3).carry) q3⟩⟩
/-! ### displays of dicts -/
def pairsD : List (AEt × AEt) → Dt → Mu → (List (D × D) → Mu → Prop) → Prop
  | [], _, m, Q => Q [] m
  | (tk, tv) :: r, δ, m, Q => tk δ m fun x m1 => tv δ m1 fun y m2 => pairsD r δ m2 fun ps m3 => Q ((x, y) :: ps) m3
inductive RepP (K : PySem.W.Frag) (H : Hp) (N : Addr → Prop) : List (D × D) → List (V × V) → Prop where
  | nil : RepP K H N [] []
  | cons {x y v w ps qs} (a : Rep K H N x v) (b : Rep K H N y w) (t : RepP K H N ps qs) : RepP K H N ((x, y) :: ps) ((v, w) :: qs)
def SP (K : PySem.W.Frag) (trs : List (TE × TE)) (t : List (AEt × AEt)) : Prop := ∀ (B : Addr → Prop) (δ : Dt) (m : Mu) (Q : List (D × D) → Mu → Prop) (σ : L2.St) (H : Hp), Wd K H B m → EnvD K H (Ban B m) σ δ → pairsD t δ m Q → ∀ Q' : List (V × V) → Hp → Prop,
  (∀ ps m' vs H', Step H m H' m' → Wd K H' B m' → RepP K H' (Ban B m') ps vs → Q ps m' → Q' vs H') → tPairs trs σ H Q'
structure APs (X : Cx) (pos : Pos) (keys : List (Option Expr)) (values : List Expr) (t : List (AEt × AEt)) : Prop where
  ex : ∃ trs, PPs X pos keys values trs ∧ SP X.K trs t
theorem apps_nil : APs X pos [] [] [] := ⟨[], pps_nil, fun B δ m Q σ H W E h Q' k => k [] m [] H (Step.refl H m) W .nil h⟩
theorem apps_cons {kx v : Expr} {ks : List (Option Expr)} {vs : List Expr} {tk tv : AEt} {t : List (AEt × AEt)} (hk : AE X kx tk) (hv : AE X v tv) (hr : APs X pos ks vs t) : APs X pos (some kx :: ks) (v :: vs) ((tk, tv) :: t) :=
  let ⟨_, pk, sk⟩ := hk.ex
  let ⟨_, pv, sv⟩ := hv.ex
  let ⟨_, pr, sr⟩ := hr.ex
  ⟨_, pps_cons pk pv pr, fun B δ m Q σ H W E h Q' k => sk B δ m _ σ H W E h _ fun x m1 v1 H1 s1 W1 r1 q1 => sv B δ m1 _ σ H1 W1 (E.carry s1.carry) q1 _ fun y m2 v2 H2 s2 W2 r2 q2 =>
    sr B δ m2 _ σ H2 W2 (E.carry (s1.trans s2).carry) q2 _ fun ps m3 qs H3 s3 W3 r3 q3 => k _ m3 _ H3 ((s1.trans s2).trans s3) W3 (.cons (Rep.carry (s2.trans s3).carry _ _ r1) (Rep.carry s3.carry _ _ r2) r3) q3⟩
def dispK (ps : List (D × D)) (kvs : List (Key × D)) : Prop := ps = kvs.map fun kv => ((match kv.1 with | .inl i => D.int i | .inr x => D.str x), kv.2)
theorem disp_rep {K : PySem.W.Frag} {H : Hp} {N : Addr → Prop} : ∀ {kvs : List (Key × D)} {qs : List (V × V)}, RepP K H N (kvs.map fun kv => ((match kv.1 with | .inl i => D.int i | .inr x => D.str x), kv.2)) qs → ∃ ks, qs = ks.map (fun kv : Key × V => (kV kv.1, kv.2)) ∧ Repk K H N kvs ks
  | [], _, r => by rw [List.map_nil] at r; cases r; exact ⟨[], rfl, repk_nil.mpr rfl⟩
  | (k, d) :: kvs, _, r => by
    rw [List.map_cons] at r
    cases r with
    | cons a b t =>
      obtain ⟨ks, rfl, rk⟩ := disp_rep t
      obtain rfl := rep_key a
      exact ⟨(k, _) :: ks, rfl, repk_cons.mpr ⟨_, _, rfl, b, rk⟩⟩
/-- a display whose parts leave the store as it is -/
def aDispW (t : List (AEt × AEt)) (fin : List (Key × D) → Mu → EK → Prop) : AEt := fun δ m Q => pairsD t δ m fun ps m1 => ∃ kvs, dispK ps kvs ∧ kvs.length ≤ 15 ∧ fin (mergeD [] kvs) m1 Q
def aDisp (t : List (AEt × AEt)) : AEt := aDispW t fun kvs m Q => Q (.dct kvs) m
theorem disp_sound {K : PySem.W.Frag} {trs : List (TE × TE)} {t : List (AEt × AEt)} {fin : List (Key × D) → Mu → EK → Prop} (sp : SP K trs t)
    (hf : ∀ (B : Addr → Prop) (m : Mu) (H : Hp) (p : Addr) (kvs : List (Key × D)) (ks : List (Key × V)) (Q : EK) (Q' : VK), Wd K H (Hid B p) m → H p = some (.dK []) → (H0 : Hp) → (m0 : Mu) → H0 p = none → Wd K H0 B m0 → Step H0 m0 H m → Repk K H (Ban (Hid B p) m) kvs ks → fin kvs m Q → PostE K B H0 m0 Q Q' → Q' (.ref p) (upd H p (.dK ks))) :
    SE K (tDisp trs) (aDispW t fin) := by
  intro B δ m Q σ H W E h Q' k p hp
  obtain ⟨Wn, cn⟩ := W.hideNew (o := .dK []) hp
  have stn : Step H m (upd H p (.dK [])) m := Step.new hp
  refine sp (Hid B p) δ m _ σ _ Wn (E.carry cn) h _ fun ps m1 vs H1 s1 W1 r ⟨kvs, e, hl, q⟩ => ?_
  have hm : m p = none := (W.free hp).1
  have h1 : H1 p = some (.dK []) := (s1 p _ upd_same hm).1
  subst e
  obtain ⟨ks, rfl, rk⟩ := disp_rep r
  refine ⟨h1, ks, rfl, by rw [repk_len rk]; exact hl, ?_⟩
  exact hf B m1 H1 p _ _ Q Q' W1 h1 H m hp W (stn.trans s1) (repk_merge rk (repk_nil.mpr rfl)) q k
theorem disp_fresh {K : PySem.W.Frag} {B : Addr → Prop} {m m0 : Mu} {H H0 : Hp} {p : Addr} {ks : List (Key × V)} (W1 : Wd K H (Hid B p) m) (h1 : H p = some (.dK [])) (hp : H0 p = none) (st : Step H0 m0 H m) : Step H0 m0 (upd H p (.dK ks)) m ∧ Wd K (upd H p (.dK ks)) (Hid B p) m :=
  ⟨fun x o e n => by
    have ne : x ≠ p := ne_of_none e hp
    rw [upd_ne ne]; exact st x o e n, W1.hidden fun x e => by rw [h1] at e; cases e⟩
theorem ae_disp {keys : List (Option Expr)} {values : List Expr} {t : List (AEt × AEt)} (h : APs X pos keys values t) (hall : keys.all (·.isSome) = true := by rfl) (hl : keys.length = values.length := by rfl) (h0 : keys ≠ [] := by intro z; cases z) (h15 : keys.length ≤ 15 := by decide) : AE X (.Dict keys values pos) (aDisp t) :=
  let ⟨_, p, s⟩ := h.ex
  ⟨_, pe_disp p hall hl h0 h15, disp_sound s fun B m H p kvs ks Q Q' W1 h1 H0 m0 hp W st rk q k => by
    obtain ⟨st2, W2⟩ := disp_fresh (ks := ks) W1 h1 hp st
    have hm : m p = none := (W1.hid p (.inr rfl)).2
    exact k _ m _ _ st2 W2.unhide (rep_dct.mpr ⟨p, ks, rfl, ⟨upd_same, fun z => z.elim (fun b => (W.hid p b).1 hp) fun z => z hm⟩, Repk.carry carry_unhide _ _ (Repk.carry carry_hidden _ _ rk)⟩) q⟩
/-! ### d.update(e) -/
/-! ### isinstance(x, (A, B)) -/
def rcIsi2 : SpD := fun ds m Q => ∃ x a b t, ds = [x, .tup [.ty a, .ty b]] ∧ a ∈ ["str", "int", "bool", "tuple", "list"] ∧ b ∈ ["str", "int", "bool", "tuple", "list"] ∧ tyD m x = some t ∧ Q (.bl (isB t a || isB t b)) m
/-! ### max(xs, default=n) of ints -/
def rcMaxD (n0 : Int) : SpD := fun ds m Q => ∃ (x : D) (ns : List Int), ds = [x] ∧ lstOf m x = some (ns.map D.int) ∧ Q (.int (match ns with | [] => n0 | n :: r => r.foldl max n)) m
def aMaxD (n0 : Int) (t : AEt) : AEt := fun δ m Q => t δ m fun x m1 => rcMaxD n0 [x] m1 Q
end
end L3
/-! L3n: defs that forget what they kept for themselves; loops over lists of unknown length. -/
namespace L3
open PySem PySem.Spec PyProof.Rows L2
/-- less is known of the store -/
def Sub (m2 m1 : Mu) : Prop := ∀ a c, m2 a = some c → m1 a = some c
theorem Sub.refl (m : Mu) : Sub m m := fun _ _ h => h
theorem Sub.trans {a b c : Mu} (h : Sub a b) (g : Sub b c) : Sub a c := fun x d e => g x d (h x d e)
theorem Sub.non {m2 m1 : Mu} (h : Sub m2 m1) {a : Addr} (e : m1 a = none) : m2 a = none := by
  cases q : m2 a with
  | none => rfl
  | some c => have := h a c q; rw [e] at this; cases this
theorem Sub.put {m : Mu} {p : Addr} {c : Cell} (h : m p = none) : Sub m (m.put p c) := fun a d e => by
  have ne : a ≠ p := fun z => by subst z; rw [h] at e; cases e
  rw [Mu.put_ne ne]; exact e
theorem ban_sub {B : Addr → Prop} {m2 m1 : Mu} (h : Sub m2 m1) {a : Addr} (z : Ban B m2 a) : Ban B m1 a := z.imp id fun n e => n (h.non e)
theorem carry_sub {H : Hp} {B : Addr → Prop} {m2 m1 : Mu} (h : Sub m2 m1) : Carry H (Ban B m1) H (Ban B m2) := fun x o e n => ⟨e, fun z => n (ban_sub h z)⟩
theorem Wd.sub {K : PySem.W.Frag} {H : Hp} {B : Addr → Prop} {m1 m2 : Mu} (W : Wd K H B m1) (h : Sub m2 m1) : Wd K H B m2 :=
  ⟨fun a c e => CellOk.carry (carry_sub h) (fun o q => q) (fun dx q n => ⟨q, h.non n⟩) (W.cell a c (h a c e)), fun a b => let ⟨p, q⟩ := W.hid a b; ⟨p, h.non q⟩⟩
theorem step_sub {H : Hp} {m1 m2 : Mu} (h : Sub m2 m1) : Step H m1 H m2 := fun x o e n => ⟨e, h.non n⟩
/-- what a def hands on: it may forget, and freeze a list that it made -/
def Fz (Q : EK) : EK := fun d m1 => (∃ m2, Sub m2 m1 ∧ Q d m2) ∨ ∃ p ds m2, d = .ref p ∧ m1 p = some (.lst ds) ∧ Sub m2 (m1.del p) ∧ Q (.lst ds) m2
theorem PostE.fz {K : PySem.W.Frag} {B : Addr → Prop} {H : Hp} {m : Mu} {Q : EK} {Q' : VK} (k : PostE K B H m Q Q') : PostE K B H m (Fz Q) Q' := fun d m1 v H1 st W r q => by
  rcases q with ⟨m2, hs, q⟩ | ⟨p, ds, m2, rfl, hp, hs, q⟩
  · exact k d m2 v H1 (st.trans (step_sub hs)) (W.sub hs) (Rep.carry (carry_sub hs) _ _ r) q
  · obtain ⟨vs, hv, rs⟩ := W.cell p _ hp
    have r2 : Rep K H1 (Ban B (m1.del p)) (.lst ds) v := rep_lst.mpr ⟨p, vs, rep_ref.mp r, ⟨hv, not_ban_del W hp⟩, Reps.carry carry_del _ _ rs⟩
    exact k _ m2 v H1 (st.trans (step_del.trans (step_sub hs))) ((W.del p).sub hs) (Rep.carry (carry_sub hs) _ _ r2) q
theorem Fz.now {Q : EK} {d : D} {m : Mu} (q : Q d m) : Fz Q d m := .inl ⟨m, Sub.refl m, q⟩
theorem Fz.to {Q : EK} {d : D} {m m1 : Mu} (h : Sub m m1) (q : Q d m) : Fz Q d m1 := .inl ⟨m, h, q⟩
theorem Fz.lst {Q : EK} {p : Addr} {ds : List D} {m m1 : Mu} (hp : m1 p = some (.lst ds)) (h : Sub m m1) (hn : m p = none) (q : Q (.lst ds) m) : Fz Q (.ref p) m1 := .inr ⟨p, ds, m, rfl, hp, fun a c e => by
  have ne : a ≠ p := fun z => by subst z; rw [hn] at e; cases e
  rw [Mu.del_ne ne]; exact h a c e, q⟩
/-- the ends of a def's body -/
abbrev endsZ (Q : EK) : AEnds := { nx := fun _ m' => Fz Q .non m', rt := Fz Q }
theorem fnd_ofZ {P : Program} {w : World} {K : PySem.W.Frag} {mg : Str → Option Value} {base : Heap} {x : Str} {st : Stmt} {N ps : List Str} {k : Nat} {sp : SpD} (F : DefT K mg x st ps) (S : FnScope N ps (defScope st)) (hlen : ∀ ds m Q, sp ds m Q → ds.length = ps.length)
    (hbody : ∀ (f : Addr) (cdv : Value) (A : Around) (outer : List Env) (s : Shared) (H : Hp) (E : XK), Room k (A.deeper (envOfC x (defScope st) s.heap.objs.size f cdv)) →
      ∃ t, ASs (cxOf L2.CX0 P w K mg base N x (defScope st) f cdv A outer s H E).nox (defBody st) t ∧ ∀ ds m Q, sp ds m Q → t (endsZ Q) (startD N ds) m) : FnD P w K mg base x (k + 1) sp := by
  obtain ⟨f, fd, F, hm, hb⟩ := F.ex
  refine ⟨f, fd, ps, F.ok S (fun vs H Q E ⟨B, m, ds, Qd, W, r, q, _⟩ => by rw [r.len]; exact hlen _ _ _ q) (fun cdv A outer s H vs Q E hr ⟨B, m, ds, Qd, W, r, q, k⟩ => ?_), hm, F.kp, hb⟩
  obtain ⟨t, h, hq⟩ := hbody f cdv A outer s H E hr
  obtain ⟨ts, ps', ss⟩ := h.ex
  refine ⟨ts, PSs.nox ps', ss B _ (startD N ds) m _ H W (EnvD.start N r) (hq ds m Qd q) _ ⟨fun δ' m' σ' H' st W' E' q' => k.fz _ m' _ H' st W' (rep_non.mpr rfl) q', k.fz, fun _ _ _ _ _ _ _ q' => q'.elim, fun _ _ _ _ _ _ _ q' => q'.elim⟩⟩
/-! ### loops -/
/-- one turn of a comprehension -/
def lcStep (g : AGt) (tt : ATt) (te : AEt) (δw : Dt) (d : D) (m : Mu) (Q : Option D → Mu → Prop) : Prop := g d δw m fun δ2 m2 => tt δ2 m2 fun b m3 => if b = true then te δ2 m3 fun y m4 => Q (some y) m4 else Q none m3
theorem lcGo_cons {g : AGt} {tt : ATt} {te : AEt} {δw : Dt} {Q : EK} {d : D} {ds acc : List D} {m : Mu} : lcGo g tt te δw Q (d :: ds) acc m = lcStep g tt te δw d m fun o m' => lcGo g tt te δw Q ds (acc ++ o.toList) m' := by
  show g d δw m _ = g d δw m _
  congr 1
  funext δ2 m2
  congr 1
  funext b m3
  simp
/-- each item by itself, the store as it is -/
theorem lc_pure {g : AGt} {tt : ATt} {te : AEt} {δw : Dt} {Q : EK} (f : D → Option D) {m : Mu} : ∀ {ds acc : List D}, (∀ d ∈ ds, ∀ R : Option D → Mu → Prop, R (f d) m → lcStep g tt te δw d m R) → Q (.lst (acc ++ ds.filterMap f)) m → lcGo g tt te δw Q ds acc m
  | [], acc, _, q => by
    show Q (.lst acc) m
    simpa using q
  | d :: ds, acc, h, q => by
    rw [lcGo_cons]
    refine h d List.mem_cons_self _ (lc_pure f (fun x hx => h x (List.mem_cons_of_mem _ hx)) ?_)
    rw [List.filterMap_cons] at q
    cases e : f d with
    | none => rw [e] at q; simpa using q
    | some y => rw [e] at q; simpa using q
/-- .. with what holds along the way -/
theorem lc_inv {g : AGt} {tt : ATt} {te : AEt} {δw : Dt} {Q : EK} (I : List D → List D → Mu → Prop) (h : ∀ d ds acc m, I (d :: ds) acc m → ∀ R : Option D → Mu → Prop, (∀ o m', I ds (acc ++ o.toList) m' → R o m') → lcStep g tt te δw d m R) (q : ∀ acc m, I [] acc m → Q (.lst acc) m) :
    ∀ {ds acc : List D} {m : Mu}, I ds acc m → lcGo g tt te δw Q ds acc m
  | [], acc, m, i => q acc m i
  | d :: ds, acc, m, i => by
    rw [lcGo_cons]
    exact h d ds acc m i _ fun o m' i' => lc_inv I h q i'
theorem for_inv {g : AGt} {tb : ASt} {Z : AEnds} (I : List D → Dt → Mu → Prop) (h : ∀ d ds δ m, I (d :: ds) δ m → ∀ nx : Dt → Mu → Prop, (∀ δ' m', I ds δ' m' → nx δ' m') → g d δ m fun δ2 m2 => tb { Z with nx := nx, ct := nx, bk := Z.nx } δ2 m2) (q : ∀ δ m, I [] δ m → Z.nx δ m) :
    ∀ {ds : List D} {δ : Dt} {m : Mu}, I ds δ m → forGo g tb Z ds δ m
  | [], δ, m, i => q δ m i
  | d :: ds, δ, m, i => h d ds δ m i _ fun δ' m' i' => for_inv I h q i'
end L3
/-! L4: the things the laws speak of, with Lean types: kinds, bodies, parts. -/
namespace L3
open PySem PySem.Spec PyProof.Rows L2
theorem fnd_never {P : Program} {w : World} {K : PySem.W.Frag} {mg : Str → Option Value} {base : Heap} {x : Str} {st : Stmt} {N ps : List Str} {k : Nat} {sp : SpD} (F : DefT K mg x st ps) (S : FnScope N ps (defScope st)) (h : ∀ ds m Q, ¬ sp ds m Q) : FnD P w K mg base x (k + 1) sp :=
  fnd_ofZ F S (fun ds m Q q => (h _ _ _ q).elim) fun f cdv A outer s H E hr => ⟨_, ass_never, fun ds m Q q => (h _ _ _ q).elim⟩
inductive Kd where
  | n | t | l
  deriving DecidableEq
def Kd.s : Kd → Str
  | .n => "number"
  | .t => "truth"
  | .l => "list"
inductive W1 where
  | nt | fst | rst | many
  deriving DecidableEq
inductive W2 where
  | plus | less | times | below | same | and | put | thn
  deriving DecidableEq
def W1.s : W1 → Str
  | .nt => "not"
  | .fst => "first"
  | .rst => "rest"
  | .many => "many"
def W2.s : W2 → Str
  | .plus => "plus"
  | .less => "less"
  | .times => "times"
  | .below => "below"
  | .same => "same"
  | .and => "and"
  | .put => "put"
  | .thn => "then"
/-- a text of one sign -/
def sg (c : Nat) : Str := ⟨#[c]⟩
inductive Bd where
  | num (i : Int) | tru (b : Bool) | emp | arg | cel (c : Nat) | un (w : W1) (a : Bd) | bin (w : W2) (a b : Bd) | ite (a b c : Bd) | set (c : Nat) (a : Bd) | cal (d : Nat) (a : Bd)
  deriving DecidableEq
def Bd.enc : Bd → D
  | .num i => .tup [.str "number", .int i]
  | .tru b => .tup [.str "truth", .bl b]
  | .emp => .tup [.str "empty"]
  | .arg => .tup [.str "argument"]
  | .cel c => .tup [.str "cell", .str (sg c)]
  | .un w a => .tup [.str w.s, a.enc]
  | .bin w a b => .tup [.str w.s, a.enc, b.enc]
  | .ite a b c => .tup [.str "if", a.enc, b.enc, c.enc]
  | .set c a => .tup [.str "set", .str (sg c), a.enc]
  | .cal d a => .tup [.str "call", .str (sg d), a.enc]
def Bd.words : Bd → Nat
  | .un _ a => 1 + a.words
  | .bin _ a b => 1 + a.words + b.words
  | .ite a b c => 1 + a.words + b.words + c.words
  | .set _ a => 1 + a.words
  | .cal _ a => 1 + a.words
  | _ => 1
def Bd.dep : Bd → Nat
  | .un _ a => a.dep + 1
  | .bin _ a b => max a.dep b.dep + 1
  | .ite a b c => max a.dep (max b.dep c.dep) + 1
  | .set _ a => a.dep + 1
  | .cal _ a => a.dep + 1
  | _ => 1
def cellC (c : Nat) : Prop := c ∈ [112, 113, 114, 115]
def deedC (c : Nat) : Prop := c ∈ [97, 98, 99, 100, 101, 102, 103, 104]
def partC (c : Nat) : Prop := c ∈ [65, 66, 67, 68, 69, 70]
instance (c : Nat) : Decidable (cellC c) := by unfold cellC; infer_instance
instance (c : Nat) : Decidable (deedC c) := by unfold deedC; infer_instance
instance (c : Nat) : Decidable (partC c) := by unfold partC; infer_instance
def Bd.wf : Bd → Prop
  | .num i => -99 ≤ i ∧ i ≤ 99
  | .cel c => cellC c
  | .un _ a => a.wf
  | .bin _ a b => a.wf ∧ b.wf
  | .ite a b c => a.wf ∧ b.wf ∧ c.wf
  | .set c a => cellC c ∧ a.wf
  | .cal d a => deedC d ∧ a.wf
  | _ => True
theorem Bd.dep_pos (b : Bd) : 1 ≤ b.dep := by cases b <;> simp [Bd.dep]
/-- data that == can look at -/
def okD (d : D) (n : Nat) : Prop := d.plain = true ∧ d.pd.canLay0 = true ∧ d.pd.depth ≤ n
theorem okD.eq {d : D} {n : Nat} (h : okD d n) (hn : n ≤ 64) : eqOk d = true := by
  obtain ⟨a, b, c⟩ := h
  unfold eqOk SeqAt.shaped
  rw [a, b, decide_eq_true (Nat.le_trans c hn)]; rfl
theorem okD.mono {d : D} {n k : Nat} (h : okD d n) (hn : n ≤ k) : okD d k := ⟨h.1, h.2.1, Nat.le_trans h.2.2 hn⟩
theorem okD_str {x : Str} {n : Nat} (h : PyData.strOk x = true) : okD (.str x) n := ⟨rfl, by simpa only [D.pd, PyData.canLay0] using h, by simp [D.pd, PyData.depth]⟩
theorem okD_int {x : Int} {n : Nat} : okD (.int x) n := ⟨rfl, by simp [D.pd, PyData.canLay0], by simp [D.pd, PyData.depth]⟩
theorem okD_bl {x : Bool} {n : Nat} : okD (.bl x) n := ⟨rfl, by simp [D.pd, PyData.canLay0], by simp [D.pd, PyData.depth]⟩
theorem okD_non {n : Nat} : okD .non n := ⟨rfl, by simp [D.pd, PyData.canLay0], by simp [D.pd, PyData.depth]⟩
theorem oks_mk : ∀ {ds : List D} {n : Nat}, (∀ d ∈ ds, okD d n) → plains ds = true ∧ PyData.canLayAll0 (pds ds) = true ∧ PyData.depthAll (pds ds) ≤ n
  | [], n, _ => by simp [plains, pds, PyData.canLayAll0, PyData.depthAll]
  | d :: ds, n, h => by
    obtain ⟨a, b, c⟩ := h d List.mem_cons_self
    obtain ⟨a2, b2, c2⟩ := oks_mk fun x hx => h x (List.mem_cons_of_mem _ hx)
    refine ⟨by simp [plains, a, a2], by simp [pds, PyData.canLayAll0, b, b2], ?_⟩
    simp only [pds, PyData.depthAll]
    omega
theorem okD_tup {ds : List D} {n : Nat} (h : ∀ d ∈ ds, okD d n) : okD (.tup ds) (n + 1) := by
  obtain ⟨a, b, c⟩ := oks_mk h
  exact ⟨by simpa only [D.plain] using a, by simpa only [D.pd, PyData.canLay0] using b, by simp only [D.pd, PyData.depth]; omega⟩
theorem okD_lst {ds : List D} {n : Nat} (h : ∀ d ∈ ds, okD d n) : okD (.lst ds) (n + 1) := by
  obtain ⟨a, b, c⟩ := oks_mk h
  exact ⟨by simpa only [D.plain] using a, by simpa only [D.pd, PyData.canLay0] using b, by simp only [D.pd, PyData.depth]; omega⟩
theorem sg_ok {c : Nat} (h : c < 1114112) : PyData.strOk (sg c) = true := by simp [PyData.strOk, sg, h]
theorem okD_sg {c n : Nat} (h : c < 1114112) : okD (.str (sg c)) n := okD_str (sg_ok h)
theorem cellC.lt {c : Nat} (h : cellC c) : c < 1114112 := by simp [cellC] at h; omega
theorem deedC.lt {c : Nat} (h : deedC c) : c < 1114112 := by simp [deedC] at h; omega
theorem partC.lt {c : Nat} (h : partC c) : c < 1114112 := by simp [partC] at h; omega
theorem Kd.ok (k : Kd) : PyData.strOk k.s = true := by cases k <;> decide +kernel
theorem W1.ok (k : W1) : PyData.strOk k.s = true := by cases k <;> decide +kernel
theorem W2.ok (k : W2) : PyData.strOk k.s = true := by cases k <;> decide +kernel
theorem Bd.okD : ∀ (b : Bd), b.wf → L3.okD b.enc b.dep
  | .num i, _ => okD_tup (by simp; exact ⟨okD_str (by decide +kernel), okD_int⟩)
  | .tru i, _ => okD_tup (by simp; exact ⟨okD_str (by decide +kernel), okD_bl⟩)
  | .emp, _ => okD_tup (by simp; exact okD_str (by decide +kernel))
  | .arg, _ => okD_tup (by simp; exact okD_str (by decide +kernel))
  | .cel c, h => okD_tup (by simp; exact ⟨okD_str (by decide +kernel), okD_sg (cellC.lt h)⟩)
  | .un w a, h => okD_tup (by simp; exact ⟨okD_str w.ok, Bd.okD a h⟩)
  | .bin w a b, h => okD_tup (by simp; exact ⟨okD_str w.ok, (Bd.okD a h.1).mono (by omega), (Bd.okD b h.2).mono (by omega)⟩)
  | .ite a b c, h => okD_tup (by simp; exact ⟨okD_str (by decide +kernel), (Bd.okD a h.1).mono (by omega), (Bd.okD b h.2.1).mono (by omega), (Bd.okD c h.2.2).mono (by omega)⟩)
  | .set c a, h => okD_tup (by simp; exact ⟨okD_str (by decide +kernel), okD_sg (cellC.lt h.1), Bd.okD a h.2⟩)
  | .cal c a, h => okD_tup (by simp; exact ⟨okD_str (by decide +kernel), okD_sg (deedC.lt h.1), Bd.okD a h.2⟩)
theorem Bd.tup (b : Bd) : ∃ x ds, b.enc = .tup (.str x :: ds) := by cases b <;> exact ⟨_, _, rfl⟩
/-! ### kinds -/
def lk {α : Type} (l : List (Nat × α)) (d : Nat) : Option α := (l.find? fun p => decide (p.1 = d)).map (·.2)
abbrev Gv := List (Nat × (Kd × Kd))
abbrev Cv := List (Nat × Kd)
def W1.takes : W1 → Kd
  | .nt => .t
  | _ => .l
def W1.tells : W1 → Kd
  | .nt => .t
  | .rst => .l
  | _ => .n
def W2.kind : W2 → Kd → Kd → Option Kd
  | .plus, a, b => if a = .n ∧ b = .n then some .n else none
  | .less, a, b => if a = .n ∧ b = .n then some .n else none
  | .times, a, b => if a = .n ∧ b = .n then some .n else none
  | .below, a, b => if a = .n ∧ b = .n then some .t else none
  | .same, a, b => if a = b then some .t else none
  | .and, a, b => if a = .t ∧ b = .t then some .t else none
  | .put, a, b => if a = .n ∧ b = .l then some .l else none
  | .thn, _, b => some b
def Bd.kind (tk : Kd) (gv : Gv) (cl : Cv) : Bd → Option Kd
  | .num _ => some .n
  | .tru _ => some .t
  | .emp => some .l
  | .arg => some tk
  | .cel c => lk cl c
  | .un w a => (a.kind tk gv cl).bind fun k => if k = w.takes then some w.tells else none
  | .bin w a b => (a.kind tk gv cl).bind fun k => (b.kind tk gv cl).bind fun j => w.kind k j
  | .ite a b c => (a.kind tk gv cl).bind fun k => (b.kind tk gv cl).bind fun i => (c.kind tk gv cl).bind fun j => if k = .t ∧ i = j then some i else none
  | .set c a => (a.kind tk gv cl).bind fun k => if lk cl c = some k then some k else none
  | .cal d a => (a.kind tk gv cl).bind fun k => (lk gv d).bind fun p => if p.1 = k then some p.2 else none
def kdD : Option Kd → D
  | none => .non
  | some k => .str k.s
def gvD (g : Gv) : List (Key × D) := g.map fun p => (.inr (sg p.1), .tup [.str p.2.1.s, .str p.2.2.s])
def cvD (c : Cv) : List (Key × D) := c.map fun p => (.inr (sg p.1), .str p.2.s)
theorem sg_inj {c d : Nat} : (sg c = sg d) = (c = d) := by simp [sg]
theorem getK_gv (d : Nat) : ∀ g : Gv, getK (gvD g) (.inr (sg d)) = (lk g d).map fun p => .tup [.str p.1.s, .str p.2.s]
  | [] => rfl
  | p :: g => by
    have ih := getK_gv d g
    unfold getK gvD lk at ih ⊢
    rw [List.map_cons, List.find?_cons, List.find?_cons]
    by_cases e : p.1 = d
    · subst e; simp
    · have e2 : ¬ sg p.1 = sg d := by rw [sg_inj]; exact e
      simp only [Sum.inr.injEq, e, e2, decide_false]
      exact ih
theorem getK_cv (d : Nat) : ∀ g : Cv, getK (cvD g) (.inr (sg d)) = (lk g d).map fun p => .str p.s
  | [] => rfl
  | p :: g => by
    have ih := getK_cv d g
    unfold getK cvD lk at ih ⊢
    rw [List.map_cons, List.find?_cons, List.find?_cons]
    by_cases e : p.1 = d
    · subst e; simp
    · have e2 : ¬ sg p.1 = sg d := by rw [sg_inj]; exact e
      simp only [Sum.inr.injEq, e, e2, decide_false]
      exact ih
end L3
/-! L5: more execution lemmas (partly printed). -/
namespace L3
open PySem PySem.Spec PyProof.Rows L2
section
variable {δ : Dt} {m : Mu} {Q : EK} {n : Nat} {d : D} {o : Option D}
theorem isi_str_str {z : Str} : rcIsi [.str z, .ty "str"] m Q = Q (.bl true) m := ex_isi (by decide) rfl
theorem isi_str_int {z : Str} : rcIsi [.str z, .ty "int"] m Q = Q (.bl false) m := ex_isi (by decide) rfl
theorem isi_str_bool {z : Str} : rcIsi [.str z, .ty "bool"] m Q = Q (.bl false) m := ex_isi (by decide) rfl
theorem isi_str_tuple {z : Str} : rcIsi [.str z, .ty "tuple"] m Q = Q (.bl false) m := ex_isi (by decide) rfl
theorem isi_str_list {z : Str} : rcIsi [.str z, .ty "list"] m Q = Q (.bl false) m := ex_isi (by decide) rfl
theorem isi_int_str {z : Int} : rcIsi [.int z, .ty "str"] m Q = Q (.bl false) m := ex_isi (by decide) rfl
theorem isi_int_int {z : Int} : rcIsi [.int z, .ty "int"] m Q = Q (.bl true) m := ex_isi (by decide) rfl
theorem isi_int_bool {z : Int} : rcIsi [.int z, .ty "bool"] m Q = Q (.bl false) m := ex_isi (by decide) rfl
theorem isi_int_tuple {z : Int} : rcIsi [.int z, .ty "tuple"] m Q = Q (.bl false) m := ex_isi (by decide) rfl
theorem isi_int_list {z : Int} : rcIsi [.int z, .ty "list"] m Q = Q (.bl false) m := ex_isi (by decide) rfl
theorem isi_bl_str {z : Bool} : rcIsi [.bl z, .ty "str"] m Q = Q (.bl false) m := ex_isi (by decide) rfl
theorem isi_bl_int {z : Bool} : rcIsi [.bl z, .ty "int"] m Q = Q (.bl true) m := ex_isi (by decide) rfl
theorem isi_bl_bool {z : Bool} : rcIsi [.bl z, .ty "bool"] m Q = Q (.bl true) m := ex_isi (by decide) rfl
theorem isi_bl_tuple {z : Bool} : rcIsi [.bl z, .ty "tuple"] m Q = Q (.bl false) m := ex_isi (by decide) rfl
theorem isi_bl_list {z : Bool} : rcIsi [.bl z, .ty "list"] m Q = Q (.bl false) m := ex_isi (by decide) rfl
theorem isi_non_str : rcIsi [.non, .ty "str"] m Q = Q (.bl false) m := ex_isi (by decide) rfl
theorem isi_non_int : rcIsi [.non, .ty "int"] m Q = Q (.bl false) m := ex_isi (by decide) rfl
theorem isi_non_bool : rcIsi [.non, .ty "bool"] m Q = Q (.bl false) m := ex_isi (by decide) rfl
theorem isi_non_tuple : rcIsi [.non, .ty "tuple"] m Q = Q (.bl false) m := ex_isi (by decide) rfl
theorem isi_non_list : rcIsi [.non, .ty "list"] m Q = Q (.bl false) m := ex_isi (by decide) rfl
theorem isi_tup_str {z : List D} : rcIsi [.tup z, .ty "str"] m Q = Q (.bl false) m := ex_isi (by decide) rfl
theorem isi_tup_int {z : List D} : rcIsi [.tup z, .ty "int"] m Q = Q (.bl false) m := ex_isi (by decide) rfl
theorem isi_tup_bool {z : List D} : rcIsi [.tup z, .ty "bool"] m Q = Q (.bl false) m := ex_isi (by decide) rfl
theorem isi_tup_tuple {z : List D} : rcIsi [.tup z, .ty "tuple"] m Q = Q (.bl true) m := ex_isi (by decide) rfl
theorem isi_tup_list {z : List D} : rcIsi [.tup z, .ty "list"] m Q = Q (.bl false) m := ex_isi (by decide) rfl
theorem isi_lst_str {z : List D} : rcIsi [.lst z, .ty "str"] m Q = Q (.bl false) m := ex_isi (by decide) rfl
theorem isi_lst_int {z : List D} : rcIsi [.lst z, .ty "int"] m Q = Q (.bl false) m := ex_isi (by decide) rfl
theorem isi_lst_bool {z : List D} : rcIsi [.lst z, .ty "bool"] m Q = Q (.bl false) m := ex_isi (by decide) rfl
theorem isi_lst_tuple {z : List D} : rcIsi [.lst z, .ty "tuple"] m Q = Q (.bl false) m := ex_isi (by decide) rfl
theorem isi_lst_list {z : List D} : rcIsi [.lst z, .ty "list"] m Q = Q (.bl true) m := ex_isi (by decide) rfl
theorem isi_dct_str {z : List (Key × D)} : rcIsi [.dct z, .ty "str"] m Q = Q (.bl false) m := ex_isi (by decide) rfl
theorem isi_dct_int {z : List (Key × D)} : rcIsi [.dct z, .ty "int"] m Q = Q (.bl false) m := ex_isi (by decide) rfl
theorem isi_dct_bool {z : List (Key × D)} : rcIsi [.dct z, .ty "bool"] m Q = Q (.bl false) m := ex_isi (by decide) rfl
theorem isi_dct_tuple {z : List (Key × D)} : rcIsi [.dct z, .ty "tuple"] m Q = Q (.bl false) m := ex_isi (by decide) rfl
theorem isi_dct_list {z : List (Key × D)} : rcIsi [.dct z, .ty "list"] m Q = Q (.bl false) m := ex_isi (by decide) rfl
theorem isi2_str {z : Str} : rcIsi2 [.str z, .tup [.ty "tuple", .ty "list"]] m Q = Q (.bl false) m := by
  unfold rcIsi2
  refine propext ⟨?_, fun q => ⟨.str z, "tuple", "list", "str", rfl, by decide, by decide, rfl, q⟩⟩
  rintro ⟨x, a, b, t, e, _, _, h, q⟩
  injection e with e1 e2
  subst e1
  injection e2 with e2 _
  injection e2 with e2
  injection e2 with e3 e4
  injection e4 with e4 _
  injection e3 with e3
  injection e4 with e4
  subst e3 e4
  cases h
  exact q
theorem isi2_int {z : Int} : rcIsi2 [.int z, .tup [.ty "tuple", .ty "list"]] m Q = Q (.bl false) m := by
  unfold rcIsi2
  refine propext ⟨?_, fun q => ⟨.int z, "tuple", "list", "int", rfl, by decide, by decide, rfl, q⟩⟩
  rintro ⟨x, a, b, t, e, _, _, h, q⟩
  injection e with e1 e2
  subst e1
  injection e2 with e2 _
  injection e2 with e2
  injection e2 with e3 e4
  injection e4 with e4 _
  injection e3 with e3
  injection e4 with e4
  subst e3 e4
  cases h
  exact q
theorem isi2_bl {z : Bool} : rcIsi2 [.bl z, .tup [.ty "tuple", .ty "list"]] m Q = Q (.bl false) m := by
  unfold rcIsi2
  refine propext ⟨?_, fun q => ⟨.bl z, "tuple", "list", "bool", rfl, by decide, by decide, rfl, q⟩⟩
  rintro ⟨x, a, b, t, e, _, _, h, q⟩
  injection e with e1 e2
  subst e1
  injection e2 with e2 _
  injection e2 with e2
  injection e2 with e3 e4
  injection e4 with e4 _
  injection e3 with e3
  injection e4 with e4
  subst e3 e4
  cases h
  exact q
theorem isi2_non : rcIsi2 [.non, .tup [.ty "tuple", .ty "list"]] m Q = Q (.bl false) m := by
  unfold rcIsi2
  refine propext ⟨?_, fun q => ⟨.non, "tuple", "list", "NoneType", rfl, by decide, by decide, rfl, q⟩⟩
  rintro ⟨x, a, b, t, e, _, _, h, q⟩
  injection e with e1 e2
  subst e1
  injection e2 with e2 _
  injection e2 with e2
  injection e2 with e3 e4
  injection e4 with e4 _
  injection e3 with e3
  injection e4 with e4
  subst e3 e4
  cases h
  exact q
theorem isi2_tup {z : List D} : rcIsi2 [.tup z, .tup [.ty "tuple", .ty "list"]] m Q = Q (.bl true) m := by
  unfold rcIsi2
  refine propext ⟨?_, fun q => ⟨.tup z, "tuple", "list", "tuple", rfl, by decide, by decide, rfl, q⟩⟩
  rintro ⟨x, a, b, t, e, _, _, h, q⟩
  injection e with e1 e2
  subst e1
  injection e2 with e2 _
  injection e2 with e2
  injection e2 with e3 e4
  injection e4 with e4 _
  injection e3 with e3
  injection e4 with e4
  subst e3 e4
  cases h
  exact q
theorem isi2_lst {z : List D} : rcIsi2 [.lst z, .tup [.ty "tuple", .ty "list"]] m Q = Q (.bl true) m := by
  unfold rcIsi2
  refine propext ⟨?_, fun q => ⟨.lst z, "tuple", "list", "list", rfl, by decide, by decide, rfl, q⟩⟩
  rintro ⟨x, a, b, t, e, _, _, h, q⟩
  injection e with e1 e2
  subst e1
  injection e2 with e2 _
  injection e2 with e2
  injection e2 with e3 e4
  injection e4 with e4 _
  injection e3 with e3
  injection e4 with e4
  subst e3 e4
  cases h
  exact q
theorem isi2_dct {z : List (Key × D)} : rcIsi2 [.dct z, .tup [.ty "tuple", .ty "list"]] m Q = Q (.bl false) m := by
  unfold rcIsi2
  refine propext ⟨?_, fun q => ⟨.dct z, "tuple", "list", "dict", rfl, by decide, by decide, rfl, q⟩⟩
  rintro ⟨x, a, b, t, e, _, _, h, q⟩
  injection e with e1 e2
  subst e1
  injection e2 with e2 _
  injection e2 with e2
  injection e2 with e3 e4
  injection e4 with e4 _
  injection e3 with e3
  injection e4 with e4
  subst e3 e4
  cases h
  exact q
theorem sz_0 : (0 ≤ sizeLine) = True := by rw [sizeLine_eq]; simp
theorem sz_1 : (1 ≤ sizeLine) = True := by rw [sizeLine_eq]; simp
theorem sz_2 : (2 ≤ sizeLine) = True := by rw [sizeLine_eq]; simp
theorem sz_3 : (3 ≤ sizeLine) = True := by rw [sizeLine_eq]; simp
theorem sz_4 : (4 ≤ sizeLine) = True := by rw [sizeLine_eq]; simp
theorem sz_5 : (5 ≤ sizeLine) = True := by rw [sizeLine_eq]; simp
theorem sz_6 : (6 ≤ sizeLine) = True := by rw [sizeLine_eq]; simp
theorem sz_7 : (7 ≤ sizeLine) = True := by rw [sizeLine_eq]; simp
theorem sz_8 : (8 ≤ sizeLine) = True := by rw [sizeLine_eq]; simp
theorem sz_9 : (9 ≤ sizeLine) = True := by rw [sizeLine_eq]; simp
theorem sz_10 : (10 ≤ sizeLine) = True := by rw [sizeLine_eq]; simp
theorem sz_11 : (11 ≤ sizeLine) = True := by rw [sizeLine_eq]; simp
theorem sz_12 : (12 ≤ sizeLine) = True := by rw [sizeLine_eq]; simp
theorem sz_13 : (13 ≤ sizeLine) = True := by rw [sizeLine_eq]; simp
theorem sz_14 : (14 ≤ sizeLine) = True := by rw [sizeLine_eq]; simp
theorem sz_15 : (15 ≤ sizeLine) = True := by rw [sizeLine_eq]; simp
theorem sz_16 : (16 ≤ sizeLine) = True := by rw [sizeLine_eq]; simp
theorem szl {n : Nat} (h : n ≤ 100000) : n ≤ sizeLine := by rw [sizeLine_eq]; omega
theorem sg_len (c : Nat) : (sg c).length = 1 := rfl
theorem ex_in_sg {c : Nat} {z : Str} {b : Bool} : rhoIn b (.str (sg c)) (.str z) m Q = Q (.bl (b ^^ decide (c ∈ z.cps.toList))) m := ex_in_str
/-- two tuples: == of data that is fine -/
theorem ex_eq_of {x y : D} {b : Bool} (hx : eqOk (rsv m x) = true) (hy : eqOk (rsv m y) = true) (e : eqD (rsv m x) (rsv m y) = b) : rhoEq x y m Q = Q (.bl b) m := by rw [ex_eq hx hy, e]
theorem ok_nil : eqOk (.tup []) = true := by decide +kernel
theorem okl_nil : eqOk (.lst []) = true := by decide +kernel
/-- the signs of the texts that come -/
theorem cps_of (s : String) : (PySem.Str.ofString s).cps.toList = s.toList.map Char.toNat := by
  rw [PySem.Str.ofString_eq_toList]
theorem ofs_inj {a b : String} : (PySem.Str.ofString a = PySem.Str.ofString b) = (a = b) := by
  refine propext ⟨fun h => ?_, fun h => by rw [h]⟩
  have e : a.toList.map Char.toNat = b.toList.map Char.toNat := by rw [← cps_of, ← cps_of, h]
  have inj : ∀ (xs ys : List Char), xs.map Char.toNat = ys.map Char.toNat → xs = ys := by
    intro xs
    induction xs with
    | nil => intro ys h; cases ys with
      | nil => rfl
      | cons _ _ => cases h
    | cons x xs ih => intro ys h; cases ys with
      | nil => cases h
      | cons y ys =>
        rw [List.map_cons, List.map_cons] at h
        injection h with h1 h2
        rw [ih ys h2, Char.toNat_inj.mp h1]
  exact String.toList_inj.mp (inj _ _ e)
end
end L3
/-! L6: execution lemmas about kinds, membership, dicts. -/
namespace L3
open PySem PySem.Spec PyProof.Rows L2
section
variable {δ : Dt} {m : Mu} {Q : EK} {n : Nat} {d : D} {o : Option D}
theorem inD_nil {x : D} : inD x [] = false := rfl
theorem inD_cons {x y : D} {ys : List D} : inD x (y :: ys) = (eqD y x || inD x ys) := rfl
theorem eqD_str {x y : Str} : eqD (.str x) (.str y) = decide (x = y) := by simp only [eqD, D.pd, PyData.eqv]; rfl
theorem eqD_ns {x : Str} : eqD .non (.str x) = false := by simp only [eqD, D.pd, PyData.eqv]
theorem eqD_sn {x : Str} : eqD (.str x) .non = false := by simp only [eqD, D.pd, PyData.eqv]
theorem eqD_nn : eqD .non .non = true := by simp only [eqD, D.pd, PyData.eqv]
theorem fl_str {x : Str} : (D.str x).flat = true := by simp only [D.flat]
theorem fl_non : D.non.flat = true := by simp only [D.flat]
theorem all_fl_nil : ([] : List D).all D.flat = true := by simp
theorem dctOf_dct {ds : List (Key × D)} : dctOf m (.dct ds) = some ds := rfl
theorem keyD_str {x : Str} : keyD (.str x) = some (.inr x) := rfl
theorem ex_in_dcts {x : Str} {ds : List (Key × D)} {b : Bool} : rhoIn b (.str x) (.dct ds) m Q = Q (.bl (b ^^ (getK ds (.inr x)).isSome)) m := ex_in_dct rfl
theorem ex_ix_dcts {ds : List (Key × D)} {x : Str} : rhoIx (.dct ds) (.str x) m Q = ∃ d, getK ds (.inr x) = some d ∧ Q d m := ex_ix_dct rfl
theorem Kd.s_inj {a b : Kd} : (a.s = b.s) = (a = b) := by cases a <;> cases b <;> simp [Kd.s, ofs_inj]
theorem Kd.s_n {a : Kd} : (a.s = PySem.Str.ofString "number") = (a = .n) := Kd.s_inj (b := .n)
theorem Kd.s_t {a : Kd} : (a.s = PySem.Str.ofString "truth") = (a = .t) := Kd.s_inj (b := .t)
theorem Kd.s_l {a : Kd} : (a.s = PySem.Str.ofString "list") = (a = .l) := Kd.s_inj (b := .l)
theorem Kd.s_ne {a : Kd} : (a.s = PySem.Str.ofString "") = False := by cases a <;> simp [Kd.s, ofs_inj]
def ksD (ks : List Kd) : List D := ks.map fun k => .str k.s
theorem ksD_ok (ks : List Kd) : eqOk (.tup (ksD ks)) = true := okD.eq (n := 1) (okD_tup fun d h => by
  obtain ⟨k, _, rfl⟩ := List.mem_map.mp h
  exact okD_str k.ok) (by omega)
theorem eqv_ks : ∀ (ks js : List Kd), PyData.eqvAll (pds (ksD ks)) (pds (ksD js)) = decide (ks = js)
  | [], [] => by simp [ksD, pds, PyData.eqvAll]
  | [], _ :: _ => by simp [ksD, pds, PyData.eqvAll]
  | _ :: _, [] => by simp [ksD, pds, PyData.eqvAll]
  | k :: ks, j :: js => by
    have ih := eqv_ks ks js
    show (PyData.eqv (D.pd (.str k.s)) (D.pd (.str j.s)) && PyData.eqvAll (pds (ksD ks)) (pds (ksD js))) = _
    rw [ih]
    have : PyData.eqv (D.pd (.str k.s)) (D.pd (.str j.s)) = decide (k = j) := by
      rw [show PyData.eqv (D.pd (.str k.s)) (D.pd (.str j.s)) = decide (k.s = j.s) from eqD_str]
      simp only [Kd.s_inj]
    rw [this]
    simp [Bool.decide_and]
theorem ex_eq_ks {ks js : List Kd} : rhoEq (.tup (ksD ks)) (.tup (ksD js)) m Q = Q (.bl (decide (ks = js))) m :=
  ex_eq_of (ksD_ok ks) (ksD_ok js) (by show eqD (.tup (ksD ks)) (.tup (ksD js)) = _; simp only [eqD, D.pd, PyData.eqv]; exact eqv_ks ks js)
/-- the words that a word holds -/
def Bd.subs : Bd → List Bd
  | .un _ a => [a]
  | .bin _ a b => [a, b]
  | .ite a b c => [a, b, c]
  | .set _ a => [a]
  | .cal _ a => [a]
  | _ => []
theorem kdD_cv {cl : Cv} {c : Nat} : ((lk cl c).map fun p => D.str p.s).getD .non = kdD (lk cl c) := by cases lk cl c <;> rfl
theorem kd_some {k : Kd} : kdD (some k) = .str k.s := rfl
theorem kd_none : kdD none = .non := rfl
theorem isSome_gv {g : Gv} {d : Nat} : ((lk g d).map fun p => D.tup [.str p.1.s, .str p.2.s]).isSome = (lk g d).isSome := by cases lk g d <;> rfl
end
end L3
/-! L7: sorted texts of one sign, dicts of pairs, parts. -/
namespace L3
open PySem PySem.Spec PyProof.Rows L2
/-! ### a list or a tuple that is walked -/
def aOrI (t u : AIt) : AIt := fun δ m Q => t δ m Q ∨ u δ m Q
theorem ai_or {X : Cx} {tg e : Expr} {t u : AIt} (h : AI X tg e t) (g : AI X tg e u) : AI X tg e (aOrI t u) :=
  let ⟨w1, p1, s1⟩ := h.ex
  let ⟨w2, p2, s2⟩ := g.ex
  ⟨fun σ H R => w1 σ H R ∨ w2 σ H R, ⟨fun pins s σ H R I q => q.elim (p1.run pins s σ H R I) (p2.run pins s σ H R I)⟩, fun B δ m Q σ H W E q R k => q.imp (fun q => s1 B δ m Q σ H W E q R k) (fun q => s2 B δ m Q σ H W E q R k)⟩
/-! ### sorted -/
def un (x : Str) : Nat := x.cps.toList.headD 0
theorem lt_sg (a b : Nat) : ltCps (sg a).cps.toList (sg b).cps.toList = decide (a < b) := by
  show ltCps [a] [b] = _
  simp [ltCps]
theorem rising_sg : ∀ (cs : List Nat) (p : Nat), risingS (sg p) (cs.map sg) = true → (p :: cs).Pairwise (· ≤ ·)
  | [], p, _ => by simp
  | c :: cs, p, h => by
    rw [List.map_cons] at h
    simp only [risingS, lt_sg, Bool.and_eq_true, Bool.not_eq_true', decide_eq_false_iff_not] at h
    have ih := rising_sg cs c h.2
    refine List.pairwise_cons.mpr ⟨fun x hx => ?_, ih⟩
    rcases List.mem_cons.mp hx with e | hx
    · omega
    · have := (List.pairwise_cons.mp ih).1 x hx
      omega
theorem sorted_sg {cs : List Nat} (h : sortedS (cs.map sg) = true) : cs.Pairwise (· ≤ ·) := by
  cases cs with
  | nil => simp
  | cons c cs => exact rising_sg cs c h
theorem perm_le : ∀ {xs ys : List Nat}, xs.Perm ys → xs.Pairwise (· ≤ ·) → ys.Pairwise (· ≤ ·) → xs = ys
  | [], ys, p, _, _ => (List.nil_perm.mp p).symm
  | x :: xs, [], p, _, _ => by have := p.length_eq; simp at this
  | x :: xs, y :: ys, p, h, g => by
    obtain ⟨h1, h2⟩ := List.pairwise_cons.mp h
    obtain ⟨g1, g2⟩ := List.pairwise_cons.mp g
    have e : x = y := by
      rcases List.mem_cons.mp (p.mem_iff.mp List.mem_cons_self) with e | e
      · exact e
      · rcases List.mem_cons.mp (p.mem_iff.mpr List.mem_cons_self) with e2 | e2
        · exact e2.symm
        · have := g1 x e; have := h1 y e2; omega
    subst e
    rw [perm_le (List.perm_cons x |>.mp p) h2 g2]
theorem sg_list {ys : List Str} {cs : List Nat} (p : ys.Perm (cs.map sg)) : ∃ ds : List Nat, ys = ds.map sg ∧ ds.Perm cs := by
  refine ⟨ys.map un, ?_, ?_⟩
  · rw [List.map_map]
    have : ∀ y ∈ ys, (sg ∘ un) y = y := fun y hy => by
      obtain ⟨c, _, rfl⟩ := List.mem_map.mp (p.mem_iff.mp hy)
      rfl
    rw [List.map_congr_left this, List.map_id']
  · have := p.map un
    rw [List.map_map] at this
    have e : cs.map (un ∘ sg) = cs := by
      have : ∀ c ∈ cs, (un ∘ sg) c = c := fun c _ => rfl
      rw [List.map_congr_left this, List.map_id']
    rw [e] at this
    exact this
theorem srt_sg {ys : List Str} {cs : List Nat} (p : ys.Perm (cs.map sg)) (h : sortedS ys = true) : ∃ ds : List Nat, ys = ds.map sg ∧ ds.Perm cs ∧ ds.Pairwise (· ≤ ·) := by
  obtain ⟨ds, rfl, q⟩ := sg_list p
  exact ⟨ds, rfl, q, sorted_sg h⟩
theorem putAllS_nodup : ∀ (xs l : List Str), l.Nodup → (putAllS xs l).Nodup
  | [], l, h => h
  | x :: xs, l, h => by
    refine putAllS_nodup xs _ ?_
    by_cases e : x ∈ l
    · rw [if_pos e]; exact h
    · rw [if_neg e]; exact List.nodup_cons.mpr ⟨e, h⟩
theorem putAllS_perm {xs : List Str} (h : xs.Nodup) : (putAllS xs []).Perm xs := by
  refine (List.perm_ext_iff_of_nodup (putAllS_nodup xs [] List.nodup_nil) h).mpr fun z => ?_
  rw [putAllS_mem]; simp
theorem sg_nodup {cs : List Nat} (h : cs.Nodup) : (cs.map sg).Nodup := by
  rw [List.nodup_iff_pairwise_ne] at h ⊢
  exact List.pairwise_map.mpr (h.imp fun ne e => ne (by rw [sg_inj] at e; exact e))
abbrev Rsg (cs : List Nat) : Prop := cs.Pairwise (· < ·)
theorem Rsg.nodup {cs : List Nat} (h : Rsg cs) : cs.Nodup := by rw [List.nodup_iff_pairwise_ne]; exact h.imp fun h e => by omega
theorem Rsg.le {cs : List Nat} (h : Rsg cs) : cs.Pairwise (· ≤ ·) := h.imp fun h => by omega
/-- sorted(set(names)) of rising names -/
theorem sset_ris {cs : List Nat} (h : Rsg cs) {ys : List Str} (p : ys.Perm (putAllS (cs.map sg) [])) (s : sortedS ys = true) : ys = cs.map sg := by
  obtain ⟨ds, rfl, q, r⟩ := srt_sg (p.trans (putAllS_perm (sg_nodup h.nodup))) s
  rw [perm_le q r h.le]
/-! ### dicts of pairs -/
theorem putD_new {kvs : List (Key × D)} {k : Key} {d : D} (h : k ∉ kvs.map (·.1)) : putD kvs k d = kvs ++ [(k, d)] := by
  unfold putD
  rw [if_neg]
  intro z
  obtain ⟨p, hp, e⟩ := List.any_eq_true.mp z
  exact h (List.mem_map.mpr ⟨p, hp, by simpa using e⟩)
theorem mergeD_new : ∀ {more kvs : List (Key × D)}, (kvs.map (·.1) ++ more.map (·.1)).Nodup → mergeD kvs more = kvs ++ more
  | [], kvs, _ => by simp [mergeD]
  | (k, d) :: more, kvs, h => by
    have hk : k ∉ kvs.map (·.1) := fun z => by
      have := (List.nodup_append.mp h).2.2 k z k (by simp)
      exact this rfl
    show mergeD (putD kvs k d) more = _
    rw [putD_new hk, mergeD_new (by simpa [List.append_assoc] using h)]
    simp
theorem merge_nil {kvs : List (Key × D)} (h : (kvs.map (·.1)).Nodup) : mergeD [] kvs = kvs := by rw [mergeD_new (by simpa using h)]; rfl
theorem keys_gv (g : Gv) : (gvD g).map (·.1) = (g.map (·.1)).map fun c => .inr (sg c) := by simp [gvD, Function.comp_def]
theorem keys_cv (g : Cv) : (cvD g).map (·.1) = (g.map (·.1)).map fun c => .inr (sg c) := by simp [cvD, Function.comp_def]
theorem key_nodup {cs : List Nat} (h : cs.Nodup) : (cs.map fun c => (Sum.inr (sg c) : Key)).Nodup := by
  rw [List.nodup_iff_pairwise_ne] at h ⊢
  exact List.pairwise_map.mpr (h.imp fun ne e => ne (by injection e with e; rw [sg_inj] at e; exact e))
theorem merge_gv {g : Gv} (h : (g.map (·.1)).Nodup) : mergeD [] (gvD g) = gvD g := merge_nil (by rw [keys_gv]; exact key_nodup h)
theorem merge_cv {g : Cv} (h : (g.map (·.1)).Nodup) : mergeD [] (cvD g) = cvD g := merge_nil (by rw [keys_cv]; exact key_nodup h)
/-! ### parts -/
structure Deed where
  c : Nat
  tk : Kd
  tl : Kd
  b : Bd
def Deed.enc (d : Deed) : D := .tup [.str (sg d.c), .str d.tk.s, .str d.tl.s, d.b.enc]
def askD (a : Nat × (Kd × Kd)) : D := .tup [.str (sg a.1), .str a.2.1.s, .str a.2.2.s]
def celD (a : Nat × Kd) : D := .tup [.str (sg a.1), .str a.2.s]
structure Part where
  nm : Nat
  ds : List Deed
  as : Gv
  cs : Cv
def Part.enc (p : Part) : D := .tup [.str (sg p.nm), .tup (p.ds.map Deed.enc), .tup (p.as.map askD), .tup (p.cs.map celD)]
def Part.gv (p : Part) : Gv := p.ds.map (fun d => (d.c, (d.tk, d.tl))) ++ p.as
structure Deed.ok (d : Deed) : Prop where
  c : deedC d.c
  wf : d.b.wf
  dep : d.b.dep ≤ 10
  words : d.b.words ≤ 60
structure Part.ok (p : Part) : Prop where
  nm : partC p.nm
  dl : p.ds.length ≤ 8
  al : p.as.length ≤ 8
  cl : p.cs.length ≤ 4
  dok : ∀ d ∈ p.ds, d.ok
  aok : ∀ a ∈ p.as, deedC a.1
  cok : ∀ a ∈ p.cs, cellC a.1
  dr : Rsg (p.ds.map (·.c))
  ar : Rsg (p.as.map (·.1))
  cr : Rsg (p.cs.map (·.1))
  dis : ∀ a ∈ p.as, a.1 ∉ p.ds.map (·.c)
theorem Part.ok.nodup {p : Part} (h : p.ok) : (p.gv.map (·.1)).Nodup := by
  unfold Part.gv
  rw [List.map_append, List.map_map]
  refine List.nodup_append.mpr ⟨h.dr.nodup, h.ar.nodup, fun a ha b hb e => ?_⟩
  subst e
  obtain ⟨x, hx, rfl⟩ := List.mem_map.mp hb
  exact h.dis x hx ha
/-- the first deed whose body isn't right -/
def Part.wrong (p : Part) : Option Nat := (p.ds.find? fun d => decide (d.b.kind d.tk p.gv p.cs ≠ some d.tl)).map (·.c)
def ndD : Option Nat → D
  | none => .non
  | some c => .str (sg c)
end L3
/-! L8: the laws' generator: two cells of the store. -/
namespace L3
open PySem PySem.Spec PyProof.Rows L2
section
variable {δ : Dt} {m : Mu} {Q : EK} {n : Nat} {d : D} {o : Option D} {p : Addr}
theorem ex_ix_ref {ds : List D} {i : Int} (h : m p = some (.lst ds)) : rhoIx (.ref p) (.int i) m Q = ∃ d, atI ds i = some d ∧ Q d m := by
  have hl : lstOf m (.ref p) = some ds := by simp [lstOf, h]
  have hd : dctOf m (.ref p) = none := by simp [dctOf, h]
  refine propext ⟨?_, fun ⟨d, q⟩ => .inl ⟨ds, i, d, hl, rfl, q⟩⟩
  rintro (⟨es, j, d, e, e2, q⟩ | ⟨es, k, d, e, _⟩)
  · rw [hl] at e; cases e; cases e2; exact ⟨d, q⟩
  · rw [hd] at e; cases e
theorem ex_len_ref {ds : List D} (h : m p = some (.lst ds)) : rcLen [.ref p] m Q = Q (.int (ds.length : Int)) m := by
  have hl : lstOf m (.ref p) = some ds := by simp [lstOf, h]
  unfold rcLen
  exact propext ⟨fun ⟨x, e, q⟩ => by injection e with e _; subst e; obtain ⟨es, h, q⟩ := q; rw [hl] at h; cases h; exact q, fun q => ⟨_, rfl, _, hl, q⟩⟩
theorem rsv_ref {ds : List D} (h : m p = some (.lst ds)) : rsv m (.ref p) = .lst ds := by simp [rsv, lstOf, h]
theorem ints_ok (ns : List Int) : eqOk (.lst (ns.map D.int)) = true := okD.eq (n := 1) (okD_lst fun d h => by
  obtain ⟨k, _, rfl⟩ := List.mem_map.mp h
  exact okD_int) (by omega)
theorem ex_max2 {i j : Int} : rcMax2 [.int i, .int j] m Q = Q (.int (if j > i then j else i)) m := by
  unfold rcMax2
  exact propext ⟨fun ⟨a, b, e, q⟩ => by injection e with e1 e2; injection e2 with e2 _; cases e1; cases e2; exact q, fun q => ⟨_, _, rfl, q⟩⟩
/-- the generator's list, its cells -/
structure Rg (ha hb : Addr) (m : Mu) : Prop where
  ne : ha ≠ hb
  ex : ∃ (a c : Int) (ns : List Int), m ha = some (.lst [.int a, .ref hb, .int c]) ∧ m hb = some (.lst (ns.map D.int))
def Ch (ha hb : Addr) (m m' : Mu) : Prop := ∀ x, x ≠ ha → x ≠ hb → m' x = m x
theorem Ch.refl {ha hb : Addr} (m : Mu) : Ch ha hb m m := fun _ _ _ => rfl
theorem Ch.trans {ha hb : Addr} {a b c : Mu} (h : Ch ha hb a b) (g : Ch ha hb b c) : Ch ha hb a c := fun x h1 h2 => (g x h1 h2).trans (h x h1 h2)
theorem Rg.put {ha hb p : Addr} {m : Mu} {c : Cell} (R : Rg ha hb m) (h : m p = none) : Rg ha hb (m.put p c) := by
  obtain ⟨a, b, ns, e1, e2⟩ := R.ex
  have n1 : ha ≠ p := fun z => by subst z; rw [h] at e1; cases e1
  have n2 : hb ≠ p := fun z => by subst z; rw [h] at e2; cases e2
  exact ⟨R.ne, a, b, ns, by rw [Mu.put_ne n1]; exact e1, by rw [Mu.put_ne n2]; exact e2⟩
theorem Rg.off {ha hb p : Addr} {m : Mu} {c c2 : Cell} (R : Rg ha hb m) (h1 : p ≠ ha) (h2 : p ≠ hb) : Rg ha hb (m.put p c) := by
  obtain ⟨a, b, ns, e1, e2⟩ := R.ex
  exact ⟨R.ne, a, b, ns, by rw [Mu.put_ne (fun z => h1 z.symm)]; exact e1, by rw [Mu.put_ne (fun z => h2 z.symm)]; exact e2⟩
theorem Rg.out {ha hb p : Addr} {m : Mu} (R : Rg ha hb m) (h : m p = none) : p ≠ ha ∧ p ≠ hb := by
  obtain ⟨a, b, ns, e1, e2⟩ := R.ex
  exact ⟨(fun z => by subst z; rw [h] at e1; cases e1), (fun z => by subst z; rw [h] at e2; cases e2)⟩
/-- what is told of the store behind: the generator's cells as they are now, all else as it was -/
def Mu.over (m m' : Mu) (ha hb : Addr) : Mu := fun x => if x = ha ∨ x = hb then m' x else m x
theorem over_ch {m m' : Mu} {ha hb : Addr} : Ch ha hb m (m.over m' ha hb) := fun x h1 h2 => by unfold Mu.over; rw [if_neg (fun z => z.elim h1 h2)]
theorem over_rg {m m' : Mu} {ha hb : Addr} (R : Rg ha hb m') : Rg ha hb (m.over m' ha hb) := by
  obtain ⟨a, b, ns, e1, e2⟩ := R.ex
  exact ⟨R.ne, a, b, ns, by unfold Mu.over; rw [if_pos (.inl rfl)]; exact e1, by unfold Mu.over; rw [if_pos (.inr rfl)]; exact e2⟩
theorem over_sub {m m' : Mu} {ha hb : Addr} (h : ∀ x c, x ≠ ha → x ≠ hb → m x = some c → m' x = some c) : Sub (m.over m' ha hb) m' := fun x c e => by
  unfold Mu.over at e
  by_cases z : x = ha ∨ x = hb
  · rw [if_pos z] at e; exact e
  · rw [if_neg z] at e; exact h x c (fun y => z (.inl y)) (fun y => z (.inr y)) e
end
end L3
namespace L3
open PySem PySem.Spec PyProof.Rows L2
section
variable {m : Mu} {Q : EK} {n0 : Int}
theorem isi_enc {b : Bd} : rcIsi [b.enc, .ty "tuple"] m Q = Q (.bl true) m := by obtain ⟨x, ds, e⟩ := b.tup; rw [e]; exact isi_tup_tuple
theorem ints_inj : ∀ {xs ys : List Int}, xs.map D.int = ys.map D.int → xs = ys
  | [], [], _ => rfl
  | [], _ :: _, h => by cases h
  | _ :: _, [], h => by cases h
  | x :: xs, y :: ys, h => by
    rw [List.map_cons, List.map_cons] at h
    injection h with h1 h2
    injection h1 with h1
    rw [h1, ints_inj h2]
theorem ex_maxd {ns : List Int} : rcMaxD n0 [.lst (ns.map D.int)] m Q = Q (.int (match ns with | [] => n0 | n :: r => r.foldl max n)) m := by
  unfold rcMaxD
  refine propext ⟨?_, fun q => ⟨_, ns, rfl, rfl, q⟩⟩
  rintro ⟨x, js, e, h, q⟩
  injection e with e _
  subst e
  rw [ints_inj (Option.some.inj h)]
  exact q
theorem ex_sum {ns : List Int} : rcSum [.lst (ns.map D.int)] m Q = Q (.int ns.sum) m := by
  unfold rcSum
  refine propext ⟨?_, fun q => ⟨_, ns, rfl, rfl, q⟩⟩
  rintro ⟨x, js, e, h, q⟩
  injection e with e _
  subst e
  rw [ints_inj (Option.some.inj h)]
  exact q
theorem ex_maxd0 : rcMaxD n0 [.lst []] m Q = Q (.int n0) m := ex_maxd (ns := [])
theorem ex_maxd1 {a : Int} : rcMaxD n0 [.lst [.int a]] m Q = Q (.int a) m := ex_maxd (ns := [a])
theorem ex_maxd2 {a b : Int} : rcMaxD n0 [.lst [.int a, .int b]] m Q = Q (.int (max a b)) m := ex_maxd (ns := [a, b])
theorem ex_maxd3 {a b c : Int} : rcMaxD n0 [.lst [.int a, .int b, .int c]] m Q = Q (.int (max (max a b) c)) m := ex_maxd (ns := [a, b, c])
theorem ex_sum0 : rcSum [.lst []] m Q = Q (.int 0) m := ex_sum (ns := [])
theorem ex_sum1 {a : Int} : rcSum [.lst [.int a]] m Q = Q (.int a) m := by rw [show D.lst [.int a] = .lst ([a].map D.int) from rfl, ex_sum]; simp
theorem ex_sum2 {a b : Int} : rcSum [.lst [.int a, .int b]] m Q = Q (.int (a + b)) m := by rw [show D.lst [.int a, .int b] = .lst ([a, b].map D.int) from rfl, ex_sum]; simp
theorem ex_sum3 {a b c : Int} : rcSum [.lst [.int a, .int b, .int c]] m Q = Q (.int (a + b + c)) m := by rw [show D.lst [.int a, .int b, .int c] = .lst ([a, b, c].map D.int) from rfl, ex_sum]; simp [Int.add_assoc]
end
end L3
/-! L9: displays run. -/
namespace L3
open PySem PySem.Spec PyProof.Rows L2
section
variable {m : Mu} {Q : EK}
def dkOf : List (D × D) → Option (List (Key × D))
  | [] => some []
  | (.int i, d) :: r => (dkOf r).map fun z => (.inl i, d) :: z
  | (.str x, d) :: r => (dkOf r).map fun z => (.inr x, d) :: z
  | _ => none
theorem dkOf_ok : ∀ kvs : List (Key × D), dkOf (kvs.map fun kv => ((match kv.1 with | .inl i => D.int i | .inr x => D.str x), kv.2)) = some kvs
  | [] => rfl
  | (.inl i, d) :: r => by
    have ih := dkOf_ok r
    simp only [List.map_cons, dkOf, ih, Option.map_some]
  | (.inr x, d) :: r => by
    have ih := dkOf_ok r
    simp only [List.map_cons, dkOf, ih, Option.map_some]
theorem dkOf_back : ∀ {ps : List (D × D)} {kvs : List (Key × D)}, dkOf ps = some kvs → dispK ps kvs
  | [], _, h => by cases h; rfl
  | (.int i, d) :: r, kvs, h => by
    simp only [dkOf] at h
    cases e : dkOf r with
    | none => rw [e] at h; cases h
    | some z =>
      rw [e] at h
      cases h
      have := dkOf_back e
      unfold dispK at this ⊢
      rw [List.map_cons, ← this]
  | (.str x, d) :: r, kvs, h => by
    simp only [dkOf] at h
    cases e : dkOf r with
    | none => rw [e] at h; cases h
    | some z =>
      rw [e] at h
      cases h
      have := dkOf_back e
      unfold dispK at this ⊢
      rw [List.map_cons, ← this]
  | (.non, d) :: r, kvs, h => by cases h
  | (.bl _, d) :: r, kvs, h => by cases h
  | (.tup _, d) :: r, kvs, h => by cases h
  | (.lst _, d) :: r, kvs, h => by cases h
  | (.dct _, d) :: r, kvs, h => by cases h
  | (.ref _, d) :: r, kvs, h => by cases h
  | (.ty _, d) :: r, kvs, h => by cases h
  | (.fl _, d) :: r, kvs, h => by cases h
theorem ex_disp {ps : List (D × D)} {F : List (Key × D) → Prop} : (∃ kvs, dispK ps kvs ∧ F kvs) = ∃ kvs, dkOf ps = some kvs ∧ F kvs := by
  refine propext ⟨fun ⟨kvs, h, f⟩ => ⟨kvs, ?_, f⟩, fun ⟨kvs, h, f⟩ => ⟨kvs, dkOf_back h, f⟩⟩
  unfold dispK at h
  rw [h]
  exact dkOf_ok kvs
/-- texts as keys: a display, a store, a merge -/
def sk (l : List (String × D)) : List (Key × D) := l.map fun p => (.inr (PySem.Str.ofString p.1), p.2)
theorem getK_nil {k : Key} : getK [] k = none := rfl
theorem getK_cons {a b : Str} {d : D} {r : List (Key × D)} : getK ((.inr a, d) :: r) (.inr b) = if a = b then some d else getK r (.inr b) := by
  unfold getK
  rw [List.find?_cons]
  by_cases h : a = b
  · simp [h]
  · simp [h]
theorem putD_nil {k : Key} {d : D} : putD [] k d = [(k, d)] := rfl
theorem putD_cons {a b : Str} {d e : D} {r : List (Key × D)} : putD ((.inr a, d) :: r) (.inr b) e = if a = b then (.inr a, e) :: r.map (fun p => if p.1 = (.inr b : Key) then (p.1, e) else p) else (.inr a, d) :: putD r (.inr b) e := by
  unfold putD
  by_cases h : a = b
  · simp [h]
  · have h2 : (decide ((Sum.inr a : Key) = .inr b)) = false := by simp [h]
    rw [List.any_cons, h2, Bool.false_or]
    by_cases z : (r.any fun p => decide (p.1 = (.inr b : Key))) = true
    · simp [h, z]
    · simp only [z, h, if_false]
      simp
theorem mergeD_nil {kvs : List (Key × D)} : mergeD kvs [] = kvs := rfl
theorem mergeD_cons {kvs r : List (Key × D)} {k : Key} {d : D} : mergeD kvs ((k, d) :: r) = mergeD (putD kvs k d) r := rfl
end
end L3
namespace L3
open PySem PySem.Spec PyProof.Rows L2
section
variable {m : Mu} {Q : EK}
end
end L3
namespace L3
open PySem PySem.Spec PyProof.Rows L2
section
variable {m : Mu} {Q : EK}
end
end L3
/-! L10: statements one behind the other by what holds between; what the generator leaves. -/
namespace L3
open PySem PySem.Spec PyProof.Rows L2
section
variable {t u : ASt} {D : AEnds} {δ : Dt} {m : Mu}
/-- one statement by itself, then the rest -/
theorem seq_inv (I : Dt → Mu → Prop) (h : ∀ nx : Dt → Mu → Prop, (∀ δ' m', I δ' m' → nx δ' m') → t { D with nx := nx } δ m) (g : ∀ δ' m', I δ' m' → u D δ' m') : aSeq t u D δ m :=
  h _ fun δ' m' i => g δ' m' i
end
/-- all else is as it was -/
def Ext (ha hb : Addr) (m m' : Mu) : Prop := ∀ x c, x ≠ ha → x ≠ hb → m x = some c → m' x = some c
section
variable {ha hb p : Addr} {m m1 m2 m3 : Mu} {c c2 : Cell}
theorem Ext.refl : Ext ha hb m m := fun _ _ _ _ h => h
theorem Ext.trans (h : Ext ha hb m1 m2) (g : Ext ha hb m2 m3) : Ext ha hb m1 m3 := fun x c h1 h2 e => g x c h1 h2 (h x c h1 h2 e)
theorem Ch.ext (h : Ch ha hb m m1) : Ext ha hb m m1 := fun x c h1 h2 e => by rw [h x h1 h2]; exact e
theorem Ext.put (h : m p = none) : Ext ha hb m (m.put p c) := fun x d _ _ e => by
  have ne : x ≠ p := fun z => by subst z; rw [h] at e; cases e
  rw [Mu.put_ne ne]; exact e
/-- a cell of one's own, changed -/
theorem Ext.over (h : Ext ha hb m m1) (n : m p = none) : Ext ha hb m (m1.put p c) := fun x d h1 h2 e => by
  have ne : x ≠ p := fun z => by subst z; rw [n] at e; cases e
  rw [Mu.put_ne ne]; exact h x d h1 h2 e
theorem Ch.at (h : Ch ha hb m m1) (R : Rg ha hb m) (n : ∃ a, m p = some a) (ne : p ≠ ha ∧ p ≠ hb) : m1 p = m p := h p ne.1 ne.2
end
theorem fzx {Q : EK} {d : D} {m m' : Mu} {ha hb : Addr} (R : Rg ha hb m') (h : Ext ha hb m m') (q : ∀ m2, Rg ha hb m2 → Ch ha hb m m2 → Q d m2) : Fz Q d m' :=
  Fz.to (over_sub h) (q _ (over_rg R) over_ch)
/-- .. a list of one's own is handed on -/
theorem fzl {Q : EK} {ds : List D} {p : Addr} {m m' : Mu} {ha hb : Addr} (R : Rg ha hb m') (h : Ext ha hb m m') (hp : m' p = some (.lst ds)) (hn : m p = none) (h1 : p ≠ ha) (h2 : p ≠ hb) (q : ∀ m2, Rg ha hb m2 → Ch ha hb m m2 → Q (.lst ds) m2) : Fz Q (.ref p) m' := by
  refine Fz.lst (m := m.over m' ha hb) hp (over_sub h) ?_ (q _ (over_rg R) over_ch)
  unfold Mu.over
  rw [if_neg (fun z => z.elim h1 h2)]; exact hn
/-! ### environments -/
structure CvOk (cl : Cv) : Prop where
  nd : (cl.map (·.1)).Nodup
  l : cl.length ≤ 4
  c : ∀ a ∈ cl, cellC a.1
structure GvOk (gv : Gv) : Prop where
  nd : (gv.map (·.1)).Nodup
  l : gv.length ≤ 8
  c : ∀ a ∈ gv, deedC a.1
theorem lk_mem {α : Type} {l : List (Nat × α)} {d : Nat} (h : d ∈ l.map (·.1)) : ∃ a, lk l d = some a ∧ (d, a) ∈ l := by
  induction l with
  | nil => simp at h
  | cons p l ih =>
    unfold lk
    rw [List.find?_cons]
    by_cases e : p.1 = d
    · subst e
      exact ⟨p.2, by simp, by simp⟩
    · have h' : d ∈ l.map (·.1) := by
        rcases List.mem_cons.mp h with z | z
        · exact absurd z.symm e
        · exact z
      obtain ⟨a, h1, h2⟩ := ih h'
      exact ⟨a, by simpa [e, lk] using h1, List.mem_cons_of_mem _ h2⟩
theorem lk_some {α : Type} {l : List (Nat × α)} {d : Nat} {a : α} (h : lk l d = some a) : (d, a) ∈ l := by
  unfold lk at h
  cases e : l.find? (fun p => decide (p.1 = d)) with
  | none => rw [e] at h; cases h
  | some p =>
    rw [e] at h
    have h1 := List.mem_of_find?_eq_some e
    have h2 := List.find?_some e
    cases h
    simp at h2
    subst h2
    exact h1
theorem atI_get {α : Type} {l : List α} {r : Int} (h0 : 0 ≤ r) (h1 : r < l.length) : ∃ x, atI l r = some x ∧ x ∈ l := by
  obtain ⟨n, rfl⟩ := Int.eq_ofNat_of_zero_le h0
  have hn : n < l.length := by omega
  exact ⟨l[n], atI_nat (List.getElem?_eq_getElem hn), List.getElem_mem hn⟩
/-- sorted keys -/
theorem ex_sortedK {m : Mu} {Q : EK} {kvs : List (Key × D)} {cs : List Nat} (hk : kvs.map (·.1) = cs.map fun c => .inr (sg c)) (hl : cs.length < 64) (q : ∀ ds : List Nat, ds.Perm cs → ds.Pairwise (· ≤ ·) → Q (.lst (strD (ds.map sg))) m) : rcSorted [.dct kvs] m Q :=
  ⟨_, cs.map sg, rfl, .inr ⟨kvs, rfl, by rw [hk]; simp⟩, by simpa using hl, fun ys p s => by
    obtain ⟨ds, rfl, h1, h2⟩ := srt_sg p s
    exact q ds h1 h2⟩
theorem ex_sortedL {m : Mu} {Q : EK} {x : D} {cs : List Nat} (hk : lstOf m x = some (strD (cs.map sg))) (hl : cs.length < 64) (q : ∀ ds : List Nat, ds.Perm cs → ds.Pairwise (· ≤ ·) → Q (.lst (strD (ds.map sg))) m) : rcSorted [x] m Q :=
  ⟨_, cs.map sg, rfl, .inl hk, by simpa using hl, fun ys p s => by
    obtain ⟨ds, rfl, h1, h2⟩ := srt_sg p s
    exact q ds h1 h2⟩
def envE (tk : Kd) (gv : Gv) (cl : Cv) : D := .dct [(.inr "takes", .str tk.s), (.inr "deeds", .dct (gvD gv)), (.inr "cells", .dct (cvD cl))]
/-- a leaf of a kind -/
structure LeafOk (tk : Kd) (cl : Cv) (kd : Kd) (b : Bd) : Prop where
  wf : b.wf
  k : ∀ gv, b.kind tk gv cl = some kd
  d : b.dep = 1
  w : b.words = 1
def wb : Nat → Nat
  | 0 => 1
  | n + 1 => 1 + 3 * wb n
/-- a body of a kind, so deep -/
structure BodyOk (tk : Kd) (gv : Gv) (cl : Cv) (kd : Kd) (n : Nat) (b : Bd) : Prop where
  wf : b.wf
  k : b.kind tk gv cl = some kd
  d : b.dep ≤ n + 1
  w : b.words ≤ wb n
theorem wb_pos : ∀ n, 1 ≤ wb n
  | 0 => Nat.le_refl _
  | n + 1 => by simp [wb]
theorem LeafOk.body {tk : Kd} {gv : Gv} {cl : Cv} {kd : Kd} {b : Bd} {n : Nat} (h : LeafOk tk cl kd b) : BodyOk tk gv cl kd n b := ⟨h.wf, h.k gv, by rw [h.d]; omega, by rw [h.w]; exact wb_pos n⟩
end L3
namespace L3
open PySem PySem.Spec PyProof.Rows L2
section
variable {ha hb p : Addr} {m m1 m2 : Mu} {Q : EK}
theorem Ext.non (h : Ext ha hb m m1) (R : Rg ha hb m1) (e : m1 p = none) : m p = none := by
  obtain ⟨n1, n2⟩ := R.out e
  cases q : m p with
  | none => rfl
  | some c => rw [h p c n1 n2 q] at e; cases e
theorem ex_addM {a b : List D} (h : m p = some (.lst a)) (hl : a.length + b.length ≤ sizeLine) (q : ∀ p', m p' = none → Q (.ref p') (m.put p' (.lst (a ++ b)))) : rhoAddM (.ref p) (.lst b) m Q :=
  ⟨a, b, by simp [lstOf, h], rfl, hl, q⟩
theorem ex_appendM {a : List D} {d : D} (h : m p = some (.lst a)) (hl : a.length < sizeLine) (q : Q .non (m.put p (.lst (a ++ [d])))) : rhoAppend (.ref p) [d] m Q := ⟨p, a, d, rfl, h, rfl, hl, q⟩
theorem lst_ref {a : List D} (h : m p = some (.lst a)) : ∃ es, lstOf m (.ref p) = some es := ⟨a, by simp [lstOf, h]⟩
theorem szlt {n : Nat} (h : n ≤ 100000) : n < sizeLine := by rw [sizeLine_eq]; omega
/-- a list of one's own, as the generator goes on -/
structure Own (ha hb : Addr) (m m1 : Mu) (p : Addr) (ds : List D) : Prop where
  at_ : m1 p = some (.lst ds)
  n : m p = none
  a : p ≠ ha
  b : p ≠ hb
theorem Own.ch {ds : List D} (h : Own ha hb m m1 p ds) (c : Ch ha hb m1 m2) : Own ha hb m m2 p ds := ⟨by rw [c p h.a h.b]; exact h.at_, h.n, h.a, h.b⟩
theorem Own.new {ds : List D} (x : Ext ha hb m m1) (R : Rg ha hb m1) (e : m1 p = none) : Own ha hb m (m1.put p (.lst ds)) p ds :=
  have o := R.out e
  ⟨Mu.put_same, x.non R e, o.1, o.2⟩
theorem Own.put {ds es : List D} (h : Own ha hb m m1 p ds) : Own ha hb m (m1.put p (.lst es)) p es := ⟨Mu.put_same, h.n, h.a, h.b⟩
end
end L3
namespace L3
open PySem PySem.Spec PyProof.Rows L2
section
variable {tk : Kd} {gv : Gv} {cl : Cv} {kd k j : Kd} {n : Nat} {a b c : Bd} {x : Nat}
theorem BodyOk.un {wd : W1} (h : BodyOk tk gv cl k n a) (e : k = wd.takes) (e2 : kd = wd.tells) : BodyOk tk gv cl kd (n + 1) (.un wd a) :=
  ⟨h.wf, by simp [Bd.kind, h.k, e, e2], by simp only [Bd.dep]; have := h.d; omega, by simp only [Bd.words, wb]; have := h.w; have := wb_pos n; omega⟩
theorem BodyOk.bin {wd : W2} (h : BodyOk tk gv cl k n a) (g : BodyOk tk gv cl j n b) (e : wd.kind k j = some kd) : BodyOk tk gv cl kd (n + 1) (.bin wd a b) :=
  ⟨⟨h.wf, g.wf⟩, by simp [Bd.kind, h.k, g.k, e], by simp only [Bd.dep]; have := h.d; have := g.d; omega, by simp only [Bd.words, wb]; have := h.w; have := g.w; have := wb_pos n; omega⟩
theorem BodyOk.ite (h : BodyOk tk gv cl .t n a) (g : BodyOk tk gv cl kd n b) (f : BodyOk tk gv cl kd n c) : BodyOk tk gv cl kd (n + 1) (.ite a b c) :=
  ⟨⟨h.wf, g.wf, f.wf⟩, by simp [Bd.kind, h.k, g.k, f.k], by simp only [Bd.dep]; have := h.d; have := g.d; have := f.d; omega, by simp only [Bd.words, wb]; have := h.w; have := g.w; have := f.w; omega⟩
theorem BodyOk.set (hc : CvOk cl) (h : BodyOk tk gv cl kd n a) (e : lk cl x = some kd) : BodyOk tk gv cl kd (n + 1) (.set x a) :=
  ⟨⟨hc.c _ (lk_some e), h.wf⟩, by simp [Bd.kind, h.k, e], by simp only [Bd.dep]; have := h.d; omega, by simp only [Bd.words, wb]; have := h.w; have := wb_pos n; omega⟩
theorem BodyOk.cal (hg : GvOk gv) (h : BodyOk tk gv cl k n a) (e : lk gv x = some (k, kd)) : BodyOk tk gv cl kd (n + 1) (.cal x a) :=
  ⟨⟨hg.c _ (lk_some e), h.wf⟩, by simp [Bd.kind, h.k, e], by simp only [Bd.dep]; have := h.d; omega, by simp only [Bd.words, wb]; have := h.w; have := wb_pos n; omega⟩
end
theorem lt2 {r : Int} (h : 0 ≤ r) (g : r < 2) : r = 0 ∨ r = 1 := by omega
theorem lt3 {r : Int} (h : 0 ≤ r) (g : r < 3) : r = 0 ∨ r = 1 ∨ r = 2 := by omega
theorem lt4 {r : Int} (h : 0 ≤ r) (g : r < 4) : r = 0 ∨ r = 1 ∨ r = 2 ∨ r = 3 := by omega
theorem lt5 {r : Int} (h : 0 ≤ r) (g : r < 5) : r = 0 ∨ r = 1 ∨ r = 2 ∨ r = 3 ∨ r = 4 := by omega
theorem atI_4 {α : Type} {x y z u v : α} {xs : List α} : atI (x :: y :: z :: u :: v :: xs) 4 = some v := atI_nat (j := 4) rfl
/-- a drawn kind -/
theorem drawK {r : Int} (h0 : 0 ≤ r) (h1 : r < 3) : ∃ k : Kd, atI [D.str "number", D.str "truth", D.str "list"] r = some (.str k.s) := by
  rcases lt3 h0 h1 with e | e | e <;> subst e
  · exact ⟨.n, atI_0⟩
  · exact ⟨.t, atI_1⟩
  · exact ⟨.l, atI_2⟩
end L3
namespace L3
open PySem PySem.Spec PyProof.Rows L2
theorem Own.rg {ha hb p : Addr} {m m1 : Mu} {ds : List D} {c : Cell} (h : Own ha hb m m1 p ds) (R : Rg ha hb m1) : Rg ha hb (m1.put p c) := R.off (c2 := .lst []) h.a h.b
end L3
namespace L3
open PySem PySem.Spec PyProof.Rows L2
section
variable {g : AGt} {tt : ATt} {te : AEt} {δw : Dt} {Q : EK} {m : Mu}
def keepS (P : Nat → Bool) : D → Option D
  | .str x => if P (un x) = true then some (.str x) else none
  | _ => none
theorem keepS_map (P : Nat → Bool) : ∀ cs : List Nat, (strD (cs.map sg)).filterMap (keepS P) = strD ((cs.filter P).map sg)
  | [] => rfl
  | c :: cs => by
    show ((D.str (sg c)) :: strD (cs.map sg)).filterMap (keepS P) = _
    rw [List.filterMap_cons, keepS_map P cs, List.filter_cons]
    rw [show keepS P (.str (sg c)) = if P c = true then some (.str (sg c)) else none from rfl]
    by_cases h : P c = true
    · simp [h, strD]
    · simp [h, strD]
/-- a comprehension that keeps some of some signs -/
theorem lc_sg {keys : List Nat} (P : Nat → Bool) (hs : ∀ c ∈ keys, ∀ R : Option D → Mu → Prop, R (if P c = true then some (.str (sg c)) else none) m → lcStep g tt te δw (.str (sg c)) m R) (q : Q (.lst (strD ((keys.filter P).map sg))) m) : lcGo g tt te δw Q (strD (keys.map sg)) [] m := by
  refine lc_pure (keepS P) (fun d hd R r => ?_) ?_
  · obtain ⟨x, hx, rfl⟩ := List.mem_map.mp hd
    obtain ⟨c, hc, rfl⟩ := List.mem_map.mp hx
    exact hs c hc R r
  · rw [keepS_map, List.nil_append]; exact q
theorem strsOk {cs : List Nat} (h : ∀ c ∈ cs, c < 1114112) : eqOk (.lst (strD (cs.map sg))) = true := okD.eq (n := 1) (okD_lst fun d hd => by
  obtain ⟨x, hx, rfl⟩ := List.mem_map.mp hd
  obtain ⟨c, hc, rfl⟩ := List.mem_map.mp hx
  exact okD_sg (h c hc)) (by omega)
theorem eqD_lnil {d : D} {ds : List D} : eqD (.lst (d :: ds)) (.lst []) = false := by simp [eqD, D.pd, pds, PyData.eqv, PyData.eqvAll]
theorem eqD_nilnil : eqD (.lst []) (.lst []) = true := by simp [eqD, D.pd, pds, PyData.eqv, PyData.eqvAll]
theorem ex_ne_nil {cs : List Nat} (h : ∀ c ∈ cs, c < 1114112) : rhoNe (.lst (strD (cs.map sg))) (.lst []) m Q = Q (.bl (!decide (cs = []))) m := by
  rw [ex_ne (by exact strsOk h) (by exact okl_nil)]
  cases cs with
  | nil => rw [show eqD (rsv m (.lst (strD ([].map sg)))) (rsv m (.lst [])) = true from eqD_nilnil]; simp
  | cons c cs => rw [show eqD (rsv m (.lst (strD ((c :: cs).map sg)))) (rsv m (.lst [])) = false from eqD_lnil]; simp
theorem atI_sg {cs : List Nat} {r : Int} (h0 : 0 ≤ r) (h1 : r < (strD (cs.map sg)).length) : ∃ c, c ∈ cs ∧ atI (strD (cs.map sg)) r = some (.str (sg c)) := by
  obtain ⟨x, hx, hm⟩ := atI_get h0 h1
  obtain ⟨y, hy, rfl⟩ := List.mem_map.mp hm
  obtain ⟨c, hc, rfl⟩ := List.mem_map.mp hy
  exact ⟨c, hc, hx⟩
end
end L3
/-! L11: kinds hang on what is called and used alone; parts that the generator makes. -/
namespace L3
open PySem PySem.Spec PyProof.Rows L2
def Bd.used : Bd → List Nat
  | .cel c => [c]
  | .un _ a => a.used
  | .bin _ a b => a.used ++ b.used
  | .ite a b c => a.used ++ b.used ++ c.used
  | .set c a => c :: a.used
  | .cal _ a => a.used
  | _ => []
def Bd.calls : Bd → List Nat
  | .un _ a => a.calls
  | .bin _ a b => a.calls ++ b.calls
  | .ite a b c => a.calls ++ b.calls ++ c.calls
  | .set _ a => a.calls
  | .cal d a => d :: a.calls
  | _ => []
theorem Bd.used_len : ∀ b : Bd, b.used.length ≤ b.words
  | .num _ => by simp [Bd.used]
  | .tru _ => by simp [Bd.used]
  | .emp => by simp [Bd.used]
  | .arg => by simp [Bd.used]
  | .cel _ => by simp [Bd.used, Bd.words]
  | .un _ a => by have := a.used_len; simp [Bd.used, Bd.words]; omega
  | .bin _ a b => by have := a.used_len; have := b.used_len; simp [Bd.used, Bd.words]; omega
  | .ite a b c => by have := a.used_len; have := b.used_len; have := c.used_len; simp [Bd.used, Bd.words]; omega
  | .set _ a => by have := a.used_len; simp [Bd.used, Bd.words]; omega
  | .cal _ a => by have := a.used_len; simp [Bd.used, Bd.words]; omega
theorem Bd.kind_congr {tk : Kd} {gv gv' : Gv} {cl cl' : Cv} : ∀ b : Bd, (∀ d ∈ b.calls, lk gv d = lk gv' d) → (∀ c ∈ b.used, lk cl c = lk cl' c) → b.kind tk gv cl = b.kind tk gv' cl'
  | .num _, _, _ => rfl
  | .tru _, _, _ => rfl
  | .emp, _, _ => rfl
  | .arg, _, _ => rfl
  | .cel c, _, h => by simp only [Bd.kind]; exact h c (by simp [Bd.used])
  | .un w a, g, h => by simp only [Bd.kind]; rw [a.kind_congr (fun d hd => g d (by simpa [Bd.calls] using hd)) (fun c hc => h c (by simpa [Bd.used] using hc))]
  | .bin w a b, g, h => by
    simp only [Bd.kind]
    rw [a.kind_congr (fun d hd => g d (by simp [Bd.calls, hd])) (fun c hc => h c (by simp [Bd.used, hc])), b.kind_congr (fun d hd => g d (by simp [Bd.calls, hd])) (fun c hc => h c (by simp [Bd.used, hc]))]
  | .ite a b c, g, h => by
    simp only [Bd.kind]
    rw [a.kind_congr (fun d hd => g d (by simp [Bd.calls, hd])) (fun c hc => h c (by simp [Bd.used, hc])), b.kind_congr (fun d hd => g d (by simp [Bd.calls, hd])) (fun c hc => h c (by simp [Bd.used, hc])), c.kind_congr (fun d hd => g d (by simp [Bd.calls, hd])) (fun c hc => h c (by simp [Bd.used, hc]))]
  | .set c a, g, h => by
    simp only [Bd.kind]
    rw [a.kind_congr (fun d hd => g d (by simp [Bd.calls, hd])) (fun c hc => h c (by simp [Bd.used, hc])), h c (by simp [Bd.used])]
  | .cal c a, g, h => by
    simp only [Bd.kind]
    rw [a.kind_congr (fun d hd => g d (by simp [Bd.calls, hd])) (fun c hc => h c (by simp [Bd.used, hc])), g c (by simp [Bd.calls])]
/-- a right body's calls are given, its cells are there -/
theorem Bd.kind_calls {tk : Kd} {gv : Gv} {cl : Cv} : ∀ (b : Bd) (k : Kd), b.kind tk gv cl = some k → (∀ d ∈ b.calls, d ∈ gv.map (·.1)) ∧ ∀ c ∈ b.used, c ∈ cl.map (·.1)
  | .num _, _, _ => by simp [Bd.calls, Bd.used]
  | .tru _, _, _ => by simp [Bd.calls, Bd.used]
  | .emp, _, _ => by simp [Bd.calls, Bd.used]
  | .arg, _, _ => by simp [Bd.calls, Bd.used]
  | .cel c, k, h => by
    simp only [Bd.kind] at h
    have := lk_some h
    exact ⟨by simp [Bd.calls], fun x hx => by simp [Bd.used] at hx; subst hx; exact List.mem_map.mpr ⟨_, this, rfl⟩⟩
  | .un w a, k, h => by
    simp only [Bd.kind] at h
    cases ha : a.kind tk gv cl with
    | none => rw [ha] at h; cases h
    | some ka => exact a.kind_calls ka ha
  | .bin w a b, k, h => by
    simp only [Bd.kind] at h
    cases ha : a.kind tk gv cl with
    | none => rw [ha] at h; cases h
    | some ka =>
      cases hb : b.kind tk gv cl with
      | none => rw [ha, hb] at h; cases h
      | some kb =>
        have i1 := a.kind_calls ka ha
        have i2 := b.kind_calls kb hb
        exact ⟨fun d hd => (List.mem_append.mp hd).elim (i1.1 d) (i2.1 d), fun d hd => (List.mem_append.mp hd).elim (i1.2 d) (i2.2 d)⟩
  | .ite a b c, k, h => by
    simp only [Bd.kind] at h
    cases ha : a.kind tk gv cl with
    | none => rw [ha] at h; cases h
    | some ka =>
      cases hb : b.kind tk gv cl with
      | none => rw [ha, hb] at h; cases h
      | some kb =>
        cases hc : c.kind tk gv cl with
        | none => rw [ha, hb, hc] at h; cases h
        | some kc =>
          have i1 := a.kind_calls ka ha
          have i2 := b.kind_calls kb hb
          have i3 := c.kind_calls kc hc
          exact ⟨fun d hd => (List.mem_append.mp hd).elim (fun hd => (List.mem_append.mp hd).elim (i1.1 d) (i2.1 d)) (i3.1 d), fun d hd => (List.mem_append.mp hd).elim (fun hd => (List.mem_append.mp hd).elim (i1.2 d) (i2.2 d)) (i3.2 d)⟩
  | .set c a, k, h => by
    simp only [Bd.kind] at h
    cases ha : a.kind tk gv cl with
    | none => rw [ha] at h; cases h
    | some ka =>
      have i1 := a.kind_calls ka ha
      rw [ha] at h
      have hc : lk cl c = some ka := by
        simp only [Option.bind_some] at h
        by_cases e : lk cl c = some ka
        · exact e
        · rw [if_neg e] at h; cases h
      exact ⟨i1.1, fun d hd => (List.mem_cons.mp hd).elim (fun e => by subst e; exact List.mem_map.mpr ⟨_, lk_some hc, rfl⟩) (i1.2 d)⟩
  | .cal c a, k, h => by
    simp only [Bd.kind] at h
    cases ha : a.kind tk gv cl with
    | none => rw [ha] at h; cases h
    | some ka =>
      have i1 := a.kind_calls ka ha
      rw [ha] at h
      simp only [Option.bind_some] at h
      cases hc : lk gv c with
      | none => rw [hc] at h; cases h
      | some p =>
        exact ⟨fun d hd => (List.mem_cons.mp hd).elim (fun e => by subst e; exact List.mem_map.mpr ⟨_, lk_some hc, rfl⟩) (i1.1 d), i1.2⟩
theorem lk_of_mem {α : Type} {l : List (Nat × α)} (h : (l.map (·.1)).Nodup) {c : Nat} {a : α} (m : (c, a) ∈ l) : lk l c = some a := by
  induction l with
  | nil => cases m
  | cons p l ih =>
    rw [List.map_cons, List.nodup_cons] at h
    unfold lk
    rw [List.find?_cons]
    rcases List.mem_cons.mp m with e | m
    · subst e; simp
    · have ne : ¬ p.1 = c := fun e => h.1 (by subst e; exact List.mem_map.mpr ⟨_, m, rfl⟩)
      simpa [ne, lk] using ih h.2 m
/-- what the generator's parts are -/
structure PartOk (nm : Nat) (own others : List Nat) (sg : Gv) (cl : Cv) (p : Part) : Prop where
  ok : p.ok
  right : p.wrong = none
  nm : p.nm = nm
  own : ∀ c, c ∈ p.ds.map (·.c) ↔ c ∈ own
  ask : ∀ a ∈ p.as, a.1 ∈ others
  sig : ∀ a ∈ p.gv, lk sg a.1 = some a.2
  cel : ∀ a ∈ p.cs, lk cl a.1 = some a.2
  dep : ∀ d ∈ p.ds, d.b.dep ≤ 4 ∧ d.b.words ≤ 40
end L3
namespace L3
open PySem PySem.Spec PyProof.Rows L2
/-- the rows of some names -/
def gvOf {α : Type} (sg : List (Nat × α)) (cs : List Nat) : List (Nat × α) := cs.filterMap fun c => (lk sg c).map fun p => (c, p)
theorem gvOf_mem {α : Type} {sg : List (Nat × α)} {cs : List Nat} {a : Nat × α} : a ∈ gvOf sg cs ↔ a.1 ∈ cs ∧ lk sg a.1 = some a.2 := by
  unfold gvOf
  rw [List.mem_filterMap]
  constructor
  · rintro ⟨c, hc, h⟩
    cases e : lk sg c with
    | none => rw [e] at h; cases h
    | some p => rw [e] at h; cases h; exact ⟨hc, e⟩
  · rintro ⟨h1, h2⟩
    exact ⟨a.1, h1, by rw [h2]; rfl⟩
theorem gvOf_keys {α : Type} {sg : List (Nat × α)} : ∀ {cs : List Nat}, (∀ c ∈ cs, ∃ p, lk sg c = some p) → (gvOf sg cs).map (·.1) = cs
  | [], _ => rfl
  | c :: cs, h => by
    obtain ⟨p, hp⟩ := h c List.mem_cons_self
    have ih := gvOf_keys (cs := cs) fun x hx => h x (List.mem_cons_of_mem _ hx)
    unfold gvOf at ih ⊢
    rw [List.filterMap_cons, hp]
    simp only [Option.map_some, List.map_cons, ih]
theorem gvOf_lk {α : Type} {sg : List (Nat × α)} {cs : List Nat} (nd : cs.Nodup) (h : ∀ c ∈ cs, ∃ p, lk sg c = some p) {c : Nat} (hc : c ∈ cs) : lk (gvOf sg cs) c = lk sg c := by
  obtain ⟨p, hp⟩ := h c hc
  rw [hp]
  exact lk_of_mem (by rw [gvOf_keys h]; exact nd) (gvOf_mem.mpr ⟨hc, hp⟩)
def sigF (sg : Gv) : D → Option D
  | .str x => (lk sg (un x)).map fun p => L3.pairD (.inr x, .tup [.str p.1.s, .str p.2.s])
  | _ => none
theorem sigF_sg {sg : Gv} {c : Nat} {p : Kd × Kd} (h : lk sg c = some p) : sigF sg (.str (L3.sg c)) = some (.tup [.str (L3.sg c), .tup [.str p.1.s, .str p.2.s]]) := by
  show ((lk sg c).map fun p => L3.pairD (.inr (L3.sg c), .tup [.str p.1.s, .str p.2.s])) = _
  rw [h]; rfl
theorem sigF_map {sg : Gv} : ∀ {cs : List Nat}, (∀ c ∈ cs, ∃ p, lk sg c = some p) → (strD (cs.map L3.sg)).filterMap (sigF sg) = (gvD (gvOf sg cs)).map L3.pairD
  | [], _ => rfl
  | c :: cs, h => by
    obtain ⟨p, hp⟩ := h c List.mem_cons_self
    have ih := sigF_map (cs := cs) fun x hx => h x (List.mem_cons_of_mem _ hx)
    show ((D.str (L3.sg c)) :: strD (cs.map L3.sg)).filterMap (sigF sg) = _
    rw [List.filterMap_cons, sigF_sg hp, ih]
    unfold gvOf
    rw [List.filterMap_cons, hp]
    rfl
theorem strD_app {a b : List Nat} : strD (a.map L3.sg) ++ strD (b.map L3.sg) = strD ((a ++ b).map L3.sg) := by simp [strD]
theorem strD_len {a : List Nat} : (strD (a.map L3.sg)).length = a.length := by simp [strD]
theorem ex_dict2 {m : Mu} {Q : EK} {ps : List (Key × D)} (q : Q (.dct (mergeD [] ps)) m) : rcDict2 [.lst (ps.map L3.pairD)] m Q := ⟨_, ps, rfl, .inl rfl, q⟩
theorem ex_tuple_ref {m : Mu} {Q : EK} {p : Addr} {ds : List D} (h : m p = some (.lst ds)) : rcTuple [.ref p] m Q = Q (.tup ds) m := by
  have hl : lstOf m (.ref p) = some ds := by simp [lstOf, h]
  unfold rcTuple
  refine propext ⟨?_, fun q => ⟨_, rfl, _, hl, q⟩⟩
  rintro ⟨x, e, q⟩
  injection e with e _
  subst e
  obtain ⟨es, h, q⟩ := q
  rw [hl] at h
  cases h
  exact q
theorem rsg_of {ds own : List Nat} (p : ds.Perm own) (nd : own.Nodup) (h : ds.Pairwise (· ≤ ·)) : Rsg ds := by
  have n2 : ds.Nodup := p.nodup_iff.mpr nd
  rw [List.nodup_iff_pairwise_ne] at n2
  exact (h.and n2).imp fun ⟨a, b⟩ => by omega
/-- the parts are right -/
theorem PartOk.mk' {nm : Nat} {own others : List Nat} {sg : Gv} {cl : Cv} {es : List Deed} {as : Gv} {cs : Cv} {ds : List Nat} (hnm : partC nm) (hnd : (own ++ others).Nodup) (hlen : (own ++ others).length ≤ 8) (hk : ∀ c ∈ own ++ others, ∃ p, lk sg c = some p ∧ deedC c) (hc : CvOk cl)
    (hds : ds.Perm own) (hr : Rsg ds) (he : es.map (·.c) = ds) (hes : ∀ d ∈ es, lk sg d.c = some (d.tk, d.tl) ∧ d.b.wf ∧ d.b.kind d.tk (gvOf sg (own ++ others)) cl = some d.tl ∧ d.b.dep ≤ 4 ∧ d.b.words ≤ 40 ∧ (∀ x ∈ d.b.calls, x ∈ others → x ∈ as.map (·.1)) ∧ (∀ x ∈ d.b.used, x ∈ cs.map (·.1)))
    (ha : ∀ a ∈ as, a.1 ∈ others ∧ lk sg a.1 = some a.2) (har : Rsg (as.map (·.1))) (hcs : ∀ a ∈ cs, lk cl a.1 = some a.2) (hcr : Rsg (cs.map (·.1))) (hcl : cs.length ≤ 4) (hal : as.length ≤ 8) : PartOk nm own others sg cl ⟨nm, es, as, cs⟩ := by
  have hk' : ∀ c ∈ own ++ others, ∃ p, lk sg c = some p := fun c h => let ⟨p, h1, _⟩ := hk c h; ⟨p, h1⟩
  have memc : ∀ c, c ∈ es.map (·.c) ↔ c ∈ own := fun c => by rw [he]; exact hds.mem_iff
  have dj := (List.nodup_append.mp hnd).2.2
  have own_lk : ∀ d ∈ es, lk sg d.c = some (d.tk, d.tl) := fun d h => (hes d h).1
  have nd2 : ((es.map fun d => (d.c, (d.tk, d.tl))) ++ as).map (·.1) |>.Nodup := by
    rw [List.map_append, List.map_map]
    refine List.nodup_append.mpr ⟨?_, har.nodup, fun a h1 b h2 e => ?_⟩
    · have : List.map ((fun x => x.1) ∘ fun d : Deed => (d.c, (d.tk, d.tl))) es = ds := by rw [← he]; rfl
      rw [this]; exact hr.nodup
    · subst e
      obtain ⟨d, hd, rfl⟩ := List.mem_map.mp h1
      obtain ⟨x, hx, e⟩ := List.mem_map.mp h2
      refine dj d.c ((memc _).mp (List.mem_map.mpr ⟨d, hd, rfl⟩)) x.1 (ha x hx).1 e.symm
  have gvlk : ∀ c, (c ∈ own ∨ c ∈ as.map (·.1)) → lk ((es.map fun d => (d.c, (d.tk, d.tl))) ++ as) c = lk sg c := by
    intro c h
    rcases h with h | h
    · obtain ⟨d, hd, rfl⟩ := List.mem_map.mp ((memc c).mpr h)
      rw [own_lk d hd]
      exact lk_of_mem nd2 (List.mem_append.mpr (.inl (List.mem_map.mpr ⟨d, hd, rfl⟩)))
    · obtain ⟨x, hx, rfl⟩ := List.mem_map.mp h
      rw [(ha x hx).2]
      exact lk_of_mem nd2 (List.mem_append.mpr (.inr hx))
  have ok : Part.ok ⟨nm, es, as, cs⟩ := by
    refine ⟨hnm, ?_, hal, hcl, fun d h => ?_, fun a h => ?_, fun a h => hc.c _ (lk_some (hcs a h)), by rw [show (Part.mk nm es as cs).ds.map (·.c) = ds from he]; exact hr, har, hcr, fun a h z => ?_⟩
    · have := congrArg List.length he
      rw [List.length_map] at this
      have h2 := hds.length_eq
      rw [List.length_append] at hlen
      show es.length ≤ 8
      omega
    · obtain ⟨h1, h2, h3, h4, h5, _⟩ := hes d h
      obtain ⟨p, _, h7⟩ := hk d.c (List.mem_append.mpr (.inl ((memc _).mp (List.mem_map.mpr ⟨d, h, rfl⟩))))
      exact ⟨h7, h2, by omega, by omega⟩
    · obtain ⟨p, _, h7⟩ := hk a.1 (List.mem_append.mpr (.inr (ha a h).1))
      exact h7
    · exact dj a.1 ((memc _).mp z) a.1 (ha a h).1 rfl
  refine ⟨ok, ?_, rfl, memc, fun a h => (ha a h).1, fun a h => ?_, hcs, fun d h => let ⟨_, _, _, h4, h5, _⟩ := hes d h; ⟨h4, h5⟩⟩
  · unfold Part.wrong
    rw [Option.map_eq_none_iff, List.find?_eq_none]
    intro d h
    obtain ⟨h1, h2, h3, h4, h5, h6, h7⟩ := hes d h
    have : d.b.kind d.tk (Part.gv ⟨nm, es, as, cs⟩) cs = some d.tl := by
      rw [← h3]
      have ⟨g1, g2⟩ := d.b.kind_calls _ h3
      refine d.b.kind_congr (fun x hx => ?_) fun x hx => ?_
      · have hm : x ∈ own ++ others := by
          have := g1 x hx
          rwa [gvOf_keys hk'] at this
        rw [gvOf_lk hnd hk' hm]
        refine gvlk x ?_
        rcases List.mem_append.mp hm with z | z
        · exact .inl z
        · exact .inr (h6 x hx z)
      · obtain ⟨y, hy, e⟩ := List.mem_map.mp (h7 x hx)
        subst e
        rw [hcs y hy]
        exact lk_of_mem hcr.nodup hy
    simp [this]
  · show lk sg a.1 = some a.2
    rcases List.mem_append.mp (show a ∈ (es.map fun d => (d.c, (d.tk, d.tl))) ++ as from h) with h | h
    · obtain ⟨d, hd, rfl⟩ := List.mem_map.mp h
      exact own_lk d hd
    · exact (ha a h).2
end L3
namespace L3
open PySem PySem.Spec PyProof.Rows L2
/-- a comprehension over some signs that draws whether it keeps -/
theorem lc_gen {g : AGt} {tt : ATt} {te : AEt} {δw : Dt} {Q : EK} {ha hb : Addr} {m0 : Mu} {keys : List Nat} (row : Nat → D) (must : Nat → Prop) (R0 : Rg ha hb m0)
    (hs : ∀ c ∈ keys, ∀ m1, Rg ha hb m1 → Ch ha hb m0 m1 → ∀ R : Option D → Mu → Prop, (∀ m2, Rg ha hb m2 → Ch ha hb m1 m2 → R (some (row c)) m2) → (∀ m2, ¬ must c → Rg ha hb m2 → Ch ha hb m1 m2 → R none m2) → lcStep g tt te δw (.str (sg c)) m1 R)
    (q : ∀ (ks : List Nat) (m2 : Mu), ks.Sublist keys → (∀ c ∈ keys, must c → c ∈ ks) → Rg ha hb m2 → Ch ha hb m0 m2 → Q (.lst (ks.map row)) m2) : lcGo g tt te δw Q (strD (keys.map sg)) [] m0 := by
  refine lc_inv (fun rest acc m => ∃ (cs ks dn : List Nat), rest = strD (cs.map sg) ∧ keys = dn ++ cs ∧ acc = ks.map row ∧ ks.Sublist dn ∧ (∀ c ∈ dn, must c → c ∈ ks) ∧ Rg ha hb m ∧ Ch ha hb m0 m) ?_ ?_ ⟨keys, [], [], rfl, rfl, rfl, List.Sublist.refl _, by simp, R0, Ch.refl _⟩
  · rintro d rest acc m ⟨cs, ks, dn, e, hk, rfl, hsub, hm, R1, C1⟩ R hR
    cases cs with
    | nil => cases e
    | cons c cs =>
      simp only [strD, List.map_cons] at e
      injection e with e1 e2
      subst e1
      refine hs c (by rw [hk]; simp) m R1 C1 R (fun m2 R2 C2 => hR _ _ ⟨cs, ks ++ [c], dn ++ [c], e2, by rw [hk]; simp, by simp, hsub.append (List.Sublist.refl _), fun x hx hmx => ?_, R2, C1.trans C2⟩) (fun m2 hn R2 C2 => hR _ _ ⟨cs, ks, dn ++ [c], e2, by rw [hk]; simp, by simp, hsub.trans (List.sublist_append_left _ _), fun x hx hmx => ?_, R2, C1.trans C2⟩)
      · rcases List.mem_append.mp hx with h | h
        · exact List.mem_append.mpr (.inl (hm x h hmx))
        · exact List.mem_append.mpr (.inr h)
      · rcases List.mem_append.mp hx with h | h
        · exact hm x h hmx
        · have : x = c := by simpa using h
          subst this
          exact absurd hmx hn
  · rintro acc m ⟨cs, ks, dn, e, hk, rfl, hsub, hm, R1, C1⟩
    have : cs = [] := by cases cs with | nil => rfl | cons c cs => cases e
    subst this
    rw [List.append_nil] at hk
    subst hk
    exact q ks m hsub hm R1 C1
theorem rows_of {α : Type} {sg : List (Nat × α)} {row : Nat → D} {enc : Nat × α → D} (h : ∀ c p, lk sg c = some p → row c = enc (c, p)) : ∀ {ks : List Nat}, (∀ c ∈ ks, ∃ p, lk sg c = some p) → ks.map row = (gvOf sg ks).map enc
  | [], _ => rfl
  | c :: ks, hk => by
    obtain ⟨p, hp⟩ := hk c List.mem_cons_self
    have ih := rows_of h (ks := ks) fun x hx => hk x (List.mem_cons_of_mem _ hx)
    rw [List.map_cons, ih, h c p hp]
    unfold gvOf
    rw [List.filterMap_cons, hp]
    rfl
end L3
/-! L12: between two statements lists of the store may become data by value. -/
namespace L3
open PySem PySem.Spec PyProof.Rows L2
mutual
/-- lists of the store, told by value -/
def D.frz (F : Addr → Option (List D)) : D → D
  | .tup ds => .tup (frzs F ds)
  | .lst ds => .lst (frzs F ds)
  | .dct kvs => .dct (frzk F kvs)
  | .ref p => match F p with
    | some ds => .lst ds
    | none => .ref p
  | d => d
def frzs (F : Addr → Option (List D)) : List D → List D
  | [] => []
  | d :: ds => d.frz F :: frzs F ds
def frzk (F : Addr → Option (List D)) : List (Key × D) → List (Key × D)
  | [] => []
  | (k, d) :: ds => (k, d.frz F) :: frzk F ds
end
def Mu.frz (m : Mu) (F : Addr → Option (List D)) : Mu := fun a => if (F a).isSome = true then none else m a
section
variable {K : PySem.W.Frag} {H : Hp} {N : Addr → Prop} {F : Addr → Option (List D)}
mutual
theorem Rep.frz (h : ∀ p ds, F p = some ds → Rep K H N (.lst ds) (.ref p)) : ∀ (d : D) (v : V), Rep K H N d v → Rep K H N (d.frz F) v
  | .non, v, r => by simpa only [D.frz] using r
  | .bl _, v, r => by simpa only [D.frz] using r
  | .int _, v, r => by simpa only [D.frz] using r
  | .str _, v, r => by simpa only [D.frz] using r
  | .ty _, v, r => by simpa only [D.frz] using r
  | .fl _, v, r => by simpa only [D.frz] using r
  | .ref p, v, r => by
    rw [rep_ref] at r
    subst r
    simp only [D.frz]
    split
    · rename_i ds e
      exact h p ds e
    · exact rep_ref.mpr rfl
  | .tup ds, v, r => by
    simp only [D.frz, Rep] at r ⊢
    obtain ⟨a, vs, e, t, q⟩ := r
    exact ⟨a, vs, e, t, Reps.frz h ds vs q⟩
  | .lst ds, v, r => by
    simp only [D.frz, Rep] at r ⊢
    obtain ⟨a, vs, e, t, q⟩ := r
    exact ⟨a, vs, e, t, Reps.frz h ds vs q⟩
  | .dct ds, v, r => by
    simp only [D.frz, Rep] at r ⊢
    obtain ⟨a, vs, e, t, q⟩ := r
    exact ⟨a, vs, e, t, Repk.frz h ds vs q⟩
theorem Reps.frz (h : ∀ p ds, F p = some ds → Rep K H N (.lst ds) (.ref p)) : ∀ (ds : List D) (vs : List V), Reps K H N ds vs → Reps K H N (frzs F ds) vs
  | [], vs, r => by simpa only [frzs] using r
  | d :: ds, vs, r => by
    simp only [frzs, Reps] at r ⊢
    obtain ⟨v, ws, e, r1, r2⟩ := r
    exact ⟨v, ws, e, Rep.frz h d v r1, Reps.frz h ds ws r2⟩
theorem Repk.frz (h : ∀ p ds, F p = some ds → Rep K H N (.lst ds) (.ref p)) : ∀ (ds : List (Key × D)) (vs : List (Key × V)), Repk K H N ds vs → Repk K H N (frzk F ds) vs
  | [], vs, r => by simpa only [frzk] using r
  | (k, d) :: ds, vs, r => by
    simp only [frzk, Repk] at r ⊢
    obtain ⟨v, ws, e, r1, r2⟩ := r
    exact ⟨v, ws, e, Rep.frz h d v r1, Repk.frz h ds ws r2⟩
end
end
def Dt.frz (δ : Dt) (F : Addr → Option (List D)) : Dt := List.map (Option.map (D.frz F)) δ
theorem frz_sub {m : Mu} {F : Addr → Option (List D)} : Sub (m.frz F) m := fun a c e => by
  unfold Mu.frz at e
  split at e
  · cases e
  · exact e
theorem EnvD.frz {K : PySem.W.Frag} {H : Hp} {B : Addr → Prop} {m : Mu} {σ : L2.St} {δ : Dt} {F : Addr → Option (List D)} (hF : ∀ p ds, F p = some ds → m p = some (.lst ds)) (W : Wd K H B m) (E : EnvD K H (Ban B m) σ δ) : EnvD K H (Ban B (m.frz F)) σ (δ.frz F) := by
  have E2 := E.carry (carry_sub (frz_sub (F := F)))
  refine ⟨by unfold Dt.frz; rw [E2.len, List.length_map], fun i d e => ?_⟩
  unfold Dt.frz at e
  rw [List.getElem?_map] at e
  cases q : δ[i]? with
  | none => rw [q] at e; cases e
  | some o =>
    rw [q] at e
    cases o with
    | none => cases e
    | some d0 =>
      simp only [Option.map_some, Option.some.injEq] at e
      subst e
      obtain ⟨v, hv, r⟩ := E2.at_ i d0 q
      refine ⟨v, hv, Rep.frz (fun p ds hp => ?_) _ _ r⟩
      obtain ⟨vs, hh, rr⟩ := W.cell p _ (hF p ds hp)
      refine rep_lst.mpr ⟨p, vs, rfl, ⟨hh, fun z => z.elim (fun b => ?_) fun z => z ?_⟩, Reps.carry (carry_sub frz_sub) _ _ rr⟩
      · have := (W.hid p b).2
        rw [hF p ds hp] at this
        cases this
      · unfold Mu.frz
        rw [if_pos (by rw [hp]; rfl)]
/-- ahead of a suite: some lists are told by value from here on -/
def aGh (t : ASt) : ASt := fun D δ m => ∃ F : Addr → Option (List L3.D), (∀ p ds, F p = some ds → m p = some (.lst ds)) ∧ t D (δ.frz F) (m.frz F)
theorem ass_gh {X : Cx} {st : List Stmt} {t : ASt} (h : ASs X st t) : ASs X st (aGh t) :=
  let ⟨_, p, s⟩ := h.ex
  ⟨_, p, fun B D δ m σ H W E ⟨F, hF, q⟩ De k => s B D (δ.frz F) (m.frz F) σ H (W.sub frz_sub) (E.frz hF W) q De (k.step (step_sub frz_sub))⟩
/-! ### nodup lists of letters are short -/
theorem nodup_len : ∀ {l k : List Nat}, l.Nodup → (∀ c ∈ l, c ∈ k) → l.length ≤ k.length
  | [], _, _, _ => Nat.zero_le _
  | c :: l, k, h, s => by
    obtain ⟨h1, h2⟩ := List.nodup_cons.mp h
    have hc := s c List.mem_cons_self
    have := nodup_len (l := l) (k := k.erase c) h2 fun x hx => by
      have ne : x ≠ c := fun e => h1 (by subst e; exact hx)
      exact (List.mem_erase_of_ne ne).mpr (s x (List.mem_cons_of_mem _ hx))
    rw [List.length_erase_of_mem hc] at this
    have : 0 < k.length := List.length_pos_of_mem hc
    simp only [List.length_cons]
    omega
theorem deeds_len {l : List Nat} (h : l.Nodup) (s : ∀ c ∈ l, deedC c) : l.length ≤ 8 := nodup_len (k := [97, 98, 99, 100, 101, 102, 103, 104]) h s
def lettersD : List Nat := [97, 98, 99, 100, 101, 102, 103, 104]
def lettersC : List Nat := [112, 113, 114, 115]
def lettersP : List Nat := [65, 66, 67, 68, 69, 70]
theorem cut_deeds {r : Int} (h0 : 0 ≤ r) (h1 : r < 7) : ∃ n, (cutS "abcdefgh" none (some (2 + r))).cps.toList = lettersD.take n := by
  have : r = 0 ∨ r = 1 ∨ r = 2 ∨ r = 3 ∨ r = 4 ∨ r = 5 ∨ r = 6 := by omega
  rcases this with e | e | e | e | e | e | e <;> subst e
  · exact ⟨2, by decide +kernel⟩
  · exact ⟨3, by decide +kernel⟩
  · exact ⟨4, by decide +kernel⟩
  · exact ⟨5, by decide +kernel⟩
  · exact ⟨6, by decide +kernel⟩
  · exact ⟨7, by decide +kernel⟩
  · exact ⟨8, by decide +kernel⟩
/-- a comprehension over some signs that draws a row for each -/
theorem lc_rows {α : Type} {g : AGt} {tt : ATt} {te : AEt} {δw : Dt} {Q : EK} {ha hb : Addr} {m0 : Mu} {keys : List Nat} (enc : Nat × α → D) (R0 : Rg ha hb m0)
    (hs : ∀ c ∈ keys, ∀ m1, Rg ha hb m1 → Ch ha hb m0 m1 → ∀ R : Option D → Mu → Prop, (∀ a m2, Rg ha hb m2 → Ch ha hb m1 m2 → R (some (enc (c, a))) m2) → lcStep g tt te δw (.str (sg c)) m1 R)
    (q : ∀ (rs : List (Nat × α)) (m2 : Mu), rs.map (·.1) = keys → Rg ha hb m2 → Ch ha hb m0 m2 → Q (.lst (rs.map enc)) m2) : lcGo g tt te δw Q (strD (keys.map sg)) [] m0 := by
  refine lc_inv (fun rest acc m => ∃ (cs : List Nat) (rs : List (Nat × α)), rest = strD (cs.map sg) ∧ keys = rs.map (·.1) ++ cs ∧ acc = rs.map enc ∧ Rg ha hb m ∧ Ch ha hb m0 m) ?_ ?_ ⟨keys, [], rfl, rfl, rfl, R0, Ch.refl _⟩
  · rintro d rest acc m ⟨cs, rs, e, hk, rfl, R1, C1⟩ R hR
    cases cs with
    | nil => cases e
    | cons c cs =>
      simp only [strD, List.map_cons] at e
      injection e with e1 e2
      subst e1
      exact hs c (by rw [hk]; simp) m R1 C1 R (fun a m2 R2 C2 => hR _ _ ⟨cs, rs ++ [(c, a)], e2, by rw [hk]; simp, by simp, R2, C1.trans C2⟩)
  · rintro acc m ⟨cs, rs, e, hk, rfl, R1, C1⟩
    have : cs = [] := by cases cs with | nil => rfl | cons c cs => cases e
    subst this
    exact q rs m (by rw [hk]; simp) R1 C1
/-- the shelf that the generator makes -/
structure ShelfOk (sg : Gv) (cl : Cv) (ps : List Part) : Prop where
  one : 1 ≤ ps.length
  six : ps.length ≤ 6
  nms : ps.map (·.nm) = lettersP.take ps.length
  sgk : sg.map (·.1) = lettersD
  clk : cl.map (·.1) = lettersC
  part : ∀ p ∈ ps, ∃ own others, PartOk p.nm own others sg cl p ∧ own.length ≤ 4
  gives : ∀ p ∈ ps, ∀ a ∈ p.as, ∃ q ∈ ps, a.1 ∈ q.ds.map (·.c)
theorem gvOk_of {sg : Gv} (h : sg.map (·.1) = lettersD) : GvOk sg := ⟨by rw [h]; decide, by have := congrArg List.length h; rw [List.length_map] at this; rw [this]; decide, fun a ha => by
  have : a.1 ∈ sg.map (·.1) := List.mem_map.mpr ⟨a, ha, rfl⟩
  rw [h] at this; exact this⟩
theorem cvOk_of {cl : Cv} (h : cl.map (·.1) = lettersC) : CvOk cl := ⟨by rw [h]; decide, by have := congrArg List.length h; rw [List.length_map] at this; rw [this]; decide, fun a ha => by
  have : a.1 ∈ cl.map (·.1) := List.mem_map.mpr ⟨a, ha, rfl⟩
  rw [h] at this; exact this⟩
theorem signs_D (z : Str) : (z.cps.toList.map fun c => D.str ⟨#[c]⟩) = strD (z.cps.toList.map sg) := by rw [strD, List.map_map]; rfl
end L3
namespace L3
open PySem PySem.Spec PyProof.Rows L2
/-- a comprehension over some signs that draws whether it keeps, of those that may be -/
theorem lc_may {g : AGt} {tt : ATt} {te : AEt} {δw : Dt} {Q : EK} {ha hb : Addr} {m0 : Mu} {keys : List Nat} (row : Nat → D) (may : Nat → Prop) (R0 : Rg ha hb m0)
    (hs : ∀ c ∈ keys, ∀ m1, Rg ha hb m1 → Ch ha hb m0 m1 → ∀ R : Option D → Mu → Prop, (∀ m2, may c → Rg ha hb m2 → Ch ha hb m1 m2 → R (some (row c)) m2) → (∀ m2, Rg ha hb m2 → Ch ha hb m1 m2 → R none m2) → lcStep g tt te δw (.str (sg c)) m1 R)
    (q : ∀ (ks : List Nat) (m2 : Mu), ks.Sublist keys → (∀ c ∈ ks, may c) → Rg ha hb m2 → Ch ha hb m0 m2 → Q (.lst (ks.map row)) m2) : lcGo g tt te δw Q (strD (keys.map sg)) [] m0 := by
  refine lc_inv (fun rest acc m => ∃ (cs ks dn : List Nat), rest = strD (cs.map sg) ∧ keys = dn ++ cs ∧ acc = ks.map row ∧ ks.Sublist dn ∧ (∀ c ∈ ks, may c) ∧ Rg ha hb m ∧ Ch ha hb m0 m) ?_ ?_ ⟨keys, [], [], rfl, rfl, rfl, List.Sublist.refl _, by simp, R0, Ch.refl _⟩
  · rintro d rest acc m ⟨cs, ks, dn, e, hk, rfl, hsub, hm, R1, C1⟩ R hR
    cases cs with
    | nil => cases e
    | cons c cs =>
      simp only [strD, List.map_cons] at e
      injection e with e1 e2
      subst e1
      refine hs c (by rw [hk]; simp) m R1 C1 R (fun m2 hmc R2 C2 => hR _ _ ⟨cs, ks ++ [c], dn ++ [c], e2, by rw [hk]; simp, by simp, hsub.append (List.Sublist.refl _), fun x hx => ?_, R2, C1.trans C2⟩) (fun m2 R2 C2 => hR _ _ ⟨cs, ks, dn ++ [c], e2, by rw [hk]; simp, by simp, hsub.trans (List.sublist_append_left _ _), hm, R2, C1.trans C2⟩)
      rcases List.mem_append.mp hx with h | h
      · exact hm x h
      · have : x = c := by simpa using h
        subst this; exact hmc
  · rintro acc m ⟨cs, ks, dn, e, hk, rfl, hsub, hm, R1, C1⟩
    have : cs = [] := by cases cs with | nil => rfl | cons c cs => cases e
    subst this
    rw [List.append_nil] at hk
    subst hk
    exact q ks m hsub hm R1 C1
theorem rngD_get {lo : Int} {n i : Nat} (h : i < n) : (rngD lo n).drop i = .int (lo + i) :: (rngD lo n).drop (i + 1) := by
  have hl : i < (rngD lo n).length := by simp [rngD, h]
  rw [List.drop_eq_getElem_cons hl]
  simp [rngD]
theorem for_rng {g : AGt} {tb : ASt} {Z : AEnds} {lo : Int} {n : Nat} (I : Nat → Dt → Mu → Prop) (h : ∀ i δ m, i < n → I i δ m → ∀ nx : Dt → Mu → Prop, (∀ δ' m', I (i + 1) δ' m' → nx δ' m') → g (.int (lo + i)) δ m fun δ2 m2 => tb { Z with nx := nx, ct := nx, bk := Z.nx } δ2 m2)
    (q : ∀ δ m, I n δ m → Z.nx δ m) {δ : Dt} {m : Mu} (i0 : I 0 δ m) : forGo g tb Z (rngD lo n) δ m := by
  refine for_inv (fun rest δ m => ∃ i, i ≤ n ∧ rest = (rngD lo n).drop i ∧ I i δ m) ?_ ?_ ⟨0, Nat.zero_le _, rfl, i0⟩
  · rintro d rest δ m ⟨i, hi, e, hI⟩ nx hnx
    have hlt : i < n := by
      rcases Nat.lt_or_eq_of_le hi with h | h
      · exact h
      · subst h
        rw [List.drop_eq_nil_of_le (by simp [rngD])] at e
        cases e
    rw [rngD_get hlt] at e
    injection e with e1 e2
    subst e1
    exact h i δ m hlt hI nx fun δ' m' hI' => hnx δ' m' ⟨i + 1, hlt, e2, hI'⟩
  · rintro δ m ⟨i, hi, e, hI⟩
    have : i = n := by
      rcases Nat.lt_or_eq_of_le hi with h | h
      · rw [rngD_get h] at e; cases e
      · exact h
    subst this
    exact q δ m hI
theorem lc_rng {g : AGt} {tt : ATt} {te : AEt} {δw : Dt} {Q : EK} {lo : Int} {n : Nat} (I : Nat → List D → Mu → Prop) (h : ∀ i acc m, i < n → I i acc m → ∀ R : Option D → Mu → Prop, (∀ o m', I (i + 1) (acc ++ o.toList) m' → R o m') → lcStep g tt te δw (.int (lo + i)) m R)
    (q : ∀ acc m, I n acc m → Q (.lst acc) m) {acc : List D} {m : Mu} (i0 : I 0 acc m) : lcGo g tt te δw Q (rngD lo n) acc m := by
  refine lc_inv (fun rest acc m => ∃ i, i ≤ n ∧ rest = (rngD lo n).drop i ∧ I i acc m) ?_ ?_ ⟨0, Nat.zero_le _, rfl, i0⟩
  · rintro d rest acc m ⟨i, hi, e, hI⟩ R hR
    have hlt : i < n := by
      rcases Nat.lt_or_eq_of_le hi with h | h
      · exact h
      · subst h
        rw [List.drop_eq_nil_of_le (by simp [rngD])] at e
        cases e
    rw [rngD_get hlt] at e
    injection e with e1 e2
    subst e1
    exact h i acc m hlt hI R fun o m' hI' => hR o m' ⟨i + 1, hlt, e2, hI'⟩
  · rintro acc m ⟨i, hi, e, hI⟩
    have : i = n := by
      rcases Nat.lt_or_eq_of_le hi with h | h
      · rw [rngD_get h] at e; cases e
      · exact h
    subst this
    exact q acc m hI
/-! ### lists in the store, one for each owner -/
def lsD (l : List Nat) : D := .lst (strD (l.map sg))
structure Ows (ha hb : Addr) (m m' : Mu) (ps : List Addr) (ls : List (List Nat)) : Prop where
  len : ls.length = ps.length
  nd : ps.Nodup
  at_ : ∀ (i : Nat) (p : Addr) (l : List Nat), ps[i]? = some p → ls[i]? = some l → Own ha hb m m' p (strD (l.map sg))
theorem Ows.ch {ha hb : Addr} {m m1 m2 : Mu} {ps : List Addr} {ls : List (List Nat)} (O : Ows ha hb m m1 ps ls) (C : Ch ha hb m1 m2) : Ows ha hb m m2 ps ls := ⟨O.len, O.nd, fun i p l h1 h2 => (O.at_ i p l h1 h2).ch C⟩
theorem Ows.nil {ha hb : Addr} {m m1 : Mu} : Ows ha hb m m1 [] [] := ⟨rfl, List.nodup_nil, fun i p l h => by simp at h⟩
theorem Ows.add {ha hb : Addr} {m m1 : Mu} {ps : List Addr} {ls : List (List Nat)} (O : Ows ha hb m m1 ps ls) (X : Ext ha hb m m1) (R : Rg ha hb m1) {p : Addr} (hp : m1 p = none) : Ows ha hb m (m1.put p (.lst [])) (ps ++ [p]) (ls ++ [[]]) := by
  have hnp : p ∉ ps := fun z => by
    obtain ⟨i, hi⟩ := List.getElem?_of_mem z
    have hl : i < ls.length := by rw [O.len]; exact (List.getElem?_eq_some_iff.mp hi).1
    have := (O.at_ i p _ hi (List.getElem?_eq_getElem hl)).at_
    rw [hp] at this; cases this
  refine ⟨by simp [O.len], ?_, fun i q l h1 h2 => ?_⟩
  · rw [List.nodup_append]
    exact ⟨O.nd, by simp, fun a ha b hb e => hnp (by simp at hb; subst hb; subst e; exact ha)⟩
  · by_cases hi : i < ps.length
    · rw [List.getElem?_append_left hi] at h1
      rw [List.getElem?_append_left (by rw [O.len]; exact hi)] at h2
      have o := O.at_ i q l h1 h2
      have ne : q ≠ p := fun e => hnp (by subst e; exact List.mem_of_getElem? h1)
      exact ⟨by rw [Mu.put_ne ne]; exact o.at_, o.n, o.a, o.b⟩
    · have h3 : i = ps.length := by
        have := (List.getElem?_eq_some_iff.mp h1).1
        simp at this; omega
      subst h3
      rw [List.getElem?_append_right (Nat.le_refl _)] at h1
      rw [List.getElem?_append_right (by rw [O.len]; exact Nat.le_refl _), O.len] at h2
      simp at h1 h2
      subst h1 h2
      exact Own.new X R hp
theorem Ows.set {ha hb : Addr} {m m1 : Mu} {ps : List Addr} {ls : List (List Nat)} (O : Ows ha hb m m1 ps ls) {i : Nat} {p : Addr} {l l2 : List Nat} (h1 : ps[i]? = some p) (h2 : ls[i]? = some l) : Ows ha hb m (m1.put p (.lst (strD (l2.map sg)))) ps (ls.set i l2) := by
  refine ⟨by simp [O.len], O.nd, fun j q k g1 g2 => ?_⟩
  by_cases e : j = i
  · subst e
    rw [h1] at g1
    cases g1
    have hl := (List.getElem?_eq_some_iff.mp h2).1
    rw [List.getElem?_set_self hl] at g2
    cases g2
    exact (O.at_ j p l h1 h2).put
  · rw [List.getElem?_set_ne (fun z => e z.symm)] at g2
    have o := O.at_ j q k g1 g2
    have ne : q ≠ p := fun z => by
      subst z
      obtain ⟨a1, b1⟩ := List.getElem?_eq_some_iff.mp g1
      obtain ⟨a2, b2⟩ := List.getElem?_eq_some_iff.mp h1
      have f := List.pairwise_iff_getElem.mp (List.nodup_iff_pairwise_ne.mp O.nd)
      rcases Nat.lt_trichotomy j i with z | z | z
      · exact f j i a1 a2 z (by rw [b1, b2])
      · exact e z
      · exact f i j a2 a1 z (by rw [b1, b2])
    exact ⟨by rw [Mu.put_ne ne]; exact o.at_, o.n, o.a, o.b⟩
/-- what becomes data -/
def owF (ps : List Addr) (ls : List (List Nat)) : Addr → Option (List D) := fun a => ((ps.zip ls).find? fun x => decide (x.1 = a)).map fun x => strD (x.2.map sg)
theorem ows_zip {ha hb : Addr} {m m1 : Mu} {ps : List Addr} {ls : List (List Nat)} (O : Ows ha hb m m1 ps ls) {a : Addr} {ds : List D} (h : owF ps ls a = some ds) : m1 a = some (.lst ds) ∧ m a = none ∧ a ≠ ha ∧ a ≠ hb := by
  unfold owF at h
  cases e : (ps.zip ls).find? fun x => decide (x.1 = a) with
  | none => rw [e] at h; cases h
  | some x =>
    rw [e] at h
    cases h
    have h1 := List.mem_of_find?_eq_some e
    have h2 := List.find?_some e
    simp at h2
    subst h2
    obtain ⟨i, hi⟩ := List.getElem?_of_mem h1
    rw [List.getElem?_zip_eq_some] at hi
    have o := O.at_ i x.1 x.2 hi.1 hi.2
    exact ⟨o.at_, o.n, o.a, o.b⟩
theorem ows_rg {ha hb : Addr} {m m1 : Mu} {ps : List Addr} {ls : List (List Nat)} (O : Ows ha hb m m1 ps ls) (R : Rg ha hb m1) : Rg ha hb (m1.frz (owF ps ls)) ∧ ∀ x, ((owF ps ls x).isSome = false → m1.frz (owF ps ls) x = m1 x) := by
  have off : ∀ x, (owF ps ls x).isSome = false → m1.frz (owF ps ls) x = m1 x := fun x h => by unfold Mu.frz; rw [if_neg (by rw [h]; simp)]
  have g : ∀ x, (x = ha ∨ x = hb) → (owF ps ls x).isSome = false := fun x h => by
    cases e : owF ps ls x with
    | none => rfl
    | some ds => have := ows_zip O e; rcases h with h | h <;> simp [h] at this
  obtain ⟨a, b, ns, e1, e2⟩ := R.ex
  exact ⟨⟨R.ne, a, b, ns, by rw [off ha (g ha (.inl rfl))]; exact e1, by rw [off hb (g hb (.inr rfl))]; exact e2⟩, off⟩
theorem ows_ext {ha hb : Addr} {m m1 : Mu} {ps : List Addr} {ls : List (List Nat)} (O : Ows ha hb m m1 ps ls) (R : Rg ha hb m1) (X : Ext ha hb m m1) : Ext ha hb m (m1.frz (owF ps ls)) := fun x c h1 h2 e => by
  rw [(ows_rg O R).2 x ?_]
  · exact X x c h1 h2 e
  · cases q : owF ps ls x with
    | none => rfl
    | some ds => have := (ows_zip O q).2.1; rw [e] at this; cases this
theorem ows_frz : ∀ {ps : List Addr} {ls : List (List Nat)}, ls.length = ps.length → ps.Nodup → ∀ (F : Addr → Option (List D)), (∀ (i : Nat) (p : Addr) (l : List Nat), ps[i]? = some p → ls[i]? = some l → F p = some (strD (l.map sg))) → frzs F (ps.map D.ref) = ls.map lsD
  | [], [], _, _, _, _ => by simp [frzs]
  | [], _ :: _, h, _, _, _ => by simp at h
  | _ :: _, [], h, _, _, _ => by simp at h
  | p :: ps, l :: ls, h, nd, F, k => by
    rw [List.map_cons, frzs, List.map_cons]
    have e1 : D.frz F (.ref p) = lsD l := by
      simp only [D.frz, k 0 p l rfl rfl]
      rfl
    rw [e1, ows_frz (by simpa using h) (List.nodup_cons.mp nd).2 F fun i q r a b => k (i + 1) q r (by simpa using a) (by simpa using b)]
theorem ows_at {ha hb : Addr} {m m1 : Mu} {ps : List Addr} {ls : List (List Nat)} (O : Ows ha hb m m1 ps ls) {i : Nat} {p : Addr} {l : List Nat} (h1 : ps[i]? = some p) (h2 : ls[i]? = some l) : owF ps ls p = some (strD (l.map sg)) := by
  unfold owF
  cases e : (ps.zip ls).find? fun x => decide (x.1 = p) with
  | none =>
    have := List.find?_eq_none.mp e (p, l) (List.mem_of_getElem? (List.getElem?_zip_eq_some.mpr ⟨h1, h2⟩))
    simp at this
  | some x =>
    have g1 := List.mem_of_find?_eq_some e
    have g2 := List.find?_some e
    simp at g2
    obtain ⟨j, hj⟩ := List.getElem?_of_mem g1
    rw [List.getElem?_zip_eq_some] at hj
    have o1 := (O.at_ i p l h1 h2).at_
    have o2 := (O.at_ j x.1 x.2 hj.1 hj.2).at_
    rw [g2, o1] at o2
    simp only [Option.map_some]
    injection o2 with o2
    injection o2 with o2
    rw [o2]
theorem frz_gvD (F : Addr → Option (List D)) : ∀ g : Gv, frzk F (gvD g) = gvD g
  | [] => by simp [gvD, frzk]
  | p :: g => by
    have ih := frz_gvD F g
    unfold gvD at ih ⊢
    rw [List.map_cons, frzk, ih]
    simp [D.frz, frzs]
theorem frz_cvD (F : Addr → Option (List D)) : ∀ g : Cv, frzk F (cvD g) = cvD g
  | [] => by simp [cvD, frzk]
  | p :: g => by
    have ih := frz_cvD F g
    unfold cvD at ih ⊢
    rw [List.map_cons, frzk, ih]
    simp [D.frz, frzs]
end L3
namespace L3
open PySem PySem.Spec PyProof.Rows L2
theorem cut_lo {xs : List D} {n : Nat} (h : n ≤ xs.length) : cutD xs none (some (n : Int)) = xs.take n := by
  unfold cutD
  rw [HT.sIx_none, HT.sIx_nat, Nat.min_eq_left h]
  simp
theorem cut_hi {xs : List D} {n : Nat} (h : n ≤ xs.length) : cutD xs (some (n : Int)) none = xs.drop n := by
  unfold cutD
  rw [HT.sIx_none, HT.sIx_nat, Nat.min_eq_left h]
  exact List.take_of_length_le (by rw [List.length_drop]; exact Nat.le_refl _)
end L3
namespace L3
open PySem PySem.Spec PyProof.Rows L2
end L3
namespace L3
open PySem PySem.Spec PyProof.Rows L2
section
variable {x y z u : D} {xs : List D} {m : Mu} {Q : EK}
end
end L3
namespace L3
open PySem PySem.Spec PyProof.Rows L2
theorem Deed.okD {d : Deed} (h : d.ok) : L3.okD d.enc 11 := okD_tup (by
  simp only [List.mem_cons, List.not_mem_nil, or_false]
  rintro x (e | e | e | e) <;> subst e
  · exact okD_sg (deedC.lt h.c)
  · exact okD_str (Kd.ok _)
  · exact okD_str (Kd.ok _)
  · exact (d.b.okD h.wf).mono h.dep)
end L3
namespace L3
open PySem PySem.Spec PyProof.Rows L2
theorem cut_hi' {xs : List D} {n : Nat} : cutD xs (some (n : Int)) none = xs.drop n := by
  by_cases h : n ≤ xs.length
  · exact cut_hi h
  · unfold cutD
    rw [HT.sIx_none, HT.sIx_nat, Nat.min_eq_right (by omega), List.drop_eq_nil_of_le (Nat.le_refl _), List.drop_eq_nil_of_le (by omega)]
    simp
end L3
namespace L3
open PySem PySem.Spec PyProof.Rows L2
/-- data that the laws compare place by place -/
def aokD : Nat → D → Prop
  | 0, _ => False
  | _ + 1, .non => True
  | _ + 1, .bl _ => True
  | _ + 1, .int _ => True
  | _ + 1, .str _ => True
  | n + 1, .tup ds => ds.length ≤ 1000 ∧ ∀ x ∈ ds, aokD n x
  | n + 1, .lst ds => ds.length ≤ 1000 ∧ ∀ x ∈ ds, aokD n x
  | _ + 1, _ => False
theorem nil_nilD {m : Mu} {Q : EK} : rhoEq (.lst []) (.lst []) m Q = Q (.bl true) m := by
  rw [ex_eq (by exact okl_nil) (by exact okl_nil), show eqD (rsv m (.lst [])) (rsv m (.lst [])) = true from eqD_nilnil]
end L3
/-! L14: len(set(texts)); trees. -/
namespace L3
open PySem PySem.Spec PyProof.Rows L2
section
variable {X : Cx} {pos : Pos}
def aLenSet (t : AEt) : AEt := fun δ m Q => t δ m fun d m1 => ∃ xs : List Str, lstOf m1 d = some (strD xs) ∧ xs.length < 64 ∧ Q (.int ((putAllS xs []).length : Int)) m1
def tLenSet : TE → TE := fun ta σ H Q => ta σ H fun x H1 => ∃ (l : Addr) (xs : List Str), x = .ref l ∧ H1 l = some (.lst (xs.map V.str)) ∧ xs.length < 64 ∧ Q (.int ((putAllS xs []).length : Int)) H1
theorem pe_lenset {a : Expr} {ta : TE} {p p2 q : Pos} (hc : X.calm = true) (hg : Gl X "len") (hm : X.mg "len" = none) (hg2 : Gl X "set") (hm2 : X.mg "set" = none) (ha : PE X a ta)
    (na : starEach [a] X.env = (false, eval a X.env) :: starEach [] X.env := by rfl) : PE X (.Call (.Name "len" p) [.Call (.Name "set" p2) [a] [] q] [] pos) (tLenSet ta) := by
  refine ⟨fun pins s σ H Q I h => ?_⟩
  refine Call_ (ld_blt I hg hm PySem.boot_len ?_)
  refine PyProof.Rows.callWith_builtin1 (PyProof.Rows.args_cons ?_ rfl) rfl rfl
  refine Call_ (ld_blt I hg2 hm2 PyProof.Rows.boot_set ?_)
  refine PyProof.Rows.callWith_type1 (PyProof.Rows.args_cons (thn (ha.run pins s σ H _ I h) fun v s1 ⟨x, H1, I1, r1, q1⟩ => PyProof.Rows.args_nil ?_) na) na rfl
  obtain ⟨l, xs, rfl, hl, h64, q1⟩ := q1
  cases r1
  obtain ⟨its, r, pl, hz⟩ := I1.list (SqL.of hl : SqL X.K H1 l _)
  refine call_set_list xs (I1.ok.hd hc) pl.isList (by simpa using strs_vals r) (scan64 h64) fun g tk hS hk => ?_
  have I2 : L2.Inv X pins σ H1 { s1 with heap := g, toks := tk } := I1.kept hk
  refine PyProof.Rows.args_nil ?_
  obtain ⟨ob, es, ep, tb, ho, hex, hd, he, hp, hn, hb, hf, _⟩ := hS
  have hl2 : es.size = (putAllS xs []).length := by rw [← hp.length_eq, List.length_map, Array.length_toList]
  refine call_len_set ho hex hd hf (by unfold scanBound at hb; omega) ⟨.int ((putAllS xs []).length : Int), H1, I2.tok _, ⟨_, by rw [hl2]⟩, q1⟩
theorem ae_lenset {a : Expr} {t : AEt} {p p2 q : Pos} (hm : X.mg "len" = none) (hm2 : X.mg "set" = none) (h : AE X a t) (hc : X.calm = true := by rfl) (hg : Gl X "len" := by rfl) (hg2 : Gl X "set" := by rfl)
    (na : starEach [a] X.env = (false, eval a X.env) :: starEach [] X.env := by rfl) : AE X (.Call (.Name "len" p) [.Call (.Name "set" p2) [a] [] q] [] pos) (aLenSet t) :=
  let ⟨_, pa, s⟩ := h.ex
  ⟨_, pe_lenset hc hg hm hg2 hm2 pa na, fun B δ m Q σ H W E h Q' k => s B δ m _ σ H W E h _ fun d m1 v H1 s1 W1 r ⟨xs, hx, h64, q⟩ => by
    obtain ⟨l, vs, rfl, hl, rs⟩ := lst_at W1 r hx
    obtain rfl := vals_strD rs
    exact ⟨l, xs, rfl, hl, h64, (k.step s1).now W1 (rep_int.mpr rfl) q⟩⟩
end
/-! ### trees -/
inductive Tr where
  | part (p : Nat) | wth (a b : Tr) | wout (a : Tr) (d : Nat) | also (a : Tr) (d n : Nat) | ren (a : Tr) (d n : Nat) | over (a : Tr) (p : Nat)
def Tr.enc : Tr → D
  | .part p => .tup [.str "part", .str (sg p)]
  | .wth a b => .tup [.str "with", a.enc, b.enc]
  | .wout a d => .tup [.str "without", a.enc, .str (sg d)]
  | .also a d n => .tup [.str "also", a.enc, .str (sg d), .str (sg n)]
  | .ren a d n => .tup [.str "renamed", a.enc, .str (sg d), .str (sg n)]
  | .over a p => .tup [.str "over", a.enc, .str (sg p)]
def Tr.size : Tr → Nat
  | .part _ => 1
  | .wth a b => 1 + a.size + b.size
  | .wout a _ => 1 + a.size
  | .also a _ _ => 1 + a.size
  | .ren a _ _ => 1 + a.size
  | .over a _ => 1 + a.size
def Tr.dep : Tr → Nat
  | .part _ => 1
  | .wth a b => max a.dep b.dep + 1
  | .wout a _ => a.dep + 1
  | .also a _ _ => a.dep + 1
  | .ren a _ _ => a.dep + 1
  | .over a _ => a.dep + 1
def Tr.wf (ns : List Nat) : Tr → Prop
  | .part p => p ∈ ns
  | .wth a b => a.wf ns ∧ b.wf ns
  | .wout a d => a.wf ns ∧ deedC d
  | .also a d n => a.wf ns ∧ deedC d ∧ deedC n
  | .ren a d n => a.wf ns ∧ deedC d ∧ deedC n
  | .over a p => a.wf ns ∧ p ∈ ns
theorem Tr.dep_pos (t : Tr) : 1 ≤ t.dep := by cases t <;> simp [Tr.dep]
theorem Tr.tup (t : Tr) : ∃ x ds, t.enc = .tup (.str x :: ds) := by cases t <;> exact ⟨_, _, rfl⟩
theorem Tr.okD {ns : List Nat} (hn : ∀ n ∈ ns, n < 1114112) : ∀ (t : Tr), t.wf ns → L3.okD t.enc t.dep
  | .part p, h => okD_tup (by simp; exact ⟨okD_str (by decide +kernel), okD_sg (hn p h)⟩)
  | .wth a b, h => okD_tup (by simp; exact ⟨okD_str (by decide +kernel), (Tr.okD hn a h.1).mono (by omega), (Tr.okD hn b h.2).mono (by omega)⟩)
  | .wout a d, h => okD_tup (by simp; exact ⟨okD_str (by decide +kernel), Tr.okD hn a h.1, okD_sg (deedC.lt h.2)⟩)
  | .also a d n, h => okD_tup (by simp; exact ⟨okD_str (by decide +kernel), Tr.okD hn a h.1, okD_sg (deedC.lt h.2.1), okD_sg (deedC.lt h.2.2)⟩)
  | .ren a d n, h => okD_tup (by simp; exact ⟨okD_str (by decide +kernel), Tr.okD hn a h.1, okD_sg (deedC.lt h.2.1), okD_sg (deedC.lt h.2.2)⟩)
  | .over a p, h => okD_tup (by simp; exact ⟨okD_str (by decide +kernel), Tr.okD hn a h.1, okD_sg (hn p h.2)⟩)
/-- a shelf of parts -/
structure ShOk (ps : List Part) : Prop where
  ok : ∀ p ∈ ps, p.ok
  six : ps.length ≤ 6
  nd : (ps.map (·.nm)).Nodup
theorem ShelfOk.sh {sg : Gv} {cl : Cv} {ps : List Part} (h : ShelfOk sg cl ps) : ShOk ps := ⟨fun p hp => let ⟨_, _, g, _⟩ := h.part p hp; g.ok, h.six, by rw [h.nms]; exact List.Nodup.sublist (List.take_sublist _ _) (by decide)⟩
def tb : Nat → Nat
  | 0 => 1
  | n + 1 => 1 + 2 * tb n
end L3
namespace L3
open PySem PySem.Spec PyProof.Rows L2
section
variable {X : Cx} {pos : Pos} {a b c : Expr}
/-- a if c else b as a test -/
def tIfT (tc ta tb : TT) : TT := fun σ H Q => tc σ H fun d H1 => if d = true then ta σ H1 Q else tb σ H1 Q
theorem pt_ifExp {tc ta tb : TT} (hc : PT X c tc) (ha : PT X a ta) (hb : PT X b tb) : PT X (.IfExp c a b pos) (tIfT tc ta tb) := by
  refine ⟨fun pins s σ H Q I h => ?_⟩
  rw [arm_isTrue_IfExp]
  refine wpAny_bind (thn (hc.run pins s σ H _ I h) fun d s1 ⟨H1, I1, q1⟩ => ?_)
  cases d with
  | true => exact ha.run pins s1 σ H1 Q I1 q1
  | false => exact hb.run pins s1 σ H1 Q I1 q1
def aIfT (t ta tb : ATt) : ATt := fun δ m Q => t δ m fun c m1 => if c = true then ta δ m1 Q else tb δ m1 Q
theorem at_if {t ta tb : ATt} (hc : AT X c t) (h : AT X a ta) (g : AT X b tb) : AT X (.IfExp c a b pos) (aIfT t ta tb) :=
  let ⟨_, pc, sc⟩ := hc.ex
  let ⟨_, p, s⟩ := h.ex
  let ⟨_, p', s'⟩ := g.ex
  ⟨_, pt_ifExp pc p p', fun B δ m Q σ H W E h Q' k => sc B δ m _ σ H W E h _ fun c m1 H1 s1 W1 q => by
    cases c with
    | true => exact s B δ m1 _ σ H1 W1 (E.carry s1.carry) q _ (k.step s1)
    | false => exact s' B δ m1 _ σ H1 W1 (E.carry s1.carry) q _ (k.step s1)⟩
end
end L3
namespace L3
open PySem PySem.Spec PyProof.Rows L2
section
variable {X : Cx} {pos : Pos} {a b : Expr}
end
/-- a shelf, maybe of two -/
structure AnyOk (ps : List Part) : Prop where
  one : 1 ≤ ps.length
  six : ps.length ≤ 6
  nms : ps.map (·.nm) = lettersP.take ps.length
  part : ∀ p ∈ ps, p.ok ∧ p.wrong = none ∧ (∀ d ∈ p.ds, d.b.dep ≤ 4 ∧ d.b.words ≤ 40) ∧ p.ds.length ≤ 4
theorem AnyOk.sh {ps : List Part} (h : AnyOk ps) : ShOk ps := ⟨fun p hp => (h.part p hp).1, h.six, by rw [h.nms]; exact List.Nodup.sublist (List.take_sublist _ _) (by decide)⟩
theorem ShelfOk.any {sg : Gv} {cl : Cv} {ps : List Part} (h : ShelfOk sg cl ps) : AnyOk ps := ⟨h.one, h.six, h.nms, fun p hp => by
  obtain ⟨own, others, g, hl⟩ := h.part p hp
  refine ⟨g.ok, g.right, g.dep, ?_⟩
  have := nodup_len (l := p.ds.map (·.c)) (k := own) g.ok.dr.nodup fun c hc => (g.own c).mp hc
  rw [List.length_map] at this
  omega⟩
theorem TrSz.wth {n a b : Nat} (h : a ≤ tb n) (g : b ≤ tb n) : 1 + a + b ≤ tb (n + 1) := by simp only [tb]; omega
end L3
namespace L3
open PySem PySem.Spec PyProof.Rows L2
end L3
namespace L3
open PySem PySem.Spec PyProof.Rows L2
section
variable {X : Cx} {pos : Pos}
end
end L3
/-! L15: objects of the program's classes, in the store. -/
namespace L3
open PySem PySem.Spec PyProof.Rows L2
section
variable {K : PySem.W.Frag} {H : Hp} {N : Addr → Prop}
end
section
variable {X : Cx} {pos : Pos} {e o : Expr} {C : Addr} {f : Str}
/-- a method that keeps a promise over data -/
structure FnM (P : Program) (w : World) (K : PySem.W.Frag) (mg : Str → Option Value) (base : Heap) (C : Addr) (mth : Str) (k : Nat) (sp : SpD) : Prop where
  ex : ∃ (f : Addr) (fd : FuncData) (ps : List Str), FnOk P w K mg base L2.CX0 k f fd ps (spD K sp) ∧ Meth K C mth f ∧ Binds K fd ps []
theorem FnM.mono {P w K mg base C x j k sp} (h : FnM P w K mg base C x j sp) (hj : j ≤ k) : FnM P w K mg base C x k sp := let ⟨f, fd, ps, F, r⟩ := h.ex; ⟨f, fd, ps, F.mono hj, r⟩
/-- a class's __init__ that does -/
structure FnI (P : Program) (w : World) (K : PySem.W.Frag) (mg : Str → Option Value) (base : Heap) (C : Addr) (k : Nat) (sp : SpD) : Prop where
  ex : ∃ (f : Addr) (fd : FuncData) (ps : List Str), FnOk P w K mg base L2.CX0 k f fd ps (spD K sp) ∧ Mk K C f ∧ Binds K fd ps []
theorem FnI.mono {P w K mg base C j k sp} (h : FnI P w K mg base C j sp) (hj : j ≤ k) : FnI P w K mg base C k sp := let ⟨f, fd, ps, F, r⟩ := h.ex; ⟨f, fd, ps, F.mono hj, r⟩
section
variable {es : List Expr} {to : AEt} {t : AAt} {apos : Pos} {mth : Str} {k : Nat} {sp : SpD}
end
end
structure DefI (K : PySem.W.Frag) (C : Addr) (qual : Str) (st : Stmt) (ps : List Str) : Prop where
  ex : ∃ (f : Addr) (fd : FuncData), FunD K "__init__" qual (defArgs st) (defBody st) (defScope st) [] [] f fd ∧ Mk K C f ∧ Binds K fd ps []
section
variable {P : Program} {w : World} {K : PySem.W.Frag} {mg : Str → Option Value} {base : Heap} {x qual : Str} {st : Stmt} {N ps : List Str} {k : Nat} {sp : SpD} {C : Addr}
theorem okQ {f : Addr} {fd : FuncData} (F : FunD K x qual (defArgs st) (defBody st) (defScope st) [] [] f fd) (S : FnScope N ps (defScope st)) (hlen : ∀ ds m Q, sp ds m Q → ds.length = ps.length)
    (hbody : ∀ (f : Addr) (cdv : Value) (A : Around) (outer : List Env) (s : Shared) (H : Hp) (E : XK), Room k (A.deeper (envOfC qual (defScope st) s.heap.objs.size f cdv)) →
      ∃ t, ASs (cxOf L2.CX0 P w K mg base N qual (defScope st) f cdv A outer s H E).nox (defBody st) t ∧ ∀ ds m Q, sp ds m Q → t (endsZ Q) (startD N ds) m) : FnOk P w K mg base L2.CX0 (k + 1) f fd ps (spD K sp) := by
  refine F.ok S (fun vs H Q E ⟨B, m, ds, Qd, W, r, q, _⟩ => by rw [r.len]; exact hlen _ _ _ q) (fun cdv A outer s H vs Q E hr ⟨B, m, ds, Qd, W, r, q, k⟩ => ?_)
  obtain ⟨t, h, hq⟩ := hbody f cdv A outer s H E hr
  obtain ⟨ts, ps', ss⟩ := h.ex
  exact ⟨ts, PSs.nox ps', ss B _ (startD N ds) m _ H W (EnvD.start N r) (hq ds m Qd q) _ ⟨fun δ' m' σ' H' st W' E' q' => k.fz _ m' _ H' st W' (rep_non.mpr rfl) q', k.fz, fun _ _ _ _ _ _ _ q' => q'.elim, fun _ _ _ _ _ _ _ q' => q'.elim⟩⟩
/-- what the head tells of a class -/
structure ClsT (K : PySem.W.Frag) (mg : Str → Option Value) (x : Str) (C : Addr) (fs : List Str) : Prop where
  c : Cls K C
  g : mg x = some (.ref C)
  n : ∀ f ∈ fs, NoAttr K C f
end
/-- a def under another name -/
structure DefN (K : PySem.W.Frag) (mg : Str → Option Value) (x nm : Str) (st : Stmt) (ps : List Str) : Prop where
  ex : ∃ (f : Addr) (fd : FuncData), FunD K nm nm (defArgs st) (defBody st) (defScope st) [] [] f fd ∧ mg x = some (.ref f) ∧ Binds K fd ps []
theorem DefN.of {K : PySem.W.Frag} {mg : Str → Option Value} {x : Str} {st : Stmt} {ps : List Str} (F : DefT K mg x st ps) : DefN K mg x x st ps := ⟨F.ex⟩
theorem fnd_ofN {P : Program} {w : World} {K : PySem.W.Frag} {mg : Str → Option Value} {base : Heap} {x nm : Str} {st : Stmt} {N ps : List Str} {k : Nat} {sp : SpD} (F : DefN K mg x nm st ps) (S : FnScope N ps (defScope st)) (hlen : ∀ ds m Q, sp ds m Q → ds.length = ps.length)
    (hbody : ∀ (f : Addr) (cdv : Value) (A : Around) (outer : List Env) (s : Shared) (H : Hp) (E : XK), Room k (A.deeper (envOfC nm (defScope st) s.heap.objs.size f cdv)) →
      ∃ t, ASs (cxOf L2.CX0 P w K mg base N nm (defScope st) f cdv A outer s H E).nox (defBody st) t ∧ ∀ ds m Q, sp ds m Q → t (endsZ Q) (startD N ds) m) : FnD P w K mg base x (k + 1) sp := by
  obtain ⟨f, fd, F, hm, hb⟩ := F.ex
  exact ⟨f, fd, ps, okQ F S hlen hbody, hm, F.kp, hb⟩
theorem defN_of {K : PySem.W.Frag} {mg : Str → Option Value} {x nm : Str} {st : Stmt} {ps : List Str} {f : Addr} {fd : FuncData} (F : FunD K nm nm (defArgs st) (defBody st) (defScope st) [] [] f fd) (hm : mg x = some (.ref f)) (hb : Binds K fd ps []) : DefN K mg x nm st ps := ⟨f, fd, F, hm, hb⟩
end L3
/-! L13: what the head tells of data of the top. -/
namespace L3
open PySem PySem.Spec PyProof.Rows L2
mutual
theorem repB_ok {K : PySem.W.Frag} : ∀ (d : D) (u : Value), repB K d u = true → ∃ v, RelV v u ∧ ∀ H N, Rep K H N d v
  | .non, u, h => by
    cases u <;> first | (simp [repB] at h; done) | exact ⟨.non, rfl, fun _ _ => rep_non.mpr rfl⟩
  | .bl b, u, h => by
    cases u <;> first | (simp [repB] at h; done) | skip
    rename_i c
    have : b = c := by simpa [repB] using h
    subst this
    exact ⟨.bl b, rfl, fun _ _ => rep_bl.mpr rfl⟩
  | .int i, u, h => by
    cases u <;> first | (simp [repB] at h; done) | skip
    rename_i j t
    have : i = j := by simpa [repB] using h
    subst this
    exact ⟨.int i, ⟨t, rfl⟩, fun _ _ => rep_int.mpr rfl⟩
  | .str i, u, h => by
    cases u <;> first | (simp [repB] at h; done) | skip
    rename_i j t
    have : i = j := by simpa [repB] using h
    subst this
    exact ⟨.str i, ⟨t, rfl⟩, fun _ _ => rep_str.mpr rfl⟩
  | .tup ds, u, h => by
    cases u <;> first | (simp [repB] at h; done) | skip
    rename_i a
    simp only [repB] at h
    split at h
    · rename_i t its n sl e
      simp only [Bool.and_eq_true, decide_eq_true_eq] at h
      obtain ⟨h1, h2, h3⟩ := h
      obtain ⟨vs, r, q⟩ := repsB_ok ds its.toList h3
      refine ⟨.ref a, rfl, fun H N => rep_tup.mpr ⟨a, vs, rfl, .inr ⟨_, its, n, e, by rw [h1], rfl, rfl, ?_, r⟩, q H N⟩⟩
      have := Nat.le_of_ble_eq_true h2
      exact Nat.le_trans this (szl (by decide))
    · cases h
  | .lst _, u, h => by cases u <;> simp [repB] at h
  | .dct _, u, h => by cases u <;> simp [repB] at h
  | .ref _, u, h => by cases u <;> simp [repB] at h
  | .ty _, u, h => by cases u <;> simp [repB] at h
  | .fl _, u, h => by cases u <;> simp [repB] at h
theorem repsB_ok {K : PySem.W.Frag} : ∀ (ds : List D) (us : List Value), repsB K ds us = true → ∃ vs, Vals vs us ∧ ∀ H N, Reps K H N ds vs
  | [], [], _ => ⟨[], .nil, fun _ _ => reps_nil.mpr rfl⟩
  | [], _ :: _, h => by simp [repsB] at h
  | _ :: _, [], h => by simp [repsB] at h
  | d :: ds, u :: us, h => by
    simp only [repsB, Bool.and_eq_true] at h
    obtain ⟨v, r, q⟩ := repB_ok d u h.1
    obtain ⟨vs, rs, qs⟩ := repsB_ok ds us h.2
    exact ⟨v :: vs, .cons r rs, fun H N => reps_cons.mpr ⟨v, vs, rfl, q H N, qs H N⟩⟩
end
theorem gloB_ok {K : PySem.W.Frag} {h : Heap} {mg : Str → Option Value} {x : Str} {d : D} (X : K.In h) (G : h.Ns mainGlobals mg) (c : gloB K x d = true) : GloD K mg x d := by
  unfold gloB at c
  split at c
  · rename_i u e
    obtain ⟨v, r, q⟩ := repB_ok d u c
    exact ⟨u, v, PySem.W.mg_of X G e, r, q⟩
  · cases c
theorem ent_find {K : PySem.W.Frag} {z : Str} : ∀ {kvs : List (Str × D)} {es : List DictEntry}, entB K kvs es = true →
    match (kvs.find? fun p => decide (p.1 = z)).map (·.2) with
      | some d => ∃ u v, (es.find? (·.key.isStr z)).map (·.val) = some u ∧ RelV v u ∧ ∀ H N, Rep K H N d v
      | none => es.find? (·.key.isStr z) = none
  | [], [], _ => rfl
  | [], _ :: _, h => by simp [entB] at h
  | _ :: _, [], h => by simp [entB] at h
  | (k, d) :: r, e :: es, h => by
    simp only [entB, Bool.and_eq_true] at h
    obtain ⟨h1, h2, h3⟩ := h
    have ih := ent_find (z := z) h3
    cases hk : e.key with
    | str x t =>
      rw [hk] at h1
      have e1 : x = k := by simpa using h1
      subst e1
      rw [List.find?_cons, List.find?_cons]
      by_cases q : x = z
      · subst q
        have : e.key.isStr x = true := by rw [hk]; simp [Value.isStr]
        rw [this]
        simp only [decide_true, Option.map_some]
        obtain ⟨v, rv, qv⟩ := repB_ok d e.val h2
        exact ⟨e.val, v, rfl, rv, qv⟩
      · have : e.key.isStr z = false := by rw [hk]; simp [Value.isStr, q]
        rw [this]
        simp only [q, decide_false]
        exact ih
    | _ => rw [hk] at h1; cases h1
theorem tabB_ok {K : PySem.W.Frag} {w : World} {mg : Str → Option Value} {x : Str} {a : Addr} {es : Array DictEntry} {n : Nat} {kvs : List (Str × D)} (hm : mg x = some (.ref a)) (D : KDict K w a es n) (c : tabB K a kvs = true) : KTab K w mg x kvs := by
  refine ⟨a, es, n, hm, D, fun z => ?_⟩
  unfold tabB at c
  rw [D.at_] at c
  have q := ent_find (z := z) c
  have nr : es.toList.any (·.refKey) = false := by
    rw [List.any_eq_false]
    intro e he
    obtain ⟨y, t, h1, _⟩ := D.lit.all e he
    simp [DictEntry.refKey, h1]
  unfold PySem.W.nsIn
  rw [D.at_]
  cases f : (kvs.find? fun p => decide (p.1 = z)).map (·.2) with
  | none =>
    rw [f] at q
    simp only [q, nr]
    rfl
  | some d =>
    rw [f] at q
    obtain ⟨u, v, h1, h2, h3⟩ := q
    refine ⟨u, v, ?_, h2, h3⟩
    cases g : es.toList.find? (·.key.isStr z) with
    | none => rw [g] at h1; cases h1
    | some e => rw [g] at h1; cases h1; simp only [g]
/-- a def of the top, by name -/
theorem defT_of {K : PySem.W.Frag} {mg : Str → Option Value} {x : Str} {st : Stmt} {ps : List Str} {f : Addr} {fd : FuncData} (F : FunD K x x (defArgs st) (defBody st) (defScope st) [] [] f fd) (hm : mg x = some (.ref f)) (hb : Binds K fd ps []) : DefT K mg x st ps := ⟨f, fd, F, hm, hb⟩
end L3
/-! L16: texts; enumerate; a copy of a module's table. -/
namespace L3
open PySem PySem.Spec PyProof.Rows L2
section
variable {X : Cx} {pos apos : Pos} {o e : Expr} {to te : AEt}
/-! ### texts -/
/-! ### enumerate -/
/-! ### a copy of a module's table -/
def entP (K : PySem.W.Frag) : List (Str × D) → List DictEntry → Prop
  | [], [] => True
  | (k, d) :: r, e :: es => (∃ t, e.key = .str k t) ∧ (∃ v, RelV v e.val ∧ ∀ H N, Rep K H N d v) ∧ entP K r es
  | _, _ => False
theorem entP_of {K : PySem.W.Frag} : ∀ {kvs : List (Str × D)} {es : List DictEntry}, entB K kvs es = true → entP K kvs es
  | [], [], _ => trivial
  | [], _ :: _, h => by simp [entB] at h
  | _ :: _, [], h => by simp [entB] at h
  | (k, d) :: r, e :: es, h => by
    simp only [entB, Bool.and_eq_true] at h
    obtain ⟨h1, h2, h3⟩ := h
    refine ⟨?_, repB_ok d e.val h2, entP_of h3⟩
    cases hk : e.key with
    | str x t =>
      rw [hk] at h1
      have e1 : x = k := by simpa using h1
      subst e1
      exact ⟨t, rfl⟩
    | _ => rw [hk] at h1; cases h1
/-- a module's table, its entries in order -/
structure KTabO (K : PySem.W.Frag) (w : World) (mg : Str → Option Value) (x : Str) (kvs : List (Str × D)) : Prop where
  ex : ∃ d es n, mg x = some (.ref d) ∧ KDict K w d es n ∧ entP K kvs es.toList
theorem tabO_ok {K : PySem.W.Frag} {w : World} {mg : Str → Option Value} {x : Str} {a : Addr} {es : Array DictEntry} {n : Nat} {kvs : List (Str × D)} (hm : mg x = some (.ref a)) (D : KDict K w a es n) (c : tabB K a kvs = true) : KTabO K w mg x kvs := by
  refine ⟨a, es, n, hm, D, ?_⟩
  unfold tabB at c
  rw [D.at_] at c
  exact entP_of c
end
end L3
/-! L17: words, texts of words. -/
namespace L3
open PySem PySem.Spec PyProof.Rows L2
theorem str_ext {a b : Str} (h : a.cps.toList = b.cps.toList) : a = b := TL.ext_tl h
theorem tl_app (a b : Str) : (a ++ b).cps.toList = a.cps.toList ++ b.cps.toList := TL.tl_append a b
theorem len_tl (a : Str) : a.length = a.cps.toList.length := by simp [Str.length]
/-- joined by blanks, by ends of rows -/
def J (ys : List Str) : Str := Txt.join " " ys
def JN (ys : List Str) : Str := Txt.join "\n" ys
theorem joinTxt_cons {s z : Str} {xs : List Str} (h : xs ≠ []) : Txt.join s (z :: xs) = z ++ (s ++ Txt.join s xs) := by
  cases xs with
  | nil => exact absurd rfl h
  | cons y r =>
    apply str_ext
    have e1 := TL.tl_join s (z :: y :: r)
    have e2 := TL.tl_join s (y :: r)
    rw [← TL.join_eq] at e1 e2
    show TL.tl _ = _
    rw [e1, tl_app, tl_app]
    show _ = _ ++ (_ ++ TL.tl _)
    rw [e2]
    rfl
theorem joinTxt_one {s z : Str} : Txt.join s [z] = z := by rw [TL.join_eq]; rfl
theorem joinTxt_nil {s : Str} : Txt.join s [] = Str.empty := by rw [TL.join_eq]; rfl
theorem J_one {z : Str} : J [z] = z := joinTxt_one
theorem J_cons {z : Str} {xs : List Str} (h : xs ≠ []) : J (z :: xs) = z ++ (" " ++ J xs) := joinTxt_cons h
/-- the length of some words with a blank behind each -/
def tw (ys : List Str) : Nat := (ys.map (·.length)).sum + ys.length
theorem tw_nil : tw [] = 0 := rfl
theorem tw_cons {y : Str} {ys : List Str} : tw (y :: ys) = y.length + 1 + tw ys := by simp only [tw, List.map_cons, List.sum_cons, List.length_cons]; omega
/-- no blank, no end of a row -/
def isW (z : Str) : Prop := 32 ∉ z.cps.toList ∧ 10 ∉ z.cps.toList
instance (z : Str) : Decidable (isW z) := by unfold isW; infer_instance
theorem isW_sg {c : Nat} (h : 32 < c) : isW (sg c) := ⟨by simp [sg]; omega, by simp [sg]; omega⟩
theorem J_split {ys : List Str} (h : ys ≠ []) (hw : ∀ y ∈ ys, isW y) : Txt.split (J ys) " " = ys := TL.split_join (s := 32) (S := []) (by decide +kernel) (by decide +kernel) h fun p hp => (hw p hp).1
theorem JN_split {ys : List Str} (h : ys ≠ []) (hw : ∀ y ∈ ys, 10 ∉ y.cps.toList) : Txt.split (JN ys) "\n" = ys := TL.split_join (s := 10) (S := []) (by decide +kernel) (by decide +kernel) h fun p hp => hw p hp
/-! ### the words of a body -/
/-- a whole number's text -/
def ist (i : Int) : Str := (toString i : String)
def Bd.ws : Bd → List Str
  | .num i => ["number", ist i]
  | .tru b => ["truth", if b then "True" else "False"]
  | .emp => ["empty"]
  | .arg => ["argument"]
  | .cel c => ["cell", sg c]
  | .un w a => w.s :: a.ws
  | .bin w a b => w.s :: (a.ws ++ b.ws)
  | .ite a b c => "if" :: (a.ws ++ (b.ws ++ c.ws))
  | .set c a => "set" :: sg c :: a.ws
  | .cal d a => "call" :: sg d :: a.ws
theorem W1.isW (w : W1) : L3.isW w.s := by cases w <;> decide +kernel
theorem W2.isW (w : W2) : L3.isW w.s := by cases w <;> decide +kernel
theorem W1.len (w : W1) : w.s.length ≤ 5 := by cases w <;> decide +kernel
theorem W2.len (w : W2) : w.s.length ≤ 5 := by cases w <;> decide +kernel
theorem cellC.isW {c : Nat} (h : cellC c) : isW (sg c) := isW_sg (by unfold cellC at h; simp at h; omega)
theorem deedC.isW {c : Nat} (h : deedC c) : isW (sg c) := isW_sg (by unfold deedC at h; simp at h; omega)
theorem partC.isW {c : Nat} (h : partC c) : isW (sg c) := isW_sg (by unfold partC at h; simp at h; omega)
/-! ### the words of a tree -/
def Tr.ws : Tr → List Str
  | .part p => ["part", sg p]
  | .wth a b => "with" :: (a.ws ++ b.ws)
  | .wout a d => "without" :: (a.ws ++ [sg d])
  | .also a d n => "also" :: (a.ws ++ [sg d, sg n])
  | .ren a d n => "renamed" :: (a.ws ++ [sg d, sg n])
  | .over a p => "over" :: (a.ws ++ [sg p])
/-! ### the rows of a part -/
def dedW (d : Deed) : List Str := "deed" :: sg d.c :: d.tk.s :: d.tl.s :: d.b.ws
def askW (a : Nat × Kd × Kd) : List Str := ["ask", sg a.1, a.2.1.s, a.2.2.s]
def celW (a : Nat × Kd) : List Str := ["cell", sg a.1, a.2.s]
def Part.rows (p : Part) : List Str := J ["part", sg p.nm] :: (p.ds.map (fun d => J (dedW d)) ++ p.as.map (fun a => J (askW a)) ++ p.cs.map fun c => J (celW c))
/-! ### sizes -/
theorem Kd.isW (k : Kd) : L3.isW k.s := by cases k <;> decide +kernel
theorem Kd.len (k : Kd) : k.s.length ≤ 6 := by cases k <;> decide +kernel
theorem tw_le {n : Nat} : ∀ {ys : List Str}, (∀ y ∈ ys, y.length ≤ n) → tw ys ≤ ys.length * (n + 1)
  | [], _ => by rw [tw_nil]; omega
  | y :: ys, h => by
    have := h y List.mem_cons_self
    have := tw_le (ys := ys) fun z hz => h z (List.mem_cons_of_mem _ hz)
    rw [tw_cons, List.length_cons, Nat.add_mul]
    omega
theorem Tr.wf.mono {ns ms : List Nat} (h : ∀ n ∈ ns, n ∈ ms) : ∀ {t : Tr}, t.wf ns → t.wf ms
  | .part p, g => h _ g
  | .wth a b, g => ⟨Tr.wf.mono h g.1, Tr.wf.mono h g.2⟩
  | .wout a d, g => ⟨Tr.wf.mono h g.1, g.2⟩
  | .also a d n, g => ⟨Tr.wf.mono h g.1, g.2⟩
  | .ren a d n, g => ⟨Tr.wf.mono h g.1, g.2⟩
  | .over a p, g => ⟨Tr.wf.mono h g.1, h _ g.2⟩
theorem aok_tup {n : Nat} {ds : List D} (h : ds.length ≤ 1000) (g : ∀ x ∈ ds, aokD n x) : aokD (n + 1) (.tup ds) := ⟨h, g⟩
theorem Bd.aok : ∀ (b : Bd) (n : Nat), b.dep + 1 ≤ n → aokD n b.enc
  | b, 0, h => by omega
  | b, 1, h => by have := b.dep_pos; omega
  | .num i, n + 2, _ => aok_tup (by simp) (by intro x hx; simp only [List.mem_cons, List.not_mem_nil, or_false] at hx; rcases hx with rfl | rfl <;> trivial)
  | .tru i, n + 2, _ => aok_tup (by simp) (by intro x hx; simp only [List.mem_cons, List.not_mem_nil, or_false] at hx; rcases hx with rfl | rfl <;> trivial)
  | .emp, n + 2, _ => aok_tup (by simp) (by intro x hx; simp only [List.mem_cons, List.not_mem_nil, or_false] at hx; subst hx; trivial)
  | .arg, n + 2, _ => aok_tup (by simp) (by intro x hx; simp only [List.mem_cons, List.not_mem_nil, or_false] at hx; subst hx; trivial)
  | .cel c, n + 2, _ => aok_tup (by simp) (by intro x hx; simp only [List.mem_cons, List.not_mem_nil, or_false] at hx; rcases hx with rfl | rfl <;> trivial)
  | .un w a, n + 2, h => aok_tup (by simp) (by
      intro x hx; simp only [List.mem_cons, List.not_mem_nil, or_false] at hx; simp only [Bd.dep] at h
      rcases hx with rfl | rfl
      · trivial
      · exact Bd.aok a (n + 1) (by omega))
  | .bin w a b, n + 2, h => aok_tup (by simp) (by
      intro x hx; simp only [List.mem_cons, List.not_mem_nil, or_false] at hx; simp only [Bd.dep] at h
      rcases hx with rfl | rfl | rfl
      · trivial
      · exact Bd.aok a (n + 1) (by omega)
      · exact Bd.aok b (n + 1) (by omega))
  | .ite a b c, n + 2, h => aok_tup (by simp) (by
      intro x hx; simp only [List.mem_cons, List.not_mem_nil, or_false] at hx; simp only [Bd.dep] at h
      rcases hx with rfl | rfl | rfl | rfl
      · trivial
      · exact Bd.aok a (n + 1) (by omega)
      · exact Bd.aok b (n + 1) (by omega)
      · exact Bd.aok c (n + 1) (by omega))
  | .set c a, n + 2, h => aok_tup (by simp) (by
      intro x hx; simp only [List.mem_cons, List.not_mem_nil, or_false] at hx; simp only [Bd.dep] at h
      rcases hx with rfl | rfl | rfl
      · trivial
      · trivial
      · exact Bd.aok a (n + 1) (by omega))
  | .cal c a, n + 2, h => aok_tup (by simp) (by
      intro x hx; simp only [List.mem_cons, List.not_mem_nil, or_false] at hx; simp only [Bd.dep] at h
      rcases hx with rfl | rfl | rfl
      · trivial
      · trivial
      · exact Bd.aok a (n + 1) (by omega))
theorem Tr.aok : ∀ (b : Tr) (n : Nat), b.dep + 1 ≤ n → aokD n b.enc
  | b, 0, h => by omega
  | b, 1, h => by have := b.dep_pos; omega
  | .part p, n + 2, _ => aok_tup (by simp) (by intro x hx; simp only [List.mem_cons, List.not_mem_nil, or_false] at hx; rcases hx with rfl | rfl <;> trivial)
  | .wth a b, n + 2, h => aok_tup (by simp) (by
      intro x hx; simp only [List.mem_cons, List.not_mem_nil, or_false] at hx; simp only [Tr.dep] at h
      rcases hx with rfl | rfl | rfl
      · trivial
      · exact Tr.aok a (n + 1) (by omega)
      · exact Tr.aok b (n + 1) (by omega))
  | .wout a d, n + 2, h => aok_tup (by simp) (by
      intro x hx; simp only [List.mem_cons, List.not_mem_nil, or_false] at hx; simp only [Tr.dep] at h
      rcases hx with rfl | rfl | rfl
      · trivial
      · exact Tr.aok a (n + 1) (by omega)
      · trivial)
  | .also a d e, n + 2, h => aok_tup (by simp) (by
      intro x hx; simp only [List.mem_cons, List.not_mem_nil, or_false] at hx; simp only [Tr.dep] at h
      rcases hx with rfl | rfl | rfl | rfl
      · trivial
      · exact Tr.aok a (n + 1) (by omega)
      · trivial
      · trivial)
  | .ren a d e, n + 2, h => aok_tup (by simp) (by
      intro x hx; simp only [List.mem_cons, List.not_mem_nil, or_false] at hx; simp only [Tr.dep] at h
      rcases hx with rfl | rfl | rfl | rfl
      · trivial
      · exact Tr.aok a (n + 1) (by omega)
      · trivial
      · trivial)
  | .over a d, n + 2, h => aok_tup (by simp) (by
      intro x hx; simp only [List.mem_cons, List.not_mem_nil, or_false] at hx; simp only [Tr.dep] at h
      rcases hx with rfl | rfl | rfl
      · trivial
      · exact Tr.aok a (n + 1) (by omega)
      · trivial)
theorem Deed.aok {d : Deed} {n : Nat} (h : d.b.dep + 2 ≤ n) : aokD n d.enc := by
  obtain ⟨k, rfl⟩ : ∃ k, n = k + 2 := ⟨n - 2, by omega⟩
  refine aok_tup (by simp) fun x hx => ?_
  simp only [List.mem_cons, List.not_mem_nil, or_false] at hx
  rcases hx with rfl | rfl | rfl | rfl
  · trivial
  · trivial
  · trivial
  · exact d.b.aok _ (by omega)
theorem askD_aok {a : Nat × Kd × Kd} {n : Nat} : aokD (n + 2) (askD a) := by
  refine aok_tup (by simp) fun x hx => ?_
  simp only [List.mem_cons, List.not_mem_nil, or_false] at hx
  rcases hx with rfl | rfl | rfl <;> trivial
theorem celD_aok {a : Nat × Kd} {n : Nat} : aokD (n + 2) (celD a) := by
  refine aok_tup (by simp) fun x hx => ?_
  simp only [List.mem_cons, List.not_mem_nil, or_false] at hx
  rcases hx with rfl | rfl <;> trivial
theorem Part.aok {p : Part} (h : p.ok) : aokD 16 p.enc := by
  have h1 := h.dl
  have h2 := h.al
  have h3 := h.cl
  refine aok_tup (by simp) fun x hx => ?_
  simp only [List.mem_cons, List.not_mem_nil, or_false] at hx
  rcases hx with rfl | rfl | rfl | rfl
  · trivial
  · refine aok_tup (by simp; omega) fun x hx => ?_
    obtain ⟨d, hd, rfl⟩ := List.mem_map.mp hx
    exact Deed.aok (by have := (h.dok d hd).dep; omega)
  · refine aok_tup (by simp; omega) fun x hx => ?_
    obtain ⟨d, hd, rfl⟩ := List.mem_map.mp hx
    exact askD_aok
  · refine aok_tup (by simp; omega) fun x hx => ?_
    obtain ⟨d, hd, rfl⟩ := List.mem_map.mp hx
    exact celD_aok
end L3
/-! L18: dicts walked over, popped from. -/
namespace L3
open PySem PySem.Spec PyProof.Rows L2
/-! ### a dict is locked while a statement, an expression runs -/
section
variable {K : PySem.W.Frag} {H : Hp} {B : Addr → Prop} {m : Mu}
end
section
variable {X : Cx} {pos : Pos}
/-! ### for k in d -/
end
section
variable {X : Cx} {pos : Pos} {elt tg iter : Expr} {ifs : List Expr} {scope : Scope} {own : List (Str × Nat)} {g : AGt} {tt : ATt} {te ti : AEt} {gt : TG}
/-! ### d.pop(k, e) -/
variable {o e f : Expr} {to te' tf : AEt} {apos : Pos}
end
end L3
/-! L19: sets of keys that stand in the heap (tuples of texts); sorted of them. -/
namespace L3
open PySem PySem.Spec PyProof.Rows L2
section
variable {P : Program} {w : World} {κ : Type} [DecidableEq κ] {kd : HeapKind P w κ}
/-- what a set asks of such keys besides -/
structure Qk (kd : HeapKind P w κ) : Prop where
  seq : ∀ {h : Heap} {k : κ} {b : Addr}, kd.is h k b → ∃ o its n, h.get? b = some o ∧ o.data = .seq its n
  keep : ∀ {h h' : Heap} {k : κ} {b : Addr}, kd.is h k b → (∀ o, h.get? b = some o → h'.get? b = some o) → kd.is h' k b
  cls : ∀ {A : Around} {E : Value → Shared → Prop} {s : Shared} {k : κ} {b : Addr} {Q : Bool → Shared → Prop}, kd.is s.heap k b → Q false s → wpAny (model P w) A (ofAClassStatement 8 (.ref b)) Q E s
  val : ∀ {A : Around} {E : Value → Shared → Prop} {s : Shared} {k : κ} {b : Addr} {Q : Bool → Shared → Prop}, kd.is s.heap k b → (∀ v, Q v s) → wpAny (model P w) A (hashByValue 8 (.ref b)) Q E s
theorem Qk.same (q : Qk kd) {h h' : Heap} {k : κ} {a b : Addr} {o : Obj} {es : Array (Int × Value)} {ep : Nat} {t : SetTable} (x : kd.is h k b) (ho : h.get? a = some o) (hd : o.data = .set es ep t) (hs : Heap.SameBut a h h') : kd.is h' k b :=
  q.keep x fun u e => (hs.2 b (fun z => by
    obtain ⟨o', its, n, e1, e2⟩ := q.seq x
    rw [z, ho] at e1
    cases e1
    rw [hd] at e2
    cases e2)).trans e
def rowsK (kd : HeapKind P w κ) (L : List (Addr × κ)) : List (Int × Value) := L.map fun p => (kd.hash p.2, Value.ref p.1)
/-- the set at a holds the keys of L, in the table's turn -/
structure SetK (kd : HeapKind P w κ) (h : Heap) (a : Addr) (L : List (Addr × κ)) (es : Array (Int × Value)) (ep : Nat) (t : SetTable) : Prop where
  ob : ∃ o, h.get? a = some o ∧ o.ExactSet ∧ o.data = .set es ep t
  rows : es.toList = rowsK kd L
  tab : TabOk t (L.map fun p => kd.hash p.2)
  nd : (L.map (·.2)).Nodup
  key : ∀ p ∈ L, kd.is h p.2 p.1
  led : w.params.followText "set-order" = true ∨ t.led = true
  room : L.length * 5 < t.mask * 3
variable {A : Around} {E : Value → Shared → Prop} {s : Shared} {a x : Addr} {k : κ} {L : List (Addr × κ)} {es : Array (Int × Value)} {ep : Nat} {t : SetTable}
/-- what the set has of the first i items -/
structure GotK (ks : List (Addr × κ)) (i : Nat) (L : List (Addr × κ)) : Prop where
  sub : ∀ p ∈ L, p ∈ ks.take i
  all : ∀ p ∈ ks.take i, p.2 ∈ L.map (·.2)
theorem GotK.zero (ks : List (Addr × κ)) : GotK ks 0 [] := ⟨fun _ h => (nomatch h), fun _ h => by simp at h⟩
theorem GotK.next {ks L L' : List (Addr × κ)} {i : Nat} {u : Addr × κ} (g : GotK ks i L) (h : ks[i]? = some u) (c1 : u.2 ∈ L.map (·.2) → L' = L) (c2 : u.2 ∉ L.map (·.2) → L'.Perm (u :: L)) : GotK ks (i + 1) L' := by
  have e : ks.take (i + 1) = ks.take i ++ [u] := by rw [List.take_add_one, h]; rfl
  have both : (∀ p ∈ L', p = u ∨ p ∈ L) ∧ ∀ z, z = u.2 ∨ z ∈ L.map (·.2) → z ∈ L'.map (·.2) := by
    by_cases hm : u.2 ∈ L.map (·.2)
    · rw [c1 hm]
      exact ⟨fun p hp => .inr hp, fun z hz => hz.elim (fun q => by rw [q]; exact hm) id⟩
    · have pm := c2 hm
      refine ⟨fun p hp => List.mem_cons.mp (pm.mem_iff.mp hp), fun z hz => ?_⟩
      rw [(pm.map (·.2)).mem_iff, List.map_cons, List.mem_cons]
      exact hz
  refine ⟨fun p hp => ?_, fun p hp => both.2 _ ?_⟩
  · rw [e, List.mem_append, List.mem_singleton]
    exact (both.1 p hp).elim .inr fun z => .inl (g.sub p z)
  · rw [e, List.mem_append, List.mem_singleton] at hp
    exact hp.elim (fun z => .inr (g.all p z)) fun z => .inl (by rw [z])
theorem SetK.keep (q : Qk kd) {h h' : Heap} (R : SetK kd h a L es ep t) (ha : ∀ o, h.get? a = some o → h'.get? a = some o) (hk : ∀ p ∈ L, kd.is h' p.2 p.1) : SetK kd h' a L es ep t :=
  let ⟨o, ho, r⟩ := R.ob
  ⟨⟨o, ha o ho, r⟩, R.rows, R.tab, R.nd, hk, R.led, R.room⟩
end
end L3
namespace L3
open PySem PySem.Spec PyProof.Rows L2
/-! ### rows of texts: their order -/
def rowP (r : List Str) : PyData := .tuple (r.map .str)
def rle : List Str → List Str → Bool := PySem.W.dataLe false rowP
theorem rle_total : PySem.W.TotalLe rle := PySem.W.sortLe_total (PyProof.Rows.listOrd PyProof.Rows.itemOrd) false fun r => PySem.W.keyToks (rowP r)
def rsort (l : List (List Str)) : List (List Str) := l.mergeSort rle
theorem rsort_pw (l : List (List Str)) : (rsort l).Pairwise (fun a b => rle a b = true) := PySem.W.sort_pairwise rle_total l
/-- each once -/
def dd {α : Type} [DecidableEq α] (l : List α) : List α := l.foldl (fun acc x => if x ∈ acc then acc else acc ++ [x]) []
theorem dd_go {α : Type} [DecidableEq α] : ∀ (l acc : List α), acc.Nodup → (l.foldl (fun acc x => if x ∈ acc then acc else acc ++ [x]) acc).Nodup ∧ ∀ z, z ∈ l.foldl (fun acc x => if x ∈ acc then acc else acc ++ [x]) acc ↔ z ∈ acc ∨ z ∈ l
  | [], acc, h => ⟨h, fun z => by simp⟩
  | x :: l, acc, h => by
    rw [List.foldl_cons]
    by_cases e : x ∈ acc
    · rw [if_pos e]
      obtain ⟨h1, h2⟩ := dd_go l acc h
      refine ⟨h1, fun z => ?_⟩
      rw [h2, List.mem_cons]
      exact ⟨fun q => q.elim .inl fun q => .inr (.inr q), fun q => q.elim .inl fun q => q.elim (fun q => .inl (by rw [q]; exact e)) .inr⟩
    · rw [if_neg e]
      obtain ⟨h1, h2⟩ := dd_go l (acc ++ [x]) (by
        rw [List.nodup_append]
        exact ⟨h, by simp, fun a ha b hb => by rw [List.mem_singleton.mp hb]; exact fun q => e (by rw [← q]; exact ha)⟩)
      refine ⟨h1, fun z => ?_⟩
      rw [h2, List.mem_append, List.mem_singleton, List.mem_cons, or_assoc]
theorem dd_nodup {α : Type} [DecidableEq α] (l : List α) : (dd l).Nodup := (dd_go l [] List.nodup_nil).1
theorem dd_mem {α : Type} [DecidableEq α] {l : List α} {z : α} : z ∈ dd l ↔ z ∈ l := by
  have h := (dd_go l [] List.nodup_nil).2 z
  rw [show z ∈ dd l ↔ _ from h]; simp
/-! ### tuples of texts as keys -/
section
variable {P : Program} {w : World}
end
end L3
namespace L3
open PySem PySem.Spec PyProof.Rows L2
section
variable {P : Program} {w : World} {A : Around} {E : Value → Shared → Prop} {s : Shared}
end
end L3
namespace L3
open PySem PySem.Spec PyProof.Rows L2
/-! ### sorted(set(rows)), sorted(rows) -/
def rowT (r : List Str) : D := .tup (r.map D.str)
section
variable {K : PySem.W.Frag} {H : Hp} {N : Addr → Prop}
end
section
variable {X : Cx} {pos : Pos}
end
end L3
/-! L20: what is put together: forms, sheaves. -/
namespace L3
open PySem PySem.Spec PyProof.Rows L2
/-! ### lists of pairs as dicts -/
section
variable {α : Type}
def putA (l : List (Nat × α)) (c : Nat) (x : α) : List (Nat × α) := if (l.any fun p => decide (p.1 = c)) = true then l.map (fun p => if p.1 = c then (p.1, x) else p) else l ++ [(c, x)]
theorem putA_keys (l : List (Nat × α)) (c : Nat) (x : α) : (putA l c x).map (·.1) = if c ∈ l.map (·.1) then l.map (·.1) else l.map (·.1) ++ [c] := by
  unfold putA
  have e : (l.any fun p => decide (p.1 = c)) = true ↔ c ∈ l.map (·.1) := by
    rw [List.any_eq_true, List.mem_map]
    exact ⟨fun ⟨p, h, q⟩ => ⟨p, h, of_decide_eq_true q⟩, fun ⟨p, h, q⟩ => ⟨p, h, decide_eq_true q⟩⟩
  by_cases h : c ∈ l.map (·.1)
  · rw [if_pos (e.mpr h), if_pos h, List.map_map]
    exact List.map_congr_left fun p _ => by
      show (if p.1 = c then (p.1, x) else p).1 = p.1
      split <;> rfl
  · rw [if_neg (fun z => h (e.mp z)), if_neg h, List.map_append]; rfl
theorem putA_nodup {l : List (Nat × α)} {c : Nat} {x : α} (h : (l.map (·.1)).Nodup) : ((putA l c x).map (·.1)).Nodup := by
  rw [putA_keys]
  split
  · exact h
  · rename_i n
    rw [List.nodup_append]
    exact ⟨h, by simp, fun a ha b hb => by rw [List.mem_singleton.mp hb]; exact fun e => n (by rw [← e]; exact ha)⟩
theorem putA_mem {l : List (Nat × α)} {c : Nat} {x : α} {p : Nat × α} (h : p ∈ putA l c x) : p = (c, x) ∨ p ∈ l ∧ p.1 ≠ c := by
  unfold putA at h
  split at h
  · obtain ⟨q, hq, e⟩ := List.mem_map.mp h
    split at e
    · rename_i e2
      exact .inl (by rw [← e, e2])
    · rename_i e2
      exact .inr ⟨by rw [← e]; exact hq, by rw [← e]; exact e2⟩
  · rename_i n
    rcases List.mem_append.mp h with h | h
    · refine .inr ⟨h, fun e => n ?_⟩
      exact List.any_eq_true.mpr ⟨p, h, decide_eq_true e⟩
    · exact .inl (List.mem_singleton.mp h)
theorem lk_cons {a : Nat} {x : α} {l : List (Nat × α)} {c : Nat} : lk ((a, x) :: l) c = if a = c then some x else lk l c := by
  unfold lk
  rw [List.find?_cons]
  by_cases h : a = c
  · simp [h]
  · simp [h]
theorem lk_put (c d : Nat) (x : α) : ∀ l : List (Nat × α), lk (putA l c x) d = if d = c then some x else lk l d
  | [] => by
    show lk [(c, x)] d = _
    rw [lk_cons]
    by_cases h : c = d
    · subst h; simp
    · rw [if_neg h, if_neg (fun e => h e.symm)]
  | (a, y) :: l => by
    unfold putA
    by_cases h : a = c
    · subst h
      rw [if_pos (by simp)]
      rw [List.map_cons, if_pos rfl, lk_cons, lk_cons]
      by_cases e : a = d
      · subst e; simp
      · rw [if_neg e, if_neg e, if_neg (fun z => e z.symm)]
        have : ∀ l : List (Nat × α), lk (l.map fun p => if p.1 = a then (p.1, x) else p) d = lk l d := fun l => by
          induction l with
          | nil => rfl
          | cons p l ih =>
            obtain ⟨b, z⟩ := p
            rw [List.map_cons]
            by_cases q : b = a
            · rw [if_pos q, lk_cons, lk_cons, ih, if_neg (by rw [q]; exact e), if_neg (by rw [q]; exact e)]
            · rw [if_neg q, lk_cons, lk_cons, ih]
        exact this l
    · have ih := lk_put c d x l
      unfold putA at ih
      by_cases q : (l.any fun p => decide (p.1 = c)) = true
      · rw [if_pos q] at ih
        rw [if_pos (by rw [List.any_cons, q, Bool.or_true]), List.map_cons, if_neg h, lk_cons, lk_cons, ih]
        by_cases e : a = d
        · rw [if_pos e, if_pos e, if_neg (fun z => h (by rw [e, z]))]
        · rw [if_neg e, if_neg e]
      · rw [if_neg q] at ih
        rw [if_neg (by rw [List.any_cons, decide_eq_false h, Bool.false_or]; exact q), List.cons_append, lk_cons, lk_cons, ih]
        by_cases e : a = d
        · rw [if_pos e, if_pos e, if_neg (fun z => h (by rw [e, z]))]
        · rw [if_neg e, if_neg e]
def dropA (l : List (Nat × α)) (c : Nat) : List (Nat × α) := l.filter fun p => decide (p.1 ≠ c)
def mergeA (l r : List (Nat × α)) : List (Nat × α) := r.foldl (fun acc p => putA acc p.1 p.2) l
def addF [DecidableEq α] (xs ys : List α) : List α := xs ++ ys.filter fun y => decide (y ∉ xs)
/-- some forms of a name more -/
def addA [DecidableEq α] (l : List (Nat × List α)) (c : Nat) (ys : List α) : List (Nat × List α) := putA l c (addF ((lk l c).getD []) ys)
def bothA [DecidableEq α] (l r : List (Nat × List α)) : List (Nat × List α) := r.foldl (fun acc p => addA acc p.1 p.2) l
end
section
variable {α : Type} [DecidableEq α]
theorem addA_nodup {l : List (Nat × List α)} {c : Nat} {x : List α} (h : (l.map (·.1)).Nodup) : ((addA l c x).map (·.1)).Nodup := putA_nodup h
end
/-! ### bodies -/
def Bd.ren (d n : Nat) : Bd → Bd
  | .un w a => .un w (a.ren d n)
  | .bin w a b => .bin w (a.ren d n) (b.ren d n)
  | .ite a b c => .ite (a.ren d n) (b.ren d n) (c.ren d n)
  | .set c a => .set c (a.ren d n)
  | .cal c a => .cal (if c = d then n else c) (a.ren d n)
  | b => b
/-- the names of all deeds that a body calls, each once -/
def Bd.cin : Bd → List Nat
  | .un _ a => addF [] a.cin
  | .bin _ a b => addF (addF [] a.cin) b.cin
  | .ite a b c => addF (addF (addF [] a.cin) b.cin) c.cin
  | .set _ a => addF [] a.cin
  | .cal d a => addF [d] a.cin
  | _ => []
theorem addF_mem {α : Type} [DecidableEq α] {xs ys : List α} {z : α} : z ∈ addF xs ys ↔ z ∈ xs ∨ z ∈ ys := by
  unfold addF
  rw [List.mem_append, List.mem_filter, decide_eq_true_eq]
  exact ⟨fun h => h.imp id (·.1), fun h => by
    by_cases q : z ∈ xs
    · exact .inl q
    · exact h.elim (fun z => absurd z q) fun h => .inr ⟨h, q⟩⟩
theorem addF_nodup {α : Type} [DecidableEq α] {xs ys : List α} (h : xs.Nodup) (g : ys.Nodup) : (addF xs ys).Nodup := by
  unfold addF
  rw [List.nodup_append]
  refine ⟨h, g.filter _, fun a ha b hb e => ?_⟩
  rw [List.mem_filter, decide_eq_true_eq] at hb
  exact hb.2 (by rw [← e]; exact ha)
/-! ### forms -/
structure Fm where
  pn : Nat
  dn : Nat
  tk : Kd
  tl : Kd
  b : Bd
  ns : Gv
  deriving DecidableEq
def Fm.enc (f : Fm) : D := .tup [.tup [.str (sg f.pn), .str (sg f.dn)], .str f.tk.s, .str f.tl.s, f.b.enc, .tup (f.ns.map askD)]
abbrev Fms := List (Nat × List Fm)
abbrev Cks := List (Nat × List Kd)
structure Sh where
  ds : Fms
  cs : Cks
/-- rising -/
def srt (l : List Nat) : List Nat := l.mergeSort fun a b => decide (a ≤ b)
def askS (a : Nat × Kd × Kd) : List Str := [sg a.1, a.2.1.s, a.2.2.s]
def nsort (l : Gv) : Gv := l.mergeSort fun a b => rle (askS a) (askS b)
theorem nsort_rows (l : Gv) : (nsort l).map askS = rsort (l.map askS) := PySem.W.sort_maps (r := fun a b => rle (askS a) (askS b)) (s := rle) askS fun _ _ _ _ => rfl
theorem nsort_perm (l : Gv) : (nsort l).Perm l := List.mergeSort_perm _ _
theorem nsort_pw (l : Gv) : (nsort l).Pairwise fun a b => rle (askS a) (askS b) = true := by
  have h := rsort_pw (l.map askS)
  rw [← nsort_rows, List.pairwise_map] at h
  exact h
def ren1 (d n : Nat) (a : Nat × Kd × Kd) : Nat × Kd × Kd := (if a.1 = d then n else a.1, a.2)
def Fm.ren (d n : Nat) (f : Fm) : Fm := ⟨f.pn, f.dn, f.tk, f.tl, f.b.ren d n, nsort (dd (f.ns.map (ren1 d n)))⟩
/-! ### put together -/
def shOf (p : Part) : Sh := ⟨p.ds.map fun d => (d.c, [⟨p.nm, d.c, d.tk, d.tl, d.b, gvOf p.gv (srt d.b.cin)⟩]), p.cs.map fun c => (c.1, [c.2])⟩
/-- a deed renamed in it -/
def renD (d n : Nat) (s : Fms) : Fms := s.foldl (fun acc p => p.2.foldl (fun acc f => addA acc (if p.1 = d then n else p.1) [f.ren d n]) acc) []
def putT (sh : Nat → Sh) : Tr → Sh
  | .part p => sh p
  | .wth a b => ⟨bothA (putT sh a).ds (putT sh b).ds, bothA (putT sh a).cs (putT sh b).cs⟩
  | .wout a d => ⟨dropA (putT sh a).ds d, (putT sh a).cs⟩
  | .also a d n => ⟨match lk (putT sh a).ds d with | some fs => addA (putT sh a).ds n fs | none => (putT sh a).ds, (putT sh a).cs⟩
  | .ren a d n => if d = n then putT sh a else ⟨renD d n (putT sh a).ds, bothA [] (putT sh a).cs⟩
  | .over a p => ⟨mergeA (putT sh a).ds (sh p).ds, bothA (putT sh a).cs (sh p).cs⟩
/-! ### what is wanted -/
def clashes (s : Fms) : List Nat := (s.filter fun p => decide (1 < p.2.length)).map (·.1)
def lacks (s : Fms) : List Nat := s.flatMap fun p => p.2.flatMap fun f => (f.ns.filter fun a => (lk s a.1).isNone).map (·.1)
def unfits (s : Fms) : List (Nat × Nat) := s.flatMap fun p => p.2.flatMap fun f => (f.ns.filter fun a => match lk s a.1 with
  | some gs => gs.any fun g => decide ((g.tk, g.tl) ≠ a.2)
  | none => false).map fun a => (p.1, a.1)
def twos (s : Cks) : List Nat := (s.filter fun p => decide (1 < p.2.length)).map (·.1)
def prS (p : Nat × Nat) : List Str := [sg p.1, sg p.2]
/-- pairs, rising -/
def psort (l : List (Nat × Nat)) : List (Nat × Nat) := l.mergeSort fun a b => rle (prS a) (prS b)
structure Wt where
  cl : List Nat
  la : List Nat
  un : List (Nat × Nat)
  tw : List Nat
  deriving DecidableEq
def wants (s : Sh) : Wt := ⟨srt (clashes s.ds), srt (dd (lacks s.ds)), psort (dd (unfits s.ds)), srt (twos s.cs)⟩
def Wt.enc (w : Wt) : D := .tup [.lst (strD (w.cl.map sg)), .lst (strD (w.la.map sg)), .lst ((w.un.map prS).map rowT), .lst (strD (w.tw.map sg))]
end L3
/-! L21: forms, sheaves as data. -/
namespace L3
open PySem PySem.Spec PyProof.Rows L2
theorem W1.s_inj {a b : W1} : (a.s = b.s) = (a = b) := by cases a <;> cases b <;> simp [W1.s, ofs_inj]
theorem W2.s_inj {a b : W2} : (a.s = b.s) = (a = b) := by cases a <;> cases b <;> simp [W2.s, ofs_inj]
/-- the word of a body -/
def Bd.hd : Bd → Str
  | .num _ => "number"
  | .tru _ => "truth"
  | .emp => "empty"
  | .arg => "argument"
  | .cel _ => "cell"
  | .un w _ => w.s
  | .bin w _ _ => w.s
  | .ite _ _ _ => "if"
  | .set _ _ => "set"
  | .cal _ _ => "call"
def Bd.sort : Bd → Nat
  | .num _ => 0
  | .tru _ => 1
  | .emp => 2
  | .arg => 3
  | .cel _ => 4
  | .un _ _ => 5
  | .bin _ _ _ => 6
  | .ite _ _ _ => 7
  | .set _ _ => 8
  | .cal _ _ => 9
def hdSort (z : Str) : Nat := if z = "number" then 0 else if z = "truth" then 1 else if z = "empty" then 2 else if z = "argument" then 3 else if z = "cell" then 4 else if z = "if" then 7 else if z = "set" then 8 else if z = "call" then 9 else if z = "not" ∨ z = "first" ∨ z = "rest" ∨ z = "many" then 5 else 6
theorem hdSort1 (w : W1) : hdSort w.s = 5 := by cases w <;> decide +kernel
theorem hdSort2 (w : W2) : hdSort w.s = 6 := by cases w <;> decide +kernel
theorem hd_sort (b : Bd) : hdSort b.hd = b.sort := by
  cases b with
  | un w a => exact hdSort1 w
  | bin w a c => exact hdSort2 w
  | num i => show hdSort "number" = 0; decide +kernel
  | tru i => show hdSort "truth" = 1; decide +kernel
  | emp => show hdSort "empty" = 2; decide +kernel
  | arg => show hdSort "argument" = 3; decide +kernel
  | cel c => show hdSort "cell" = 4; decide +kernel
  | ite a b c => show hdSort "if" = 7; decide +kernel
  | set c a => show hdSort "set" = 8; decide +kernel
  | cal c a => show hdSort "call" = 9; decide +kernel
theorem enc_hd (b : Bd) : ∃ r, b.enc.pd = .tuple (.str b.hd :: r) := by
  cases b <;> exact ⟨_, by simp only [Bd.enc, D.pd, pds]; rfl⟩
theorem Bd.eqv : ∀ a b : Bd, PyData.eqv a.enc.pd b.enc.pd = decide (a = b) := by
  have ne : ∀ a b : Bd, a.sort ≠ b.sort → PyData.eqv a.enc.pd b.enc.pd = decide (a = b) := fun a b h => by
    obtain ⟨r, e⟩ := enc_hd a
    obtain ⟨r2, e2⟩ := enc_hd b
    rw [e, e2, decide_eq_false (fun z => h (by rw [z]))]
    have : ¬ a.hd = b.hd := fun z => h (by rw [← hd_sort, ← hd_sort, z])
    simp [PyData.eqv, PyData.eqvAll, this]
  intro a
  induction a with
  | num i => intro b; cases b <;> first | exact ne _ _ (Nat.ne_of_beq_eq_false rfl) | (rw [Bool.eq_iff_iff]; simp [Bd.enc, D.pd, pds, PyData.eqv, PyData.eqvAll])
  | tru i => intro b; cases b <;> first | exact ne _ _ (Nat.ne_of_beq_eq_false rfl) | (rename_i j; cases i <;> cases j <;> simp [Bd.enc, D.pd, pds, PyData.eqv, PyData.eqvAll])
  | emp => intro b; cases b <;> first | exact ne _ _ (Nat.ne_of_beq_eq_false rfl) | simp [Bd.enc, D.pd, pds, PyData.eqv, PyData.eqvAll]
  | arg => intro b; cases b <;> first | exact ne _ _ (Nat.ne_of_beq_eq_false rfl) | simp [Bd.enc, D.pd, pds, PyData.eqv, PyData.eqvAll]
  | cel c => intro b; cases b <;> first | exact ne _ _ (Nat.ne_of_beq_eq_false rfl) | (rw [Bool.eq_iff_iff]; simp [Bd.enc, D.pd, pds, PyData.eqv, PyData.eqvAll, sg_inj])
  | un w a ih => intro b; cases b <;> first | exact ne _ _ (Nat.ne_of_beq_eq_false rfl) | (rw [Bool.eq_iff_iff]; simp [Bd.enc, D.pd, pds, PyData.eqv, PyData.eqvAll, ih, W1.s_inj])
  | bin w a b ih1 ih2 => intro b; cases b <;> first | exact ne _ _ (Nat.ne_of_beq_eq_false rfl) | (rw [Bool.eq_iff_iff]; simp [Bd.enc, D.pd, pds, PyData.eqv, PyData.eqvAll, ih1, ih2, W2.s_inj])
  | ite a b c ih1 ih2 ih3 => intro b; cases b <;> first | exact ne _ _ (Nat.ne_of_beq_eq_false rfl) | simp [Bd.enc, D.pd, pds, PyData.eqv, PyData.eqvAll, ih1, ih2, ih3]
  | set c a ih => intro b; cases b <;> first | exact ne _ _ (Nat.ne_of_beq_eq_false rfl) | (rw [Bool.eq_iff_iff]; simp [Bd.enc, D.pd, pds, PyData.eqv, PyData.eqvAll, ih, sg_inj])
  | cal c a ih => intro b; cases b <;> first | exact ne _ _ (Nat.ne_of_beq_eq_false rfl) | (rw [Bool.eq_iff_iff]; simp [Bd.enc, D.pd, pds, PyData.eqv, PyData.eqvAll, ih, sg_inj])
theorem eqv_map {α : Type} [DecidableEq α] {f : α → D} (h : ∀ x y, PyData.eqv (f x).pd (f y).pd = decide (x = y)) : ∀ xs ys : List α, PyData.eqvAll (pds (xs.map f)) (pds (ys.map f)) = decide (xs = ys)
  | [], [] => by simp [pds, PyData.eqvAll]
  | [], _ :: _ => by simp [pds, PyData.eqvAll]
  | _ :: _, [] => by simp [pds, PyData.eqvAll]
  | x :: xs, y :: ys => by
    rw [List.map_cons, List.map_cons, pds, pds, PyData.eqvAll, h, eqv_map h xs ys, Bool.eq_iff_iff]
    simp
theorem askD_eqv (a b : Nat × Kd × Kd) : PyData.eqv (askD a).pd (askD b).pd = decide (a = b) := by
  obtain ⟨a1, a2, a3⟩ := a
  obtain ⟨b1, b2, b3⟩ := b
  rw [Bool.eq_iff_iff]
  simp [askD, D.pd, pds, PyData.eqv, PyData.eqvAll, sg_inj, Kd.s_inj]
theorem Fm.eqv (f g : Fm) : PyData.eqv f.enc.pd g.enc.pd = decide (f = g) := by
  obtain ⟨f1, f2, f3, f4, f5, f6⟩ := f
  obtain ⟨g1, g2, g3, g4, g5, g6⟩ := g
  rw [Bool.eq_iff_iff]
  simp only [Fm.enc, D.pd, pds, PyData.eqv, PyData.eqvAll, Bd.eqv, eqv_map askD_eqv]
  simp [sg_inj, Kd.s_inj, and_assoc]
/-! ### forms are fine data -/
structure Fm.ok (f : Fm) : Prop where
  pn : partC f.pn
  dn : deedC f.dn
  wf : f.b.wf
  dep : f.b.dep ≤ 10
  words : f.b.words ≤ 60
  ns : ∀ a ∈ f.ns, deedC a.1
  nl : f.ns.length ≤ 8
theorem ask_okD {a : Nat × Kd × Kd} (h : deedC a.1) {n : Nat} : L3.okD (askD a) (n + 1) := okD_tup (by simp; exact ⟨okD_sg (deedC.lt h), okD_str (Kd.ok _), okD_str (Kd.ok _)⟩)
theorem Fm.okD {f : Fm} (h : f.ok) : L3.okD f.enc 12 := okD_tup (by
  simp only [List.mem_cons, List.not_mem_nil, or_false, forall_eq_or_imp, forall_eq]
  refine ⟨okD_tup (by simp; exact ⟨okD_sg (partC.lt h.pn), okD_sg (deedC.lt h.dn)⟩), okD_str (Kd.ok _), okD_str (Kd.ok _), (Bd.okD f.b h.wf).mono (by have := h.dep; omega), okD_tup fun d hd => ?_⟩
  obtain ⟨a, ha, rfl⟩ := List.mem_map.mp hd
  exact ask_okD (h.ns a ha))
/-! ### dicts by names -/
section
variable {α : Type} (e : α → D)
end
end L3
/-! L22: new dicts; loops over dicts of the store by an invariant; what stands in the store, read. -/
namespace L3
open PySem PySem.Spec PyProof.Rows L2
section
variable {X : Cx} {pos : Pos}
end
section
variable {te : AEt} {g : AGt} {tb : ASt} {Z : AEnds} {δ : Dt} {m : Mu} {p : Addr} {ds : List (Key × D)}
variable {ti : AEt} {tt : ATt} {vs' : List Nat} {Q : EK}
end
section
variable {m : Mu} {Q : EK} {p q : Addr} {c : Cell} {z : Str} {d : D} {ds : List (Key × D)} {es : List D}
end
end L3
/-! L23: what holds of all that is put together. -/
namespace L3
open PySem PySem.Spec PyProof.Rows L2
section
variable {α : Type}
end
section
variable {α : Type} {Pk : Nat → Prop} {Pf : α → Prop}
structure AOk (Pk : Nat → Prop) (Pf : α → Prop) (s : List (Nat × List α)) : Prop where
  nd : (s.map (·.1)).Nodup
  k : ∀ a ∈ s, Pk a.1
  f : ∀ a ∈ s, ∀ y ∈ a.2, Pf y
  ne : ∀ a ∈ s, a.2 ≠ []
  nf : ∀ a ∈ s, a.2.Nodup
theorem AOk.nil : AOk Pk Pf ([] : List (Nat × List α)) := ⟨List.nodup_nil, fun _ h => (nomatch h), fun _ h => (nomatch h), fun _ h => (nomatch h), fun _ h => (nomatch h)⟩
variable [DecidableEq α]
theorem AOk.put {s : List (Nat × List α)} (h : AOk Pk Pf s) {c : Nat} {ys : List α} (hk : Pk c) (hf : ∀ y ∈ ys, Pf y) (hn : ys.Nodup) (he : ys ≠ []) : AOk Pk Pf (putA s c ys) := by
  refine ⟨putA_nodup h.nd, fun a ha => ?_, fun a ha => ?_, fun a ha => ?_, fun a ha => ?_⟩
  all_goals rcases putA_mem ha with rfl | ⟨z, _⟩
  · exact hk
  · exact h.k a z
  · exact hf
  · exact h.f a z
  · exact he
  · exact h.ne a z
  · exact hn
  · exact h.nf a z
theorem AOk.at {s : List (Nat × List α)} (h : AOk Pk Pf s) (c : Nat) : (∀ y ∈ (lk s c).getD [], Pf y) ∧ ((lk s c).getD []).Nodup := by
  cases e : lk s c with
  | none => exact ⟨fun _ z => (nomatch z), List.nodup_nil⟩
  | some ys => exact ⟨h.f _ (lk_some e), h.nf _ (lk_some e)⟩
theorem AOk.add {s : List (Nat × List α)} (h : AOk Pk Pf s) {c : Nat} {ys : List α} (hk : Pk c) (hf : ∀ y ∈ ys, Pf y) (hn : ys.Nodup) (he : ys ≠ []) : AOk Pk Pf (addA s c ys) := by
  obtain ⟨h1, h2⟩ := h.at c
  refine h.put hk (fun y hy => (addF_mem.mp hy).elim (h1 y) (hf y)) (addF_nodup h2 hn) fun z => he ?_
  refine List.eq_nil_iff_forall_not_mem.mpr fun y hy => ?_
  have : y ∈ addF ((lk s c).getD []) ys := addF_mem.mpr (.inr hy)
  rw [z] at this
  exact nomatch this
theorem AOk.both {r s : List (Nat × List α)} (h : AOk Pk Pf s) (g : AOk Pk Pf r) : AOk Pk Pf (bothA s r) := by
  have key : ∀ (r s : List (Nat × List α)), AOk Pk Pf s → (∀ a ∈ r, Pk a.1) → (∀ a ∈ r, ∀ y ∈ a.2, Pf y) → (∀ a ∈ r, a.2 ≠ []) → (∀ a ∈ r, a.2.Nodup) → AOk Pk Pf (bothA s r) := by
    intro r
    induction r with
    | nil => intro s h _ _ _ _; exact h
    | cons a r ih =>
      intro s h h1 h2 h3 h4
      exact ih (addA s a.1 a.2) (h.add (h1 a List.mem_cons_self) (h2 a List.mem_cons_self) (h4 a List.mem_cons_self) (h3 a List.mem_cons_self)) (fun x hx => h1 x (List.mem_cons_of_mem _ hx)) (fun x hx => h2 x (List.mem_cons_of_mem _ hx)) (fun x hx => h3 x (List.mem_cons_of_mem _ hx)) fun x hx => h4 x (List.mem_cons_of_mem _ hx)
  exact key r s h g.k g.f g.ne g.nf
theorem AOk.merge {r s : List (Nat × List α)} (h : AOk Pk Pf s) (g : AOk Pk Pf r) : AOk Pk Pf (mergeA s r) := by
  have key : ∀ (r s : List (Nat × List α)), AOk Pk Pf s → (∀ a ∈ r, Pk a.1) → (∀ a ∈ r, ∀ y ∈ a.2, Pf y) → (∀ a ∈ r, a.2 ≠ []) → (∀ a ∈ r, a.2.Nodup) → AOk Pk Pf (mergeA s r) := by
    intro r
    induction r with
    | nil => intro s h _ _ _ _; exact h
    | cons a r ih =>
      intro s h h1 h2 h3 h4
      exact ih (putA s a.1 a.2) (h.put (h1 a List.mem_cons_self) (h2 a List.mem_cons_self) (h4 a List.mem_cons_self) (h3 a List.mem_cons_self)) (fun x hx => h1 x (List.mem_cons_of_mem _ hx)) (fun x hx => h2 x (List.mem_cons_of_mem _ hx)) (fun x hx => h3 x (List.mem_cons_of_mem _ hx)) fun x hx => h4 x (List.mem_cons_of_mem _ hx)
  exact key r s h g.k g.f g.ne g.nf
theorem AOk.drop {s : List (Nat × List α)} (h : AOk Pk Pf s) (c : Nat) : AOk Pk Pf (dropA s c) := by
  have sub : ∀ a ∈ dropA s c, a ∈ s := fun a ha => (List.mem_filter.mp ha).1
  refine ⟨?_, fun a ha => h.k a (sub a ha), fun a ha => h.f a (sub a ha), fun a ha => h.ne a (sub a ha), fun a ha => h.nf a (sub a ha)⟩
  exact h.nd.sublist (List.filter_sublist.map _)
/-! ### how many -/
end
abbrev FOk : Fms → Prop := AOk deedC Fm.ok
abbrev COk : Cks → Prop := AOk cellC fun _ => True
theorem FOk.len {s : Fms} (h : FOk s) : s.length ≤ 8 := by
  have := deeds_len h.nd fun c hc => by
    obtain ⟨a, ha, rfl⟩ := List.mem_map.mp hc
    exact h.k a ha
  rwa [List.length_map] at this
theorem COk.len {s : Cks} (h : COk s) : s.length ≤ 4 := by
  have := nodup_len (k := lettersC) h.nd fun c hc => by
    obtain ⟨a, ha, rfl⟩ := List.mem_map.mp hc
    exact h.k a ha
  rwa [List.length_map] at this
/-! ### a form renamed -/
theorem ren_ns {d n : Nat} {f : Fm} {a : Nat × Kd × Kd} : a ∈ (f.ren d n).ns ↔ ∃ b ∈ f.ns, a = ren1 d n b := by
  show a ∈ nsort _ ↔ _
  rw [(nsort_perm _).mem_iff, dd_mem, List.mem_map]
  exact ⟨fun ⟨b, h, e⟩ => ⟨b, h, e.symm⟩, fun ⟨b, h, e⟩ => ⟨b, h, e.symm⟩⟩
/-! ### a part, a tree -/
structure Sh.ok (s : Sh) : Prop where
  d : FOk s.ds
  c : COk s.cs
/-- a bound of how many forms a tree comes to -/
def Tr.nb : Tr → Nat
  | .part _ => 8
  | .wth a b => a.nb + b.nb
  | .wout a _ => a.nb
  | .also a _ _ => 2 * a.nb
  | .ren a _ _ => a.nb
  | .over a _ => a.nb + 8
end L3
/-! L24: what is wanted, read; when a sheaf is whole. -/
namespace L3
open PySem PySem.Spec PyProof.Rows L2
section
variable {m : Mu} {Q : EK}
end
section
variable {X : Cx} {pos : Pos} {elt tg iter : Expr} {ifs : List Expr} {scope : Scope} {own : List (Str × Nat)} {g : AGt} {tt : ATt} {te ti : AEt} {gt : TG}
end
section
variable {te ti : AEt} {g : AGt} {tt : ATt} {Z : AEnds} {δ : Dt} {m : Mu} {p : Addr} {ds : List (Key × D)} {vs' : List Nat} {i : Nat}
end
/-! ### the parts of a shelf, by their names -/
/-- nothing is wanted -/
structure Sh.Whole (s : Sh) : Prop where
  cl : clashes s.ds = []
  la : lacks s.ds = []
  un : unfits s.ds = []
  tw : twos s.cs = []
instance (s : Sh) : Decidable s.Whole := decidable_of_iff (clashes s.ds = [] ∧ lacks s.ds = [] ∧ unfits s.ds = [] ∧ twos s.cs = []) ⟨fun h => ⟨h.1, h.2.1, h.2.2.1, h.2.2.2⟩, fun h => ⟨h.1, h.2, h.3, h.4⟩⟩
/-! ### wholeness by members -/
/-- a form of a deed -/
def Sh.fm (s : Sh) (d : Nat) (f : Fm) : Prop := ∃ fs, (d, fs) ∈ s.ds ∧ f ∈ fs
def Sh.ck (s : Sh) (c : Nat) (k : Kd) : Prop := ∃ ks, (c, ks) ∈ s.cs ∧ k ∈ ks
/-! ### what is wanted of right shelves is short -/
/-! ### what is wanted, met step by step -/
end L3
/-! L25: parts put with a tree; lists of names; givers. -/
namespace L3
open PySem PySem.Spec PyProof.Rows L2
section
variable {α : Type} [DecidableEq α]
def hasA (s : List (Nat × List α)) (d : Nat) (f : α) : Prop := ∃ fs, (d, fs) ∈ s ∧ f ∈ fs
theorem hasA_lk {s : List (Nat × List α)} (h : (s.map (·.1)).Nodup) {d : Nat} {f : α} : hasA s d f ↔ f ∈ (lk s d).getD [] := by
  constructor
  · rintro ⟨fs, h1, h2⟩
    rw [lk_of_mem h h1]; exact h2
  · intro z
    cases e : lk s d with
    | none => rw [e] at z; cases z
    | some fs => rw [e] at z; exact ⟨fs, lk_some e, z⟩
theorem hasA_add {s : List (Nat × List α)} (h : (s.map (·.1)).Nodup) {c d : Nat} {ys : List α} {f : α} : hasA (addA s c ys) d f ↔ hasA s d f ∨ d = c ∧ f ∈ ys := by
  rw [hasA_lk (addA_nodup h), hasA_lk h]
  unfold addA
  rw [lk_put]
  by_cases e : d = c
  · subst e
    rw [if_pos rfl, Option.getD_some, addF_mem]; simp
  · rw [if_neg e]; simp [e]
theorem hasA_cons {r : List (Nat × List α)} {a : Nat × List α} {d : Nat} {f : α} : hasA (a :: r) d f ↔ (d = a.1 ∧ f ∈ a.2) ∨ hasA r d f := by
  unfold hasA
  constructor
  · rintro ⟨fs, h1, h2⟩
    rcases List.mem_cons.mp h1 with e | h
    · subst e; exact .inl ⟨rfl, h2⟩
    · exact .inr ⟨fs, h, h2⟩
  · rintro (⟨rfl, h⟩ | ⟨fs, h1, h2⟩)
    · exact ⟨a.2, List.mem_cons_self, h⟩
    · exact ⟨fs, List.mem_cons_of_mem _ h1, h2⟩
theorem hasA_both : ∀ {r s : List (Nat × List α)}, (s.map (·.1)).Nodup → ∀ {d : Nat} {f : α}, hasA (bothA s r) d f ↔ hasA s d f ∨ hasA r d f
  | [], s, h, d, f => by
    show hasA s d f ↔ _
    have : ¬ hasA ([] : List (Nat × List α)) d f := fun ⟨_, z, _⟩ => nomatch z
    simp [this]
  | a :: r, s, h, d, f => by
    show hasA (bothA (addA s a.1 a.2) r) d f ↔ _
    rw [hasA_both (addA_nodup h), hasA_add h, hasA_cons, or_assoc]
end
section
variable {sh : Nat → Sh} {ns : List Nat}
end
/-- all rising lists of so many names -/
def listsOf : Nat → List Nat → List (List Nat)
  | 0, _ => [[]]
  | _ + 1, [] => []
  | n + 1, c :: cs => (listsOf n cs).map (c :: ·) ++ listsOf (n + 1) cs
theorem mem_listsOf : ∀ {n : Nat} {ns l : List Nat}, l ∈ listsOf n ns ↔ l.Sublist ns ∧ l.length = n
  | 0, ns, l => by
    rw [listsOf, List.mem_singleton]
    exact ⟨fun h => by rw [h]; exact ⟨List.nil_sublist _, rfl⟩, fun h => List.eq_nil_of_length_eq_zero h.2⟩
  | n + 1, [], l => by
    rw [listsOf]
    refine ⟨fun h => (nomatch h), fun ⟨h1, h2⟩ => ?_⟩
    rw [List.sublist_nil.mp h1] at h2; cases h2
  | n + 1, c :: cs, l => by
    rw [listsOf, List.mem_append, List.mem_map, mem_listsOf (ns := cs)]
    constructor
    · rintro (⟨k, h1, rfl⟩ | ⟨h1, h2⟩)
      · obtain ⟨h1, h2⟩ := mem_listsOf.mp h1
        exact ⟨h1.cons_cons c, by rw [List.length_cons, h2]⟩
      · exact ⟨h1.cons c, h2⟩
    · rintro ⟨h1, h2⟩
      cases h1 with
      | cons _ h => exact .inr ⟨h, h2⟩
      | cons_cons _ h => exact .inl ⟨_, mem_listsOf.mpr ⟨h, by simpa using h2⟩, rfl⟩
/-! ### the law of givers -/
structure Found (W : List Nat → Prop) (ns l : List Nat) : Prop where
  sub : l.Sublist ns
  w : W l
  least : ∀ k : List Nat, k.Sublist ns → k.length < l.length → ¬ W k
theorem Found.less {W : List Nat → Prop} {ns l : List Nat} (h : Found W ns l) {k : Nat} (hk : k < l.length) : ¬ W (l.take k ++ l.drop (k + 1)) := by
  refine h.least _ ?_ ?_
  · rw [← List.eraseIdx_eq_take_drop_succ]
    exact (List.eraseIdx_sublist l k).trans h.sub
  · rw [List.length_append, List.length_take, List.length_drop]; omega
/-! ### read -/
theorem ne_lstE {m : Mu} {Q : EK} {ds : List D} (h : eqOk (.lst ds) = true) : rhoNe (.lst ds) (.lst []) m Q = Q (.bl (!ds.isEmpty)) m := by
  rw [ex_ne (by exact h) (by exact okl_nil)]
  have : eqD (rsv m (.lst ds)) (rsv m (.lst [])) = ds.isEmpty := by
    show eqD (.lst ds) (.lst []) = _
    cases ds <;> simp [eqD, D.pd, pds, PyData.eqv, PyData.eqvAll]
  rw [this]
theorem eq_lstE {m : Mu} {Q : EK} {ds : List D} (h : eqOk (.lst ds) = true) : rhoEq (.lst ds) (.lst []) m Q = Q (.bl ds.isEmpty) m := by
  rw [ex_eq (by exact h) (by exact okl_nil)]
  have : eqD (rsv m (.lst ds)) (rsv m (.lst [])) = ds.isEmpty := by
    show eqD (.lst ds) (.lst []) = _
    cases ds <;> simp [eqD, D.pd, pds, PyData.eqv, PyData.eqvAll]
  rw [this]
end L3
/-! L26: what is wanted, compared. -/
namespace L3
open PySem PySem.Spec PyProof.Rows L2
section
variable {m : Mu} {Q : EK}
end
theorem Rg.keep {ha hb : Addr} {m m' : Mu} (R : Rg ha hb m) (h : ∀ b c, m b = some c → m' b = some c) : Rg ha hb m' := by
  obtain ⟨a, b, ns, e1, e2⟩ := R.ex
  exact ⟨R.ne, a, b, ns, h _ _ e1, h _ _ e2⟩
end L3
/-! L34: d.setdefault; what hinders, by members. -/
namespace L3
open PySem PySem.Spec PyProof.Rows L2
section
variable {X : Cx} {pos : Pos} {o e f : Expr} {to te' tf : AEt} {apos : Pos}
end
theorem cut_lo' {xs : List D} {n : Nat} : cutD xs none (some (n : Int)) = xs.take n := by
  by_cases h : n ≤ xs.length
  · exact cut_lo h
  · unfold cutD
    rw [HT.sIx_none, HT.sIx_nat, Nat.min_eq_right (by omega), List.drop_zero, List.take_of_length_le (by omega), List.take_of_length_le (by omega)]
/-! ### what is wanted, by members -/
section
variable {α : Type} [DecidableEq α] {Pk : Nat → Prop} {Pf : α → Prop}
end
/-! ### some deeds left out -/
theorem hasA_drop {α : Type} {s : List (Nat × List α)} {c d : Nat} {f : α} : (∃ fs, (d, fs) ∈ dropA s c ∧ f ∈ fs) ↔ (∃ fs, (d, fs) ∈ s ∧ f ∈ fs) ∧ d ≠ c := by
  unfold dropA
  constructor
  · rintro ⟨fs, h1, h2⟩
    obtain ⟨h3, h4⟩ := List.mem_filter.mp h1
    exact ⟨⟨fs, h3, h2⟩, of_decide_eq_true h4⟩
  · rintro ⟨⟨fs, h1, h2⟩, h3⟩
    exact ⟨fs, List.mem_filter.mpr ⟨h1, decide_eq_true h3⟩, h2⟩
section
variable {sh : Nat → Sh}
theorem wth_fm {a b : Tr} (h : (putT sh a).ok) {d : Nat} {f : Fm} : (putT sh (.wth a b)).fm d f ↔ (putT sh a).fm d f ∨ (putT sh b).fm d f := hasA_both h.d.nd
theorem wth_ck {a b : Tr} (h : (putT sh a).ok) {d : Nat} {f : Kd} : (putT sh (.wth a b)).ck d f ↔ (putT sh a).ck d f ∨ (putT sh b).ck d f := hasA_both h.c.nd
/-! ### a part that gives what lacks -/
end
end L3
/-! L27: sorted(xs, key=f) where a call of f may note something at the frames that stand around. -/
namespace L3
open PySem PySem.Spec PySem.Calls PyProof.Rows L2
open PySem.W (KeepsBut sortVals SortsAt Sortable AllAlike dataLe dataKind EachIs)
/-- all stands, but for the slots of some -/
def KA (fs : List Addr) (a : Addr) (h h' : Heap) : Prop := ∀ b o, b ≠ a → h.get? b = some o → ∃ sl, h'.get? b = some { o with slots := sl } ∧ (b ∉ fs → sl = o.slots)
section
variable {fs : List Addr} {a c : Addr} {h h1 h2 : Heap}
theorem KA.of (k : ∀ b o, b ≠ a → h.get? b = some o → h1.get? b = some o) : KA fs a h h1 := fun b o n e => ⟨o.slots, k b o n e, fun _ => rfl⟩
theorem KA.refl : KA fs a h h := KA.of fun _ _ _ e => e
theorem KA.trans (x : KA fs a h h1) (y : KA fs a h1 h2) : KA fs a h h2 := fun b o n e => by
  obtain ⟨sl, e1, s1⟩ := x b o n e
  obtain ⟨sl2, e2, s2⟩ := y b _ n e1
  exact ⟨sl2, e2, fun q => (s2 q).trans (s1 q)⟩
theorem KA.keep (x : KA fs a h h1) {b : Addr} {o : Obj} (n : b ≠ a) (q : b ∉ fs) (e : h.get? b = some o) : h1.get? b = some o := by
  obtain ⟨sl, e1, s1⟩ := x b o n e
  rw [s1 q] at e1; exact e1
/-- the object that is written is none of those that stood -/
theorem KA.same (x : KA fs a h h1) (hs : Heap.SameBut c h1 h2) (hc : c = a ∨ h.get? c = none) : KA fs a h h2 := fun b o n e => by
  have hbc : b ≠ c := fun z => by
    rcases hc with q | q
    · exact n (z.trans q)
    · rw [← z, e] at q; cases q
  obtain ⟨sl, e1, s1⟩ := x b o n e
  exact ⟨sl, (hs.2 b hbc).trans e1, s1⟩
/-- of all objects -/
def KW (fs : List Addr) (h h' : Heap) : Prop := ∀ b o, h.get? b = some o → ∃ sl, h'.get? b = some { o with slots := sl } ∧ (b ∉ fs → sl = o.slots)
theorem KW.ka (x : KW fs h h1) : KA fs a h h1 := fun b o _ e => x b o e
theorem KW.keep (x : KW fs h h1) {b : Addr} {o : Obj} (q : b ∉ fs) (e : h.get? b = some o) : h1.get? b = some o := by
  obtain ⟨sl, e1, s1⟩ := x b o e
  rw [s1 q] at e1; exact e1
end
section
variable {prog : Program} {w : World} {A : Around} {E : Value → Shared → Prop} {s : Shared} {a kS : Addr} {b : Bool} {vs : List Value} {e1 : Nat} {P : PySem.Fin → Shared → Prop} {kz : List PyData} {fs : List Addr} {f : Value} {h1 : Heap}
end
end L3
/-! L28: a lambda of parameters, made and called; sorted by it. -/
namespace L3
open PySem PySem.Spec PySem.Calls PyProof.Rows L2
section
variable {P : Program} {w : World} {K : PySem.W.Frag} {mg : Str → Option Value} {base : Heap}
end
/-! ### tuples alone -/
section
variable {P : Program} {w : World} {K : PySem.W.Frag} {mg : Str → Option Value} {base : Heap} {H : Hp} {h h' : Heap} {fs : List Addr}
end
/-! ### data read off the heap -/
mutual
/-- no list, no dict, no address in it -/
def D.lf : D → Bool
  | .tup ds => lfs ds
  | .lst _ => false
  | .dct _ => false
  | .ref _ => false
  | .ty _ => false
  | .fl _ => false
  | _ => true
def lfs : List D → Bool
  | [] => true
  | d :: ds => d.lf && lfs ds
end
section
variable {P : Program} {w : World} {K : PySem.W.Frag} {H : Hp} {h : Heap} {N : Addr → Prop}
end
end L3
/-! L29: sorted(xs, key=lambda ..). -/
namespace L3
open PySem PySem.Spec PySem.Calls PyProof.Rows L2
open PySem.W (AllAlike Sortable dataLe)
/-- what making a lambda does to the table: nothing, or one code object more -/
def Tabbed (H : Hp) (P : Addr) (ps : Array Value) (c' : Addr) (q : Str) (H1 : Hp) : Prop :=
  (H1 = H ∧ ∃ pos, codeAmong pos ps.toList = some (.ref c')) ∨ ∃ more : Array Value, H c' = none ∧ c' ≠ P ∧ H1 = upd (upd H P (.tbl (ps ++ more))) c' (LamX.CodeO c' q) ∧ TriplesOk (ps ++ more).toList ∧
    ∀ pos cv, codeAmong pos (ps ++ more).toList = some cv → codeAmong pos ps.toList = some cv ∨ cv = .ref c'
section
variable {X : Cx} {pins : List (Addr × Obj)} {σ : L2.St} {H : Hp} {s : Shared}
end
/-! ### in terms of values -/
/-! ### in terms of data -/
section
variable {K : PySem.W.Frag} {H H2 : Hp} {N : Addr → Prop} {P c' : Addr} {ps : Array Value} {q : Str}
end
theorem tab_step {K : PySem.W.Frag} {H H2 : Hp} {B : Addr → Prop} {m : Mu} {P c' : Addr} {ps : Array Value} {q : Str} (W : Wd K H B m) (hm : m P = some (.tab q)) (hP : H P = some (.tbl ps)) (tab : Tabbed H P ps c' q H2) : Step H m H2 m ∧ Wd K H2 B m := by
  rcases tab with ⟨rfl, _⟩ | ⟨more, nC, nCP, rfl, ht, hcv⟩
  · exact ⟨Step.refl _ _, W⟩
  have mc : m c' = none := (W.free nC).1
  have nb : ¬ Ban B m c' := fun z => z.elim (fun b => (W.hid c' b).1 nC) fun z => z mc
  have at_ : ∀ b, b ≠ P → b ≠ c' → upd (upd H P (.tbl (ps ++ more))) c' (LamX.CodeO c' q) b = H b := fun b h1 h2 => by rw [upd_ne h2, upd_ne h1]
  have keep : ∀ b u, H b = some u → b ≠ P → upd (upd H P (.tbl (ps ++ more))) c' (LamX.CodeO c' q) b = some u := fun b u e h => by rw [at_ b h (ne_of_none e nC)]; exact e
  have st : Step H m (upd (upd H P (.tbl (ps ++ more))) c' (LamX.CodeO c' q)) m := fun a o h1 h2 => ⟨keep a o h1 (fun z => by rw [z, hm] at h2; cases h2), h2⟩
  have cr : Carry H (Ban B m) (upd (upd H P (.tbl (ps ++ more))) c' (LamX.CodeO c' q)) (Ban B m) := fun x o h n => ⟨keep x o h (fun z => n (.inr (by rw [z, hm]; exact fun z => nomatch z))), n⟩
  refine ⟨st, fun a c e => ?_, fun a b => ?_⟩
  · by_cases ha : a = P
    · subst ha
      rw [hm] at e
      cases e
      obtain ⟨ps2, h1, h2, h3⟩ := W.cell a _ hm
      rw [hP] at h1
      cases h1
      refine ⟨ps ++ more, by rw [upd_ne nCP.symm, upd_same], ht, fun pos cv z => ?_⟩
      rcases hcv pos cv z with z | rfl
      · obtain ⟨c2, e1, e2, e3⟩ := h3 pos cv z
        exact ⟨c2, e1, (cr c2 _ e2 e3).1, e3⟩
      · exact ⟨c', rfl, upd_same, nb⟩
    · exact CellOk.carry cr (fun o h => keep a o h ha) (fun dx h n => ⟨keep dx _ h (fun z => by rw [z, hP] at h; cases h), n⟩) (W.cell a c e)
  · obtain ⟨h1, h2⟩ := W.hid a b
    refine ⟨?_, h2⟩
    have na : a ≠ P := fun z => by rw [z, hm] at h2; cases h2
    cases q2 : H a with
    | none => exact absurd q2 h1
    | some u => rw [keep a u q2 na]; exact fun z => nomatch z
/-! ### a def whose lambdas are made -/
structure DefL (K : PySem.W.Frag) (mg : Str → Option Value) (x : Str) (st : Stmt) (ps : List Str) (c : Addr) : Prop where
  ex : ∃ (f : Addr) (oc : Value) (od : Option Addr) (dV kV doc pm : Value) (an : Option Addr) (ct : Value) (osl : Array (Option Value)),
    K.lookup f = some ⟨oc, od, .func (PySem.W.fnOf x x (defArgs st) (defBody st) (defScope st) dV kV doc pm an (.ref c) ct), osl⟩ ∧ PySem.W.codeIn K (.ref c) x = true ∧ PySem.W.keepIn K (.ref f) = true ∧ mg x = some (.ref f) ∧ Binds K (PySem.W.fnOf x x (defArgs st) (defBody st) (defScope st) dV kV doc pm an (.ref c) ct) ps []
theorem defL_of {K : PySem.W.Frag} {mg : Str → Option Value} {x : Str} {st : Stmt} {ps : List Str} {fd : FuncData} (F : FunD K x x (defArgs st) (defBody st) (defScope st) [] [] (He.fAd K (x, none)) fd) (hm : mg x = some (.ref (He.fAd K (x, none)))) (hb : Binds K fd ps []) : DefL K mg x st ps (He.codeOf K (x, none)) := by
  obtain ⟨oc, od, dV, kV, doc, pm, an, cdv, ct, osl, rfl, lk, hcd, _, _⟩ := F.ex
  obtain ⟨c, rfl⟩ := He.codeIn_ref hcd
  rw [He.codeOf_eq lk rfl]
  exact ⟨_, oc, od, dV, kV, doc, pm, an, ct, osl, lk, hcd, F.kp, hm, hb⟩
/-! ### the law with a table -/
end L3
/-! L30: forms, in order. -/
namespace L3
open PySem PySem.Spec PyProof.Rows L2
theorem Bd.lf : ∀ b : Bd, b.enc.lf = true
  | .num _ => rfl
  | .tru _ => rfl
  | .emp => rfl
  | .arg => rfl
  | .cel _ => rfl
  | .un _ a => by simp only [Bd.enc, D.lf, lfs, a.lf, Bool.and_self]
  | .bin _ a b => by simp only [Bd.enc, D.lf, lfs, a.lf, b.lf, Bool.and_self]
  | .ite a b c => by simp only [Bd.enc, D.lf, lfs, a.lf, b.lf, c.lf, Bool.and_self]
  | .set _ a => by simp only [Bd.enc, D.lf, lfs, a.lf, Bool.and_self]
  | .cal _ a => by simp only [Bd.enc, D.lf, lfs, a.lf, Bool.and_self]
theorem lfs_of : ∀ {ds : List D}, (∀ d ∈ ds, d.lf = true) → lfs ds = true
  | [], _ => rfl
  | d :: ds, h => by rw [lfs, h d List.mem_cons_self, lfs_of fun x hx => h x (List.mem_cons_of_mem _ hx)]; rfl
theorem Fm.lf (f : Fm) : f.enc.lf = true := by
  have : lfs (f.ns.map askD) = true := lfs_of fun d hd => by
    obtain ⟨a, _, rfl⟩ := List.mem_map.mp hd
    rfl
  simp only [Fm.enc, D.lf, lfs, f.b.lf, this, Bool.and_self]
end L3
/-! L31: len(set(rows)). -/
namespace L3
open PySem PySem.Spec PyProof.Rows L2
section
variable {X : Cx} {pos : Pos}
end
end L3
/-! L32: where forms come from. -/
namespace L3
open PySem PySem.Spec PyProof.Rows L2
/-- calls under other names -/
def Bd.mapC (ρ : Nat → Nat) : Bd → Bd
  | .un w a => .un w (a.mapC ρ)
  | .bin w a b => .bin w (a.mapC ρ) (b.mapC ρ)
  | .ite a b c => .ite (a.mapC ρ) (b.mapC ρ) (c.mapC ρ)
  | .set c a => .set c (a.mapC ρ)
  | .cal c a => .cal (ρ c) (a.mapC ρ)
  | b => b
theorem Bd.mapC_ren (ρ : Nat → Nat) (d n : Nat) : ∀ b : Bd, (b.mapC ρ).ren d n = b.mapC fun c => if ρ c = d then n else ρ c
  | .num _ => rfl
  | .tru _ => rfl
  | .emp => rfl
  | .arg => rfl
  | .cel _ => rfl
  | .un _ a => by simp only [Bd.mapC, Bd.ren, a.mapC_ren ρ d n]
  | .bin _ a b => by simp only [Bd.mapC, Bd.ren, a.mapC_ren ρ d n, b.mapC_ren ρ d n]
  | .ite a b c => by simp only [Bd.mapC, Bd.ren, a.mapC_ren ρ d n, b.mapC_ren ρ d n, c.mapC_ren ρ d n]
  | .set _ a => by simp only [Bd.mapC, Bd.ren, a.mapC_ren ρ d n]
  | .cal _ a => by simp only [Bd.mapC, Bd.ren, a.mapC_ren ρ d n]
/-- rising rows -/
def Rows (l : Gv) : Prop := l.Nodup ∧ l.Pairwise fun a b => rle (askS a) (askS b) = true
theorem rows_nsort (l : Gv) : Rows (nsort (dd l)) := ⟨(nsort_perm _).nodup_iff.mpr (dd_nodup l), nsort_pw _⟩
/-- a form is a deed's of a part, what it calls under other names -/
structure From (p : Part) (ρ : Nat → Nat) (e : Deed) (f : Fm) : Prop where
  pn : f.pn = p.nm
  mem : e ∈ p.ds
  dn : f.dn = e.c
  tk : f.tk = e.tk
  tl : f.tl = e.tl
  b : f.b = e.b.mapC ρ
  ns : ∀ a, a ∈ f.ns ↔ ∃ c ∈ e.b.calls, ∃ g, lk p.gv c = some g ∧ a = (ρ c, g)
  rows : Rows f.ns
theorem From.ren {p : Part} {ρ : Nat → Nat} {e : Deed} {f : Fm} (h : From p ρ e f) (d n : Nat) : From p (fun c => if ρ c = d then n else ρ c) e (f.ren d n) where
  pn := h.pn
  mem := h.mem
  dn := h.dn
  tk := h.tk
  tl := h.tl
  b := by show f.b.ren d n = _; rw [h.b, Bd.mapC_ren]
  ns := fun a => by
    rw [ren_ns]
    constructor
    · rintro ⟨b, hb, rfl⟩
      obtain ⟨c, hc, g, hg, rfl⟩ := (h.ns b).mp hb
      exact ⟨c, hc, g, hg, rfl⟩
    · rintro ⟨c, hc, g, hg, rfl⟩
      exact ⟨(ρ c, g), (h.ns _).mpr ⟨c, hc, g, hg, rfl⟩, rfl⟩
  rows := rows_nsort _
end L3
/-! L35: forms in order; what comes to the same. -/
namespace L3
open PySem PySem.Spec PyProof.Rows L2
/-! ### bodies by their words -/
theorem nodup_map_inj {α β : Type} {f : α → β} : ∀ {l : List α}, (l.map f).Nodup → ∀ {a b : α}, a ∈ l → b ∈ l → f a = f b → a = b
  | [], _, _, _, h, _, _ => (nomatch h)
  | x :: l, nd, a, b, ha, hb, e => by
    rw [List.map_cons, List.nodup_cons] at nd
    rcases List.mem_cons.mp ha with h1 | h1
    · rcases List.mem_cons.mp hb with h2 | h2
      · rw [h1, h2]
      · exact absurd (List.mem_map.mpr ⟨b, h2, by rw [← e, h1]⟩) nd.1
    · rcases List.mem_cons.mp hb with h2 | h2
      · exact absurd (List.mem_map.mpr ⟨a, h1, by rw [e, h2]⟩) nd.1
      · exact nodup_map_inj nd.2 h1 h2 e
/-! ### forms by origin and body -/
/-! ### the same forms and cells -/
structure Sh.Same (s t : Sh) : Prop where
  fm : ∀ d f, s.fm d f ↔ t.fm d f
  ck : ∀ c k, s.ck c k ↔ t.ck c k
theorem Sh.Same.symm {s t : Sh} (h : s.Same t) : t.Same s := ⟨fun d f => (h.fm d f).symm, fun d f => (h.ck d f).symm⟩
theorem Sh.Same.trans {s t u : Sh} (h : s.Same t) (g : t.Same u) : s.Same u := ⟨fun d f => (h.fm d f).trans (g.fm d f), fun d f => (h.ck d f).trans (g.ck d f)⟩
/-! ### forms, told -/
/-! ### the first deed or cell that two have unlike -/
/-! ### kinds, sorted -/
end L3
/-! L36: what is put together, by members; left out, renamed, put over. -/
namespace L3
open PySem PySem.Spec PyProof.Rows L2
section
variable {sh : Nat → Sh} {ns : List Nat} {a b : Tr} {d n : Nat}
theorem wout_fm {c : Nat} {f : Fm} : (putT sh (.wout a d)).fm c f ↔ (putT sh a).fm c f ∧ c ≠ d := hasA_drop
theorem wout_ck {c : Nat} {k : Kd} : (putT sh (.wout a d)).ck c k ↔ (putT sh a).ck c k := Iff.rfl
/-! ### laws -/
end
/-! ### frozen -/
theorem Tr.lf : ∀ t : Tr, t.enc.lf = true
  | .part _ => rfl
  | .wth a b => by simp only [Tr.enc, D.lf, lfs, a.lf, b.lf, Bool.and_self]
  | .wout a _ => by simp only [Tr.enc, D.lf, lfs, a.lf, Bool.and_self]
  | .also a _ _ => by simp only [Tr.enc, D.lf, lfs, a.lf, Bool.and_self]
  | .ren a _ _ => by simp only [Tr.enc, D.lf, lfs, a.lf, Bool.and_self]
  | .over a _ => by simp only [Tr.enc, D.lf, lfs, a.lf, Bool.and_self]
theorem Part.lf (p : Part) : p.enc.lf = true := by
  have h1 : lfs (p.ds.map Deed.enc) = true := lfs_of fun d hd => by
    obtain ⟨a, _, rfl⟩ := List.mem_map.mp hd
    simp only [Deed.enc, D.lf, lfs, a.b.lf, Bool.and_self]
  have h2 : lfs (p.as.map askD) = true := lfs_of fun d hd => by
    obtain ⟨a, _, rfl⟩ := List.mem_map.mp hd
    rfl
  have h3 : lfs (p.cs.map celD) = true := lfs_of fun d hd => by
    obtain ⟨a, _, rfl⟩ := List.mem_map.mp hd
    rfl
  simp only [Part.enc, D.lf, lfs, h1, h2, h3, Bool.and_self]
/-! ### forms, told, as dicts -/
end L3
/-! L37: while; xs.pop(i); lists unpacked; data is equal to itself. -/
namespace L3
open PySem PySem.Spec PyProof.Rows L2
/-! ### while -/
/-! ### lists unpacked -/
/-! ### xs.pop(i) -/
theorem Reps.erase {K : PySem.W.Frag} {H : Hp} {N : Addr → Prop} {ds : List D} {vs : List V} (h : Reps K H N ds vs) (n : Nat) : Reps K H N (ds.eraseIdx n) (vs.eraseIdx n) := by
  rw [List.eraseIdx_eq_take_drop_succ, List.eraseIdx_eq_take_drop_succ]
  exact (h.take n).app (h.drop (n + 1))
/-! ### data is equal to itself -/
mutual
def D.fine : D → Bool
  | .non => true
  | .bl _ => true
  | .int _ => true
  | .str _ => true
  | .tup ds => fines ds
  | .lst ds => fines ds
  | _ => false
def fines : List D → Bool
  | [] => true
  | d :: ds => d.fine && fines ds
end
mutual
theorem D.eqv_self : ∀ d : D, d.fine = true → PyData.eqv d.pd d.pd = true
  | .non, _ => by simp [D.pd, PyData.eqv]
  | .bl _, _ => by simp [D.pd, PyData.eqv]
  | .int _, _ => by simp [D.pd, PyData.eqv]
  | .str _, _ => by simp [D.pd, PyData.eqv]
  | .tup ds, h => by
    simp only [D.fine] at h
    rw [D.pd, PyData.eqv]
    exact eqv_selfs ds h
  | .lst ds, h => by
    simp only [D.fine] at h
    rw [D.pd, PyData.eqv]
    exact eqv_selfs ds h
  | .dct _, h => by simp [D.fine] at h
  | .ref _, h => by simp [D.fine] at h
  | .ty _, h => by simp [D.fine] at h
  | .fl _, h => by simp [D.fine] at h
theorem eqv_selfs : ∀ ds : List D, fines ds = true → PyData.eqvAll (pds ds) (pds ds) = true
  | [], _ => by simp [pds, PyData.eqvAll]
  | d :: ds, h => by
    rw [fines, Bool.and_eq_true] at h
    rw [pds, PyData.eqvAll, D.eqv_self d h.1, eqv_selfs ds h.2]; rfl
end
theorem ne_self {m : Mu} {Q : EK} {d : D} (h : eqOk d = true) (hr : ∀ a, d ≠ .ref a) (f : d.fine = true) : rhoNe d d m Q = Q (.bl false) m := by
  have e : rsv m d = d := by cases d <;> first | rfl | exact absurd rfl (hr _)
  rw [ex_ne (by rw [e]; exact h) (by rw [e]; exact h), e]
  rw [show eqD d d = true from D.eqv_self d f]
  rfl
theorem Part.okD {p : Part} (h : p.ok) : L3.okD p.enc 13 := okD_tup (n := 12) (by
  simp only [List.mem_cons, List.not_mem_nil, or_false, forall_eq_or_imp, forall_eq]
  refine ⟨okD_sg (partC.lt h.nm), okD_tup (n := 11) fun d hd => ?_, okD_tup (n := 11) fun d hd => ?_, okD_tup (n := 11) fun d hd => ?_⟩
  · obtain ⟨a, ha, rfl⟩ := List.mem_map.mp hd
    exact Deed.okD (h.dok a ha)
  · obtain ⟨a, ha, rfl⟩ := List.mem_map.mp hd
    exact (ask_okD (n := 0) (h.aok a ha)).mono (by omega)
  · obtain ⟨a, ha, rfl⟩ := List.mem_map.mp hd
    refine okD_tup (n := 10) ?_
    simp only [List.mem_cons, List.not_mem_nil, or_false, forall_eq_or_imp, forall_eq]
    exact ⟨okD_sg (cellC.lt (h.cok a ha)), okD_str (Kd.ok _)⟩)
end L3
/-! L38: a law's own telling of what comes of a tree. -/
namespace L3
open PySem PySem.Spec PyProof.Rows L2
section
variable {X : Cx}
end
/-! ### tables of several lambdas -/
def sp_law0Ts (ts : List (Addr × Str)) : SpD := fun ds m Q => ∃ ns : List Int, ds = [.fl ns] ∧ ns.length ≤ 63 ∧ (∀ t ∈ ts, m t.1 = some (.tab t.2)) ∧ ∀ m', Q (.bl true) m'
def tabsM (ts : List (Addr × Str)) : Mu := fun b => (ts.find? fun t => decide (t.1 = b)).map fun t => .tab t.2
theorem tabsM_some {ts : List (Addr × Str)} {b : Addr} {c : Cell} (h : tabsM ts b = some c) : ∃ t ∈ ts, t.1 = b ∧ c = .tab t.2 := by
  unfold tabsM at h
  cases e : ts.find? fun t => decide (t.1 = b) with
  | none => rw [e] at h; cases h
  | some t =>
    rw [e] at h
    cases h
    have h2 := List.find?_some e
    exact ⟨t, List.mem_of_find?_eq_some e, by simpa using h2, rfl⟩
theorem tabsM_at {ts : List (Addr × Str)} (nd : (ts.map (·.1)).Nodup) {t : Addr × Str} (h : t ∈ ts) : tabsM ts t.1 = some (.tab t.2) := by
  unfold tabsM
  cases e : ts.find? fun u => decide (u.1 = t.1) with
  | none => exact absurd (List.find?_eq_none.mp e t h) (by simp)
  | some u =>
    have h2 := List.find?_some e
    have := nodup_map_inj nd (List.mem_of_find?_eq_some e) h (by simpa using h2)
    rw [this]; rfl
theorem law_askedTs {K : PySem.W.Frag} {H : Hp} {a : Addr} {ts : List (Addr × Str)} {ns : List Int} (hl : ns.length ≤ 63) (nd : (ts.map (·.1)).Nodup) (hP : ∀ t ∈ ts, H t.1 = some (.tbl #[])) (h : SqL K H a (ns.map V.int)) : spD K (sp_law0Ts ts) [.ref a] H (fun v _ => v = .bl true) fun _ _ _ => False := by
  refine ⟨fun _ => False, tabsM ts, [.fl ns], fun d _ => d = .bl true, ⟨fun b c e => ?_, fun a b => False.elim b⟩, ?_, ⟨ns, rfl, hl, fun t ht => tabsM_at nd ht, fun _ => rfl⟩, fun d m' v H' _ _ r q => by subst q; exact rep_bl.mp r⟩
  · obtain ⟨t, ht, rfl, rfl⟩ := tabsM_some e
    exact ⟨#[], hP t ht, True.intro, fun pos cv z => by
      have z2 : codeAmong pos [] = some cv := z
      simp [codeAmong] at z2⟩
  refine reps_cons.mpr ⟨_, _, rfl, rep_fl.mpr ⟨a, rfl, ?_⟩, reps_nil.mpr rfl⟩
  rcases h with h | h
  · refine .inl ⟨h, fun z => z.elim id fun z => ?_⟩
    cases e : tabsM ts a with
    | none => exact z e
    | some c =>
      obtain ⟨t, ht, rfl, _⟩ := tabsM_some e
      have hp := hP t ht
      rcases h with h | ⟨o, h⟩
      · rw [hp] at h; cases h
      · rw [hp] at h; cases h
  · exact .inr h
/-! ### own forms -/
end L3
/-! L39: try: .. / except x: one statement, then a bare raise (a rule on L2's level). -/
namespace L2
open PySem PySem.Spec PyProof.Rows
section
variable {X : Cx} {x : Str} {c : Value} {body : List Stmt} {b₀ : Stmt} {np rp pos pos' : Pos} {tb : WX → TS} {ts : TS} {Wout : WX}
end
end L2
/-! L40: readings over data where an exception of one class (c) may go out. -/
namespace L2
open PySem PySem.Spec PyProof.Rows
theorem PE.imp {X : Cx} {e : Expr} {t t' : TE} (p : PE X e t) (i : ∀ σ H Q, t' σ H Q → t σ H Q) : PE X e t' := ⟨fun pins s σ H Q I h => p.run pins s σ H Q I (i σ H Q h)⟩
theorem PA.imp {X : Cx} {es : List Expr} {t t' : TA} (p : PA X es t) (i : ∀ σ H Q, t' σ H Q → t σ H Q) : PA X es t' := ⟨fun pos pins s σ H Q I h => p.run pos pins s σ H Q I (i σ H Q h)⟩
theorem PS.imp {X : Cx} {st : Stmt} {t t' : TS} (p : PS X st t) (i : ∀ D σ H, t' D σ H → t D σ H) : PS X st t' := ⟨fun pins s σ H D I h => p.run pins s σ H D I (i D σ H h)⟩
theorem PSs.imp {X : Cx} {st : List Stmt} {t t' : TS} (p : PSs X st t) (i : ∀ D σ H, t' D σ H → t D σ H) : PSs X st t' := ⟨fun pins s σ H D I h => p.run pins s σ H D I (i D σ H h)⟩
section
variable {X : Cx} {CX : CXT} {k : Nat} {f C : Addr} {fd : FuncData} {ps : List Str} {sp : Sp} {E : St → XK} {m : Str} {pos apos : Pos} {e o : Expr} {es : List Expr} {ta : TE} {t : TA}
end
end L2
namespace L3
open PySem PySem.Spec PyProof.Rows L2
abbrev Xq := Mu → Prop
abbrev AEXt := Dt → Mu → EK → Xq → Prop
abbrev AXt := AEnds → (Dt → Mu → Prop) → Dt → Mu → Prop
section
variable (K : PySem.W.Frag) (c : Value) (W : WX)
def PostM (B : Addr → Prop) (H : Hp) (m : Mu) (σ : L2.St) (xq : Xq) : Prop := ∀ m' H', Step H m H' m' → Wd K H' B m' → xq m' → W c none σ H'
def PostX (B : Addr → Prop) (H : Hp) (m : Mu) (xq : Dt → Mu → Prop) : Prop := ∀ δ' m' σ' H', Step H m H' m' → Wd K H' B m' → EnvD K H' (Ban B m') σ' δ' → xq δ' m' → W c none σ' H'
def tsC (t : ASt) : TS := fun De σ H => ∃ B D δ m, Wd K H B m ∧ EnvD K H (Ban B m) σ δ ∧ t D δ m ∧ EndsOk K B H m D De
end
section
variable {K : PySem.W.Frag} {c : Value} {W : WX} {B : Addr → Prop} {H H' : Hp} {m m' : Mu} {σ : L2.St} {δ : Dt}
theorem PostM.step {xq} (s : Step H m H' m') (k : PostM K c W B H m σ xq) : PostM K c W B H' m' σ xq := fun m2 H2 s2 W2 q => k m2 H2 (s.trans s2) W2 q
theorem PostX.step {xq} (s : Step H m H' m') (k : PostX K c W B H m xq) : PostX K c W B H' m' xq := fun d2 m2 v2 H2 s2 W2 E2 q => k d2 m2 v2 H2 (s.trans s2) W2 E2 q
theorem PostX.at_ {xq : Dt → Mu → Prop} (k : PostX K c W B H m xq) (E : EnvD K H (Ban B m) σ δ) : PostM K c W B H m σ (xq δ) := fun m2 H2 s2 W2 q => k δ m2 σ H2 s2 W2 (E.carry s2.carry) q
end
theorem AS.can {X : Cx} {st : Stmt} {t : ASt} (h : AS X st t) : PS X st (tsC X.K t) :=
  let ⟨_, p, s⟩ := h.ex
  p.imp fun De σ H ⟨B, D, δ, m, W, E, q, k⟩ => s B D δ m σ H W E q De k
theorem ASs.can {X : Cx} {st : List Stmt} {t : ASt} (h : ASs X st t) : PSs X st (tsC X.K t) :=
  let ⟨_, p, s⟩ := h.ex
  p.imp fun De σ H ⟨B, D, δ, m, W, E, q, k⟩ => s B D δ m σ H W E q De k
section
variable {X : Cx} {pos : Pos} {c : Value} {e : Expr} {es : List Expr} {a b : Expr}
/-! ### expressions -/
/-! ### calls that raise -/
abbrev SpX := List D → Mu → EK → Xq → Prop
def spX (K : PySem.W.Frag) (c : Value) (sp : SpX) : Sp := fun vs H Q' E => ∃ B m ds Q xq, Wd K H B m ∧ Reps K H (Ban B m) ds vs ∧ sp ds m Q xq ∧ PostE K B H m Q Q' ∧ ∀ m' H', Step H m H' m' → Wd K H' B m' → xq m' → E c none H'
structure FnX (P : Program) (w : World) (K : PySem.W.Frag) (mg : Str → Option Value) (base : Heap) (c : Value) (x : Str) (k : Nat) (sp : SpX) : Prop where
  ex : ∃ (f : Addr) (fd : FuncData) (ps : List Str), FnOk P w K mg base (L2.CX P w) k f fd ps (spX K c sp) ∧ mg x = some (.ref f) ∧ PySem.W.keepIn K (.ref f) = true ∧ Binds K fd ps []
theorem FnX.mono {P w K mg base x j k sp} (h : FnX P w K mg base c x j sp) (hj : j ≤ k) : FnX P w K mg base c x k sp := let ⟨f, fd, ps, F, r⟩ := h.ex; ⟨f, fd, ps, F.mono hj, r⟩
structure FnMX (P : Program) (w : World) (K : PySem.W.Frag) (mg : Str → Option Value) (base : Heap) (c : Value) (C : Addr) (mth : Str) (k : Nat) (sp : SpX) : Prop where
  ex : ∃ (f : Addr) (fd : FuncData) (ps : List Str), FnOk P w K mg base (L2.CX P w) k f fd ps (spX K c sp) ∧ Meth K C mth f ∧ Binds K fd ps []
theorem FnMX.mono {P w K mg base C x j k sp} (h : FnMX P w K mg base c C x j sp) (hj : j ≤ k) : FnMX P w K mg base c C x k sp := let ⟨f, fd, ps, F, r⟩ := h.ex; ⟨f, fd, ps, F.mono hj, r⟩
/-! ### statements -/
section
variable {st : Stmt} {rest : List Stmt} {t u : AXt} {te : AEXt}
end
end
/-- an own class of exceptions without __init__, as it stands behind the top -/
structure ExcT (K : PySem.W.Frag) (mg : Str → Option Value) (x : Str) (C : Addr) : Prop where
  e : PySem.W.excIn K C [.type "ValueError", .type "Exception", .type "BaseException", .type "object"] "ValueError.__new__" = true
  g : mg x = some (.ref C)
  kp : PySem.W.keepIn K (.ref C) = true
  sub : PySem.W.subIn K (.ref C) (.type "BaseException") = some true
  ty : PySem.W.typeIn K (.ref C) = some (.type "type")
  same : PySem.W.exmOne K (.ref C) (.ref C) = some true
section
variable {X : Cx} {pos : Pos}
/-! ### try -/
section
variable {C : Addr} {x : Str} {body suite : List Stmt} {b₀ : Stmt} {np rp pos' : Pos} {tb : AXt} {ts : ASt}
end
end
/-! ### defs that raise -/
section
variable {P : Program} {w : World} {K : PySem.W.Frag} {mg : Str → Option Value} {base : Heap} {x qual : Str} {st : Stmt} {N ps : List Str} {k : Nat} {sp : SpX} {C : Addr} {c : Value}
theorem passX {f : Addr} {cdv : Value} {A : Around} {outer : List Env} {s : Shared} {H : Hp} {E : XK} {scope : Scope} : PassesOwn (model P w) (A.deeper (envOfC qual scope s.heap.objs.size f cdv)) (envOfC qual scope s.heap.objs.size f cdv) (cxOf (L2.CX P w) P w K mg base N qual scope f cdv A outer s H E).xe :=
  passes_of (X := cxOf (L2.CX P w) P w K mg base N qual scope f cdv A outer s H E) rfl
end
end L3
/-! L41: worths, and what a body comes to. -/
namespace L3
open PySem PySem.Spec PyProof.Rows L2
inductive Wo where
  | n (i : Int) | t (b : Bool) | l (xs : List Int)
  deriving DecidableEq
def Wo.enc : Wo → D
  | .n i => .int i
  | .t b => .bl b
  | .l xs => .tup (xs.map D.int)
def Wo.kind : Wo → Kd
  | .n _ => .n
  | .t _ => .t
  | .l _ => .l
def inW (i : Int) : Prop := -999 ≤ i ∧ i ≤ 999
def Wo.ok : Wo → Prop
  | .n i => inW i
  | .t _ => True
  | .l xs => xs.length ≤ 8 ∧ ∀ x ∈ xs, inW x
def cutI (i : Int) : Int := max (-999) (min 999 i)
def Wo.un (w : W1) (a : Wo) : Option Wo := match w, a with
  | .nt, .t b => some (.t !b)
  | .fst, .l xs => some (.n (xs.headD 0))
  | .rst, .l xs => some (.l xs.tail)
  | .many, .l xs => some (.n xs.length)
  | _, _ => none
def Wo.bin (w : W2) (a b : Wo) : Option Wo := match w, a, b with
  | .thn, _, y => some y
  | .same, x, y => some (.t (decide (x = y)))
  | .put, .n i, .l xs => some (.l (if xs.length < 8 then i :: xs else xs))
  | .below, .n i, .n j => some (.t (decide (i < j)))
  | .plus, .n i, .n j => some (.n (cutI (i + j)))
  | .less, .n i, .n j => some (.n (cutI (i - j)))
  | .times, .n i, .n j => some (.n (cutI (i * j)))
  | .and, _, .t c => some (.t c)
  | _, _, _ => none
/-- what is told behind the first arm already -/
def Wo.early (w : W2) (a : Wo) : Option (Option Wo) := match w with
  | .and => match a with
    | .t false => some (some (.t false))
    | .t true => none
    | _ => some none
  | _ => none
/-! ### running -/
structure RS where
  hs : List (Nat × Option Wo)
  k : Nat
inductive RR where
  | long | done (o : Option Wo)
/-- what is done behind a body that told something -/
def RR.on (r : RR × RS) (f : Wo → RS → RR × RS) : RR × RS := match r with
  | (.done (some x), s) => f x s
  | r => r
structure Rn where
  sh : Nat → Option Bd
  ks : List (Nat × Option Kd)
def Rn.set (R : Rn) (c : Nat) (x : Wo) (s : RS) : RR × RS := if (lk R.ks c).join = some x.kind then (.done (some x), { s with hs := putA s.hs c (some x) }) else (.done none, s)
def Rn.body (R : Rn) (next : Bd → Wo → RS → RR × RS) (w : Wo) : Bd → RS → RR × RS
  | b, s => if 1000 < s.k + 1 then (.long, ⟨s.hs, s.k + 1⟩) else match b with
    | .num i => (.done (some (.n i)), ⟨s.hs, s.k + 1⟩)
    | .tru b => (.done (some (.t b)), ⟨s.hs, s.k + 1⟩)
    | .emp => (.done (some (.l [])), ⟨s.hs, s.k + 1⟩)
    | .arg => (.done (some w), ⟨s.hs, s.k + 1⟩)
    | .cel c => (.done (lk s.hs c).join, ⟨s.hs, s.k + 1⟩)
    | .un w1 a => RR.on (R.body next w a ⟨s.hs, s.k + 1⟩) fun x s1 => (.done (Wo.un w1 x), s1)
    | .bin w2 a b => RR.on (R.body next w a ⟨s.hs, s.k + 1⟩) fun x s1 => match Wo.early w2 x with
      | some o => (.done o, s1)
      | none => RR.on (R.body next w b s1) fun y s2 => (.done (Wo.bin w2 x y), s2)
    | .ite c a b => RR.on (R.body next w c ⟨s.hs, s.k + 1⟩) fun x s1 => match x with
      | .t true => R.body next w a s1
      | .t false => R.body next w b s1
      | _ => (.done none, s1)
    | .set c a => RR.on (R.body next w a ⟨s.hs, s.k + 1⟩) fun x s1 => R.set c x s1
    | .cal d a => RR.on (R.body next w a ⟨s.hs, s.k + 1⟩) fun x s1 => match R.sh d with
      | none => (.done none, s1)
      | some b => next b x s1
/-- rem: how many calls within one another may come yet, and one -/
def Rn.come (R : Rn) : Nat → Bd → Wo → RS → RR × RS
  | 0, _, _, s => (.long, ⟨s.hs, s.k + 1⟩)
  | n + 1, b, w, s => R.body (R.come n) w b s
/-- a run: from no steps; behind Long what was held ahead -/
def Rn.run (R : Rn) (b : Bd) (w : Wo) (hs : List (Nat × Option Wo)) : RR × List (Nat × Option Wo) := match R.come 21 b w ⟨hs, 0⟩ with
  | (.long, _) => (.long, hs)
  | (.done o, s) => (.done o, s.hs)
end L3
namespace L3
open PySem PySem.Spec PyProof.Rows L2
/-! ### lists of ints, compared -/
section
variable {m : Mu} {Q : EK}
end
end L3
/-! L42: what holds along a run. -/
namespace L3
open PySem PySem.Spec PyProof.Rows L2
structure SOk (R : Rn) (s : RS) : Prop where
  ok : ∀ p ∈ s.hs, ∀ x, p.2 = some x → x.ok
  keys : s.hs.map (·.1) = R.ks.map (·.1)
  len : s.hs.length ≤ 1000
def okO (o : Option Wo) : Prop := ∀ x, o = some x → x.ok
theorem SOk.step {R : Rn} {s : RS} (h : SOk R s) (k : Nat) : SOk R ⟨s.hs, k⟩ := ⟨h.ok, h.keys, h.len⟩
theorem SOk.cel {R : Rn} {s : RS} (h : SOk R s) (c : Nat) : okO (lk s.hs c).join := fun x e => by
  cases q : lk s.hs c with
  | none => rw [q] at e; cases e
  | some o =>
    rw [q] at e
    exact h.ok _ (lk_some q) x e
end L3
namespace L3
open PySem PySem.Spec PyProof.Rows L2
end L3
/-! L43: what a run leaves as it is. -/
namespace L3
open PySem PySem.Spec PyProof.Rows L2
section
variable {R : Rn} {next : Bd → Wo → RS → RR × RS} {w : Wo} {Cl : Nat → Prop}
end
section
variable {R : Rn} {Cl : Nat → Prop}
/-! ### what reads nothing tells the same -/
end
end L3
/-! L44: a whole tree of all parts of a shelf. -/
namespace L3
open PySem PySem.Spec PyProof.Rows L2
/-- a part of which what is met already is left out, so far -/
structure WhOne (sh : Nat → Sh) (ns : List Nat) (p : Part) (met : List Nat) (done : List Deed) (t : Tr) : Prop where
  wf : t.wf ns
  dep : t.dep ≤ 1 + done.length
  size : t.size ≤ 1 + done.length
  nb : t.nb ≤ 8
  fm : ∀ c f, (putT sh t).fm c f ↔ (sh p.nm).fm c f ∧ ¬ (c ∈ met ∧ c ∈ done.map (·.c))
  ck : ∀ c k, (putT sh t).ck c k ↔ (sh p.nm).ck c k
section
variable {sh : Nat → Sh} {ns : List Nat} {p : Part} {met : List Nat} {done : List Deed} {t : Tr} {d : Deed}
theorem WhOne.start (hp : p.nm ∈ ns) : WhOne sh ns p met [] (.part p.nm) := ⟨hp, by simp [Tr.dep], by simp [Tr.size], by simp [Tr.nb], fun c f => by simp [putT], fun c k => Iff.rfl⟩
theorem WhOne.skip (h : WhOne sh ns p met done t) (hd : d.c ∉ met) : WhOne sh ns p met (done ++ [d]) t := ⟨h.wf, by have := h.dep; simp; omega, by have := h.size; simp; omega, h.nb, fun c f => by
  rw [h.fm]
  refine and_congr Iff.rfl (not_congr ⟨fun z => ⟨z.1, by rw [List.map_append]; exact List.mem_append_left _ z.2⟩, fun z => ⟨z.1, ?_⟩⟩)
  have h2 := z.2
  rw [List.map_append] at h2
  rcases List.mem_append.mp h2 with h3 | h3
  · exact h3
  · have : c = d.c := by simpa using h3
    rw [this] at z; exact absurd z.1 hd, h.ck⟩
theorem WhOne.cut (h : WhOne sh ns p met done t) (hd : d.c ∈ met) (hc : deedC d.c) : WhOne sh ns p met (done ++ [d]) (.wout t d.c) := ⟨⟨h.wf, hc⟩, by have := h.dep; simp [Tr.dep]; omega, by have := h.size; simp [Tr.size]; omega, h.nb, fun c f => by
  rw [wout_fm, h.fm, and_assoc]
  refine and_congr Iff.rfl ⟨fun ⟨z1, z2⟩ z => ?_, fun z => ⟨fun z1 => z ⟨z1.1, by rw [List.map_append]; exact List.mem_append_left _ z1.2⟩, fun e => z ⟨by rw [e]; exact hd, by rw [e]; simp⟩⟩⟩
  have h2 := z.2
  rw [List.map_append] at h2
  rcases List.mem_append.mp h2 with h3 | h3
  · exact z1 ⟨z.1, h3⟩
  · exact z2 (by simpa using h3), fun c k => by rw [wout_ck, h.ck]⟩
end
/-- what is met behind some deeds of a part -/
def metD (met : List Nat) (done : List Deed) : List Nat := met ++ (done.map (·.c)).filter fun c => decide (c ∉ met)
theorem metD_mem {met : List Nat} {done : List Deed} {c : Nat} : c ∈ metD met done ↔ c ∈ met ∨ c ∈ done.map (·.c) := by
  unfold metD
  rw [List.mem_append, List.mem_filter]
  by_cases h : c ∈ met <;> simp [h]
theorem metD_nd {met : List Nat} {done : List Deed} (h : met.Nodup) (g : (done.map (·.c)).Nodup) : (metD met done).Nodup := by
  unfold metD
  rw [List.nodup_append]
  exact ⟨h, g.filter _, fun a ha b hb e => by have := (List.mem_filter.mp hb).2; subst e; simp at this; exact this ha⟩
structure WhAll (sh : Nat → Sh) (ns : List Nat) (qs : List Part) (met : List Nat) (t : Tr) : Prop where
  wf : t.wf ns
  dep : t.dep ≤ 4 + qs.length
  size : t.size + 1 ≤ 6 * qs.length
  nb : t.nb ≤ 8 * qs.length
  nd : met.Nodup
  met_ : ∀ c, c ∈ met ↔ ∃ p ∈ qs, c ∈ p.ds.map (·.c)
  has : ∀ c ∈ met, ∃ f, (putT sh t).fm c f
  one : ∀ c x y, (putT sh t).fm c x → (putT sh t).fm c y → x = y
  of : ∀ c f, (putT sh t).fm c f → ∃ p ∈ qs, (shOf p).fm c f
  ck : ∀ c k, (putT sh t).ck c k → ∃ p ∈ qs, (shOf p).ck c k
  ckr : ∀ p ∈ qs, ∀ c k, (shOf p).ck c k → (putT sh t).ck c k
theorem shOf_fm {p : Part} {c : Nat} {f : Fm} : (shOf p).fm c f ↔ ∃ d ∈ p.ds, c = d.c ∧ f = ⟨p.nm, d.c, d.tk, d.tl, d.b, gvOf p.gv (srt d.b.cin)⟩ := by
  constructor
  · rintro ⟨fs, h1, h2⟩
    obtain ⟨d, hd, e⟩ := List.mem_map.mp h1
    simp only [Prod.mk.injEq] at e
    obtain ⟨e1, e2⟩ := e
    subst e2
    exact ⟨d, hd, e1.symm, by simpa using h2⟩
  · rintro ⟨d, hd, e1, e2⟩
    exact ⟨_, List.mem_map.mpr ⟨d, hd, by rw [← e1]⟩, by rw [e2, e1]; simp⟩
section
variable {sh : Nat → Sh} {ns : List Nat} {p : Part} {met : List Nat} {t one : Tr} {qs : List Part}
theorem nd_one {α β : Type} {f : α → β} {l : List α} (h : (l.map f).Nodup) {a b : α} (ha : a ∈ l) (hb : b ∈ l) (e : f a = f b) : a = b := by
  induction l with
  | nil => cases ha
  | cons x l ih =>
    rw [List.map_cons, List.nodup_cons] at h
    rcases List.mem_cons.mp ha with e1 | e1
    · rcases List.mem_cons.mp hb with e2 | e2
      · rw [e1, e2]
      · exact absurd (List.mem_map.mpr ⟨b, e2, by rw [← e, e1]⟩) h.1
    · rcases List.mem_cons.mp hb with e2 | e2
      · exact absurd (List.mem_map.mpr ⟨a, e1, by rw [e, e2]⟩) h.1
      · exact ih h.2 e1 e2
theorem shOf_one {p : Part} (h : (p.ds.map (·.c)).Nodup) {c : Nat} {f g : Fm} (h1 : (shOf p).fm c f) (h2 : (shOf p).fm c g) : f = g := by
  obtain ⟨d, hd, e1, e2⟩ := shOf_fm.mp h1
  obtain ⟨d', hd', e1', e2'⟩ := shOf_fm.mp h2
  obtain rfl := nd_one h hd hd' (e1.symm.trans e1')
  rw [e2, e2']
theorem WhAll.first (hsh : sh p.nm = shOf p) (hn : (p.ds.map (·.c)).Nodup) (h4 : p.ds.length ≤ 4) (h : WhOne sh ns p [] p.ds one) : WhAll sh ns [p] (metD [] p.ds) one := by
  have hf : ∀ c f, (putT sh one).fm c f ↔ (shOf p).fm c f := fun c f => by rw [h.fm, hsh]; simp
  refine ⟨h.wf, by have := h.dep; simp; omega, by have := h.size; simp; omega, by have := h.nb; simp; omega, metD_nd List.nodup_nil hn, fun c => ?_, fun c hc => ?_, fun c x y h1 h2 => shOf_one hn ((hf c x).mp h1) ((hf c y).mp h2), fun c f h1 => ⟨p, by simp, (hf c f).mp h1⟩, fun c k h1 => ⟨p, by simp, by rw [← hsh]; exact (h.ck c k).mp h1⟩, fun q hq c k h1 => by rw [List.mem_singleton.mp hq, ← hsh] at h1; exact (h.ck c k).mpr h1⟩
  · rw [metD_mem]; simp
  · rcases metD_mem.mp hc with z | z
    · cases z
    · obtain ⟨d, hd, e⟩ := List.mem_map.mp z
      exact ⟨_, (hf c _).mpr (shOf_fm.mpr ⟨d, hd, e.symm, rfl⟩)⟩
theorem WhAll.more (hok : (putT sh t).ok) (hsh : sh p.nm = shOf p) (hn : (p.ds.map (·.c)).Nodup) (h4 : p.ds.length ≤ 4) (hq : 1 ≤ qs.length) (g : WhAll sh ns qs met t) (h : WhOne sh ns p met p.ds one) : WhAll sh ns (qs ++ [p]) (metD met p.ds) (.wth t one) := by
  have hf : ∀ c f, (putT sh (.wth t one)).fm c f ↔ (putT sh t).fm c f ∨ ((shOf p).fm c f ∧ c ∉ met) := fun c f => by
    rw [wth_fm hok, h.fm, hsh]
    refine or_congr Iff.rfl ⟨fun z => ⟨z.1, fun m => z.2 ⟨m, ?_⟩⟩, fun z => ⟨z.1, fun m => z.2 m.1⟩⟩
    obtain ⟨d, hd, e, _⟩ := shOf_fm.mp z.1
    exact List.mem_map.mpr ⟨d, hd, e.symm⟩
  have old : ∀ c f, (putT sh t).fm c f → c ∈ met := fun c f z => by
    obtain ⟨q, hq, z2⟩ := g.of c f z
    obtain ⟨d, hd, e, _⟩ := shOf_fm.mp z2
    exact (g.met_ c).mpr ⟨q, hq, List.mem_map.mpr ⟨d, hd, e.symm⟩⟩
  refine ⟨⟨g.wf, h.wf⟩, ?_, ?_, ?_, metD_nd g.nd hn, fun c => ?_, fun c hc => ?_, fun c x y h1 h2 => ?_, fun c f h1 => ?_, fun c k h1 => ?_, fun q hq c k h1 => ?_⟩
  · have := g.dep; have := h.dep; simp [Tr.dep]; omega
  · have := g.size; have := h.size; simp [Tr.size]; omega
  · have := g.nb; have := h.nb; simp [Tr.nb]; omega
  · rw [metD_mem, g.met_]
    constructor
    · rintro (⟨q, h1, h2⟩ | z)
      · exact ⟨q, List.mem_append_left _ h1, h2⟩
      · exact ⟨p, by simp, z⟩
    · rintro ⟨q, h1, h2⟩
      rcases List.mem_append.mp h1 with z | z
      · exact .inl ⟨q, z, h2⟩
      · have : q = p := by simpa using z
        subst this; exact .inr h2
  · by_cases hm : c ∈ met
    · obtain ⟨f, z⟩ := g.has c hm
      exact ⟨f, (hf c f).mpr (.inl z)⟩
    · rcases metD_mem.mp hc with z | z
      · exact absurd z hm
      · obtain ⟨d, hd, e⟩ := List.mem_map.mp z
        exact ⟨_, (hf c _).mpr (.inr ⟨shOf_fm.mpr ⟨d, hd, e.symm, rfl⟩, hm⟩)⟩
  · rcases (hf c x).mp h1 with z1 | z1 <;> rcases (hf c y).mp h2 with z2 | z2
    · exact g.one c x y z1 z2
    · exact absurd (old c x z1) z2.2
    · exact absurd (old c y z2) z1.2
    · exact shOf_one hn z1.1 z2.1
  · rcases (hf c f).mp h1 with z | z
    · obtain ⟨q, h3, h4⟩ := g.of c f z
      exact ⟨q, List.mem_append_left _ h3, h4⟩
    · exact ⟨p, by simp, z.1⟩
  · rcases (wth_ck hok).mp h1 with z | z
    · obtain ⟨q, h3, h4⟩ := g.ck c k z
      exact ⟨q, List.mem_append_left _ h3, h4⟩
    · exact ⟨p, by simp, by rw [← hsh]; exact (h.ck c k).mp z⟩
  · refine (wth_ck hok).mpr ?_
    rcases List.mem_append.mp hq with z | z
    · exact .inl (g.ckr q z c k h1)
    · rw [List.mem_singleton.mp z, ← hsh] at h1
      exact .inr ((h.ck c k).mpr h1)
end
end L3
/-! L45: the words of a body; what is reached. -/
namespace L3
open PySem PySem.Spec PyProof.Rows L2
/-! ### what is reached -/
/-- closed but for what is still to be looked at -/
structure Reach (B : Nat → Option Bd) (d : Nat) (l : List Nat) (k : Nat) : Prop where
  nd : l.Nodup
  hd : d ∈ l
  has : ∀ e ∈ l, ∃ b, B e = some b
  cl : ∀ (i : Nat) (e : Nat) (b : Bd), i < k → l[i]? = some e → B e = some b → ∀ c ∈ b.calls, c ∈ l
theorem Reach.start {B : Nat → Option Bd} {d : Nat} {b : Bd} (h : B d = some b) : Reach B d [d] 0 := ⟨by simp, by simp, fun e he => by rw [List.mem_singleton.mp he]; exact ⟨b, h⟩, fun i e b hi => by omega⟩
theorem Reach.fin {B : Nat → Option Bd} {d : Nat} {l : List Nat} {k : Nat} (h : Reach B d l k) (hk : l.length ≤ k) : ∀ e ∈ l, ∀ b, B e = some b → ∀ c ∈ b.calls, c ∈ l := fun e he b hb => by
  obtain ⟨i, hi⟩ := List.getElem?_of_mem he
  have := (List.getElem?_eq_some_iff.mp hi).1
  exact h.cl i e b (by omega) hi hb
theorem Reach.step {B : Nat → Option Bd} {d : Nat} {l l' : List Nat} {k e : Nat} {b : Bd} (h : Reach B d l k) (hp : l <+: l') (hn : l'.Nodup) (he : l[k]? = some e) (hb : B e = some b) (hc : ∀ c ∈ b.calls, c ∈ l') (ha : ∀ c ∈ l', ∃ b, B c = some b) : Reach B d l' (k + 1) := by
  have hs : ∀ x ∈ l, x ∈ l' := fun x hx => hp.subset hx
  refine ⟨hn, hs d h.hd, ha, fun i e' b' hi hg hb' c hcc => ?_⟩
  obtain ⟨t, ht⟩ := hp
  have hkl : k < l.length := (List.getElem?_eq_some_iff.mp he).1
  have hil : i < l.length := by omega
  rw [← ht, List.getElem?_append_left hil] at hg
  by_cases e1 : i = k
  · subst e1
    rw [he] at hg
    cases hg
    rw [hb] at hb'
    cases hb'
    exact hc c hcc
  · exact hs c (h.cl i e' b' (by omega) hg hb' c hcc)
end L3
/-! L47: runs by other names. -/
namespace L3
open PySem PySem.Spec PyProof.Rows L2
def SimS (Cs : Nat → Prop) (s s' : RS) : Prop := s'.k = s.k ∧ ∀ c, Cs c → lk s'.hs c = lk s.hs c
section
variable {R R' : Rn} {ρ : Nat → Nat} {Cs : Nat → Prop} {w : Wo}
theorem SimS.st {s s' : RS} (h : SimS Cs s s') : SimS Cs ⟨s.hs, s.k + 1⟩ ⟨s'.hs, s'.k + 1⟩ := ⟨by show s'.k + 1 = s.k + 1; rw [h.1], h.2⟩
end
end L3
/-! L48: whole trees by other names. -/
namespace L3
open PySem PySem.Spec PyProof.Rows L2
section
variable {sh : Nat → Sh} {t : Tr} {d n : Nat}
end
end L3
/-! L49: right bodies never go wrong. -/
namespace L3
open PySem PySem.Spec PyProof.Rows L2
def HK (cl : Cv) (s : RS) : Prop := ∀ c k, lk cl c = some k → ∃ x, lk s.hs c = some (some x) ∧ x.kind = k
def SndP (cl : Cv) (kd : Kd) (r : RR × RS) : Prop := HK cl r.2 ∧ ∀ o, r.1 = .done o → ∃ x, o = some x ∧ x.kind = kd
theorem SndP.ok {cl : Cv} {s : RS} {x : Wo} {kd : Kd} (h : HK cl s) (e : x.kind = kd) : SndP cl kd (.done (some x), s) := ⟨h, fun o z => by cases z; exact ⟨x, rfl, e⟩⟩
section
variable {R : Rn} {gv : Gv} {cl : Cv} {tk : Kd} {w : Wo}
end
/-! ### kinds under other names -/
end L3
/-! L50: the kinds in a whole tree of right parts; its flat part. -/
namespace L3
open PySem PySem.Spec PyProof.Rows L2
section
variable {ps : List Part} {sh : Nat → Sh} {ns : List Nat}
end
/-! ### the flat part -/
end L3
/-! L51: x or y, x a text. -/
namespace L3
open PySem PySem.Spec PyProof.Rows L2
section
variable {X : Cx} {a b : Expr} {rest : List Expr} {pos : Pos} {ta tb : AEt}
end
end L3
/-! L52: a list comprehension into the store. -/
namespace L3
open PySem PySem.Spec PyProof.Rows L2
section
variable {X : Cx} {pos : Pos} {elt tg iter : Expr} {ifs : List Expr} {scope : Scope} {own : List (Str × Nat)} {ai : AIt} {g : AGt} {tt : ATt} {te : AEt} {gt : TG}
end
/-! ### a list in the store emptied -/
end L3
/-! L46: an own class of exceptions, told by the head. -/
namespace L3
open PySem PySem.Spec PyProof.Rows L2
theorem yesB_ok {o : Option Bool} (h : yesB o = true) : o = some true := by
  cases o with
  | none => cases h
  | some b => cases b <;> first | rfl | cases h
theorem tyB_ok {o : Option Value} (h : tyB o = true) : o = some (.type "type") := by
  unfold tyB at h
  split at h
  · rename_i t
    rw [of_decide_eq_true h]
  · cases h
theorem excB_ok {K : PySem.W.Frag} {mg : Str → Option Value} {x : Str} {C : Addr} (g : mg x = some (.ref C)) (h : excB K C = true) : ExcT K mg x C := by
  unfold excB at h
  simp only [Bool.and_eq_true] at h
  exact ⟨h.1, g, h.2.1, yesB_ok h.2.2.1, tyB_ok h.2.2.2.1, yesB_ok h.2.2.2.2⟩
end L3
/-! L53: readings over data where exceptions of several classes may go out, each with a field or none. -/
namespace L3
open PySem PySem.Spec PyProof.Rows L2
/-- an exception, told: the class's name, its one field -/
abbrev Fo := Option (Str × D)
abbrev Yw := Str → Fo → Mu → Prop
abbrev AEYt := Dt → Mu → EK → Yw → Prop
abbrev AAYt := Dt → Mu → (List D → Mu → Prop) → Yw → Prop
abbrev AYt := AEnds → (Dt → Yw) → Dt → Mu → Prop
def YAt (K : PySem.W.Frag) (H : Hp) (N : Addr → Prop) : Fo → Option Addr → Prop
  | none, d => d = none
  | some (f, x), d => ∃ dd v, d = some dd ∧ H dd = some (.xd [(f, v)]) ∧ ¬ N dd ∧ Rep K H N x v
section
variable (K : PySem.W.Frag) (W : WX)
def PostMY (B : Addr → Prop) (H : Hp) (m : Mu) (σ : L2.St) (xq : Yw) : Prop := ∀ n fo d m' H', Step H m H' m' → Wd K H' B m' → YAt K H' (Ban B m') fo d → xq n fo m' → W (.ref (He.ga K n)) d σ H'
def PostY (B : Addr → Prop) (H : Hp) (m : Mu) (xq : Dt → Yw) : Prop := ∀ n fo d δ' m' σ' H', Step H m H' m' → Wd K H' B m' → EnvD K H' (Ban B m') σ' δ' → YAt K H' (Ban B m') fo d → xq δ' n fo m' → W (.ref (He.ga K n)) d σ' H'
def teY (t : AEYt) : TE := fun σ H Q' => ∃ B δ m Q xq, Wd K H B m ∧ EnvD K H (Ban B m) σ δ ∧ t δ m Q xq ∧ PostE K B H m Q Q' ∧ PostMY K W B H m σ xq
def tsY (t : AYt) : TS := fun De σ H => ∃ B D xq δ m, Wd K H B m ∧ EnvD K H (Ban B m) σ δ ∧ t D xq δ m ∧ EndsOk K B H m D De ∧ PostY K W B H m xq
end
section
variable {K : PySem.W.Frag} {W : WX} {B : Addr → Prop} {H H' : Hp} {m m' : Mu} {σ : L2.St} {δ : Dt} {N N' : Addr → Prop} {fo : Fo} {d : Option Addr}
theorem YAt.carry (c : Carry H N H' N') (h : YAt K H N fo d) : YAt K H' N' fo d := by
  cases fo with
  | none => exact h
  | some p =>
    obtain ⟨f, x⟩ := p
    obtain ⟨dd, v, e, h1, h2, r⟩ := h
    exact ⟨dd, v, e, (c dd _ h1 h2).1, (c dd _ h1 h2).2, Rep.carry c _ _ r⟩
theorem PostMY.step {xq} (s : Step H m H' m') (k : PostMY K W B H m σ xq) : PostMY K W B H' m' σ xq := fun n fo d m2 H2 s2 W2 y q => k n fo d m2 H2 (s.trans s2) W2 y q
theorem PostY.step {xq} (s : Step H m H' m') (k : PostY K W B H m xq) : PostY K W B H' m' xq := fun n fo d d2 m2 v2 H2 s2 W2 E2 y q => k n fo d d2 m2 v2 H2 (s.trans s2) W2 E2 y q
theorem PostY.at_ {xq : Dt → Yw} (k : PostY K W B H m xq) (E : EnvD K H (Ban B m) σ δ) : PostMY K W B H m σ (xq δ) := fun n fo d m2 H2 s2 W2 y q => k n fo d δ m2 σ H2 s2 W2 (E.carry s2.carry) y q
end
structure AEY (X : Cx) (e : Expr) (t : AEYt) : Prop where
  run : ∀ W, L2.Takes X W → PE X e (teY X.K W t)
structure ASY (X : Cx) (st : Stmt) (t : AYt) : Prop where
  run : ∀ W, L2.Takes X W → PS X st (tsY X.K W t)
structure ASsY (X : Cx) (st : List Stmt) (t : AYt) : Prop where
  run : ∀ W, L2.Takes X W → PSs X st (tsY X.K W t)
section
variable {X : Cx} {pos : Pos} {e : Expr} {es : List Expr} {a b : Expr}
/-! ### expressions -/
def yE (t : AEt) : AEYt := fun δ m Q _ => t δ m Q
def yA (t : AAt) : AAYt := fun δ m Q _ => t δ m Q
def yS (t : ASt) : AYt := fun D _ δ m => t D δ m
def yIf (tc : ATt) (ta tb : AEYt) : AEYt := fun δ m Q xq => tc δ m fun b m1 => if b = true then ta δ m1 Q xq else tb δ m1 Q xq
def yCons (ta : AEYt) (tr : AAYt) : AAYt := fun δ m Q xq => ta δ m (fun x m1 => tr δ m1 (fun xs m2 => Q (x :: xs) m2) xq) xq
def yTup (t : AAYt) : AEYt := fun δ m Q xq => t δ m (fun ds m1 => ds.length ≤ sizeLine ∧ Q (.tup ds) m1) xq
def yOp (ρ : Rho2) (ta : AEYt) (tb : AEt) : AEYt := fun δ m Q xq => ta δ m (fun x m1 => tb δ m1 fun y m2 => ρ x y m2 Q) xq
theorem aey_cmp {op : CmpOp} {ρ : Rho2} {ta : AEYt} {tb : AEt} (ho : OpR X (compareOp op) (rOf X.K ρ)) (ha : AEY X a ta) (hb : AE X b tb) (hm : behindInMarks op b = false) : AEY X (.Compare a [op] [b] pos) (yOp ρ ta tb) := ⟨fun W tk =>
  let ⟨_, pb, sb⟩ := hb.ex
  (pe_cmpR ho (ha.run W tk) pb hm).imp fun σ H Q' ⟨B, δ, m, Q, xq, Wd, E, q, k, kx⟩ => ⟨B, δ, m, _, xq, Wd, E, q, fun x m1 v H1 s1 W1 r1 q1 => sb B δ m1 _ σ H1 W1 (E.carry s1.carry) q1 _ fun y m2 u H2 s2 W2 r2 q2 =>
    ⟨B, m2, x, y, Q, W2, Rep.carry s2.carry _ _ r1, r2, q2, k.step (s1.trans s2)⟩, kx⟩⟩
/-! ### calls that raise -/
abbrev SpY := List D → Mu → EK → Yw → Prop
def spY (K : PySem.W.Frag) (sp : SpY) : Sp := fun vs H Q' E => ∃ B m ds Q xq, Wd K H B m ∧ Reps K H (Ban B m) ds vs ∧ sp ds m Q xq ∧ PostE K B H m Q Q' ∧ ∀ n fo d m' H', Step H m H' m' → Wd K H' B m' → YAt K H' (Ban B m') fo d → xq n fo m' → E (.ref (He.ga K n)) d H'
structure FnY (P : Program) (w : World) (K : PySem.W.Frag) (mg : Str → Option Value) (base : Heap) (x : Str) (k : Nat) (sp : SpY) : Prop where
  ex : ∃ (f : Addr) (fd : FuncData) (ps : List Str), FnOk P w K mg base (L2.CX P w) k f fd ps (spY K sp) ∧ mg x = some (.ref f) ∧ PySem.W.keepIn K (.ref f) = true ∧ Binds K fd ps []
theorem FnY.mono {P w K mg base x j k sp} (h : FnY P w K mg base x j sp) (hj : j ≤ k) : FnY P w K mg base x k sp := let ⟨f, fd, ps, F, r⟩ := h.ex; ⟨f, fd, ps, F.mono hj, r⟩
structure FnMY (P : Program) (w : World) (K : PySem.W.Frag) (mg : Str → Option Value) (base : Heap) (C : Addr) (mth : Str) (k : Nat) (sp : SpY) : Prop where
  ex : ∃ (f : Addr) (fd : FuncData) (ps : List Str), FnOk P w K mg base (L2.CX P w) k f fd ps (spY K sp) ∧ Meth K C mth f ∧ Binds K fd ps []
theorem FnMY.mono {P w K mg base C x j k sp} (h : FnMY P w K mg base C x j sp) (hj : j ≤ k) : FnMY P w K mg base C x k sp := let ⟨f, fd, ps, F, r⟩ := h.ex; ⟨f, fd, ps, F.mono hj, r⟩
structure FnIY (P : Program) (w : World) (K : PySem.W.Frag) (mg : Str → Option Value) (base : Heap) (C : Addr) (k : Nat) (sp : SpY) : Prop where
  ex : ∃ (f : Addr) (fd : FuncData) (ps : List Str), FnOk P w K mg base (L2.CX P w) k f fd ps (spY K sp) ∧ Mk K C f ∧ Binds K fd ps []
theorem FnIY.mono {P w K mg base C j k sp} (h : FnIY P w K mg base C j sp) (hj : j ≤ k) : FnIY P w K mg base C k sp := let ⟨f, fd, ps, F, r⟩ := h.ex; ⟨f, fd, ps, F.mono hj, r⟩
def yCall (sp : SpY) (t : AAt) : AEYt := fun δ m Q xq => t δ m fun ds m1 => sp ds m1 Q xq
theorem aey_call {t : AAt} {x : Str} {k : Nat} {sp : SpY} {p : Pos} (F : FnY X.prog X.w X.K X.mg X.base x k sp) (hr : Room k X.A) (h : AA X (e :: es) t) (hg : Gl X x := by rfl) (hdb : (x == ("__debug__" : Str)) = false := by decide)
    (he : starEach (e :: es) X.env = (false, eval e X.env) :: starEach es X.env := by rfl) (hpl : (backTo pos (starEach es X.env)).any (·.1) = false := by rfl) : AEY X (.Call (.Name x p) (e :: es) [] pos) (yCall sp t) := ⟨fun W tk =>
  let ⟨_, pa, s⟩ := h.ex
  let ⟨_, _, _, F, hm, hk, hb⟩ := F.ex
  (pe_callS F hr hg hm hk hb (passAt tk) pa hdb he hpl).imp fun σ H Q' ⟨B, δ, m, Q, xq, Wd, E, q, k, kx⟩ => s B δ m _ σ H Wd E q _ fun ds m1 vs H1 s1 W1 r q =>
    ⟨B, m1, ds, Q, xq, W1, r, q, k.step s1, kx.step s1⟩⟩
def yMeth (C : Addr) (mth : Str) (sp : SpY) (to : AEt) (t : AAt) : AEYt := fun δ m Q xq => to δ m fun x m1 => (∃ p dx fs, x = .ref p ∧ m1 p = some (.ins C dx fs) ∧ fs.lookup mth = none) ∧ t δ m1 fun ds m2 => sp (x :: ds) m2 Q xq
end
end L3
/-! ### C(..), C's __init__ may raise, the wish of exceptions by the slots -/
namespace L2
open PySem PySem.Spec PyProof.Rows
section
variable {X : Cx} {CX : CXT} {k : Nat} {f C : Addr} {fd : FuncData} {ps : List Str} {sp : Sp} {E : St → XK} {x : Str} {p pos : Pos} {e : Expr} {es : List Expr} {t : TA}
theorem run_makeU {pins : List (Addr × Obj)} {σ : St} {H : Hp} {s : Shared} {Q : VK} {us : List Value} {vs : List V} (M : Mk X.K C f) (F : FnOk X.prog X.w X.K X.mg X.base CX k f fd ps sp) (hr : Room (k + 1) X.A) (hb : Binds X.K fd ps [])
    (hx : PassesAt CX X σ (E σ)) (I : Inv X pins σ H s) (r : Vals vs us)
    (h : ∀ x dx, H x = none → H dx = none → dx ≠ x → sp (.ref x :: vs) (upd (upd H dx (.own x)) x (.ins C dx [])) (fun v H2 => v = .non ∧ Q (.ref x) H2) (E σ)) :
    wpAny (model X.prog X.w) X.A (call (.ref C) us) (EP X pins σ Q) X.xe s := by
  have q0 := h (s.heap.objs.size + 1) s.heap.objs.size (I.hok.fresh (Nat.le_succ _)) (I.hok.fresh (Nat.le_refl _)) (Nat.ne_of_lt (Nat.lt_succ_self _))
  have J := Inv.made (C := C) I
  have rs : Vals (V.ref (s.heap.objs.size + 1) :: vs) (Value.ref (s.heap.objs.size + 1) :: us) := .cons rfl r
  have len : (Value.ref (s.heap.objs.size + 1) :: us).length = ps.length := rs.length.symm.trans (F.len _ _ _ _ q0)
  have bd := hb _ (Value.ref (s.heap.objs.size + 1) :: us) J.kIn (by rw [List.append_nil]; exact len)
  rw [List.append_nil] at bd
  refine wpAny_call (make_map (f := f) I.kIn M.makes M.init (beq_iff_eq.mp M.fn) (codeAny_mono (F.run _ X.stack _ _ ⟨Value.ref (s.heap.objs.size + 1) :: us, []⟩ (Value.ref (s.heap.objs.size + 1) :: us) _ _ (E σ) (hr.make C us []) (J.env0.make C us []) bd rs q0) fun rr st' z => ?_))
  match rr, z with
  | .error er, z => exact hx pins _ _ er st' J z
  | .ok (.ret u), z =>
    obtain ⟨v, H', I3, rv, ev, q3⟩ := J.after z
    subst ev
    exact ⟨rv, ⟨V.ref (s.heap.objs.size + 1), H', I3, rfl, q3⟩⟩
def tMakeU (C : Addr) (sp : Sp) (E : St → XK) (t : TA) : TE := fun σ H Q => t σ H fun vs H1 => ∀ x dx, H1 x = none → H1 dx = none → dx ≠ x →
  sp (.ref x :: vs) (upd (upd H1 dx (.own x)) x (.ins C dx [])) (fun v H2 => v = .non ∧ Q (.ref x) H2) (E σ)
theorem pe_makeU (M : Mk X.K C f) (F : FnOk X.prog X.w X.K X.mg X.base CX k f fd ps sp) (hr : Room (k + 1) X.A) (hg : Gl X x) (hm : X.mg x = some (.ref C)) (hb : Binds X.K fd ps []) (hx : ∀ σ, PassesAt CX X σ (E σ))
    (ha : PA X (e :: es) t) (hdb : (x == ("__debug__" : Str)) = false := by decide) (he : starEach (e :: es) X.env = (false, eval e X.env) :: starEach es X.env := by rfl) (hpl : (backTo pos (starEach es X.env)).any (·.1) = false := by rfl) :
    PE X (.Call (.Name x p) (e :: es) [] pos) (tMakeU C sp E t) := by
  refine ⟨fun pins s σ H Q I h => ?_⟩
  refine wpAny_Call_Name_kw (ld_glob I hg hm ?_ hdb)
  refine PySem.W.callWith_K (h₀ := X.base) I.ok.mod.kin M.kp (thn (ha.run pos pins s σ H _ I h) fun us s1 ⟨vs, H1, I1, r, q⟩ => ⟨I1.kIn, ?_⟩) he hpl
  exact run_makeU M F hr hb (hx σ) I1 r q
end
end L2
namespace L3
open PySem PySem.Spec PyProof.Rows L2
section
variable {X : Cx} {pos : Pos} {e : Expr} {es : List Expr}
def yMake (C : Addr) (sp : SpY) (t : AAt) : AEYt := fun δ m Q xq => t δ m fun ds m1 => ∀ p dx, m1 p = none → m1 dx = none → dx ≠ p → sp (.ref p :: ds) (m1.put p (.ins C dx [])) (fun d m2 => d = .non ∧ Q (.ref p) m2) xq
theorem makeY_sound {K : PySem.W.Frag} {W : WX} {B : Addr → Prop} {H1 : Hp} {m1 : Mu} {σ : L2.St} {C x dx : Addr} {sp : SpY} {ds : List D} {vs : List V} {Q : EK} {xq : Yw} {Q' : VK} (W1 : Wd K H1 B m1) (r : Reps K H1 (Ban B m1) ds vs) (hx : H1 x = none) (hdx : H1 dx = none) (hne : dx ≠ x)
    (q : ∀ p dx, m1 p = none → m1 dx = none → dx ≠ p → sp (.ref p :: ds) (m1.put p (.ins C dx [])) (fun d m2 => d = .non ∧ Q (.ref p) m2) xq) (k : PostE K B H1 m1 Q Q') (kx : PostMY K W B H1 m1 σ xq) :
    spY K sp (.ref x :: vs) (upd (upd H1 dx (.own x)) x (.ins C dx [])) (fun v H2 => v = .non ∧ Q' (.ref x) H2) (WE W σ) := by
  obtain ⟨f1, _⟩ := W1.free hx
  obtain ⟨f2, _⟩ := W1.free hdx
  have ⟨Wa, _⟩ := W1.new (o := .own x) hdx
  have hxa : upd H1 dx (.own x) x = none := by rw [upd_ne (fun z => hne z.symm)]; exact hx
  have ⟨stb, Wb⟩ := Wa.into (p := x) (c := .ins C dx []) (o := .ins C dx []) hxa ⟨[], upd_same, rfl, by rw [upd_ne hne]; exact upd_same, by rw [Mu.put_ne hne]; exact f2⟩
  have st : Step H1 m1 (upd (upd H1 dx (.own x)) x (.ins C dx [])) (m1.put x (.ins C dx [])) := (Step.new hdx).trans stb
  refine ⟨B, _, _, _, xq, Wb, reps_cons.mpr ⟨_, _, rfl, rep_ref.mpr rfl, Reps.carry st.carry _ _ r⟩, q x dx f1 f2 hne, fun d m2 v H2 s2 W2 r2 ⟨e, q2⟩ => ?_, fun n fo d m2 H2 s2 W2 y q2 => kx n fo d m2 H2 (st.trans s2) W2 y q2⟩
  subst e
  exact ⟨rep_non.mp r2, k _ m2 _ H2 (st.trans s2) W2 (rep_ref.mpr rfl) q2⟩
theorem aey_make {t : AAt} {x : Str} {k : Nat} {sp : SpY} {C : Addr} {p : Pos} (F : FnIY X.prog X.w X.K X.mg X.base C k sp) (hr : Room (k + 1) X.A) (hm : X.mg x = some (.ref C)) (h : AA X (e :: es) t) (hg : Gl X x := by rfl) (hdb : (x == ("__debug__" : Str)) = false := by decide)
    (he : starEach (e :: es) X.env = (false, eval e X.env) :: starEach es X.env := by rfl) (hpl : (backTo pos (starEach es X.env)).any (·.1) = false := by rfl) : AEY X (.Call (.Name x p) (e :: es) [] pos) (yMake C sp t) := ⟨fun W tk =>
  let ⟨_, pa, s⟩ := h.ex
  let ⟨_, _, _, F, M, hb⟩ := F.ex
  (pe_makeU M F hr hg hm hb (passAt tk) pa hdb he hpl).imp fun σ H Q' ⟨B, δ, m, Q, xq, Wd, E, q, k, kx⟩ => s B δ m _ σ H Wd E q _ fun ds m1 vs H1 s1 W1 r q => fun x dx hx hdx hne => makeY_sound W1 r hx hdx hne q (k.step s1) (kx.step s1)⟩
/-! ### statements -/
def ySeq (t u : AYt) : AYt := fun D xq δ m => t { D with nx := u D xq } xq δ m
def yRet (t : AEYt) : AYt := fun D xq δ m => t δ m D.rt (xq δ)
def yDrop (t : AEYt) : AYt := fun D xq δ m => t δ m (fun _ m1 => D.nx δ m1) (xq δ)
def yIfS (tc : ATt) (t u : AYt) : AYt := fun D xq δ m => tc δ m fun b m1 => if b = true then t D xq δ m1 else u D xq δ m1
def yAsg (t : AEYt) (g : AGt) : AYt := fun D xq δ m => t δ m (fun d m1 => g d δ m1 D.nx) (xq δ)
def yRaise (n : Str) : AYt := fun D xq δ m => xq δ n none m
def forGoY (g : AGt) (tb : AYt) (Z : AEnds) (xq : Dt → Yw) : List D → Dt → Mu → Prop
  | [], δ, m => Z.nx δ m
  | d :: ds, δ, m => g d δ m fun δ2 m2 => tb { Z with nx := forGoY g tb Z xq ds, ct := forGoY g tb Z xq ds, bk := Z.nx } xq δ2 m2
def yFor (ai : AIt) (g : AGt) (tb : AYt) : AYt := fun D xq δ m => ai δ m fun ds m1 => forGoY g tb D xq ds δ m1
section
variable {st : Stmt} {rest : List Stmt} {t u : AYt} {te : AEYt}
theorem asy_of {t : ASt} (h : AS X st t) : ASY X st (yS t) := ⟨fun W tk => h.can.imp fun De σ H ⟨B, D, xq, δ, m, Wd, E, q, k, _⟩ => ⟨B, D, δ, m, Wd, E, q, k⟩⟩
theorem assy_of {sts : List Stmt} {t : ASt} (h : ASs X sts t) : ASsY X sts (yS t) := ⟨fun W tk => h.can.imp fun De σ H ⟨B, D, xq, δ, m, Wd, E, q, k, _⟩ => ⟨B, D, δ, m, Wd, E, q, k⟩⟩
theorem assy_one (h : ASY X st t) : ASsY X [st] t := ⟨fun W tk => pss_one (h.run W tk)⟩
theorem assy_cons (h : ASY X st t) (g : ASsY X rest u) : ASsY X (st :: rest) (ySeq t u) := ⟨fun W tk =>
  (pss_cons (h.run W tk) (g.run W tk)).imp fun De σ H ⟨B, D, xq, δ, m, Wd, E, q, k, kx⟩ => ⟨B, _, xq, δ, m, Wd, E, q, ⟨fun δ' m' σ' H' st W' E' q' => ⟨B, D, xq, δ', m', W', E', q', k.step st, kx.step st⟩, k.rt, k.bk, k.ct⟩, kx⟩⟩
theorem asy_ret (h : AEY X e te) : ASY X (.Return (some e) pos) (yRet te) := ⟨fun W tk =>
  (ps_ret (h.run W tk)).imp fun De σ H ⟨B, D, xq, δ, m, Wd, E, q, k, kx⟩ => ⟨B, δ, m, _, _, Wd, E, q, k.rt, kx.at_ E⟩⟩
theorem asy_expr (h : AEY X e te) (hs : swapsWith e none pos.line X.env = pure false := by rfl) : ASY X (.Expr e pos) (yDrop te) := ⟨fun W tk =>
  (ps_expr (h.run W tk) hs).imp fun De σ H ⟨B, D, xq, δ, m, Wd, E, q, k, kx⟩ => ⟨B, δ, m, _, _, Wd, E, q, fun d m1 v H1 s1 W1 r q => k.nx δ m1 σ H1 s1 W1 (E.carry s1.carry) q, kx.at_ E⟩⟩
theorem asy_if {cc : Expr} {a b : List Stmt} {tc : ATt} (hc : AT X cc tc) (ha : ASsY X a t) (hb : ASsY X b u) : ASY X (.If cc a b pos) (yIfS tc t u) := ⟨fun W tk =>
  let ⟨_, pc, sc⟩ := hc.ex
  (ps_if pc (ha.run W tk) (hb.run W tk)).imp fun De σ H ⟨B, D, xq, δ, m, Wd, E, q, k, kx⟩ => sc B δ m _ σ H Wd E q _ fun c m1 H1 s1 W1 q => by
    cases c with
    | true => exact ⟨B, D, xq, δ, m1, W1, E.carry s1.carry, q, k.step s1, kx.step s1⟩
    | false => exact ⟨B, D, xq, δ, m1, W1, E.carry s1.carry, q, k.step s1, kx.step s1⟩⟩
theorem asy_for {iter tg : Expr} {body : List Stmt} {ai : AIt} {g : AGt} {tb : AYt} (hp : PassesOwn (model X.prog X.w) X.A X.env X.xe) (hc : X.calm = true) (hi : AI X tg iter ai) (hg : AG X tg g) (hb : ASsY X body tb)
    (hs : ∀ x, foldedSetIterable iter X.env x = pure x := by intro _; rfl) : ASY X (.For tg iter body [] pos) (yFor ai g tb) := by
  obtain ⟨wi, pi, si⟩ := hi.ex
  obtain ⟨tg', pg, sg⟩ := hg.ex
  refine ⟨fun W tk => (ps_for hp hc pi pg (hb.run W tk) hs).imp fun De σ H ⟨B, D, xq, δ, m, Wf, E, h, k, kx⟩ => ?_⟩
  refine si B δ m _ σ H Wf E h _ fun J ds m1 H1 s1 W1 Y q => ?_
  have k1 := k.step s1
  have kx1 := kx.step s1
  refine ⟨fun i n σ' H' => ∃ δ' m', Step H1 m1 H' m' ∧ Wd X.K H' B m' ∧ EnvD X.K H' (Ban B m') σ' δ' ∧ n + i = ds.length ∧ forGoY g tb D xq (ds.drop i) δ' m', ⟨ds.length, δ, m1, Step.refl _ _, W1, E.carry s1.carry, rfl, q⟩, ?_⟩
  rintro i n σ' H' ⟨δ', m', st, W', E', hn, hq⟩
  have Yi := Y B (fun a b => .inl b) i H' m' st W'
  by_cases hlt : i < ds.length
  · have hd : ds[i]? = some ds[i] := List.getElem?_eq_getElem hlt
    rw [List.drop_eq_getElem_cons hlt] at hq
    obtain ⟨hgo, hy⟩ := Yi.1 _ hd
    refine .inr ⟨hgo, fun σ2 H2 => ∃ δ2 m2, Step H1 m1 H2 m2 ∧ Wd X.K H2 B m2 ∧ EnvD X.K H2 (Ban B m2) σ2 δ2 ∧ forGoY g tb D xq (ds.drop (i + 1)) δ2 m2, ?_, ?_⟩
    · rintro σ2 H2 ⟨δ2, m2, st2, W2, E2, q2⟩
      exact ⟨n - 1, by omega, δ2, m2, st2, W2, E2, by omega, q2⟩
    · intro x H'' y
      obtain ⟨st2, W2, r2⟩ := hy x H'' y
      refine sg B _ x δ' m' _ σ' H'' W2 (E'.carry st2.carry) r2 hq _ fun δ3 m3 σ3 H3 st3 W3 E3 q3 => ?_
      have sall := (st.trans st2).trans st3
      exact ⟨B, _, xq, δ3, m3, W3, E3, q3, ⟨fun δ4 m4 σ4 H4 st4 W4 E4 q4 => ⟨δ4, m4, sall.trans st4, W4, E4, q4⟩, k1.rt.step sall, k1.nx.step sall, fun δ4 m4 σ4 H4 st4 W4 E4 q4 => ⟨δ4, m4, sall.trans st4, W4, E4, q4⟩⟩, kx1.step sall⟩
  · refine .inl ⟨Yi.2 (by omega), ?_⟩
    rw [List.drop_eq_nil_of_le (by omega)] at hq
    exact k1.nx δ' m' σ' H' st W' E' hq
theorem asy_raise {n x msg : Str} {j : Nat} {p p2 p3 : Pos} (F : ExcT X.K X.mg x (He.ga X.K n)) (hc : X.calm = true) (hg : Gl X x := by rfl) (hdb : (x == ("__debug__" : Str)) = false := by decide) :
    ASY X (.Raise (some (.Call (.Name x p) [.Constant (.str msg) j p2] [] p3)) none pos) (yRaise n) := ⟨fun W tk =>
  (ps_raise hc tk (pmk_own (initId := "ValueError.__init__") PySem.F.excBase_ValueError F.e F.g F.kp (raises_own F.sub F.ty) hg hdb)).imp fun De σ H ⟨B, D, xq, δ, m, Wd, E, q, k, kx⟩ => kx n none none δ m σ H (Step.refl H m) Wd E rfl q⟩
end
/-! ### defs that raise -/
/-- the wish of an exception behind a def's body: it may forget -/
def Yz (xq : Yw) : Dt → Yw := fun _ n fo m1 => ∃ m2, Sub m2 m1 ∧ xq n fo m2
theorem Yz.now {xq : Yw} {δ : Dt} {n : Str} {fo : Fo} {m : Mu} (q : xq n fo m) : Yz xq δ n fo m := ⟨m, Sub.refl m, q⟩
section
variable {P : Program} {w : World} {K : PySem.W.Frag} {mg : Str → Option Value} {base : Heap} {x qual : Str} {st : Stmt} {N ps : List Str} {k : Nat} {sp : SpY} {C : Addr}
theorem okY {f : Addr} {fd : FuncData} (F : FunD K x qual (defArgs st) (defBody st) (defScope st) [] [] f fd) (S : FnScope N ps (defScope st)) (hlen : ∀ ds m Q xq, sp ds m Q xq → ds.length = ps.length)
    (hbody : ∀ (f : Addr) (cdv : Value) (A : Around) (outer : List Env) (s : Shared) (H : Hp) (E : XK), Room k (A.deeper (envOfC qual (defScope st) s.heap.objs.size f cdv)) →
      ∃ t, ASsY (cxOf (L2.CX P w) P w K mg base N qual (defScope st) f cdv A outer s H E) (defBody st) t ∧ ∀ ds m Q xq, sp ds m Q xq → t (endsZ Q) (Yz xq) (startD N ds) m) : FnOk P w K mg base (L2.CX P w) (k + 1) f fd ps (spY K sp) := by
  refine F.ok S (fun vs H Q E ⟨B, m, ds, Qd, xq, W, r, q, _⟩ => by rw [r.len]; exact hlen _ _ _ _ q) (fun cdv A outer s H vs Q E hr ⟨B, m, ds, Qd, xq, W, r, q, k, kx⟩ => ?_)
  obtain ⟨t, h, hq⟩ := hbody f cdv A outer s H E hr
  have tk : L2.Takes (cxOf (L2.CX P w) P w K mg base N qual (defScope st) f cdv A outer s H E) (fun cls d _ H => E cls d H) := takes_of rfl rfl rfl rfl
  refine ⟨_, h.run _ tk, B, endsZ Qd, Yz xq, startD N ds, m, W, EnvD.start N r, hq ds m Qd xq q, ⟨fun δ' m' σ' H' st W' E' q' => k.fz _ m' _ H' st W' (rep_non.mpr rfl) q', k.fz, fun _ _ _ _ _ _ _ q' => q'.elim, fun _ _ _ _ _ _ _ q' => q'.elim⟩, fun n fo d δ' m' σ' H' st W' E' y ⟨m2, hs, q'⟩ => kx n fo d m2 H' (st.trans (step_sub hs)) (W'.sub hs) (y.carry (carry_sub hs)) q'⟩
theorem fniy_of (F : DefI K C qual st ps) (S : FnScope N ps (defScope st)) (hlen : ∀ ds m Q xq, sp ds m Q xq → ds.length = ps.length)
    (hbody : ∀ (f : Addr) (cdv : Value) (A : Around) (outer : List Env) (s : Shared) (H : Hp) (E : XK), Room k (A.deeper (envOfC qual (defScope st) s.heap.objs.size f cdv)) →
      ∃ t, ASsY (cxOf (L2.CX P w) P w K mg base N qual (defScope st) f cdv A outer s H E) (defBody st) t ∧ ∀ ds m Q xq, sp ds m Q xq → t (endsZ Q) (Yz xq) (startD N ds) m) : FnIY P w K mg base C (k + 1) sp :=
  let ⟨f, fd, F, hm, hb⟩ := F.ex
  ⟨f, fd, ps, okY F S hlen hbody, hm, hb⟩
theorem fny_of (F : DefT K mg x st ps) (S : FnScope N ps (defScope st)) (hlen : ∀ ds m Q xq, sp ds m Q xq → ds.length = ps.length)
    (hbody : ∀ (f : Addr) (cdv : Value) (A : Around) (outer : List Env) (s : Shared) (H : Hp) (E : XK), Room k (A.deeper (envOfC x (defScope st) s.heap.objs.size f cdv)) →
      ∃ t, ASsY (cxOf (L2.CX P w) P w K mg base N x (defScope st) f cdv A outer s H E) (defBody st) t ∧ ∀ ds m Q xq, sp ds m Q xq → t (endsZ Q) (Yz xq) (startD N ds) m) : FnY P w K mg base x (k + 1) sp :=
  let ⟨f, fd, F, hm, hb⟩ := F.ex
  ⟨f, fd, ps, okY F S hlen hbody, hm, F.kp, hb⟩
end
end
end L3
/-! L54: a caught exception: its class asked, its field read; count and index of lists. -/
namespace PySem.W
open PySem PySem.Spec PySem.Calls PyProof.Rows
section
variable {prog : Program} {w : World} {A : Around} {E : Value → Shared → Prop} {s : Shared} {K : Frag} {x D : Addr} {ox : Obj} {od : Option Obj}
theorem findObj_dataO {C : Addr} {nm : Str} {at' gt : Value} (hc : (clsIn K C).isSome = true) (h1 : findIn K (.ref C) nm = some (some at')) (h2 : specialIn K at' "__get__" = some (some gt)) (h3 : takesIn K at' = some true) : findObj K C od nm = some (.bind gt at') := by
  obtain ⟨cd, e⟩ := Option.isSome_iff_exists.mp hc
  unfold findObj
  simp only [e, h1, h2, h3, Option.bind_some]
/-- .__class__ of an exception that may have a dict of its own -/
theorem kin_classO {Q : Option Value → Shared → Prop} (k1 : findIn K (.ref D) "__getattribute__" = some (some (.builtin "BaseException.__getattribute__"))) (k2 : findIn K (.ref D) "__getattr__" = some none) (k3 : subIn K (.ref D) (.type "BaseException") = some true)
    (k4 : hasDictIn K D = true) (k5 : findIn K (.ref D) "__class__" = some (some (.builtin "object.__class__")))
    (k6 : specialIn K (.builtin "object.__class__") "__get__" = some (some (.builtin "getset_descriptor.__get__"))) (k7 : takesIn K (.builtin "object.__class__") = some true) (k8 : mroIn K D (.type "object") = some true)
    (Y : K.In s.heap) (J : InstAt s.heap x ox D od) (z : Q (some (.ref D)) { s with toks := s.toks + 1 }) : wpAny (model prog w) A (getAttr? (.ref x) "__class__") Q E s := by
  have fo : findObj K D od "__class__" = some (.bind (.builtin "getset_descriptor.__get__") (.builtin "object.__class__")) := findObj_dataO (by obtain ⟨cd, hc, _⟩ := any_some k4; rw [hc]; rfl) k5 k6 k7
  obtain ⟨hp, gg, dd, tt, oo⟩ := s
  have M0 := J.type (M := model prog w)
  have M1 := looks_findIn (M := model prog w) Y k1
  have M2 := looks_findIn (M := model prog w) Y k2
  have M3 := looks_find (M := model prog w) Y J fo
  have sb : Looks (model prog w) hp (isInstance (.ref x) (.type "BaseException")) true := M0.andThen (looks_subIn Y k3)
  have b0 : (false && onTheHeap (Value.builtin "BaseException.__getattribute__")) = false := rfl
  have b2 : (Value.builtin "BaseException.__getattribute__" == Value.builtin "object.__getattribute__") = false := by decide +kernel
  have b1 : (onTheHeap (Value.ref D) && Value.builtin "BaseException.__getattribute__" == Value.builtin "object.__getattribute__") = false := by rw [b2]; rfl
  unfold getAttr? getAttrBy? getAttrBy
  refine wpAny_bind (wpAny_mkText (wpAny_bind (wpAny_attempt (wpAny_holding (wpAny_bind (M0.at (wpAny_bind (M1.at ?_))))))))
  show wpAny _ _ (if (onTheHeap (Value.ref D) && Value.builtin "BaseException.__getattribute__" == Value.builtin "object.__getattribute__") = true then _ else _) _ _ ⟨hp, gg, dd, tt + 1, oo⟩
  rw [b1, if_neg Bool.false_ne_true]
  unfold getAttrByItsOwn hookBefore
  refine wpAny_bind ?_
  rw [if_pos (show onTheHeap (Value.ref D) = true by rfl)]
  refine M2.at ?_
  refine wpAny_bind (wpAny_attempt (wpAny_holding ?_))
  unfold callGetattribute
  rw [b0, if_neg Bool.false_ne_true]
  unfold boundAndCalled
  rw [F.excAttr_ValueError.ga.bind (.ref x)]
  refine wpAny_bind (wpAny_pure ?_)
  show wpAny _ _ (call (.builtin "BaseException.__getattribute__") [.ref x, .str "__class__" tt]) _ _ ⟨hp, gg, dd, tt + 1, oo⟩
  refine wpAny_call (codeAny_call_builtin F.excAttr_ValueError.ga.plain F.entry_bexc_ga ?_)
  refine @check_slot (model prog w) _ _ ⟨hp, gg, dd, tt + 1, oo⟩ "BaseException.__getattribute__" "BaseException" "__getattribute__" (.ref x) [.str "__class__" tt] [] _ (by decide +kernel) (by decide +kernel) sb (F.args_bexc_ga (.ref x) (.str "__class__" tt)) ?_
  unfold Builtin.«object.__getattribute__»
  refine wpAny_bind (wpAny_of_eq (a := ((Value.ref x : Value), [Value.str "__class__" tt])) (by first | rfl | (simp only [slotArgs]; rfl)) ?_)
  refine wpAny_bind (wpAny_pure (wpAny_bind (M0.at (wpAny_bind (M3.at ?_)))))
  show wpAny _ _ (holding [Value.builtin "object.__class__"] (call (.builtin "getset_descriptor.__get__") [.builtin "object.__class__", .ref x, .ref D]) >>= ret) _ _ ⟨hp, gg, dd, tt + 1, oo⟩
  refine wpAny_bind (wpAny_holding (wpAny_call (class_get (s := ⟨hp, gg, dd, tt + 1, oo⟩) (ox := ox) (od := od) Y J k8 ?_)))
  refine wpAny_pure ?_
  show wpAny _ _ (handedOut (.ref D)) _ _ ⟨hp, gg, dd, tt + 1, oo⟩
  rw [handedOut_of (v := .ref D) rfl]
  first
    | exact wpAny_pure (wpAny_pure z)
    | exact wpAny_pure z
    | exact wpAny_pure (wpAny_bind (wpAny_pure (wpAny_pure z)))
theorem kitx_excO (k1 : findIn K (.ref D) "__getattribute__" = some (some (.builtin "BaseException.__getattribute__"))) (k2 : findIn K (.ref D) "__getattr__" = some none) (k3 : subIn K (.ref D) (.type "BaseException") = some true)
    (k4 : hasDictIn K D = true) (k5 : findIn K (.ref D) "__class__" = some (some (.builtin "object.__class__")))
    (k6 : specialIn K (.builtin "object.__class__") "__get__" = some (some (.builtin "getset_descriptor.__get__"))) (k7 : takesIn K (.builtin "object.__class__") = some true) (k8 : mroIn K D (.type "object") = some true) :
    KitX K (.ref x) (.ref D) (fun h => InstAt h x ox D od) :=
  have Z := handS_kitx_exc (x := x) (ox := ox) k1 k2 k3 k4 k5 k6 k7 k8
  { ty := fun _ _ _ I => I.type
    it := fun M h Y _ => by
      obtain ⟨cdD, hcD, _⟩ := any_some k4
      unfold clsIn at hcD
      split at hcD
      · rename_i c' d' cd' sl' ho
        intro A' Q' E' s' k q
        unfold isType loadHead
        exact wpAny_bind (wpAny_loadPart (k _ _ (Y _ _ ho)) (wpAny_pure q))
      · cases hcD
    ne := Z.ne
    ca := fun Y I k => kin_classO k1 k2 k3 k4 k5 k6 k7 k8 Y I k }
end
end PySem.W
namespace L3
open PySem PySem.Spec PySem.Calls PyProof.Rows L2
/-! ### the class asked -/
/-- the exception's dict, if it has one, stands in the store -/
def XdIn (m : Mu) (d : Option Addr) : Prop := ∀ dd, d = some dd → ∃ vs fs, m dd = some (.xd vs fs)
/-- isinstance(e, c) -/
def spIs (K : PySem.W.Frag) (D a : Addr) (d : Option Addr) : SpD := fun ds m Q => ∃ c cv b, ds = [.ref a, c] ∧ (∀ H N v u, Rep K H N c v → RelV v u → u = cv) ∧ PySem.W.kitOne K (.ref D) cv = some b ∧ XdIn m d ∧ Q (.bl b) m
theorem cr_isE {X : Cx} {a D : Addr} {d : Option Addr} {oe : Obj} {pn : List (Addr × Obj)} (C : ExcC X.K D) (hz : Zc (.ref D) d oe) (hf : ∃ vs, oe.data = .fields vs) : CallR (X.suite a ((a, oe) :: pn)) (.builtin "isinstance") (rcOf X.K (spIs X.K D a d)) := by
  intro pins s σ H xs us Q' I r h
  obtain ⟨B, m, ds, Q, W, rs, ⟨c, cv, b, rfl, hcv, e, hd, q⟩, k⟩ := h
  obtain ⟨v1, ws, rfl, r1, rs⟩ := reps_cons.mp rs
  obtain ⟨v2, ws, rfl, r2, rs⟩ := reps_cons.mp rs
  cases reps_nil.mp rs
  cases rep_ref.mp r1
  cases r with
  | cons rx rr =>
    cases rr with
    | cons rt rr =>
      cases rr
      cases rx
      have ec := hcv _ _ _ _ r2 rt
      subst ec
      obtain ⟨hget, _⟩ := I.pin (a, oe) (List.mem_append.mpr (.inl List.mem_cons_self))
      obtain ⟨vs, hv⟩ := hf
      have J : ∃ od, PySem.W.InstAt s.heap a oe D od := by
        obtain ⟨oc, od0, oda, osl⟩ := oe
        obtain ⟨h1, h2⟩ := hz
        dsimp only at h1 h2 hv
        subst h1 h2 hv
        cases od0 with
        | none => exact ⟨none, hget, rfl, rfl, trivial⟩
        | some dd =>
          obtain ⟨vs2, fs, hm⟩ := hd dd rfl
          obtain ⟨hx, _⟩ := W.cell dd _ hm
          obtain ⟨mA, ⟨o, es, ep, ho, _⟩, _⟩ := I.hok dd _ hx
          exact ⟨some o, hget, rfl, rfl, ho⟩
      obtain ⟨od, J⟩ := J
      exact PySem.W.kia_one (PySem.W.kitx_excO C.hg C.hk C.hs C.hd C.ha C.hn C.ht C.hm) I.kIn J e (fun z => nomatch z) fun tk => ⟨.bl b, H, I.kept (t' := tk) fun _ _ z => z, rfl, k.now W (rep_bl.mpr rfl) q⟩
/-! ### its field -/
def aXf (a : Addr) (d : Option Addr) (f : Str) (te : AEt) : AEt := fun δ m Q => te δ m fun x m1 => x = .ref a ∧ ∃ dd vs fs y, d = some dd ∧ m1 dd = some (.xd vs fs) ∧ fs.lookup f = some y ∧ Q y m1
theorem repf_lookY {K : PySem.W.Frag} {H : Hp} {N : Addr → Prop} {f : Str} {y : D} : ∀ {fs : List (Str × D)} {vs : List (Str × V)}, Repf K H N fs vs → fs.lookup f = some y → ∃ v, vs.lookup f = some v ∧ Rep K H N y v
  | [], _, _, h => by cases h
  | (g, d) :: fs, _, r, h => by
    obtain ⟨v, ws, rfl, r1, r2⟩ := r
    rw [List.lookup_cons] at h ⊢
    split at h
    · rename_i e
      cases h
      exact ⟨v, rfl, r1⟩
    · exact repf_lookY r2 h
theorem ae_xf {X : Cx} {a C : Addr} {d : Option Addr} {oe : Obj} {pn : List (Addr × Obj)} {e : Expr} {te : AEt} {pos : Pos} {f : Str} (T : XfC X.K C) (hno : PySem.W.findIn X.K (.ref C) f = some none)
    (hz : Zc (.ref C) d oe) (hf : ∃ vs, oe.data = .fields vs) (he : AE (X.suite a ((a, oe) :: pn)) e te) (hb : attributeBase e f X.env (eval e X.env) = eval e X.env := by rfl) :
    AE (X.suite a ((a, oe) :: pn)) (.Attribute e f pos) (aXf a d f te) :=
  let ⟨_, p, s⟩ := he.ex
  ⟨_, pe_xf T hno hz hf p hb, fun B δ m Q σ H W E h Q' k => s B δ m _ σ H W E h _ fun x m1 v H1 s1 W1 r ⟨ex, dd, vs, fs, y, ed, hm, hl, q⟩ => by
    subst ex
    cases rep_ref.mp r
    obtain ⟨h1, rf⟩ := W1.cell dd _ hm
    obtain ⟨w, h2, r2⟩ := repf_lookY rf hl
    exact ⟨rfl, rfl, dd, vs, w, ed, h1, h2, (k.step s1).now W1 r2 q⟩⟩
/-! ### a place of the store that was no cell becomes one -/
section
variable {K : PySem.W.Frag} {H : Hp} {N N' : Addr → Prop}
/-- as Carry, but for the dicts of exceptions -/
def CarX (H : Hp) (N N' : Addr → Prop) : Prop := ∀ a o, H a = some o → (∀ vs, o ≠ .xd vs) → ¬ N a → ¬ N' a
mutual
theorem Rep.carX (c : CarX H N N') : ∀ (d : D) (v : V), Rep K H N d v → Rep K H N' d v
  | .non, _, h => rep_non.mpr (rep_non.mp h)
  | .bl _, _, h => rep_bl.mpr (rep_bl.mp h)
  | .int _, _, h => rep_int.mpr (rep_int.mp h)
  | .str _, _, h => rep_str.mpr (rep_str.mp h)
  | .ref _, _, h => rep_ref.mpr (rep_ref.mp h)
  | .ty _, _, h => rep_ty.mpr (rep_ty.mp h)
  | .fl ns, v, h => by
    obtain ⟨a, e, t⟩ := rep_fl.mp h
    refine rep_fl.mpr ⟨a, e, t.imp (fun ⟨r, n⟩ => ⟨r, ?_⟩) id⟩
    rcases r with z | ⟨o, z⟩
    · exact c a _ z (fun _ => HO.noConfusion) n
    · exact c a _ z (fun _ => HO.noConfusion) n
  | .tup ds, v, h => by
    obtain ⟨a, vs, e, t, r⟩ := rep_tup.mp h
    refine rep_tup.mpr ⟨a, vs, e, t.imp (fun ⟨o, h1, h2, n⟩ => ⟨o, h1, h2, c a _ h1 (fun _ => HO.noConfusion) n⟩) id, Reps.carX c ds vs r⟩
  | .lst ds, v, h => by
    obtain ⟨a, vs, e, t, r⟩ := rep_lst.mp h
    exact rep_lst.mpr ⟨a, vs, e, ⟨t.1, c a _ t.1 (fun _ => HO.noConfusion) t.2⟩, Reps.carX c ds vs r⟩
  | .dct ds, v, h => by
    obtain ⟨a, vs, e, t, r⟩ := rep_dct.mp h
    exact rep_dct.mpr ⟨a, vs, e, ⟨t.1, c a _ t.1 (fun _ => HO.noConfusion) t.2⟩, Repk.carX c ds vs r⟩
theorem Reps.carX (c : CarX H N N') : ∀ (ds : List D) (vs : List V), Reps K H N ds vs → Reps K H N' ds vs
  | [], _, h => reps_nil.mpr (reps_nil.mp h)
  | d :: ds, vs, h => by
    obtain ⟨v, ws, e, r, rs⟩ := reps_cons.mp h
    exact reps_cons.mpr ⟨v, ws, e, Rep.carX c d v r, Reps.carX c ds ws rs⟩
theorem Repk.carX (c : CarX H N N') : ∀ (ds : List (Key × D)) (vs : List (Key × V)), Repk K H N ds vs → Repk K H N' ds vs
  | [], _, h => by simpa only [Repk] using h
  | (k, d) :: ds, vs, h => by
    simp only [Repk] at h ⊢
    obtain ⟨v, ws, e, r, rs⟩ := h
    exact ⟨v, ws, e, Rep.carX c d v r, Repk.carX c ds ws rs⟩
end
theorem Repf.carX (c : CarX H N N') : ∀ (ds : List (Str × D)) (vs : List (Str × V)), Repf K H N ds vs → Repf K H N' ds vs
  | [], _, h => h
  | (k, d) :: ds, vs, h => by
    obtain ⟨v, ws, e, r, rs⟩ := h
    exact ⟨v, ws, e, Rep.carX c d v r, Repf.carX c ds ws rs⟩
end
section
variable {K : PySem.W.Frag} {H : Hp} {B : Addr → Prop} {m : Mu} {dd : Addr}
theorem carX_put {vs : List (Str × V)} {c : Cell} (h : H dd = some (.xd vs)) : CarX H (Ban B m) (Ban B (m.put dd c)) := fun a o e n z b => b.elim (fun b => z (.inl b)) fun b => by
  by_cases q : a = dd
  · rw [q, h] at e
    cases e
    exact n vs rfl
  · rw [Mu.put_ne q] at b
    exact z (.inr b)
theorem Wd.xd {vs : List (Str × V)} {fs : List (Str × D)} (W : Wd K H B m) (h : H dd = some (.xd vs)) (hn : ¬ Ban B m dd) (r : Repf K H (Ban B m) fs vs) : Wd K H B (m.put dd (.xd vs fs)) := by
  have c := carX_put (B := B) (m := m) (c := .xd vs fs) h
  refine ⟨fun a cc e => ?_, fun a b => ?_⟩
  · by_cases q : a = dd
    · rw [q, Mu.put_same] at e
      cases e
      rw [q]
      exact ⟨h, Repf.carX c _ _ r⟩
    · rw [Mu.put_ne q] at e
      have k := W.cell a cc e
      cases cc with
      | lst ds => obtain ⟨vs, e, r⟩ := k; exact ⟨vs, e, Reps.carX c ds vs r⟩
      | dct ds => obtain ⟨vs, e, r⟩ := k; exact ⟨vs, e, Repk.carX c ds vs r⟩
      | ins C dx fs =>
        obtain ⟨vs2, e, r, o, n⟩ := k
        refine ⟨vs2, e, Repf.carX c fs vs2 r, o, ?_⟩
        rw [Mu.put_ne (fun z => by rw [z, h] at o; cases o)]
        exact n
      | dfz od vs ds => obtain ⟨e, r⟩ := k; exact ⟨e, Repk.carX c ds vs r⟩
      | tab q => obtain ⟨ps, e, t, r⟩ := k; exact ⟨ps, e, t, fun pos cv z => let ⟨c2, e1, e2, e3⟩ := r pos cv z; ⟨c2, e1, e2, c c2 _ e2 (fun _ => HO.noConfusion) e3⟩⟩
      | xd vs fs => obtain ⟨e, r⟩ := k; exact ⟨e, Repf.carX c fs vs r⟩
      | dT P w rows => obtain ⟨xs, e, n, e2, nd, t⟩ := k; exact ⟨xs, e, n, e2, nd, fun x hx => (t x hx).imp (fun ⟨o, h1, h2, h3⟩ => ⟨o, h1, h2, c _ _ h1 (fun _ => HO.noConfusion) h3⟩) id⟩
      | fnc o c2 q t => obtain ⟨e, e1, e2, e3⟩ := k; exact ⟨e, e1, c c2 _ e1 (fun _ => HO.noConfusion) e2, fun p hp => ⟨(e3 p hp).1, c p.1 _ (e3 p hp).1 (fun _ => HO.noConfusion) (e3 p hp).2⟩⟩
      | cel o v d => obtain ⟨e, e1, e2⟩ := k; exact ⟨e, e1, Rep.carX c _ _ e2⟩
  · obtain ⟨h1, h2⟩ := W.hid a b
    refine ⟨h1, ?_⟩
    rw [Mu.put_ne (fun z => hn (by rw [← z]; exact .inl b))]
    exact h2
end
/-! ### count, index of truths -/
def rCntF (K : PySem.W.Frag) : V → List V → Hp → VK → Prop := fun x xs H Q => ∃ (p : Addr) (ys : List V) (y : V), x = .ref p ∧ xs = [y] ∧ SqL K H p ys ∧ flatV y = true ∧ ys.all flatV = true ∧ Q (.int (ys.countP (fun z => eqV z y) : Nat)) H
theorem eqU_count {y : V} : ∀ {ys : List V} {its : List Value}, Vals ys its → ys.all flatV = true → its.countP (eqU y) = ys.countP fun z => eqV z y
  | [], _, r, _ => by cases r; rfl
  | z :: ys, _, r, f => by
    cases r with
    | cons r1 r2 =>
      rw [List.all_cons, Bool.and_eq_true] at f
      rw [List.countP_cons, List.countP_cons, eqU_count r2 f.2, eqU_of r1 f.1]
theorem mt_countF {X : Cx} : MtR X "list.count" (rCntF X.K) := by
  intro pins s σ H x xs v us Q I rx rxs h
  obtain ⟨p, ys, y, rfl, rfl, hs, fy, fys, q⟩ := h
  cases rx
  cases rxs with
  | cons ry rt =>
    rename_i uy ut
    cases rt
    obtain ⟨its, rv, ⟨⟨cls, dd, data, sl⟩, n, ho, hc, hdn, hd⟩, hlen⟩ := I.list hs
    simp only at hc hd
    subst hc hd
    refine call_meets F.slot_list_count ⟨_, ho, rfl⟩ F.entry_list_count (F.args_list_count_2 _ _)
      (SeqAt.list_countAt p its.toArray n dd sl uy (eqU y)) ⟨ho, fun u' hu' => mem_eqAt ry fy rv fys u' (by simpa using hu'), ?_⟩
    refine ⟨.int (ys.countP (fun z => eqV z y) : Nat), H, I.tok _, ⟨s.toks, ?_⟩, q⟩
    show Value.int ((its.toArray.toList.countP (eqU y) : Nat) : Int) s.toks = _
    rw [show its.toArray.toList = its by simp, eqU_count rv fys]
/-- xs.count(y), items flat -/
def rhoCount : Rho3 := fun x ds m Q => ∃ es y, lstOf m x = some es ∧ ds = [y] ∧ y.flat = true ∧ es.all D.flat = true ∧ Q (.int (es.countP (fun z => PyData.eqv z.pd y.pd) : Nat)) m
theorem countP_vOf {y : D} (fy : y.flat = true) : ∀ {es : List D}, es.all D.flat = true → (es.map vOf).countP (fun z => eqV z (vOf y)) = es.countP fun z => PyData.eqv z.pd y.pd
  | [], _ => rfl
  | e :: es, f => by
    rw [List.all_cons, Bool.and_eq_true] at f
    rw [List.map_cons, List.countP_cons, List.countP_cons, countP_vOf fy f.2, eq_vOf f.1 fy]
theorem mt_countD {X : Cx} : MtR X "list.count" (rmOf X.K rhoCount) := by
  intro pins s σ H x vs v us Q' I rx rv h
  obtain ⟨B, m, dx, ds, Q, W, r1, r2, ⟨es, y, hl, rfl, fy, fes, q⟩, k⟩ := h
  obtain ⟨p, ws, rfl, hp, rs⟩ := lst_at W r1 hl
  obtain ⟨v1, ws2, rfl, r3, r4⟩ := reps_cons.mp r2
  cases reps_nil.mp r4
  have e1 := rep_flat fy r3
  have e2 := reps_flat fes rs
  subst e1 e2
  refine mt_countF pins s σ H _ _ v us Q' I rx rv ⟨p, _, _, rfl, rfl, .inl (.inl hp), flat_vOf fy, flats_vOf fes, ?_⟩
  rw [countP_vOf fy fes]
  exact k.now W (rep_int.mpr rfl) q
def rhoIndex : Rho3 := fun x ds m Q => ∃ es y j z, lstOf m x = some es ∧ ds = [y] ∧ y.flat = true ∧ es.all D.flat = true ∧ es[j]? = some z ∧ PyData.eqv z.pd y.pd = true ∧ (∀ (i : Nat) (z' : D), i < j → es[i]? = some z' → PyData.eqv z'.pd y.pd = false) ∧ Q (.int (j : Nat)) m
theorem mt_indexL {X : Cx} : MtR X "list.index" (rmOf X.K rhoIndex) := by
  intro pins s σ H x vs v us Q' I rx rv h
  obtain ⟨B, m, dx, ds, Q, W, r1, r2, ⟨es, y, j, z, hl, rfl, fy, fes, hz, hzy, hno, q⟩, k⟩ := h
  obtain ⟨p, ws, rfl, hp, rs⟩ := lst_at W r1 hl
  obtain ⟨v1, ws2, rfl, r3, r4⟩ := reps_cons.mp r2
  cases reps_nil.mp r4
  have e1 := rep_flat fy r3
  have e2 := reps_flat fes rs
  subst e1 e2
  have fl : ∀ (i : Nat) (a : D), es[i]? = some a → a.flat = true := fun i a h => List.all_eq_true.mp fes a (List.mem_of_getElem? h)
  refine mt_index pins s σ H _ _ v us Q' I rx rv ⟨p, _, _, j, vOf z, rfl, rfl, .inl (.inl hp), flat_vOf fy, flats_vOf fes, by rw [List.getElem?_map, hz]; rfl, by rw [eq_vOf (fl j z hz) fy]; exact hzy, fun i z' hi hz' => ?_, k.now W (rep_int.mpr rfl) q⟩
  rw [List.getElem?_map] at hz'
  cases e : es[i]? with
  | none => rw [e] at hz'; cases hz'
  | some w =>
    rw [e] at hz'
    cases hz'
    rw [eq_vOf (fl i w e) fy]
    exact hno i w hi e
end L3
/-! L55: raising an own exception that has an __init__ with one field; the eight classes told by the head. -/
namespace L2
open PySem PySem.Spec PyProof.Rows
/-! ### what the head tells -/
theorem oexB_ok {K : PySem.W.Frag} {C : Addr} (q : oexB K C = true) : ∃ nm q N bs bm sn sub ab col dd k0 k1 k2 k3 k5, K.lookup C = some (excClassObj nm q C N bs bm true sn sub ab col dd k0 k1 k2 k3 k5 "ValueError.__new__") ∧ PySem.HandSPX.refsVE bm = true := by
  unfold oexB at q
  split at q
  · rename_i dd cd sl ho
    split at q
    · rename_i C' bm k0 k1 k2 k3 n k5 hm hs
      simp only [Bool.and_eq_true, decide_eq_true_eq, Bool.not_eq_true'] at q
      obtain ⟨rfl, rfl, hdel, hr, hh⟩ := q
      obtain ⟨nm, bs, mro, ns, qn, hd, sn, sub, ab, col, del⟩ := cd
      dsimp only at hm hdel hh
      subst hm hdel hh
      have es : sl = #[k0, k1, k2, k3, some (.builtin "ValueError.__new__"), k5] := by
        obtain ⟨l⟩ := sl
        simp only at hs
        rw [hs]
      subst es
      exact ⟨nm, qn, ns, bs, bm, sn, sub, ab, col, dd, k0, k1, k2, k3, k5, ho, hr⟩
    · cases q
  · cases q
theorem valB_ok {o : Option PySem.W.CFound} (h : valB o = true) : o = some (.val (.builtin "ValueError.__init__")) := by
  unfold valB at h
  split at h
  · rw [of_decide_eq_true h]
  · cases h
/-! ### P.__init__(self, ..), P a class above that has the built-in one -/
structure AbvC (K : PySem.W.Frag) (P : Addr) : Prop where
  cr : ClX.CRead K P (.type "type")
  at_ : PySem.W.findCls K (.ref P) (.type "type") "__init__" = some (.val (.builtin "ValueError.__init__"))
section
variable {X : Cx} {e : Expr} {es : List Expr} {ta : TA} {x : Str} {P : Addr} {p1 p2 pos : Pos}
theorem pe_abvinit {pl : Sem Bool} (hm : X.mg x = some (.ref P)) (A : AbvC X.K P) (ha : PA X (e :: es) ta)
    (hc : eval (.Call (.Attribute (.Name x p1) "__init__" p2) (e :: es) [] pos) X.env = (do
      let ov ← eval (.Name x p1) X.env
      standAt p2.atName
      let (f, first) ← holding [ov] (getMethod ov "__init__" pl)
      callWith pos f first (backTo pos (starEach (e :: es) X.env)) (backToKw pos (keywordEach [] X.env))) := by rfl) (hg : Gl X x := by rfl) (hdb : (x == ("__debug__" : Str)) = false := by decide)
    (he : starEach (e :: es) X.env = (false, eval e X.env) :: starEach es X.env := by rfl) (hpl : (backTo pos (starEach es X.env)).any (·.1) = false := by rfl) :
    PE X (.Call (.Attribute (.Name x p1) "__init__" p2) (e :: es) [] pos) (tVeI X.K ta) := by
  refine ⟨fun pins s σ H Q I h => ?_⟩
  refine PySem.W.methodCall_KW (ld_glob I hg hm ?_ hdb) hc
  refine PySem.W.method_cls I.kIn A.cr.ga (PySem.W.cls_value I.kIn A.cr.rd A.at_ (by decide +kernel) ?_)
  show wpAny _ _ (callWith pos (Value.builtin "ValueError.__init__") [] (backTo pos (starEach (e :: es) X.env)) []) _ _ _
  refine PyProof.Rows.callWith_method1 (thn (ha.run pos pins _ σ H _ (I.tok _) h) fun us s1 z => ?_) he hpl
  obtain ⟨vs, H1, I1, r1, a, C, ws, ev, hl, T, ea, q⟩ := z
  subst ev
  cases r1 with
  | @cons _ u0 _ ur ra rw' =>
    obtain rfl : u0 = Value.ref a := ra
    have hn : ur.length ≤ sizeLine := by
      rw [← Paired.length rw', sizeLine_eq]; omega
    exact oinit_ok T I1 ea hn fun s' J => ⟨.non, H1, J, rfl, q⟩
end
/-- C.__init__(self, y): the class above's, then the one field -/
def spInit (K : PySem.W.Frag) (C : Addr) (f : Str) : Sp := fun vs H Q _ => ∃ a y, vs = [.ref a, y] ∧ OexC K C ∧ PySem.W.findIn K (.ref C) f = some none ∧ H a = some (exo a C none) ∧ ∀ dx, H dx = none → dx ≠ a → Q .non (upd (upd H dx (exd dx [(f, y)])) a (exo a C (some dx)))
def tInit (K : PySem.W.Frag) (f : Str) : TS := fun D σ H => tVeI K (tCons (tVar 0) (tCons (tVar 1) tNil)) σ H fun _ H1 => tOst K f (tVar 0) (tVar 1) D σ H1
theorem init_ok {P : Program} {w : World} {K : PySem.W.Frag} {mg : Str → Option Value} {base : Heap} {qual f s0 y0 : Str} {st : Stmt} {fI C : Addr} {fd : FuncData} (F : FunD K "__init__" qual (defArgs st) (defBody st) (defScope st) [] [] fI fd)
    (S : FnScope [s0, y0] [s0, y0] (defScope st)) (hb : ∀ (cdv : Value) (A : Around) (outer : List Env) (s : Shared) (H : Hp) (E : XK), PSs (cxOf L2.CX0 P w K mg base [s0, y0] qual (defScope st) fI cdv A outer s H E) (defBody st) (tInit K f)) : FnOk P w K mg base L2.CX0 3 fI fd [s0, y0] (spInit K C f) := by
  refine F.ok S (fun vs H Q E ⟨_, _, e, _⟩ => by rw [e]; rfl) (fun cdv A outer s H vs Q E hr ⟨a, y, e, T, hno, ha, q⟩ => ⟨_, hb cdv A outer s H E, ?_⟩)
  subst e
  refine ⟨.ref a, rfl, y, rfl, a, C, [y], rfl, by simp, T, ha, ?_⟩
  exact ⟨y, rfl, .ref a, rfl, a, C, rfl, T, hno, .inl ⟨ha, fun dx h1 h2 => q dx h1 h2⟩⟩
end L2
namespace L3
open PySem PySem.Spec PyProof.Rows L2
/-- an own class of exceptions with an __init__ of one field f -/
structure ExcI (P : Program) (w : World) (K : PySem.W.Frag) (mg : Str → Option Value) (base : Heap) (x : Str) (C : Addr) (f : Str) : Prop where
  T : OexC K C
  g : mg x = some (.ref C)
  no : PySem.W.findIn K (.ref C) f = some none
  ex : ∃ fI fd s0 y0, PySem.W.findIn K (.ref C) "__init__" = some (some (.ref fI)) ∧ PySem.W.typeIn K (.ref fI) = some (.type "function") ∧ FnOk P w K mg base L2.CX0 3 fI fd [s0, y0] (spInit K C f) ∧ Binds K fd [s0, y0] []
section
variable {X : Cx} {pos : Pos} {e : Expr}
def yRaiseI (n f : Str) (te : AEt) : AYt := fun D xq δ m => te δ m fun x m1 => xq δ n (some (f, x)) m1
theorem asy_raiseI {n x f : Str} {p p3 : Pos} {te : AEt} (F : ExcI X.prog X.w X.K X.mg X.base x (He.ga X.K n) f) (hr : Room 4 X.A) (hc : X.calm = true) (he : AE X e te) (hg : Gl X x := by rfl) (hdb : (x == ("__debug__" : Str)) = false := by decide)
    (hs : starEach (e :: []) X.env = (false, eval e X.env) :: starEach [] X.env := by rfl) (hpl : (backTo p3 (starEach [] X.env)).any (·.1) = false := by rfl) :
    ASY X (.Raise (some (.Call (.Name x p) [e] [] p3)) none pos) (yRaiseI n f te) := ⟨fun W tk =>
  let ⟨_, pe, se⟩ := he.ex
  let ⟨_, _, _, _, iC, tI, F1, hb⟩ := F.ex
  (ps_raise hc tk (pmk_oex (k := 3) F.T iC tI F1 hr hb .nil pass0 hg F.g (pa_cons pe pa_nil hs) hdb hs hpl)).imp fun De σ H ⟨B, D, xq, δ, m, Wd, E, q, k, kx⟩ => se B δ m _ σ H Wd E q _ fun d m1 v H1 s1 W1 r q1 => by
    refine ⟨by simp, fun a ha => ⟨a, v, rfl, F.T, F.no, upd_same, fun dx hdx hne => ⟨rfl, dx, [(f, v)], upd_same, by rw [upd_ne hne, upd_same], ?_, ?_⟩⟩⟩
    · rw [upd_ne hne] at hdx; exact hdx
    · rw [upd_ne hne] at hdx
      have eH : upd (del (upd (upd (upd H1 a (exo a (He.ga X.K n) none)) dx (exd dx [(f, v)])) a (exo a (He.ga X.K n) (some dx))) a) dx (.xd [(f, v)]) = upd H1 dx (.xd [(f, v)]) := by
        funext b
        by_cases h1 : b = dx
        · rw [h1, upd_same, upd_same]
        · rw [upd_ne h1, upd_ne h1]
          by_cases h2 : b = a
          · rw [h2, del_same, ha]
          · rw [del_ne h2, upd_ne h2, upd_ne h1, upd_ne h2]
      rw [eH]
      have st : Step H1 m1 (upd H1 dx (.xd [(f, v)])) m1 := Step.new hdx
      obtain ⟨W2, nb⟩ := W1.new (o := .xd [(f, v)]) hdx
      exact kx n (some (f, d)) (some dx) δ m1 σ _ (s1.trans st) W2 ((E.carry s1.carry).carry st.carry) ⟨dx, v, rfl, upd_same, nb, Rep.carry st.carry _ _ r⟩ q1⟩
end
/-! ### the eight classes -/
theorem gab_ok {K : PySem.W.Frag} {C : Addr} (h : gab K C = true) : ExcC K C ∧ XfC K C := by
  unfold gab at h
  simp only [Bool.and_eq_true, decide_eq_true_eq] at h
  obtain ⟨h1, h2, h3, h4, h5, h6, h7, h8⟩ := h
  exact ⟨⟨h1, h2, yesB_ok h3, h4, h5, h6, yesB_ok h7, yesB_ok h8⟩, ⟨h1, h2, yesB_ok h3, h4⟩⟩
/-- a class among the eight, as the head tells it -/
structure Eight (K : PySem.W.Frag) (n : Str) : Prop where
  c : ExcC K (He.ga K n)
  f : XfC K (He.ga K n)
  no : ∀ f ∈ xFields, PySem.W.findIn K (.ref (He.ga K n)) f = some none
  is : ∀ n2 ∈ xNames, PySem.W.kitOne K (.ref (He.ga K n)) (.ref (He.ga K n2)) = some (n == n2)
  ve : PySem.W.kitOne K (.ref (He.ga K n)) (.type "ValueError") = some true
  ex : PySem.W.exmOne K (.ref (He.ga K n)) (.ref (He.ga K "PartError")) = some true
theorem optB_ok {o : Option Bool} {b : Bool} (h : optB o b = true) : o = some b := by
  cases o with
  | none => cases h
  | some c => rw [show c = b from by simpa [optB] using h]
theorem eightB_ok {K : PySem.W.Frag} (h : eightB K = true) {n : Str} (hn : n ∈ xNames) : Eight K n := by
  have := List.all_eq_true.mp h n hn
  simp only [Bool.and_eq_true] at this
  obtain ⟨h1, h2, h3, h4, h5⟩ := this
  obtain ⟨g1, g2⟩ := gab_ok h1
  exact ⟨g1, g2, fun f hf => of_decide_eq_true (List.all_eq_true.mp h2 f hf), fun n2 h => optB_ok (List.all_eq_true.mp h3 n2 h), optB_ok h4, optB_ok h5⟩
/-! ### an own class with an __init__, as the head tells it -/
structure ExcD (K : PySem.W.Frag) (mg : Str → Option Value) (x : Str) (C : Addr) (f qual : Str) (st : Stmt) (ps : List Str) : Prop where
  T : OexC K C
  g : mg x = some (.ref C)
  no : PySem.W.findIn K (.ref C) f = some none
  ab : AbvC K (He.ga K "PartError")
  gP : mg "PartError" = some (.ref (He.ga K "PartError"))
  ex : ∃ fI fd, PySem.W.findIn K (.ref C) "__init__" = some (some (.ref fI)) ∧ PySem.W.typeIn K (.ref fI) = some (.type "function") ∧ FunD K "__init__" qual (defArgs st) (defBody st) (defScope st) [] [] fI fd ∧ Binds K fd ps []
theorem tyFB_ok {o : Option Value} (h : tyFB o = true) : o = some (.type "function") := by
  unfold tyFB at h
  split at h
  · rename_i t
    rw [of_decide_eq_true h]
  · cases h
theorem abvB_ok {K : PySem.W.Frag} {P : Addr} (h : abvB K P = true) : AbvC K P := by
  unfold abvB at h
  simp only [Bool.and_eq_true, decide_eq_true_eq] at h
  exact ⟨⟨h.1, h.2.1⟩, valB_ok h.2.2⟩
theorem excDB_ok {K : PySem.W.Frag} {mg : Str → Option Value} {x f qual : Str} {C fI : Addr} {st : Stmt} {ps : List Str} {fd : FuncData} (g : mg x = some (.ref C)) (gP : mg "PartError" = some (.ref (He.ga K "PartError"))) (h : excDB K C fI f = true)
    (F : FunD K "__init__" qual (defArgs st) (defBody st) (defScope st) [] [] fI fd) (hb : Binds K fd ps []) : ExcD K mg x C f qual st ps := by
  unfold excDB at h
  simp only [Bool.and_eq_true, decide_eq_true_eq] at h
  obtain ⟨h1, h2, h3, h4, h5, h6, h7, h8, h9⟩ := h
  exact ⟨⟨oexB_ok h1, h2, yesB_ok h3, tyB_ok h4, h5⟩, g, h6, abvB_ok h7, gP, fI, fd, h8, tyFB_ok h9, F, hb⟩
theorem excI_of {P : Program} {w : World} {K : PySem.W.Frag} {mg : Str → Option Value} {base : Heap} {x f qual s0 y0 : Str} {C : Addr} {st : Stmt} (D : ExcD K mg x C f qual st [s0, y0]) (S : FnScope [s0, y0] [s0, y0] (defScope st))
    (hb : ∀ (fI : Addr) (cdv : Value) (A : Around) (outer : List Env) (s : Shared) (H : Hp) (E : XK), PSs (cxOf L2.CX0 P w K mg base [s0, y0] qual (defScope st) fI cdv A outer s H E) (defBody st) (tInit K f)) : ExcI P w K mg base x C f :=
  let ⟨fI, fd, h1, h2, F, b⟩ := D.ex
  ⟨D.T, D.g, D.no, fI, fd, s0, y0, h1, h2, init_ok F S (fun cdv A outer s H E => hb fI cdv A outer s H E), b⟩
/-! ### a def whose lambdas are made, handed over as it stands -/
theorem okZL {P : Program} {w : World} {K : PySem.W.Frag} {mg : Str → Option Value} {base : Heap} {x : Str} {st : Stmt} {N ps : List Str} {k : Nat} {sp : SpD} {fd : FuncData} (F : FunD K x x (defArgs st) (defBody st) (defScope st) [] [] (He.fAd K (x, none)) fd) (S : FnScope N ps (defScope st)) (hlen : ∀ ds m Q, sp ds m Q → ds.length = ps.length)
    (hbody : ∀ (f : Addr) (A : Around) (outer : List Env) (s : Shared) (H : Hp) (E : XK), Room k (A.deeper (envOfC x (defScope st) s.heap.objs.size f (.ref (He.codeOf K (x, none))))) →
      ∃ t, ASs (cxOf L2.CX0 P w K mg base N x (defScope st) f (.ref (He.codeOf K (x, none))) A outer s H E).nox (defBody st) t ∧ ∀ ds m Q, sp ds m Q → t (endsZ Q) (startD N ds) m) : FnOk P w K mg base L2.CX0 (k + 1) (He.fAd K (x, none)) fd ps (spD K sp) := by
  obtain ⟨oc, od, dV, kV, doc, pm, an, cdv, ct, osl, rfl, lk, hcd, _, _⟩ := F.ex
  obtain ⟨c, rfl⟩ := He.codeIn_ref hcd
  rw [He.codeOf_eq lk rfl] at hbody
  refine fn_of lk hcd S (fun vs H Q E ⟨B, m, ds, Qd, W, r, q, _⟩ => by rw [r.len]; exact hlen _ _ _ q) (fun A outer s H vs Q E hr ⟨B, m, ds, Qd, W, r, q, k⟩ => ?_)
  obtain ⟨t, h, hq⟩ := hbody _ A outer s H E hr
  obtain ⟨ts, ps', ss⟩ := h.ex
  exact ⟨ts, PSs.nox ps', ss B _ (startD N ds) m _ H W (EnvD.start N r) (hq ds m Qd q) _ ⟨fun δ' m' σ' H' st W' E' q' => k.fz _ m' _ H' st W' (rep_non.mpr rfl) q', k.fz, fun _ _ _ _ _ _ _ q' => q'.elim, fun _ _ _ _ _ _ _ q' => q'.elim⟩⟩
end L3
/-! L56: x(lambda: ..), x a def that calls what it got and tells how it was refused. -/
namespace L3
open PySem PySem.Spec PySem.Calls PyProof.Rows L2
section
variable {X : Cx} {pins : List (Addr × Obj)} {σ : L2.St} {H : Hp} {s : Shared}
end
/-- the def that is handed a lambda -/
structure DefK (K : PySem.W.Frag) (mg : Str → Option Value) (x : Str) (st : Stmt) (a : Str) : Prop where
  ex : ∃ (g : Addr) (oc : Value) (od : Option Addr) (dV kV doc pm : Value) (an : Option Addr) (cdv ct : Value) (osl : Array (Option Value)),
    K.lookup g = some ⟨oc, od, .func (PySem.W.fnOf x x (defArgs st) (defBody st) (defScope st) dV kV doc pm an cdv ct), osl⟩ ∧ PySem.W.codeIn K cdv x = true ∧ PySem.W.keepIn K (.ref g) = true ∧ mg x = some (.ref g) ∧ L2.Binds K (PySem.W.fnOf x x (defArgs st) (defBody st) (defScope st) dV kV doc pm an cdv ct) [a] []
theorem defK_of {K : PySem.W.Frag} {mg : Str → Option Value} {x a : Str} {st : Stmt} {f : Addr} {fd : FuncData} (F : FunD K x x (defArgs st) (defBody st) (defScope st) [] [] f fd) (hm : mg x = some (.ref f)) (hb : Binds K fd [a] []) : DefK K mg x st a := by
  obtain ⟨oc, od, dV, kV, doc, pm, an, cdv, ct, osl, rfl, lk, hcd, _, _⟩ := F.ex
  exact ⟨_, oc, od, dV, kV, doc, pm, an, cdv, ct, osl, lk, hcd, F.kp, hm, hb⟩
/-! ### the def that asks how it was refused -/
def kindD (n : Str) : Fo → D
  | none => .str n
  | some (_, x) => .tup [.str n, x]
/-- the eight, with their fields -/
def Known (n : Str) (fo : Fo) : Prop := match fo with
  | none => n ∈ (["BadShelf", "BadTree", "NotWhole", "BadCall", "Long"] : List Str)
  | some (f, _) => (n, f) ∈ ([("BadPart", "why"), ("NotRight", "name"), ("BadText", "place")] : List (Str × Str))
theorem Known.mem {n : Str} {fo : Fo} (h : Known n fo) : n ∈ xNames := by
  unfold xNames
  cases fo with
  | none =>
    have h : n ∈ (["BadShelf", "BadTree", "NotWhole", "BadCall", "Long"] : List Str) := h
    simp only [List.mem_cons, List.not_mem_nil, or_false] at h ⊢
    rcases h with h | h | h | h | h <;> simp [h]
  | some p =>
    obtain ⟨f, x⟩ := p
    have h : (n, f) ∈ ([("BadPart", "why"), ("NotRight", "name"), ("BadText", "place")] : List (Str × Str)) := h
    simp only [List.mem_cons, List.not_mem_nil, or_false, Prod.mk.injEq] at h ⊢
    rcases h with h | h | h <;> simp [h.1]
/-- what a suite's reading has to tell -/
def KindOk (ts : Addr → Str → Option Addr → ASt) (i : Nat) (δ0 : Dt) : Prop := ∀ (a : Addr) (n : Str) (fo : Fo) (d : Option Addr) (m : Mu), Known n fo → XdIn m d → (∀ f x, fo = some (f, x) → ∃ dd vs, d = some dd ∧ m dd = some (.xd vs [(f, x)])) →
  ts a n d { nx := fun _ _ => False, rt := fun r m3 => r = kindD n fo ∧ Sub m m3 } (δ0.set i (some (.ref a))) m
def TTk (K : PySem.W.Frag) : (XK → Hp → VK → Prop) → Hp → VK → Prop := fun tl H1 Q' => ∃ (B : Addr → Prop) (m : Mu) (Q : EK), Wd K H1 B m ∧ PostE K B H1 m Q Q' ∧
  tl (fun cls d H' => ∃ n fo m', cls = .ref (He.ga K n) ∧ Step H1 m H' m' ∧ Wd K H' B m' ∧ YAt K H' (Ban B m') fo d ∧ Known n fo ∧ Q (kindD n fo) m') H1 (fun _ H' => Q' (.str "") H')
theorem xd_store {K : PySem.W.Frag} {H : Hp} {B : Addr → Prop} {m : Mu} {fo : Fo} {d : Option Addr} (W : Wd K H B m) (y : YAt K H (Ban B m) fo d) :
    ∃ m2, Wd K H B m2 ∧ Sub m m2 ∧ XdIn m2 d ∧ (∀ f x, fo = some (f, x) → ∃ dd vs, d = some dd ∧ m2 dd = some (.xd vs [(f, x)])) ∧ ∀ (H3 : Hp) (m3 : Mu), Step H m2 H3 m3 → Sub m2 m3 → Wd K H3 B m3 → Step H m H3 m := by
  cases fo with
  | none =>
    obtain rfl : d = none := y
    exact ⟨m, W, Sub.refl m, fun _ z => (by cases z), fun f x z => (by cases z), fun H3 m3 st _ _ b o h1 h2 => ⟨(st b o h1 h2).1, h2⟩⟩
  | some p =>
    obtain ⟨f, x⟩ := p
    obtain ⟨dd, v, rfl, h1, h2, r⟩ := y
    have hm : m dd = none := by
      cases e : m dd with
      | none => rfl
      | some c => exact absurd (.inr (by rw [e]; exact fun z => nomatch z)) h2
    have W2 := W.xd (fs := [(f, x)]) h1 h2 ⟨v, [], rfl, r, rfl⟩
    refine ⟨_, W2, Sub.put hm, fun z e => (by cases e; exact ⟨_, _, Mu.put_same⟩), fun g z e => (by cases e; exact ⟨dd, _, rfl, Mu.put_same⟩), fun H3 m3 st sb W3 b o e1 e2 => ⟨?_, e2⟩⟩
    by_cases q : b = dd
    · subst q
      rw [h1] at e1
      cases e1
      exact (W3.cell b _ (sb _ _ Mu.put_same)).1
    · exact (st b o e1 (by rw [Mu.put_ne q]; exact e2)).1
theorem kind_gives {X : Cx} {Ng : List Str} {x a e n q : Str} {sg : Scope} {g : Addr} {cdg : Value} {i j : Nat} {p1 p2 p3 p4 p5 p6 p7 p8 : Pos} {b₀ : Stmt} {suite : List Stmt} {ts : Addr → Str → Option Addr → ASt}
    (hge : sg.names.lookup e = some .globalImplicit) (hme : X.mg e = some (.ref (He.ga X.K "PartError"))) (hde : (e == ("__debug__" : Str)) = false) (hN : Ng.Nodup) (hi : Ng[i]? = some n) (hln : sg.names.lookup n = some .local) (hNg : ∀ f : Addr, (L2.start Ng [V.ref f])[0]? = some (some (V.ref f)))
    (h8 : ∀ n ∈ xNames, Eight X.K n) (hk : KindOk ts i (List.replicate Ng.length none))
    (hsu : ∀ (s : Shared) (H : Hp) (a : Addr) (oe : Obj) (n : Str) (d : Option Addr) (pn : List (Addr × Obj)), n ∈ xNames → Zc (.ref (He.ga X.K n)) d oe → (∃ vs, oe.data = .fields vs) →
      ASs (((cxOf C8.CX0 X.prog X.w X.K X.mg X.base Ng x sg g cdg X.A X.stack s H C8.E0).nox).suite a ((a, oe) :: pn)) (b₀ :: suite) (ts a n d))
    (hsw : ∀ (s : Shared) (H : Hp), swapsWith (.Call (.Name a p1) [] [] p2) none p3.line ((cxOf C8.CX0 X.prog X.w X.K X.mg X.base Ng x sg g cdg X.A X.stack s H C8.E0).nox).env = pure false) :
    LamX.GivesTo X Ng x sg g cdg [.Try [.Expr (.Call (.Name a p1) [] [] p2) p3] [.ExceptHandler (some (.Name e p4)) (some n) (b₀ :: suite) p5] [] [] p6, .Return (some (.Constant (.str "") j p7)) p8] a q (TTk X.K) := by
  intro f c' s H Q' tl act hc h
  obtain ⟨B, m, Q, W, k, h⟩ := h
  have hgl : Gl (cxOf C8.CX0 X.prog X.w X.K X.mg X.base Ng x sg g cdg X.A X.stack s H C8.E0).nox e := hge
  refine ⟨_, pss_cons (ps_try_as (X := (cxOf C8.CX0 X.prog X.w X.K X.mg X.base Ng x sg g cdg X.A X.stack s H C8.E0).nox) (c := .ref (He.ga X.K "PartError")) (i := i) (Wout := fun _ _ _ _ => False)
      (tb := fun W D σ H => ∃ Ech : XK, (∀ cls d σ' H', Ech cls d H' → W cls d σ' H') ∧ σ[0]? = some (some (.ref f)) ∧ H c' = some (LamX.CodeO c' q) ∧ tl Ech H fun _ H' => D.nx σ H')
      (ts := fun a cls d D σ H => ∃ n, n ∈ xNames ∧ cls = .ref (He.ga X.K n) ∧ (σ.length = Ng.length → tsC X.K (ts a n d) D σ H))
      rfl rfl hN hi hln ⟨hgl, hde, .inl hme⟩ takes0 (fun W pn xe tk hp => ?_) (fun a oe cls d pn hz hf => ?_)) (pss_one (ps_ret pe_str)), ?_⟩
  · refine ⟨fun pins s' σ H' D I h' => ?_⟩
    obtain ⟨Ech, hW, h1, h2, h3⟩ := h'
    exact (pss_one (ps_expr (pos := p3) (act W pn xe Ech p1 p2 tk hW) (hsw s H))).run pins s' σ H' D I ⟨h1, h2, h3⟩
  · refine ⟨fun pins s' σ H' D I h' => ?_⟩
    obtain ⟨n, hn, rfl, h2⟩ := h'
    exact (hsu s H a oe n d pn hn hz hf).can.run pins s' σ H' D I (h2 I.len)
  · refine ⟨fun cls d H' => ∃ n fo m', cls = .ref (He.ga X.K n) ∧ Step H m H' m' ∧ Wd X.K H' B m' ∧ YAt X.K H' (Ban B m') fo d ∧ Known n fo ∧ Q (kindD n fo) m', ?_, hNg f, hc, h⟩
    rintro cls d σ' H' ⟨n, fo, m', rfl, st, W', y, kn, q⟩
    refine ⟨true, (h8 n kn.mem).ex, fun _ a ha => ⟨n, kn.mem, rfl, fun hlen => ?_⟩, fun z => nomatch z⟩
    obtain ⟨m2, W2, sb, xi, xf, fin⟩ := xd_store W' y
    have il : i < Ng.length := (List.getElem?_eq_some_iff.mp hi).1
    refine ⟨B, _, _, m2, W2, ⟨by simpa using hlen, fun jj dd hj => ?_⟩, hk a n fo d m2 kn xi xf, ⟨fun _ _ _ _ _ _ _ z => z.elim, fun r m3 v H3 st3 W3 rep ⟨er, sb3⟩ => ?_, fun _ _ _ _ _ _ _ z => z.elim, fun _ _ _ _ _ _ _ z => z.elim⟩⟩
    · rw [List.getElem?_set] at hj
      by_cases e : i = jj
      · subst e
        rw [if_pos rfl, if_pos (by simpa using il)] at hj
        cases hj
        refine ⟨.ref a, ?_, rep_ref.mpr rfl⟩
        rw [List.getElem?_set, if_pos rfl, if_pos (by simpa using (show i < (σ'.set i (some (.ref a))).length by rw [hlen]; exact il))]
      · rw [if_neg e, List.getElem?_replicate] at hj
        split at hj <;> cases hj
    · exact k r m' v H3 (st.trans (fin H3 m3 st3 sb3 W3)) (W3.sub (sb.trans sb3)) (Rep.carry (carry_sub (sb.trans sb3)) _ _ rep) (by rw [er]; exact q)
theorem GloD.cls {K : PySem.W.Frag} {mg : Str → Option Value} {x : Str} {C : Addr} (h : mg x = some (.ref C)) : GloD K mg x (.ref C) := ⟨_, .ref C, h, rfl, fun _ _ => rep_ref.mpr rfl⟩
theorem cr_isEK {X : Cx} {K : PySem.W.Frag} {a D : Addr} {d : Option Addr} {oe : Obj} {pn : List (Addr × Obj)} (C : ExcC K D) (hz : Zc (.ref D) d oe) (hf : ∃ vs, oe.data = .fields vs) (hk : X.K = K := by rfl) : CallR (X.suite a ((a, oe) :: pn)) (.builtin "isinstance") (rcOf X.K (spIs K D a d)) := by
  subst hk
  exact cr_isE C hz hf
theorem ae_xfK {X : Cx} {K : PySem.W.Frag} {a C : Addr} {d : Option Addr} {oe : Obj} {pn : List (Addr × Obj)} {e : Expr} {te : AEt} {pos : Pos} {f : Str} (T : XfC K C) (hno : PySem.W.findIn K (.ref C) f = some none)
    (hz : Zc (.ref C) d oe) (hf : ∃ vs, oe.data = .fields vs) (he : AE (X.suite a ((a, oe) :: pn)) e te) (hk : X.K = K := by rfl) (hb : attributeBase e f X.env (eval e X.env) = eval e X.env := by rfl) :
    AE (X.suite a ((a, oe) :: pn)) (.Attribute e f pos) (aXf a d f te) := by
  subst hk
  exact ae_xf T hno hz hf he hb
end L3
/-! the program's defs. -/
namespace K01
open PySem PySem.Spec PyProof.Rows L2 L3
theorem sc_is_letter : FnScope ["part", "letters"] ["part", "letters"] (defScope s_is_letter) := ⟨rfl, rfl, rfl, by decide +kernel, rfl, by decide +kernel, by decide +kernel⟩
theorem sc_is_whole_kinds : FnScope ["part"] ["part"] (defScope s_is_whole_kinds) := ⟨rfl, rfl, rfl, by decide +kernel, rfl, by decide +kernel, by decide +kernel⟩
theorem sc_is_arm : FnScope ["arm", "sort"] ["arm", "sort"] (defScope s_is_arm) := ⟨rfl, rfl, rfl, by decide +kernel, rfl, by decide +kernel, by decide +kernel⟩
theorem sc_words_in : FnScope ["body", "within", "arms", "many", "arm", "sort"] ["body", "within"] (defScope s_words_in) := ⟨rfl, rfl, rfl, by decide +kernel, rfl, by decide +kernel, by decide +kernel⟩
theorem sc_is_body : FnScope ["body"] ["body"] (defScope s_is_body) := ⟨rfl, rfl, rfl, by decide +kernel, rfl, by decide +kernel, by decide +kernel⟩
theorem sc_within : FnScope ["body", "arm", "sort"] ["body"] (defScope s_within) := ⟨rfl, rfl, rfl, by decide +kernel, rfl, by decide +kernel, by decide +kernel⟩
theorem sc_kind_in : FnScope ["body", "takes", "given", "cells", "word", "kinds", "kind", "one"] ["body", "takes", "given", "cells"] (defScope s_kind_in) := ⟨rfl, rfl, rfl, by decide +kernel, rfl, by decide +kernel, by decide +kernel⟩
theorem sc_are_kinds : FnScope ["some", "one"] ["some"] (defScope s_are_kinds) := ⟨rfl, rfl, rfl, by decide +kernel, rfl, by decide +kernel, by decide +kernel⟩
theorem sc_are_rising : FnScope ["rows", "names", "row"] ["rows"] (defScope s_are_rising) := ⟨rfl, rfl, rfl, by decide +kernel, rfl, by decide +kernel, by decide +kernel⟩
theorem sc_are_rows : FnScope ["rows", "most", "many", "letters", "row"] ["rows", "most", "many", "letters"] (defScope s_are_rows) := ⟨rfl, rfl, rfl, by decide +kernel, rfl, by decide +kernel, by decide +kernel⟩
theorem sc_are_deeds : FnScope ["rows", "row"] ["rows"] (defScope s_are_deeds) := ⟨rfl, rfl, rfl, by decide +kernel, rfl, by decide +kernel, by decide +kernel⟩
theorem sc_why_none : FnScope ["part", "names", "name", "deeds", "asks", "cells", "row"] ["part"] (defScope s_why_none) := ⟨rfl, rfl, rfl, by decide +kernel, rfl, by decide +kernel, by decide +kernel⟩
theorem sc_need_part : FnScope ["part", "why"] ["part"] (defScope s_need_part) := ⟨rfl, rfl, rfl, by decide +kernel, rfl, by decide +kernel, by decide +kernel⟩
theorem sc_need_shelf : FnScope ["shelf", "part", "names"] ["shelf"] (defScope s_need_shelf) := ⟨rfl, rfl, rfl, by decide +kernel, rfl, by decide +kernel, by decide +kernel⟩
theorem sc_given_in : FnScope ["part", "row"] ["part"] (defScope s_given_in) := ⟨rfl, rfl, rfl, by decide +kernel, rfl, by decide +kernel, by decide +kernel⟩
theorem sc_wrong_deed : FnScope ["part", "given", "cells", "deed", "takes", "tells", "body"] ["part"] (defScope s_wrong_deed) := ⟨rfl, rfl, rfl, by decide +kernel, rfl, by decide +kernel, by decide +kernel⟩
theorem sc_right : FnScope ["part"] ["part"] (defScope s_right) := ⟨rfl, rfl, rfl, by decide +kernel, rfl, by decide +kernel, by decide +kernel⟩
theorem sc_trees_in : FnScope ["tree", "names", "within", "shape", "many", "arm", "sort"] ["tree", "names", "within"] (defScope s_trees_in) := ⟨rfl, rfl, rfl, by decide +kernel, rfl, by decide +kernel, by decide +kernel⟩
theorem sc_need_tree : FnScope ["shelf", "tree", "part"] ["shelf", "tree"] (defScope s_need_tree) := ⟨rfl, rfl, rfl, by decide +kernel, rfl, by decide +kernel, by decide +kernel⟩
theorem sc_forms : FnScope ["shelf", "tree", "sheaf", "deed"] ["shelf", "tree"] (defScope s_forms) := ⟨rfl, rfl, rfl, by decide +kernel, rfl, by decide +kernel, by decide +kernel⟩
theorem sc_wanting : FnScope ["shelf", "tree"] ["shelf", "tree"] (defScope s_wanting) := ⟨rfl, rfl, rfl, by decide +kernel, rfl, by decide +kernel, by decide +kernel⟩
theorem sc_parted : FnScope ["shelf", "one", "other"] ["shelf", "one", "other"] (defScope s_parted) := ⟨rfl, rfl, rfl, by decide +kernel, rfl, by decide +kernel, by decide +kernel⟩
theorem sc_alike : FnScope ["shelf", "one", "other"] ["shelf", "one", "other"] (defScope s_alike) := ⟨rfl, rfl, rfl, by decide +kernel, rfl, by decide +kernel, by decide +kernel⟩
theorem sc_flat : FnScope ["shelf", "tree", "name", "sheaf", "deeds", "cells", "deed", "cell"] ["shelf", "tree", "name"] (defScope s_flat) := ⟨rfl, rfl, rfl, by decide +kernel, rfl, by decide +kernel, by decide +kernel⟩
theorem sc_givers : FnScope ["shelf", "tree", "names", "many", "some", "whole", "name", "part"] ["shelf", "tree"] (defScope s_givers) := ⟨rfl, rfl, rfl, by decide +kernel, rfl, by decide +kernel, by decide +kernel⟩
theorem sc_written : FnScope ["part", "rows", "name", "deeds", "asks", "cells", "row"] ["part"] (defScope s_written) := ⟨rfl, rfl, rfl, by decide +kernel, rfl, by decide +kernel, by decide +kernel⟩
theorem sc_written_tree : FnScope ["shelf", "tree"] ["shelf", "tree"] (defScope s_written_tree) := ⟨rfl, rfl, rfl, by decide +kernel, rfl, by decide +kernel, by decide +kernel⟩
theorem sc_read_tree : FnScope ["shelf", "text", "words", "reader", "found"] ["shelf", "text"] (defScope s_read_tree) := ⟨rfl, rfl, rfl, by decide +kernel, rfl, by decide +kernel, by decide +kernel⟩
theorem sc_Thing_init : FnScope ["self", "shelf", "tree", "names", "part", "sheaf"] ["self", "shelf", "tree"] (defScope s_Thing_init) := ⟨rfl, rfl, rfl, by decide +kernel, rfl, by decide +kernel, by decide +kernel⟩
theorem sc_tried : FnScope ["shelf", "tree", "deed", "worth", "sheaf", "found"] ["shelf", "tree", "deed", "worth"] (defScope s_tried) := ⟨rfl, rfl, rfl, by decide +kernel, rfl, by decide +kernel, by decide +kernel⟩
theorem sc__law_mix : FnScope ["_law_script", "_law_seed", "_law_mixed", "_law_cell"] ["_law_script", "_law_seed"] (defScope s__law_mix) := ⟨rfl, rfl, rfl, by decide +kernel, rfl, by decide +kernel, by decide +kernel⟩
theorem sc__law_next : FnScope ["_law_h", "_law_many", "_law_at", "_law_cell"] ["_law_h", "_law_many"] (defScope s__law_next) := ⟨rfl, rfl, rfl, by decide +kernel, rfl, by decide +kernel, by decide +kernel⟩
theorem sc__law_leaf : FnScope ["_law_h", "_law_e", "_law_kind_here", "_law_some", "_law_cell"] ["_law_h", "_law_e", "_law_kind_here"] (defScope s__law_leaf) := ⟨rfl, rfl, rfl, by decide +kernel, rfl, by decide +kernel, by decide +kernel⟩
theorem sc__law_call : FnScope ["_law_h", "_law_e", "_law_kind_here", "_law_deep", "_law_deeds", "_law_cells", "_law_deed", "_law_cell"] ["_law_h", "_law_e", "_law_kind_here", "_law_deep"] (defScope s__law_call) := ⟨rfl, rfl, rfl, by decide +kernel, rfl, by decide +kernel, by decide +kernel⟩
theorem sc__law_body : FnScope ["_law_h", "_law_e", "_law_kind_here", "_law_deep", "_law_turn", "_law_other", "_law_arms"] ["_law_h", "_law_e", "_law_kind_here", "_law_deep"] (defScope s__law_body) := ⟨rfl, rfl, rfl, by decide +kernel, rfl, by decide +kernel, by decide +kernel⟩
theorem sc__law_reckons : FnScope ["_law_h", "_law_e", "_law_kind_here", "_law_deep", "_law_word", "_law_more", "_law_other", "_law_one"] ["_law_h", "_law_e", "_law_kind_here", "_law_deep"] (defScope s__law_reckons) := ⟨rfl, rfl, rfl, by decide +kernel, rfl, by decide +kernel, by decide +kernel⟩
theorem sc__law_calls : FnScope ["_law_body_here", "_law_found", "_law_arm", "_law_deed"] ["_law_body_here"] (defScope s__law_calls) := ⟨rfl, rfl, rfl, by decide +kernel, rfl, by decide +kernel, by decide +kernel⟩
theorem sc__law_used : FnScope ["_law_body_here", "_law_found", "_law_arm"] ["_law_body_here"] (defScope s__law_used) := ⟨rfl, rfl, rfl, by decide +kernel, rfl, by decide +kernel, by decide +kernel⟩
theorem sc__law_part : FnScope ["_law_h", "_law_name", "_law_own", "_law_others", "_law_sig", "_law_cells", "_law_deeds", "_law_met", "_law_used_here", "_law_given", "_law_deed", "_law_asks", "_law_some", "_law_e", "_law_body_here", "_law_cell"] ["_law_h", "_law_name", "_law_own", "_law_others", "_law_sig", "_law_cells"] (defScope s__law_part) := ⟨rfl, rfl, rfl, by decide +kernel, rfl, by decide +kernel, by decide +kernel⟩
theorem sc__law_shelf : FnScope ["_law_h", "_law_kinds", "_law_sig", "_law_cells", "_law_many", "_law_owners", "_law_deed", "_law_every", "_law_own", "_law_found", "_law_k", "_law_turn", "_law_others", "_law_cell"] ["_law_h"] (defScope s__law_shelf) := ⟨rfl, rfl, rfl, by decide +kernel, rfl, by decide +kernel, by decide +kernel⟩
theorem sc__law_kind : FnScope ["_law_work", "_law_e", "_law_kinds"] ["_law_work"] (defScope s__law_kind) := ⟨rfl, rfl, rfl, by decide +kernel, rfl, by decide +kernel, by decide +kernel⟩
theorem sc__law_bad_body : FnScope ["_law_h", "_law_deep", "_law_turn", "_law_wide", "_law_far", "_law_some"] ["_law_h"] (defScope s__law_bad_body) := ⟨rfl, rfl, rfl, by decide +kernel, rfl, by decide +kernel, by decide +kernel⟩
theorem sc__law_odd : FnScope ["_law_h", "_law_part_here", "_law_good", "_law_turn", "_law_row", "_law_rows", "_law_name", "_law_deeds", "_law_asks", "_law_cells", "_law_ask"] ["_law_h", "_law_part_here"] (defScope s__law_odd) := ⟨rfl, rfl, rfl, by decide +kernel, rfl, by decide +kernel, by decide +kernel⟩
theorem sc__law_works : FnScope ["_law_shelf_here", "_law_works_here"] ["_law_shelf_here"] (defScope s__law_works) := ⟨rfl, rfl, rfl, by decide +kernel, rfl, by decide +kernel, by decide +kernel⟩
theorem sc__law_are : FnScope ["_law_works_here", "_law_word", "_law_work"] ["_law_works_here", "_law_word"] (defScope s__law_are) := ⟨rfl, rfl, rfl, by decide +kernel, rfl, by decide +kernel, by decide +kernel⟩
theorem sc_law : FnScope ["_law_script", "_law_h", "_law_turn", "_law_shelf_here", "_law_k", "_law_bad", "_law_many", "_law_odd_here", "_law_why", "_law_name"] ["_law_script"] (defScope s_law) := ⟨rfl, rfl, rfl, by decide +kernel, rfl, by decide +kernel, by decide +kernel⟩
theorem sc_BadPart_init : FnScope ["self", "why"] ["self", "why"] (defScope s_BadPart_init) := ⟨rfl, rfl, rfl, by decide +kernel, rfl, by decide +kernel, by decide +kernel⟩
/-- what the head tells -/
structure Txt (K : PySem.W.Frag) (w : World) (mg : Str → Option Value) : Prop where
  c_TRUTH : GloD K mg "TRUTH" (.str "truth")
  c_KINDS : GloD K mg "KINDS" (.tup [(.str "number"), (.str "truth"), (.str "list")])
  c_DEEDS : GloD K mg "DEEDS" (.str "abcdefgh")
  c_CELLS : GloD K mg "CELLS" (.str "pqrs")
  c_PARTS : GloD K mg "PARTS" (.str "ABCDEF")
  d_is_letter : DefT K mg "is_letter" s_is_letter ["part", "letters"]
  d_is_whole_kinds : DefN K mg "is_whole_kinds" "is_whole" s_is_whole_kinds ["part"]
  c_MOST_WORDS : GloD K mg "MOST_WORDS" (.int (60))
  c_MOST_WITHIN_bodies : GloD K mg "MOST_WITHIN_bodies" (.int (9))
  c_MOST_WRITTEN : GloD K mg "MOST_WRITTEN" (.int (99))
  t_ARMS : KTab K w mg "ARMS" kt_ARMS
  o_ARMS : KTabO K w mg "ARMS" kt_ARMS
  t_TAKES : KTab K w mg "TAKES" kt_TAKES
  o_TAKES : KTabO K w mg "TAKES" kt_TAKES
  t_TELLS : KTab K w mg "TELLS" kt_TELLS
  o_TELLS : KTabO K w mg "TELLS" kt_TELLS
  d_is_arm : DefT K mg "is_arm" s_is_arm ["arm", "sort"]
  d_words_in : DefT K mg "words_in" s_words_in ["body", "within"]
  d_is_body : DefT K mg "is_body" s_is_body ["body"]
  d_within : DefT K mg "within" s_within ["body"]
  d_kind_in : DefT K mg "kind_in" s_kind_in ["body", "takes", "given", "cells"]
  d_are_kinds : DefT K mg "are_kinds" s_are_kinds ["some"]
  c_MOST_DEEDS : GloD K mg "MOST_DEEDS" (.int (8))
  c_MOST_CELLS : GloD K mg "MOST_CELLS" (.int (4))
  c_MOST_PARTS : GloD K mg "MOST_PARTS" (.int (6))
  d_are_rising : DefT K mg "are_rising" s_are_rising ["rows"]
  d_are_rows : DefT K mg "are_rows" s_are_rows ["rows", "most", "many", "letters"]
  d_are_deeds : DefT K mg "are_deeds" s_are_deeds ["rows"]
  d_why_none : DefT K mg "why_none" s_why_none ["part"]
  d_need_part : DefT K mg "need_part" s_need_part ["part"]
  d_need_shelf : DefT K mg "need_shelf" s_need_shelf ["shelf"]
  d_given_in : DefT K mg "given_in" s_given_in ["part"]
  d_wrong_deed : DefT K mg "wrong_deed" s_wrong_deed ["part"]
  d_right : DefT K mg "right" s_right ["part"]
  c_MOST_TREES : GloD K mg "MOST_TREES" (.int (40))
  c_MOST_WITHIN_trees : GloD K mg "MOST_WITHIN_trees" (.int (9))
  t_SHAPES : KTab K w mg "SHAPES" kt_SHAPES
  o_SHAPES : KTabO K w mg "SHAPES" kt_SHAPES
  d_trees_in : DefT K mg "trees_in" s_trees_in ["tree", "names", "within"]
  d_need_tree : DefT K mg "need_tree" s_need_tree ["shelf", "tree"]
  d_forms : DefT K mg "forms" s_forms ["shelf", "tree"]
  d_wanting : DefT K mg "wanting" s_wanting ["shelf", "tree"]
  d_parted : DefT K mg "parted" s_parted ["shelf", "one", "other"]
  d_alike : DefT K mg "alike" s_alike ["shelf", "one", "other"]
  d_flat : DefT K mg "flat" s_flat ["shelf", "tree", "name"]
  d_givers : DefT K mg "givers" s_givers ["shelf", "tree"]
  d_written : DefT K mg "written" s_written ["part"]
  d_written_tree : DefT K mg "written_tree" s_written_tree ["shelf", "tree"]
  d_read_tree : DefT K mg "read_tree" s_read_tree ["shelf", "text"]
  k_Thing : ClsT K mg "Thing" (He.ga K "Thing") ["runner"]
  i_Thing : DefI K (He.ga K "Thing") "Thing.__init__" s_Thing_init ["self", "shelf", "tree"]
  d_tried : DefT K mg "tried" s_tried ["shelf", "tree", "deed", "worth"]
  d__law_mix : DefT K mg "_law_mix" s__law_mix ["_law_script", "_law_seed"]
  d__law_next : DefT K mg "_law_next" s__law_next ["_law_h", "_law_many"]
  d__law_leaf : DefT K mg "_law_leaf" s__law_leaf ["_law_h", "_law_e", "_law_kind_here"]
  d__law_call : DefT K mg "_law_call" s__law_call ["_law_h", "_law_e", "_law_kind_here", "_law_deep"]
  d__law_body : DefT K mg "_law_body" s__law_body ["_law_h", "_law_e", "_law_kind_here", "_law_deep"]
  d__law_reckons : DefT K mg "_law_reckons" s__law_reckons ["_law_h", "_law_e", "_law_kind_here", "_law_deep"]
  d__law_calls : DefT K mg "_law_calls" s__law_calls ["_law_body_here"]
  d__law_used : DefT K mg "_law_used" s__law_used ["_law_body_here"]
  d__law_part : DefT K mg "_law_part" s__law_part ["_law_h", "_law_name", "_law_own", "_law_others", "_law_sig", "_law_cells"]
  d__law_shelf : DefT K mg "_law_shelf" s__law_shelf ["_law_h"]
  d__law_kind : DefT K mg "_law_kind" s__law_kind ["_law_work"]
  d__law_bad_body : DefT K mg "_law_bad_body" s__law_bad_body ["_law_h"]
  d__law_odd : DefT K mg "_law_odd" s__law_odd ["_law_h", "_law_part_here"]
  d__law_works : DefT K mg "_law_works" s__law_works ["_law_shelf_here"]
  l__law_works : DefL K mg "_law_works" s__law_works ["_law_shelf_here"] (He.codeOf K ("_law_works", none))
  d__law_are : DefT K mg "_law_are" s__law_are ["_law_works_here", "_law_word"]
  d_law : DefT K mg "law" s_law ["_law_script"]
  x_BadShelf : ExcT K mg "BadShelf" (He.ga K "BadShelf")
  x_BadTree : ExcT K mg "BadTree" (He.ga K "BadTree")
  g_PartError : mg "PartError" = some (.ref (He.ga K "PartError"))
  g_BadPart : mg "BadPart" = some (.ref (He.ga K "BadPart"))
  g_BadShelf : mg "BadShelf" = some (.ref (He.ga K "BadShelf"))
  g_BadTree : mg "BadTree" = some (.ref (He.ga K "BadTree"))
  g_NotRight : mg "NotRight" = some (.ref (He.ga K "NotRight"))
  g_NotWhole : mg "NotWhole" = some (.ref (He.ga K "NotWhole"))
  g_BadCall : mg "BadCall" = some (.ref (He.ga K "BadCall"))
  g_Long : mg "Long" = some (.ref (He.ga K "Long"))
  g_BadText : mg "BadText" = some (.ref (He.ga K "BadText"))
  b_ValueError : mg "ValueError" = none
  e8 : ∀ n ∈ xNames, Eight K n
  o_BadPart : ExcD K mg "BadPart" (He.ga K "BadPart") "why" "BadPart.__init__" s_BadPart_init ["self", "why"]
  o_NotRight : ExcD K mg "NotRight" (He.ga K "NotRight") "name" "NotRight.__init__" s_NotRight_init ["self", "name"]
  o_BadText : ExcD K mg "BadText" (He.ga K "BadText") "place" "BadText.__init__" s_BadText_init ["self", "place"]
  b_bool : mg "bool" = none
  b_dict : mg "dict" = none
  b_int : mg "int" = none
  b_isinstance : mg "isinstance" = none
  b_len : mg "len" = none
  b_list : mg "list" = none
  b_max : mg "max" = none
  b_min : mg "min" = none
  b_range : mg "range" = none
  b_set : mg "set" = none
  b_sorted : mg "sorted" = none
  b_str : mg "str" = none
  b_tuple : mg "tuple" = none
  b_zip : mg "zip" = none
variable {P : Program} {w : World} {K : PySem.W.Frag} {mg : Str → Option Value} {base : Heap}
local macro_rules | `(tactic| walk_at "rd") => `(tactic| simp only [ aRet, aRetN, aDrop, aIfS, aSeq, aNext, aAsg, gNm, gTupD, gConsD, gNilD, aFor, ex_var0, ex_varS, aC, aOp, aCall, aCons, aNil, aTup, aLst, aB, aAnd, aOr, aNot, aAndV, aOrV, aNotV, aIf, aNeg, aChain, aKix, aKGet1, aKGet2, aDGet1, aDGet2, aNoPart, aPart, aSl, aList, aTupI, aStrI, aZipS, aYes, aLc, aNever, aBreak, aCont, forGo, lcGo,
  isi_str_str, isi_str_int, isi_str_bool, isi_str_tuple, isi_str_list, isi_int_str, isi_int_int, isi_int_bool, isi_int_tuple, isi_int_list, isi_bl_str, isi_bl_int, isi_bl_bool, isi_bl_tuple, isi_bl_list, isi_non_str, isi_non_int, isi_non_bool, isi_non_tuple, isi_non_list, isi_tup_str, isi_tup_int, isi_tup_bool, isi_tup_tuple, isi_tup_list, isi_lst_str, isi_lst_int, isi_lst_bool, isi_lst_tuple, isi_lst_list, isi_dct_str, isi_dct_int, isi_dct_bool, isi_dct_tuple, isi_dct_list, isi2_str, isi2_int, isi2_bl, isi2_non, isi2_tup, isi2_lst, isi2_dct, Option.getD_some, Option.getD_none, D.isNon, sz_0, sz_1, sz_2, sz_3, sz_4, sz_5, sz_6, sz_7, sz_8, sz_9, sz_10, sz_11, sz_12, sz_13, sz_14, sz_15, sz_16, sg_len, ex_in_sg, ex_len_str, ex_len_tup, ex_len_lst, ex_eq_str, ex_ne_str, ex_eq_int, ex_ne_int, ex_eq_ns, ex_eq_sn, ex_eq_nn, ex_ne_ns, ex_ne_sn, ex_ne_nn, ex_I, ex_add_int, ex_add_str, ex_add_tup, ex_add_lst, ex_sub, ex_mul, ex_mod, ex_div, ex_isN, ex_notN, ex_ix_tup, ex_ix_lst, ex_sl_tup, ex_sl_lst, ex_sl_str, ex_tuple_lst,
  ofs_inj, String.reduceEq, atI_0, atI_1, atI_2, atI_3, cut_1, cut_13, startD, wipeD, List.map_cons, List.map_nil, List.length_cons, List.length_nil, List.cons_append, List.nil_append, List.replicate_succ, List.replicate_zero, List.set_cons_zero, List.set_cons_succ, Nat.reduceAdd, Nat.reduceSub, Nat.sub_self,
  D.bl.injEq, D.int.injEq, D.str.injEq, D.tup.injEq, D.lst.injEq, D.dct.injEq, Option.some.injEq, List.cons.injEq, and_assoc, Int.cast_ofNat_Int, Int.reduceAdd, Int.reduceSub, Int.reduceMul, Int.reduceNeg, Int.reduceEq, Int.reduceLT, Int.reduceLE, Int.reduceNe, eq_self, exists_eq_left, exists_eq_left', exists_eq_right, exists_eq, exists_const, exists_false, false_and, and_false, false_or, or_false, true_and, and_true, if_true, if_false, Bool.false_eq_true, Bool.not_true, Bool.not_false, ite_true, ite_false, reduceCtorEq, decide_true, decide_false, decide_eq_true_eq, exists_and_left, Bool.not_eq_true])

theorem fin_lst {m : Mu} {p : Addr} {l : List D} {Q : EK} (hp : m p = none) (q : Q (.lst l) m) : Fz Q (.ref p) (m.put p (.lst l)) := Fz.lst Mu.put_same (Sub.put hp) hp q
/-! ### letters, arms -/
theorem cps_cells : ("pqrs" : Str).cps.toList = [112, 113, 114, 115] := by decide +kernel
theorem cps_deeds : ("abcdefgh" : Str).cps.toList = [97, 98, 99, 100, 101, 102, 103, 104] := by decide +kernel
theorem cps_parts : ("ABCDEF" : Str).cps.toList = [65, 66, 67, 68, 69, 70] := by decide +kernel
/-! ### words -/
theorem arms_un (w : W1) : getS kt_ARMS w.s = some (.str "x") := by cases w <;> kernel_rfl
theorem arms_bin (w : W2) : getS kt_ARMS w.s = some (.str "xx") := by cases w <;> kernel_rfl
theorem arms_num : getS kt_ARMS "number" = some (.str "n") := by kernel_rfl
theorem arms_tru : getS kt_ARMS "truth" = some (.str "t") := by kernel_rfl
theorem arms_emp : getS kt_ARMS "empty" = some (.str "") := by kernel_rfl
theorem arms_arg : getS kt_ARMS "argument" = some (.str "") := by kernel_rfl
theorem arms_cel : getS kt_ARMS "cell" = some (.str "c") := by kernel_rfl
theorem arms_set : getS kt_ARMS "set" = some (.str "cx") := by kernel_rfl
theorem arms_cal : getS kt_ARMS "call" = some (.str "dx") := by kernel_rfl
theorem arms_ite : getS kt_ARMS "if" = some (.str "xxx") := by kernel_rfl
theorem zs_n {a : D} : zipS [a] "n" = [.tup [a, .str "n"]] := by kernel_rfl
theorem zs_t {a : D} : zipS [a] "t" = [.tup [a, .str "t"]] := by kernel_rfl
theorem zs_e : zipS [] "" = [] := by kernel_rfl
theorem zs_c {a : D} : zipS [a] "c" = [.tup [a, .str "c"]] := by kernel_rfl
theorem zs_x {a : D} : zipS [a] "x" = [.tup [a, .str "x"]] := by kernel_rfl
theorem zs_xx {a b : D} : zipS [a, b] "xx" = [.tup [a, .str "x"], .tup [b, .str "x"]] := by kernel_rfl
theorem zs_xxx {a b c : D} : zipS [a, b, c] "xxx" = [.tup [a, .str "x"], .tup [b, .str "x"], .tup [c, .str "x"]] := by kernel_rfl
theorem zs_cx {a b : D} : zipS [a, b] "cx" = [.tup [a, .str "c"], .tup [b, .str "x"]] := by kernel_rfl
theorem zs_dx {a b : D} : zipS [a, b] "dx" = [.tup [a, .str "d"], .tup [b, .str "x"]] := by kernel_rfl
theorem len_n : ("n" : Str).length = 1 := by kernel_rfl
theorem len_t : ("t" : Str).length = 1 := by kernel_rfl
theorem len_e : ("" : Str).length = 0 := by kernel_rfl
theorem len_c : ("c" : Str).length = 1 := by kernel_rfl
theorem len_x : ("x" : Str).length = 1 := by kernel_rfl
theorem len_xx : ("xx" : Str).length = 2 := by kernel_rfl
theorem len_xxx : ("xxx" : Str).length = 3 := by kernel_rfl
theorem len_cx : ("cx" : Str).length = 2 := by kernel_rfl
theorem len_dx : ("dx" : Str).length = 2 := by kernel_rfl
local macro_rules | `(tactic| walk_at "rw") => `(tactic| simp only [ arms_un, arms_bin, arms_num, arms_tru, arms_emp, arms_arg, arms_cel, arms_set, arms_cal, arms_ite, zs_n, zs_t, zs_e, zs_c, zs_x, zs_xx, zs_xxx, zs_cx, zs_dx, len_n, len_t, len_e, len_c, len_x, len_xx, len_xxx, len_cx, len_dx, aRet, aRetN, aDrop, aIfS, aSeq, aNext, aAsg, gNm, gTupD, gConsD, gNilD, aFor, ex_var0, ex_varS, aC, aOp, aCall, aCons, aNil, aTup, aLst, aB, aAnd, aOr, aNot, aAndV, aOrV, aNotV, aIf, aNeg, aChain, aKix, aKGet1, aKGet2, aDGet1, aDGet2, aNoPart, aPart, aSl, aList, aTupI, aStrI, aZipS, aYes, aLc, aNever, aBreak, aCont, forGo, lcGo,
  isi_str_str, isi_str_int, isi_str_bool, isi_str_tuple, isi_str_list, isi_int_str, isi_int_int, isi_int_bool, isi_int_tuple, isi_int_list, isi_bl_str, isi_bl_int, isi_bl_bool, isi_bl_tuple, isi_bl_list, isi_non_str, isi_non_int, isi_non_bool, isi_non_tuple, isi_non_list, isi_tup_str, isi_tup_int, isi_tup_bool, isi_tup_tuple, isi_tup_list, isi_lst_str, isi_lst_int, isi_lst_bool, isi_lst_tuple, isi_lst_list, isi_dct_str, isi_dct_int, isi_dct_bool, isi_dct_tuple, isi_dct_list, isi2_str, isi2_int, isi2_bl, isi2_non, isi2_tup, isi2_lst, isi2_dct, Option.getD_some, Option.getD_none, D.isNon, sz_0, sz_1, sz_2, sz_3, sz_4, sz_5, sz_6, sz_7, sz_8, sz_9, sz_10, sz_11, sz_12, sz_13, sz_14, sz_15, sz_16, sg_len, ex_in_sg, ex_len_str, ex_len_tup, ex_len_lst, ex_eq_str, ex_ne_str, ex_eq_int, ex_ne_int, ex_eq_ns, ex_eq_sn, ex_eq_nn, ex_ne_ns, ex_ne_sn, ex_ne_nn, ex_I, ex_add_int, ex_add_str, ex_add_tup, ex_add_lst, ex_sub, ex_mul, ex_mod, ex_div, ex_isN, ex_notN, ex_ix_tup, ex_ix_lst, ex_sl_tup, ex_sl_lst, ex_sl_str, ex_tuple_lst,
  ofs_inj, String.reduceEq, atI_0, atI_1, atI_2, atI_3, cut_1, cut_13, startD, wipeD, List.map_cons, List.map_nil, List.length_cons, List.length_nil, List.cons_append, List.nil_append, List.replicate_succ, List.replicate_zero, List.set_cons_zero, List.set_cons_succ, Nat.reduceAdd, Nat.reduceSub, Nat.sub_self,
  D.bl.injEq, D.int.injEq, D.str.injEq, D.tup.injEq, D.lst.injEq, D.dct.injEq, Option.some.injEq, List.cons.injEq, and_assoc, Int.cast_ofNat_Int, Int.reduceAdd, Int.reduceSub, Int.reduceMul, Int.reduceNeg, Int.reduceEq, Int.reduceLT, Int.reduceLE, Int.reduceNe, eq_self, exists_eq_left, exists_eq_left', exists_eq_right, exists_eq, exists_const, exists_false, false_and, and_false, false_or, or_false, true_and, and_true, if_true, if_false, Bool.false_eq_true, Bool.not_true, Bool.not_false, ite_true, ite_false, reduceCtorEq, decide_true, decide_false, decide_eq_true_eq, exists_and_left, Bool.not_eq_true])

end K01
/-! L33: what one run tells, told in parts. -/
namespace L3
end L3
/-! L59: the head's run told with the interpreter's own statics, where reading a class looks. -/
namespace L3
open PySem PySem.Spec PyProof.Rows L2
end L3
/-! L101: the head's run told of a given row of addresses (no search of the heap in the kernel). -/
namespace L3
open PySem PySem.Spec PyProof.Rows L2
end L3
/-! kinds of bodies. -/
namespace K01
open PySem PySem.Spec PyProof.Rows L2 L3
variable {P : Program} {w : World} {K : PySem.W.Frag} {mg : Str → Option Value} {base : Heap}
local macro_rules | `(tactic| walk_at "rw") => `(tactic| simp only [ arms_un, arms_bin, arms_num, arms_tru, arms_emp, arms_arg, arms_cel, arms_set, arms_cal, arms_ite, zs_n, zs_t, zs_e, zs_c, zs_x, zs_xx, zs_xxx, zs_cx, zs_dx, len_n, len_t, len_e, len_c, len_x, len_xx, len_xxx, len_cx, len_dx, aRet, aRetN, aDrop, aIfS, aSeq, aNext, aAsg, gNm, gTupD, gConsD, gNilD, aFor, ex_var0, ex_varS, aC, aOp, aCall, aCons, aNil, aTup, aLst, aB, aAnd, aOr, aNot, aAndV, aOrV, aNotV, aIf, aNeg, aChain, aKix, aKGet1, aKGet2, aDGet1, aDGet2, aNoPart, aPart, aSl, aList, aTupI, aStrI, aZipS, aYes, aLc, aNever, aBreak, aCont, forGo, lcGo,
  isi_str_str, isi_str_int, isi_str_bool, isi_str_tuple, isi_str_list, isi_int_str, isi_int_int, isi_int_bool, isi_int_tuple, isi_int_list, isi_bl_str, isi_bl_int, isi_bl_bool, isi_bl_tuple, isi_bl_list, isi_non_str, isi_non_int, isi_non_bool, isi_non_tuple, isi_non_list, isi_tup_str, isi_tup_int, isi_tup_bool, isi_tup_tuple, isi_tup_list, isi_lst_str, isi_lst_int, isi_lst_bool, isi_lst_tuple, isi_lst_list, isi_dct_str, isi_dct_int, isi_dct_bool, isi_dct_tuple, isi_dct_list, isi2_str, isi2_int, isi2_bl, isi2_non, isi2_tup, isi2_lst, isi2_dct, Option.getD_some, Option.getD_none, D.isNon, sz_0, sz_1, sz_2, sz_3, sz_4, sz_5, sz_6, sz_7, sz_8, sz_9, sz_10, sz_11, sz_12, sz_13, sz_14, sz_15, sz_16, sg_len, ex_in_sg, ex_len_str, ex_len_tup, ex_len_lst, ex_eq_str, ex_ne_str, ex_eq_int, ex_ne_int, ex_eq_ns, ex_eq_sn, ex_eq_nn, ex_ne_ns, ex_ne_sn, ex_ne_nn, ex_I, ex_add_int, ex_add_str, ex_add_tup, ex_add_lst, ex_sub, ex_mul, ex_mod, ex_div, ex_isN, ex_notN, ex_ix_tup, ex_ix_lst, ex_sl_tup, ex_sl_lst, ex_sl_str, ex_tuple_lst,
  ofs_inj, String.reduceEq, atI_0, atI_1, atI_2, atI_3, cut_1, cut_13, startD, wipeD, List.map_cons, List.map_nil, List.length_cons, List.length_nil, List.cons_append, List.nil_append, List.replicate_succ, List.replicate_zero, List.set_cons_zero, List.set_cons_succ, Nat.reduceAdd, Nat.reduceSub, Nat.sub_self,
  D.bl.injEq, D.int.injEq, D.str.injEq, D.tup.injEq, D.lst.injEq, D.dct.injEq, Option.some.injEq, List.cons.injEq, and_assoc, Int.cast_ofNat_Int, Int.reduceAdd, Int.reduceSub, Int.reduceMul, Int.reduceNeg, Int.reduceEq, Int.reduceLT, Int.reduceLE, Int.reduceNe, eq_self, exists_eq_left, exists_eq_left', exists_eq_right, exists_eq, exists_const, exists_false, false_and, and_false, false_or, or_false, true_and, and_true, if_true, if_false, Bool.false_eq_true, Bool.not_true, Bool.not_false, ite_true, ite_false, reduceCtorEq, decide_true, decide_false, decide_eq_true_eq, exists_and_left, Bool.not_eq_true])

def sp_within : SpD := fun ds m Q => ∃ (b : Bd), ds = [b.enc] ∧ Q (.lst (b.subs.map Bd.enc)) m
theorem F_within (T : Txt K w mg) : FnD P w K mg base "within" 1 sp_within := by
  have nd := sc_within.nd
  refine fnd_ofZ T.d_within sc_within (fun ds m Q ⟨x, e, _⟩ => by rw [e]; rfl) fun f cdv A outer s H E hr => ⟨_, (ass_one (as_ret (ae_lc (own := [("arm", 1), ("sort", 2)]) rfl nd (ai_zipTS T.b_zip (aa_cons (ae_sl (ae_var 0) (ao_some ae_int) ao_none) (aa_cons (ae_kix T.t_ARMS (ae_ix hr.u1 (ae_var 0) ae_int)) aa_nil))) (blkOk_by (own := [("arm", 1), ("sort", 2)]) (by kernel_rfl)) (gg_tup (n := 2) (ggs_cons (gg_name (i := 1) (by simp)) (ggs_cons (gg_name (i := 2) (by simp)) ggs_nil))) (fun _ _ _ _ _ => (pg_tup (n := 2) rfl (pgs_cons (pg_name (i := 1) nd rfl (Or.inl rfl)) (pgs_cons (pg_name (i := 2) nd rfl (Or.inl rfl)) pgs_nil)))) (fun _ _ _ _ _ => (ats_one (at_cmp (or_eq hr.units) (ae_var 2) ae_str (nomark _)))) (fun _ _ _ _ _ => (ae_var 1))))), ?_⟩
  rintro _ m Q ⟨b, rfl, q⟩
  have q' := Fz.now q
  cases b with
  | un wd a =>
    simp only [Bd.enc]
    walk_at "rw"
    exact q'
  | bin wd a b =>
    simp only [Bd.enc]
    walk_at "rw"
    exact q'
  | _ =>
    simp only [Bd.enc]
    walk_at "rw"
    exact q'
theorem takes_nt : getS kt_TAKES "not" = some (.tup (ksD [.t])) := by kernel_rfl
theorem takes_fst : getS kt_TAKES "first" = some (.tup (ksD [.l])) := by kernel_rfl
theorem takes_rst : getS kt_TAKES "rest" = some (.tup (ksD [.l])) := by kernel_rfl
theorem takes_many : getS kt_TAKES "many" = some (.tup (ksD [.l])) := by kernel_rfl
theorem tells_nt : getS kt_TELLS "not" = some (.str Kd.t.s) := by kernel_rfl
theorem tells_fst : getS kt_TELLS "first" = some (.str Kd.n.s) := by kernel_rfl
theorem tells_rst : getS kt_TELLS "rest" = some (.str Kd.l.s) := by kernel_rfl
theorem tells_many : getS kt_TELLS "many" = some (.str Kd.n.s) := by kernel_rfl
theorem takes_num : getS kt_TAKES "number" = none := by kernel_rfl
theorem takes_tru : getS kt_TAKES "truth" = none := by kernel_rfl
theorem takes_emp : getS kt_TAKES "empty" = none := by kernel_rfl
theorem tells_num : getS kt_TELLS "number" = some (.str Kd.n.s) := by kernel_rfl
theorem tells_tru : getS kt_TELLS "truth" = some (.str Kd.t.s) := by kernel_rfl
theorem tells_emp : getS kt_TELLS "empty" = some (.str Kd.l.s) := by kernel_rfl
theorem takes_plus : getS kt_TAKES "plus" = some (.tup (ksD [.n, .n])) := by kernel_rfl
theorem takes_less : getS kt_TAKES "less" = some (.tup (ksD [.n, .n])) := by kernel_rfl
theorem takes_times : getS kt_TAKES "times" = some (.tup (ksD [.n, .n])) := by kernel_rfl
theorem takes_below : getS kt_TAKES "below" = some (.tup (ksD [.n, .n])) := by kernel_rfl
theorem takes_and : getS kt_TAKES "and" = some (.tup (ksD [.t, .t])) := by kernel_rfl
theorem takes_put : getS kt_TAKES "put" = some (.tup (ksD [.n, .l])) := by kernel_rfl
theorem tells_plus : getS kt_TELLS "plus" = some (.str Kd.n.s) := by kernel_rfl
theorem tells_less : getS kt_TELLS "less" = some (.str Kd.n.s) := by kernel_rfl
theorem tells_times : getS kt_TELLS "times" = some (.str Kd.n.s) := by kernel_rfl
theorem tells_below : getS kt_TELLS "below" = some (.str Kd.t.s) := by kernel_rfl
theorem tells_and : getS kt_TELLS "and" = some (.str Kd.t.s) := by kernel_rfl
theorem tells_put : getS kt_TELLS "put" = some (.str Kd.l.s) := by kernel_rfl
theorem eqk0 {m : Mu} {Q : EK} {js : List Kd} : rhoEq (.tup []) (.tup (ksD js)) m Q = Q (.bl (decide ([] = js))) m := ex_eq_ks (ks := [])
theorem eqk00 {m : Mu} {Q : EK} : rhoEq (.tup []) (.tup []) m Q = Q (.bl true) m := ex_eq_ks (ks := []) (js := [])
theorem eqk1 {m : Mu} {Q : EK} {a : Kd} {js : List Kd} : rhoEq (.tup [.str a.s]) (.tup (ksD js)) m Q = Q (.bl (decide ([a] = js))) m := ex_eq_ks (ks := [a])
theorem eqk2 {m : Mu} {Q : EK} {a b : Kd} {js : List Kd} : rhoEq (.tup [.str a.s, .str b.s]) (.tup (ksD js)) m Q = Q (.bl (decide ([a, b] = js))) m := ex_eq_ks (ks := [a, b])
local macro_rules | `(tactic| walk_at "rk") => `(tactic| simp only [ ex_in_tup, ex_in_lst, inD_nil, inD_cons, eqD_str, eqD_ns, eqD_sn, eqD_nn, fl_str, fl_non, List.all_cons, all_fl_nil, Bool.and_true, Bool.or_false, Bool.false_or, Bool.true_or, Bool.or_true, Bool.and_self, Bool.false_bne, Bool.false_xor, Bool.true_xor, dctOf_dct, keyD_str, ex_in_dcts, ex_ix_dcts, getK_cv, getK_gv, kdD_cv, isSome_gv, Kd.s_inj, Kd.s_t, kd_some, kd_none, takes_nt, takes_fst, takes_rst, takes_many, tells_nt, tells_fst, tells_rst, tells_many, takes_num, takes_tru, takes_emp, tells_num, tells_tru, tells_emp, takes_plus, takes_less, takes_times, takes_below, takes_and, takes_put, tells_plus, tells_less, tells_times, tells_below, tells_and, tells_put, eqk0, eqk1, eqk2, eqk00, List.nil_append, Option.map_some, Option.map_none, Option.isSome_some, Option.isSome_none, aRet, aRetN, aDrop, aIfS, aSeq, aNext, aAsg, gNm, gTupD, gConsD, gNilD, aFor, ex_var0, ex_varS, aC, aOp, aCall, aCons, aNil, aTup, aLst, aB, aAnd, aOr, aNot, aAndV, aOrV, aNotV, aIf, aNeg, aChain, aKix, aKGet1, aKGet2, aDGet1, aDGet2, aNoPart, aPart, aSl, aList, aTupI, aStrI, aZipS, aYes, aLc, aNever, aBreak, aCont, forGo, lcGo,
  isi_str_str, isi_str_int, isi_str_bool, isi_str_tuple, isi_str_list, isi_int_str, isi_int_int, isi_int_bool, isi_int_tuple, isi_int_list, isi_bl_str, isi_bl_int, isi_bl_bool, isi_bl_tuple, isi_bl_list, isi_non_str, isi_non_int, isi_non_bool, isi_non_tuple, isi_non_list, isi_tup_str, isi_tup_int, isi_tup_bool, isi_tup_tuple, isi_tup_list, isi_lst_str, isi_lst_int, isi_lst_bool, isi_lst_tuple, isi_lst_list, isi_dct_str, isi_dct_int, isi_dct_bool, isi_dct_tuple, isi_dct_list, isi2_str, isi2_int, isi2_bl, isi2_non, isi2_tup, isi2_lst, isi2_dct, Option.getD_some, Option.getD_none, D.isNon, sz_0, sz_1, sz_2, sz_3, sz_4, sz_5, sz_6, sz_7, sz_8, sz_9, sz_10, sz_11, sz_12, sz_13, sz_14, sz_15, sz_16, sg_len, ex_in_sg, ex_len_str, ex_len_tup, ex_len_lst, ex_eq_str, ex_ne_str, ex_eq_int, ex_ne_int, ex_eq_ns, ex_eq_sn, ex_eq_nn, ex_ne_ns, ex_ne_sn, ex_ne_nn, ex_I, ex_add_int, ex_add_str, ex_add_tup, ex_add_lst, ex_sub, ex_mul, ex_mod, ex_div, ex_isN, ex_notN, ex_ix_tup, ex_ix_lst, ex_sl_tup, ex_sl_lst, ex_sl_str, ex_tuple_lst,
  ofs_inj, String.reduceEq, atI_0, atI_1, atI_2, atI_3, cut_1, cut_13, startD, wipeD, List.map_cons, List.map_nil, List.length_cons, List.length_nil, List.cons_append, List.nil_append, List.replicate_succ, List.replicate_zero, List.set_cons_zero, List.set_cons_succ, Nat.reduceAdd, Nat.reduceSub, Nat.sub_self,
  D.bl.injEq, D.int.injEq, D.str.injEq, D.tup.injEq, D.lst.injEq, D.dct.injEq, Option.some.injEq, List.cons.injEq, and_assoc, Int.cast_ofNat_Int, Int.reduceAdd, Int.reduceSub, Int.reduceMul, Int.reduceNeg, Int.reduceEq, Int.reduceLT, Int.reduceLE, Int.reduceNe, eq_self, exists_eq_left, exists_eq_left', exists_eq_right, exists_eq, exists_const, exists_false, false_and, and_false, false_or, or_false, true_and, and_true, if_true, if_false, Bool.false_eq_true, Bool.not_true, Bool.not_false, ite_true, ite_false, reduceCtorEq, decide_true, decide_false, decide_eq_true_eq, exists_and_left, Bool.not_eq_true])

def sp_kind (n : Nat) : SpD := fun ds m Q => ∃ (b : Bd) (tk : Kd) (gv : Gv) (cl : Cv), ds = [b.enc, .str tk.s, .dct (gvD gv), .dct (cvD cl)] ∧ b.dep ≤ n ∧ Q (kdD (b.kind tk gv cl)) m
theorem F_kind_in (T : Txt K w mg) : ∀ n : Nat, FnD P w K mg base "kind_in" (n + 2) (sp_kind n)
  | 0 => fnd_never T.d_kind_in sc_kind_in fun ds m Q ⟨b, _, _, _, _, h, _⟩ => by have := b.dep_pos; omega
  | n + 1 => by
    have nd := sc_kind_in.nd
    have F := F_kind_in T n
    refine fnd_ofZ T.d_kind_in sc_kind_in (fun ds m Q ⟨_, _, _, _, e, _⟩ => by rw [e]; rfl) fun f cdv A outer s H E hr => ⟨_, (ass_cons (as_asg (ae_ix hr.u1 (ae_var 0) ae_int) (ag_name 4 nd))
      (ass_cons (as_setLc (i := 5) (own := [("one", 7)]) rfl nd rfl rfl (sw_true rfl rfl rfl (by decide +kernel)) (ai_list (ae_call ((F_within T).mono (by omega)) hr (aa_cons (ae_var 0) aa_nil))) (blkOk_by (own := [("one", 7)]) (by kernel_rfl)) (gg_name (i := 7) (by simp)) (fun _ _ _ _ _ => (pg_name (i := 7) nd rfl (Or.inl rfl))) (fun _ _ _ _ _ => ats_nil) (fun _ _ _ _ _ => (ae_call (F.mono (by omega)) hr (aa_cons (ae_var 7) (aa_cons (ae_var 1) (aa_cons (ae_var 2) (aa_cons (ae_var 3) aa_nil)))))))
      (ass_cons (as_if (at_cmp (or_in1 hr.u65) ae_non (ae_var 5) (by rfl)) (ass_one (as_ret ae_non)) ass_nil)
      (ass_cons (as_if (at_cmp (or_eq hr.units) (ae_var 4) ae_str (nomark _)) (ass_one (as_ret (ae_var 1))) ass_nil)
      (ass_cons (as_if (at_cmp (or_in1 hr.u65) (ae_var 4) (ae_tup (aa_cons ae_str (aa_cons ae_str aa_nil))) (by rfl)) (ass_cons (as_asg (ae_dget1 hr.u1 (ae_var 3) (ae_ix hr.u1 (ae_var 0) ae_int)) (ag_name 6 nd))
      (ass_one (as_ret (ae_if (AW.t (aw_or (at_cmp (or_eq hr.units) (ae_var 4) ae_str (nomark _)) (aw_or1 (at_cmp (or_eq hr.units) (ae_ix hr.u1 (ae_var 5) ae_int) (ae_var 6) (nomark _))))) (ae_var 6) ae_non)))) ass_nil)
      (ass_cons (as_if (at_cmp (or_eq hr.units) (ae_var 4) ae_str (nomark _)) (ass_one (as_ret (ae_if (AW.t (aw_and (at_cmp (or_in1 hr.u65) (ae_ix hr.u1 (ae_var 0) ae_int) (ae_var 2) (by rfl)) (aw_and1 (at_cmp (or_eq hr.units) (ae_ix hr.u1 (ae_ix hr.u1 (ae_var 2) (ae_ix hr.u1 (ae_var 0) ae_int)) ae_int) (ae_ix hr.u1 (ae_var 5) ae_int) (nomark _))))) (ae_ix hr.u1 (ae_ix hr.u1 (ae_var 2) (ae_ix hr.u1 (ae_var 0) ae_int)) ae_int) ae_non))) ass_nil)
      (ass_cons (as_if (at_cmp (or_eq hr.units) (ae_var 4) ae_str (nomark _)) (ass_one (as_ret (ae_ix hr.u1 (ae_var 5) ae_int))) ass_nil)
      (ass_cons (as_if (at_cmp (or_eq hr.units) (ae_var 4) ae_str (nomark _)) (ass_one (as_ret (ae_if (AW.t (aw_and (at_cmp (or_eq hr.units) (ae_ix hr.u1 (ae_var 5) ae_int) (ae_glo T.c_TRUTH) (nomark _)) (aw_and1 (at_cmp (or_eq hr.units) (ae_ix hr.u1 (ae_var 5) ae_int) (ae_ix hr.u1 (ae_var 5) ae_int) (nomark _))))) (ae_ix hr.u1 (ae_var 5) ae_int) ae_non))) ass_nil)
      (ass_cons (as_if (at_cmp (or_eq hr.units) (ae_var 4) ae_str (nomark _)) (ass_one (as_ret (ae_if (at_cmp (or_eq hr.units) (ae_ix hr.u1 (ae_var 5) ae_int) (ae_ix hr.u1 (ae_var 5) ae_int) (nomark _)) (ae_glo T.c_TRUTH) ae_non))) ass_nil)
      (ass_one (as_ret (ae_if (at_cmp (or_eq hr.units) (ae_callTy cr_tuple T.b_tuple boot_tuple (aa_cons (ae_var 5) aa_nil)) (ae_kget2 hr.u1 T.t_TAKES (ae_var 4) (ae_tup aa_nil)) (nomark _)) (ae_kix T.t_TELLS (ae_var 4)) ae_non)))))))))))), ?_⟩
    rintro _ m Q ⟨b, tk, gv, cl, rfl, hd, q⟩
    have call : ∀ (a : Bd) (R : EK) (o : Option Kd), a.dep + 1 ≤ b.dep → a.kind tk gv cl = o → R (kdD o) m → sp_kind n [a.enc, .str tk.s, .dct (gvD gv), .dct (cvD cl)] m R := fun a R o h1 h2 q => ⟨a, tk, gv, cl, rfl, by omega, by rw [h2]; exact q⟩
    have wi : ∀ (R : EK), R (.lst (b.subs.map Bd.enc)) m → sp_within [b.enc] m R := fun R q => ⟨b, rfl, q⟩
    replace q := Fz.now q
    cases b with
    | num i =>
      simp only [Bd.enc] at wi ⊢
      walk_at "rk"
      refine wi _ ?_
      simp only [Bd.subs]
      walk_at "rk"
      exact q
    | tru i =>
      simp only [Bd.enc] at wi ⊢
      walk_at "rk"
      refine wi _ ?_
      simp only [Bd.subs]
      walk_at "rk"
      exact q
    | emp =>
      simp only [Bd.enc] at wi ⊢
      walk_at "rk"
      refine wi _ ?_
      simp only [Bd.subs]
      walk_at "rk"
      exact q
    | arg =>
      simp only [Bd.enc] at wi ⊢
      walk_at "rk"
      refine wi _ ?_
      simp only [Bd.subs]
      walk_at "rk"
      exact q
    | cel c =>
      simp only [Bd.enc] at wi ⊢
      walk_at "rk"
      refine wi _ ?_
      simp only [Bd.subs]
      walk_at "rk"
      exact ⟨⟨_, rfl⟩, q⟩
    | un wd a =>
      cases ha : a.kind tk gv cl with
      | none =>
        simp only [Bd.kind, ha, Option.bind_none] at q
        cases wd
        all_goals simp only [Bd.enc, W1.s] at wi ⊢
        all_goals walk_at "rk"
        all_goals refine wi _ ?_
        all_goals simp only [Bd.subs]
        all_goals walk_at "rk"
        all_goals refine call a _ _ (by simp [Bd.dep]) ha ?_
        all_goals walk_at "rk"
        all_goals exact q
      | some ka =>
        simp only [Bd.kind, ha, Option.bind_some] at q
        cases wd
        all_goals simp only [Bd.enc, W1.s] at wi ⊢
        all_goals walk_at "rk"
        all_goals refine wi _ ?_
        all_goals simp only [Bd.subs]
        all_goals walk_at "rk"
        all_goals refine call a _ _ (by simp [Bd.dep]) ha ?_
        all_goals walk_at "rk"
        all_goals simp only [W1.takes, W1.tells] at q
        all_goals split <;> rename_i e <;> simp only [e, if_true, if_false, kd_some, kd_none] at q <;> exact q
    | bin wd a b =>
      cases ha : a.kind tk gv cl with
      | none =>
        simp only [Bd.kind, ha, Option.bind_none] at q
        cases hb : b.kind tk gv cl with
        | none =>
          cases wd
          all_goals simp only [Bd.enc, W2.s] at wi ⊢
          all_goals walk_at "rk"
          all_goals refine wi _ ?_
          all_goals simp only [Bd.subs]
          all_goals walk_at "rk"
          all_goals refine call a _ _ (by simp [Bd.dep]; omega) ha ?_
          all_goals walk_at "rk"
          all_goals refine call b _ _ (by simp [Bd.dep]; omega) hb ?_
          all_goals walk_at "rk"
          all_goals exact q
        | some kb =>
          cases wd
          all_goals simp only [Bd.enc, W2.s] at wi ⊢
          all_goals walk_at "rk"
          all_goals refine wi _ ?_
          all_goals simp only [Bd.subs]
          all_goals walk_at "rk"
          all_goals refine call a _ _ (by simp [Bd.dep]; omega) ha ?_
          all_goals walk_at "rk"
          all_goals refine call b _ _ (by simp [Bd.dep]; omega) hb ?_
          all_goals walk_at "rk"
          all_goals exact q
      | some ka =>
        cases hb : b.kind tk gv cl with
        | none =>
          simp only [Bd.kind, ha, hb, Option.bind_some, Option.bind_none] at q
          cases wd
          all_goals simp only [Bd.enc, W2.s] at wi ⊢
          all_goals walk_at "rk"
          all_goals refine wi _ ?_
          all_goals simp only [Bd.subs]
          all_goals walk_at "rk"
          all_goals refine call a _ _ (by simp [Bd.dep]; omega) ha ?_
          all_goals walk_at "rk"
          all_goals refine call b _ _ (by simp [Bd.dep]; omega) hb ?_
          all_goals walk_at "rk"
          all_goals exact q
        | some kb =>
          simp only [Bd.kind, ha, hb, Option.bind_some] at q
          cases wd
          all_goals simp only [Bd.enc, W2.s] at wi ⊢
          all_goals walk_at "rk"
          all_goals refine wi _ ?_
          all_goals simp only [Bd.subs]
          all_goals walk_at "rk"
          all_goals refine call a _ _ (by simp [Bd.dep]; omega) ha ?_
          all_goals walk_at "rk"
          all_goals refine call b _ _ (by simp [Bd.dep]; omega) hb ?_
          all_goals walk_at "rk"
          all_goals simp only [W2.kind] at q
          all_goals first
            | exact q
            | (split <;> rename_i e <;> simp only [e, true_and, and_self, if_true, if_false, kd_some, kd_none] at q <;> exact q)
    | set c a =>
      cases ha : a.kind tk gv cl with
      | none =>
        simp only [Bd.kind, ha, Option.bind_none] at q
        simp only [Bd.enc] at wi ⊢
        walk_at "rk"
        refine wi _ ?_
        simp only [Bd.subs]
        walk_at "rk"
        refine call a _ _ (by simp [Bd.dep]) ha ?_
        walk_at "rk"
        exact q
      | some ka =>
        simp only [Bd.kind, ha, Option.bind_some] at q
        simp only [Bd.enc] at wi ⊢
        walk_at "rk"
        refine wi _ ?_
        simp only [Bd.subs]
        walk_at "rk"
        refine call a _ _ (by simp [Bd.dep]) ha ?_
        walk_at "rk"
        refine ⟨⟨_, rfl⟩, ?_⟩
        cases hl : lk cl c with
        | none =>
          simp only [hl, reduceCtorEq, if_false] at q
          walk_at "rk"
          exact q
        | some kc =>
          simp only [hl, Option.some.injEq] at q
          walk_at "rk"
          by_cases e : ka = kc
          · subst e
            simp only [if_true, kd_some] at q ⊢
            exact q
          · simp only [if_neg e, if_neg (fun z => e (Eq.symm z) : ¬ kc = ka), kd_none] at q ⊢
            exact q
    | cal c a =>
      cases ha : a.kind tk gv cl with
      | none =>
        simp only [Bd.kind, ha, Option.bind_none] at q
        simp only [Bd.enc] at wi ⊢
        walk_at "rk"
        refine wi _ ?_
        simp only [Bd.subs]
        walk_at "rk"
        refine call a _ _ (by simp [Bd.dep]) ha ?_
        walk_at "rk"
        exact q
      | some ka =>
        simp only [Bd.kind, ha, Option.bind_some] at q
        simp only [Bd.enc] at wi ⊢
        walk_at "rk"
        refine wi _ ?_
        simp only [Bd.subs]
        walk_at "rk"
        refine call a _ _ (by simp [Bd.dep]) ha ?_
        walk_at "rk"
        cases hl : lk gv c with
        | none =>
          simp only [hl, Option.bind_none] at q
          walk_at "rk"
          exact q
        | some pc =>
          simp only [hl, Option.bind_some] at q
          walk_at "rk"
          by_cases e : pc.1 = ka
          · simp only [if_pos e, kd_some] at q ⊢
            exact q
          · simp only [if_neg e, kd_none] at q ⊢
            exact q
    | ite a b c =>
      simp only [Bd.enc] at wi ⊢
      walk_at "rk"
      refine wi _ ?_
      simp only [Bd.subs]
      walk_at "rk"
      cases ha : a.kind tk gv cl with
      | none =>
        simp only [Bd.kind, ha, Option.bind_none] at q
        refine call a _ _ (by simp [Bd.dep]; omega) ha ?_
        walk_at "rk"
        refine call b _ _ (by simp [Bd.dep]; omega) rfl ?_
        try walk_at "rk"
        refine call c _ _ (by simp [Bd.dep]; omega) rfl ?_
        cases b.kind tk gv cl <;> cases c.kind tk gv cl <;> (walk_at "rk") <;> exact q
      | some ka =>
        refine call a _ _ (by simp [Bd.dep]; omega) ha ?_
        walk_at "rk"
        cases hb : b.kind tk gv cl with
        | none =>
          simp only [Bd.kind, ha, hb, Option.bind_some, Option.bind_none] at q
          refine call b _ _ (by simp [Bd.dep]; omega) hb ?_
          walk_at "rk"
          refine call c _ _ (by simp [Bd.dep]; omega) rfl ?_
          cases c.kind tk gv cl <;> (walk_at "rk") <;> exact q
        | some kb =>
          refine call b _ _ (by simp [Bd.dep]; omega) hb ?_
          walk_at "rk"
          cases hc : c.kind tk gv cl with
          | none =>
            simp only [Bd.kind, ha, hb, hc, Option.bind_some, Option.bind_none] at q
            refine call c _ _ (by simp [Bd.dep]; omega) hc ?_
            walk_at "rk"
            exact q
          | some kc =>
            simp only [Bd.kind, ha, hb, hc, Option.bind_some] at q
            refine call c _ _ (by simp [Bd.dep]; omega) hc ?_
            walk_at "rk"
            by_cases e1 : ka = .t
            · by_cases e2 : kb = kc
              · simp only [e1, e2, and_self, if_true, kd_some] at q ⊢
                exact q
              · simp only [e1, e2, and_false, if_true, if_false, kd_none] at q ⊢
                exact q
            · simp only [e1, false_and, if_false, kd_none] at q ⊢
              exact q
end K01
/-! rows, parts, right. -/
namespace K01
open PySem PySem.Spec PyProof.Rows L2 L3
variable {P : Program} {w : World} {K : PySem.W.Frag} {mg : Str → Option Value} {base : Heap}
local macro_rules | `(tactic| walk_at "rp") => `(tactic| simp only [ aOrI, lcStep, ex_in_tup, ex_in_lst, inD_nil, inD_cons, eqD_str, eqD_ns, eqD_sn, eqD_nn, fl_str, fl_non, List.all_cons, all_fl_nil, Bool.and_true, Bool.or_false, Bool.false_or, Bool.true_or, Bool.or_true, Bool.and_self, Bool.false_bne, Bool.false_xor, Bool.true_xor, dctOf_dct, keyD_str, ex_in_dcts, ex_ix_dcts, getK_cv, getK_gv, kdD_cv, isSome_gv, Kd.s_inj, Kd.s_t, Kd.s_n, Kd.s_l, kd_some, kd_none, aRet, aRetN, aDrop, aIfS, aSeq, aNext, aAsg, gNm, gTupD, gConsD, gNilD, aFor, ex_var0, ex_varS, aC, aOp, aCall, aCons, aNil, aTup, aLst, aB, aAnd, aOr, aNot, aAndV, aOrV, aNotV, aIf, aNeg, aChain, aKix, aKGet1, aKGet2, aDGet1, aDGet2, aNoPart, aPart, aSl, aList, aTupI, aStrI, aZipS, aYes, aLc, aNever, aBreak, aCont, forGo, lcGo,
  isi_str_str, isi_str_int, isi_str_bool, isi_str_tuple, isi_str_list, isi_int_str, isi_int_int, isi_int_bool, isi_int_tuple, isi_int_list, isi_bl_str, isi_bl_int, isi_bl_bool, isi_bl_tuple, isi_bl_list, isi_non_str, isi_non_int, isi_non_bool, isi_non_tuple, isi_non_list, isi_tup_str, isi_tup_int, isi_tup_bool, isi_tup_tuple, isi_tup_list, isi_lst_str, isi_lst_int, isi_lst_bool, isi_lst_tuple, isi_lst_list, isi_dct_str, isi_dct_int, isi_dct_bool, isi_dct_tuple, isi_dct_list, isi2_str, isi2_int, isi2_bl, isi2_non, isi2_tup, isi2_lst, isi2_dct, Option.getD_some, Option.getD_none, D.isNon, sz_0, sz_1, sz_2, sz_3, sz_4, sz_5, sz_6, sz_7, sz_8, sz_9, sz_10, sz_11, sz_12, sz_13, sz_14, sz_15, sz_16, sg_len, ex_in_sg, ex_len_str, ex_len_tup, ex_len_lst, ex_eq_str, ex_ne_str, ex_eq_int, ex_ne_int, ex_eq_ns, ex_eq_sn, ex_eq_nn, ex_ne_ns, ex_ne_sn, ex_ne_nn, ex_I, ex_add_int, ex_add_str, ex_add_tup, ex_add_lst, ex_sub, ex_mul, ex_mod, ex_div, ex_isN, ex_notN, ex_ix_tup, ex_ix_lst, ex_sl_tup, ex_sl_lst, ex_sl_str, ex_tuple_lst,
  ofs_inj, String.reduceEq, atI_0, atI_1, atI_2, atI_3, cut_1, cut_13, startD, wipeD, List.map_cons, List.map_nil, List.length_cons, List.length_nil, List.cons_append, List.nil_append, List.replicate_succ, List.replicate_zero, List.set_cons_zero, List.set_cons_succ, Nat.reduceAdd, Nat.reduceSub, Nat.sub_self,
  D.bl.injEq, D.int.injEq, D.str.injEq, D.tup.injEq, D.lst.injEq, D.dct.injEq, Option.some.injEq, List.cons.injEq, and_assoc, Int.cast_ofNat_Int, Int.reduceAdd, Int.reduceSub, Int.reduceMul, Int.reduceNeg, Int.reduceEq, Int.reduceLT, Int.reduceLE, Int.reduceNe, eq_self, exists_eq_left, exists_eq_left', exists_eq_right, exists_eq, exists_const, exists_false, false_and, and_false, false_or, or_false, true_and, and_true, if_true, if_false, Bool.false_eq_true, Bool.not_true, Bool.not_false, ite_true, ite_false, reduceCtorEq, decide_true, decide_false, decide_eq_true_eq, exists_and_left, Bool.not_eq_true])

theorem Kd.any (k : Kd) : (decide (Kd.n = k) || (decide (Kd.t = k) || decide (Kd.l = k))) = true := by cases k <;> rfl
theorem fm_map {α β γ : Type} {g : γ → α} {f : α → Option β} {h : γ → β} : ∀ {xs : List γ}, (∀ x ∈ xs, f (g x) = some (h x)) → (xs.map g).filterMap f = xs.map h
  | [], _ => rfl
  | x :: xs, e => by rw [List.map_cons, List.filterMap_cons, e x List.mem_cons_self, List.map_cons, fm_map fun y hy => e y (List.mem_cons_of_mem _ hy)]
/-! ### rows -/
def rowD (r : Nat × List D) : D := .tup (.str (sg r.1) :: r.2)
def hdD : D → Option D
  | .tup (x :: _) => some x
  | _ => none
theorem hd_rows (rs : List (Nat × List D)) : (rs.map rowD).filterMap hdD = strD ((rs.map (·.1)).map sg) := by
  rw [fm_map (g := rowD) (f := hdD) (h := fun r => D.str (sg r.1)) fun r _ => rfl]
  simp [strD, Function.comp_def]
/-! ### parts -/
theorem strD_flat (cs : List Nat) : (strD (cs.map sg)).all D.flat = true := by
  rw [List.all_eq_true]
  intro d hd
  obtain ⟨x, _, rfl⟩ := List.mem_map.mp hd
  rfl
theorem inD_sg {c : Nat} : ∀ {cs : List Nat}, inD (.str (sg c)) (strD (cs.map sg)) = decide (c ∈ cs)
  | [] => by simp [strD, inD]
  | d :: cs => by
    show (eqD (.str (sg d)) (.str (sg c)) || inD (.str (sg c)) (strD (cs.map sg))) = _
    rw [inD_sg, eqD_str]
    by_cases e : d = c
    · subst e; simp
    · have e2 : ¬ c = d := fun z => e z.symm
      simp [sg_inj, e, e2]
def sp_given_in : SpD := fun ds m Q => ∃ p : Part, ds = [p.enc] ∧ p.ok ∧ Q (.dct (gvD p.gv)) m
def ghD : D → Option D
  | .tup (x :: a :: b :: _) => some (.tup [x, .tup [a, b]])
  | _ => none
theorem F_given_in (T : Txt K w mg) : FnD P w K mg base "given_in" 1 sp_given_in := by
  have nd := sc_given_in.nd
  refine fnd_ofZ T.d_given_in sc_given_in (fun ds m Q ⟨_, e, _⟩ => by rw [e]; rfl) fun f cdv A outer s H E hr => ⟨_, (ass_one (as_ret (ae_callTy cr_dict2 T.b_dict boot_dict (aa_cons (ae_lc (own := [("row", 1)]) rfl nd (ai_tup (ae_op or_add (ae_ix hr.u1 (ae_var 0) ae_int) (ae_ix hr.u1 (ae_var 0) ae_int))) (blkOk_by (own := [("row", 1)]) (by kernel_rfl)) (gg_name (i := 1) (by simp)) (fun _ _ _ _ _ => (pg_name (i := 1) nd rfl (Or.inl rfl))) (fun _ _ _ _ _ => ats_nil) (fun _ _ _ _ _ => (ae_tup (aa_cons (ae_ix hr.u1 (ae_var 1) ae_int) (aa_cons (ae_tup (aa_cons (ae_ix hr.u1 (ae_var 1) ae_int) (aa_cons (ae_ix hr.u1 (ae_var 1) ae_int) aa_nil))) aa_nil))))) aa_nil)))), ?_⟩
  rintro _ m Q ⟨p, rfl, hp, q⟩
  simp only [Part.enc]
  walk_at "rp"
  have l1 := hp.dl
  have l2 := hp.al
  refine ⟨szl (by simp; omega), szl (by simp; omega), lc_pure ghD (fun d hd R q => ?_) ?_⟩
  · rcases List.mem_append.mp hd with hd | hd
    · obtain ⟨r, _, rfl⟩ := List.mem_map.mp hd
      simp only [Deed.enc, ghD] at q ⊢
      walk_at "rp"
      exact q
    · obtain ⟨r, _, rfl⟩ := List.mem_map.mp hd
      simp only [askD, ghD] at q ⊢
      walk_at "rp"
      exact q
  rw [List.filterMap_append, fm_map (g := Deed.enc) (f := ghD) (h := fun d => L3.pairD (.inr (sg d.c), .tup [.str d.tk.s, .str d.tl.s])) fun r _ => rfl, fm_map (g := askD) (f := ghD) (h := fun a => L3.pairD (.inr (sg a.1), .tup [.str a.2.1.s, .str a.2.2.s])) fun r _ => rfl, List.nil_append]
  have e : p.ds.map (fun d => L3.pairD (.inr (sg d.c), .tup [.str d.tk.s, .str d.tl.s])) ++ p.as.map (fun a => L3.pairD (.inr (sg a.1), .tup [.str a.2.1.s, .str a.2.2.s])) = (gvD p.gv).map L3.pairD := by
    simp [gvD, Part.gv, Function.comp_def]
  rw [e]
  refine ⟨_, _, rfl, .inl rfl, ?_⟩
  rw [merge_gv hp.nodup]
  exact Fz.now q
def sp_wrong : SpD := fun ds m Q => ∃ p : Part, ds = [p.enc] ∧ p.ok ∧ Q (ndD p.wrong) m
theorem F_wrong_deed (T : Txt K w mg) : FnD P w K mg base "wrong_deed" 14 sp_wrong := by
  have nd := sc_wrong_deed.nd
  refine fnd_ofZ T.d_wrong_deed sc_wrong_deed (fun ds m Q ⟨_, e, _⟩ => by rw [e]; rfl) fun f cdv A outer s H E hr => ⟨_, (ass_cons (as_asg (ae_call ((F_given_in T).mono (by omega)) hr (aa_cons (ae_var 0) aa_nil)) (ag_name 1 nd))
      (ass_cons (as_asg (ae_callTy cr_dict2 T.b_dict boot_dict (aa_cons (ae_ix hr.u1 (ae_var 0) ae_int) aa_nil)) (ag_name 2 nd))
      (ass_cons (as_for PassesOwn.never rfl (ai_tup (ae_ix hr.u1 (ae_var 0) ae_int)) (ag_tup (n := 4) rfl (ags_cons (ag_name 3 nd) (ags_cons (ag_name 4 nd) (ags_cons (ag_name 5 nd) (ags_cons (ag_name 6 nd) ags_nil)))))
      (ass_one (as_if (at_cmp (or_ne hr.units) (ae_call ((F_kind_in T 10).mono (by omega)) hr (aa_cons (ae_var 6) (aa_cons (ae_var 4) (aa_cons (ae_var 1) (aa_cons (ae_var 2) aa_nil))))) (ae_var 5) (nomark _)) (ass_one (as_ret (ae_var 3))) ass_nil)))
      (ass_one (as_ret ae_non))))), ?_⟩
  rintro _ m Q ⟨p, rfl, hp, q⟩
  walk_at "rp"
  refine ⟨p, rfl, hp, ?_⟩
  simp only [Part.enc]
  walk_at "rp"
  refine ⟨_, cvD p.cs, rfl, .inr ?_, ?_⟩
  · rw [show p.cs.map celD = (cvD p.cs).map L3.pairD from by simp [cvD, Function.comp_def]; intro a b _; rfl]
  rw [merge_cv hp.cr.nodup]
  refine for_inv (fun rest δ m' => m' = m ∧ (∃ es : List Deed, rest = es.map Deed.enc ∧ (∀ d ∈ es, d ∈ p.ds) ∧ (es.find? fun d => decide (d.b.kind d.tk p.gv p.cs ≠ some d.tl)).map (·.c) = p.wrong) ∧
    ∃ o1 o2 o3 o4 o5, δ = [o1, some (.dct (gvD p.gv)), some (.dct (cvD p.cs)), o2, o3, o4, o5]) ?_ ?_ ⟨rfl, ⟨p.ds, rfl, fun d h => h, rfl⟩, _, _, _, _, _, rfl⟩
  · rintro x rest δ _ ⟨rfl, ⟨es, he, hs, hw⟩, o1, o2, o3, o4, o5, rfl⟩ nx hnx
    cases es with
    | nil => cases he
    | cons d es =>
      rw [List.map_cons] at he
      injection he with e1 e2
      subst e1 e2
      have hd := hp.dok d (hs d List.mem_cons_self)
      rw [List.find?_cons] at hw
      simp only [Deed.enc]
      walk_at "rp"
      refine ⟨d.b, d.tk, p.gv, p.cs, rfl, hd.dep, ?_⟩
      cases hk : d.b.kind d.tk p.gv p.cs with
      | none =>
        rw [hk] at hw
        simp only [ne_eq, reduceCtorEq, not_false_eq_true, decide_true, Option.map_some] at hw
        walk_at "rp"
        rw [← hw] at q
        exact Fz.now q
      | some k =>
        rw [hk] at hw
        walk_at "rp"
        by_cases e : k = d.tl
        · simp only [e, ne_eq, not_true_eq_false, decide_false] at hw
          rw [decide_eq_true e]
          walk_at "rp"
          exact hnx _ _ ⟨rfl, ⟨es, rfl, fun y hy => hs y (List.mem_cons_of_mem _ hy), hw⟩, _, _, _, _, _, rfl⟩
        · simp only [Option.some.injEq, e, ne_eq, not_false_eq_true, decide_true, Option.map_some] at hw
          rw [decide_eq_false e]
          walk_at "rp"
          rw [← hw] at q
          exact Fz.now q
  · rintro δ _ ⟨rfl, ⟨es, he, hs, hw⟩, o1, o2, o3, o4, o5, rfl⟩
    cases es with
    | cons d es => cases he
    | nil =>
      walk_at "rp"
      rw [← hw] at q
      exact Fz.now q
end K01
/-! the generator. -/
namespace K01
open PySem PySem.Spec PyProof.Rows L2 L3
variable {P : Program} {w : World} {K : PySem.W.Frag} {mg : Str → Option Value} {base : Heap}
local macro_rules | `(tactic| walk_at "rg") => `(tactic| simp only [ aMaxD, isi_enc, ex_maxd0, ex_maxd1, ex_maxd2, ex_maxd3, ex_sum0, ex_sum1, ex_sum2, ex_sum3, aFlI, aLstM, D.fl.injEq, ex_max2, gSubD, List.length_map, aRet, aRetN, aDrop, aIfS, aSeq, aNext, aAsg, gNm, gTupD, gConsD, gNilD, aFor, ex_var0, ex_varS, aC, aOp, aCall, aCons, aNil, aTup, aLst, aB, aAnd, aOr, aNot, aAndV, aOrV, aNotV, aIf, aNeg, aChain, aKix, aKGet1, aKGet2, aDGet1, aDGet2, aNoPart, aPart, aSl, aList, aTupI, aStrI, aZipS, aYes, aLc, aNever, aBreak, aCont, forGo, lcGo,
  isi_str_str, isi_str_int, isi_str_bool, isi_str_tuple, isi_str_list, isi_int_str, isi_int_int, isi_int_bool, isi_int_tuple, isi_int_list, isi_bl_str, isi_bl_int, isi_bl_bool, isi_bl_tuple, isi_bl_list, isi_non_str, isi_non_int, isi_non_bool, isi_non_tuple, isi_non_list, isi_tup_str, isi_tup_int, isi_tup_bool, isi_tup_tuple, isi_tup_list, isi_lst_str, isi_lst_int, isi_lst_bool, isi_lst_tuple, isi_lst_list, isi_dct_str, isi_dct_int, isi_dct_bool, isi_dct_tuple, isi_dct_list, isi2_str, isi2_int, isi2_bl, isi2_non, isi2_tup, isi2_lst, isi2_dct, Option.getD_some, Option.getD_none, D.isNon, sz_0, sz_1, sz_2, sz_3, sz_4, sz_5, sz_6, sz_7, sz_8, sz_9, sz_10, sz_11, sz_12, sz_13, sz_14, sz_15, sz_16, sg_len, ex_in_sg, ex_len_str, ex_len_tup, ex_len_lst, ex_eq_str, ex_ne_str, ex_eq_int, ex_ne_int, ex_eq_ns, ex_eq_sn, ex_eq_nn, ex_ne_ns, ex_ne_sn, ex_ne_nn, ex_I, ex_add_int, ex_add_str, ex_add_tup, ex_add_lst, ex_sub, ex_mul, ex_mod, ex_div, ex_isN, ex_notN, ex_ix_tup, ex_ix_lst, ex_sl_tup, ex_sl_lst, ex_sl_str, ex_tuple_lst,
  ofs_inj, String.reduceEq, atI_0, atI_1, atI_2, atI_3, cut_1, cut_13, startD, wipeD, List.map_cons, List.map_nil, List.length_cons, List.length_nil, List.cons_append, List.nil_append, List.replicate_succ, List.replicate_zero, List.set_cons_zero, List.set_cons_succ, Nat.reduceAdd, Nat.reduceSub, Nat.sub_self,
  D.bl.injEq, D.int.injEq, D.str.injEq, D.tup.injEq, D.lst.injEq, D.dct.injEq, Option.some.injEq, List.cons.injEq, and_assoc, Int.cast_ofNat_Int, Int.reduceAdd, Int.reduceSub, Int.reduceMul, Int.reduceNeg, Int.reduceEq, Int.reduceLT, Int.reduceLE, Int.reduceNe, eq_self, exists_eq_left, exists_eq_left', exists_eq_right, exists_eq, exists_const, exists_false, false_and, and_false, false_or, or_false, true_and, and_true, if_true, if_false, Bool.false_eq_true, Bool.not_true, Bool.not_false, ite_true, ite_false, reduceCtorEq, decide_true, decide_false, decide_eq_true_eq, exists_and_left, Bool.not_eq_true])

def sp_next : SpD := fun ds m Q => ∃ (ha hb : Addr) (n : Int), ds = [.ref ha, .int n] ∧ Rg ha hb m ∧ 0 < n ∧ n < 1073741824 ∧ ∀ r m', 0 ≤ r → r < n → Rg ha hb m' → Ch ha hb m m' → Q (.int r) m'
theorem F__law_next (T : Txt K w mg) : FnD P w K mg base "_law_next" 1 sp_next := by
  have nd := sc__law_next.nd
  refine fnd_ofZ T.d__law_next sc__law_next (fun ds m Q ⟨_, _, _, e, _⟩ => by rw [e]; rfl) fun f cdv A outer s H E hr => ⟨_, (ass_cons (as_asg (ae_op or_mod (ae_ix hr.u1 (ae_var 0) ae_int) (ae_callB cr_max2 T.b_max boot_max (aa_cons ae_int (aa_cons (ae_callB cr_len T.b_len boot_len (aa_cons (ae_ix hr.u1 (ae_var 0) ae_int) aa_nil)) aa_nil)))) (ag_name 2 nd))
      (ass_cons (as_asg (ae_if (at_cmp (or_ne hr.units) (ae_ix hr.u1 (ae_var 0) ae_int) (ae_lst aa_nil) (nomark _)) (ae_ix hr.u1 (ae_ix hr.u1 (ae_var 0) ae_int) (ae_var 2)) ae_int) (ag_name 3 nd))
      (ass_cons (as_if (at_cmp or_ge (ae_var 3) (ae_op or_pow ae_int ae_int) (nomark _)) (ass_cons (as_asg (ae_op or_div (ae_var 3) (ae_var 1)) (ag_sub hr.u1 (ae_ix hr.u1 (ae_var 0) ae_int) (ae_var 2)))
      (ass_one (as_ret (ae_op or_mod (ae_var 3) (ae_var 1))))) ass_nil)
      (ass_cons (as_asg (ae_op or_mod (ae_op or_add (ae_op or_add (ae_op or_mul (ae_ix hr.u1 (ae_var 0) ae_int) ae_int) (ae_op or_mul (ae_var 3) ae_int)) ae_int) ae_int) (ag_sub hr.u1 (ae_var 0) ae_int))
      (ass_cons (as_asg (ae_op or_add (ae_ix hr.u1 (ae_var 0) ae_int) ae_int) (ag_sub hr.u1 (ae_var 0) ae_int))
      (ass_one (as_ret (ae_op or_mod (ae_op or_div (ae_ix hr.u1 (ae_var 0) ae_int) ae_int) (ae_var 1))))))))), ?_⟩
  rintro _ m Q ⟨ha, hb, n, rfl, R, hn, hn2, q⟩
  obtain ⟨a, c, ns, e1, e2⟩ := R.ex
  have x1 : ∀ (i : Int) (R : EK), rhoIx (.ref ha) (.int i) m R = ∃ d, atI [.int a, .ref hb, .int c] i = some d ∧ R d m := fun i R => ex_ix_ref e1
  have x2 : ∀ (i : Int) (R : EK), rhoIx (.ref hb) (.int i) m R = ∃ d, atI (ns.map D.int) i = some d ∧ R d m := fun i R => ex_ix_ref e2
  have x3 : ∀ (R : EK), rcLen [.ref hb] m R = R (.int ((ns.map D.int).length : Int)) m := fun R => ex_len_ref e2
  walk_at "rg"
  simp only [x1]
  walk_at "rg"
  simp only [x1, x3]
  walk_at "rg"
  have hL : (0 : Int) < if (ns.length : Int) > 1 then (ns.length : Int) else 1 := by split <;> omega
  have hM : 0 < ns.length → (if (ns.length : Int) > 1 then (ns.length : Int) else 1) = ns.length := fun h => by split <;> omega
  refine ⟨hL, ?_⟩
  generalize hLe : (if (ns.length : Int) > 1 then (ns.length : Int) else 1) = L at hL hM ⊢
  rw [x1, atI_1]
  walk_at "rg"
  rw [ex_ne (x := .ref hb) (y := .lst []) (by rw [rsv_ref e2]; exact ints_ok ns) okl_nil, rsv_ref e2]
  have pw : ∀ (R : EK), rhoPow (.int 10) (.int 18) m R = R (.int 1000000000000000000) m := fun R => by
    rw [ex_pow]
    exact propext ⟨fun q => q.2, fun q => ⟨⟨by decide, by decide, by decide⟩, q⟩⟩
  have tail : ∀ (v : Int) (δ : Dt), Fz Q (.int ((((a * 48271 + v * 69621 + 11) % 2147483647) / 7) % n)) ((m.put ha (.lst [.int ((a * 48271 + v * 69621 + 11) % 2147483647), .ref hb, .int c])).put ha (.lst [.int ((a * 48271 + v * 69621 + 11) % 2147483647), .ref hb, .int (c + 1)])) := fun v δ => by
    refine Fz.now (q _ _ (Int.emod_nonneg _ (by omega)) (Int.emod_lt_of_pos _ hn) ⟨R.ne, _, _, ns, Mu.put_same, ?_⟩ fun x h1 h2 => ?_)
    · rw [Mu.put_ne R.ne.symm, Mu.put_ne R.ne.symm]; exact e2
    · rw [Mu.put_ne h1, Mu.put_ne h1]
  by_cases hns : ns = []
  · subst hns
    rw [show (!eqD (D.lst (List.map D.int [])) (rsv m (.lst []))) = false from by
      show (!eqD (D.lst []) (.lst [])) = false
      simp [eqD, D.pd, pds, PyData.eqv, PyData.eqvAll]]
    walk_at "rg"
    simp only [pw]
    walk_at "rg"
    rw [x1, atI_0]
    walk_at "rg"
    refine ⟨.inr (by decide), .inr (by decide), ⟨ha, rfl, .inl ⟨_, 0, 0, e1, rfl, rfl, ?_⟩⟩⟩
    simp only [List.set_cons_zero]
    rw [ex_ix_ref Mu.put_same, atI_2]
    walk_at "rg"
    refine ⟨ha, rfl, .inl ⟨_, 2, 2, Mu.put_same, rfl, rfl, ?_⟩⟩
    simp only [List.set_cons_zero, List.set_cons_succ]
    rw [ex_ix_ref Mu.put_same, atI_0]
    walk_at "rg"
    refine ⟨⟨by decide, by decide⟩, hn, ?_⟩
    simpa using tail 0 []
  · have hl : 0 < ns.length := List.length_pos_iff.mpr hns
    have hP := hM hl
    have g1 := Int.emod_nonneg c (show L ≠ 0 by omega)
    have g2 := Int.emod_lt_of_pos c hL
    rw [show (!eqD (D.lst (List.map D.int ns)) (rsv m (.lst []))) = true from by
      show (!eqD (D.lst (List.map D.int ns)) (.lst [])) = true
      cases ns with
      | nil => exact absurd rfl hns
      | cons x xs => simp [eqD, D.pd, pds, PyData.eqv, PyData.eqvAll]]
    walk_at "rg"
    rw [x1, atI_1]
    walk_at "rg"
    rw [x2]
    generalize hk : (c % L) = k at g1 g2 ⊢
    obtain ⟨v, hv⟩ : ∃ v, ns[k.toNat]? = some v := ⟨ns[k.toNat]'(by omega), List.getElem?_eq_getElem _⟩
    have hat : atI (ns.map D.int) k = some (.int v) := by
      have : (ns.map D.int)[k.toNat]? = some (.int v) := by rw [List.getElem?_map, hv]; rfl
      have h2 := atI_nat this
      rwa [Int.toNat_of_nonneg g1] at h2
    rw [hat]
    walk_at "rg"
    simp only [pw]
    walk_at "rg"
    by_cases hb18 : 1000000000000000000 ≤ v
    · rw [if_pos hb18]
      rw [x1, atI_1]
      try walk_at "rg"
      refine ⟨⟨hn, hn2⟩, ⟨hb, rfl, .inl ⟨_, k, k.toNat, e2, rfl, ?_, ?_⟩⟩⟩
      · unfold ixN
        rw [List.length_map, if_pos g1, if_pos (by omega)]
      · refine ⟨hn, Fz.now (q _ _ (Int.emod_nonneg _ (by omega)) (Int.emod_lt_of_pos _ hn) ⟨R.ne, a, c, ns.set k.toNat (v / n), ?_, ?_⟩ fun x h1 h2 => ?_)⟩
        · rw [Mu.put_ne R.ne]; exact e1
        · rw [Mu.put_same, List.map_set]
        · rw [Mu.put_ne h2]
    · rw [if_neg hb18]
      rw [x1, atI_0]
      walk_at "rg"
      refine ⟨.inr (by decide), .inr (by decide), ⟨ha, rfl, .inl ⟨_, 0, 0, e1, rfl, rfl, ?_⟩⟩⟩
      simp only [List.set_cons_zero]
      rw [ex_ix_ref Mu.put_same, atI_2]
      walk_at "rg"
      refine ⟨ha, rfl, .inl ⟨_, 2, 2, Mu.put_same, rfl, rfl, ?_⟩⟩
      simp only [List.set_cons_zero, List.set_cons_succ]
      rw [ex_ix_ref Mu.put_same, atI_0]
      walk_at "rg"
      exact ⟨⟨by decide, by decide⟩, hn, tail v []⟩
theorem nx {m : Mu} {Q : EK} {ha hb : Addr} {n : Int} (R : Rg ha hb m) (h : 0 < n ∧ n < 1073741824) (q : ∀ r m', 0 ≤ r → r < n → Rg ha hb m' → Ch ha hb m m' → Q (.int r) m') : sp_next [.ref ha, .int n] m Q := ⟨ha, hb, n, rfl, R, h.1, h.2, q⟩
/-! ### the seed -/
end K01
/-! the generator of bodies. -/
namespace K01
open PySem PySem.Spec PyProof.Rows L2 L3
variable {P : Program} {w : World} {K : PySem.W.Frag} {mg : Str → Option Value} {base : Heap}
def sp_leaf : SpD := fun ds m Q => ∃ ha hb tk gv cl kd, ds = [.ref ha, envE tk gv cl, .str kd.s] ∧ Rg ha hb m ∧ CvOk cl ∧ ∀ b m', LeafOk tk cl kd b → Rg ha hb m' → Ch ha hb m m' → Q b.enc m'
def LeafSt (ha hb : Addr) (m : Mu) (tk : Kd) (gv : Gv) (cl : Cv) (kd : Kd) (n : Nat) (δ : Dt) (m1 : Mu) : Prop := ∃ (p : Addr) (bs : List Bd) (o : Option D), δ = [some (.ref ha), some (envE tk gv cl), some (.str kd.s), some (.ref p), o] ∧ Own ha hb m m1 p (bs.map Bd.enc) ∧
  (∀ b ∈ bs, LeafOk tk cl kd b) ∧ bs.length ≤ n ∧ Rg ha hb m1 ∧ Ext ha hb m m1
local macro_rules | `(tactic| walk_at "rl") => `(tactic| simp only [ aLM, aLstM, ex_in_tup, envE, getK_nil, getK_cons, getK_cv, getK_gv, keyD_str, ex_in_dcts, ex_ix_dcts, Kd.s_inj, Kd.s_t, Kd.s_n, Kd.s_l, Kd.s_ne, Option.map_some, Option.map_none, Sum.inr.injEq, ex_mul_lst, Int.reduceToNat, Nat.reduceMul, Nat.reduceLeDiff, List.flatten_cons, List.flatten_nil, aRet, aRetN, aDrop, aIfS, aSeq, aNext, aAsg, gNm, gTupD, gConsD, gNilD, aFor, ex_var0, ex_varS, aC, aOp, aCall, aCons, aNil, aTup, aLst, aB, aAnd, aOr, aNot, aAndV, aOrV, aNotV, aIf, aNeg, aChain, aKix, aKGet1, aKGet2, aDGet1, aDGet2, aNoPart, aPart, aSl, aList, aTupI, aStrI, aZipS, aYes, aLc, aNever, aBreak, aCont, forGo, lcGo,
  isi_str_str, isi_str_int, isi_str_bool, isi_str_tuple, isi_str_list, isi_int_str, isi_int_int, isi_int_bool, isi_int_tuple, isi_int_list, isi_bl_str, isi_bl_int, isi_bl_bool, isi_bl_tuple, isi_bl_list, isi_non_str, isi_non_int, isi_non_bool, isi_non_tuple, isi_non_list, isi_tup_str, isi_tup_int, isi_tup_bool, isi_tup_tuple, isi_tup_list, isi_lst_str, isi_lst_int, isi_lst_bool, isi_lst_tuple, isi_lst_list, isi_dct_str, isi_dct_int, isi_dct_bool, isi_dct_tuple, isi_dct_list, isi2_str, isi2_int, isi2_bl, isi2_non, isi2_tup, isi2_lst, isi2_dct, Option.getD_some, Option.getD_none, D.isNon, sz_0, sz_1, sz_2, sz_3, sz_4, sz_5, sz_6, sz_7, sz_8, sz_9, sz_10, sz_11, sz_12, sz_13, sz_14, sz_15, sz_16, sg_len, ex_in_sg, ex_len_str, ex_len_tup, ex_len_lst, ex_eq_str, ex_ne_str, ex_eq_int, ex_ne_int, ex_eq_ns, ex_eq_sn, ex_eq_nn, ex_ne_ns, ex_ne_sn, ex_ne_nn, ex_I, ex_add_int, ex_add_str, ex_add_tup, ex_add_lst, ex_sub, ex_mul, ex_mod, ex_div, ex_isN, ex_notN, ex_ix_tup, ex_ix_lst, ex_sl_tup, ex_sl_lst, ex_sl_str, ex_tuple_lst,
  ofs_inj, String.reduceEq, atI_0, atI_1, atI_2, atI_3, cut_1, cut_13, startD, wipeD, List.map_cons, List.map_nil, List.length_cons, List.length_nil, List.cons_append, List.nil_append, List.replicate_succ, List.replicate_zero, List.set_cons_zero, List.set_cons_succ, Nat.reduceAdd, Nat.reduceSub, Nat.sub_self,
  D.bl.injEq, D.int.injEq, D.str.injEq, D.tup.injEq, D.lst.injEq, D.dct.injEq, Option.some.injEq, List.cons.injEq, and_assoc, Int.cast_ofNat_Int, Int.reduceAdd, Int.reduceSub, Int.reduceMul, Int.reduceNeg, Int.reduceEq, Int.reduceLT, Int.reduceLE, Int.reduceNe, eq_self, exists_eq_left, exists_eq_left', exists_eq_right, exists_eq, exists_const, exists_false, false_and, and_false, false_or, or_false, true_and, and_true, if_true, if_false, Bool.false_eq_true, Bool.not_true, Bool.not_false, ite_true, ite_false, reduceCtorEq, decide_true, decide_false, decide_eq_true_eq, exists_and_left, Bool.not_eq_true])

theorem F__law_leaf (T : Txt K w mg) : FnD P w K mg base "_law_leaf" 2 sp_leaf := by
  have nd := sc__law_leaf.nd
  refine fnd_ofZ T.d__law_leaf sc__law_leaf (fun ds m Q ⟨_, _, _, _, _, _, e, _⟩ => by rw [e]; rfl) fun f cdv A outer s H E hr => ⟨_, (ass_cons (as_asg (ae_lstM aa_nil) (ag_name 3 nd))
      (ass_cons (as_if (at_cmp (or_eq hr.units) (ae_ix hr.u1 (ae_var 1) ae_str) (ae_var 2) (nomark _)) (ass_one (as_asg (ae_op or_addM (ae_var 3) (ae_op or_mul (ae_lst (aa_cons (ae_tup (aa_cons ae_str aa_nil)) aa_nil)) ae_int)) (ag_name 3 nd))) ass_nil)
      (ass_cons (as_for PassesOwn.never rfl (ai_list (ae_callB cr_sorted T.b_sorted boot_sorted (aa_cons (ae_ix hr.u1 (ae_var 1) ae_str) aa_nil))) (ag_name 4 nd)
      (ass_one (as_if (at_cmp (or_eq hr.units) (ae_ix hr.u1 (ae_ix hr.u1 (ae_var 1) ae_str) (ae_var 4)) (ae_var 2) (nomark _)) (ass_one (as_asg (ae_op or_addM (ae_var 3) (ae_op or_mul (ae_lst (aa_cons (ae_tup (aa_cons ae_str (aa_cons (ae_var 4) aa_nil))) aa_nil)) ae_int)) (ag_name 3 nd))) ass_nil)))
      (ass_cons (as_if (at_cmp (or_eq hr.units) (ae_var 2) ae_str (nomark _)) (ass_one (as_expr (ae_lm PySem.F.slot_list_append PySem.F.type_list_append mt_appendD (ae_var 3) (aa_cons (ae_tup (aa_cons ae_str (aa_cons (ae_ix hr.u1 (ae_lst (aa_cons (ae_op or_sub (ae_call ((F__law_next T).mono (by omega)) hr (aa_cons (ae_var 0) (aa_cons ae_int aa_nil))) ae_int) (aa_cons (ae_op or_sub (ae_call ((F__law_next T).mono (by omega)) hr (aa_cons (ae_var 0) (aa_cons ae_int aa_nil))) ae_int) aa_nil))) (ae_call ((F__law_next T).mono (by omega)) hr (aa_cons (ae_var 0) (aa_cons ae_int aa_nil)))) aa_nil))) aa_nil)))) ass_nil)
      (ass_cons (as_if (at_cmp (or_eq hr.units) (ae_var 2) ae_str (nomark _)) (ass_one (as_expr (ae_lm PySem.F.slot_list_append PySem.F.type_list_append mt_appendD (ae_var 3) (aa_cons (ae_tup (aa_cons ae_str (aa_cons (ae_cmp (or_eq hr.units) (ae_call ((F__law_next T).mono (by omega)) hr (aa_cons (ae_var 0) (aa_cons ae_int aa_nil))) ae_int (nomark _)) aa_nil))) aa_nil)))) ass_nil)
      (ass_cons (as_if (at_cmp (or_eq hr.units) (ae_var 2) ae_str (nomark _)) (ass_one (as_expr (ae_lm PySem.F.slot_list_append PySem.F.type_list_append mt_appendD (ae_var 3) (aa_cons (ae_tup (aa_cons ae_str aa_nil)) aa_nil)))) ass_nil)
      (ass_one (as_ret (ae_ix hr.u1 (ae_var 3) (ae_call ((F__law_next T).mono (by omega)) hr (aa_cons (ae_var 0) (aa_cons (ae_callB cr_len T.b_len boot_len (aa_cons (ae_var 3) aa_nil)) aa_nil)))))))))))), ?_⟩
  rintro _ m Q ⟨ha, hb, tk, gv, cl, kd, rfl, R, hc, q⟩
  refine seq_inv (LeafSt ha hb m tk gv cl kd 0) (fun nx hn => ?_) ?_
  · walk_at "rl"
    intro p hp
    exact hn _ _ ⟨p, [], _, rfl, Own.new Ext.refl R hp, by simp, by simp, R.put hp, Ext.put hp⟩
  rintro _ m1 ⟨p, bs, o, rfl, O, hbs, hl, R1, X1⟩
  refine seq_inv (LeafSt ha hb m tk gv cl kd 3) (fun nx hn => ?_) ?_
  · walk_at "rl"
    split
    · rename_i e
      refine ex_addM O.at_ (by rw [List.length_map]; exact szl (by simp; omega)) fun p' hp' => hn _ _ ⟨p', bs ++ [Bd.arg, .arg, .arg], _, rfl, ?_, ?_, by rw [List.length_append]; simp only [List.length_cons, List.length_nil]; omega, R1.put hp', X1.trans (Ext.put hp')⟩
      · have := Own.new (ds := (bs ++ [Bd.arg, .arg, .arg]).map Bd.enc) X1 R1 hp'
        simpa [Bd.enc] using this
      · intro b hb
        rcases List.mem_append.mp hb with h | h
        · exact hbs b h
        · have : b = .arg := by simpa using h
          subst this
          exact ⟨trivial, fun gv => by simp [Bd.kind, e], rfl, rfl⟩
    · exact hn _ _ ⟨p, bs, _, rfl, O, hbs, by omega, R1, X1⟩
  clear hl hbs O R1 X1
  rintro _ m1 ⟨p, bs, o, rfl, O, hbs, hl, R1, X1⟩
  refine seq_inv (LeafSt ha hb m tk gv cl kd 11) (fun nx hn => ?_) ?_
  · walk_at "rl"
    refine ex_sortedK (keys_cv cl) (by rw [List.length_map]; have := hc.l; omega) fun ds hp hs => ⟨_, rfl, ?_⟩
    refine for_inv (fun rest δ m' => ∃ cs : List Nat, rest = strD (cs.map sg) ∧ (∀ c ∈ cs, c ∈ cl.map (·.1)) ∧ LeafSt ha hb m tk gv cl kd (11 - 2 * cs.length) δ m' ∧ cs.length ≤ 4) ?_ ?_ ⟨ds, rfl, fun c h => hp.mem_iff.mp h, ⟨p, bs, _, rfl, O, hbs, ?_, R1, X1⟩, ?_⟩
    · rintro d rest δ m2 ⟨cs, e, hcs, ⟨p, bs, o, rfl, O, hbs, hl, R1, X1⟩, h4⟩ nx2 hnx
      cases cs with
      | nil => cases e
      | cons c cs =>
        simp only [strD, List.map_cons] at e
        injection e with e1 e2
        subst e1
        obtain ⟨k, hk, hm⟩ := lk_mem (hcs c List.mem_cons_self)
        have hl2 : bs.length ≤ 11 - 2 * (cs.length + 1) := hl
        have h42 : cs.length + 1 ≤ 4 := h4
        walk_at "rl"
        rw [hk]
        walk_at "rl"
        split
        · rename_i e
          refine ex_addM O.at_ (by rw [List.length_map]; exact szl (by simp; omega)) fun p' hp' => hnx _ _ ⟨cs, e2, fun x hx => hcs x (List.mem_cons_of_mem _ hx), ⟨p', bs ++ [Bd.cel c, .cel c], _, rfl, ?_, ?_, by rw [List.length_append]; simp only [List.length_cons, List.length_nil]; omega, R1.put hp', X1.trans (Ext.put hp')⟩, by omega⟩
          · have := Own.new (ds := (bs ++ [Bd.cel c, .cel c]).map Bd.enc) X1 R1 hp'
            simpa [Bd.enc] using this
          · intro b hb
            rcases List.mem_append.mp hb with h | h
            · exact hbs b h
            · have : b = .cel c := by simpa using h
              subst this
              exact ⟨hc.c _ hm, fun gv => by simp [Bd.kind, hk, e], rfl, rfl⟩
        · exact hnx _ _ ⟨cs, e2, fun x hx => hcs x (List.mem_cons_of_mem _ hx), ⟨p, bs, _, rfl, O, hbs, by omega, R1, X1⟩, by omega⟩
    · rintro δ m2 ⟨cs, e, hcs, ⟨p, bs, o, rfl, O, hbs, hl, R1, X1⟩, h4⟩
      exact hn _ _ ⟨p, bs, _, rfl, O, hbs, by omega, R1, X1⟩
    · have := hp.length_eq
      rw [List.length_map] at this
      have := hc.l
      omega
    · have := hp.length_eq
      rw [List.length_map] at this
      have := hc.l
      omega
  clear hl hbs O R1 X1
  rintro _ m1 ⟨p, bs, o, rfl, O, hbs, hl, R1, X1⟩
  have fin : ∀ (b : Bd) (d : D) (m2 : Mu), b.enc = d → LeafOk tk cl kd b → Own ha hb m m2 p (bs.map Bd.enc) → Rg ha hb m2 → Ext ha hb m m2 →
      rhoAppend (.ref p) [d] m2 fun _ m3 => rcLen [.ref p] m3 fun x m4 => sp_next [.ref ha, x] m4 fun y m5 => rhoIx (.ref p) y m5 (Fz Q) := by
    intro b _ m2 rfl hb2 O R2 X2
    refine ex_appendM O.at_ (by rw [List.length_map]; exact szlt (by omega)) ?_
    have e1 : bs.map Bd.enc ++ [b.enc] = (bs ++ [b]).map Bd.enc := by simp
    rw [e1, ex_len_ref Mu.put_same]
    refine nx (O.rg R2) (by simp; omega) fun r m3 h0 h1 R3 C3 => ?_
    obtain ⟨x, hx, hm⟩ := atI_get h0 h1
    obtain ⟨y, hy, rfl⟩ := List.mem_map.mp hm
    have O3 := (O.put (es := (bs ++ [b]).map Bd.enc)).ch C3
    rw [ex_ix_ref O3.at_]
    refine ⟨_, hx, fzx R3 ((X2.over O.n).trans C3.ext) fun m6 => q y m6 ?_⟩
    rcases List.mem_append.mp hy with h | h
    · exact hbs y h
    · have : y = b := by simpa using h
      subst this
      exact hb2
  cases kd with
  | n =>
    walk_at "rl"
    refine ⟨lst_ref O.at_, nx R1 (by omega) fun r1 m2 a1 b1 R2 C2 => ?_⟩
    walk_at "rl"
    refine nx R2 (by omega) fun r2 m3 a2 b2 R3 C3 => ?_
    walk_at "rl"
    refine nx R3 (by omega) fun r3 m4 a3 b3 R4 C4 => ?_
    have C := (C2.trans C3).trans C4
    rcases lt2 a3 b3 with e | e <;> subst e
    · walk_at "rl"
      exact fin (.num (r1 - 3)) _ m4 rfl ⟨⟨by omega, by omega⟩, fun gv => rfl, rfl, rfl⟩ (O.ch C) R4 (X1.trans C.ext)
    · walk_at "rl"
      exact fin (.num (r2 - 99)) _ m4 rfl ⟨⟨by omega, by omega⟩, fun gv => rfl, rfl, rfl⟩ (O.ch C) R4 (X1.trans C.ext)
  | t =>
    walk_at "rl"
    refine ⟨lst_ref O.at_, nx R1 (by omega) fun r1 m2 a1 b1 R2 C2 => ?_⟩
    rw [ex_eq_int]
    exact fin (.tru _) _ m2 rfl ⟨trivial, fun gv => rfl, rfl, rfl⟩ (O.ch C2) R2 (X1.trans C2.ext)
  | l =>
    walk_at "rl"
    exact ⟨lst_ref O.at_, fin .emp _ m1 rfl ⟨trivial, fun gv => rfl, rfl, rfl⟩ O R1 X1⟩
end K01
/-! the generator of bodies, by depth. -/
namespace K01
open PySem PySem.Spec PyProof.Rows L2 L3
variable {P : Program} {w : World} {K : PySem.W.Frag} {mg : Str → Option Value} {base : Heap}
theorem env_takes {tk : Kd} {gv : Gv} {cl : Cv} {m : Mu} {Q : EK} : rhoIx (envE tk gv cl) (.str "takes") m Q = Q (.str tk.s) m := by
  unfold envE; rw [ex_ix_dcts]; simp [getK_cons, ofs_inj]
theorem env_deeds {tk : Kd} {gv : Gv} {cl : Cv} {m : Mu} {Q : EK} : rhoIx (envE tk gv cl) (.str "deeds") m Q = Q (.dct (gvD gv)) m := by
  unfold envE; rw [ex_ix_dcts]; simp [getK_cons, ofs_inj]
theorem env_cells {tk : Kd} {gv : Gv} {cl : Cv} {m : Mu} {Q : EK} : rhoIx (envE tk gv cl) (.str "cells") m Q = Q (.dct (cvD cl)) m := by
  unfold envE; rw [ex_ix_dcts]; simp [getK_cons, ofs_inj]
local macro_rules | `(tactic| walk_at "rl") => `(tactic| simp only [ exists_eq', aDisp, aDispW, pairsD, ex_disp, dkOf, dctOf_dct, getK_nil, putD_nil, putD_cons, mergeD_nil, mergeD_cons, inD_nil, inD_cons, eqD_str, fl_str, List.all_cons, all_fl_nil, Bool.and_true, Bool.or_false, Bool.false_or, Bool.true_or, Bool.or_true, Bool.and_self, Bool.false_bne, Bool.false_xor, Bool.true_xor, atI_4, lcStep, env_takes, env_deeds, env_cells, aLM, aLstM, ex_in_tup, getK_nil, getK_cons, getK_cv, getK_gv, keyD_str, ex_in_dcts, ex_ix_dcts, Kd.s_inj, Kd.s_t, Kd.s_n, Kd.s_l, Kd.s_ne, Option.map_some, Option.map_none, Sum.inr.injEq, ex_mul_lst, Int.reduceToNat, Nat.reduceMul, Nat.reduceLeDiff, List.flatten_cons, List.flatten_nil, aRet, aRetN, aDrop, aIfS, aSeq, aNext, aAsg, gNm, gTupD, gConsD, gNilD, aFor, ex_var0, ex_varS, aC, aOp, aCall, aCons, aNil, aTup, aLst, aB, aAnd, aOr, aNot, aAndV, aOrV, aNotV, aIf, aNeg, aChain, aKix, aKGet1, aKGet2, aDGet1, aDGet2, aNoPart, aPart, aSl, aList, aTupI, aStrI, aZipS, aYes, aLc, aNever, aBreak, aCont, forGo, lcGo,
  isi_str_str, isi_str_int, isi_str_bool, isi_str_tuple, isi_str_list, isi_int_str, isi_int_int, isi_int_bool, isi_int_tuple, isi_int_list, isi_bl_str, isi_bl_int, isi_bl_bool, isi_bl_tuple, isi_bl_list, isi_non_str, isi_non_int, isi_non_bool, isi_non_tuple, isi_non_list, isi_tup_str, isi_tup_int, isi_tup_bool, isi_tup_tuple, isi_tup_list, isi_lst_str, isi_lst_int, isi_lst_bool, isi_lst_tuple, isi_lst_list, isi_dct_str, isi_dct_int, isi_dct_bool, isi_dct_tuple, isi_dct_list, isi2_str, isi2_int, isi2_bl, isi2_non, isi2_tup, isi2_lst, isi2_dct, Option.getD_some, Option.getD_none, D.isNon, sz_0, sz_1, sz_2, sz_3, sz_4, sz_5, sz_6, sz_7, sz_8, sz_9, sz_10, sz_11, sz_12, sz_13, sz_14, sz_15, sz_16, sg_len, ex_in_sg, ex_len_str, ex_len_tup, ex_len_lst, ex_eq_str, ex_ne_str, ex_eq_int, ex_ne_int, ex_eq_ns, ex_eq_sn, ex_eq_nn, ex_ne_ns, ex_ne_sn, ex_ne_nn, ex_I, ex_add_int, ex_add_str, ex_add_tup, ex_add_lst, ex_sub, ex_mul, ex_mod, ex_div, ex_isN, ex_notN, ex_ix_tup, ex_ix_lst, ex_sl_tup, ex_sl_lst, ex_sl_str, ex_tuple_lst,
  ofs_inj, String.reduceEq, atI_0, atI_1, atI_2, atI_3, cut_1, cut_13, startD, wipeD, List.map_cons, List.map_nil, List.length_cons, List.length_nil, List.cons_append, List.nil_append, List.replicate_succ, List.replicate_zero, List.set_cons_zero, List.set_cons_succ, Nat.reduceAdd, Nat.reduceSub, Nat.sub_self,
  D.bl.injEq, D.int.injEq, D.str.injEq, D.tup.injEq, D.lst.injEq, D.dct.injEq, Option.some.injEq, List.cons.injEq, and_assoc, Int.cast_ofNat_Int, Int.reduceAdd, Int.reduceSub, Int.reduceMul, Int.reduceNeg, Int.reduceEq, Int.reduceLT, Int.reduceLE, Int.reduceNe, eq_self, exists_eq_left, exists_eq_left', exists_eq_right, exists_eq, exists_const, exists_false, false_and, and_false, false_or, or_false, true_and, and_true, if_true, if_false, Bool.false_eq_true, Bool.not_true, Bool.not_false, ite_true, ite_false, reduceCtorEq, decide_true, decide_false, decide_eq_true_eq, exists_and_left, Bool.not_eq_true])

/-- deep < n -/
def sp_body (n : Nat) : SpD := fun ds m Q => ∃ ha hb tk gv cl kd, ∃ (i : Int) (d : Nat), ds = [.ref ha, envE tk gv cl, .str kd.s, .int i] ∧ i = d ∧ d + 1 ≤ n ∧ Rg ha hb m ∧ CvOk cl ∧ GvOk gv ∧ ∀ b m', BodyOk tk gv cl kd d b → Rg ha hb m' → Ch ha hb m m' → Q b.enc m'
/-- deep ≤ n, which isn't 0 -/
def sp_call (n : Nat) : SpD := fun ds m Q => ∃ ha hb tk gv cl kd, ∃ (i : Int) (d : Nat), ds = [.ref ha, envE tk gv cl, .str kd.s, .int i] ∧ i = (d + 1 : Nat) ∧ d + 1 ≤ n ∧ Rg ha hb m ∧ CvOk cl ∧ GvOk gv ∧ ∀ b m', BodyOk tk gv cl kd (d + 1) b → Rg ha hb m' → Ch ha hb m m' → Q b.enc m'
/-- deep < n -/
def sp_reckons (n : Nat) : SpD := fun ds m Q => ∃ ha hb tk gv cl kd, ∃ (i : Int) (d : Nat), ds = [.ref ha, envE tk gv cl, .str kd.s, .int i] ∧ i = d ∧ d + 1 ≤ n ∧ Rg ha hb m ∧ CvOk cl ∧ GvOk gv ∧ ∀ b m', BodyOk tk gv cl kd (d + 1) b → Rg ha hb m' → Ch ha hb m m' → Q b.enc m'
theorem F_call {k : Nat} (T : Txt K w mg) (n : Nat) (F : FnD P w K mg base "_law_body" k (sp_body n)) : FnD P w K mg base "_law_call" (k + 3) (sp_call n) := by
  have nd := sc__law_call.nd
  refine fnd_ofZ T.d__law_call sc__law_call (fun ds m Q ⟨_, _, _, _, _, _, _, _, e, _⟩ => by rw [e]; rfl) fun f cdv A outer s H E hr => ⟨_, (ass_cons (as_setLc (i := 4) (own := [("_law_deed", 6)]) rfl nd rfl rfl (sw_true rfl rfl rfl (by decide +kernel)) (ai_list (ae_callB cr_sorted T.b_sorted boot_sorted (aa_cons (ae_ix hr.u1 (ae_var 1) ae_str) aa_nil))) (blkOk_by (own := [("_law_deed", 6)]) (by kernel_rfl)) (gg_name (i := 6) (by simp)) (fun _ _ _ _ _ => (pg_name (i := 6) nd rfl (Or.inl rfl))) (fun _ _ _ _ _ => (ats_one (at_cmp (or_eq hr.units) (ae_ix hr.u1 (ae_ix hr.u1 (ae_ix hr.u1 (ae_var 1) ae_str) (ae_var 6)) ae_int) (ae_var 2) (nomark _)))) (fun _ _ _ _ _ => (ae_var 6)))
      (ass_cons (as_setLc (i := 5) (own := [("_law_cell", 7)]) rfl nd rfl rfl (sw_true rfl rfl rfl (by decide +kernel)) (ai_list (ae_callB cr_sorted T.b_sorted boot_sorted (aa_cons (ae_ix hr.u1 (ae_var 1) ae_str) aa_nil))) (blkOk_by (own := [("_law_cell", 7)]) (by kernel_rfl)) (gg_name (i := 7) (by simp)) (fun _ _ _ _ _ => (pg_name (i := 7) nd rfl (Or.inl rfl))) (fun _ _ _ _ _ => (ats_one (at_cmp (or_eq hr.units) (ae_ix hr.u1 (ae_ix hr.u1 (ae_var 1) ae_str) (ae_var 7)) (ae_var 2) (nomark _)))) (fun _ _ _ _ _ => (ae_var 7)))
      (ass_cons (as_if (AW.t (aw_and (at_cmp (or_ne hr.units) (ae_var 4) (ae_lst aa_nil) (nomark _)) (aw_and1 (at_cmp or_gt (ae_call ((F__law_next T).mono (by omega)) hr (aa_cons (ae_var 0) (aa_cons ae_int aa_nil))) ae_int (nomark _))))) (ass_cons (as_asg (ae_ix hr.u1 (ae_var 4) (ae_call ((F__law_next T).mono (by omega)) hr (aa_cons (ae_var 0) (aa_cons (ae_callB cr_len T.b_len boot_len (aa_cons (ae_var 4) aa_nil)) aa_nil)))) (ag_name 6 nd))
      (ass_one (as_ret (ae_tup (aa_cons ae_str (aa_cons (ae_var 6) (aa_cons (ae_call (F.mono (by omega)) hr (aa_cons (ae_var 0) (aa_cons (ae_var 1) (aa_cons (ae_ix hr.u1 (ae_ix hr.u1 (ae_ix hr.u1 (ae_var 1) ae_str) (ae_var 6)) ae_int) (aa_cons (ae_op or_sub (ae_var 3) ae_int) aa_nil))))) aa_nil))))))) ass_nil)
      (ass_cons (as_if (at_cmp (or_ne hr.units) (ae_var 5) (ae_lst aa_nil) (nomark _)) (ass_one (as_ret (ae_tup (aa_cons ae_str (aa_cons (ae_ix hr.u1 (ae_var 5) (ae_call ((F__law_next T).mono (by omega)) hr (aa_cons (ae_var 0) (aa_cons (ae_callB cr_len T.b_len boot_len (aa_cons (ae_var 5) aa_nil)) aa_nil)))) (aa_cons (ae_call (F.mono (by omega)) hr (aa_cons (ae_var 0) (aa_cons (ae_var 1) (aa_cons (ae_var 2) (aa_cons (ae_op or_sub (ae_var 3) ae_int) aa_nil))))) aa_nil)))))) ass_nil)
      (ass_one (as_ret (ae_call ((F__law_leaf T).mono (by omega)) hr (aa_cons (ae_var 0) (aa_cons (ae_var 1) (aa_cons (ae_var 2) aa_nil)))))))))), ?_⟩
  rintro _ m Q ⟨ha, hb, tk, gv, cl, kd, i, d, rfl, hi, hd, R, hc, hg, q⟩
  walk_at "rl"
  refine ex_sortedK (keys_gv gv) (by rw [List.length_map]; have := hg.l; omega) fun ds hp hs => ⟨_, rfl, szl (by have := hp.length_eq; have := hg.l; simp [strD] at *; omega), ?_⟩
  have mg : ∀ c ∈ ds, ∃ p, lk gv c = some p ∧ deedC c := fun c h => by
    obtain ⟨p, h1, h2⟩ := lk_mem (hp.mem_iff.mp h)
    exact ⟨p, h1, hg.c _ h2⟩
  refine lc_sg (fun c => decide ((lk gv c).map (·.2) = some kd)) (fun c hcc R r => ?_) ?_
  · obtain ⟨p, h1, _⟩ := mg c hcc
    rw [h1] at r
    walk_at "rl"
    rw [h1]
    walk_at "rl"
    by_cases e : p.2 = kd
    · simpa [e] using r
    · simpa [e] using r
  walk_at "rl"
  refine ex_sortedK (keys_cv cl) (by rw [List.length_map]; have := hc.l; omega) fun es hp2 hs2 => ⟨_, rfl, szl (by have := hp2.length_eq; have := hc.l; simp [strD] at *; omega), ?_⟩
  have mc : ∀ c ∈ es, ∃ p, lk cl c = some p ∧ cellC c := fun c h => by
    obtain ⟨p, h1, h2⟩ := lk_mem (hp2.mem_iff.mp h)
    exact ⟨p, h1, hc.c _ h2⟩
  refine lc_sg (fun c => decide (lk cl c = some kd)) (fun c hcc R r => ?_) ?_
  · obtain ⟨p, h1, _⟩ := mc c hcc
    rw [h1] at r
    walk_at "rl"
    rw [h1]
    walk_at "rl"
    by_cases e : p = kd
    · simpa [e] using r
    · simpa [e] using r
  generalize hfs : es.filter (fun c => decide (lk cl c = some kd)) = fs
  generalize hgs : ds.filter (fun c => decide ((lk gv c).map (·.2) = some kd)) = gs
  have mfs : ∀ c ∈ fs, lk cl c = some kd ∧ cellC c := fun c h => by
    rw [← hfs, List.mem_filter] at h
    obtain ⟨p, h1, h2⟩ := mc c h.1
    exact ⟨by simpa using h.2, h2⟩
  have mgs : ∀ c ∈ gs, (∃ j, lk gv c = some (j, kd)) ∧ deedC c := fun c h => by
    rw [← hgs, List.mem_filter] at h
    obtain ⟨p, h1, h2⟩ := mg c h.1
    have h3 := h.2
    rw [h1] at h3
    simp at h3
    subst h3
    exact ⟨⟨p.1, h1⟩, h2⟩
  have lfs : fs.length ≤ 4 := by
    rw [← hfs]
    have := List.length_filter_le (fun c => decide (lk cl c = some kd)) es
    have := hp2.length_eq
    have := hc.l
    simp at *
    omega
  have lgs : gs.length ≤ 8 := by
    rw [← hgs]
    have := List.length_filter_le (fun c => decide ((lk gv c).map (·.2) = some kd)) ds
    have := hp.length_eq
    have := hg.l
    simp at *
    omega
  rw [ex_ne_nil fun c h => deedC.lt (mgs c h).2]
  have B : ∀ (m1 : Mu) (k : Kd) (R : EK), Rg ha hb m1 → (∀ b m', L3.BodyOk tk gv cl k d b → Rg ha hb m' → Ch ha hb m1 m' → R b.enc m') → sp_body n [.ref ha, envE tk gv cl, .str k.s, .int (i - 1)] m1 R := fun m1 k Q' R' q' => ⟨ha, hb, tk, gv, cl, k, i - 1, d, rfl, by omega, hd, R', hc, hg, q'⟩
  have tail : ∀ m1 : Mu, Rg ha hb m1 → Ch ha hb m m1 → rhoNe (.lst (strD (fs.map sg))) (D.lst []) m1 fun x m' => ∃ c, x = D.bl c ∧ if c = true then
      rcLen [.lst (strD (fs.map sg))] m' fun x m1 => sp_next [D.ref ha, x] m1 fun y m2 => rhoIx (.lst (strD (fs.map sg))) y m2 fun x m1 => sp_body n [D.ref ha, envE tk gv cl, D.str kd.s, D.int (i - 1)] m1 fun x_1 m1 => Fz Q (D.tup [D.str (Str.ofString "set"), x, x_1]) m1
      else sp_leaf [D.ref ha, envE tk gv cl, D.str kd.s] m' (Fz Q) := by
    intro m1 R1 C1
    rw [ex_ne_nil fun c h => cellC.lt (mfs c h).2]
    by_cases e : fs = []
    · refine ⟨false, by simp [e], ?_⟩
      rw [if_neg (by simp)]
      exact ⟨ha, hb, tk, gv, cl, kd, rfl, R1, hc, fun b m2 hb2 R2 C2 => Fz.now (q b m2 hb2.body R2 (C1.trans C2))⟩
    · refine ⟨true, by simp [e], ?_⟩
      rw [if_pos rfl, ex_len_lst]
      have hl : 0 < fs.length := List.length_pos_iff.mpr e
      have hl2 : (strD (fs.map sg)).length = fs.length := by simp [strD]
      refine nx R1 (by rw [hl2]; omega) fun r m2 h0 h1 R2 C2 => ?_
      obtain ⟨c, hcc, hat⟩ := atI_sg h0 h1
      rw [ex_ix_lst, hat]
      refine ⟨_, rfl, B m2 kd _ R2 fun b m3 hb3 R3 C3 => ?_⟩
      exact Fz.now (q (.set c b) m3 (L3.BodyOk.set hc hb3 (mfs c hcc).1) R3 ((C1.trans C2).trans C3))
  by_cases e : gs = []
  · refine ⟨false, by simp [e], ?_⟩
    rw [if_neg (by simp)]
    exact tail m R (Ch.refl m)
  · refine ⟨true, by simp [e], ?_⟩
    rw [if_pos rfl]
    have hl : 0 < gs.length := List.length_pos_iff.mpr e
    have hl2 : (strD (gs.map sg)).length = gs.length := by simp [strD]
    refine nx R (by omega) fun r m1 h0 h1 R1 C1 => ?_
    simp only [ex_I]
    refine ⟨_, rfl, ?_⟩
    by_cases e2 : 0 < r
    · rw [decide_eq_true e2, if_pos rfl]
      try rw [ex_len_lst]
      refine nx R1 (by rw [hl2]; omega) fun r2 m2 h2 h3 R2 C2 => ?_
      obtain ⟨c, hcc, hat⟩ := atI_sg h2 h3
      obtain ⟨⟨j, hj⟩, _⟩ := mgs c hcc
      rw [ex_ix_lst, hat]
      refine ⟨_, rfl, ?_⟩
      walk_at "rl"
      rw [hj]
      walk_at "rl"
      refine B m2 j _ R2 fun b m3 hb3 R3 C3 => ?_
      exact Fz.now (q (.cal c b) m3 (L3.BodyOk.cal hg hb3 hj) R3 ((C1.trans C2).trans C3))
    · rw [decide_eq_false e2, if_neg (by simp)]
      exact tail m1 R1 C1
theorem F_reckons {k : Nat} (T : Txt K w mg) (n : Nat) (F : FnD P w K mg base "_law_body" k (sp_body n)) : FnD P w K mg base "_law_reckons" (k + 3) (sp_reckons n) := by
  have nd := sc__law_reckons.nd
  refine fnd_ofZ T.d__law_reckons sc__law_reckons (fun ds m Q ⟨_, _, _, _, _, _, _, _, e, _⟩ => by rw [e]; rfl) fun f cdv A outer s H E hr => ⟨_, (ass_cons (as_if (at_cmp (or_eq hr.units) (ae_var 2) ae_str (nomark _)) (ass_cons (as_asg (ae_ix hr.u1 (ae_lst (aa_cons ae_str (aa_cons ae_str aa_nil))) (ae_call ((F__law_next T).mono (by omega)) hr (aa_cons (ae_var 0) (aa_cons ae_int aa_nil)))) (ag_name 4 nd))
      (ass_cons (as_asg (ae_call (F.mono (by omega)) hr (aa_cons (ae_var 0) (aa_cons (ae_var 1) (aa_cons ae_str (aa_cons (ae_var 3) aa_nil))))) (ag_name 5 nd))
      (ass_one (as_ret (ae_if (at_cmp (or_eq hr.units) (ae_var 4) ae_str (nomark _)) (ae_tup (aa_cons (ae_var 4) (aa_cons (ae_call (F.mono (by omega)) hr (aa_cons (ae_var 0) (aa_cons (ae_var 1) (aa_cons ae_str (aa_cons (ae_var 3) aa_nil))))) (aa_cons (ae_var 5) aa_nil)))) (ae_tup (aa_cons (ae_var 4) (aa_cons (ae_var 5) aa_nil)))))))) ass_nil)
      (ass_cons (as_if (at_cmp (or_eq hr.units) (ae_var 2) ae_str (nomark _)) (ass_cons (as_asg (ae_ix hr.u1 (ae_lst (aa_cons ae_str (aa_cons ae_str (aa_cons ae_str (aa_cons ae_str aa_nil))))) (ae_call ((F__law_next T).mono (by omega)) hr (aa_cons (ae_var 0) (aa_cons ae_int aa_nil)))) (ag_name 4 nd))
      (ass_cons (as_asg (ae_dget2 hr.u1 (ae_disp (apps_cons ae_str ae_str (apps_cons ae_str ae_str (apps_cons ae_str ae_str apps_nil)))) (ae_var 4) ae_str) (ag_name 6 nd))
      (ass_cons (as_if (at_cmp (or_eq hr.units) (ae_var 6) ae_str (nomark _)) (ass_one (as_asg (ae_ix hr.u1 (ae_lst (aa_cons ae_str (aa_cons ae_str (aa_cons ae_str aa_nil)))) (ae_call ((F__law_next T).mono (by omega)) hr (aa_cons (ae_var 0) (aa_cons ae_int aa_nil)))) (ag_name 6 nd))) ass_nil)
      (ass_cons (as_asg (ae_call (F.mono (by omega)) hr (aa_cons (ae_var 0) (aa_cons (ae_var 1) (aa_cons (ae_var 6) (aa_cons (ae_var 3) aa_nil))))) (ag_name 7 nd))
      (ass_one (as_ret (ae_if (at_cmp (or_eq hr.units) (ae_var 4) ae_str (nomark _)) (ae_tup (aa_cons (ae_var 4) (aa_cons (ae_var 7) aa_nil))) (ae_tup (aa_cons (ae_var 4) (aa_cons (ae_var 7) (aa_cons (ae_call (F.mono (by omega)) hr (aa_cons (ae_var 0) (aa_cons (ae_var 1) (aa_cons (ae_var 6) (aa_cons (ae_var 3) aa_nil))))) aa_nil))))))))))) ass_nil)
      (ass_cons (as_asg (ae_ix hr.u1 (ae_lst (aa_cons ae_str (aa_cons ae_str (aa_cons ae_str (aa_cons ae_str (aa_cons ae_str aa_nil)))))) (ae_call ((F__law_next T).mono (by omega)) hr (aa_cons (ae_var 0) (aa_cons ae_int aa_nil)))) (ag_name 4 nd))
      (ass_cons (as_if (at_cmp (or_in1 hr.u65) (ae_var 4) (ae_tup (aa_cons ae_str (aa_cons ae_str aa_nil))) (by rfl)) (ass_one (as_ret (ae_tup (aa_cons (ae_var 4) (aa_cons (ae_call (F.mono (by omega)) hr (aa_cons (ae_var 0) (aa_cons (ae_var 1) (aa_cons ae_str (aa_cons (ae_var 3) aa_nil))))) aa_nil))))) ass_nil)
      (ass_one (as_ret (ae_tup (aa_cons (ae_var 4) (aa_cons (ae_call (F.mono (by omega)) hr (aa_cons (ae_var 0) (aa_cons (ae_var 1) (aa_cons ae_str (aa_cons (ae_var 3) aa_nil))))) (aa_cons (ae_call (F.mono (by omega)) hr (aa_cons (ae_var 0) (aa_cons (ae_var 1) (aa_cons ae_str (aa_cons (ae_var 3) aa_nil))))) aa_nil)))))))))), ?_⟩
  rintro _ m Q ⟨ha, hb, tk, gv, cl, kd, i, d, rfl, hi, hd, R, hc, hg, q⟩
  have B : ∀ (m1 : Mu) (k : Kd) (R : EK), Rg ha hb m1 → (∀ b m', BodyOk tk gv cl k d b → Rg ha hb m' → Ch ha hb m1 m' → R b.enc m') → sp_body n [.ref ha, envE tk gv cl, .str k.s, .int i] m1 R := fun m1 k Q' R' q' => ⟨ha, hb, tk, gv, cl, k, i, d, rfl, hi, hd, R', hc, hg, q'⟩
  cases kd with
  | l =>
    walk_at "rl"
    refine nx R (by omega) fun r m1 h0 h1 R1 C1 => ?_
    rcases lt2 h0 h1 with e | e <;> subst e
    · walk_at "rl"
      refine B m1 .l _ R1 fun b1 m2 hb1 R2 C2 => ?_
      try walk_at "rl"
      refine B m2 .n _ R2 fun b2 m3 hb2 R3 C3 => ?_
      exact Fz.now (q (.bin .put b2 b1) m3 (hb2.bin hb1 (by simp [W2.kind])) R3 ((C1.trans C2).trans C3))
    · walk_at "rl"
      refine B m1 .l _ R1 fun b1 m2 hb1 R2 C2 => ?_
      try walk_at "rl"
      exact Fz.now (q (.un .rst b1) m2 (hb1.un rfl rfl) R2 (C1.trans C2))
  | t =>
    walk_at "rl"
    refine nx R (by omega) fun r m1 h0 h1 R1 C1 => ?_
    rcases lt4 h0 h1 with e | e | e | e <;> subst e
    · walk_at "rl"
      refine B m1 .n _ R1 fun b1 m2 hb1 R2 C2 => ?_
      try walk_at "rl"
      refine B m2 .n _ R2 fun b2 m3 hb2 R3 C3 => ?_
      exact Fz.now (q (.bin .below b1 b2) m3 (hb1.bin hb2 (by simp [W2.kind])) R3 ((C1.trans C2).trans C3))
    · walk_at "rl"
      refine nx R1 (by omega) fun r m1' h0 h1 R1' C1' => ?_
      obtain ⟨k, hk⟩ := drawK h0 h1
      rw [ex_ix_lst]
      refine ⟨_, hk, ?_⟩
      refine B m1' k _ R1' fun b1 m2 hb1 R2 C2 => ?_
      try walk_at "rl"
      refine B m2 k _ R2 fun b2 m3 hb2 R3 C3 => ?_
      exact Fz.now (q (.bin .same b1 b2) m3 (hb1.bin hb2 (by simp [W2.kind])) R3 (((C1.trans C1').trans C2).trans C3))
    · walk_at "rl"
      refine B m1 .t _ R1 fun b1 m2 hb1 R2 C2 => ?_
      try walk_at "rl"
      exact Fz.now (q (.un .nt b1) m2 (hb1.un rfl rfl) R2 (C1.trans C2))
    · walk_at "rl"
      refine B m1 .t _ R1 fun b1 m2 hb1 R2 C2 => ?_
      try walk_at "rl"
      refine B m2 .t _ R2 fun b2 m3 hb2 R3 C3 => ?_
      exact Fz.now (q (.bin .and b1 b2) m3 (hb1.bin hb2 (by simp [W2.kind])) R3 ((C1.trans C2).trans C3))
  | n =>
    walk_at "rl"
    refine nx R (by omega) fun r m1 h0 h1 R1 C1 => ?_
    rcases lt5 h0 h1 with e | e | e | e | e <;> subst e
    · walk_at "rl"
      refine B m1 .n _ R1 fun b1 m2 hb1 R2 C2 => ?_
      try walk_at "rl"
      refine B m2 .n _ R2 fun b2 m3 hb2 R3 C3 => ?_
      exact Fz.now (q (.bin .plus b1 b2) m3 (hb1.bin hb2 (by simp [W2.kind])) R3 ((C1.trans C2).trans C3))
    · walk_at "rl"
      refine B m1 .n _ R1 fun b1 m2 hb1 R2 C2 => ?_
      try walk_at "rl"
      refine B m2 .n _ R2 fun b2 m3 hb2 R3 C3 => ?_
      exact Fz.now (q (.bin .less b1 b2) m3 (hb1.bin hb2 (by simp [W2.kind])) R3 ((C1.trans C2).trans C3))
    · walk_at "rl"
      refine B m1 .n _ R1 fun b1 m2 hb1 R2 C2 => ?_
      try walk_at "rl"
      refine B m2 .n _ R2 fun b2 m3 hb2 R3 C3 => ?_
      exact Fz.now (q (.bin .times b1 b2) m3 (hb1.bin hb2 (by simp [W2.kind])) R3 ((C1.trans C2).trans C3))
    · walk_at "rl"
      refine B m1 .l _ R1 fun b1 m2 hb1 R2 C2 => ?_
      try walk_at "rl"
      exact Fz.now (q (.un .fst b1) m2 (hb1.un rfl rfl) R2 (C1.trans C2))
    · walk_at "rl"
      refine B m1 .l _ R1 fun b1 m2 hb1 R2 C2 => ?_
      try walk_at "rl"
      exact Fz.now (q (.un .many b1) m2 (hb1.un rfl rfl) R2 (C1.trans C2))
/-- deep < n -/
theorem F__law_body (T : Txt K w mg) : ∀ n : Nat, FnD P w K mg base "_law_body" (4 * n + 4) (sp_body n)
  | 0 => fnd_never T.d__law_body sc__law_body fun ds m Q ⟨_, _, _, _, _, _, _, _, _, _, h, _⟩ => by omega
  | n + 1 => by
    have nd := sc__law_body.nd
    have F := F__law_body T n
    have G := F_call T n F
    have Rk := F_reckons T n F
    refine fnd_ofZ T.d__law_body sc__law_body (fun ds m Q ⟨_, _, _, _, _, _, _, _, e, _⟩ => by rw [e]; rfl) fun f cdv A outer s H E hr => ⟨_, (ass_cons (as_asg (ae_call ((F__law_next T).mono (by omega)) hr (aa_cons (ae_var 0) (aa_cons ae_int aa_nil))) (ag_name 4 nd))
      (ass_cons (as_if (AW.t (aw_or (at_cmp (or_eq hr.units) (ae_var 3) ae_int (nomark _)) (aw_or1 (at_cmp or_lt (ae_var 4) ae_int (nomark _))))) (ass_one (as_ret (ae_call ((F__law_leaf T).mono (by omega)) hr (aa_cons (ae_var 0) (aa_cons (ae_var 1) (aa_cons (ae_var 2) aa_nil)))))) ass_nil)
      (ass_cons (as_if (at_cmp or_lt (ae_var 4) ae_int (nomark _)) (ass_one (as_ret (ae_call (G.mono (by omega)) hr (aa_cons (ae_var 0) (aa_cons (ae_var 1) (aa_cons (ae_var 2) (aa_cons (ae_var 3) aa_nil))))))) ass_nil)
      (ass_cons (as_if (at_cmp (or_eq hr.units) (ae_var 4) ae_int (nomark _)) (ass_cons (as_asg (ae_ix hr.u1 (ae_lst (aa_cons ae_str (aa_cons ae_str (aa_cons ae_str aa_nil)))) (ae_call ((F__law_next T).mono (by omega)) hr (aa_cons (ae_var 0) (aa_cons ae_int aa_nil)))) (ag_name 5 nd))
      (ass_one (as_ret (ae_tup (aa_cons ae_str (aa_cons (ae_call (F.mono (by omega)) hr (aa_cons (ae_var 0) (aa_cons (ae_var 1) (aa_cons (ae_var 5) (aa_cons (ae_op or_sub (ae_var 3) ae_int) aa_nil))))) (aa_cons (ae_call (F.mono (by omega)) hr (aa_cons (ae_var 0) (aa_cons (ae_var 1) (aa_cons (ae_var 2) (aa_cons (ae_op or_sub (ae_var 3) ae_int) aa_nil))))) aa_nil))))))) ass_nil)
      (ass_cons (as_if (at_cmp (or_eq hr.units) (ae_var 4) ae_int (nomark _)) (ass_cons (as_asg (ae_lst (aa_cons (ae_call (F.mono (by omega)) hr (aa_cons (ae_var 0) (aa_cons (ae_var 1) (aa_cons (ae_var 2) (aa_cons (ae_op or_sub (ae_var 3) ae_int) aa_nil))))) (aa_cons (ae_call (F.mono (by omega)) hr (aa_cons (ae_var 0) (aa_cons (ae_var 1) (aa_cons (ae_var 2) (aa_cons (ae_op or_sub (ae_var 3) ae_int) aa_nil))))) aa_nil))) (ag_name 6 nd))
      (ass_one (as_ret (ae_tup (aa_cons ae_str (aa_cons (ae_call (F.mono (by omega)) hr (aa_cons (ae_var 0) (aa_cons (ae_var 1) (aa_cons ae_str (aa_cons (ae_op or_sub (ae_var 3) ae_int) aa_nil))))) (aa_cons (ae_ix hr.u1 (ae_var 6) ae_int) (aa_cons (ae_ix hr.u1 (ae_var 6) ae_int) aa_nil)))))))) ass_nil)
      (ass_one (as_ret (ae_call (Rk.mono (by omega)) hr (aa_cons (ae_var 0) (aa_cons (ae_var 1) (aa_cons (ae_var 2) (aa_cons (ae_op or_sub (ae_var 3) ae_int) aa_nil)))))))))))), ?_⟩
    rintro _ m Q ⟨ha, hb, tk, gv, cl, kd, i, d, rfl, hi, hd, R, hc, hg, q⟩
    walk_at "rl"
    refine nx R (by omega) fun r m1 h0 h1 R1 C1 => ?_
    have leaf : ∀ m1 : Mu, Rg ha hb m1 → Ch ha hb m m1 → sp_leaf [.ref ha, envE tk gv cl, .str kd.s] m1 (Fz Q) := fun m1 R1 C1 =>
      ⟨ha, hb, tk, gv, cl, kd, rfl, R1, hc, fun b m2 hb2 R2 C2 => Fz.now (q b m2 hb2.body R2 (C1.trans C2))⟩
    by_cases hd0 : i = 0
    · rw [if_pos hd0]
      exact leaf m1 R1 C1
    rw [if_neg hd0]
    obtain ⟨e, rfl⟩ : ∃ e, d = e + 1 := ⟨d - 1, by omega⟩
    have B : ∀ (m1 : Mu) (k : Kd) (R : EK), Rg ha hb m1 → (∀ b m', L3.BodyOk tk gv cl k e b → Rg ha hb m' → Ch ha hb m1 m' → R b.enc m') → sp_body n [.ref ha, envE tk gv cl, .str k.s, .int (i - 1)] m1 R := fun m1 k Q' R' q' => ⟨ha, hb, tk, gv, cl, k, i - 1, e, rfl, by omega, by omega, R', hc, hg, q'⟩
    have lt : ∀ (x : Int) (m' : Mu) (R : EK), rhoLt (.int r) (.int x) m' R = R (.bl (decide (r < x))) m' := fun x m' R => ex_I
    rw [lt]
    refine ⟨_, rfl, ?_⟩
    by_cases c1 : r < 2
    · rw [decide_eq_true c1, if_pos rfl]
      exact leaf m1 R1 C1
    rw [decide_eq_false c1, if_neg (by simp), lt]
    refine ⟨_, rfl, ?_⟩
    by_cases c2 : r < 4
    · rw [decide_eq_true c2, if_pos rfl]
      exact ⟨ha, hb, tk, gv, cl, kd, i, e, rfl, by omega, by omega, R1, hc, hg, fun b m2 hb2 R2 C2 => Fz.now (q b m2 hb2 R2 (C1.trans C2))⟩
    rw [decide_eq_false c2, if_neg (by simp), ex_eq_int]
    refine ⟨_, rfl, ?_⟩
    by_cases c3 : r = 4
    · rw [decide_eq_true c3, if_pos rfl]
      refine nx R1 (by omega) fun r m1' h0 h1 R1' C1' => ?_
      obtain ⟨k, hk⟩ := drawK h0 h1
      rw [ex_ix_lst]
      refine ⟨_, hk, ?_⟩
      refine B m1' k _ R1' fun b1 m2 hb1 R2 C2 => ?_
      refine B m2 kd _ R2 fun b2 m3 hb2 R3 C3 => ?_
      exact Fz.now (q (.bin .thn b1 b2) m3 (hb1.bin hb2 rfl) R3 (((C1.trans C1').trans C2).trans C3))
    rw [decide_eq_false c3, if_neg (by simp), ex_eq_int]
    refine ⟨_, rfl, ?_⟩
    by_cases c4 : r = 5
    · rw [decide_eq_true c4, if_pos rfl]
      refine B m1 kd _ R1 fun b1 m2 hb1 R2 C2 => ?_
      refine B m2 kd _ R2 fun b2 m3 hb2 R3 C3 => ?_
      refine B m3 .t _ R3 fun b3 m4 hb3 R4 C4 => ?_
      exact Fz.now (q (.ite b3 b1 b2) m4 (hb3.ite hb1 hb2) R4 (((C1.trans C2).trans C3).trans C4))
    rw [decide_eq_false c4, if_neg (by simp)]
    exact ⟨ha, hb, tk, gv, cl, kd, i - 1, e, rfl, by omega, by omega, R1, hc, hg, fun b m2 hb2 R2 C2 => Fz.now (q b m2 hb2 R2 (C1.trans C2))⟩
end K01
/-! the mixing, as in gen/Gin.tpl. -/
namespace K01
open PySem PySem.Spec PyProof.Rows L2 L3
variable {P : Program} {w : World} {K : PySem.W.Frag} {mg : Str → Option Value} {base : Heap}
/-- the seed, and that all else stays -/
def sp_mixC : SpD := fun ds m Q => ∃ (ns : List Int) (s0 : Int), ds = [.fl ns, .int s0] ∧ ∀ ha hb m', Rg ha hb m' → m ha = none → m hb = none → Ch ha hb m m' → Q (.ref ha) m'
section
local macro_rules | `(tactic| walk_at "rg") => `(tactic| simp only [ aMaxD, isi_enc, ex_maxd0, ex_maxd1, ex_maxd2, ex_maxd3, ex_sum0, ex_sum1, ex_sum2, ex_sum3, aFlI, aLstM, D.fl.injEq, ex_max2, gSubD, List.length_map, aRet, aRetN, aDrop, aIfS, aSeq, aNext, aAsg, gNm, gTupD, gConsD, gNilD, aFor, ex_var0, ex_varS, aC, aOp, aCall, aCons, aNil, aTup, aLst, aB, aAnd, aOr, aNot, aAndV, aOrV, aNotV, aIf, aNeg, aChain, aKix, aKGet1, aKGet2, aDGet1, aDGet2, aNoPart, aPart, aSl, aList, aTupI, aStrI, aZipS, aYes, aLc, aNever, aBreak, aCont, forGo, lcGo,
  isi_str_str, isi_str_int, isi_str_bool, isi_str_tuple, isi_str_list, isi_int_str, isi_int_int, isi_int_bool, isi_int_tuple, isi_int_list, isi_bl_str, isi_bl_int, isi_bl_bool, isi_bl_tuple, isi_bl_list, isi_non_str, isi_non_int, isi_non_bool, isi_non_tuple, isi_non_list, isi_tup_str, isi_tup_int, isi_tup_bool, isi_tup_tuple, isi_tup_list, isi_lst_str, isi_lst_int, isi_lst_bool, isi_lst_tuple, isi_lst_list, isi_dct_str, isi_dct_int, isi_dct_bool, isi_dct_tuple, isi_dct_list, isi2_str, isi2_int, isi2_bl, isi2_non, isi2_tup, isi2_lst, isi2_dct, Option.getD_some, Option.getD_none, D.isNon, sz_0, sz_1, sz_2, sz_3, sz_4, sz_5, sz_6, sz_7, sz_8, sz_9, sz_10, sz_11, sz_12, sz_13, sz_14, sz_15, sz_16, sg_len, ex_in_sg, ex_len_str, ex_len_tup, ex_len_lst, ex_eq_str, ex_ne_str, ex_eq_int, ex_ne_int, ex_eq_ns, ex_eq_sn, ex_eq_nn, ex_ne_ns, ex_ne_sn, ex_ne_nn, ex_I, ex_add_int, ex_add_str, ex_add_tup, ex_add_lst, ex_sub, ex_mul, ex_mod, ex_div, ex_isN, ex_notN, ex_ix_tup, ex_ix_lst, ex_sl_tup, ex_sl_lst, ex_sl_str, ex_tuple_lst,
  ofs_inj, String.reduceEq, atI_0, atI_1, atI_2, atI_3, cut_1, cut_13, startD, wipeD, List.map_cons, List.map_nil, List.length_cons, List.length_nil, List.cons_append, List.nil_append, List.replicate_succ, List.replicate_zero, List.set_cons_zero, List.set_cons_succ, Nat.reduceAdd, Nat.reduceSub, Nat.sub_self,
  D.bl.injEq, D.int.injEq, D.str.injEq, D.tup.injEq, D.lst.injEq, D.dct.injEq, Option.some.injEq, List.cons.injEq, and_assoc, Int.cast_ofNat_Int, Int.reduceAdd, Int.reduceSub, Int.reduceMul, Int.reduceNeg, Int.reduceEq, Int.reduceLT, Int.reduceLE, Int.reduceNe, eq_self, exists_eq_left, exists_eq_left', exists_eq_right, exists_eq, exists_const, exists_false, false_and, and_false, false_or, or_false, true_and, and_true, if_true, if_false, Bool.false_eq_true, Bool.not_true, Bool.not_false, ite_true, ite_false, reduceCtorEq, decide_true, decide_false, decide_eq_true_eq, exists_and_left, Bool.not_eq_true])

theorem F__law_mixC (T : Txt K w mg) : FnD P w K mg base "_law_mix" 1 sp_mixC := by
  have nd := sc__law_mix.nd
  refine fnd_ofZ T.d__law_mix sc__law_mix (fun ds m Q ⟨_, _, e, _⟩ => by rw [e]; rfl) fun f cdv A outer s H E hr => ⟨_, (ass_cons (as_asg (ae_var 1) (ag_name 2 nd))
      (ass_cons (as_for PassesOwn.never rfl (ai_fl (ae_var 0)) (ag_name 3 nd)
      (ass_one (as_asg (ae_op or_mod (ae_op or_add (ae_op or_add (ae_op or_mul (ae_var 2) ae_int) (ae_op or_mod (ae_var 3) ae_int)) ae_int) ae_int) (ag_name 2 nd))))
      (ass_one (as_ret (ae_lstM (aa_cons (ae_var 2) (aa_cons (ae_callTy cr_listM T.b_list boot_list (aa_cons (ae_var 0) aa_nil)) (aa_cons ae_int aa_nil)))))))), ?_⟩
  rintro _ m Q ⟨ns, s0, rfl, q⟩
  walk_at "rg"
  refine for_inv (fun rest δ m' => m' = m ∧ (∀ d ∈ rest, ∃ i : Int, d = .int i) ∧ ∃ (x : Int) (o : Option D), δ = [some (.fl ns), some (.int s0), some (.int x), o]) ?_ ?_ ⟨rfl, fun d hd => by obtain ⟨i, _, rfl⟩ := List.mem_map.mp hd; exact ⟨i, rfl⟩, _, _, rfl⟩
  · rintro d rest δ _ ⟨rfl, h, x, o, rfl⟩ nx hnx
    obtain ⟨i, rfl⟩ := h d List.mem_cons_self
    walk_at "rg"
    exact ⟨.inr (by decide), hnx _ _ ⟨rfl, fun d hd => h d (List.mem_cons_of_mem _ hd), _, _, rfl⟩⟩
  · rintro δ _ ⟨rfl, _, x, o, rfl⟩
    walk_at "rg"
    refine ⟨.fl ns, ns.map D.int, rfl, .inr (.inr ⟨ns, rfl, rfl⟩), fun hb h1 => ?_⟩
    walk_at "rg"
    intro ha h2
    have ne : ha ≠ hb := fun z => by subst z; rw [Mu.put_same] at h2; cases h2
    have h3 := h2
    rw [Mu.put_ne ne] at h3
    exact Fz.now (q ha hb _ ⟨ne, _, _, ns, Mu.put_same, by rw [Mu.put_ne ne.symm, Mu.put_same]⟩ h3 h1 fun x n1 n2 => by rw [Mu.put_ne n1, Mu.put_ne n2])
end
end K01
/-! alike, what is called, what is used. -/
namespace K01
open PySem PySem.Spec PyProof.Rows L2 L3
variable {P : Program} {w : World} {K : PySem.W.Frag} {mg : Str → Option Value} {base : Heap}
local macro_rules | `(tactic| walk_at "ru") => `(tactic| simp only [ aLM, aLstM, isi_enc, ex_in_tup, inD_nil, inD_cons, eqD_str, fl_str, List.all_cons, all_fl_nil, Bool.and_true, Bool.or_false, Bool.false_or, Bool.true_or, Bool.or_true, Bool.and_self, Bool.false_bne, Bool.false_xor, Bool.true_xor, W1.s, W2.s, aRet, aRetN, aDrop, aIfS, aSeq, aNext, aAsg, gNm, gTupD, gConsD, gNilD, aFor, ex_var0, ex_varS, aC, aOp, aCall, aCons, aNil, aTup, aLst, aB, aAnd, aOr, aNot, aAndV, aOrV, aNotV, aIf, aNeg, aChain, aKix, aKGet1, aKGet2, aDGet1, aDGet2, aNoPart, aPart, aSl, aList, aTupI, aStrI, aZipS, aYes, aLc, aNever, aBreak, aCont, forGo, lcGo,
  isi_str_str, isi_str_int, isi_str_bool, isi_str_tuple, isi_str_list, isi_int_str, isi_int_int, isi_int_bool, isi_int_tuple, isi_int_list, isi_bl_str, isi_bl_int, isi_bl_bool, isi_bl_tuple, isi_bl_list, isi_non_str, isi_non_int, isi_non_bool, isi_non_tuple, isi_non_list, isi_tup_str, isi_tup_int, isi_tup_bool, isi_tup_tuple, isi_tup_list, isi_lst_str, isi_lst_int, isi_lst_bool, isi_lst_tuple, isi_lst_list, isi_dct_str, isi_dct_int, isi_dct_bool, isi_dct_tuple, isi_dct_list, isi2_str, isi2_int, isi2_bl, isi2_non, isi2_tup, isi2_lst, isi2_dct, Option.getD_some, Option.getD_none, D.isNon, sz_0, sz_1, sz_2, sz_3, sz_4, sz_5, sz_6, sz_7, sz_8, sz_9, sz_10, sz_11, sz_12, sz_13, sz_14, sz_15, sz_16, sg_len, ex_in_sg, ex_len_str, ex_len_tup, ex_len_lst, ex_eq_str, ex_ne_str, ex_eq_int, ex_ne_int, ex_eq_ns, ex_eq_sn, ex_eq_nn, ex_ne_ns, ex_ne_sn, ex_ne_nn, ex_I, ex_add_int, ex_add_str, ex_add_tup, ex_add_lst, ex_sub, ex_mul, ex_mod, ex_div, ex_isN, ex_notN, ex_ix_tup, ex_ix_lst, ex_sl_tup, ex_sl_lst, ex_sl_str, ex_tuple_lst,
  ofs_inj, String.reduceEq, atI_0, atI_1, atI_2, atI_3, cut_1, cut_13, startD, wipeD, List.map_cons, List.map_nil, List.length_cons, List.length_nil, List.cons_append, List.nil_append, List.replicate_succ, List.replicate_zero, List.set_cons_zero, List.set_cons_succ, Nat.reduceAdd, Nat.reduceSub, Nat.sub_self,
  D.bl.injEq, D.int.injEq, D.str.injEq, D.tup.injEq, D.lst.injEq, D.dct.injEq, Option.some.injEq, List.cons.injEq, and_assoc, Int.cast_ofNat_Int, Int.reduceAdd, Int.reduceSub, Int.reduceMul, Int.reduceNeg, Int.reduceEq, Int.reduceLT, Int.reduceLE, Int.reduceNe, eq_self, exists_eq_left, exists_eq_left', exists_eq_right, exists_eq, exists_const, exists_false, false_and, and_false, false_or, or_false, true_and, and_true, if_true, if_false, Bool.false_eq_true, Bool.not_true, Bool.not_false, ite_true, ite_false, reduceCtorEq, decide_true, decide_false, decide_eq_true_eq, exists_and_left, Bool.not_eq_true])

def sgD (cs : List Nat) : List D := strD (cs.map sg)
theorem sgD_len (cs : List Nat) : (sgD cs).length = cs.length := by simp [sgD, strD]
theorem sgD_app (a b : List Nat) : sgD a ++ sgD b = sgD (a ++ b) := by simp [sgD, strD]
/-- one more list behind the one at p -/
theorem ext_at {m : Mu} {p : Addr} {a b : List Nat} {R : EK} (h : a.length + b.length ≤ 100000) (q : R .non (m.put p (.lst (sgD (a ++ b))))) : rhoExtend (.ref p) [.lst (sgD b)] (m.put p (.lst (sgD a))) R :=
  ⟨p, _, _, _, rfl, Mu.put_same, rfl, rfl, by rw [sgD_len, sgD_len]; exact szl h, by rw [Mu.put_put, sgD_app]; exact q⟩
def sp_used (n : Nat) : SpD := fun ds m Q => ∃ b : Bd, ds = [b.enc] ∧ b.dep ≤ n ∧ b.words ≤ 100 ∧ Q (.lst (sgD b.used)) m
theorem lst_at_put {m : Mu} {p : Addr} {ds : List D} : ∃ es, lstOf (m.put p (.lst ds)) (.ref p) = some es := ⟨ds, by simp [lstOf, Mu.put_same]⟩
theorem used_step {n : Nat} {m : Mu} {p : Addr} {a : Bd} {l : List Nat} {R : EK} (hd : a.dep ≤ n) (hw : a.words ≤ 100) (hl : l.length ≤ 1000) (q : R .non (m.put p (.lst (sgD (l ++ a.used))))) :
    (∃ es, lstOf (m.put p (.lst (sgD l))) (.ref p) = some es) ∧ sp_used n [a.enc] (m.put p (.lst (sgD l))) fun x m1 => rhoExtend (.ref p) [x] m1 R :=
  ⟨lst_at_put, a, rfl, hd, hw, ext_at (by have := a.used_len; omega) q⟩
theorem F__law_used (T : Txt K w mg) : ∀ n : Nat, FnD P w K mg base "_law_used" (n + 1) (sp_used n)
  | 0 => fnd_never T.d__law_used sc__law_used fun ds m Q ⟨b, _, h, _⟩ => by have := b.dep_pos; omega
  | n + 1 => by
    have nd := sc__law_used.nd
    have F := F__law_used T n
    refine fnd_ofZ T.d__law_used sc__law_used (fun ds m Q ⟨_, e, _⟩ => by rw [e]; rfl) fun f cdv A outer s H E hr => ⟨_, (ass_cons (as_asg (ae_if (at_cmp (or_in1 hr.u65) (ae_ix hr.u1 (ae_var 0) ae_int) (ae_tup (aa_cons ae_str (aa_cons ae_str aa_nil))) (by rfl)) (ae_lstM (aa_cons (ae_ix hr.u1 (ae_var 0) ae_int) aa_nil)) (ae_lstM aa_nil)) (ag_name 1 nd))
      (ass_cons (as_for PassesOwn.never rfl (ai_tup (ae_sl (ae_var 0) (ao_some ae_int) ao_none)) (ag_name 2 nd)
      (ass_one (as_if (at_val (ae_callB cr_isi T.b_isinstance boot_isinstance (aa_cons (ae_var 2) (aa_cons (ae_ty T.b_tuple boot_tuple) aa_nil)))) (ass_one (as_expr (ae_lm PySem.F.slot_list_extend PySem.F.type_list_extend mt_extendD (ae_var 1) (aa_cons (ae_call (F.mono (by omega)) hr (aa_cons (ae_var 2) aa_nil)) aa_nil)))) ass_nil)))
      (ass_one (as_ret (ae_var 1))))), ?_⟩
    rintro _ m Q ⟨b, rfl, hd, hw, q⟩
    cases b with
    | num i =>
      simp only [Bd.enc]
      walk_at "ru"
      intro p hp
      exact fin_lst hp q
    | tru i =>
      simp only [Bd.enc]
      walk_at "ru"
      intro p hp
      exact fin_lst hp q
    | emp =>
      simp only [Bd.enc]
      walk_at "ru"
      intro p hp
      exact fin_lst hp q
    | arg =>
      simp only [Bd.enc]
      walk_at "ru"
      intro p hp
      exact fin_lst hp q
    | cel c =>
      simp only [Bd.enc]
      walk_at "ru"
      intro p hp
      exact fin_lst hp q
    | un wd a =>
      have hd2 := hd
      have hw2 := hw
      simp only [Bd.dep] at hd2
      simp only [Bd.words] at hw2
      cases wd
      all_goals simp only [Bd.enc, W1.s, W2.s]
      all_goals walk_at "ru"
      all_goals intro p hp
      all_goals refine used_step (l := []) (a := a) (by omega) (by omega) (by simp) ?_
      all_goals exact fin_lst hp q
    | bin wd a b =>
      have hd2 := hd
      have hw2 := hw
      simp only [Bd.dep] at hd2
      simp only [Bd.words] at hw2
      cases wd
      all_goals simp only [Bd.enc, W1.s, W2.s]
      all_goals walk_at "ru"
      all_goals intro p hp
      all_goals refine used_step (l := []) (a := a) (by omega) (by omega) (by simp) ?_
      all_goals refine used_step (l := ([] ++ a.used)) (a := b) (by omega) (by omega) (by simp; try (have := a.used_len; omega)) ?_
      all_goals exact fin_lst hp q
    | ite a b c =>
      have hd2 := hd
      have hw2 := hw
      simp only [Bd.dep] at hd2
      simp only [Bd.words] at hw2
      simp only [Bd.enc]
      walk_at "ru"
      intro p hp
      refine used_step (l := []) (a := a) (by omega) (by omega) (by simp) ?_
      refine used_step (l := ([] ++ a.used)) (a := b) (by omega) (by omega) (by simp; try (have := a.used_len; have := b.used_len; omega)) ?_
      refine used_step (l := (([] ++ a.used) ++ b.used)) (a := c) (by omega) (by omega) (by simp; try (have := a.used_len; have := b.used_len; omega)) ?_
      exact fin_lst hp q
    | set c a =>
      have hd2 := hd
      have hw2 := hw
      simp only [Bd.dep] at hd2
      simp only [Bd.words] at hw2
      simp only [Bd.enc]
      walk_at "ru"
      intro p hp
      refine used_step (l := [c]) (a := a) (by omega) (by omega) (by simp) ?_
      exact fin_lst hp q
    | cal c a =>
      have hd2 := hd
      have hw2 := hw
      simp only [Bd.dep] at hd2
      simp only [Bd.words] at hw2
      simp only [Bd.enc]
      walk_at "ru"
      intro p hp
      refine used_step (l := []) (a := a) (by omega) (by omega) (by simp) ?_
      exact fin_lst hp q
end K01
/-! what is called. -/
namespace K01
open PySem PySem.Spec PyProof.Rows L2 L3
variable {P : Program} {w : World} {K : PySem.W.Frag} {mg : Str → Option Value} {base : Heap}
theorem ex_in_ref {m : Mu} {Q : EK} {p : Addr} {l : List Nat} {c : Nat} {b : Bool} (h : m p = some (.lst (sgD l))) : rhoIn b (.str (sg c)) (.ref p) m Q = Q (.bl (b ^^ decide (c ∈ l))) m := by
  have e1 : lstOf m (.ref p) = some (sgD l) := by simp [lstOf, h]
  have e2 : dctOf m (.ref p) = none := by simp [dctOf, h]
  rw [← inD_sg (cs := l)]
  refine propext ⟨?_, fun q => .inl ⟨sgD l, e1, .inl ⟨rfl, strD_flat l⟩, q⟩⟩
  rintro (⟨es, h, _, q⟩ | ⟨es, k, h, _⟩)
  · rw [e1] at h; cases h; exact q
  · rw [e2] at h; cases h
local macro_rules | `(tactic| walk_at "ru") => `(tactic| simp only [ aLM, aLstM, isi_enc, ex_in_tup, inD_nil, inD_cons, eqD_str, fl_str, List.all_cons, all_fl_nil, Bool.and_true, Bool.or_false, Bool.false_or, Bool.true_or, Bool.or_true, Bool.and_self, Bool.false_bne, Bool.false_xor, Bool.true_xor, W1.s, W2.s, aRet, aRetN, aDrop, aIfS, aSeq, aNext, aAsg, gNm, gTupD, gConsD, gNilD, aFor, ex_var0, ex_varS, aC, aOp, aCall, aCons, aNil, aTup, aLst, aB, aAnd, aOr, aNot, aAndV, aOrV, aNotV, aIf, aNeg, aChain, aKix, aKGet1, aKGet2, aDGet1, aDGet2, aNoPart, aPart, aSl, aList, aTupI, aStrI, aZipS, aYes, aLc, aNever, aBreak, aCont, forGo, lcGo,
  isi_str_str, isi_str_int, isi_str_bool, isi_str_tuple, isi_str_list, isi_int_str, isi_int_int, isi_int_bool, isi_int_tuple, isi_int_list, isi_bl_str, isi_bl_int, isi_bl_bool, isi_bl_tuple, isi_bl_list, isi_non_str, isi_non_int, isi_non_bool, isi_non_tuple, isi_non_list, isi_tup_str, isi_tup_int, isi_tup_bool, isi_tup_tuple, isi_tup_list, isi_lst_str, isi_lst_int, isi_lst_bool, isi_lst_tuple, isi_lst_list, isi_dct_str, isi_dct_int, isi_dct_bool, isi_dct_tuple, isi_dct_list, isi2_str, isi2_int, isi2_bl, isi2_non, isi2_tup, isi2_lst, isi2_dct, Option.getD_some, Option.getD_none, D.isNon, sz_0, sz_1, sz_2, sz_3, sz_4, sz_5, sz_6, sz_7, sz_8, sz_9, sz_10, sz_11, sz_12, sz_13, sz_14, sz_15, sz_16, sg_len, ex_in_sg, ex_len_str, ex_len_tup, ex_len_lst, ex_eq_str, ex_ne_str, ex_eq_int, ex_ne_int, ex_eq_ns, ex_eq_sn, ex_eq_nn, ex_ne_ns, ex_ne_sn, ex_ne_nn, ex_I, ex_add_int, ex_add_str, ex_add_tup, ex_add_lst, ex_sub, ex_mul, ex_mod, ex_div, ex_isN, ex_notN, ex_ix_tup, ex_ix_lst, ex_sl_tup, ex_sl_lst, ex_sl_str, ex_tuple_lst,
  ofs_inj, String.reduceEq, atI_0, atI_1, atI_2, atI_3, cut_1, cut_13, startD, wipeD, List.map_cons, List.map_nil, List.length_cons, List.length_nil, List.cons_append, List.nil_append, List.replicate_succ, List.replicate_zero, List.set_cons_zero, List.set_cons_succ, Nat.reduceAdd, Nat.reduceSub, Nat.sub_self,
  D.bl.injEq, D.int.injEq, D.str.injEq, D.tup.injEq, D.lst.injEq, D.dct.injEq, Option.some.injEq, List.cons.injEq, and_assoc, Int.cast_ofNat_Int, Int.reduceAdd, Int.reduceSub, Int.reduceMul, Int.reduceNeg, Int.reduceEq, Int.reduceLT, Int.reduceLE, Int.reduceNe, eq_self, exists_eq_left, exists_eq_left', exists_eq_right, exists_eq, exists_const, exists_false, false_and, and_false, false_or, or_false, true_and, and_true, if_true, if_false, Bool.false_eq_true, Bool.not_true, Bool.not_false, ite_true, ite_false, reduceCtorEq, decide_true, decide_false, decide_eq_true_eq, exists_and_left, Bool.not_eq_true])

def sp_calls (n : Nat) : SpD := fun ds m Q => ∃ b : Bd, ds = [b.enc] ∧ b.dep ≤ n ∧ b.words ≤ 100 ∧ ∀ cs : List Nat, (∀ c, c ∈ cs ↔ c ∈ b.calls) → cs.length ≤ b.words → Q (.lst (sgD cs)) m
def notIn (l : List Nat) (d : D) : Option D := if inD d (sgD l) = true then none else some d
theorem notIn_sg (l : List Nat) : ∀ cs : List Nat, (sgD cs).filterMap (notIn l) = sgD (cs.filter fun c => decide (c ∉ l))
  | [] => rfl
  | c :: cs => by
    show ((D.str (sg c)) :: sgD cs).filterMap (notIn l) = _
    rw [List.filterMap_cons, notIn_sg l cs, List.filter_cons]
    unfold notIn
    rw [show inD (.str (sg c)) (sgD l) = decide (c ∈ l) from inD_sg]
    by_cases h : c ∈ l
    · simp [h]
    · simp [h, sgD, strD]
theorem calls_step {n : Nat} {m : Mu} {p : Addr} {a : Bd} {l : List Nat} {R : EK} {o0 o2 : Option D} (hd : a.dep ≤ n) (hw : a.words ≤ 100) (hl : l.length ≤ 1000) (q : ∀ l2 : List Nat, (∀ c, c ∈ l2 ↔ c ∈ l ∨ c ∈ a.calls) → l2.length ≤ l.length + a.words → R .non (m.put p (.lst (sgD l2)))) :
    (∃ es, lstOf (m.put p (.lst (sgD l))) (.ref p) = some es) ∧ sp_calls n [a.enc] (m.put p (.lst (sgD l))) fun d m1 => ∃ ds, d = .lst ds ∧ ds.length ≤ sizeLine ∧
      lcGo (gNm 3) (aB (aOp (rhoIn true) (aVar 3) (aVar 1))) (aVar 3) [o0, some (.ref p), o2, none] (fun x m1 => rhoExtend (.ref p) [x] m1 R) ds [] m1 := by
  refine ⟨lst_at_put, a, rfl, hd, hw, fun cs hcs hlen => ⟨_, rfl, by rw [sgD_len]; exact szl (by omega), lc_pure (notIn l) (fun d hd R q => ?_) ?_⟩⟩
  · obtain ⟨x, hx, rfl⟩ := List.mem_map.mp hd
    obtain ⟨c, _, rfl⟩ := List.mem_map.mp hx
    unfold notIn at q
    rw [show inD (.str (sg c)) (sgD l) = decide (c ∈ l) from inD_sg] at q
    simp only [lcStep]
    walk_at "ru"
    rw [ex_in_ref Mu.put_same]
    by_cases h : c ∈ l
    · rw [decide_eq_true h, if_pos rfl] at q
      rw [decide_eq_true h]
      walk_at "ru"
      exact q
    · rw [decide_eq_false h, if_neg (by simp)] at q
      rw [decide_eq_false h]
      walk_at "ru"
      exact q
  · rw [List.nil_append, notIn_sg]
    have hf : (cs.filter fun c => decide (c ∉ l)).length ≤ cs.length := List.length_filter_le _ _
    refine ext_at (by omega) (q _ (fun c => ?_) (by rw [List.length_append]; omega))
    rw [List.mem_append, List.mem_filter, hcs]
    by_cases h : c ∈ l <;> simp [h]
theorem F__law_calls (T : Txt K w mg) : ∀ n : Nat, FnD P w K mg base "_law_calls" (n + 1) (sp_calls n)
  | 0 => fnd_never T.d__law_calls sc__law_calls fun ds m Q ⟨b, _, h, _⟩ => by have := b.dep_pos; omega
  | n + 1 => by
    have nd := sc__law_calls.nd
    have F := F__law_calls T n
    refine fnd_ofZ T.d__law_calls sc__law_calls (fun ds m Q ⟨_, e, _⟩ => by rw [e]; rfl) fun f cdv A outer s H E hr => ⟨_, (ass_cons (as_asg (ae_if (at_cmp (or_eq hr.units) (ae_ix hr.u1 (ae_var 0) ae_int) ae_str (nomark _)) (ae_lstM (aa_cons (ae_ix hr.u1 (ae_var 0) ae_int) aa_nil)) (ae_lstM aa_nil)) (ag_name 1 nd))
      (ass_cons (as_for PassesOwn.never rfl (ai_tup (ae_sl (ae_var 0) (ao_some ae_int) ao_none)) (ag_name 2 nd)
      (ass_one (as_if (at_val (ae_callB cr_isi T.b_isinstance boot_isinstance (aa_cons (ae_var 2) (aa_cons (ae_ty T.b_tuple boot_tuple) aa_nil)))) (ass_one (as_expr (ae_lm PySem.F.slot_list_extend PySem.F.type_list_extend mt_extendD (ae_var 1) (aa_cons (ae_lc (own := [("_law_deed", 3)]) rfl nd (ai_list (ae_call (F.mono (by omega)) hr (aa_cons (ae_var 2) aa_nil))) (blkOk_by (own := [("_law_deed", 3)]) (by kernel_rfl)) (gg_name (i := 3) (by simp)) (fun _ _ _ _ _ => (pg_name (i := 3) nd rfl (Or.inl rfl))) (fun _ _ _ _ _ => (ats_one (at_cmp (or_nin hr.u65) (ae_var 3) (ae_var 1) (by rfl)))) (fun _ _ _ _ _ => (ae_var 3))) aa_nil)))) ass_nil)))
      (ass_one (as_ret (ae_var 1))))), ?_⟩
    rintro _ m Q ⟨b, rfl, hd, hw, q⟩
    cases b with
    | num i =>
      simp only [Bd.enc]
      walk_at "ru"
      intro p hp
      exact fin_lst hp (q [] (fun c => by simp [Bd.calls]) (by simp))
    | tru i =>
      simp only [Bd.enc]
      walk_at "ru"
      intro p hp
      exact fin_lst hp (q [] (fun c => by simp [Bd.calls]) (by simp))
    | emp =>
      simp only [Bd.enc]
      walk_at "ru"
      intro p hp
      exact fin_lst hp (q [] (fun c => by simp [Bd.calls]) (by simp))
    | arg =>
      simp only [Bd.enc]
      walk_at "ru"
      intro p hp
      exact fin_lst hp (q [] (fun c => by simp [Bd.calls]) (by simp))
    | cel c =>
      simp only [Bd.enc]
      walk_at "ru"
      intro p hp
      exact fin_lst hp (q [] (fun c => by simp [Bd.calls]) (by simp))
    | un wd a =>
      have hd2 := hd
      have hw2 := hw
      simp only [Bd.dep] at hd2
      simp only [Bd.words] at hw2
      cases wd
      all_goals simp only [Bd.enc, W1.s, W2.s]
      all_goals walk_at "ru"
      all_goals intro p hp
      all_goals refine calls_step (l := []) (a := a) (by omega) (by omega) (by first | (simp; done) | omega) fun l1 m1 n1 => ?_
      all_goals simp only [List.length_nil, List.not_mem_nil, false_or] at m1 n1
      all_goals exact fin_lst hp (q l1 (fun c => by simp [Bd.calls, m1, or_assoc]) (by simp only [Bd.words]; omega))
    | bin wd a b =>
      have hd2 := hd
      have hw2 := hw
      simp only [Bd.dep] at hd2
      simp only [Bd.words] at hw2
      cases wd
      all_goals simp only [Bd.enc, W1.s, W2.s]
      all_goals walk_at "ru"
      all_goals intro p hp
      all_goals refine calls_step (l := []) (a := a) (by omega) (by omega) (by first | (simp; done) | omega) fun l1 m1 n1 => ?_
      all_goals simp only [List.length_nil, List.not_mem_nil, false_or] at m1 n1
      all_goals try walk_at "ru"
      all_goals refine calls_step (l := l1) (a := b) (by omega) (by omega) (by first | (simp; done) | omega) fun l2 m2 n2 => ?_
      all_goals exact fin_lst hp (q l2 (fun c => by simp [Bd.calls, m1, m2, or_assoc]) (by simp only [Bd.words]; omega))
    | ite a b c =>
      have hd2 := hd
      have hw2 := hw
      simp only [Bd.dep] at hd2
      simp only [Bd.words] at hw2
      simp only [Bd.enc]
      walk_at "ru"
      intro p hp
      refine calls_step (l := []) (a := a) (by omega) (by omega) (by first | (simp; done) | omega) fun l1 m1 n1 => ?_
      simp only [List.length_nil, List.not_mem_nil, false_or] at m1 n1
      try walk_at "ru"
      refine calls_step (l := l1) (a := b) (by omega) (by omega) (by first | (simp; done) | omega) fun l2 m2 n2 => ?_
      try walk_at "ru"
      refine calls_step (l := l2) (a := c) (by omega) (by omega) (by first | (simp; done) | omega) fun l3 m3 n3 => ?_
      exact fin_lst hp (q l3 (fun c => by simp [Bd.calls, m1, m2, m3, or_assoc]) (by simp only [Bd.words]; omega))
    | set c a =>
      have hd2 := hd
      have hw2 := hw
      simp only [Bd.dep] at hd2
      simp only [Bd.words] at hw2
      simp only [Bd.enc]
      walk_at "ru"
      intro p hp
      refine calls_step (l := []) (a := a) (by omega) (by omega) (by first | (simp; done) | omega) fun l1 m1 n1 => ?_
      simp only [List.length_nil, List.not_mem_nil, false_or] at m1 n1
      exact fin_lst hp (q l1 (fun c => by simp [Bd.calls, m1, or_assoc]) (by simp only [Bd.words]; omega))
    | cal d a =>
      have hd2 := hd
      have hw2 := hw
      simp only [Bd.dep] at hd2
      simp only [Bd.words] at hw2
      simp only [Bd.enc]
      walk_at "ru"
      intro p hp
      refine calls_step (l := [d]) (a := a) (by omega) (by omega) (by first | (simp; done) | omega) fun l1 m1 n1 => ?_
      simp only [List.length_cons, List.length_nil, List.mem_singleton] at m1 n1
      exact fin_lst hp (q l1 (fun c => by simp [Bd.calls, m1, or_assoc]) (by simp only [Bd.words]; omega))
end K01
/-! the generator of parts. -/
namespace K01
open PySem PySem.Spec PyProof.Rows L2 L3
variable {P : Program} {w : World} {K : PySem.W.Frag} {mg : Str → Option Value} {base : Heap}
def sp_part : SpD := fun ds m Q => ∃ (ha hb : Addr) (nm : Nat) (o : D) (own others : List Nat) (sg : Gv) (cl : Cv), ds = [.ref ha, .str (L3.sg nm), o, .lst (strD (others.map L3.sg)), .dct (gvD sg), .dct (cvD cl)] ∧ lstOf m o = some (strD (own.map L3.sg)) ∧ Rg ha hb m ∧
  partC nm ∧ (own ++ others).Nodup ∧ (own ++ others).length ≤ 8 ∧ (∀ c ∈ own ++ others, c ∈ sg.map (·.1)) ∧ GvOk sg ∧ CvOk cl ∧ (∀ p, o = .ref p → p ≠ ha ∧ p ≠ hb) ∧ ∀ p m', PartOk nm own others sg cl p → Rg ha hb m' → Ch ha hb m m' → Q p.enc m'
local macro_rules | `(tactic| walk_at "rl") => `(tactic| simp only [ aDisp, aDispW, pairsD, ex_disp, dkOf, dctOf_dct, getK_nil, putD_nil, putD_cons, mergeD_nil, mergeD_cons, inD_nil, inD_cons, eqD_str, fl_str, List.all_cons, all_fl_nil, Bool.and_true, Bool.or_false, Bool.false_or, Bool.true_or, Bool.or_true, Bool.and_self, Bool.false_bne, Bool.false_xor, Bool.true_xor, atI_4, lcStep, env_takes, env_deeds, env_cells, aLM, aLstM, ex_in_tup, getK_nil, getK_cons, getK_cv, getK_gv, keyD_str, ex_in_dcts, ex_ix_dcts, Kd.s_inj, Kd.s_t, Kd.s_n, Kd.s_l, Kd.s_ne, Option.map_some, Option.map_none, Sum.inr.injEq, ex_mul_lst, Int.reduceToNat, Nat.reduceMul, Nat.reduceLeDiff, List.flatten_cons, List.flatten_nil, aRet, aRetN, aDrop, aIfS, aSeq, aNext, aAsg, gNm, gTupD, gConsD, gNilD, aFor, ex_var0, ex_varS, aC, aOp, aCall, aCons, aNil, aTup, aLst, aB, aAnd, aOr, aNot, aAndV, aOrV, aNotV, aIf, aNeg, aChain, aKix, aKGet1, aKGet2, aDGet1, aDGet2, aNoPart, aPart, aSl, aList, aTupI, aStrI, aZipS, aYes, aLc, aNever, aBreak, aCont, forGo, lcGo,
  isi_str_str, isi_str_int, isi_str_bool, isi_str_tuple, isi_str_list, isi_int_str, isi_int_int, isi_int_bool, isi_int_tuple, isi_int_list, isi_bl_str, isi_bl_int, isi_bl_bool, isi_bl_tuple, isi_bl_list, isi_non_str, isi_non_int, isi_non_bool, isi_non_tuple, isi_non_list, isi_tup_str, isi_tup_int, isi_tup_bool, isi_tup_tuple, isi_tup_list, isi_lst_str, isi_lst_int, isi_lst_bool, isi_lst_tuple, isi_lst_list, isi_dct_str, isi_dct_int, isi_dct_bool, isi_dct_tuple, isi_dct_list, isi2_str, isi2_int, isi2_bl, isi2_non, isi2_tup, isi2_lst, isi2_dct, Option.getD_some, Option.getD_none, D.isNon, sz_0, sz_1, sz_2, sz_3, sz_4, sz_5, sz_6, sz_7, sz_8, sz_9, sz_10, sz_11, sz_12, sz_13, sz_14, sz_15, sz_16, sg_len, ex_in_sg, ex_len_str, ex_len_tup, ex_len_lst, ex_eq_str, ex_ne_str, ex_eq_int, ex_ne_int, ex_eq_ns, ex_eq_sn, ex_eq_nn, ex_ne_ns, ex_ne_sn, ex_ne_nn, ex_I, ex_add_int, ex_add_str, ex_add_tup, ex_add_lst, ex_sub, ex_mul, ex_mod, ex_div, ex_isN, ex_notN, ex_ix_tup, ex_ix_lst, ex_sl_tup, ex_sl_lst, ex_sl_str, ex_tuple_lst,
  ofs_inj, String.reduceEq, atI_0, atI_1, atI_2, atI_3, cut_1, cut_13, startD, wipeD, List.map_cons, List.map_nil, List.length_cons, List.length_nil, List.cons_append, List.nil_append, List.replicate_succ, List.replicate_zero, List.set_cons_zero, List.set_cons_succ, Nat.reduceAdd, Nat.reduceSub, Nat.sub_self,
  D.bl.injEq, D.int.injEq, D.str.injEq, D.tup.injEq, D.lst.injEq, D.dct.injEq, Option.some.injEq, List.cons.injEq, and_assoc, Int.cast_ofNat_Int, Int.reduceAdd, Int.reduceSub, Int.reduceMul, Int.reduceNeg, Int.reduceEq, Int.reduceLT, Int.reduceLE, Int.reduceNe, eq_self, exists_eq_left, exists_eq_left', exists_eq_right, exists_eq, exists_const, exists_false, false_and, and_false, false_or, or_false, true_and, and_true, if_true, if_false, Bool.false_eq_true, Bool.not_true, Bool.not_false, ite_true, ite_false, reduceCtorEq, decide_true, decide_false, decide_eq_true_eq, exists_and_left, Bool.not_eq_true])

theorem lstOf_put {m : Mu} {p : Addr} {c : Cell} {o : D} {ds : List D} (h : m p = none) (e : lstOf m o = some ds) : lstOf (m.put p c) o = some ds := by
  cases o <;> first | exact e | skip
  rename_i a
  have ne : a ≠ p := fun z => by subst z; simp [lstOf, h] at e
  simpa [lstOf, Mu.put_ne ne] using e
theorem ex_addO {m : Mu} {o : D} {a b : List D} {Q : EK} (h : lstOf m o = some a) (hl : a.length + b.length ≤ sizeLine) (q : Q (.lst (a ++ b)) m) : rhoAdd o (.lst b) m Q := by
  cases o <;> first | exact ⟨a, b, h, rfl, hl, q⟩ | (simp [lstOf] at h; done)
theorem ex_in_sgD {m : Mu} {Q : EK} {b : Bool} {c : Nat} {l : List Nat} : rhoIn b (.str (L3.sg c)) (.lst (sgD l)) m Q = Q (.bl (b ^^ decide (c ∈ l))) m := by
  show rhoIn b (.str (L3.sg c)) (.lst (strD (l.map L3.sg))) m Q = _
  rw [ex_in_lst fl_str (strD_flat _), inD_sg]
theorem F__law_part (T : Txt K w mg) : FnD P w K mg base "_law_part" 24 sp_part := by
  have nd := sc__law_part.nd
  refine fnd_ofZ T.d__law_part sc__law_part (fun ds m Q ⟨_, _, _, _, _, _, _, _, e, _⟩ => by rw [e]; rfl) fun f cdv A outer s H E hr => ⟨_, (ass_cons (as_asg (ae_lstM aa_nil) (ag_name 6 nd))
      (ass_cons (as_asg (ae_lst aa_nil) (ag_name 7 nd))
      (ass_cons (as_asg (ae_lst aa_nil) (ag_name 8 nd))
      (ass_cons (as_asg (ae_callTy cr_dict2 T.b_dict boot_dict (aa_cons (ae_lc (own := [("_law_deed", 10)]) rfl nd (ai_list (ae_op or_add (ae_var 2) (ae_var 3))) (blkOk_by (own := [("_law_deed", 10)]) (by kernel_rfl)) (gg_name (i := 10) (by simp)) (fun _ _ _ _ _ => (pg_name (i := 10) nd rfl (Or.inl rfl))) (fun _ _ _ _ _ => ats_nil) (fun _ _ _ _ _ => (ae_tup (aa_cons (ae_var 10) (aa_cons (ae_ix hr.u1 (ae_var 4) (ae_var 10)) aa_nil))))) aa_nil)) (ag_name 9 nd))
      (ass_cons (as_for PassesOwn.never rfl (ai_list (ae_callB cr_sorted T.b_sorted boot_sorted (aa_cons (ae_var 2) aa_nil))) (ag_name 10 nd)
      (ass_cons (as_asg (ae_disp (apps_cons ae_str (ae_ix hr.u1 (ae_ix hr.u1 (ae_var 4) (ae_var 10)) ae_int) (apps_cons ae_str (ae_var 9) (apps_cons ae_str (ae_var 5) apps_nil)))) (ag_name 13 nd))
      (ass_cons (as_asg (ae_call ((F__law_body T 4).mono (by omega)) hr (aa_cons (ae_var 0) (aa_cons (ae_var 13) (aa_cons (ae_ix hr.u1 (ae_ix hr.u1 (ae_var 4) (ae_var 10)) ae_int) (aa_cons (ae_op or_add ae_int (ae_call ((F__law_next T).mono (by omega)) hr (aa_cons (ae_var 0) (aa_cons ae_int aa_nil)))) aa_nil))))) (ag_name 14 nd))
      (ass_cons (as_expr (ae_lm PySem.F.slot_list_append PySem.F.type_list_append mt_appendD (ae_var 6) (aa_cons (ae_op or_add (ae_op or_add (ae_tup (aa_cons (ae_var 10) aa_nil)) (ae_ix hr.u1 (ae_var 4) (ae_var 10))) (ae_tup (aa_cons (ae_var 14) aa_nil))) aa_nil)))
      (ass_cons (as_asg (ae_op or_add (ae_var 7) (ae_call ((F__law_calls T 10).mono (by omega)) hr (aa_cons (ae_var 14) aa_nil))) (ag_name 7 nd))
      (ass_one (as_asg (ae_op or_add (ae_var 8) (ae_call ((F__law_used T 10).mono (by omega)) hr (aa_cons (ae_var 14) aa_nil))) (ag_name 8 nd))))))))
      (ass_cons (as_setLc (i := 11) (own := [("_law_deed", 10)]) rfl nd rfl rfl (sw_true rfl rfl rfl (by decide +kernel)) (ai_list (ae_callB cr_sorted T.b_sorted boot_sorted (aa_cons (ae_var 3) aa_nil))) (blkOk_by (own := [("_law_deed", 10)]) (by kernel_rfl)) (gg_name (i := 10) (by simp)) (fun _ _ _ _ _ => (pg_name (i := 10) nd rfl (Or.inl rfl))) (fun _ _ _ _ _ => (ats_one (AW.t (aw_or (at_cmp (or_in1 hr.u65) (ae_var 10) (ae_var 7) (by rfl)) (aw_or1 (at_cmp (or_eq hr.units) (ae_call ((F__law_next T).mono (by omega)) hr (aa_cons (ae_var 0) (aa_cons ae_int aa_nil))) ae_int (nomark _))))))) (fun _ _ _ _ _ => (ae_op or_add (ae_tup (aa_cons (ae_var 10) aa_nil)) (ae_ix hr.u1 (ae_var 4) (ae_var 10)))))
      (ass_cons (as_setLc (i := 12) (own := [("_law_cell", 15)]) rfl nd rfl rfl (sw_true rfl rfl rfl (by decide +kernel)) (ai_list (ae_callB cr_sorted T.b_sorted boot_sorted (aa_cons (ae_var 5) aa_nil))) (blkOk_by (own := [("_law_cell", 15)]) (by kernel_rfl)) (gg_name (i := 15) (by simp)) (fun _ _ _ _ _ => (pg_name (i := 15) nd rfl (Or.inl rfl))) (fun _ _ _ _ _ => (ats_one (AW.t (aw_or (at_cmp (or_in1 hr.u65) (ae_var 15) (ae_var 8) (by rfl)) (aw_or1 (at_cmp (or_eq hr.units) (ae_call ((F__law_next T).mono (by omega)) hr (aa_cons (ae_var 0) (aa_cons ae_int aa_nil))) ae_int (nomark _))))))) (fun _ _ _ _ _ => (ae_tup (aa_cons (ae_var 15) (aa_cons (ae_ix hr.u1 (ae_var 5) (ae_var 15)) aa_nil)))))
      (ass_one (as_ret (ae_tup (aa_cons (ae_var 1) (aa_cons (ae_callTy cr_tuple T.b_tuple boot_tuple (aa_cons (ae_var 6) aa_nil)) (aa_cons (ae_callTy cr_tuple T.b_tuple boot_tuple (aa_cons (ae_var 11) aa_nil)) (aa_cons (ae_callTy cr_tuple T.b_tuple boot_tuple (aa_cons (ae_var 12) aa_nil)) aa_nil)))))))))))))), ?_⟩
  rintro _ m Q ⟨ha, hb, nm, o, own, others, sg, cl, rfl, ho, R, hnm, hnd, hlen, hkeys, hg, hc, hne, q⟩
  have nd1 := (List.nodup_append.mp hnd).1
  have nd2 := (List.nodup_append.mp hnd).2.1
  have dj := (List.nodup_append.mp hnd).2.2
  have l1 : own.length + others.length ≤ 8 := by simpa using hlen
  have hk : ∀ c ∈ own ++ others, ∃ p, lk sg c = some p ∧ deedC c := fun c h => by
    obtain ⟨p, h1, h2⟩ := lk_mem (hkeys c h)
    exact ⟨p, h1, hg.c _ h2⟩
  walk_at "rl"
  intro p0 hp0
  have ho' : lstOf (m.put p0 (.lst [])) o = some (strD (own.map L3.sg)) := lstOf_put hp0 ho
  refine ex_addO ho' (szl (by simp [strD]; omega)) ?_
  have hk' : ∀ c ∈ own ++ others, ∃ p, lk sg c = some p := fun c h => let ⟨p, h1, _⟩ := hk c h; ⟨p, h1⟩
  rw [strD_app]
  refine ⟨_, rfl, szl (by rw [strD_len]; omega), lc_pure (sigF sg) (fun d hd R r => ?_) ?_⟩
  · obtain ⟨x, hx, rfl⟩ := List.mem_map.mp hd
    obtain ⟨c, hcc, rfl⟩ := List.mem_map.mp hx
    obtain ⟨p, hp⟩ := hk' c hcc
    rw [sigF_sg hp] at r
    walk_at "rl"
    rw [hp]
    walk_at "rl"
    exact r
  rw [sigF_map hk', List.nil_append]
  refine ex_dict2 ?_
  have hks := gvOf_keys hk'
  rw [merge_gv (by rw [hks]; exact hnd)]
  generalize hG : gvOf sg (own ++ others) = G at hks ⊢
  have hGok : GvOk G := ⟨by rw [hks]; exact hnd, by have := congrArg List.length hks; rw [List.length_map] at this; omega, fun a h => by rw [← hG] at h; obtain ⟨p, _, h2⟩ := hk a.1 (gvOf_mem.mp h).1; exact h2⟩
  refine ex_sortedL ho' (by omega) fun ds hp hs => ⟨_, rfl, ?_⟩
  have hr := rsg_of hp nd1 hs
  have hdl : ds.length ≤ 8 := by have := hp.length_eq; omega
  refine for_inv (fun rest δ m' => ∃ (cs : List Nat) (es : List Deed) (ms us : List Nat) (o10 o13 o14 : Option D), rest = strD (cs.map L3.sg) ∧ ds = es.map (·.c) ++ cs ∧ Own ha hb m m' p0 (es.map Deed.enc) ∧ Rg ha hb m' ∧ Ext ha hb m m' ∧
    (∀ d ∈ es, lk sg d.c = some (d.tk, d.tl) ∧ d.b.wf ∧ d.b.kind d.tk G cl = some d.tl ∧ d.b.dep ≤ 4 ∧ d.b.words ≤ 40 ∧ (∀ x ∈ d.b.calls, x ∈ ms) ∧ (∀ x ∈ d.b.used, x ∈ us)) ∧ ms.length ≤ 100 * es.length ∧ us.length ≤ 100 * es.length ∧
    δ = [some (.ref ha), some (.str (L3.sg nm)), some o, some (.lst (strD (others.map L3.sg))), some (.dct (gvD sg)), some (.dct (cvD cl)), some (.ref p0), some (.lst (sgD ms)), some (.lst (sgD us)), some (.dct (gvD G)), o10, none, none, o13, o14, none]) ?_ ?_
    ⟨ds, [], [], [], _, _, _, rfl, rfl, Own.new Ext.refl R hp0, R.put hp0, Ext.put hp0, by simp, by simp, by simp, rfl⟩
  · rintro d rest δ m1 ⟨cs, es, ms, us, o10, o13, o14, e, hds, O, R1, X1, hes, hms, hus, rfl⟩ nx2 hnx
    cases cs with
    | nil => cases e
    | cons c cs =>
      simp only [strD, List.map_cons] at e
      injection e with e1 e2
      subst e1
      have hlen : es.length + cs.length + 1 = ds.length := by rw [hds]; simp; omega
      have hcown : c ∈ own := hp.mem_iff.mp (by rw [hds]; simp)
      obtain ⟨⟨tk, tl⟩, hkc, _⟩ := hk c (List.mem_append.mpr (.inl hcown))
      walk_at "rl"
      rw [hkc]
      walk_at "rl"
      refine nx R1 (by omega) fun r m2 h0 h1 R2 C2 => ?_
      rw [ex_add_int]
      obtain ⟨n, rfl⟩ := Int.eq_ofNat_of_zero_le h0
      refine ⟨ha, hb, tk, G, cl, tl, _, n + 1, rfl, by omega, by omega, R2, hc, hGok, fun b m3 hb3 R3 C3 => ?_⟩
      have wbn : wb (n + 1) ≤ 40 := by
        have : n = 0 ∨ n = 1 ∨ n = 2 := by omega
        rcases this with e | e | e <;> subst e <;> decide
      have O3 := (O.ch C2).ch C3
      have X3 := (X1.trans C2.ext).trans C3.ext
      have hd := hb3.d
      have hw := hb3.w
      walk_at "rl"
      refine ⟨lst_ref O3.at_, ?_⟩
      refine ex_appendM O3.at_ (by rw [List.length_map]; exact szlt (by omega)) ?_
      have O4 := O3.put (es := List.map Deed.enc (es ++ [⟨c, tk, tl, b⟩]))
      rw [show List.map Deed.enc es ++ [D.tup [D.str (L3.sg c), D.str tk.s, D.str tl.s, b.enc]] = List.map Deed.enc (es ++ [⟨c, tk, tl, b⟩]) from by simp [Deed.enc]]
      try walk_at "rl"
      refine ⟨b, rfl, by omega, by omega, fun cc hcc1 hcc2 => ?_⟩
      walk_at "rl"
      refine ⟨szl (by rw [sgD_len, sgD_len]; omega), ?_⟩
      refine ⟨b, rfl, by omega, by omega, ?_⟩
      walk_at "rl"
      have ul := b.used_len
      refine ⟨szl (by rw [sgD_len, sgD_len]; omega), ?_⟩
      refine hnx _ _ ⟨cs, es ++ [⟨c, tk, tl, b⟩], ms ++ cc, us ++ b.used, _, _, _, e2, by rw [hds]; simp, O4, O3.rg R3, X3.over O3.n, ?_, by simp; omega, by simp; omega, by rw [sgD_app, sgD_app]⟩
      intro d hd
      rcases List.mem_append.mp hd with h | h
      · obtain ⟨a1, a2, a3, a4, a5, a6, a7⟩ := hes d h
        exact ⟨a1, a2, a3, a4, a5, fun x hx => List.mem_append.mpr (.inl (a6 x hx)), fun x hx => List.mem_append.mpr (.inl (a7 x hx))⟩
      · have : d = ⟨c, tk, tl, b⟩ := by simpa using h
        subst this
        exact ⟨hkc, hb3.wf, hb3.k, by show b.dep ≤ 4; omega, by show b.words ≤ 40; omega, fun x hx => List.mem_append.mpr (.inr ((hcc1 x).mpr hx)), fun x hx => List.mem_append.mpr (.inr hx)⟩
  · rintro δ m1 ⟨cs, es, ms, us, o10, o13, o14, e, hds, O, R1, X1, hes, hms, hus, rfl⟩
    have : cs = [] := by cases cs with | nil => rfl | cons c cs => cases e
    subst this
    rw [List.append_nil] at hds
    have hel : es.length ≤ 8 := by have := congrArg List.length hds; rw [List.length_map] at this; omega
    walk_at "rl"
    refine ex_sortedL (cs := others) rfl (by omega) fun ds2 hp2 hs2 => ⟨_, rfl, szl (by rw [strD_len]; have := hp2.length_eq; omega), ?_⟩
    have hk2 : ∀ c ∈ ds2, ∃ p, lk sg c = some p := fun c h => hk' c (List.mem_append.mpr (.inr (hp2.mem_iff.mp h)))
    have hl2 : ds2.length ≤ 8 := by have := hp2.length_eq; omega
    refine lc_gen (fun c => ((lk sg c).map fun p => askD (c, p)).getD .non) (fun c => c ∈ ms) R1 (fun c hcc m2 R2 C2 R r1 r2 => ?_) fun ks m2 hsub hmust R2 C2 => ?_
    · obtain ⟨p, hp⟩ := hk2 c hcc
      rw [hp] at r1
      walk_at "rl"
      rw [ex_in_sgD]
      by_cases hm : c ∈ ms
      · rw [decide_eq_true hm]
        walk_at "rl"
        rw [hp]
        walk_at "rl"
        exact r1 m2 R2 (Ch.refl _)
      · rw [decide_eq_false hm]
        walk_at "rl"
        refine nx R2 (by omega) fun r m3 h0 h1 R3 C3 => ?_
        rw [ex_eq_int]
        refine ⟨_, rfl, ?_⟩
        by_cases hr0 : r = 0
        · rw [decide_eq_true hr0]
          walk_at "rl"
          rw [hp]
          walk_at "rl"
          exact r1 m3 R3 C3
        · rw [decide_eq_false hr0]
          walk_at "rl"
          exact r2 m3 hm R3 C3
    have hk3 : ∀ c ∈ ks, ∃ p, lk sg c = some p := fun c h => hk2 c (hsub.subset h)
    have rsg2 : Rsg ks := (rsg_of hp2 nd2 hs2).sublist hsub
    rw [rows_of (sg := sg) (enc := askD) (fun c p h => by rw [h]; rfl) hk3]
    have hls : (gvOf sg ks).length ≤ 8 := by
      have := congrArg List.length (gvOf_keys hk3)
      rw [List.length_map] at this
      have := hsub.length_le
      omega
    refine ex_sortedK (keys_cv cl) (by rw [List.length_map]; have := hc.l; omega) fun ds3 hp3 hs3 => ⟨_, rfl, szl (by rw [strD_len]; have := hp3.length_eq; have := hc.l; rw [List.length_map] at *; omega), ?_⟩
    have hk4 : ∀ c ∈ ds3, ∃ p, lk cl c = some p := fun c h => let ⟨p, h1, _⟩ := lk_mem (hp3.mem_iff.mp h); ⟨p, h1⟩
    refine lc_gen (fun c => ((lk cl c).map fun p => celD (c, p)).getD .non) (fun c => c ∈ us) R2 (fun c hcc m3 R3 C3 R r1 r2 => ?_) fun js m3 hsub3 hmust3 R3 C3 => ?_
    · obtain ⟨p, hp⟩ := hk4 c hcc
      rw [hp] at r1
      walk_at "rl"
      rw [ex_in_sgD]
      by_cases hm : c ∈ us
      · rw [decide_eq_true hm]
        walk_at "rl"
        rw [hp]
        walk_at "rl"
        exact r1 m3 R3 (Ch.refl _)
      · rw [decide_eq_false hm]
        walk_at "rl"
        refine nx R3 (by omega) fun r m4 h0 h1 R4 C4 => ?_
        rw [ex_eq_int]
        refine ⟨_, rfl, ?_⟩
        by_cases hr0 : r = 0
        · rw [decide_eq_true hr0]
          walk_at "rl"
          rw [hp]
          walk_at "rl"
          exact r1 m4 R4 C4
        · rw [decide_eq_false hr0]
          walk_at "rl"
          exact r2 m4 hm R4 C4
    have hk5 : ∀ c ∈ js, ∃ p, lk cl c = some p := fun c h => hk4 c (hsub3.subset h)
    have rsg3 : Rsg js := (rsg_of hp3 hc.nd hs3).sublist hsub3
    rw [rows_of (sg := cl) (enc := celD) (fun c p h => by rw [h]; rfl) hk5]
    have hlj : (gvOf cl js).length ≤ 4 := by
      have h1 := congrArg List.length (gvOf_keys hk5)
      rw [List.length_map] at h1
      have h2 := hsub3.length_le
      have h3 := hp3.length_eq
      have := hc.l
      rw [List.length_map] at h3
      omega
    have O3 := (O.ch C2).ch C3
    rw [ex_tuple_ref O3.at_]
    walk_at "rl"
    refine fzx R3 ((X1.trans C2.ext).trans C3.ext) fun m6 => q ⟨nm, es, gvOf sg ks, gvOf cl js⟩ m6 ?_
    refine PartOk.mk' hnm hnd hlen hk hc hp hr hds.symm (fun d h => ?_) (fun a h => ?_) (by rw [gvOf_keys hk3]; exact rsg2) (fun a h => (gvOf_mem.mp h).2) (by rw [gvOf_keys hk5]; exact rsg3) hlj hls
    · obtain ⟨a1, a2, a3, a4, a5, a6, a7⟩ := hes d h
      refine ⟨a1, a2, by rw [hG]; exact a3, a4, a5, fun x hx ho => ?_, fun x hx => ?_⟩
      · rw [gvOf_keys hk3]
        exact hmust x (hp2.mem_iff.mpr ho) (a6 x hx)
      · rw [gvOf_keys hk5]
        refine hmust3 x (hp3.mem_iff.mpr ?_) (a7 x hx)
        exact (d.b.kind_calls _ a3).2 x hx
    · obtain ⟨h1, h2⟩ := gvOf_mem.mp h
      exact ⟨hp2.mem_iff.mp (hsub.subset h1), h2⟩
end K01
/-! the generator of shelves. -/
namespace K01
open PySem PySem.Spec PyProof.Rows L2 L3
variable {P : Program} {w : World} {K : PySem.W.Frag} {mg : Str → Option Value} {base : Heap}
local macro_rules | `(tactic| walk_at "rl") => `(tactic| simp only [ aDisp, aDispW, pairsD, ex_disp, dkOf, dctOf_dct, getK_nil, putD_nil, putD_cons, mergeD_nil, mergeD_cons, inD_nil, inD_cons, eqD_str, fl_str, List.all_cons, all_fl_nil, Bool.and_true, Bool.or_false, Bool.false_or, Bool.true_or, Bool.or_true, Bool.and_self, Bool.false_bne, Bool.false_xor, Bool.true_xor, atI_4, lcStep, env_takes, env_deeds, env_cells, aLM, aLstM, ex_in_tup, getK_nil, getK_cons, getK_cv, getK_gv, keyD_str, ex_in_dcts, ex_ix_dcts, Kd.s_inj, Kd.s_t, Kd.s_n, Kd.s_l, Kd.s_ne, Option.map_some, Option.map_none, Sum.inr.injEq, ex_mul_lst, Int.reduceToNat, Nat.reduceMul, Nat.reduceLeDiff, List.flatten_cons, List.flatten_nil, aRng1, signs_D, aRet, aRetN, aDrop, aIfS, aSeq, aNext, aAsg, gNm, gTupD, gConsD, gNilD, aFor, ex_var0, ex_varS, aC, aOp, aCall, aCons, aNil, aTup, aLst, aB, aAnd, aOr, aNot, aAndV, aOrV, aNotV, aIf, aNeg, aChain, aKix, aKGet1, aKGet2, aDGet1, aDGet2, aNoPart, aPart, aSl, aList, aTupI, aStrI, aZipS, aYes, aLc, aNever, aBreak, aCont, forGo, lcGo,
  isi_str_str, isi_str_int, isi_str_bool, isi_str_tuple, isi_str_list, isi_int_str, isi_int_int, isi_int_bool, isi_int_tuple, isi_int_list, isi_bl_str, isi_bl_int, isi_bl_bool, isi_bl_tuple, isi_bl_list, isi_non_str, isi_non_int, isi_non_bool, isi_non_tuple, isi_non_list, isi_tup_str, isi_tup_int, isi_tup_bool, isi_tup_tuple, isi_tup_list, isi_lst_str, isi_lst_int, isi_lst_bool, isi_lst_tuple, isi_lst_list, isi_dct_str, isi_dct_int, isi_dct_bool, isi_dct_tuple, isi_dct_list, isi2_str, isi2_int, isi2_bl, isi2_non, isi2_tup, isi2_lst, isi2_dct, Option.getD_some, Option.getD_none, D.isNon, sz_0, sz_1, sz_2, sz_3, sz_4, sz_5, sz_6, sz_7, sz_8, sz_9, sz_10, sz_11, sz_12, sz_13, sz_14, sz_15, sz_16, sg_len, ex_in_sg, ex_len_str, ex_len_tup, ex_len_lst, ex_eq_str, ex_ne_str, ex_eq_int, ex_ne_int, ex_eq_ns, ex_eq_sn, ex_eq_nn, ex_ne_ns, ex_ne_sn, ex_ne_nn, ex_I, ex_add_int, ex_add_str, ex_add_tup, ex_add_lst, ex_sub, ex_mul, ex_mod, ex_div, ex_isN, ex_notN, ex_ix_tup, ex_ix_lst, ex_sl_tup, ex_sl_lst, ex_sl_str, ex_tuple_lst,
  ofs_inj, String.reduceEq, atI_0, atI_1, atI_2, atI_3, cut_1, cut_13, startD, wipeD, List.map_cons, List.map_nil, List.length_cons, List.length_nil, List.cons_append, List.nil_append, List.replicate_succ, List.replicate_zero, List.set_cons_zero, List.set_cons_succ, Nat.reduceAdd, Nat.reduceSub, Nat.sub_self,
  D.bl.injEq, D.int.injEq, D.str.injEq, D.tup.injEq, D.lst.injEq, D.dct.injEq, Option.some.injEq, List.cons.injEq, and_assoc, Int.cast_ofNat_Int, Int.reduceAdd, Int.reduceSub, Int.reduceMul, Int.reduceNeg, Int.reduceEq, Int.reduceLT, Int.reduceLE, Int.reduceNe, eq_self, exists_eq_left, exists_eq_left', exists_eq_right, exists_eq, exists_const, exists_false, false_and, and_false, false_or, or_false, true_and, and_true, if_true, if_false, Bool.false_eq_true, Bool.not_true, Bool.not_false, ite_true, ite_false, reduceCtorEq, decide_true, decide_false, decide_eq_true_eq, exists_and_left, Bool.not_eq_true])

theorem kinds_ix {r : Int} {m : Mu} {Q : EK} (h0 : 0 ≤ r) (h1 : r < 3) (q : ∀ k : Kd, Q (.str k.s) m) : rhoIx (.lst [.str "number", .str "truth", .str "list"]) (.int r) m Q := by
  obtain ⟨k, hk⟩ := drawK h0 h1
  rw [ex_ix_lst]
  exact ⟨_, hk, q k⟩
/-- the shelf by value, or in the store -/
def sp_shelfX : SpD := fun ds m Q => ∃ (ha hb : Addr), ds = [.ref ha] ∧ Rg ha hb m ∧ ((∀ sg cl ps m', ShelfOk sg cl ps → Rg ha hb m' → Ch ha hb m m' → Q (.lst (ps.map Part.enc)) m') ∨
  ∀ sg cl ps m' p, ShelfOk sg cl ps → Rg ha hb m' → Ch ha hb m m' → m' p = none → Q (.ref p) (m'.put p (.lst (ps.map Part.enc))))
theorem fzlM {Q : EK} {ds : List D} {p : Addr} {m m' : Mu} {ha hb : Addr} (R : Rg ha hb m') (h : Ext ha hb m m') (hp : m' p = some (.lst ds)) (hn : m p = none) (h1 : p ≠ ha) (h2 : p ≠ hb) (q : ∀ m2, Rg ha hb m2 → Ch ha hb m m2 → m2 p = none → Q (.ref p) (m2.put p (.lst ds))) : Fz Q (.ref p) m' := by
  refine Fz.to (fun a c e => ?_) (q _ (over_rg R) over_ch (by unfold Mu.over; rw [if_neg (fun z => z.elim h1 h2)]; exact hn))
  by_cases z : a = p
  · subst z
    rw [Mu.put_same] at e
    cases e
    exact hp
  · rw [Mu.put_ne z] at e
    exact over_sub h a c e
theorem F__law_shelfX (T : Txt K w mg) : FnD P w K mg base "_law_shelf" 25 sp_shelfX := by
  have nd := sc__law_shelf.nd
  refine fnd_ofZ T.d__law_shelf sc__law_shelf (fun ds m Q ⟨_, _, e, _⟩ => by rw [e]; rfl) fun f cdv A outer s H E hr => ⟨_, (ass_cons (as_asg (ae_lst (aa_cons ae_str (aa_cons ae_str (aa_cons ae_str aa_nil)))) (ag_name 1 nd))
      (ass_cons (as_asg (ae_callTy cr_dict2 T.b_dict boot_dict (aa_cons (ae_lc (own := [("_law_deed", 6)]) rfl nd (ai_str ae_str) (blkOk_by (own := [("_law_deed", 6)]) (by kernel_rfl)) (gg_name (i := 6) (by simp)) (fun _ _ _ _ _ => (pg_name (i := 6) nd rfl (Or.inl rfl))) (fun _ _ _ _ _ => ats_nil) (fun _ _ _ _ _ => (ae_tup (aa_cons (ae_var 6) (aa_cons (ae_tup (aa_cons (ae_ix hr.u1 (ae_var 1) (ae_call ((F__law_next T).mono (by omega)) hr (aa_cons (ae_var 0) (aa_cons ae_int aa_nil)))) (aa_cons (ae_ix hr.u1 (ae_var 1) (ae_call ((F__law_next T).mono (by omega)) hr (aa_cons (ae_var 0) (aa_cons ae_int aa_nil)))) aa_nil))) aa_nil))))) aa_nil)) (ag_name 2 nd))
      (ass_cons (as_asg (ae_callTy cr_dict2 T.b_dict boot_dict (aa_cons (ae_lc (own := [("_law_cell", 13)]) rfl nd (ai_str ae_str) (blkOk_by (own := [("_law_cell", 13)]) (by kernel_rfl)) (gg_name (i := 13) (by simp)) (fun _ _ _ _ _ => (pg_name (i := 13) nd rfl (Or.inl rfl))) (fun _ _ _ _ _ => ats_nil) (fun _ _ _ _ _ => (ae_tup (aa_cons (ae_var 13) (aa_cons (ae_ix hr.u1 (ae_var 1) (ae_call ((F__law_next T).mono (by omega)) hr (aa_cons (ae_var 0) (aa_cons ae_int aa_nil)))) aa_nil))))) aa_nil)) (ag_name 3 nd))
      (ass_cons (as_asg (ae_op or_add ae_int (ae_call ((F__law_next T).mono (by omega)) hr (aa_cons (ae_var 0) (aa_cons (ae_ix hr.u1 (ae_lst (aa_cons ae_int (aa_cons ae_int aa_nil))) (ae_call ((F__law_next T).mono (by omega)) hr (aa_cons (ae_var 0) (aa_cons ae_int aa_nil)))) aa_nil)))) (ag_name 4 nd))
      (ass_cons (as_asg (ae_lc (own := [("_law_k", 10)]) rfl nd (ai_rng1 T.b_range (aa_cons (ae_var 4) aa_nil)) (blkOk_by (own := [("_law_k", 10)]) (by kernel_rfl)) (gg_name (i := 10) (by simp)) (fun _ _ _ _ _ => (pg_name (i := 10) nd rfl (Or.inl rfl))) (fun _ _ _ _ _ => ats_nil) (fun _ _ _ _ _ => (ae_lstM aa_nil))) (ag_name 5 nd))
      (ass_cons (as_for PassesOwn.never rfl (ai_str (ae_sl ae_str ao_none (ao_some (ae_op or_add ae_int (ae_call ((F__law_next T).mono (by omega)) hr (aa_cons (ae_var 0) (aa_cons ae_int aa_nil))))))) (ag_name 6 nd)
      (ass_one (as_for PassesOwn.never rfl (ai_rng1 T.b_range (aa_cons (ae_ix hr.u1 (ae_lst (aa_cons ae_int (aa_cons ae_int (aa_cons ae_int (aa_cons ae_int aa_nil))))) (ae_call ((F__law_next T).mono (by omega)) hr (aa_cons (ae_var 0) (aa_cons ae_int aa_nil)))) aa_nil)) (ag_name 11 nd)
      (ass_cons (as_asg (ae_call ((F__law_next T).mono (by omega)) hr (aa_cons (ae_var 0) (aa_cons (ae_var 4) aa_nil))) (ag_name 10 nd))
      (ass_one (as_if (AW.t (aw_and (at_cmp (or_nin hr.u65) (ae_var 6) (ae_ix hr.u1 (ae_var 5) (ae_var 10)) (by rfl)) (aw_and1 (at_cmp or_lt (ae_callB cr_len T.b_len boot_len (aa_cons (ae_ix hr.u1 (ae_var 5) (ae_var 10)) aa_nil)) ae_int (nomark _))))) (ass_one (as_expr (ae_lm PySem.F.slot_list_append PySem.F.type_list_append mt_appendD (ae_ix hr.u1 (ae_var 5) (ae_var 10)) (aa_cons (ae_var 6) aa_nil)))) ass_nil))))))
      (ass_gh (ass_cons (as_asg (ae_lst aa_nil) (ag_name 7 nd))
      (ass_cons (as_for PassesOwn.never rfl (ai_list (ae_var 5)) (ag_name 8 nd)
      (ass_one (as_asg (ae_op or_add (ae_var 7) (ae_lc (own := [("_law_deed", 6)]) rfl nd (ai_list (ae_var 8)) (blkOk_by (own := [("_law_deed", 6)]) (by kernel_rfl)) (gg_name (i := 6) (by simp)) (fun _ _ _ _ _ => (pg_name (i := 6) nd rfl (Or.inl rfl))) (fun _ _ _ _ _ => (ats_one (at_cmp (or_nin hr.u65) (ae_var 6) (ae_var 7) (by rfl)))) (fun _ _ _ _ _ => (ae_var 6)))) (ag_name 7 nd))))
      (ass_cons (as_asg (ae_lstM aa_nil) (ag_name 9 nd))
      (ass_cons (as_for PassesOwn.never rfl (ai_rng1 T.b_range (aa_cons (ae_var 4) aa_nil)) (ag_name 10 nd)
      (ass_cons (as_setLc (i := 12) (own := [("_law_deed", 6)]) rfl nd rfl rfl (sw_true rfl rfl rfl (by decide +kernel)) (ai_list (ae_var 7)) (blkOk_by (own := [("_law_deed", 6)]) (by kernel_rfl)) (gg_name (i := 6) (by simp)) (fun _ _ _ _ _ => (pg_name (i := 6) nd rfl (Or.inl rfl))) (fun _ _ _ _ _ => (ats_one (AW.t (aw_and (at_cmp (or_nin hr.u65) (ae_var 6) (ae_ix hr.u1 (ae_var 5) (ae_var 10)) (by rfl)) (aw_and1 (at_cmp (or_eq hr.units) (ae_call ((F__law_next T).mono (by omega)) hr (aa_cons (ae_var 0) (aa_cons ae_int aa_nil))) ae_int (nomark _))))))) (fun _ _ _ _ _ => (ae_var 6)))
      (ass_one (as_expr (ae_lm PySem.F.slot_list_append PySem.F.type_list_append mt_appendD (ae_var 9) (aa_cons (ae_call ((F__law_part T).mono (by omega)) hr (aa_cons (ae_var 0) (aa_cons (ae_ix hr.u1 ae_str (ae_var 10)) (aa_cons (ae_ix hr.u1 (ae_var 5) (ae_var 10)) (aa_cons (ae_var 12) (aa_cons (ae_var 2) (aa_cons (ae_var 3) aa_nil))))))) aa_nil))))))
      (ass_one (as_ret (ae_var 9)))))))))))))), ?_⟩
  rintro _ m Q ⟨ha, hb, rfl, R, q⟩
  walk_at "rl"
  rw [show (PySem.Str.ofString "abcdefgh").cps.toList = lettersD from cps_deeds]
  refine ⟨szl (by rw [strD_len]; decide), lc_rows (fun p : Nat × (Kd × Kd) => L3.pairD (.inr (L3.sg p.1), .tup [.str p.2.1.s, .str p.2.2.s])) R (fun c hc m1 R1 C1 R' r => ?_) fun sg m1 hsg R1 C1 => ?_⟩
  · walk_at "rl"
    refine nx R1 (by omega) fun r1 m2 a1 b1 R2 C2 => kinds_ix a1 b1 fun k1 => nx R2 (by omega) fun r2 m3 a2 b2 R3 C3 => kinds_ix a2 b2 fun k2 => ?_
    try walk_at "rl"
    exact r (k1, k2) m3 R3 (C2.trans C3)
  have hg := gvOk_of hsg
  rw [show sg.map (fun p : Nat × (Kd × Kd) => L3.pairD (.inr (L3.sg p.1), .tup [.str p.2.1.s, .str p.2.2.s])) = (gvD sg).map L3.pairD from by simp [gvD, Function.comp_def]]
  refine ex_dict2 ?_
  rw [merge_gv hg.nd]
  try walk_at "rl"
  rw [show (PySem.Str.ofString "pqrs").cps.toList = lettersC from cps_cells]
  refine ⟨szl (by rw [strD_len]; decide), lc_rows (fun p : Nat × Kd => L3.pairD (.inr (L3.sg p.1), .str p.2.s)) R1 (fun c hc m1 R1 C1 R' r => ?_) fun cl m2 hcl R2 C2 => ?_⟩
  · walk_at "rl"
    refine nx R1 (by omega) fun r1 m2 a1 b1 R2 C2 => kinds_ix a1 b1 fun k1 => ?_
    try walk_at "rl"
    exact r k1 m2 R2 C2
  have hc := cvOk_of hcl
  rw [show cl.map (fun p : Nat × Kd => L3.pairD (.inr (L3.sg p.1), .str p.2.s)) = (cvD cl).map L3.pairD from by simp [cvD, Function.comp_def]]
  refine ex_dict2 ?_
  rw [merge_cv hc.nd]
  try walk_at "rl"
  refine nx R2 (by omega) fun r1 m3 a1 b1 R3 C3 => ?_
  have n36 : ∀ (R : EK), (∀ n : Int, 3 ≤ n → n ≤ 6 → R (.int n) m3) → rhoIx (.lst [.int 3, .int 6]) (.int r1) m3 R := fun R q => by
    rw [ex_ix_lst]
    rcases lt2 a1 b1 with e | e <;> subst e
    · exact ⟨_, atI_0, q 3 (by decide) (by decide)⟩
    · exact ⟨_, atI_1, q 6 (by decide) (by decide)⟩
  refine n36 _ fun n3 hn3 hn6 => nx R3 (by omega) fun r2 m4 a2 b2 R4 C4 => ?_
  rw [ex_add_int]
  obtain ⟨many, hmany⟩ := Int.eq_ofNat_of_zero_le (show 0 ≤ 1 + r2 by omega)
  rw [hmany]
  have hm1 : 1 ≤ many ∧ many ≤ 6 := by omega
  refine ⟨_, rfl, by omega, by omega, szl (by simp [rngD]; omega), ?_⟩
  rw [Int.toNat_natCast]
  have C14 := ((C1.trans C2).trans C3).trans C4
  refine lc_rng (fun i acc m' => ∃ ps : List Addr, acc = ps.map D.ref ∧ ps.length = i ∧ Ows ha hb m m' ps (List.replicate i []) ∧ Rg ha hb m' ∧ Ext ha hb m m') (fun i acc m' hi ⟨ps, e1, e2, O, R', X'⟩ R hR => ?_) (fun acc m5 ⟨ps, e1, e2, O, R5, X5⟩ => ?_) ⟨[], rfl, rfl, Ows.nil, R4, C14.ext⟩
  · walk_at "rl"
    intro p hp
    refine hR _ _ ⟨ps ++ [p], by rw [e1]; simp, by simp [e2], ?_, R'.put hp, X'.trans (Ext.put hp)⟩
    have := O.add X' R' hp
    rwa [← List.replicate_succ'] at this
  subst e1
  try walk_at "rl"
  refine nx R5 (by omega) fun r3 m6 a3 b3 R6 C6 => ?_
  rw [ex_add_int]
  refine ⟨_, rfl, szl (by decide), ?_⟩
  obtain ⟨nd8, hcut⟩ := cut_deeds a3 b3
  rw [hcut]
  let J : Dt → Mu → Prop := fun δ m' => ∃ (ls : List (List Nat)) (o6 o10 o11 : Option D), δ = [some (.ref ha), some (.lst [.str "number", .str "truth", .str "list"]), some (.dct (gvD sg)), some (.dct (cvD cl)), some (.int many), some (.lst (ps.map D.ref)), o6, none, none, none, o10, o11, none, none] ∧
    Ows ha hb m m' ps ls ∧ (∀ l ∈ ls, l.Nodup ∧ l.length ≤ 4 ∧ ∀ c ∈ l, deedC c) ∧ Rg ha hb m' ∧ Ext ha hb m m'
  refine for_inv (fun rest δ m' => (∃ cs : List Nat, rest = strD (cs.map L3.sg) ∧ ∀ c ∈ cs, deedC c) ∧ J δ m') ?_ ?_ ⟨⟨_, rfl, fun c h => List.mem_of_mem_take h⟩, List.replicate many [], _, _, _, rfl, O.ch C6, fun l h => by rw [List.mem_replicate] at h; rw [h.2]; simp, R6, X5.trans C6.ext⟩
  · rintro d rest δ m7 ⟨⟨cs, e, hcs⟩, ls, o6, o10, o11, rfl, O7, hls, R7, X7⟩ nx2 hnx
    cases cs with
    | nil => cases e
    | cons c cs =>
      simp only [strD, List.map_cons] at e
      injection e with e1 e3
      subst e1
      have hcd := hcs c List.mem_cons_self
      walk_at "rl"
      refine nx R7 (by omega) fun r5 m8 a5 b5 R8 C8 => ?_
      have n12 : ∀ (R : EK), (∀ n : Nat, n ≤ 2 → R (.int n) m8) → rhoIx (.lst [.int 1, .int 1, .int 1, .int 2]) (.int r5) m8 R := fun R q => by
        rw [ex_ix_lst]
        rcases lt4 a5 b5 with e | e | e | e <;> subst e
        · exact ⟨_, atI_0, q 1 (by decide)⟩
        · exact ⟨_, atI_1, q 1 (by decide)⟩
        · exact ⟨_, atI_2, q 1 (by decide)⟩
        · exact ⟨_, atI_3, q 2 (by decide)⟩
      refine n12 _ fun n hn => ⟨_, rfl, by omega, by omega, ?_⟩
      rw [Int.toNat_natCast]
      refine for_rng (fun i δ m' => J δ m' ∧ δ[6]? = some (some (.str (L3.sg c)))) ?_ ?_ ⟨⟨ls, _, _, _, rfl, O7.ch C8, hls, R8, X7.trans C8.ext⟩, rfl⟩
      · rintro i δ m9 hi ⟨⟨ls, o6, o10, o11, rfl, O9, hls, R9, X9⟩, h6⟩ nx3 hnx3
        have h6' : o6 = some (.str (L3.sg c)) := by simpa using h6
        subst h6'
        walk_at "rl"
        refine nx R9 (by omega) fun r6 m10 a6 b6 R10 C10 => ?_
        obtain ⟨k, rfl⟩ := Int.eq_ofNat_of_zero_le a6
        have hk : k < ps.length := by rw [e2]; omega
        have O10 := O9.ch C10
        have X10 := X9.trans C10.ext
        have hkp : ps[k]? = some ps[k] := List.getElem?_eq_getElem hk
        have hkl : k < ls.length := by rw [O10.len]; exact hk
        have hkl' : ls[k]? = some ls[k] := List.getElem?_eq_getElem hkl
        have hat : atI (ps.map D.ref) (k : Int) = some (.ref ps[k]) := atI_nat (by rw [List.getElem?_map, hkp]; rfl)
        have own := O10.at_ k _ _ hkp hkl'
        have hlk := hls ls[k] (List.getElem_mem hkl)
        walk_at "rl"
        refine ⟨_, hat, ?_⟩
        rw [ex_in_ref (l := ls[k]) own.at_]
        refine ⟨_, rfl, ?_⟩
        have skip : ∀ m11 : Mu, m11 = m10 → nx3 [some (.ref ha), some (.lst [.str "number", .str "truth", .str "list"]), some (.dct (gvD sg)), some (.dct (cvD cl)), some (.int many), some (.lst (ps.map D.ref)), some (.str (L3.sg c)), none, none, none, some (.int k), some (.int (0 + (i : Int))), none, none] m11 := fun m11 e => by
          subst e
          exact hnx3 _ _ ⟨⟨ls, _, _, _, rfl, O10, hls, R10, X10⟩, rfl⟩
        by_cases hin : c ∈ ls[k]
        · rw [decide_eq_true hin]
          try walk_at "rl"
          simpa using skip m10 rfl
        · rw [decide_eq_false hin]
          walk_at "rl"
          refine ⟨_, hat, ?_⟩
          rw [ex_len_ref own.at_, strD_len]
          simp only [ex_I]
          refine ⟨_, rfl, ?_⟩
          by_cases h4 : ((ls[k].length : Nat) : Int) < 4
          · rw [decide_eq_true h4]
            try walk_at "rl"
            refine ⟨_, hat, lst_ref own.at_, ?_⟩
            refine ex_appendM own.at_ (by rw [strD_len]; exact szlt (by omega)) ?_
            have O11 := O10.set (l2 := ls[k] ++ [c]) hkp hkl'
            rw [show strD (List.map L3.sg ls[k]) ++ [D.str (L3.sg c)] = strD ((ls[k] ++ [c]).map L3.sg) from by simp [strD]]
            have := hnx3 [some (.ref ha), some (.lst [.str "number", .str "truth", .str "list"]), some (.dct (gvD sg)), some (.dct (cvD cl)), some (.int many), some (.lst (ps.map D.ref)), some (.str (L3.sg c)), none, none, none, some (.int k), some (.int (0 + (i : Int))), none, none] _ ⟨⟨ls.set k (ls[k] ++ [c]), _, _, _, rfl, O11, fun l hl => ?_, own.rg R10, X10.over own.n⟩, rfl⟩
            · simpa using this
            · rcases List.mem_or_eq_of_mem_set hl with h | h
              · exact hls l h
              · subst h
                refine ⟨?_, by rw [List.length_append]; simp; omega, fun x hx => ?_⟩
                · rw [List.nodup_append]
                  exact ⟨hlk.1, by simp, fun a ha b hb e => hin (by simp at hb; subst hb; subst e; exact ha)⟩
                · rcases List.mem_append.mp hx with h | h
                  · exact hlk.2.2 x h
                  · have : x = c := by simpa using h
                    subst this; exact hcd
          · rw [decide_eq_false h4]
            try walk_at "rl"
            simpa using skip m10 rfl
      · rintro δ m9 ⟨hJ, _⟩
        exact hnx _ _ ⟨⟨cs, e3, fun x hx => hcs x (List.mem_cons_of_mem _ hx)⟩, hJ⟩
  · rintro δ m7 ⟨_, ls, o6, o10, o11, rfl, O7, hls, R7, X7⟩
    have hFo := ows_rg O7 R7
    refine ⟨owF ps ls, fun p ds h => (ows_zip O7 h).1, ?_⟩
    have hfha : owF ps ls ha = none := by
      cases e : owF ps ls ha with
      | none => rfl
      | some ds => have := (ows_zip O7 e).2.2.1; exact absurd rfl this
    have R8 := hFo.1
    have X8 := ows_ext O7 R7 X7
    have hrefs : frzs (owF ps ls) (ps.map D.ref) = ls.map lsD := ows_frz O7.len O7.nd _ fun i p l h1 h2 => ows_at O7 h1 h2
    generalize m7.frz (owF ps ls) = m8 at R8 X8 ⊢
    simp only [Dt.frz, List.map_cons, List.map_nil, Option.map_some, Option.map_none, D.frz, hfha, hrefs, frz_gvD, frz_cvD, frzs]
    have hll : ls.length = many := by rw [O7.len, e2]
    generalize Option.map (D.frz (owF ps ls)) o6 = o6
    generalize Option.map (D.frz (owF ps ls)) o10 = o10
    generalize Option.map (D.frz (owF ps ls)) o11 = o11
    clear hrefs hfha hFo O7 R7 X7 O R6 R5 X5
    refine seq_inv (fun δ m' => δ = [some (.ref ha), some (.lst [.str "number", .str "truth", .str "list"]), some (.dct (gvD sg)), some (.dct (cvD cl)), some (.int many), some (.lst (ls.map lsD)), o6, some (.lst []), none, none, o10, o11, none, none] ∧ m' = m8) (fun nx3 hnx => ?_) ?_
    · walk_at "rl"
      exact hnx _ _ ⟨rfl, rfl⟩
    rintro _ m8 ⟨rfl, rfl⟩
    refine seq_inv (fun δ m' => ∃ (es : List Nat) (o6 o8 : Option D), δ = [some (.ref ha), some (.lst [.str "number", .str "truth", .str "list"]), some (.dct (gvD sg)), some (.dct (cvD cl)), some (.int many), some (.lst (ls.map lsD)), o6, some (.lst (strD (es.map L3.sg))), o8, none, o10, o11, none, none] ∧ m' = m8 ∧ es.Nodup ∧ ∀ c ∈ es, ∃ l ∈ ls, c ∈ l) (fun nx3 hnx => ?_) ?_
    · walk_at "rl"
      refine for_inv (fun rest δ m' => ∃ (es : List Nat) (ls2 : List (List Nat)) (o6 o8 : Option D), rest = ls2.map lsD ∧ (∀ l ∈ ls2, l ∈ ls) ∧ δ = [some (.ref ha), some (.lst [.str "number", .str "truth", .str "list"]), some (.dct (gvD sg)), some (.dct (cvD cl)), some (.int many), some (.lst (ls.map lsD)), o6, some (.lst (strD (es.map L3.sg))), o8, none, o10, o11, none, none] ∧ m' = m8 ∧ es.Nodup ∧ (∀ c ∈ es, ∃ l ∈ ls, c ∈ l)) ?_ ?_
        ⟨[], ls, _, _, rfl, fun l h => h, rfl, rfl, List.nodup_nil, fun c h => by cases h⟩
      · rintro d rest δ m9 ⟨es, ls2, o6, o8, e, hsub, rfl, rfl, hnd, hes⟩ nx4 hnx4
        cases ls2 with
        | nil => cases e
        | cons l ls2 =>
          simp only [List.map_cons] at e
          injection e with e1 e3
          subst e1
          have hl := hls l (hsub l List.mem_cons_self)
          have hel : es.length ≤ 8 := deeds_len hnd fun c h => let ⟨l, h1, h2⟩ := hes c h; (hls l h1).2.2 c h2
          rw [show lsD l = .lst (strD (l.map L3.sg)) from rfl]
          walk_at "rl"
          refine ⟨szl (by rw [strD_len]; omega), lc_sg (fun c => !decide (c ∈ es)) (fun c hc R r => ?_) ?_⟩
          · walk_at "rl"
            rw [ex_in_lst fl_str (strD_flat _), inD_sg]
            by_cases h : c ∈ es
            · rw [decide_eq_true h] at r ⊢
              simpa using r
            · rw [decide_eq_false h] at r ⊢
              simpa using r
          · try walk_at "rl"
            have hfl := List.length_filter_le (fun c => !decide (c ∈ es)) l
            refine ⟨szl (by rw [strD_len, strD_len]; omega), ?_⟩
            rw [strD_app]
            have := hnx4 [some (.ref ha), some (.lst [.str "number", .str "truth", .str "list"]), some (.dct (gvD sg)), some (.dct (cvD cl)), some (.int many), some (.lst (ls.map lsD)), o6, some (.lst (strD ((es ++ l.filter fun c => !decide (c ∈ es)).map L3.sg))), some (.lst (strD (l.map L3.sg))), none, o10, o11, none, none] m9
              ⟨es ++ l.filter fun c => !decide (c ∈ es), ls2, _, _, e3, fun x hx => hsub x (List.mem_cons_of_mem _ hx), rfl, rfl, ?_, fun c h => ?_⟩
            · simpa [lsD] using this
            · rw [List.nodup_append]
              refine ⟨hnd, hl.1.filter _, fun a ha b hb e => ?_⟩
              subst e
              have := (List.mem_filter.mp hb).2
              simp at this
              exact this ha
            · rcases List.mem_append.mp h with h | h
              · exact hes c h
              · exact ⟨l, hsub l List.mem_cons_self, (List.mem_filter.mp h).1⟩
      · rintro δ m9 ⟨es, ls2, o6, o8, e, hsub, rfl, rfl, hnd, hes⟩
        exact hnx _ _ ⟨es, _, _, rfl, rfl, hnd, hes⟩
    rintro _ m8 ⟨es, o6, o8, rfl, rfl, hnd, hes⟩
    have hel : es.length ≤ 8 := deeds_len hnd fun c h => let ⟨l, h1, h2⟩ := hes c h; (hls l h1).2.2 c h2
    walk_at "rl"
    intro pf hpf
    refine ⟨by omega, by omega, ?_⟩
    rw [Int.toNat_natCast]
    refine for_rng (fun i δ m' => ∃ (qs : List Part) (o6 o8 o10 o11 o12 o13 : Option D), δ = [some (.ref ha), some (.lst [.str "number", .str "truth", .str "list"]), some (.dct (gvD sg)), some (.dct (cvD cl)), some (.int many), some (.lst (ls.map lsD)), o6, some (.lst (strD (es.map L3.sg))), o8, some (.ref pf), o10, o11, o12, o13] ∧
      qs.length = i ∧ qs.map (·.nm) = lettersP.take i ∧ Own ha hb m m' pf (qs.map Part.enc) ∧ Rg ha hb m' ∧ Ext ha hb m m' ∧ ∀ (j : Nat) (p : Part), qs[j]? = some p → ∃ l, ls[j]? = some l ∧ ∃ others, PartOk p.nm l others sg cl p ∧ ∀ c ∈ others, c ∈ es) ?_ ?_
      ⟨[], o6, o8, o10, o11, _, _, rfl, rfl, rfl, Own.new X8 R8 hpf, R8.put hpf, X8.trans (Ext.put hpf), fun j p h => by have h' : ([] : List Part)[j]? = some p := h; simp at h'⟩
    · rintro i δ m9 hi ⟨qs, o6, o8, o10, o11, o12, o13, rfl, hql, hqn, O9, R9, X9, hqs⟩ nx3 hnx
      have hil : i < ls.length := by omega
      have hli : ls[i]? = some ls[i] := List.getElem?_eq_getElem hil
      have hl := hls ls[i] (List.getElem_mem hil)
      have hat : atI (ls.map lsD) ((0 : Int) + i) = some (lsD ls[i]) := by rw [Int.zero_add]; exact atI_nat (by rw [List.getElem?_map, hli]; rfl)
      walk_at "rl"
      refine ⟨szl (by rw [strD_len]; omega), lc_may (fun c => .str (L3.sg c)) (fun c => c ∉ ls[i]) R9 (fun c hcc m10 R10 C10 R r1 r2 => ?_) fun ks m10 hsub hmay R10 C10 => ?_⟩
      · walk_at "rl"
        refine ⟨_, hat, ?_⟩
        rw [show lsD ls[i] = .lst (strD (ls[i].map L3.sg)) from rfl]
        rw [ex_in_lst fl_str (strD_flat _), inD_sg]
        refine ⟨_, rfl, ?_⟩
        by_cases h : c ∈ ls[i]
        · rw [decide_eq_true h]
          simpa using r2 m10 R10 (Ch.refl _)
        · rw [decide_eq_false h]
          simp only [Bool.true_xor, Bool.not_false, if_true]
          refine nx R10 (by omega) fun r m11 a b R11 C11 => ?_
          rw [ex_eq_int]
          refine ⟨_, rfl, ?_⟩
          by_cases h0 : r = 0
          · rw [decide_eq_true h0]
            simpa using r1 m11 h R11 C11
          · rw [decide_eq_false h0]
            simpa using r2 m11 R11 C11
      · rw [show ks.map (fun c => D.str (L3.sg c)) = strD (ks.map L3.sg) from by rw [strD, List.map_map]; rfl]
        have O10 := O9.ch C10
        try walk_at "rl"
        refine ⟨lst_ref O10.at_, ?_⟩
        have hi6 : i < lettersP.length := by have : lettersP.length = 6 := rfl; omega
        obtain ⟨c, hc6, hcp⟩ : ∃ c, lettersP[i]? = some c ∧ partC c := ⟨lettersP[i], List.getElem?_eq_getElem hi6, List.getElem_mem hi6⟩
        rw [ex_ix_str, cps_parts]
        refine ⟨c, szl (by decide), by rw [Int.zero_add]; exact atI_nat hc6, _, hat, ?_⟩
        have hke : ∀ c ∈ ks, ∃ l ∈ ls, c ∈ l := fun c h => hes c (hsub.subset h)
        have hkd : ∀ c ∈ ks, deedC c := fun c h => let ⟨l, h1, h2⟩ := hke c h; (hls l h1).2.2 c h2
        have hnd2 : (ls[i] ++ ks).Nodup := by
          rw [List.nodup_append]
          exact ⟨hl.1, hnd.sublist hsub, fun a ha b hb e => hmay b hb (by subst e; exact ha)⟩
        have hall : ∀ c ∈ ls[i] ++ ks, deedC c := fun c h => (List.mem_append.mp h).elim (hl.2.2 c) (hkd c)
        refine ⟨ha, hb, c, lsD ls[i], ls[i], ks, sg, cl, rfl, rfl, R10, hcp, hnd2, deeds_len hnd2 hall, by rw [hsg]; exact hall, hg, hc, fun p e => D.noConfusion e, fun p m11 hp R11 C11 => ?_⟩
        have O11 := O10.ch C11
        refine ex_appendM O11.at_ (by rw [List.length_map]; exact szlt (by omega)) ?_
        have hpn := hp.nm
        subst hpn
        refine hnx _ _ ⟨qs ++ [p], _, _, _, _, _, _, rfl, by simp [hql], ?_, by rw [List.map_append]; exact O11.put, O11.rg R11, (((X9.trans C10.ext).trans C11.ext).over O9.n), fun j p2 h => ?_⟩
        · rw [List.map_append, hqn, List.take_add_one, hc6]; rfl
        · by_cases hj : j < qs.length
          · rw [List.getElem?_append_left hj] at h
            exact hqs j p2 h
          · have : j = qs.length := by
              have := (List.getElem?_eq_some_iff.mp h).1
              simp at this; omega
            subst this
            rw [List.getElem?_append_right (Nat.le_refl _)] at h
            simp at h
            subst h
            exact ⟨ls[i], by rw [hql]; exact hli, ks, hp, fun c h => hsub.subset h⟩
    · rintro δ m9 ⟨qs, o6, o8, o10, o11, o12, o13, rfl, hql, hqn, O9, R9, X9, hqs⟩
      walk_at "rl"
      have hok : ShelfOk sg cl qs := by
        refine ⟨by omega, by omega, by rw [hqn, hql], hsg, hcl, fun p h => ?_, fun p h a ha => ?_⟩
        · obtain ⟨j, hj⟩ := List.getElem?_of_mem h
          obtain ⟨l, h1, others, h2, _⟩ := hqs j p hj
          exact ⟨l, others, h2, (hls l (List.mem_of_getElem? h1)).2.1⟩
        · obtain ⟨j, hj⟩ := List.getElem?_of_mem h
          obtain ⟨l, h1, others, h2, h3⟩ := hqs j p hj
          obtain ⟨l2, h4, h5⟩ := hes a.1 (h3 _ (h2.ask a ha))
          obtain ⟨j2, hj2⟩ := List.getElem?_of_mem h4
          have hlt : j2 < qs.length := by have := (List.getElem?_eq_some_iff.mp hj2).1; omega
          obtain ⟨l3, h6, others2, h7, _⟩ := hqs j2 qs[j2] (List.getElem?_eq_getElem hlt)
          rw [hj2] at h6
          cases h6
          exact ⟨qs[j2], List.getElem_mem hlt, (h7.own _).mpr h5⟩
      rcases q with q | q
      · exact fzl R9 X9 O9.at_ O9.n O9.a O9.b fun m2 R2 C2 => q sg cl qs m2 hok R2 C2
      · exact fzlM R9 X9 O9.at_ O9.n O9.a O9.b fun m2 R2 C2 n2 => q sg cl qs m2 _ hok R2 C2 n2
def sp_shelf : SpD := fun ds m Q => ∃ (ha hb : Addr), ds = [.ref ha] ∧ Rg ha hb m ∧ ∀ sg cl ps m', ShelfOk sg cl ps → Rg ha hb m' → Ch ha hb m m' → Q (.lst (ps.map Part.enc)) m'
theorem F__law_shelf (T : Txt K w mg) : FnD P w K mg base "_law_shelf" 25 sp_shelf := (F__law_shelfX T).imp fun ds m Q ⟨ha, hb, e, R, q⟩ => ⟨ha, hb, e, R, .inl q⟩
end K01
/-! shelves and trees of the program -/
namespace K01
open PySem PySem.Spec PyProof.Rows L2 L3
variable {P : Program} {w : World} {K : PySem.W.Frag} {mg : Str → Option Value} {base : Heap}
theorem shp_p : getS kt_SHAPES "part" = some (.str "p") := by kernel_rfl
theorem shp_w : getS kt_SHAPES "with" = some (.str "tt") := by kernel_rfl
theorem shp_o : getS kt_SHAPES "without" = some (.str "td") := by kernel_rfl
theorem shp_a : getS kt_SHAPES "also" = some (.str "tdd") := by kernel_rfl
theorem shp_r : getS kt_SHAPES "renamed" = some (.str "tdd") := by kernel_rfl
theorem shp_v : getS kt_SHAPES "over" = some (.str "tp") := by kernel_rfl
theorem zs_p {a : D} : zipS [a] "p" = [.tup [a, .str "p"]] := by kernel_rfl
theorem zs_tt {a b : D} : zipS [a, b] "tt" = [.tup [a, .str "t"], .tup [b, .str "t"]] := by kernel_rfl
theorem zs_td {a b : D} : zipS [a, b] "td" = [.tup [a, .str "t"], .tup [b, .str "d"]] := by kernel_rfl
theorem zs_tp {a b : D} : zipS [a, b] "tp" = [.tup [a, .str "t"], .tup [b, .str "p"]] := by kernel_rfl
theorem zs_tdd {a b c : D} : zipS [a, b, c] "tdd" = [.tup [a, .str "t"], .tup [b, .str "d"], .tup [c, .str "d"]] := by kernel_rfl
theorem len_p : ("p" : Str).length = 1 := by kernel_rfl
theorem len_tt : ("tt" : Str).length = 2 := by kernel_rfl
theorem len_td : ("td" : Str).length = 2 := by kernel_rfl
theorem len_tp : ("tp" : Str).length = 2 := by kernel_rfl
theorem len_tdd : ("tdd" : Str).length = 3 := by kernel_rfl
local macro_rules | `(tactic| walk_at "rt") => `(tactic| simp only [ aIfT, lcStep, aLenSet, aOrI, shp_p, shp_w, shp_o, shp_a, shp_r, shp_v, zs_p, zs_tt, zs_td, zs_tp, zs_tdd, len_p, len_tt, len_td, len_tp, len_tdd, inD_nil, inD_cons, eqD_str, fl_str, List.all_cons, all_fl_nil, Bool.and_true, Bool.or_false, Bool.false_or, Bool.true_or, Bool.or_true, Bool.and_self, Bool.false_bne, Bool.false_xor, Bool.true_xor, aRet, aRetN, aDrop, aIfS, aSeq, aNext, aAsg, gNm, gTupD, gConsD, gNilD, aFor, ex_var0, ex_varS, aC, aOp, aCall, aCons, aNil, aTup, aLst, aB, aAnd, aOr, aNot, aAndV, aOrV, aNotV, aIf, aNeg, aChain, aKix, aKGet1, aKGet2, aDGet1, aDGet2, aNoPart, aPart, aSl, aList, aTupI, aStrI, aZipS, aYes, aLc, aNever, aBreak, aCont, forGo, lcGo,
  isi_str_str, isi_str_int, isi_str_bool, isi_str_tuple, isi_str_list, isi_int_str, isi_int_int, isi_int_bool, isi_int_tuple, isi_int_list, isi_bl_str, isi_bl_int, isi_bl_bool, isi_bl_tuple, isi_bl_list, isi_non_str, isi_non_int, isi_non_bool, isi_non_tuple, isi_non_list, isi_tup_str, isi_tup_int, isi_tup_bool, isi_tup_tuple, isi_tup_list, isi_lst_str, isi_lst_int, isi_lst_bool, isi_lst_tuple, isi_lst_list, isi_dct_str, isi_dct_int, isi_dct_bool, isi_dct_tuple, isi_dct_list, isi2_str, isi2_int, isi2_bl, isi2_non, isi2_tup, isi2_lst, isi2_dct, Option.getD_some, Option.getD_none, D.isNon, sz_0, sz_1, sz_2, sz_3, sz_4, sz_5, sz_6, sz_7, sz_8, sz_9, sz_10, sz_11, sz_12, sz_13, sz_14, sz_15, sz_16, sg_len, ex_in_sg, ex_len_str, ex_len_tup, ex_len_lst, ex_eq_str, ex_ne_str, ex_eq_int, ex_ne_int, ex_eq_ns, ex_eq_sn, ex_eq_nn, ex_ne_ns, ex_ne_sn, ex_ne_nn, ex_I, ex_add_int, ex_add_str, ex_add_tup, ex_add_lst, ex_sub, ex_mul, ex_mod, ex_div, ex_isN, ex_notN, ex_ix_tup, ex_ix_lst, ex_sl_tup, ex_sl_lst, ex_sl_str, ex_tuple_lst,
  ofs_inj, String.reduceEq, atI_0, atI_1, atI_2, atI_3, cut_1, cut_13, startD, wipeD, List.map_cons, List.map_nil, List.length_cons, List.length_nil, List.cons_append, List.nil_append, List.replicate_succ, List.replicate_zero, List.set_cons_zero, List.set_cons_succ, Nat.reduceAdd, Nat.reduceSub, Nat.sub_self,
  D.bl.injEq, D.int.injEq, D.str.injEq, D.tup.injEq, D.lst.injEq, D.dct.injEq, Option.some.injEq, List.cons.injEq, and_assoc, Int.cast_ofNat_Int, Int.reduceAdd, Int.reduceSub, Int.reduceMul, Int.reduceNeg, Int.reduceEq, Int.reduceLT, Int.reduceLE, Int.reduceNe, eq_self, exists_eq_left, exists_eq_left', exists_eq_right, exists_eq, exists_const, exists_false, false_and, and_false, false_or, or_false, true_and, and_true, if_true, if_false, Bool.false_eq_true, Bool.not_true, Bool.not_false, ite_true, ite_false, reduceCtorEq, decide_true, decide_false, decide_eq_true_eq, exists_and_left, Bool.not_eq_true])

theorem names_map (ps : List Part) : (ps.map Part.enc).filterMap hdD = strD ((ps.map (·.nm)).map sg) := by
  rw [fm_map (g := Part.enc) (f := hdD) (h := fun p => D.str (sg p.nm)) fun p _ => rfl]
  simp [strD, Function.comp_def]
theorem len_put {cs : List Nat} (h : cs.Nodup) : (putAllS (cs.map sg) []).length = cs.length := by
  rw [(putAllS_perm (sg_nodup h)).length_eq, List.length_map]
end K01
/-! the def that asks how it was refused. -/
namespace K01
open PySem PySem.Spec PyProof.Rows L2 L3
variable {P : Program} {w : World} {K : PySem.W.Frag} {mg : Str → Option Value} {base : Heap}
theorem X_BadPart (T : Txt K w mg) : ExcI P w K mg base "BadPart" (He.ga K "BadPart") "why" := excI_of T.o_BadPart sc_BadPart_init fun fI cdv A outer s H E => pss_cons (ps_expr (pe_abvinit T.o_BadPart.gP T.o_BadPart.ab (pa_cons (pv 0) (pa_cons (pv 1) pa_nil)))) (pss_one (ps_ost (pv 0) (pv 1)))
theorem kind_D (T : Txt K w mg) : DefK K mg "_law_kind" s__law_kind "_law_work" :=
  let ⟨_, _, F, hm, hb⟩ := T.d__law_kind.ex
  defK_of F hm hb
theorem is_E {n n2 : Str} {a : Addr} {d : Option Addr} {m : Mu} {Q : EK} (h : Eight K n) (h2 : n2 ∈ xNames) (b : Bool) (hb : (n == n2) = b) (hd : XdIn m d) (q : Q (.bl b) m) : spIs K (He.ga K n) a d [.ref a, .ref (He.ga K n2)] m Q :=
  ⟨_, .ref (He.ga K n2), _, rfl, fun H N v u r z => by rw [rep_ref.mp r] at z; exact z, by rw [← hb]; exact h.is n2 h2, hd, q⟩
theorem is_V {n : Str} {a : Addr} {d : Option Addr} {m : Mu} {Q : EK} (h : Eight K n) (hd : XdIn m d) (q : Q (.bl true) m) : spIs K (He.ga K n) a d [.ref a, .ty "ValueError"] m Q :=
  ⟨_, .type "ValueError", _, rfl, fun H N v u r z => by rw [rep_ty.mp r] at z; exact z, h.ve, hd, q⟩
theorem lstR {m : Mu} {p : Addr} {es : List D} (h : m p = some (.lst es)) : lstOf m (.ref p) = some es := by simp [lstOf, h]
theorem kin_ix {m : Mu} {x : D} {es : List D} (j : Nat) {Q : EK} (h : lstOf m x = some es) (hf : es.all D.flat = true) (hj : es[j]? = some (.bl true)) (he : PyData.eqv (D.bl true).pd (D.bl true).pd = true) (hn : ∀ i < j, ∀ z ∈ es[i]?, PyData.eqv z.pd (D.bl true).pd = false) (q : Q (.int (j : Nat)) m) : rhoIndex x [.bl true] m Q :=
  ⟨es, _, j, _, h, rfl, rfl, hf, hj, he, fun i z hi hz => hn i hi z hz, q⟩
local macro_rules | `(tactic| walk_at "rk") => `(tactic| simp only [ aLM, aLstM, aXf, D.ref.injEq, aRet, aRetN, aDrop, aIfS, aSeq, aNext, aAsg, gNm, gTupD, gConsD, gNilD, aFor, ex_var0, ex_varS, aC, aOp, aCall, aCons, aNil, aTup, aLst, aB, aAnd, aOr, aNot, aAndV, aOrV, aNotV, aIf, aNeg, aChain, aKix, aKGet1, aKGet2, aDGet1, aDGet2, aNoPart, aPart, aSl, aList, aTupI, aStrI, aZipS, aYes, aLc, aNever, aBreak, aCont, forGo, lcGo,
  isi_str_str, isi_str_int, isi_str_bool, isi_str_tuple, isi_str_list, isi_int_str, isi_int_int, isi_int_bool, isi_int_tuple, isi_int_list, isi_bl_str, isi_bl_int, isi_bl_bool, isi_bl_tuple, isi_bl_list, isi_non_str, isi_non_int, isi_non_bool, isi_non_tuple, isi_non_list, isi_tup_str, isi_tup_int, isi_tup_bool, isi_tup_tuple, isi_tup_list, isi_lst_str, isi_lst_int, isi_lst_bool, isi_lst_tuple, isi_lst_list, isi_dct_str, isi_dct_int, isi_dct_bool, isi_dct_tuple, isi_dct_list, isi2_str, isi2_int, isi2_bl, isi2_non, isi2_tup, isi2_lst, isi2_dct, Option.getD_some, Option.getD_none, D.isNon, sz_0, sz_1, sz_2, sz_3, sz_4, sz_5, sz_6, sz_7, sz_8, sz_9, sz_10, sz_11, sz_12, sz_13, sz_14, sz_15, sz_16, sg_len, ex_in_sg, ex_len_str, ex_len_tup, ex_len_lst, ex_eq_str, ex_ne_str, ex_eq_int, ex_ne_int, ex_eq_ns, ex_eq_sn, ex_eq_nn, ex_ne_ns, ex_ne_sn, ex_ne_nn, ex_I, ex_add_int, ex_add_str, ex_add_tup, ex_add_lst, ex_sub, ex_mul, ex_mod, ex_div, ex_isN, ex_notN, ex_ix_tup, ex_ix_lst, ex_sl_tup, ex_sl_lst, ex_sl_str, ex_tuple_lst,
  ofs_inj, String.reduceEq, atI_0, atI_1, atI_2, atI_3, cut_1, cut_13, startD, wipeD, List.map_cons, List.map_nil, List.length_cons, List.length_nil, List.cons_append, List.nil_append, List.replicate_succ, List.replicate_zero, List.set_cons_zero, List.set_cons_succ, Nat.reduceAdd, Nat.reduceSub, Nat.sub_self,
  D.bl.injEq, D.int.injEq, D.str.injEq, D.tup.injEq, D.lst.injEq, D.dct.injEq, Option.some.injEq, List.cons.injEq, and_assoc, Int.cast_ofNat_Int, Int.reduceAdd, Int.reduceSub, Int.reduceMul, Int.reduceNeg, Int.reduceEq, Int.reduceLT, Int.reduceLE, Int.reduceNe, eq_self, exists_eq_left, exists_eq_left', exists_eq_right, exists_eq, exists_const, exists_false, false_and, and_false, false_or, or_false, true_and, and_true, if_true, if_false, Bool.false_eq_true, Bool.not_true, Bool.not_false, ite_true, ite_false, reduceCtorEq, decide_true, decide_false, decide_eq_true_eq, exists_and_left, Bool.not_eq_true])

theorem kind_G (T : Txt K w mg) {X : Cx} (hK : X.K = K) (hmg : X.mg = mg) (hr : Room 2 X.A) {q : Str} (g : Addr) (cdg : Value) : LamX.GivesTo X ["_law_work", "_law_e", "_law_kinds"] "_law_kind" (defScope s__law_kind) g cdg (defBody s__law_kind) "_law_work" q (TTk X.K) := by
  subst hK hmg
  have nd := sc__law_kind.nd
  refine kind_gives (i := 1) (e := "PartError") (by kernel_rfl) T.g_PartError (by decide) sc__law_kind.nd rfl (by kernel_rfl) (fun f => rfl) T.e8 ?_ (fun s H a oe n d pn hn hz hf => have hr := hr.deeper (envOfC "_law_kind" (defScope s__law_kind) s.heap.objs.size g cdg); (ass_cons (as_asg (ae_lst (aa_cons (ae_callB (cr_isEK (T.e8 n hn).c hz hf) T.b_isinstance boot_isinstance (aa_cons (ae_var 1) (aa_cons (ae_glo (GloD.cls T.g_BadPart)) aa_nil))) (aa_cons (ae_callB (cr_isEK (T.e8 n hn).c hz hf) T.b_isinstance boot_isinstance (aa_cons (ae_var 1) (aa_cons (ae_glo (GloD.cls T.g_BadShelf)) aa_nil))) (aa_cons (ae_callB (cr_isEK (T.e8 n hn).c hz hf) T.b_isinstance boot_isinstance (aa_cons (ae_var 1) (aa_cons (ae_glo (GloD.cls T.g_BadTree)) aa_nil))) (aa_cons (ae_callB (cr_isEK (T.e8 n hn).c hz hf) T.b_isinstance boot_isinstance (aa_cons (ae_var 1) (aa_cons (ae_glo (GloD.cls T.g_NotRight)) aa_nil))) aa_nil))))) (ag_name 2 nd))
      (ass_cons (as_asg (ae_op or_addM (ae_var 2) (ae_lst (aa_cons (ae_callB (cr_isEK (T.e8 n hn).c hz hf) T.b_isinstance boot_isinstance (aa_cons (ae_var 1) (aa_cons (ae_glo (GloD.cls T.g_NotWhole)) aa_nil))) (aa_cons (ae_callB (cr_isEK (T.e8 n hn).c hz hf) T.b_isinstance boot_isinstance (aa_cons (ae_var 1) (aa_cons (ae_glo (GloD.cls T.g_BadCall)) aa_nil))) (aa_cons (ae_callB (cr_isEK (T.e8 n hn).c hz hf) T.b_isinstance boot_isinstance (aa_cons (ae_var 1) (aa_cons (ae_glo (GloD.cls T.g_Long)) aa_nil))) aa_nil))))) (ag_name 2 nd))
      (ass_cons (as_expr (ae_lm PySem.F.slot_list_append PySem.F.type_list_append mt_appendD (ae_var 2) (aa_cons (ae_callB (cr_isEK (T.e8 n hn).c hz hf) T.b_isinstance boot_isinstance (aa_cons (ae_var 1) (aa_cons (ae_glo (GloD.cls T.g_BadText)) aa_nil))) aa_nil)))
      (ass_cons (as_if (AW.t (aw_or (at_cmp (or_ne hr.units) (ae_lm PySem.F.slot_list_count PySem.F.type_list_count mt_countD (ae_var 2) (aa_cons ae_bl aa_nil)) ae_int (nomark _)) (aw_or1 (at_not (at_val (ae_callB (cr_isEK (T.e8 n hn).c hz hf) T.b_isinstance boot_isinstance (aa_cons (ae_var 1) (aa_cons (ae_ty T.b_ValueError PyProof.Rows.Boot.«ValueError») aa_nil)))))))) (ass_one (as_ret ae_str)) ass_nil)
      (ass_cons (as_if (AW.t (aw_or (at_val (ae_ix hr.u1 (ae_var 2) ae_int)) (aw_or1 (at_val (ae_ix hr.u1 (ae_var 2) ae_int))))) (ass_one (as_ret (ae_if (at_val (ae_ix hr.u1 (ae_var 2) ae_int)) (ae_tup (aa_cons ae_str (aa_cons (ae_xfK (T.e8 n hn).f ((T.e8 n hn).no "why" (by simp [xFields])) hz hf (ae_var 1)) aa_nil))) (ae_tup (aa_cons ae_str (aa_cons (ae_xfK (T.e8 n hn).f ((T.e8 n hn).no "name" (by simp [xFields])) hz hf (ae_var 1)) aa_nil)))))) ass_nil)
      (ass_cons (as_if (at_val (ae_ix hr.u1 (ae_var 2) ae_int)) (ass_one (as_ret (ae_tup (aa_cons ae_str (aa_cons (ae_xfK (T.e8 n hn).f ((T.e8 n hn).no "place" (by simp [xFields])) hz hf (ae_var 1)) aa_nil))))) ass_nil)
      (ass_one (as_ret (ae_ix hr.u1 (ae_lst (aa_cons ae_str (aa_cons ae_str (aa_cons ae_str (aa_cons ae_str (aa_cons ae_str (aa_cons ae_str (aa_cons ae_str aa_nil)))))))) (ae_lm PySem.F.slot_list_index PySem.F.type_list_index mt_indexL (ae_var 2) (aa_cons ae_bl aa_nil)))))))))))) (fun s H => rfl)
  intro a n fo d m kn xi xf
  have e := T.e8 n kn.mem
  have xip : ∀ p c, m p = none → XdIn (m.put p c) d := fun p c hp dd hd => by
    obtain ⟨vs, fs, h⟩ := xi dd hd
    exact ⟨vs, fs, by rw [Mu.put_ne (fun z => by rw [z, hp] at h; cases h)]; exact h⟩
  have kn2 : (fo = none ∧ (n = "BadShelf" ∨ n = "BadTree" ∨ n = "NotWhole" ∨ n = "BadCall" ∨ n = "Long")) ∨ ∃ x, (n = "BadPart" ∧ fo = some (("why" : Str), x)) ∨ (n = "NotRight" ∧ fo = some (("name" : Str), x)) ∨ (n = "BadText" ∧ fo = some (("place" : Str), x)) := by
    cases fo with
    | none =>
      left
      have kn : n ∈ (["BadShelf", "BadTree", "NotWhole", "BadCall", "Long"] : List Str) := kn
      simpa using kn
    | some p =>
      obtain ⟨f, x⟩ := p
      right
      have kn : (n, f) ∈ ([("BadPart", "why"), ("NotRight", "name"), ("BadText", "place")] : List (Str × Str)) := kn
      simp only [List.mem_cons, List.not_mem_nil, or_false, Prod.mk.injEq] at kn
      refine ⟨x, ?_⟩
      rcases kn with ⟨rfl, rfl⟩ | ⟨rfl, rfl⟩ | ⟨rfl, rfl⟩
      · exact .inl ⟨rfl, rfl⟩
      · exact .inr (.inl ⟨rfl, rfl⟩)
      · exact .inr (.inr ⟨rfl, rfl⟩)
  clear kn
  rcases kn2 with ⟨rfl, rfl | rfl | rfl | rfl | rfl⟩ | ⟨x, ⟨rfl, rfl⟩ | ⟨rfl, rfl⟩ | ⟨rfl, rfl⟩⟩
  all_goals walk_at "rk"
  all_goals first | refine is_E e (by decide +kernel) true (by decide +kernel) xi ?_ | refine is_E e (by decide +kernel) false (by decide +kernel) xi ?_
  all_goals first | refine is_E e (by decide +kernel) true (by decide +kernel) xi ?_ | refine is_E e (by decide +kernel) false (by decide +kernel) xi ?_
  all_goals first | refine is_E e (by decide +kernel) true (by decide +kernel) xi ?_ | refine is_E e (by decide +kernel) false (by decide +kernel) xi ?_
  all_goals first | refine is_E e (by decide +kernel) true (by decide +kernel) xi ?_ | refine is_E e (by decide +kernel) false (by decide +kernel) xi ?_
  all_goals first | refine is_E e (by decide +kernel) true (by decide +kernel) xi ?_ | refine is_E e (by decide +kernel) false (by decide +kernel) xi ?_
  all_goals first | refine is_E e (by decide +kernel) true (by decide +kernel) xi ?_ | refine is_E e (by decide +kernel) false (by decide +kernel) xi ?_
  all_goals first | refine is_E e (by decide +kernel) true (by decide +kernel) xi ?_ | refine is_E e (by decide +kernel) false (by decide +kernel) xi ?_
  all_goals refine ⟨_, _, rfl, rfl, szl (by simp), fun p hp => ?_⟩
  all_goals refine ⟨lst_ref Mu.put_same, ?_⟩
  all_goals first | refine is_E e (by decide +kernel) true (by decide +kernel) (xip p _ hp) ?_ | refine is_E e (by decide +kernel) false (by decide +kernel) (xip p _ hp) ?_
  all_goals refine ex_appendM Mu.put_same (szlt (by simp)) ?_
  all_goals rw [Mu.put_put]
  all_goals refine ⟨lst_ref Mu.put_same, _, _, lstR Mu.put_same, rfl, rfl, rfl, ?_⟩
  all_goals show rhoNe (.int ((1 : Nat) : Int)) (.int 1) _ _
  all_goals rw [ex_ne_int]
  all_goals refine ⟨false, rfl, ?_⟩
  all_goals rw [if_neg Bool.false_ne_true]
  all_goals refine is_V e (xip p _ hp) ⟨true, rfl, ?_⟩
  all_goals rw [if_neg (by simp)]
  all_goals rw [ex_ix_ref Mu.put_same]
  all_goals refine ⟨_, atI_0, ?_⟩
  · refine ⟨false, rfl, ?_⟩
    rw [if_neg Bool.false_ne_true, ex_ix_ref Mu.put_same]
    refine ⟨_, atI_3, false, rfl, ?_⟩
    rw [if_neg Bool.false_ne_true, ex_ix_ref Mu.put_same]
    refine ⟨_, atI_nat (j := 7) rfl, false, rfl, ?_⟩
    rw [if_neg Bool.false_ne_true]
    refine ⟨lst_ref Mu.put_same, kin_ix 1 (lstR Mu.put_same) rfl rfl rfl (by decide +kernel) ?_⟩
    rw [ex_ix_lst]
    exact ⟨_, atI_nat (j := 1) rfl, rfl, Sub.put hp⟩
  · refine ⟨false, rfl, ?_⟩
    rw [if_neg Bool.false_ne_true, ex_ix_ref Mu.put_same]
    refine ⟨_, atI_3, false, rfl, ?_⟩
    rw [if_neg Bool.false_ne_true, ex_ix_ref Mu.put_same]
    refine ⟨_, atI_nat (j := 7) rfl, false, rfl, ?_⟩
    rw [if_neg Bool.false_ne_true]
    refine ⟨lst_ref Mu.put_same, kin_ix 2 (lstR Mu.put_same) rfl rfl rfl (by decide +kernel) ?_⟩
    rw [ex_ix_lst]
    exact ⟨_, atI_nat (j := 2) rfl, rfl, Sub.put hp⟩
  · refine ⟨false, rfl, ?_⟩
    rw [if_neg Bool.false_ne_true, ex_ix_ref Mu.put_same]
    refine ⟨_, atI_3, false, rfl, ?_⟩
    rw [if_neg Bool.false_ne_true, ex_ix_ref Mu.put_same]
    refine ⟨_, atI_nat (j := 7) rfl, false, rfl, ?_⟩
    rw [if_neg Bool.false_ne_true]
    refine ⟨lst_ref Mu.put_same, kin_ix 4 (lstR Mu.put_same) rfl rfl rfl (by decide +kernel) ?_⟩
    rw [ex_ix_lst]
    exact ⟨_, atI_nat (j := 4) rfl, rfl, Sub.put hp⟩
  · refine ⟨false, rfl, ?_⟩
    rw [if_neg Bool.false_ne_true, ex_ix_ref Mu.put_same]
    refine ⟨_, atI_3, false, rfl, ?_⟩
    rw [if_neg Bool.false_ne_true, ex_ix_ref Mu.put_same]
    refine ⟨_, atI_nat (j := 7) rfl, false, rfl, ?_⟩
    rw [if_neg Bool.false_ne_true]
    refine ⟨lst_ref Mu.put_same, kin_ix 5 (lstR Mu.put_same) rfl rfl rfl (by decide +kernel) ?_⟩
    rw [ex_ix_lst]
    exact ⟨_, atI_nat (j := 5) rfl, rfl, Sub.put hp⟩
  · refine ⟨false, rfl, ?_⟩
    rw [if_neg Bool.false_ne_true, ex_ix_ref Mu.put_same]
    refine ⟨_, atI_3, false, rfl, ?_⟩
    rw [if_neg Bool.false_ne_true, ex_ix_ref Mu.put_same]
    refine ⟨_, atI_nat (j := 7) rfl, false, rfl, ?_⟩
    rw [if_neg Bool.false_ne_true]
    refine ⟨lst_ref Mu.put_same, kin_ix 6 (lstR Mu.put_same) rfl rfl rfl (by decide +kernel) ?_⟩
    rw [ex_ix_lst]
    exact ⟨_, atI_nat (j := 6) rfl, rfl, Sub.put hp⟩
  · obtain ⟨dd, vs, hd, hm⟩ := xf _ _ rfl
    refine ⟨true, rfl, ?_⟩
    rw [if_pos rfl, ex_ix_ref Mu.put_same]
    refine ⟨_, atI_0, true, rfl, ?_⟩
    rw [if_pos rfl]
    exact ⟨dd, hd, vs, _, by rw [Mu.put_ne (fun z => by rw [z, hp] at hm; cases hm)]; exact hm, x, rfl, rfl, Sub.put hp⟩
  · obtain ⟨dd, vs, hd, hm⟩ := xf _ _ rfl
    refine ⟨false, rfl, ?_⟩
    rw [if_neg Bool.false_ne_true, ex_ix_ref Mu.put_same]
    refine ⟨_, atI_3, true, rfl, ?_⟩
    rw [if_pos rfl, ex_ix_ref Mu.put_same]
    refine ⟨_, atI_0, false, rfl, ?_⟩
    rw [if_neg Bool.false_ne_true]
    exact ⟨dd, hd, vs, _, by rw [Mu.put_ne (fun z => by rw [z, hp] at hm; cases hm)]; exact hm, x, rfl, rfl, Sub.put hp⟩
  · obtain ⟨dd, vs, hd, hm⟩ := xf _ _ rfl
    refine ⟨false, rfl, ?_⟩
    rw [if_neg Bool.false_ne_true, ex_ix_ref Mu.put_same]
    refine ⟨_, atI_3, false, rfl, ?_⟩
    rw [if_neg Bool.false_ne_true, ex_ix_ref Mu.put_same]
    refine ⟨_, atI_nat (j := 7) rfl, true, rfl, ?_⟩
    rw [if_pos rfl]
    exact ⟨dd, hd, vs, _, by rw [Mu.put_ne (fun z => by rw [z, hp] at hm; cases hm)]; exact hm, x, rfl, rfl, Sub.put hp⟩
end K01
/-! L62: what may be refused, where it is not. -/
namespace L3
open PySem PySem.Spec PyProof.Rows L2
end L3
/-! L65: loops that may raise; what may be refused, where it is not (several classes). -/
namespace L3
open PySem PySem.Spec PyProof.Rows L2
theorem fory_inv {g : AGt} {tb : AYt} {Z : AEnds} {xq : Dt → Yw} (I : List D → Dt → Mu → Prop) (h : ∀ d ds δ m, I (d :: ds) δ m → ∀ nx : Dt → Mu → Prop, (∀ δ' m', I ds δ' m' → nx δ' m') → g d δ m fun δ2 m2 => tb { Z with nx := nx, ct := nx, bk := Z.nx } xq δ2 m2) (q : ∀ δ m, I [] δ m → Z.nx δ m) :
    ∀ {ds : List D} {δ : Dt} {m : Mu}, I ds δ m → forGoY g tb Z xq ds δ m
  | [], δ, m, i => q δ m i
  | d :: ds, δ, m, i => h d ds δ m i _ fun δ' m' i' => fory_inv I h q i'
section
variable {X : Cx} {pos : Pos} {elt tg iter : Expr} {ifs : List Expr} {scope : Scope} {own : List (Str × Nat)} {ai : AIt} {g : AGt} {tt : ATt} {te : AEt} {gt : TG}
end
end L3
/-! L66: lists of the store walked over, as they stand. -/
namespace L3
open PySem PySem.Spec PyProof.Rows L2
section
variable {X : Cx} {pos : Pos}
section
variable {elt tg iter : Expr} {ifs : List Expr} {scope : Scope} {own : List (Str × Nat)} {g : AGt} {tt : ATt} {te ti : AEt} {gt : TG}
end
/-! ### loops that may raise -/
end
section
variable {g : AGt} {tt : ATt} {te ti : AEt} {tb : ASt} {Z : AEnds} {δ : Dt} {m : Mu} {ds : List D} {d : D} {vs' : List Nat} {i : Nat}
end
end L3
/-! L67: a whole tree of all parts of a shelf, with bounds by how many deeds a part has. -/
namespace L3
open PySem PySem.Spec PyProof.Rows L2
/-- how many deeds were met already -/
def cutN (met : List Nat) (done : List Deed) : Nat := (done.filter fun d => decide (d.c ∈ met)).length
theorem cutN_le (met : List Nat) (done : List Deed) : cutN met done ≤ done.length := List.length_filter_le _ _
theorem cutN_skip {met : List Nat} {done : List Deed} {d : Deed} (h : d.c ∉ met) : cutN met (done ++ [d]) = cutN met done := by unfold cutN; simp [h]
theorem cutN_cut {met : List Nat} {done : List Deed} {d : Deed} (h : d.c ∈ met) : cutN met (done ++ [d]) = cutN met done + 1 := by unfold cutN; simp [h]
/-- a part of which what is met already is left out, so far -/
structure WhO (sh : Nat → Sh) (ns : List Nat) (p : Part) (met : List Nat) (done : List Deed) (t : Tr) : Prop where
  wf : t.wf ns
  dep : t.dep ≤ 1 + cutN met done
  size : t.size ≤ 1 + cutN met done
  nb : t.nb ≤ 8
  fm : ∀ c f, (putT sh t).fm c f ↔ (sh p.nm).fm c f ∧ ¬ (c ∈ met ∧ c ∈ done.map (·.c))
  ck : ∀ c k, (putT sh t).ck c k ↔ (sh p.nm).ck c k
section
variable {sh : Nat → Sh} {ns : List Nat} {p : Part} {met : List Nat} {done : List Deed} {t : Tr} {d : Deed}
theorem WhO.start (hp : p.nm ∈ ns) : WhO sh ns p met [] (.part p.nm) := ⟨hp, by simp [Tr.dep, cutN], by simp [Tr.size, cutN], by simp [Tr.nb], fun c f => by simp [putT], fun c k => Iff.rfl⟩
theorem WhO.skip (h : WhO sh ns p met done t) (hd : d.c ∉ met) : WhO sh ns p met (done ++ [d]) t := ⟨h.wf, by have := h.dep; rw [cutN_skip hd]; omega, by have := h.size; rw [cutN_skip hd]; omega, h.nb, fun c f => by
  rw [h.fm]
  refine and_congr Iff.rfl (not_congr ⟨fun z => ⟨z.1, by rw [List.map_append]; exact List.mem_append_left _ z.2⟩, fun z => ⟨z.1, ?_⟩⟩)
  have h2 := z.2
  rw [List.map_append] at h2
  rcases List.mem_append.mp h2 with h3 | h3
  · exact h3
  · have : c = d.c := by simpa using h3
    rw [this] at z; exact absurd z.1 hd, h.ck⟩
theorem WhO.cut (h : WhO sh ns p met done t) (hd : d.c ∈ met) (hc : deedC d.c) : WhO sh ns p met (done ++ [d]) (.wout t d.c) := ⟨⟨h.wf, hc⟩, by have := h.dep; rw [cutN_cut hd]; simp [Tr.dep]; omega, by have := h.size; rw [cutN_cut hd]; simp [Tr.size]; omega, h.nb, fun c f => by
  rw [wout_fm, h.fm, and_assoc]
  refine and_congr Iff.rfl ⟨fun ⟨z1, z2⟩ z => ?_, fun z => ⟨fun z1 => z ⟨z1.1, by rw [List.map_append]; exact List.mem_append_left _ z1.2⟩, fun e => z ⟨by rw [e]; exact hd, by rw [e]; simp⟩⟩⟩
  have h2 := z.2
  rw [List.map_append] at h2
  rcases List.mem_append.mp h2 with h3 | h3
  · exact z1 ⟨z.1, h3⟩
  · exact z2 (by simpa using h3), fun c k => by rw [wout_ck, h.ck]⟩
end
structure WhN (n : Nat) (sh : Nat → Sh) (ns : List Nat) (qs : List Part) (met : List Nat) (t : Tr) : Prop where
  wf : t.wf ns
  dep : t.dep ≤ n + qs.length
  size : t.size + 1 ≤ (n + 2) * qs.length
  nb : t.nb ≤ 8 * qs.length
  nd : met.Nodup
  met_ : ∀ c, c ∈ met ↔ ∃ p ∈ qs, c ∈ p.ds.map (·.c)
  has : ∀ c ∈ met, ∃ f, (putT sh t).fm c f
  one : ∀ c x y, (putT sh t).fm c x → (putT sh t).fm c y → x = y
  of : ∀ c f, (putT sh t).fm c f → ∃ p ∈ qs, (shOf p).fm c f
  ck : ∀ c k, (putT sh t).ck c k → ∃ p ∈ qs, (shOf p).ck c k
  ckr : ∀ p ∈ qs, ∀ c k, (shOf p).ck c k → (putT sh t).ck c k
section
variable {sh : Nat → Sh} {ns : List Nat} {p : Part} {met : List Nat} {t one : Tr} {qs : List Part}
theorem WhN.first {n : Nat} (hsh : sh p.nm = shOf p) (hn : (p.ds.map (·.c)).Nodup) (h : WhO sh ns p [] p.ds one) : WhN n sh ns [p] (metD [] p.ds) one := by
  have hf : ∀ c f, (putT sh one).fm c f ↔ (shOf p).fm c f := fun c f => by rw [h.fm, hsh]; simp
  have e0 : cutN [] p.ds = 0 := by unfold cutN; simp
  have hdp := h.dep
  have hsz := h.size
  rw [e0] at hdp hsz
  refine ⟨h.wf, by simp; omega, by simp; omega, by have := h.nb; simp; omega, metD_nd List.nodup_nil hn, fun c => ?_, fun c hc => ?_, fun c x y h1 h2 => shOf_one hn ((hf c x).mp h1) ((hf c y).mp h2), fun c f h1 => ⟨p, by simp, (hf c f).mp h1⟩, fun c k h1 => ⟨p, by simp, by rw [← hsh]; exact (h.ck c k).mp h1⟩, fun q hq c k h1 => by rw [List.mem_singleton.mp hq, ← hsh] at h1; exact (h.ck c k).mpr h1⟩
  · rw [metD_mem]; simp
  · rcases metD_mem.mp hc with z | z
    · cases z
    · obtain ⟨d, hd, e⟩ := List.mem_map.mp z
      exact ⟨_, (hf c _).mpr (shOf_fm.mpr ⟨d, hd, e.symm, rfl⟩)⟩
theorem WhN.more {n : Nat} (hok : (putT sh t).ok) (hsh : sh p.nm = shOf p) (hn : (p.ds.map (·.c)).Nodup) (h4 : p.ds.length ≤ n) (hq : 1 ≤ qs.length) (g : WhN n sh ns qs met t) (h : WhO sh ns p met p.ds one) : WhN n sh ns (qs ++ [p]) (metD met p.ds) (.wth t one) := by
  have hf : ∀ c f, (putT sh (.wth t one)).fm c f ↔ (putT sh t).fm c f ∨ ((shOf p).fm c f ∧ c ∉ met) := fun c f => by
    rw [wth_fm hok, h.fm, hsh]
    refine or_congr Iff.rfl ⟨fun z => ⟨z.1, fun m => z.2 ⟨m, ?_⟩⟩, fun z => ⟨z.1, fun m => z.2 m.1⟩⟩
    obtain ⟨d, hd, e, _⟩ := shOf_fm.mp z.1
    exact List.mem_map.mpr ⟨d, hd, e.symm⟩
  have old : ∀ c f, (putT sh t).fm c f → c ∈ met := fun c f z => by
    obtain ⟨q, hq, z2⟩ := g.of c f z
    obtain ⟨d, hd, e, _⟩ := shOf_fm.mp z2
    exact (g.met_ c).mpr ⟨q, hq, List.mem_map.mpr ⟨d, hd, e.symm⟩⟩
  refine ⟨⟨g.wf, h.wf⟩, ?_, ?_, ?_, metD_nd g.nd hn, fun c => ?_, fun c hc => ?_, fun c x y h1 h2 => ?_, fun c f h1 => ?_, fun c k h1 => ?_, fun q hq c k h1 => ?_⟩
  · have := g.dep; have := h.dep; have := cutN_le met p.ds; simp [Tr.dep]; omega
  · have := g.size; have := h.size; have := cutN_le met p.ds; rw [List.length_append, List.length_singleton, Nat.mul_succ]; simp only [Tr.size]; omega
  · have := g.nb; have := h.nb; simp [Tr.nb]; omega
  · rw [metD_mem, g.met_]
    constructor
    · rintro (⟨q, h1, h2⟩ | z)
      · exact ⟨q, List.mem_append_left _ h1, h2⟩
      · exact ⟨p, by simp, z⟩
    · rintro ⟨q, h1, h2⟩
      rcases List.mem_append.mp h1 with z | z
      · exact .inl ⟨q, z, h2⟩
      · have : q = p := by simpa using z
        subst this; exact .inr h2
  · by_cases hm : c ∈ met
    · obtain ⟨f, z⟩ := g.has c hm
      exact ⟨f, (hf c f).mpr (.inl z)⟩
    · rcases metD_mem.mp hc with z | z
      · exact absurd z hm
      · obtain ⟨d, hd, e⟩ := List.mem_map.mp z
        exact ⟨_, (hf c _).mpr (.inr ⟨shOf_fm.mpr ⟨d, hd, e.symm, rfl⟩, hm⟩)⟩
  · rcases (hf c x).mp h1 with z1 | z1 <;> rcases (hf c y).mp h2 with z2 | z2
    · exact g.one c x y z1 z2
    · exact absurd (old c x z1) z2.2
    · exact absurd (old c y z2) z1.2
    · exact shOf_one hn z1.1 z2.1
  · rcases (hf c f).mp h1 with z | z
    · obtain ⟨q, h3, h4⟩ := g.of c f z
      exact ⟨q, List.mem_append_left _ h3, h4⟩
    · exact ⟨p, by simp, z.1⟩
  · rcases (wth_ck hok).mp h1 with z | z
    · obtain ⟨q, h3, h4⟩ := g.ck c k z
      exact ⟨q, List.mem_append_left _ h3, h4⟩
    · exact ⟨p, by simp, by rw [← hsh]; exact (h.ck c k).mp z⟩
  · refine (wth_ck hok).mpr ?_
    rcases List.mem_append.mp hq with z | z
    · exact .inl (g.ckr q z c k h1)
    · rw [List.mem_singleton.mp z, ← hsh] at h1
      exact .inr ((h.ck c k).mpr h1)
end
end L3
/-! L69: sorted lists, into the store. -/
namespace L3
open PySem PySem.Spec PyProof.Rows L2
open PySem.Calls
open PySem.W (AllAlike Sortable dataLe)
section
variable {X : Cx} {pos : Pos}
end
end L3
/-! L70: the least of a list of alike data. -/
namespace L3
open PySem PySem.Spec PyProof.Rows L2
open PySem.W (AlikeAll minD min_list_data)
section
variable {X : Cx} {pos : Pos}
end
end L3
/-! L71: the least list of names, by length and then by the names. -/
namespace L3
open PySem PySem.Spec PyProof.Rows L2
open PySem.W (AlikeAll minD dataLt keyToks keyToksAll alike alikeAll rowLt dataLt_cons dataLt_str dataLt_int dataLt_tuple dataLt_list)
theorem lt_trans {a b c : PyData} (h1 : dataLt a b = true) (h2 : dataLt b c = true) : dataLt a c = true := lex_trans _ _ _ h1 h2
theorem minD_least : ∀ (xs : List PyData) (x : PyData), ∀ e ∈ x :: xs, dataLt e (minD x xs) = false
  | [], x => by
    intro e he
    rw [List.mem_singleton.mp he]
    exact lex_irrefl _
  | y :: ys, x => by
    have e0 : minD x (y :: ys) = minD (if dataLt y x then y else x) ys := rfl
    have ih := minD_least ys (if dataLt y x then y else x)
    rw [e0]
    generalize minD (if dataLt y x then y else x) ys = M at ih ⊢
    intro e he
    cases hyx : dataLt y x with
    | true =>
      rw [hyx] at ih
      rcases List.mem_cons.mp he with h | h
      · rw [h]
        cases hx : dataLt x M with
        | false => rfl
        | true =>
          have := ih y (by simp)
          rw [lt_trans hyx hx] at this; cases this
      · exact ih e h
    | false =>
      rw [hyx] at ih
      rcases List.mem_cons.mp he with h | h
      · rw [h]; exact ih x (by simp)
      rcases List.mem_cons.mp h with h | h
      · rw [h]
        have hxM := ih x (by simp)
        cases hy : dataLt y M with
        | false => rfl
        | true =>
          cases hxy : dataLt x y with
          | true => rw [lt_trans hxy hy] at hxM; cases hxM
          | false =>
            have e1 : keyToks y = keyToks x := lex_total (O := PyProof.Rows.itemOrd) _ _ hyx hxy
            have e2 : dataLt y M = dataLt x M := by unfold dataLt; rw [e1]
            rw [e2, hxM] at hy; cases hy
      · exact ih e (List.mem_cons_of_mem _ h)
/-- names, the less first -/
def strsP (l : List Nat) : List PyData := l.map fun c => .str (sg c)
def ltN (a b : List Nat) : Bool := rowLt (strsP a) (strsP b)
theorem ltN_cons {a b : Nat} {as bs : List Nat} : ltN (a :: as) (b :: bs) = if a = b then ltN as bs else decide (a < b) := by
  unfold ltN rowLt strsP
  rw [List.map_cons, List.map_cons, dataLt_cons (by rfl)]
  have e : PyData.eqv (.str (sg a)) (.str (sg b)) = decide (a = b) := by
    simp only [PyData.eqv]
    rw [Bool.eq_iff_iff]
    simp [sg_inj]
  rw [e]
  by_cases h : a = b
  · rw [decide_eq_true h, if_pos rfl, if_pos h]
  · rw [decide_eq_false h, if_neg Bool.false_ne_true, if_neg h, dataLt_str]
    show decide ([a] < [b]) = _
    rw [decide_eq_decide, List.cons_lt_cons_iff]
    simp
theorem alike_strs : ∀ a b : List Nat, alikeAll (strsP a) (strsP b) = true
  | [], _ => by simp [strsP, alikeAll]
  | _ :: _, [] => by simp [strsP, alikeAll]
  | a :: as, b :: bs => by
    have ih := alike_strs as bs
    unfold strsP at ih ⊢
    simp only [List.map_cons, alikeAll, alike, Bool.true_and]
    exact ih
/-- a list of names behind their number -/
def rowN (l : List Nat) : D := .tup [.int l.length, .lst (strD (l.map sg))]
theorem pds_strs : ∀ l : List Nat, pds (strD (l.map sg)) = strsP l
  | [] => rfl
  | c :: l => by
    show D.pd (.str (sg c)) :: pds (strD (l.map sg)) = _
    rw [pds_strs l]; rfl
theorem rowN_pd (l : List Nat) : (rowN l).pd = .tuple [.int l.length, .list (strsP l)] := by
  rw [← pds_strs]; rfl
theorem row_lt_len {k l : List Nat} (h : k.length < l.length) : dataLt (rowN k).pd (rowN l).pd = true := by
  rw [rowN_pd, rowN_pd, dataLt_tuple, dataLt_cons (by rfl), dataLt_int]
  have e : PyData.eqv (.int (k.length : Int)) (.int (l.length : Int)) = false := by
    simp only [PyData.eqv, beq_eq_false_iff_ne, ne_eq]; omega
  rw [e, if_neg Bool.false_ne_true]
  exact decide_eq_true (by omega)
theorem row_lt_same {k l : List Nat} (h : k.length = l.length) (e : ltN k l = true) : dataLt (rowN k).pd (rowN l).pd = true := by
  rw [rowN_pd, rowN_pd, dataLt_tuple, dataLt_cons (by rfl)]
  have e1 : PyData.eqv (.int (k.length : Int)) (.int (l.length : Int)) = true := by rw [h]; simp [PyData.eqv]
  have al : alike (.list (strsP k)) (.list (strsP l)) = true := by simp [alike, alike_strs]
  rw [e1, if_pos rfl, dataLt_cons al, dataLt_list]
  cases e2 : PyData.eqv (.list (strsP k)) (.list (strsP l)) with
  | false => rw [if_neg Bool.false_ne_true]; exact e
  | true =>
    have := (PySem.W.toks_eqv _ _ al).1 e2
    unfold ltN rowLt at e
    have e3 : keyToksAll (strsP k) = keyToksAll (strsP l) := this
    rw [e3, lex_irrefl] at e
    cases e
theorem listsOf_pw : ∀ (n : Nat) (ns : List Nat), ns.Pairwise (· < ·) → (listsOf n ns).Pairwise fun a b => ltN a b = true
  | 0, ns, _ => by rw [listsOf]; exact List.pairwise_singleton _ _
  | n + 1, [], _ => by rw [listsOf]; exact List.Pairwise.nil
  | n + 1, c :: cs, h => by
    obtain ⟨h1, h2⟩ := List.pairwise_cons.mp h
    rw [listsOf, List.pairwise_append]
    refine ⟨?_, listsOf_pw (n + 1) cs h2, fun a ha b hb => ?_⟩
    · rw [List.pairwise_map]
      exact (listsOf_pw n cs h2).imp fun h => by rw [ltN_cons, if_pos rfl]; exact h
    · obtain ⟨a', _, rfl⟩ := List.mem_map.mp ha
      obtain ⟨hb1, hb2⟩ := mem_listsOf.mp hb
      cases b with
      | nil => cases hb2
      | cons y b =>
        have := h1 y (hb1.subset List.mem_cons_self)
        rw [ltN_cons, if_neg (by omega)]
        exact decide_eq_true this
/-- the first list, by length and then as they come, with which it is whole -/
structure First (W : List Nat → Prop) (ns l : List Nat) : Prop where
  w : W l
  no : ∀ k : List Nat, k.Sublist ns → k.length < l.length → ¬ W k
  ex : ∃ dn xs, listsOf l.length ns = dn ++ l :: xs ∧ ∀ k ∈ dn, ¬ W k
theorem First.sub {W : List Nat → Prop} {ns l : List Nat} (h : First W ns l) : l.Sublist ns := by
  obtain ⟨dn, xs, e, _⟩ := h.ex
  exact (mem_listsOf.mp (by rw [e]; simp : l ∈ listsOf l.length ns)).1
theorem First.less {W : List Nat → Prop} {ns l : List Nat} (h : First W ns l) (hr : ns.Pairwise (· < ·)) {k : List Nat} (hk : k.Sublist ns) (hw : W k) (ne : k ≠ l) : dataLt (rowN l).pd (rowN k).pd = true := by
  rcases Nat.lt_trichotomy k.length l.length with q | q | q
  · exact absurd hw (h.no k hk q)
  · obtain ⟨dn, xs, e, hd⟩ := h.ex
    have hm : k ∈ listsOf l.length ns := mem_listsOf.mpr ⟨hk, q⟩
    have pw := listsOf_pw l.length ns hr
    rw [e] at hm pw
    rcases List.mem_append.mp hm with z | z
    · exact absurd hw (hd k z)
    rcases List.mem_cons.mp z with z | z
    · exact absurd z ne
    · exact row_lt_same q.symm ((List.pairwise_cons.mp (List.pairwise_append.mp pw).2.1).1 k z)
  · exact row_lt_len q
/-- the least of those found -/
theorem First.min {W : List Nat → Prop} {ns l : List Nat} (h : First W ns l) (hr : ns.Pairwise (· < ·)) {f : List Nat} {fs : List (List Nat)} (hf : ∀ k ∈ f :: fs, k.Sublist ns ∧ W k) (hl : l ∈ f :: fs) {d : D} (hd : d ∈ (f :: fs).map rowN) (e : d.pd = minD (rowN f).pd (pds (fs.map rowN))) : d = rowN l := by
  obtain ⟨k, hk, rfl⟩ := List.mem_map.mp hd
  by_cases ne : k = l
  · rw [ne]
  obtain ⟨h1, h2⟩ := hf k hk
  have lt := h.less hr h1 h2 ne
  have pm : ∀ fs : List (List Nat), pds (fs.map rowN) = fs.map fun k => (rowN k).pd := fun fs => by
    induction fs with
    | nil => rfl
    | cons a as ih =>
      show D.pd (rowN a) :: pds (as.map rowN) = _
      rw [ih]; rfl
  have := minD_least (pds (fs.map rowN)) (rowN f).pd (rowN l).pd (by
    rw [pm]
    rcases List.mem_cons.mp hl with z | z
    · rw [z]; exact List.mem_cons_self
    · exact List.mem_cons_of_mem _ (List.mem_map.mpr ⟨l, z, rfl⟩))
  rw [← e, lt] at this
  cases this
theorem First.congr {W W' : List Nat → Prop} {ns l : List Nat} (h : First W ns l) (e : ∀ k : List Nat, k.Sublist ns → (W k ↔ W' k)) : First W' ns l := by
  refine ⟨(e l h.sub).mp h.w, fun k hk hl hw => h.no k hk hl ((e k hk).mpr hw), ?_⟩
  obtain ⟨dn, xs, e1, hd⟩ := h.ex
  exact ⟨dn, xs, e1, fun k hk hw => hd k hk ((e k (mem_listsOf.mp (by rw [e1]; exact List.mem_append_left _ hk : k ∈ listsOf l.length ns)).1).mpr hw)⟩
end L3
/-! L72: what is walked over: a list of the store or a tuple. -/
namespace L3
open PySem PySem.Spec PyProof.Rows L2
section
variable {X : Cx} {pos : Pos}
section
variable {elt tg iter : Expr} {ifs : List Expr} {scope : Scope} {own : List (Str × Nat)} {g : AGt} {tt : ATt} {te ti : AEt} {gt : TG}
end
end
section
variable {g : AGt} {tt : ATt} {te ti : AEt} {tb : ASt} {Z : AEnds} {δ : Dt} {m : Mu} {ds : List D} {d : D} {vs' : List Nat}
end
end L3
/-! L73: split into the store; a text times a number. -/
namespace L3
open PySem PySem.Spec PyProof.Rows L2
section
variable {X : Cx} {pos apos : Pos} {o e : Expr} {to te : AEt}
end
end L3
/-! L74: trees read of any words. -/
namespace L3
open PySem PySem.Spec PyProof.Rows L2
/-- the word at a place, an empty text behind the last one -/
def wd (ws : List Str) (k : Nat) : Str := ws[k]?.getD ""
/-- what an arm is: a tree, a deed, a part -/
inductive So | t | d | p
  deriving DecidableEq
def So.ls : So → List Nat
  | .t => []
  | .d => [97, 98, 99, 100, 101, 102, 103, 104]
  | .p => [65, 66, 67, 68, 69, 70]
def isIn (x : Str) (l : List Nat) : Bool := l.any fun c => decide (x = sg c)
def shW (x : Str) : Option (List So) :=
  if x = ("part" : Str) then some [.p] else if x = ("with" : Str) then some [.t, .t] else if x = ("without" : Str) then some [.t, .d] else if x = ("also" : Str) then some [.t, .d, .d]
  else if x = ("renamed" : Str) then some [.t, .d, .d] else if x = ("over" : Str) then some [.t, .p] else none
def rdA (r : Nat → Option D × Nat) (ws : List Str) : List So → Nat → Option (List D) × Nat
  | [], k => (some [], k)
  | .t :: cs, k => match r k with
    | (none, p) => (none, p)
    | (some d, p) => match rdA r ws cs p with
      | (none, q) => (none, q)
      | (some ds, q) => (some (d :: ds), q)
  | .d :: cs, k => if isIn (wd ws k) (So.ls .d) = true then (match rdA r ws cs (k + 1) with
      | (none, q) => (none, q)
      | (some ds, q) => (some (.str (wd ws k) :: ds), q)) else (none, k + 1)
  | .p :: cs, k => if isIn (wd ws k) (So.ls .p) = true then (match rdA r ws cs (k + 1) with
      | (none, q) => (none, q)
      | (some ds, q) => (some (.str (wd ws k) :: ds), q)) else (none, k + 1)
def rd (ws : List Str) : Nat → Nat → Option D × Nat
  | 0, k => (none, k + 1)
  | n + 1, k => match shW (wd ws k) with
    | none => (none, k + 1)
    | some l => match rdA (rd ws n) ws l (k + 1) with
      | (none, q) => (none, q)
      | (some ds, q) => (some (.tup (.str (wd ws k) :: ds)), q)
theorem isIn_len {x : Str} {l : List Nat} (h : x.length ≠ 1) : isIn x l = false := by
  rw [isIn, List.any_eq_false]
  intro c _ e
  rw [of_decide_eq_true e] at h
  exact h rfl
theorem isIn_one {c : Nat} {l : List Nat} : isIn (sg c) l = decide (c ∈ l) := by
  by_cases h : c ∈ l
  · rw [decide_eq_true h]; exact List.any_eq_true.mpr ⟨c, h, decide_eq_true rfl⟩
  · rw [decide_eq_false h, isIn, List.any_eq_false]
    intro d hd e
    have := of_decide_eq_true e
    rw [sg_inj] at this
    subst this
    exact h hd
theorem isIn_sg {x : Str} {l : List Nat} (h : isIn x l = true) : ∃ c ∈ l, x = sg c := by
  obtain ⟨c, h1, h2⟩ := List.any_eq_true.mp h
  exact ⟨c, h1, of_decide_eq_true h2⟩
/-- what is read well -/
structure Rdd (ws : List Str) (n k : Nat) (d : D) (q : Nat) (t : Tr) : Prop where
  e : d = t.enc
  wf : t.wf [65, 66, 67, 68, 69, 70]
  dep : t.dep ≤ n
  at_ : ws.drop k = t.ws ++ ws.drop q
  qe : q = k + t.ws.length
  le : q ≤ ws.length
theorem Rdd.all {ws : List Str} {n : Nat} {d : D} {t : Tr} (h : Rdd ws n 0 d ws.length t) : ws = t.ws := by
  have := h.at_
  rw [List.drop_zero, List.drop_length, List.append_nil] at this
  exact this
end L3
/-! L75: texts of words, changed. -/
namespace L3
open PySem PySem.Spec PyProof.Rows L2
/-- a text's words -/
structure WsOk (n : Nat) (ws : List Str) : Prop where
  ne : ws ≠ []
  len : ws.length ≤ n
  w : ∀ x ∈ ws, isW x
  l : ∀ x ∈ ws, x.length ≤ 7
theorem WsOk.tw {n : Nat} {ws : List Str} (h : WsOk n ws) : tw ws ≤ 8 * n := by
  have h1 := tw_le (n := 7) h.l
  have h2 := h.len
  omega
theorem WsOk.split {n : Nat} {ws : List Str} (h : WsOk n ws) : PySem.Txt.split (J ws) " " = ws := J_split h.ne h.w
theorem WsOk.mono {n k : Nat} {ws : List Str} (h : WsOk n ws) (g : n ≤ k) : WsOk k ws := ⟨h.ne, Nat.le_trans h.len g, h.w, h.l⟩
end L3
/-! L76: == of deep data with shallow data; bodies read of any words. -/
namespace L3
open PySem PySem.Spec PyProof.Rows L2
section
variable {X : Cx} {m : Mu} {Q : EK}
end
/-! ### numbers -/
/-- the number that a word writes -/
def numW (w : Str) : Option Int := ((List.range 1999).map fun n : Nat => ((n : Int) - 999 : Int)).find? fun i => decide (ist i = w)
end L3
/-! L77: bodies read of any words. -/
namespace L3
open PySem PySem.Spec PyProof.Rows L2
/-! ### words and their arms -/
inductive Bo | x | n | t | c | d
  deriving DecidableEq
def shTab : List (Str × List Bo) := [("number", [.n]), ("truth", [.t]), ("empty", []), ("argument", []), ("cell", [.c]), ("plus", [.x, .x]), ("less", [.x, .x]), ("times", [.x, .x]), ("below", [.x, .x]), ("same", [.x, .x]), ("not", [.x]), ("and", [.x, .x]), ("if", [.x, .x, .x]),
  ("put", [.x, .x]), ("first", [.x]), ("rest", [.x]), ("many", [.x]), ("set", [.c, .x]), ("then", [.x, .x]), ("call", [.d, .x])]
def shB (w : Str) : Option (List Bo) := (shTab.find? fun p => decide (p.1 = w)).map (·.2)
def armB : Bo → Str → Option D
  | .x, _ => none
  | .n, w => (numW w).map .int
  | .t, w => if w = ("True" : Str) then some (.bl true) else if w = ("False" : Str) then some (.bl false) else none
  | .c, w => if isIn w [112, 113, 114, 115] = true then some (.str w) else none
  | .d, w => if isIn w [97, 98, 99, 100, 101, 102, 103, 104] = true then some (.str w) else none
def one (r : Nat → Option D × Nat) (ws : List Str) (s : Bo) (k : Nat) : Option D × Nat := if s = .x then r k else (armB s (wd ws k), k + 1)
theorem shB_mem {w : Str} {l : List Bo} (h : shB w = some l) : (w, l) ∈ shTab := by
  unfold shB at h
  cases e : shTab.find? fun p => decide (p.1 = w) with
  | none => rw [e] at h; cases h
  | some p =>
    rw [e] at h
    cases h
    have h1 := List.find?_some e
    have h2 := List.mem_of_find?_eq_some e
    have : p.1 = w := of_decide_eq_true h1
    rw [← this]
    exact h2
/-- a body whose numbers may be greater -/
def Bd.wfr : Bd → Prop
  | .num i => -999 ≤ i ∧ i ≤ 999
  | .cel c => cellC c
  | .un _ a => a.wfr
  | .bin _ a b => a.wfr ∧ b.wfr
  | .ite a b c => a.wfr ∧ b.wfr ∧ c.wfr
  | .set c a => cellC c ∧ a.wfr
  | .cal d a => deedC d ∧ a.wfr
  | _ => True
/-! ### how many words; a great number for none -/
/-- words that have bodies as arms -/
def inner (w : Str) : Bool := match shB w with
  | some l => l.any fun s => decide (s = .x)
  | none => false
def xc : List Str → Nat
  | [] => 0
  | w :: ws => (if inner w = true then 1 else 0) + xc ws
theorem xc_drop : ∀ (ws : List Str) (k : Nat), xc (ws.drop k) ≤ xc ws
  | [], k => by simp [xc]
  | w :: ws, 0 => Nat.le_refl _
  | w :: ws, k + 1 => by
    rw [List.drop_succ_cons, xc]
    have := xc_drop ws k
    omega
end L3
/-! L78: texts cut; what a text may come to by changes of its signs, words, rows. -/
namespace L3
open PySem PySem.Spec PyProof.Rows L2
theorem str_tl {x y : Str} (h : x.cps.toList = y.cps.toList) : x = y := str_ext h
/-- the signs' sets, sorted -/
theorem sset_any {cs : List Nat} {ys : List Str} (p : ys.Perm (putAllS (cs.map sg) [])) (s : sortedS ys = true) : ∃ es : List Nat, ys = es.map sg ∧ (∀ c ∈ es, c ∈ cs) ∧ Rsg es := by
  have nd : ys.Nodup := p.nodup_iff.mpr (putAllS_nodup _ [] List.nodup_nil)
  have sub : ∀ y ∈ ys, y ∈ cs.map sg := fun y hy => by
    have := p.mem_iff.mp hy
    rw [putAllS_mem] at this
    simpa using this
  have ex : ∀ zs : List Str, (∀ y ∈ zs, y ∈ cs.map sg) → ∃ es : List Nat, zs = es.map sg ∧ ∀ c ∈ es, c ∈ cs := fun zs => by
    induction zs with
    | nil => intro _; exact ⟨[], rfl, by simp⟩
    | cons z zs ih =>
      intro h
      obtain ⟨es, rfl, h2⟩ := ih fun y hy => h y (List.mem_cons_of_mem _ hy)
      obtain ⟨c, hc, rfl⟩ := List.mem_map.mp (h z List.mem_cons_self)
      exact ⟨c :: es, rfl, fun d hd => (List.mem_cons.mp hd).elim (fun e => by rw [e]; exact hc) (h2 d)⟩
  obtain ⟨es, rfl, h2⟩ := ex ys sub
  refine ⟨es, rfl, h2, ?_⟩
  have so := sorted_sg s
  have nd2 : es.Nodup := by
    rw [List.nodup_iff_pairwise_ne] at nd ⊢
    exact (List.pairwise_map.mp nd).imp fun ne e => ne (by rw [e])
  rw [List.nodup_iff_pairwise_ne] at nd2
  exact (so.and nd2).imp fun ⟨a, b⟩ => by omega
theorem map_sg_inj : ∀ {a b : List Nat}, a.map sg = b.map sg → a = b
  | [], [], _ => rfl
  | [], _ :: _, h => by cases h
  | _ :: _, [], h => by cases h
  | x :: a, y :: b, h => by
    rw [List.map_cons, List.map_cons] at h
    injection h with h1 h2
    rw [sg_inj] at h1
    rw [h1, map_sg_inj h2]
theorem ex_eq_cs {a b : List Nat} {m : Mu} {R : EK} (ha : ∀ c ∈ a, c < 1114112) (hb : ∀ c ∈ b, c < 1114112) : rhoEq (.lst (strD (a.map sg))) (.lst (strD (b.map sg))) m R = R (.bl (decide (a = b))) m := by
  refine ex_eq_of (by exact strsOk ha) (by exact strsOk hb) ?_
  have key : ∀ a b : List Nat, PyData.eqvAll (pds (strD (a.map sg))) (pds (strD (b.map sg))) = decide (a = b) := fun a => by
    induction a with
    | nil =>
      intro b
      cases b with
      | nil => rfl
      | cons y b => rfl
    | cons x a ih =>
      intro b
      cases b with
      | nil => rfl
      | cons y b =>
        show (PyData.eqv (D.pd (.str (sg x))) (D.pd (.str (sg y))) && PyData.eqvAll (pds (strD (a.map sg))) (pds (strD (b.map sg)))) = _
        rw [ih, show PyData.eqv (D.pd (.str (sg x))) (D.pd (.str (sg y))) = decide (sg x = sg y) from eqD_str]
        simp [sg_inj]
  show eqD (.lst _) (.lst _) = _
  simp only [eqD, D.pd, PyData.eqv]
  exact key a b
end L3
/-! L79: texts by rows and words; how often words with arms stand in them. -/
namespace L3
open PySem PySem.Spec PyProof.Rows L2
/-! ### any text by its parts -/
def consS (c : Nat) (z : Str) : Str := ⟨(c :: z.cps.toList).toArray⟩
theorem consS_tl (c : Nat) (z : Str) : (consS c z).cps.toList = c :: z.cps.toList := rfl
theorem parts_ex (s : Nat) (sep : Str) (hs : sep.cps.toList = [s]) : ∀ cl : List Nat, ∃ ps : List Str, ps ≠ [] ∧ (∀ p ∈ ps, s ∉ p.cps.toList) ∧ (PySem.Txt.join sep ps).cps.toList = cl
  | [] => ⟨[""], by simp, fun p hp => by rw [List.mem_singleton.mp hp, show ("" : Str).cps.toList = [] by decide +kernel]; simp, by rw [joinTxt_one]; decide +kernel⟩
  | c :: cl => by
    obtain ⟨ps, h1, h2, h3⟩ := parts_ex s sep hs cl
    by_cases e : c = s
    · subst e
      refine ⟨"" :: ps, by simp, fun p hp => ?_, ?_⟩
      · rcases List.mem_cons.mp hp with rfl | hp
        · rw [show ("" : Str).cps.toList = [] by decide +kernel]; simp
        · exact h2 p hp
      · rw [joinTxt_cons h1, tl_app, tl_app, hs, h3, show ("" : Str).cps.toList = [] by decide +kernel]; rfl
    · cases ps with
      | nil => exact absurd rfl h1
      | cons p ps =>
        refine ⟨consS c p :: ps, by simp, fun q hq => ?_, ?_⟩
        · rcases List.mem_cons.mp hq with rfl | hq
          · rw [consS_tl]
            simp only [List.mem_cons, not_or]
            exact ⟨fun z => e z.symm, h2 p List.mem_cons_self⟩
          · exact h2 q (List.mem_cons_of_mem _ hq)
        · cases ps with
          | nil =>
            rw [joinTxt_one] at h3 ⊢
            rw [consS_tl, h3]
          | cons q r =>
            rw [joinTxt_cons (by simp), tl_app] at h3 ⊢
            rw [consS_tl, ← h3]; rfl
theorem rows_ex (z : Str) : ∃ ps : List Str, ps ≠ [] ∧ (∀ p ∈ ps, 10 ∉ p.cps.toList) ∧ z = JN ps ∧ PySem.Txt.split z "\n" = ps := by
  obtain ⟨ps, h1, h2, h3⟩ := parts_ex 10 "\n" (by decide +kernel) z.cps.toList
  have e : z = JN ps := str_tl h3.symm
  exact ⟨ps, h1, h2, e, by rw [e]; exact JN_split h1 h2⟩
theorem words_ex (z : Str) : ∃ ps : List Str, ps ≠ [] ∧ (∀ p ∈ ps, 32 ∉ p.cps.toList) ∧ z = J ps ∧ PySem.Txt.split z " " = ps := by
  obtain ⟨ps, h1, h2, h3⟩ := parts_ex 32 " " (by decide +kernel) z.cps.toList
  have e : z = J ps := str_tl h3.symm
  exact ⟨ps, h1, h2, e, by rw [e]; exact TL.split_join (s := 32) (S := []) (by decide +kernel) (by decide +kernel) h1 fun p hp => h2 p hp⟩
/-! ### words with arms in a text -/
def xws : List (List Nat) := [[112, 108, 117, 115], [108, 101, 115, 115], [116, 105, 109, 101, 115], [98, 101, 108, 111, 119], [115, 97, 109, 101], [110, 111, 116], [97, 110, 100], [105, 102], [112, 117, 116], [102, 105, 114, 115, 116], [114, 101, 115, 116], [109, 97, 110, 121], [115, 101, 116], [116, 104, 101, 110], [99, 97, 108, 108]]
theorem xws_len : ∀ w ∈ xws, 2 ≤ w.length ∧ w.length ≤ 5 ∧ 32 ∉ w ∧ 10 ∉ w := by decide +kernel
def starts (cl : List Nat) : Prop := ∃ w ∈ xws, w <+: cl
instance (cl : List Nat) : Decidable (starts cl) := by unfold starts; infer_instance
def occ : List Nat → Nat
  | [] => 0
  | c :: cs => (if starts (c :: cs) then 1 else 0) + occ cs
theorem starts_app {a b : List Nat} (h : starts a) : starts (a ++ b) := by
  obtain ⟨w, hw, p⟩ := h
  exact ⟨w, hw, p.trans (List.prefix_append a b)⟩
theorem occ_app : ∀ (a b : List Nat), occ (a ++ b) ≤ occ a + occ b + 4
  | [], b => by rw [List.nil_append]; omega
  | c :: a, b => by
    have ih := occ_app a b
    by_cases h : 5 ≤ (c :: a).length
    · rw [List.cons_append, occ, occ]
      by_cases s : starts (c :: (a ++ b))
      · have : starts (c :: a) := by
          obtain ⟨w, hw, p⟩ := s
          exact ⟨w, hw, List.prefix_of_prefix_length_le p (List.prefix_append (c :: a) b) (by have := (xws_len w hw).2.1; omega)⟩
        rw [if_pos s, if_pos this]
        omega
      · rw [if_neg s]
        omega
    · have key : ∀ x : List Nat, occ (x ++ b) ≤ x.length + occ b := fun x => by
        induction x with
        | nil => simp
        | cons y x ih =>
          rw [List.cons_append, occ, List.length_cons]
          split <;> omega
      have := key (c :: a)
      omega
theorem occ_blank : ∀ (a b : List Nat), occ (a ++ 32 :: b) = occ a + occ b
  | [], b => by
    rw [List.nil_append, show occ [] = 0 from rfl, show occ (32 :: b) = (if starts (32 :: b) then 1 else 0) + occ b from rfl, if_neg]
    rintro ⟨w, hw, p⟩
    obtain ⟨h2, _, h3, _⟩ := xws_len w hw
    cases w with
    | nil => simp at h2
    | cons x w =>
      obtain ⟨y, e⟩ := p
      injection e with e1 _
      exact h3 (by rw [e1]; simp)
  | c :: a, b => by
    rw [List.cons_append, occ, occ, occ_blank a b]
    have : starts (c :: (a ++ 32 :: b)) ↔ starts (c :: a) := by
      refine ⟨?_, fun h => starts_app (b := 32 :: b) h⟩
      rintro ⟨w, hw, p⟩
      obtain ⟨_, _, h3, _⟩ := xws_len w hw
      refine ⟨w, hw, ?_⟩
      by_cases hl : w.length ≤ (c :: a).length
      · exact List.prefix_of_prefix_length_le p (List.prefix_append (c :: a) (32 :: b)) hl
      · exfalso
        have q : (c :: a) ++ [32] <+: w := List.prefix_of_prefix_length_le ⟨b, by simp⟩ p (by simp at hl ⊢; omega)
        exact h3 (q.subset (by simp))
    by_cases h : starts (c :: a)
    · rw [if_pos h, if_pos (this.mpr h)]; omega
    · rw [if_neg h, if_neg (fun z => h (this.mp z))]; omega
theorem occ_J : ∀ ws : List Str, occ (J ws).cps.toList = (ws.map fun w => occ w.cps.toList).sum
  | [] => by rw [show J [] = Str.empty from joinTxt_nil]; rfl
  | [w] => by rw [J_one]; simp
  | w :: v :: ws => by
    rw [J_cons (by simp), tl_app, tl_app, show (" " : Str).cps.toList = [32] by decide +kernel, List.singleton_append, occ_blank, occ_J (v :: ws)]
    rfl
theorem inner_mem {w : Str} (h : inner w = true) : w.cps.toList ∈ xws := by
  unfold inner at h
  cases e : shB w with
  | none => rw [e] at h; cases h
  | some l =>
    rw [e] at h
    have hm := shB_mem e
    have key : ∀ p ∈ shTab, (p.2.any fun s => decide (s = Bo.x)) = true → p.1.cps.toList ∈ xws := by decide +kernel
    exact key _ hm h
theorem occ_inner {w : Str} (h : inner w = true) : 1 ≤ occ w.cps.toList := by
  have hm := inner_mem h
  have h2 := (xws_len _ hm).1
  cases e : w.cps.toList with
  | nil => rw [e] at h2; simp at h2
  | cons c cs =>
    rw [occ, if_pos (by rw [← e]; exact ⟨_, hm, List.prefix_refl _⟩)]
    omega
theorem xc_occ : ∀ ws : List Str, xc ws ≤ (ws.map fun w => occ w.cps.toList).sum
  | [] => Nat.le_refl _
  | w :: ws => by
    have ih := xc_occ ws
    rw [xc, List.map_cons, List.sum_cons]
    by_cases h : inner w = true
    · have := occ_inner h
      rw [if_pos h]; omega
    · rw [if_neg h]; omega
/-! ### no row has many -/
def Bdd (M : Nat) (l : List Nat) : Prop := ∀ b, b <:+: l → 10 ∉ b → occ b ≤ M
theorem inf_app {b l1 l2 : List Nat} (h : b <:+: l1 ++ l2) : ∃ b1 b2, b = b1 ++ b2 ∧ b1 <:+: l1 ∧ b2 <:+: l2 := by
  obtain ⟨a, c, e⟩ := h
  rcases List.append_eq_append_iff.mp e with ⟨a', e1, e2⟩ | ⟨c', e1, e2⟩
  · exact ⟨b, [], by simp, ⟨a, a', by rw [e1]⟩, ⟨[], l2, by simp⟩⟩
  · rcases List.append_eq_append_iff.mp e1 with ⟨x, e3, e4⟩ | ⟨x, e3, e4⟩
    · exact ⟨x, c', e4, ⟨a, [], by rw [e3]; simp⟩, ⟨[], c, by rw [e2]; simp⟩⟩
    · exact ⟨[], b, rfl, ⟨[], l1, by simp⟩, ⟨x, c, by rw [e2, e4]⟩⟩
theorem Bdd.mono {M N : Nat} {l : List Nat} (h : Bdd M l) (g : M ≤ N) : Bdd N l := fun b i n => Nat.le_trans (h b i n) g
theorem Bdd.app {M N : Nat} {l k : List Nat} (h : Bdd M l) (g : Bdd N k) : Bdd (M + N + 4) (l ++ k) := fun b i n => by
  obtain ⟨b1, b2, rfl, i1, i2⟩ := inf_app i
  have h1 := h b1 i1 fun z => n (List.mem_append_left _ z)
  have h2 := g b2 i2 fun z => n (List.mem_append_right _ z)
  have := occ_app b1 b2
  omega
theorem Bdd.one {c : Nat} : Bdd 0 [c] := fun b i _ => by
  have l := i.length_le
  cases b with
  | nil => exact Nat.le_refl _
  | cons x b =>
    cases b with
    | cons y b => simp at l
    | nil =>
      rw [occ, if_neg]
      · exact Nat.le_refl _
      · rintro ⟨w, hw, p⟩
        have := p.length_le
        have := (xws_len w hw).1
        simp at *
        omega
theorem Bdd.nil {M : Nat} : Bdd M [] := fun b i _ => by
  rw [List.infix_nil.mp i]; exact Nat.zero_le _
theorem row_inf : ∀ {rows : List Str} {r : Str}, r ∈ rows → r.cps.toList <:+: (JN rows).cps.toList
  | [], r, h => by cases h
  | [q], r, h => by rw [List.mem_singleton.mp h, show JN [q] = q from joinTxt_one]; exact List.infix_refl _
  | q :: p :: rows, r, h => by
    rw [show JN (q :: p :: rows) = q ++ ("\n" ++ JN (p :: rows)) from joinTxt_cons (by simp), tl_app, tl_app]
    rcases List.mem_cons.mp h with rfl | h
    · exact ⟨[], _, rfl⟩
    · obtain ⟨x, y, e⟩ := row_inf h
      exact ⟨q.cps.toList ++ ("\n" : Str).cps.toList ++ x, y, by rw [← e]; simp⟩
end L3
/-! L80: rows of parts read of any text. -/
namespace L3
open PySem PySem.Spec PyProof.Rows L2
structure LineOk (z : Str) : Prop where
  l : z.length ≤ 60000
  c : ∀ c ∈ z.cps.toList, c < 1114112
  o : occ z.cps.toList < 165
/-- the words of a line -/
structure WordsOk (ws : List Str) : Prop where
  ne : ws ≠ []
  len : ws.length ≤ 60001
  w : ∀ x ∈ ws, x.length ≤ 60000 ∧ ∀ c ∈ x.cps.toList, c < 1114112
  x : xc ws < 165
theorem word_inf : ∀ {ws : List Str} {x : Str}, x ∈ ws → x.cps.toList <:+: (J ws).cps.toList
  | [], x, h => by cases h
  | [q], x, h => by rw [List.mem_singleton.mp h, J_one]; exact List.infix_refl _
  | q :: p :: ws, x, h => by
    rw [J_cons (by simp), tl_app, tl_app]
    rcases List.mem_cons.mp h with rfl | h
    · exact ⟨[], _, rfl⟩
    · obtain ⟨a, b, e⟩ := word_inf h
      exact ⟨q.cps.toList ++ (" " : Str).cps.toList ++ a, b, by rw [← e]; simp⟩
theorem J_many : ∀ ws : List Str, ws.length ≤ (J ws).cps.toList.length + 1
  | [] => Nat.zero_le _
  | [_] => by simp
  | q :: p :: ws => by
    have := J_many (p :: ws)
    rw [J_cons (by simp), tl_app, tl_app, show (" " : Str).cps.toList = [32] by decide +kernel]
    simp only [List.length_append, List.length_cons, List.length_nil] at this ⊢
    omega
theorem LineOk.words {z : Str} (h : LineOk z) : ∃ ws, PySem.Txt.split z " " = ws ∧ WordsOk ws := by
  obtain ⟨ws, h1, h2, e, h4⟩ := words_ex z
  refine ⟨ws, h4, h1, ?_, fun x hx => ?_, ?_⟩
  · have := J_many ws
    rw [← e, ← len_tl] at this
    have := h.l
    omega
  · have i := word_inf hx
    rw [← e] at i
    exact ⟨by have := i.length_le; rw [← len_tl, ← len_tl] at this; exact Nat.le_trans this h.l, fun c hc => h.c c (i.subset hc)⟩
  · have := xc_occ ws
    rw [← occ_J, ← e] at this
    exact Nat.lt_of_le_of_lt this h.o
theorem WordsOk.tail {ws : List Str} (h : WordsOk ws) (k : Nat) : (∀ x ∈ ws.drop k, x.length ≤ 60000 ∧ ∀ c ∈ x.cps.toList, c < 1114112) ∧ xc (ws.drop k) < 165 := ⟨fun x hx => h.w x (List.mem_of_mem_drop hx), Nat.lt_of_le_of_lt (xc_drop ws k) h.x⟩
end L3
/-! L81: rows, one behind the other. -/
namespace L3
open PySem PySem.Spec PyProof.Rows L2
/-- what a row tells -/
inductive RowT : Nat → D → Prop
  | part {c : Nat} (h : partC c) : RowT 0 (.str (sg c))
  | deed {d : Deed} (h : deedC d.c) (h2 : d.b.wfr) (h3 : d.b.dep ≤ 165 ∧ d.b.words ≤ 60001) : RowT 1 d.enc
  | ask {a : Nat × Kd × Kd} (h : deedC a.1) : RowT 2 (askD a)
  | cell {a : Nat × Kd} (h : cellC a.1) : RowT 3 (celD a)
theorem RowT.lt {j : Nat} {d : D} (h : RowT j d) : j < 4 := by cases h <;> decide
end L3
/-! L82: reading goes on in the words that are left. -/
namespace L3
open PySem PySem.Spec PyProof.Rows L2
end L3
/-! L83: abs; numbers of a body. -/
namespace L3
open PySem PySem.Spec PyProof.Rows L2
section
variable {X : Cx}
end
end L3
/-! L84: parts' texts, changed. -/
namespace L3
open PySem PySem.Spec PyProof.Rows L2
theorem JN_cons {z : Str} {xs : List Str} (h : xs ≠ []) : JN (z :: xs) = z ++ ("\n" ++ JN xs) := joinTxt_cons h
theorem JN_one {z : Str} : JN [z] = z := joinTxt_one
theorem nl_tl : ("\n" : Str).cps.toList = [10] := by decide +kernel
theorem JN_tw : ∀ {ys : List Str}, ys ≠ [] → (JN ys).cps.toList.length + 1 = tw ys
  | [], h => absurd rfl h
  | [y], _ => by rw [JN_one, tw_cons, tw_nil, len_tl]
  | y :: x :: ys, _ => by
    have := JN_tw (ys := x :: ys) (by simp)
    rw [JN_cons (by simp), tl_app, tl_app, nl_tl, tw_cons, len_tl, ← this]
    simp only [List.length_append, List.length_cons, List.length_nil]; omega
theorem JN_count : ∀ {ys : List Str}, ys ≠ [] → (∀ y ∈ ys, 10 ∉ y.cps.toList) → (JN ys).cps.toList.count 10 + 1 = ys.length
  | [], h, _ => absurd rfl h
  | [y], _, h => by
    rw [JN_one, List.count_eq_zero.mpr (h y (by simp))]; rfl
  | y :: x :: ys, _, h => by
    have := JN_count (ys := x :: ys) (by simp) fun z hz => h z (List.mem_cons_of_mem _ hz)
    rw [JN_cons (by simp), tl_app, tl_app, nl_tl, List.count_append, List.count_append, List.count_eq_zero.mpr (h y (by simp))]
    simp only [List.length_cons] at this ⊢
    rw [show List.count 10 [10] = 1 by decide]
    omega
/-- a row of a text -/
structure RwOk (M : Nat) (r : Str) : Prop where
  f : 10 ∉ r.cps.toList
  b : occ r.cps.toList ≤ M
  c : ∀ c ∈ r.cps.toList, c < 128
/-- a text by its rows -/
structure TxR (M L N : Nat) (z : Str) (rows : List Str) : Prop where
  ne : rows ≠ []
  e : z = JN rows
  r : ∀ r ∈ rows, RwOk M r
  l : tw rows ≤ L
  n : rows.length ≤ N
theorem TxR.split {M L N : Nat} {z : Str} {rows : List Str} (h : TxR M L N z rows) : PySem.Txt.split z "\n" = rows := by rw [h.e]; exact JN_split h.ne fun y hy => (h.r y hy).f
theorem JN_mem : ∀ {ys : List Str} {c : Nat}, c ∈ (JN ys).cps.toList → c = 10 ∨ ∃ y ∈ ys, c ∈ y.cps.toList
  | [], c, h => by rw [show JN [] = Str.empty from joinTxt_nil] at h; simp [Str.empty] at h
  | [y], c, h => by rw [JN_one] at h; exact .inr ⟨y, by simp, h⟩
  | y :: x :: ys, c, h => by
    rw [JN_cons (by simp), tl_app, tl_app, nl_tl] at h
    rcases List.mem_append.mp h with h | h
    · exact .inr ⟨y, by simp, h⟩
    · rcases List.mem_append.mp h with h | h
      · exact .inl (by simpa using h)
      · rcases JN_mem h with h | ⟨z, hz, h⟩
        · exact .inl h
        · exact .inr ⟨z, List.mem_cons_of_mem _ hz, h⟩
theorem TxR.c {M L N : Nat} {z : Str} {rows : List Str} (h : TxR M L N z rows) : ∀ c ∈ z.cps.toList, c < 128 := fun c hc => by
  rw [h.e] at hc
  rcases JN_mem hc with rfl | ⟨y, hy, hc⟩
  · decide
  · exact (h.r y hy).c c hc
theorem TxR.len {M L N : Nat} {z : Str} {rows : List Str} (h : TxR M L N z rows) : z.length + 1 ≤ L := by
  have := JN_tw h.ne
  rw [← h.e, ← len_tl] at this
  have := h.l
  omega
theorem TxR.of {M L N : Nat} {z : Str} (b : Bdd M z.cps.toList) (c : ∀ c ∈ z.cps.toList, c < 128) (l : z.length + 1 ≤ L) (n : z.cps.toList.count 10 + 1 ≤ N) : ∃ rows, TxR M L N z rows := by
  obtain ⟨rows, h1, h2, e, h4⟩ := rows_ex z
  refine ⟨rows, h1, e, fun r hr => ?_, ?_, ?_⟩
  · have i := row_inf hr
    rw [← e] at i
    exact ⟨h2 r hr, b _ i (h2 r hr), fun x hx => c x (i.subset hx)⟩
  · have := JN_tw h1
    rw [← e, ← len_tl] at this
    omega
  · have := JN_count h1 h2
    rw [← e] at this
    omega
theorem RwOk.mono {M M' : Nat} {r : Str} (h : RwOk M r) (g : M ≤ M') : RwOk M' r := ⟨h.f, Nat.le_trans h.b g, h.c⟩
end L3
/-! L85: the text of a part. -/
namespace L3
open PySem PySem.Spec PyProof.Rows L2
def W128 (w : Str) : Prop := ∀ c ∈ w.cps.toList, c < 128
def oc (w : Str) : Nat := occ w.cps.toList
instance (w : Str) : Decidable (W128 w) := by unfold W128; infer_instance
theorem cut_one {xs : List D} {k : Nat} : cutD xs (some (k : Int)) (some ((k + 1 : Nat) : Int)) = (xs.drop k).take 1 := by
  unfold cutD
  rw [HT.sIx_nat, HT.sIx_nat]
  by_cases h : k + 1 ≤ xs.length
  · rw [Nat.min_eq_left h, Nat.min_eq_left (by omega), show k + 1 - k = 1 by omega]
  · rw [Nat.min_eq_right (show xs.length ≤ k + 1 by omega)]
    by_cases h2 : k ≤ xs.length
    · rw [Nat.min_eq_left h2]
      have : xs.length = k := by omega
      rw [← this, Nat.sub_self, List.drop_length]; rfl
    · rw [Nat.min_eq_right (by omega), Nat.sub_self, List.take_zero, List.drop_of_length_le (by omega)]; rfl
end L3
/-! L86: text + x.replace(text, text). -/
namespace L3
open PySem PySem.Spec PyProof.Rows L2
section
variable {X : Cx} {o : Expr} {to : AEt} {c y z : Str} {j0 j k : Nat} {cp c0 c1 apos pos bpos : Pos} {op : Operator}
end
end L3
/-! L87: lambdas as values: made, kept in the store, called later from the frame that they were made in. -/
namespace L3
open PySem PySem.Spec PySem.Calls PyProof.Rows L2
theorem objO_ok {P : Program} {w : World} {H : Hp} {h : Heap} {a : Addr} {o : Obj} (e : h.get? a = some o) : ObjOk P w H h a (ObjO a o) := ⟨e, ⟨o, e⟩, fun _ _ p st => st _ p⟩
theorem objO_at {P : Program} {w : World} {H : Hp} {h : Heap} {a : Addr} {o : Obj} (x : HOk P w H h) (e : H a = some (ObjO a o)) : h.get? a = some o := (x a _ e).1
/-- what is told of a lambda: its object, its code's address, the tuple of its default -/
abbrev LJ := Obj → Addr → Option (Addr × Obj) → Prop
/-- dx: the parameter with its default -/
def LamJ (q : Str) (cells : List (Str × Addr)) (params : Arguments) (body : Expr) (scope : Scope) (dx : Option (Str × V)) : LJ := fun o c t =>
  ∃ dV doc pm ctv, o = PySem.W.kdv_obj "<lambda>" q params (.expr body) scope (cloFrom cells scope.names []) dV doc pm c ctv ∧ ((dx = none ∧ dV = .none ∧ t = none) ∨ ∃ x d u T, dx = some (x, d) ∧ RelV d u ∧ dV = .ref T ∧ t = some (T, PySem.W.kdv_tup [u]))
/-- what the call binds -/
def BindV (params : Arguments) (body : Expr) (scope : Scope) (dx : Option (Str × V)) : Prop := match dx with
  | none => ∀ (q : Str) (cl : List (Str × Addr)) (doc pm cv ctv : Value), bindArgs (PySem.W.kdv_fn "<lambda>" q params (.expr body) scope cl .none doc pm cv ctv) ⟨[], []⟩ = pure []
  | some (x, _) => scope.names.lookup x = some .local ∧ ∀ (q : Str) (cl : List (Str × Addr)) (T : Addr) (doc pm cv ctv : Value), ∃ k, bindArgs (PySem.W.kdv_fn "<lambda>" q params (.expr body) scope cl (.ref T) doc pm cv ctv) ⟨[], []⟩ = seqItems? (.ref T) >>= k ∧ ∀ u : Value, k (some [u].toArray) = pure [(x, u)]
def tupD (H : Hp) (t : Option (Addr × Obj)) : Prop := ∀ p, t = some p → H p.1 = some (ObjO p.1 p.2)
/-- a lambda's scope: names of the frame it stands in, or a parameter that the frame has no name for -/
structure LamT (N : List Str) (sc scope : Scope) : Prop where
  kind : scope.kind = .function
  co : scope.isCoroutine = false
  gen : scope.isGenerator = false
  own : ∀ y ∈ scope.names, y.2 ≠ .cell
  loc : ∀ y ∈ scope.names, y.2 = .local → y.1 ∉ N
  free : ∀ y ∈ scope.names, y.2 = .free → sc.names.lookup y.1 = some .cell ∨ sc.names.lookup y.1 = some .free
def lamTB (N : List Str) (sc scope : Scope) : Bool :=
  decide (scope.kind = .function) && !scope.isCoroutine && !scope.isGenerator && scope.names.all fun y => (!decide (y.2 = .local) || !N.contains y.1) && !decide (y.2 = .cell) && (!decide (y.2 = .free) || decide (sc.names.lookup y.1 = some .cell) || decide (sc.names.lookup y.1 = some .free))
theorem lamT_by {N : List Str} {sc scope : Scope} (h : lamTB N sc scope = true) : LamT N sc scope := by
  unfold lamTB at h
  simp only [Bool.and_eq_true, Bool.or_eq_true, Bool.not_eq_true', decide_eq_true_eq, decide_eq_false_iff_not, List.all_eq_true] at h
  obtain ⟨⟨⟨h1, h2⟩, h3⟩, h4⟩ := h
  refine ⟨h1, h2, h3, fun y hy => (h4 y hy).1.2, fun y hy e z => ?_, fun y hy e => ?_⟩
  · rcases (h4 y hy).1.1 with k | k
    · exact k e
    · have := List.elem_eq_true_of_mem z
      rw [show N.contains y.1 = true from this] at k
      cases k
  · rcases (h4 y hy).2 with (z | z) | z
    · exact absurd e z
    · exact .inl z
    · exact .inr z
theorem LamT.has {X : Cx} {scope : Scope} (L : LamT X.N X.env.scope scope) (ok : X.Ok) : ∀ y ∈ scope.names, y.2 = .free → ∃ c, X.env.cells.lookup y.1 = some c := fun y hy e => by
  rcases L.free y hy e with k | k
  · exact ok.has _ (.inl k)
  · exact ok.has _ (.inr k)
section
variable {X : Cx} {pins : List (Addr × Obj)} {σ : L2.St} {H HZ : Hp} {s s1 : Shared}
/-- the new lambda is tracked -/
theorem lam_tail {c P : Addr} {ps : Array Value} {params : Arguments} {body : Expr} {scope : Scope} {pos : Pos} {dV : Value} {E : Value → Shared → Prop} {Q : Value → Shared → Prop} (I : Inv X pins σ H s) (TB : LamX.TabB X.base X.mg c P) (hcode : X.env.code = .ref c)
    (hP : H P = some (.tbl ps)) (ht : TriplesOk ps.toList) (ha : ∀ (pos : Pos) (cv : Value), codeAmong pos ps.toList = some cv → ∃ c, cv = .ref c ∧ H c = some (LamX.CodeO c (X.env.qual ++ "<lambda>")))
    (hfree : ∀ y ∈ scope.names, y.2 = .free → ∃ c, X.env.cells.lookup y.1 = some c)
    (h : ∀ (f c' : Addr) (doc pm ctv : Value) (H1 : Hp) (s' : Shared), Tabbed H P ps c' (X.env.qual ++ "<lambda>") H1 → H1 f = none → H1 c' = some (LamX.CodeO c' (X.env.qual ++ "<lambda>")) →
      Inv X pins σ (upd H1 f (ObjO f (PySem.W.kdv_obj "<lambda>" (X.env.qual ++ "<lambda>") params (.expr body) scope (cloFrom X.env.cells scope.names []) dV doc pm c' ctv))) s' → Q (.ref f) s') :
    wpAny (model X.prog X.w) X.A (makeTail "<lambda>" (X.env.qual ++ "<lambda>") params (.expr body) scope X.env dV .none none pos pos.line) Q E s := by
  have bP := TB.bm.keeps I.bk
  have hP2 : s.heap.get? P = some { cls := .none, data := .fields ps } := I.hok P _ hP
  cases hc : codeAmong pos ps.toList with
  | none =>
    refine PySem.W.kdv_makeTail (mg := X.mg) (c := c) (P := P) (ps := ps) (closure_ok hfree) I.ok.glob (I.mod.glob.keeps I.bk) hcode (TB.code.keeps I.bk) hP2 ht hc TB.gP bP fun c' ctv doc h' tk hx hge hlt hrec htb => ?_
    obtain ⟨c2, oc, vs, t, e2, hoc, hd, hv⟩ := hrec
    cases e2
    have nC : H c' = none := I.hok.fresh hge
    have nCP : c' ≠ P := fun z => by rw [z, hP] at nC; cases nC
    have hsz : s.heap.objs.size ≤ h'.objs.size := Nat.le_trans hge (Nat.le_of_lt hlt)
    have I1 := LamX.inv_table (t' := tk) (more := #[rawInt pos.line, rawInt pos.col, .ref c']) (h' := h') I hP hx htb hge ⟨oc, vs, t, hoc, hd, hv⟩
    have eL : (ps ++ #[rawInt pos.line, rawInt pos.col, .ref c']).toList = ps.toList ++ [rawInt pos.line, rawInt pos.col, .ref c'] := by simp
    refine h h'.objs.size c' doc ((X.mg "__name__").getD .none) ctv _ _ (.inr ⟨_, nC, nCP, rfl, by rw [eL]; exact PySem.TriplesOk_snoc _ _ _ _ ht, fun p cv z => ?_⟩) ?_ upd_same
      (I1.laid (t' := tk) (fun b o e => Heap.get?_push_of_some _ e) (Nat.le_refl _) (objO_ok (Heap.get?_push_size _ rfl)))
    · rw [eL] at z
      exact LamX.among_app _ ht z
    · rw [upd_ne (Nat.ne_of_gt hlt), upd_ne (Nat.ne_of_gt (Nat.lt_of_lt_of_le (Heap.lt_size hP2) hsz))]
      exact I.hok.fresh hsz
  | some cv =>
    obtain ⟨c', e, hco⟩ := ha pos cv hc
    subst e
    refine PySem.W.kdv_makeTailHit (mg := X.mg) (c := c) (P := P) (ps := ps) (closure_ok hfree) I.ok.glob (I.mod.glob.keeps I.bk) hcode (TB.code.keeps I.bk) hP2 ht hc bP fun ctv doc h' tk hx hsz => ?_
    have I1 : Inv X pins σ H { s with heap := h', toks := tk } := I.kept hx
    exact h h'.objs.size c' doc ((X.mg "__name__").getD .none) ctv H _ (.inl ⟨rfl, pos, hc⟩) (I.hok.fresh hsz) hco (I1.laid (t' := tk) (fun b o e => Heap.get?_push_of_some _ e) (Nat.le_refl _) (objO_ok (Heap.get?_push_size _ rfl)))
/-! ### made -/
def tLamV (P : Addr) (q : Str) (J : LJ) : TE := fun σ H Q => ∃ ps, H P = some (.tbl ps) ∧ TriplesOk ps.toList ∧ (∀ (pos : Pos) (cv : Value), codeAmong pos ps.toList = some cv → ∃ c, cv = .ref c ∧ H c = some (LamX.CodeO c q)) ∧
  ∀ (H0 : Hp) (t : Option (Addr × Obj)) (c' f : Addr) (o : Obj) (H1 : Hp), (t = none ∧ H0 = H ∨ ∃ p, t = some p ∧ H p.1 = none ∧ H0 = upd H p.1 (ObjO p.1 p.2)) → Tabbed H0 P ps c' q H1 → H1 f = none → H1 c' = some (LamX.CodeO c' q) → J o c' t → Q (.ref f) (upd H1 f (ObjO f o))
theorem pe_lamV {c P : Addr} {params : Arguments} {body : Expr} {scope : Scope} {pos : Pos} (TB : LamX.TabB X.base X.mg c P) (hcode : X.env.code = .ref c) (L : LamT X.N X.env.scope scope) (hdef : defaultsOf params X.env = ([], [])) :
    PE X (.Lambda params body scope pos) (tLamV P (X.env.qual ++ "<lambda>") (LamJ (X.env.qual ++ "<lambda>") X.env.cells params body scope none)) := by
  refine ⟨fun pins s σ H Q I h => ?_⟩
  obtain ⟨ps, hP, htr, hco0, h⟩ := h
  refine PySem.W.kla_eval hdef ?_
  rw [makeFunction_eq]
  simp only [List.zip_nil_right, List.filterMap_nil, List.isEmpty_nil, if_true, pure_bind]
  exact lam_tail I TB hcode hP htr hco0 (L.has I.ok) fun f c' doc pm ctv H1 s' tab hf hco I1 =>
    ⟨.ref f, _, I1, rfl, h H none c' f _ H1 (.inl ⟨rfl, rfl⟩) tab hf hco ⟨_, doc, pm, ctv, rfl, .inl ⟨rfl, rfl, rfl⟩⟩⟩
theorem pe_lamVd {c P : Addr} {params : Arguments} {body : Expr} {scope : Scope} {pos cpos : Pos} {x : Str} {i : Int} {j : Nat} (TB : LamX.TabB X.base X.mg c P) (hcode : X.env.code = .ref c) (L : LamT X.N X.env.scope scope) (hd : params.defaults = [.Constant (.int i) j cpos]) (hk0 : params.kw_defaults = []) :
    PE X (.Lambda params body scope pos) (tLamV P (X.env.qual ++ "<lambda>") (LamJ (X.env.qual ++ "<lambda>") X.env.cells params body scope (some (x, .int i)))) := by
  refine ⟨fun pins s σ H Q I h => ?_⟩
  obtain ⟨ps, hP, htr, hco0, h⟩ := h
  refine PySem.W.kdv_lam (by rw [hd]; rfl) hk0 ?_
  rw [hd]
  refine PySem.W.kdv_all1 (wpAny_Constant_int (PySem.W.kdv_all0 ?_))
  rw [makeFunction_eq]
  simp only [List.zip_nil_right, List.filterMap_nil, List.isEmpty_nil, List.isEmpty_cons, if_true, pure_bind, Bool.false_eq_true, if_false]
  refine wpAny_bind (wpAny_newTextTuple ?_)
  have I0 : Inv X pins σ H { s with toks := s.toks + 1 } := I.tok _
  have nT : H s.heap.objs.size = none := I.hok.fresh (Nat.le_refl _)
  have I1 := I0.laid (a := s.heap.objs.size) (o := ObjO s.heap.objs.size (PySem.W.kdv_tup [.int i s.toks])) (t' := s.toks + 1) (h' := s.heap.push { cls := .type "tuple", data := .seq [Value.int i s.toks].toArray }) (fun b o e => Heap.get?_push_of_some _ e) (Nat.le_refl _) (objO_ok (Heap.get?_push_size _ rfl))
  have hne : ∀ {b : Addr} {u : HO}, H b = some u → upd H s.heap.objs.size (ObjO s.heap.objs.size (PySem.W.kdv_tup [.int i s.toks])) b = some u := fun e => by rw [upd_ne (ne_of_none e nT)]; exact e
  refine lam_tail I1 TB hcode (hne hP) htr (fun p cv z => let ⟨c, e, g⟩ := hco0 p cv z; ⟨c, e, hne g⟩) (L.has I.ok) fun f c' doc pm ctv H1 s' tab hf hco I2 =>
    ⟨.ref f, _, I2, rfl, h _ (some (_, _)) c' f _ H1 (.inr ⟨_, rfl, nT, rfl⟩) tab hf hco ⟨_, doc, pm, ctv, rfl, .inr ⟨x, _, _, _, rfl, ⟨_, rfl⟩, rfl, rfl⟩⟩⟩
end
end L3
/-! L88: lambdas of the store called. -/
namespace L3
open PySem PySem.Spec PySem.Calls PyProof.Rows L2
section
variable {X : Cx} {pins : List (Addr × Obj)} {σ : L2.St} {H HZ : Hp} {s s1 : Shared}
end
end L3
/-! L89: x(v), x a def that calls what it got and tells how it was refused, v a lambda of the store. -/
namespace L3
open PySem PySem.Spec PySem.Calls PyProof.Rows L2
structure LamB (X : Cx) (k : Nat) (J : LJ) (tE : XK → TE) : Prop where
  ex : ∃ (params : Arguments) (body : Expr) (scope : Scope) (dx : Option (Str × V)), J = LamJ (X.env.qual ++ "<lambda>") X.env.cells params body scope dx ∧ LamT X.N X.env.scope scope ∧ BindV params body scope dx ∧
    ∀ (A : Around) (outer : List Env) (s : Shared) (H : Hp) (E : XK) (f c' : Addr), Room k (A.deeper (LamX.lamEnv X scope s.heap.objs.size f c')) → PE (LamX.lamCx X A outer s H E scope f c') body (tE E)
/-- a lambda's reading -/
structure LamA (X : Cx) (k : Nat) (J : LJ) (t : AEYt) : Prop where
  ex : ∃ (params : Arguments) (body : Expr) (scope : Scope) (dx : Option (Str × V)), J = LamJ (X.env.qual ++ "<lambda>") X.env.cells params body scope dx ∧ LamT X.N X.env.scope scope ∧ BindV params body scope dx ∧
    ∀ (A : Around) (outer : List Env) (s : Shared) (H : Hp) (E : XK) (f c' : Addr), Room k (LamX.lamCx X A outer s H E scope f c').A → AEY (LamX.lamCx X A outer s H E scope f c') body t
def bE (K : PySem.W.Frag) (t : AEYt) : XK → TE := fun E => teY K (fun cls d _ H => E cls d H) t
theorem LamA.b {X : Cx} {k : Nat} {J : LJ} {t : AEYt} (h : LamA X k J t) : LamB X k J (bE X.K t) :=
  let ⟨_, _, _, _, e, l, b, g⟩ := h.ex
  ⟨_, _, _, _, e, l, b, fun A outer s H E f c' room => (g A outer s H E f c' room).run (fun cls d _ H => E cls d H) (takes_of rfl rfl rfl rfl)⟩
section
variable {X : Cx} {pins : List (Addr × Obj)} {σ : L2.St} {H : Hp} {s : Shared}
end
/-! ### over the store -/
end L3
/-! L90: [x(v) for v in ..] where the v are lambdas of the very frame. -/
namespace L3
open PySem PySem.Spec PySem.Calls PyProof.Rows L2
section
variable {X : Cx}
end
end L3
/-! L91: lambdas of the store, over data. -/
namespace L3
open PySem PySem.Spec PySem.Calls PyProof.Rows L2
section
variable {X : Cx} {pos : Pos}
/-! ### lambdas made -/
def aLamV (P : Addr) (q : Str) (J : LJ) : AEt := fun δ m Q => m P = some (.tab q) ∧ ∀ f o c t, J o c t → m f = none → Q (.ref f) (m.put f (.fnc o c q t))
theorem lamV_sound {K : PySem.W.Frag} {P : Addr} {q : Str} {J : LJ} : SE K (tLamV P q J) (aLamV P q J) := by
  intro B δ m Q σ H W E ⟨hm, h⟩ Q' k
  obtain ⟨ps, hP, ht, hcv⟩ := W.cell P _ hm
  refine ⟨ps, hP, ht, fun pos cv z => let ⟨c2, h1, h2, _⟩ := hcv pos cv z; ⟨c2, h1, h2⟩, fun H0 t c' f o H1 h0 tab hf hco hJ => ?_⟩
  have base : Step H m H0 m ∧ Wd K H0 B m ∧ H0 P = some (.tbl ps) ∧ ∀ p, t = some p → H0 p.1 = some (ObjO p.1 p.2) ∧ ¬ Ban B m p.1 := by
    rcases h0 with ⟨rfl, rfl⟩ | ⟨p, rfl, hp, rfl⟩
    · exact ⟨Step.refl _ _, W, hP, fun p z => nomatch z⟩
    · obtain ⟨W0, nb⟩ := W.new (o := ObjO p.1 p.2) hp
      exact ⟨Step.new hp, W0, by rw [upd_ne (ne_of_none hP hp)]; exact hP, fun p' z => by cases z; exact ⟨upd_same, nb⟩⟩
  obtain ⟨st0, W0, hP0, hT⟩ := base
  obtain ⟨st1, W1⟩ := tab_step W0 hm hP0 tab
  have nb : ¬ Ban B m c' := by
    rcases tab with ⟨rfl, pos, e⟩ | ⟨_, nC, _, _⟩
    · obtain ⟨ps2, e2, _, g⟩ := W0.cell P _ hm
      rw [hP0] at e2
      cases e2
      obtain ⟨c2, e3, _, n⟩ := g pos _ e
      cases e3
      exact n
    · exact fun z => z.elim (fun b => (W0.hid c' b).1 nC) fun z => z (W0.free nC).1
  have fc : c' ≠ f := ne_of_none hco hf
  obtain ⟨st2, W2⟩ := W1.into (c := .fnc o c' q t) (o := ObjO f o) hf ⟨upd_same, by rw [upd_ne fc]; exact hco, fun z => nb (z.imp id fun z => by rw [Mu.put_ne fc] at z; exact z), fun p hp => by
    obtain ⟨a1, a2⟩ := hT p hp
    obtain ⟨b1, b2⟩ := st1.carry p.1 _ a1 a2
    have ne : p.1 ≠ f := ne_of_none b1 hf
    exact ⟨by rw [upd_ne ne]; exact b1, fun z => b2 (z.imp id fun z => by rw [Mu.put_ne ne] at z; exact z)⟩⟩
  exact k _ _ _ _ ((st0.trans st1).trans st2) W2 (rep_ref.mpr rfl) (h f o c' t hJ (W1.free hf).1)
theorem ae_lamV {c P : Addr} {params : Arguments} {body : Expr} {scope : Scope} (TB : LamX.TabB X.base X.mg c P) (hcode : X.env.code = .ref c) (L : LamT X.N X.env.scope scope) (hdef : defaultsOf params X.env = ([], []) := by rfl) :
    AE X (.Lambda params body scope pos) (aLamV P (X.env.qual ++ "<lambda>") (LamJ (X.env.qual ++ "<lambda>") X.env.cells params body scope none)) := ⟨_, pe_lamV TB hcode L hdef, lamV_sound⟩
theorem ae_lamVd {c P : Addr} {params : Arguments} {body : Expr} {scope : Scope} {cpos : Pos} {i : Int} {j : Nat} (x : Str) (TB : LamX.TabB X.base X.mg c P) (hcode : X.env.code = .ref c) (L : LamT X.N X.env.scope scope) (hd : params.defaults = [.Constant (.int i) j cpos] := by rfl) (hk0 : params.kw_defaults = [] := by rfl) :
    AE X (.Lambda params body scope pos) (aLamV P (X.env.qual ++ "<lambda>") (LamJ (X.env.qual ++ "<lambda>") X.env.cells params body scope (some (x, .int i)))) := ⟨_, pe_lamVd TB hcode L hd hk0, lamV_sound⟩
end
end L3
/-! L92: two promises of one call; a list's method over what may refuse. -/
namespace L3
open PySem PySem.Spec PyProof.Rows L2
section
variable {X : Cx} {pos apos : Pos} {o e : Expr} {es : List Expr}
end
end L3
/-! L93: lambdas whose names' cells are tracked (of a frame that is gone, or for a while): called from any def. -/
namespace L3
open PySem PySem.Spec PySem.Calls PyProof.Rows L2
/-! ### some objects more, some less -/
abbrev Tk := Addr → Option Obj
def addT (H : Hp) (T : Tk) : Hp := fun b => match T b with
  | some o => some (ObjO b o)
  | none => H b
def delT (H : Hp) (T : Tk) : Hp := fun b => match T b with
  | some _ => none
  | none => H b
section
variable {H H' : Hp} {T : Tk} {b : Addr} {o : Obj} {P : Program} {w : World} {h h' B : Heap} {fs ex : List Addr}
theorem addT_at (e : T b = some o) : addT H T b = some (ObjO b o) := by simp only [addT, e]
theorem addT_ne (e : T b = none) : addT H T b = H b := by simp only [addT, e]
theorem delT_at (e : T b = some o) : delT H T b = none := by simp only [delT, e]
theorem delT_ne (e : T b = none) : delT H T b = H b := by simp only [delT, e]
theorem hok_addT (x : HOk P w H h) (hT : ∀ b o, T b = some o → H b = none ∧ h.get? b = some o) : HOk P w (addT H T) h := fun a u e => by
  cases t : T a with
  | some o =>
    rw [addT_at t] at e
    cases e
    exact objO_ok (hT a o t).2
  | none =>
    rw [addT_ne t] at e
    have kp : ∀ c v, H c = some v → addT H T c = some v := fun c v q => by
      cases tc : T c with
      | none => rw [addT_ne tc]; exact q
      | some oc => rw [(hT c oc tc).1] at q; cases q
    exact (x a u e).stay (fun _ _ _ q => q) (fun c q => kp c _ q) fun c xs q => kp c _ q
theorem hok_delT (x : HOk P w H h) (hT : ∀ b o, T b = some o → H b = some (ObjO b o) ∨ H b = none) : HOk P w (delT H T) h := fun a u e => by
  cases t : T a with
  | some o => rw [delT_at t] at e; cases e
  | none =>
    rw [delT_ne t] at e
    have kp : ∀ c v, H c = some v → (∀ o, v ≠ ObjO c o) → delT H T c = some v := fun c v q n => by
      cases tc : T c with
      | none => rw [delT_ne tc]; exact q
      | some oc =>
        rcases hT c oc tc with z | z <;> rw [z] at q
        · cases q; exact absurd rfl (n oc)
        · cases q
    exact (x a u e).stay (fun _ _ _ q => q) (fun c q => kp c _ q fun _ => HO.noConfusion) fun c xs q => kp c _ q fun _ => HO.noConfusion
/-- what was known for a while is as it was -/
theorem un_delT (u : Un fs ex (addT H T) H' h h') (hT : ∀ b o, T b = some o → H b = none ∧ h.get? b = some o) (hT' : ∀ b o, T b = some o → h'.get? b = some o) : Un fs ex H (delT H' T) h h' where
  keep := fun b o e n nf nx => by
    cases t : T b with
    | some o2 => rw [(hT b o2 t).2] at e; cases e; exact hT' b o t
    | none => exact u.keep b o e (by rw [addT_ne t]; exact n) nf nx
  slot := fun b o e n hf nx => by
    cases t : T b with
    | some o2 => rw [(hT b o2 t).2] at e; cases e; exact ⟨o.slots, hT' b o t⟩
    | none => exact u.slot b o e (by rw [addT_ne t]; exact n) hf nx
  free := fun b o e n nx => by
    cases t : T b with
    | some o2 => exact delT_at t
    | none => rw [delT_ne t]; exact u.free b o e (by rw [addT_ne t]; exact n) nx
  there := u.there
  tups := fun b xs e => by
    cases t : T b with
    | some o2 => rw [(hT b o2 t).1] at e; cases e
    | none => rw [delT_ne t]; exact u.tups b xs (by rw [addT_ne t]; exact e)
  frzs := fun b o xs e => by
    cases t : T b with
    | some o2 => rw [(hT b o2 t).1] at e; cases e
    | none => rw [delT_ne t]; exact u.frzs b o xs (by rw [addT_ne t]; exact e)
  tbls := fun b ps e => by
    cases t : T b with
    | some o2 => rw [(hT b o2 t).1] at e; cases e
    | none => rw [delT_ne t]; exact u.tbls b ps (by rw [addT_ne t]; exact e)
/-- what was unknown for a while is as it was -/
theorem un_addT (u : Un fs ex (delT H T) H' h h') (hT : ∀ b o, T b = some o → H b = some (ObjO b o) ∧ b ∉ fs ∧ b ∉ ex) (ho : HOk P w H h) : (Un fs ex H (addT H' T) h h') ∧ ∀ b o, T b = some o → H' b = none ∧ h'.get? b = some o := by
  have g : ∀ b o, T b = some o → H' b = none ∧ h'.get? b = some o := fun b o t => by
    obtain ⟨h1, h2, h3⟩ := hT b o t
    have e := objO_at ho h1
    exact ⟨u.free b o e (delT_at t) h3, u.keep b o e (delT_at t) h2 h3⟩
  refine ⟨⟨fun b o e n nf nx => ?_, fun b o e n hf nx => ?_, fun b o e n nx => ?_, u.there, fun b xs e => ?_, fun b o xs e => ?_, fun b ps e => ?_⟩, g⟩
  all_goals cases t : T b with
    | some o2 => first | (rw [(hT b o2 t).1] at n; cases n; done) | (rw [(hT b o2 t).1] at e; cases e; done)
    | none => ?_
  · exact u.keep b o e (by rw [delT_ne t]; exact n) nf nx
  · exact u.slot b o e (by rw [delT_ne t]; exact n) hf nx
  · rw [addT_ne t]; exact u.free b o e (by rw [delT_ne t]; exact n) nx
  · rw [addT_ne t]; exact u.tups b xs (by rw [delT_ne t]; exact e)
  · rw [addT_ne t]; exact u.frzs b o xs (by rw [delT_ne t]; exact e)
  · rw [addT_ne t]; exact u.tbls b ps (by rw [delT_ne t]; exact e)
theorem ub_addT (u : UB fs (delT H T) H' h B h') (hT : ∀ b o, T b = some o → H b = some (ObjO b o) ∧ b ∉ fs) (ho : HOk P w H h) : (UB fs H (addT H' T) h B h') ∧ ∀ b o, T b = some o → H' b = none ∧ B.get? b = some o := by
  have g : ∀ b o, T b = some o → H' b = none ∧ B.get? b = some o := fun b o t => by
    obtain ⟨h1, h2⟩ := hT b o t
    have e := objO_at ho h1
    exact ⟨u.free b o e (delT_at t), u.keep b o e (delT_at t) h2⟩
  refine ⟨⟨fun b o e n nf => ?_, u.slot, fun b o e n => ?_, u.there, fun b xs e => ?_, fun b o xs e => ?_, fun b ps e => ?_⟩, g⟩
  all_goals cases t : T b with
    | some o2 => first | (rw [(hT b o2 t).1] at n; cases n; done) | (rw [(hT b o2 t).1] at e; cases e; done)
    | none => ?_
  · exact u.keep b o e (by rw [delT_ne t]; exact n) nf
  · rw [addT_ne t]; exact u.free b o e (by rw [delT_ne t]; exact n)
  · rw [addT_ne t]; exact u.tups b xs (by rw [delT_ne t]; exact e)
  · rw [addT_ne t]; exact u.frzs b o xs (by rw [delT_ne t]; exact e)
  · rw [addT_ne t]; exact u.tbls b ps (by rw [delT_ne t]; exact e)
end

/-! ### called with less -/
def lesV (T : Tk) (Q : VK) : VK := fun v H' => (∀ b o, T b = some o → H' b = none) → Q v (addT H' T)
def lesE (T : Tk) (E : XK) : XK := fun cls d H' => (∀ b o, T b = some o → H' b = none) → E cls d (addT H' T)
theorem env0_les {P : Program} {w : World} {K : PySem.W.Frag} {mg : Str → Option Value} {base : Heap} {A : Around} {outer : List Env} {s : Shared} {H : Hp} {T : Tk} (e0 : Env0 P w K mg base A outer s H) (hT : ∀ b o, T b = some o → H b = some (ObjO b o)) : Env0 P w K mg base A outer s (delT H T) := by
  have dn : ∀ b, H b = none → delT H T b = none := fun b n => by
    cases t : T b with
    | some o => exact delT_at t
    | none => rw [delT_ne t]; exact n
  exact ⟨e0.frames, e0.mod, fun b o e => ⟨(e0.bs b o e).1, dn b (e0.bs b o e).2⟩, e0.bsz, e0.funs, fun b hb => dn b (e0.frf b hb), hok_delT e0.hok fun b o t => .inl (hT b o t), e0.bare⟩
theorem cr_les {P : Program} {w : World} {K : PySem.W.Frag} {mg : Str → Option Value} {base : Heap} {A : Around} {outer : List Env} {s s' : Shared} {H : Hp} {T : Tk} {Q : VK} {E : XK} {r : Result} (e0 : Env0 P w K mg base A outer s H) (hT : ∀ b o, T b = some o → H b = some (ObjO b o))
    (h : CR (L2.CX P w) outer P w (delT H T) s (lesV T Q) (lesE T E) r s') : CR (L2.CX P w) outer P w H s Q E r s' := by
  have nf : ∀ b o, T b = some o → b ∉ frs outer := fun b o t z => by
    have := e0.frf b z
    rw [hT b o t] at this
    cases this
  cases r with
  | error e =>
    obtain ⟨a, B, H', cls, d, rfl, fl, hok, ub, na, os, ag, hE⟩ := h
    obtain ⟨ub2, g⟩ := ub_addT ub (fun b o t => ⟨hT b o t, nf b o t⟩) e0.hok
    refine ⟨a, B, addT H' T, cls, d, rfl, fl, hok_addT hok g, ub2, ?_, os, ag, hE fun b o t => (g b o t).1⟩
    cases t : T a with
    | none => rw [addT_ne t]; exact na
    | some o =>
      have z := (g a o t).2
      have z2 : B.get? a = none := fl.2.1
      rw [z2] at z
      cases z
  | ok fl =>
    cases fl with
    | ret u =>
      obtain ⟨v, H', os, bare, un, hok, r, q⟩ := h
      obtain ⟨un2, g⟩ := un_addT un (fun b o t => ⟨hT b o t, nf b o t, by simp⟩) e0.hok
      exact ⟨v, addT H' T, os, bare, un2, hok_addT hok g, r, q fun b o t => (g b o t).1⟩
    | next => exact h
    | brk => exact h
    | cont => exact h
/-- the frame that a lambda was made in, of which names and cells alone still count -/
structure Ph (X : Cx) (P : Program) (w : World) (K : PySem.W.Frag) (mg : Str → Option Value) (base : Heap) : Prop where
  prog : X.prog = P
  w : X.w = w
  K : X.K = K
  mg : X.mg = mg
  base : X.base = base
def InjC (X : Cx) : Prop := ∀ y z c, X.env.cells.lookup y = some c → X.env.cells.lookup z = some c → y = z
theorem lam_start4 {X : Cx} {σ : L2.St} {HZ : Hp} {s1 : Shared} {A : Around} {outer : List Env} {E : XK} {scope : Scope} {f c' : Addr} {h₁ : Heap} {tk : Nat} {look : Str → Option Value} (L : LamT X.N X.env.scope scope) (hinj : InjC X)
    (hcell : ∀ y ∈ scope.names, y.2 = .free → ∃ c v, X.env.cells.lookup y.1 = some c ∧ HZ c = none ∧ s1.heap.IsCell c v)
    (hlook : ∀ (i : Nat) (y : Str) (v : V), X.N[i]? = some y → σ[i]? = some (some v) → scope.names.lookup y = some .free → ∃ c u, X.env.cells.lookup y = some c ∧ RelV v u ∧ s1.heap.IsCell c (some u)) (hlen : σ.length = X.N.length)
    (e0 : Env0 X.prog X.w X.K X.mg X.base A outer s1 HZ) (hd : A.handled = none) (hns : h₁.Ns s1.heap.objs.size look) (kp : ∀ b o, s1.heap.get? b = some o → h₁.get? b = some o) :
    Inv (LamX.lamCx X A outer s1 HZ E scope f c') [] σ HZ { s1 with heap := h₁, toks := tk } := by
  have cm : ∀ {y c}, (cloFrom X.env.cells scope.names []).lookup y = some c → X.env.cells.lookup y = some c ∧ HZ c = none ∧ ∃ v, s1.heap.IsCell c v := fun {y c} e => by
    rcases cloFrom_mem (PySem.mem_of_lookup e) with hm | ⟨h1, h2⟩
    · cases hm
    · obtain ⟨c1, v, hc, g1, g2⟩ := hcell _ h1 rfl
      have hc : X.env.cells.lookup y = some c1 := hc
      have e2 : c = c1 := by rw [h2, hc] <;> rfl
      rw [e2]
      exact ⟨hc, g1, v, g2⟩
  have lk : ∀ {y}, scope.names.lookup y = some .free → ∃ c, (cloFrom X.env.cells scope.names []).lookup y = some c := fun {y} hl => by
    have hy : (y, NameKind.free) ∈ scope.names := PySem.mem_of_lookup hl
    exact mem_lookup (cloFrom_has (cells := X.env.cells) (acc := []) hy)
  have cellK : ∀ {c : Addr} {v : Option Value}, s1.heap.IsCell c v → h₁.IsCell c v := fun {c v} ⟨o, ho, hd⟩ => ⟨o, kp _ _ ho, hd⟩
  have noA : ∀ b : Addr, b ∉ (LamX.lamCx X A outer s1 HZ E scope f c').ex := fun b z => absurd (show b ∈ ([] : List Addr) from z) (by simp)
  refine ⟨⟨e0.mod, L.kind, rfl, rfl, Nat.le_refl _, fun y z c e1 e2 => hinj y z c (cm e1).1 (cm e2).1, fun y hy => ?_, fun y c z _ => ?_, fun _ => hd, Around.frames_deeper e0.frames, .inr ⟨rfl, rfl⟩, fun b z => absurd z (noA b), e0.bs, e0.bsz, fun b _ _ => noA b,
      fun b z => absurd z (noA b), e0.funs, e0.frf⟩,
    rfl, e0.bare, Un.kept kp, ⟨_, hns, fun i y v e1 e2 e3 => ?_⟩, fun y c e => ?_, e0.hok.fresh (Nat.le_refl _), fun y c e => ?_, fun q hq => absurd (show q ∈ ([] : List (Addr × Obj)) ++ [] from hq) (by simp), e0.hok.kept kp, hlen⟩
  · have hy : scope.names.lookup y = some .cell ∨ scope.names.lookup y = some .free := hy
    rcases hy with hy | hy
    · exact absurd rfl (L.own _ (PySem.mem_of_lookup hy))
    · exact lk hy
  · have z : false = true := z
    cases z
  · have e3 : Vis scope y := e3
    rcases e3 with k | k | k
    · exact absurd (List.mem_of_getElem? e1) (L.loc _ (PySem.mem_of_lookup k) rfl)
    · exact absurd rfl (L.own _ (PySem.mem_of_lookup k))
    · obtain ⟨c, u, hc, r, z⟩ := hlook i y v e1 e2 k
      obtain ⟨c2, h2⟩ := lk k
      have e := (cm h2).1
      rw [hc] at e
      cases e
      exact ⟨u, r, .inr ⟨.inr k, c, h2, cellK z⟩⟩
  · obtain ⟨_, _, v, z⟩ := cm e
    exact ⟨v, cellK z⟩
  · exact (cm e).2.1
/-- what a lambda is asked of: its cells are T's -/
def CloT (X : Cx) (scope : Scope) (tb : XK → TE) (E : XK) (HZ : Hp) (Q : VK) : Prop := ∃ (T : Tk) (σ : L2.St), (∀ b o, T b = some o → HZ b = some (ObjO b o)) ∧ σ.length = X.N.length ∧ (∀ y ∈ scope.names, y.2 = .free → ∃ c o v, X.env.cells.lookup y.1 = some c ∧ T c = some o ∧ o.data = .cell v) ∧
  (∀ (i : Nat) (y : Str) (v : V), X.N[i]? = some y → σ[i]? = some (some v) → scope.names.lookup y = some .free → ∃ c o u, X.env.cells.lookup y = some c ∧ T c = some o ∧ o.data = .cell (some u) ∧ RelV v u) ∧ tb (lesE T E) σ (delT HZ T) (lesV T Q)
/-- x(), x a lambda whose cells are tracked -/
theorem pe_actC {Y X : Cx} {s : Shared} {H : Hp} {CXg : CXT} {Eg : XK} {Ng : List Str} {qg : Str} {sg : Scope} {g f c' : Addr} {cdg : Value} {params : Arguments} {body : Expr} {scope : Scope} {k i : Nat} {a : Str} {pn : List (Addr × Obj)} {xe : Value → Shared → Prop} {W : WX} {E : XK} {tb : XK → TE} {p1 p2 : Pos} {o : Obj} {t : Option (Addr × Obj)} {dx : Option (Str × V)}
    (hX : Ph X Y.prog Y.w Y.K Y.mg Y.base) (L : LamT X.N X.env.scope scope) (hinj : InjC X) (hJ : LamJ (X.env.qual ++ "<lambda>") X.env.cells params body scope dx o c' t) (hbind : BindV params body scope dx)
    (tk : Takes ((cxOf CXg Y.prog Y.w Y.K Y.mg Y.base Ng qg sg g cdg Y.A Y.stack s H Eg).tr pn xe) W) (hW : ∀ cls d σ' H', E cls d H' → W cls d σ' H') (hr : Room (k + 1) (Y.A.deeper (envOfC qg sg s.heap.objs.size g cdg)))
    (hbody : ∀ (A : Around) (outer : List Env) (s : Shared) (H : Hp) (E : XK), Room k (A.deeper (LamX.lamEnv X scope s.heap.objs.size f c')) → PE (LamX.lamCx X A outer s H E scope f c') body (tb E))
    (hN : Ng[i]? = some a) (hv : Vis sg a) (hd : (a == ("__debug__" : Str)) = false := by decide) (hcd : (a == ("__classdict__" : Str)) = false := by decide) :
    PE ((cxOf CXg Y.prog Y.w Y.K Y.mg Y.base Ng qg sg g cdg Y.A Y.stack s H Eg).tr pn xe) (.Call (.Name a p1) [] [] p2)
      (fun σZ HZ Q => σZ[i]? = some (some (.ref f)) ∧ HZ c' = some (LamX.CodeO c' (X.env.qual ++ "<lambda>")) ∧ HZ f = some (ObjO f o) ∧ tupD HZ t ∧ CloT X scope tb E HZ Q) := by
  obtain ⟨Xp, Xw, XK, Xmg, Xb, XA, XN, Xs, XH, Xe, Xo, Xst, Xex, Xfn, Xc, Xpn, Xxe⟩ := X
  obtain ⟨e1, e2, e3, e4, e5⟩ := hX
  simp only at e1 e2 e3 e4 e5
  subst e1 e2 e3 e4 e5
  refine ⟨fun pinsZ sZ σZ HZ Q IZ h => ?_⟩
  obtain ⟨hs, hc, hf, htp, T, σ, hT, hlen, hcell, hlook, ht⟩ := h
  refine wpAny_Call_Name_kw (thn ((pe_var (pos := p1) (i := i) hN hv hd hcd).run pinsZ sZ σZ HZ (fun v H1 => v = .ref f ∧ H1 = HZ) IZ ⟨.ref f, hs, rfl, rfl⟩) fun u s1 ⟨v, H1, I1, r1, q1⟩ => ?_)
  obtain ⟨ev, eH⟩ := q1
  subst ev
  rw [eH] at I1
  obtain rfl : u = Value.ref f := r1
  obtain ⟨dV, doc, pm, ctv, rfl, hJ⟩ := hJ
  have of1 := objO_at I1.hok hf
  refine PySem.W.callWith_F0 ⟨_, _, _, _, of1⟩ ?_
  obtain ⟨⟨oc, vs, t', hoc, hdc, hvc⟩, _, _⟩ := I1.hok c' _ hc
  have e0 := I1.env0
  have e1 := env0_les e0 hT
  have rc : codeAny (model Y.prog Y.w) (Y.A.deeper (envOfC qg sg s.heap.objs.size g cdg)) (.call (.ref f) ⟨[], []⟩) (CR (L2.CX Y.prog Y.w) (envOfC qg sg s.heap.objs.size g cdg :: Y.stack) Y.prog Y.w (delT HZ T) s1 (lesV T Q) (lesE T E)) s1 := by
    refine PySem.W.kla_callFunE hr.depth of1 rfl L.co L.gen rfl ⟨c', oc, vs, t', rfl, hoc, hdc, hvc⟩ ?_
    have fin : ∀ binds : List (Str × Value), (∀ y ∈ binds, scope.names.lookup y.1 = some .local) →
        wpAny (model Y.prog Y.w) (Y.A.deeper (envOfC qg sg s.heap.objs.size g cdg)).in1 (newFunctionEnv scope mainGlobals (cloFrom Xe.cells scope.names []) binds (Xe.qual ++ "<lambda>" ++ ".<locals>.") (some f) (.ref c') none builtinsNs)
          (fun env s₂ => s₂.heap.NoLimit ∧ codeAny (model Y.prog Y.w) (Y.A.deeper (envOfC qg sg s.heap.objs.size g cdg)) (.expr body env) (CR (L2.CX Y.prog Y.w) (envOfC qg sg s.heap.objs.size g cdg :: Y.stack) Y.prog Y.w (delT HZ T) s1 (lesV T Q) (lesE T E)) s₂) (fun e s' => CR (L2.CX Y.prog Y.w) (envOfC qg sg s.heap.objs.size g cdg :: Y.stack) Y.prog Y.w (delT HZ T) s1 (lesV T Q) (lesE T E) (.error e) s') s1 := fun binds hloc => by
      refine wpAny_newFunctionEnv (fun y hy => L.own y hy) hloc (fun h₁ hns hsb => ⟨I1.nolimit.fresh _ hsb, ?_⟩) L.kind
      show codeAny _ _ (.expr body (LamX.lamEnv ⟨Y.prog, Y.w, Y.K, Y.mg, Y.base, XA, XN, Xs, XH, Xe, Xo, Xst, Xex, Xfn, Xc, Xpn, Xxe⟩ scope s1.heap.objs.size f c')) _ _
      have kp : ∀ b o, s1.heap.get? b = some o → h₁.get? b = some o := fun b o e => hsb.extBut b o (Nat.ne_of_lt (Heap.lt_size e)) (Heap.get?_push_of_some _ e)
      have J : Inv (LamX.lamCx ⟨Y.prog, Y.w, Y.K, Y.mg, Y.base, XA, XN, Xs, XH, Xe, Xo, Xst, Xex, Xfn, Xc, Xpn, Xxe⟩ (Y.A.deeper (envOfC qg sg s.heap.objs.size g cdg)) (envOfC qg sg s.heap.objs.size g cdg :: Y.stack) s1 (delT HZ T) (lesE T E) scope f c') [] σ (delT HZ T) { s1 with heap := h₁, toks := s1.toks + binds.length } :=
        lam_start4 L hinj (fun y hy e => let ⟨c, o2, v, h1, h2, h3⟩ := hcell y hy e; ⟨c, v, h1, delT_at h2, o2, objO_at I1.hok (hT c o2 h2), h3⟩) (fun i y v h1 h2 h3 => let ⟨c, o2, u, g1, g2, g3, g4⟩ := hlook i y v h1 h2 h3; ⟨c, u, g1, g4, o2, objO_at I1.hok (hT c o2 g2), g3⟩) hlen e1 hr.hd hns kp
      refine PySem.W.kla_codeExpr (wpAny_mono ((hbody _ _ s1 (delT HZ T) (lesE T E) (hr.deeper _)).run [] _ _ (delT HZ T) (lesV T Q) J ht) (fun v s' hq => ?_) fun e s' hq => hq)
      obtain ⟨w', H', J', rv, q⟩ := hq
      exact ⟨w', H', J'.os, J'.bare, J'.base, J'.hok, rv, q⟩
    rcases hJ with ⟨rfl, rfl, rfl⟩ | ⟨x, d, u, T', rfl, ru, rfl, rfl⟩
    · rw [show bindArgs _ _ = _ from hbind _ _ _ _ _ _]
      exact wpAny_pure (fin [] fun y hy => absurd hy (by simp))
    · obtain ⟨hl, hb⟩ := hbind
      obtain ⟨kk, e1, e2⟩ := hb (Xe.qual ++ "<lambda>") (cloFrom Xe.cells scope.names []) T' doc pm (.ref c') ctv
      exact BindsTo.of_defaults (fd := PySem.W.kdv_fn "<lambda>" (Xe.qual ++ "<lambda>") params (.expr body) scope (cloFrom Xe.cells scope.names []) (.ref T') doc pm (.ref c') ctv) (T := T') (items := [u].toArray) rfl (objO_at I1.hok (htp _ rfl)) rfl e1 (e2 u) _ _ _ _
        (fin [(x, u)] fun y hy => by rw [List.mem_singleton.mp hy]; exact hl)
  have hx : Passes (L2.CX Y.prog Y.w) ((cxOf CXg Y.prog Y.w Y.K Y.mg Y.base Ng qg sg g cdg Y.A Y.stack s H Eg).tr pn xe) E := passes_call tk hW
  refine wpAny_call (codeAny_mono rc fun r s' hq0 => ?_)
  have hq := cr_les e0 hT hq0
  cases r with
  | error e => exact hx pinsZ σZ HZ s1 e s' I1 hq
  | ok fl =>
    cases fl with
    | ret u => exact I1.after hq
    | next => exact False.elim hq
    | brk => exact False.elim hq
    | cont => exact False.elim hq
end L3
/-! L94: lambdas whose cells are tracked, over data: x(v), x a def that tells how it was refused. -/
namespace L3
open PySem PySem.Spec PySem.Calls PyProof.Rows L2
def Mu.les (m : Mu) (T : Tk) : Mu := fun b => match T b with
  | some _ => none
  | none => m b
def Mu.res (m' : Mu) (T : Tk) (m : Mu) : Mu := fun b => match T b with
  | some _ => m b
  | none => m' b
theorem Mu.les_at {m : Mu} {T : Tk} {b : Addr} {o : Obj} (e : T b = some o) : m.les T b = none := by simp only [Mu.les, e]
theorem Mu.les_ne {m : Mu} {T : Tk} {b : Addr} (e : T b = none) : m.les T b = m b := by simp only [Mu.les, e]
theorem Mu.res_at {m m' : Mu} {T : Tk} {b : Addr} {o : Obj} (e : T b = some o) : m'.res T m b = m b := by simp only [Mu.res, e]
theorem Mu.res_ne {m m' : Mu} {T : Tk} {b : Addr} (e : T b = none) : m'.res T m b = m' b := by simp only [Mu.res, e]
/-- T: objects of cells that the store knows -/
def CelT (m : Mu) (T : Tk) : Prop := ∀ b o, T b = some o → ∃ v d, m b = some (.cel o v d)
section
variable {K : PySem.W.Frag} {H H' : Hp} {B : Addr → Prop} {m m' : Mu} {T : Tk}
theorem CelT.ban (h : CelT m T) {b : Addr} {o : Obj} (e : T b = some o) : Ban B m b := by
  obtain ⟨v, d, z⟩ := h b o e
  exact .inr (by rw [z]; exact fun y => nomatch y)
theorem CelT.at_ (h : CelT m T) (W : Wd K H B m) : ∀ b o, T b = some o → H b = some (ObjO b o) := fun b o e => by
  obtain ⟨v, d, z⟩ := h b o e
  exact (W.cell b _ z).1
theorem carry_les (h : CelT m T) : Carry H (Ban B m) (delT H T) (Ban B (m.les T)) := fun a o e n => by
  cases t : T a with
  | some o2 => exact absurd (h.ban t) n
  | none => exact ⟨by rw [delT_ne t]; exact e, fun z => n (z.imp id fun z => by rw [Mu.les_ne t] at z; exact z)⟩
theorem Wd.les (W : Wd K H B m) (h : CelT m T) : Wd K (delT H T) B (m.les T) := by
  refine ⟨fun a c e => ?_, fun a b => ?_⟩
  · cases t : T a with
    | some o => rw [Mu.les_at t] at e; cases e
    | none =>
      rw [Mu.les_ne t] at e
      refine CellOk.carry (carry_les h) (fun o q => by rw [delT_ne t]; exact q) (fun dx q n => ?_) (W.cell a c e)
      cases td : T dx with
      | some o => obtain ⟨v, d, z⟩ := h dx o td; rw [z] at n; cases n
      | none => exact ⟨by rw [delT_ne td]; exact q, by rw [Mu.les_ne td]; exact n⟩
  · obtain ⟨h1, h2⟩ := W.hid a b
    cases t : T a with
    | some o => obtain ⟨v, d, z⟩ := h a o t; rw [z] at h2; cases h2
    | none => exact ⟨by rw [delT_ne t]; exact h1, by rw [Mu.les_ne t]; exact h2⟩
theorem carry_res (hn : ∀ b o, T b = some o → H' b = none) : Carry H' (Ban B m') (addT H' T) (Ban B (m'.res T m)) := fun a o e n => by
  cases t : T a with
  | some o2 => rw [hn a o2 t] at e; cases e
  | none => exact ⟨by rw [addT_ne t]; exact e, fun z => n (z.imp id fun z => by rw [Mu.res_ne t] at z; exact z)⟩
theorem step_res (h : CelT m T) (st : Step (delT H T) (m.les T) H' m') : Step H m (addT H' T) (m'.res T m) := fun x o e n => by
  cases t : T x with
  | some o2 => obtain ⟨v, d, z⟩ := h x o2 t; rw [z] at n; cases n
  | none =>
    obtain ⟨h1, h2⟩ := st x o (by rw [delT_ne t]; exact e) (by rw [Mu.les_ne t]; exact n)
    exact ⟨by rw [addT_ne t]; exact h1, by rw [Mu.res_ne t]; exact h2⟩
theorem Wd.res (W : Wd K H B m) (h : CelT m T) (st : Step (delT H T) (m.les T) H' m') (W' : Wd K H' B m') (hn : ∀ b o, T b = some o → H' b = none) : Wd K (addT H' T) B (m'.res T m) := by
  refine ⟨fun a c e => ?_, fun a b => ?_⟩
  · cases t : T a with
    | some o =>
      rw [Mu.res_at t] at e
      obtain ⟨v, d, z⟩ := h a o t
      rw [z] at e
      cases e
      obtain ⟨_, h2, h3⟩ := W.cell a _ z
      exact ⟨addT_at t, h2, Rep.carry (carry_res hn) _ _ (Rep.carry st.carry _ _ (Rep.carry (carry_les h) _ _ h3))⟩
    | none =>
      rw [Mu.res_ne t] at e
      refine CellOk.carry (carry_res hn) (fun o q => by rw [addT_ne t]; exact q) (fun dx q n => ?_) (W'.cell a c e)
      cases td : T dx with
      | some o => rw [hn dx o td] at q; cases q
      | none => exact ⟨by rw [addT_ne td]; exact q, by rw [Mu.res_ne td]; exact n⟩
  · obtain ⟨h1, h2⟩ := W'.hid a b
    cases t : T a with
    | some o => exact absurd (hn a o t) h1
    | none => exact ⟨by rw [addT_ne t]; exact h1, by rw [Mu.res_ne t]; exact h2⟩
theorem sub_res (h : CelT m T) (s : Sub (m.les T) m') : Sub m (m'.res T m) := fun a c e => by
  cases t : T a with
  | some o => rw [Mu.res_at t]; exact e
  | none => rw [Mu.res_ne t]; exact s a c (by rw [Mu.les_ne t]; exact e)
end
/-! ### what is told of a lambda -/
/-- made in X; ns: the slots of the names that it captured -/
structure CloA (X : Cx) (k : Nat) (ns : List Nat) (t : AEYt) (o : Obj) (c : Addr) (tt : Option (Addr × Obj)) : Prop where
  ex : ∃ (params : Arguments) (body : Expr) (scope : Scope) (dx : Option (Str × V)), LamJ (X.env.qual ++ "<lambda>") X.env.cells params body scope dx o c tt ∧ LamT X.N X.env.scope scope ∧ BindV params body scope dx ∧ (∀ y ∈ scope.names, y.2 = .free → ∃ i ∈ ns, X.N[i]? = some y.1) ∧
    ∀ (A : Around) (outer : List Env) (s : Shared) (H : Hp) (E : XK) (f c' : Addr), Room k (LamX.lamCx X A outer s H E scope f c').A → AEY (LamX.lamCx X A outer s H E scope f c') body t
/-- the captured names' cells are in the store -/
structure Cels (X : Cx) (ns : List Nat) (δ0 : Dt) (m : Mu) : Prop where
  len : δ0.length = X.N.length
  to : ∀ i ∈ ns, ∃ d y b o v, δ0[i]? = some (some d) ∧ X.N[i]? = some y ∧ X.env.cells.lookup y = some b ∧ m b = some (.cel o v d)
  of : ∀ i d, δ0[i]? = some (some d) → i ∈ ns
theorem Cels.mono {X : Cx} {ns : List Nat} {δ0 : Dt} {m m' : Mu} (h : Cels X ns δ0 m) (s : Sub m m') : Cels X ns δ0 m' :=
  ⟨h.len, fun i hi => let ⟨d, y, b, o, v, h1, h2, h3, h4⟩ := h.to i hi; ⟨d, y, b, o, v, h1, h2, h3, s _ _ h4⟩, h.of⟩
/-- d may be called, and does L -/
def Calls (P : Program) (w : World) (K : PySem.W.Frag) (mg : Str → Option Value) (base : Heap) (k : Nat) (m : Mu) (d : D) (L : Mu → EK → Yw → Prop) : Prop :=
  ∃ (f : Addr) (o : Obj) (c : Addr) (tt : Option (Addr × Obj)) (X : Cx) (ns : List Nat) (t : AEYt) (δ0 : Dt), d = .ref f ∧ m f = some (.fnc o c (X.env.qual ++ "<lambda>") tt) ∧ Ph X P w K mg base ∧ InjC X ∧ CloA X k ns t o c tt ∧ Cels X ns δ0 m ∧ L = t δ0
theorem Calls.mono {P w K mg base k m m' d L} (h : Calls P w K mg base k m d L) (s : Sub m m') : Calls P w K mg base k m' d L :=
  let ⟨f, o, c, tt, X, ns, t, δ0, h1, h2, h3, h4, h5, h6, h7⟩ := h
  ⟨f, o, c, tt, X, ns, t, δ0, h1, s _ _ h2, h3, h4, h5, h6.mono s, h7⟩
/-- it comes to something; it is refused: wherever the tables of m0 stand -/
def SaysL (m0 : Mu) (L : Mu → EK → Yw → Prop) (r : Option (Str × Fo)) : Prop := ∀ (m : Mu) (Q : EK) (xq : Yw), (∀ a q, m0 a = some (.tab q) → m a = some (.tab q)) → (∀ n fo, r = some (n, fo) → ∀ m', Sub m m' → xq n fo m') → (r = none → ∀ d m', Sub m m' → Q d m') → L m Q xq
theorem SaysL.mono {m m' : Mu} {L : Mu → EK → Yw → Prop} {r : Option (Str × Fo)} (h : SaysL m L r) (s : Sub m m') : SaysL m' L r := fun m2 Q xq ht => h m2 Q xq fun a q e => ht a q (s _ _ e)
def kindR : Option (Str × Fo) → D
  | none => .str ""
  | some (n, fo) => kindD n fo
def KnownR : Option (Str × Fo) → Prop
  | none => True
  | some (n, fo) => Known n fo
/-- what is asked of x(v) -/
def KAtC (P : Program) (w : World) (K : PySem.W.Frag) (mg : Str → Option Value) (base : Heap) (k : Nat) (v : V) (H : Hp) (Q : VK) : Prop :=
  ∃ (f : Addr) (o : Obj) (c : Addr) (tt : Option (Addr × Obj)) (X : Cx) (params : Arguments) (body : Expr) (scope : Scope) (dx : Option (Str × V)) (tb : XK → TE), v = .ref f ∧ H f = some (ObjO f o) ∧ H c = some (LamX.CodeO c (X.env.qual ++ "<lambda>")) ∧ tupD H tt ∧ Ph X P w K mg base ∧ InjC X ∧
    LamJ (X.env.qual ++ "<lambda>") X.env.cells params body scope dx o c tt ∧ LamT X.N X.env.scope scope ∧ BindV params body scope dx ∧
    (∀ (A : Around) (outer : List Env) (s : Shared) (H : Hp) (E : XK), Room k (A.deeper (LamX.lamEnv X scope s.heap.objs.size f c)) → PE (LamX.lamCx X A outer s H E scope f c) body (tb E)) ∧
    TTk K (fun E H' Q' => H' f = some (ObjO f o) ∧ tupD H' tt ∧ CloT X scope tb E H' Q') H Q
theorem kindsC_sound {P : Program} {w : World} {K : PySem.W.Frag} {mg : Str → Option Value} {base : Heap} {k : Nat} {B : Addr → Prop} {m : Mu} {Q : EK} {Q' : VK} {H : Hp} {d : D} {v : V} {L : Mu → EK → Yw → Prop} {r : Option (Str × Fo)} (W : Wd K H B m) (rp : Rep K H (Ban B m) d v)
    (h : Calls P w K mg base k m d L) (hL : SaysL m L r) (hK : KnownR r) (q : ∀ m2, Sub m m2 → Q (kindR r) m2) (kk : PostE K B H m Q Q') : KAtC P w K mg base k v H Q' := by
  obtain ⟨f, o, c, tt, X, ns, t, δ0, rfl, hm, hX, hinj, ⟨params, body, scope, dx, hJ, lt, bv, hsl, hbody⟩, hC, rfl⟩ := h
  obtain ⟨h1, h2, h3, h4⟩ := W.cell f _ hm
  have htp : tupD H tt := fun p hp => (h4 p hp).1
  have eK : X.K = K := hX.K
  refine ⟨f, o, c, tt, X, params, body, scope, dx, bE X.K t, rep_ref.mp rp, h1, h2, htp, hX, hinj, hJ, lt, bv, fun A outer s H E room => (hbody A outer s H E f c room).run (fun cls d _ H => E cls d H) (takes_of rfl rfl rfl rfl), B, m, Q, W, kk, h1, htp, ?_⟩
  classical
  obtain ⟨T, hT⟩ : ∃ T : Tk, T = fun b => if (∃ i ∈ ns, ∃ y, X.N[i]? = some y ∧ X.env.cells.lookup y = some b) then (match m b with | some (.cel o _ _) => some o | _ => none) else none := ⟨_, rfl⟩
  have hcel : CelT m T := fun b o e => by
    rw [hT] at e
    simp only at e
    split at e
    · split at e
      · rename_i z; cases e; exact ⟨_, _, z⟩
      · cases e
    · cases e
  have hto : ∀ i ∈ ns, ∃ d y b o v, δ0[i]? = some (some d) ∧ X.N[i]? = some y ∧ X.env.cells.lookup y = some b ∧ m b = some (.cel o v d) ∧ T b = some o := fun i hi => by
    obtain ⟨d, y, b, o, v, g1, g2, g3, g4⟩ := hC.to i hi
    refine ⟨d, y, b, o, v, g1, g2, g3, g4, ?_⟩
    rw [hT]
    simp only
    rw [if_pos ⟨i, hi, y, g2, g3⟩, g4]
  obtain ⟨σ, hσ⟩ : ∃ σ : L2.St, σ = (List.range X.N.length).map fun i => if i ∈ ns then (X.N[i]?).bind (fun y => (X.env.cells.lookup y).bind fun b => match m b with | some (.cel _ v _) => some v | _ => none) else none := ⟨_, rfl⟩
  have hlen : σ.length = X.N.length := by rw [hσ]; simp
  have hat : ∀ i ∈ ns, ∀ d y b o v, X.N[i]? = some y → X.env.cells.lookup y = some b → m b = some (.cel o v d) → σ[i]? = some (some v) := fun i hi d y b o v g2 g3 g4 => by
    have il := (List.getElem?_eq_some_iff.mp g2).1
    rw [hσ, List.getElem?_map, List.getElem?_range il]
    show some (if i ∈ ns then _ else none) = _
    rw [if_pos hi, g2]
    simp only [Option.bind_some, g3, g4]
  refine ⟨T, σ, hcel.at_ W, hlen, fun y hy e => ?_, fun i y v g1 g2 g3 => ?_, ?_⟩
  · obtain ⟨i, hi, e1⟩ := hsl y hy e
    obtain ⟨d, y2, b, o, v, _, g2, g3, g4, g5⟩ := hto i hi
    rw [e1] at g2
    cases g2
    obtain ⟨_, ⟨u, h2, _⟩, _⟩ := W.cell b _ g4
    exact ⟨b, o, some u, g3, g5, h2⟩
  · have hi : i ∈ ns := by
      rw [hσ, List.getElem?_map] at g2
      cases hr : (List.range X.N.length)[i]? with
      | none => rw [hr] at g2; cases g2
      | some j =>
        rw [hr] at g2
        have ej : j = i := by
          have := List.getElem?_eq_some_iff.mp hr
          obtain ⟨z, e⟩ := this
          rw [← e]; simp
        subst ej
        by_cases hi : j ∈ ns
        · exact hi
        · simp [hi] at g2
    obtain ⟨d, y2, b, o, v2, _, e2, e3, e4, e5⟩ := hto i hi
    rw [g1] at e2
    cases e2
    have := hat i hi d y b o v2 g1 e3 e4
    rw [g2] at this
    cases this
    obtain ⟨_, ⟨u, h2, h3⟩, _⟩ := W.cell b _ e4
    exact ⟨b, o, u, e3, e5, h2, h3⟩
  · have E0 : EnvD K (delT H T) (Ban B (m.les T)) σ δ0 := ⟨by rw [hlen, hC.len], fun i d e => by
      have hi := hC.of i d e
      obtain ⟨d2, y, b, o, v, g1, g2, g3, g4, g5⟩ := hto i hi
      rw [e] at g1
      cases g1
      exact ⟨v, hat i hi d y b o v g2 g3 g4, Rep.carry (carry_les hcel) _ _ (W.cell b _ g4).2.2⟩⟩
    refine ⟨B, δ0, m.les T, fun _ m' => r = none ∧ Sub (m.les T) m', fun n fo m' => r = some (n, fo) ∧ Sub (m.les T) m', by rw [eK]; exact W.les hcel, by rw [eK]; exact E0, hL _ _ _ (fun a q e => by
      cases t0 : T a with
      | none => rw [Mu.les_ne t0]; exact e
      | some o => obtain ⟨v, d, z⟩ := hcel a o t0; rw [z] at e; cases e) (fun n fo e m' s => ⟨e, s⟩) (fun e d m' s => ⟨e, s⟩), ?_, ?_⟩
    · rintro d m' v H' st W' rp ⟨er, s⟩ hn
      rw [eK] at W'
      exact kk (.str "") (m'.res T m) (.str "") (addT H' T) (step_res hcel st) (W.res hcel st W' hn) (rep_str.mpr rfl) (by have := q _ (sub_res hcel s); rw [er] at this; exact this)
    · rintro n fo d m' H' st W' y ⟨er, s⟩ hn
      rw [eK] at W' y ⊢
      refine ⟨n, fo, m'.res T m, rfl, step_res hcel st, W.res hcel st W' hn, y.carry (carry_res hn), ?_, ?_⟩
      · rw [er] at hK; exact hK
      · have := q _ (sub_res hcel s)
        rw [er] at this
        exact this
section
variable {X : Cx}
/-- x(e), e such a lambda -/
theorem pe_kindC {x a : Str} {k : Nat} {st : Stmt} {Ng : List Str} {e : Expr} {te : TE} {p pos : Pos} (D : DefK X.K X.mg x st a) (hg : Gl X x)
    (Sg : FnScope Ng [a] (defScope st)) (hNg : Ng[0]? = some a) (hva : Vis (defScope st) a) (hG : ∀ (q : Str) (g : Addr) (cdg : Value), LamX.GivesTo X Ng x (defScope st) g cdg (defBody st) a q (TTk X.K)) (hr : Room (k + 2) X.A)
    (he : PE X e te) (hst : starEach [e] X.env = [(false, eval e X.env)] := by rfl) (hdb : (x == ("__debug__" : Str)) = false := by decide) (hd : (a == ("__debug__" : Str)) = false := by decide) (hcd : (a == ("__classdict__" : Str)) = false := by decide) :
    PE X (.Call (.Name x p) [e] [] pos) (fun σ H Q => te σ H fun v H1 => KAtC X.prog X.w X.K X.mg X.base k v H1 Q) := by
  obtain ⟨g, oc, od, dV, kV, doc, pm, an, cdv, ct, osl, lk, hcg, hk, hm, hb⟩ := D.ex
  refine ⟨fun pins s σ H Q I h => ?_⟩
  refine wpAny_Call_Name_kw (ld_glob I hg hm ?_ hdb)
  refine PySem.W.callWith_K (h₀ := X.base) I.ok.mod.kin hk ?_ (by rw [hst]; rfl) (by rfl)
  rw [hst]
  show wpAny _ _ (spliced ((false, eval e X.env) :: backTo pos [])) _ _ s
  refine Calls.spliced_cons (thn (he.run pins s σ H _ I h) fun u s1 ⟨v, H1, I1, r1, q1⟩ => ?_)
  refine Calls.spliced_nil ⟨I1.kIn, ?_⟩
  obtain ⟨f, o, c, tt, Z, params, body, scope, dx, tb, rfl, hf, hc, htp, hX, hinj, hJ, lt, bv, hbody, h⟩ := q1
  obtain rfl : u = .ref f := r1
  have run : codeAny (model X.prog X.w) X.A (.call (.ref g) ⟨[.ref f], []⟩) (CR C8.CX0 X.stack X.prog X.w H1 s1 Q C8.E0) s1 := by
    refine LamX.run_ofS (N := Ng) (ps := [a]) (us := [.ref f]) (vs := [.ref f]) lk hcg Sg hr I1.env0 (hb s1 [.ref f] I1.kIn rfl) (.cons rfl .nil) rfl fun room => ?_
    obtain ⟨t', ht', hq'⟩ := hG (Z.env.qual ++ "<lambda>") g cdv f c s1 H1 Q (fun E H' Q' => H' f = some (ObjO f o) ∧ tupD H' tt ∧ CloT Z scope tb E H' Q')
      (fun W pn xe E p1 p2 tk hW => pe_actC (i := 0) (f := f) hX lt hinj hJ bv tk hW room (fun A outer s H E hr2 => hbody A outer s H E hr2) hNg hva hd hcd) hc h
    exact ⟨t', ht'.nox, hq'⟩
  refine wpAny_call (codeAny_mono run fun r s2 z => ?_)
  match r, z with
  | .ok (.ret u), z => exact I1.after z
def aKindC (P : Program) (w : World) (K : PySem.W.Frag) (mg : Str → Option Value) (base : Heap) (k : Nat) (te : AEt) : AEt := fun δ m Q => te δ m fun d m1 => ∃ L r, Calls P w K mg base k m1 d L ∧ SaysL m1 L r ∧ KnownR r ∧ ∀ m2, Sub m1 m2 → Q (kindR r) m2
theorem ae_kindC {P : Program} {w : World} {K : PySem.W.Frag} {mg : Str → Option Value} {base : Heap} {x a : Str} {k : Nat} {st : Stmt} {Ng : List Str} {e : Expr} {te : AEt} {p pos : Pos} (hX : Ph X P w K mg base) (D : DefK K mg x st a)
    (Sg : FnScope Ng [a] (defScope st)) (hG : ∀ (q : Str) (g : Addr) (cdg : Value), LamX.GivesTo X Ng x (defScope st) g cdg (defBody st) a q (TTk X.K)) (hr : Room (k + 2) X.A) (he : AE X e te)
    (hg : Gl X x := by rfl) (hNg : Ng[0]? = some a := by rfl) (hva : Vis (defScope st) a := by first | exact Or.inl rfl | exact Or.inr (Or.inl rfl)) (hst : starEach [e] X.env = [(false, eval e X.env)] := by rfl)
    (hdb : (x == ("__debug__" : Str)) = false := by decide) (hd : (a == ("__debug__" : Str)) = false := by decide) (hcd : (a == ("__classdict__" : Str)) = false := by decide) : AE X (.Call (.Name x p) [e] [] pos) (aKindC P w K mg base k te) := by
  obtain ⟨h1, h2, h3, h4, h5⟩ := hX
  subst h1 h2 h3 h4 h5
  obtain ⟨_, pe, se⟩ := he.ex
  exact ⟨_, pe_kindC D hg Sg hNg hva hG hr pe hst hdb hd hcd, fun B δ m Q σ H W E h Q' k => se B δ m _ σ H W E h _ fun d m1 v H1 st W1 r ⟨L, rr, h1, h2, h3, q⟩ => kindsC_sound W1 r h1 h2 h3 q (k.step st)⟩
end
end L3
/-! L95: a frame's own cells, tracked: at its end (lambdas that are handed out), and for one call. -/
namespace L3
open PySem PySem.Spec PySem.Calls PyProof.Rows L2
/-! ### which cells -/
structure OwnT (X : Cx) (σ : L2.St) (p : Nat → Prop) (H : Hp) (T : Tk) : Prop where
  of : ∀ b o, T b = some o → H b = none ∧ ∃ i y v u, p i ∧ X.N[i]? = some y ∧ X.env.scope.names.lookup y = some .cell ∧ σ[i]? = some (some v) ∧ X.env.cells.lookup y = some b ∧ o.data = .cell (some u) ∧ RelV v u
  to : ∀ (i : Nat) (y : Str) (v : V), p i → X.N[i]? = some y → X.env.scope.names.lookup y = some .cell → σ[i]? = some (some v) → ∃ b o, X.env.cells.lookup y = some b ∧ T b = some o
theorem own_ex {X : Cx} {pins : List (Addr × Obj)} {σ : L2.St} {H : Hp} {s : Shared} (I : Inv X pins σ H s) (p : Nat → Prop) : ∃ T : Tk, OwnT X σ p H T ∧ ∀ b o, T b = some o → s.heap.get? b = some o := by
  classical
  obtain ⟨T, hT⟩ : ∃ T : Tk, T = fun b => if (∃ i y v, p i ∧ X.N[i]? = some y ∧ X.env.scope.names.lookup y = some .cell ∧ σ[i]? = some (some v) ∧ X.env.cells.lookup y = some b) then s.heap.get? b else none := ⟨_, rfl⟩
  have at_ : ∀ i y v, X.N[i]? = some y → X.env.scope.names.lookup y = some .cell → σ[i]? = some (some v) → ∃ b o u, X.env.cells.lookup y = some b ∧ s.heap.get? b = some o ∧ o.data = .cell (some u) ∧ RelV v u := fun i y v h1 h2 h3 => by
    obtain ⟨m, _, hl⟩ := I.loc
    obtain ⟨u, r, q⟩ := hl i y v h1 h3 (.inr (.inl h2))
    rcases q with ⟨k, _⟩ | ⟨_, c, e, o, ho, hd⟩
    · have k : X.env.scope.names.lookup y = some .local := k
      rw [h2] at k; cases k
    · exact ⟨c, o, u, e, ho, hd, r⟩
  refine ⟨T, ⟨fun b o e => ?_, fun i y v h0 h1 h2 h3 => ?_⟩, fun b o e => ?_⟩
  · rw [hT] at e
    simp only at e
    split at e
    · rename_i z
      obtain ⟨i, y, v, h0, h1, h2, h3, h4⟩ := z
      obtain ⟨b2, o2, u, g1, g2, g3, g4⟩ := at_ i y v h1 h2 h3
      rw [h4] at g1
      cases g1
      rw [e] at g2
      cases g2
      exact ⟨I.freeC y b h4, i, y, v, u, h0, h1, h2, h3, h4, g3, g4⟩
    · cases e
  · obtain ⟨b, o, u, g1, g2, g3, g4⟩ := at_ i y v h1 h2 h3
    refine ⟨b, o, g1, ?_⟩
    rw [hT]
    simp only
    rw [if_pos ⟨i, y, v, h0, h1, h2, h3, g1⟩, g2]
  · rw [hT] at e
    simp only at e
    split at e
    · exact e
    · cases e
/-- m2: m, and the cells of the names that δ tells -/
structure OwnK (X : Cx) (δ : Dt) (m m2 : Mu) : Prop where
  inj : InjC X
  sub : Sub m m2
  to : ∀ (i : Nat) (y : Str) (d : D), X.N[i]? = some y → X.env.scope.names.lookup y = some .cell → δ[i]? = some (some d) → ∃ b o v, X.env.cells.lookup y = some b ∧ m2 b = some (.cel o v d)
/-- the slots that count -/
def maskD (δ : Dt) (ns : List Nat) : Dt := (List.range δ.length).map fun i => if i ∈ ns then (δ[i]?).join else none
theorem mask_at {δ : Dt} {ns : List Nat} {i : Nat} {d : D} : (maskD δ ns)[i]? = some (some d) ↔ i ∈ ns ∧ δ[i]? = some (some d) := by
  unfold maskD
  rw [List.getElem?_map]
  by_cases il : i < δ.length
  · rw [List.getElem?_range il]
    simp only [Option.map_some, Option.some.injEq]
    by_cases hi : i ∈ ns
    · rw [if_pos hi, List.getElem?_eq_getElem il]
      simp [hi]
    · rw [if_neg hi]
      simp [hi]
  · rw [List.getElem?_eq_none (by simpa using Nat.le_of_not_lt il)]
    constructor
    · intro h; cases h
    · rintro ⟨_, h⟩
      rw [List.getElem?_eq_none (by omega)] at h
      cases h
theorem OwnK.cels {X : Cx} {δ : Dt} {m m2 : Mu} {ns : List Nat} (h : OwnK X δ m m2) (hl : δ.length = X.N.length) (hns : ∀ i ∈ ns, ∃ y d, X.N[i]? = some y ∧ X.env.scope.names.lookup y = some .cell ∧ δ[i]? = some (some d)) : Cels X ns (maskD δ ns) m2 :=
  ⟨by unfold maskD; simp [hl], fun i hi => let ⟨y, d, h1, h2, h3⟩ := hns i hi; let ⟨b, o, v, g1, g2⟩ := h.to i y d h1 h2 h3; ⟨d, y, b, o, v, mask_at.mpr ⟨hi, h3⟩, h1, g1, g2⟩, fun i d e => (mask_at.mp e).1⟩
section
variable {K : PySem.W.Frag} {H : Hp} {B : Addr → Prop} {m : Mu} {σ : L2.St} {δ : Dt} {X : Cx} {T : Tk}
theorem own_mu (hinj : InjC X) (hN : X.N.Nodup) (W : Wd K H B m) (E : EnvD K H (Ban B m) σ δ) (O : OwnT X σ (fun i => ∃ d, δ[i]? = some (some d)) H T) :
    ∃ m2, OwnK X δ m m2 ∧ Wd K (addT H T) B m2 ∧ Step H m (addT H T) m2 ∧ Carry H (Ban B m) (addT H T) (Ban B m2) ∧ CelT m2 T ∧ m2.les T = m := by
  classical
  have fr : ∀ b o, T b = some o → m b = none ∧ ¬ B b := fun b o e => W.free (O.of b o e).1
  have hd : ∀ b, ∃ c : Option (V × D), (∀ o, T b = some o → ∃ v d i y u, c = some (v, d) ∧ X.N[i]? = some y ∧ X.env.scope.names.lookup y = some .cell ∧ σ[i]? = some (some v) ∧ δ[i]? = some (some d) ∧ X.env.cells.lookup y = some b ∧ o.data = .cell (some u) ∧ RelV v u) := fun b => by
    cases t : T b with
    | none => exact ⟨none, fun o e => by cases e⟩
    | some o =>
      obtain ⟨_, i, y, v, u, ⟨d, h0⟩, h1, h2, h3, h4, h5, h6⟩ := O.of b o t
      exact ⟨some (v, d), fun o2 e => by cases e; exact ⟨v, d, i, y, u, rfl, h1, h2, h3, h0, h4, h5, h6⟩⟩
  obtain ⟨c, hc⟩ : ∃ c : Addr → Option (V × D), ∀ b o, T b = some o → ∃ v d i y u, c b = some (v, d) ∧ X.N[i]? = some y ∧ X.env.scope.names.lookup y = some .cell ∧ σ[i]? = some (some v) ∧ δ[i]? = some (some d) ∧ X.env.cells.lookup y = some b ∧ o.data = .cell (some u) ∧ RelV v u := ⟨fun b => Classical.choose (hd b), fun b => Classical.choose_spec (hd b)⟩
  obtain ⟨m2, hm2⟩ : ∃ m2 : Mu, m2 = fun b => match T b, c b with
    | some o, some (v, d) => some (.cel o v d)
    | _, _ => m b := ⟨_, rfl⟩
  have m2_at : ∀ b o, T b = some o → ∃ v d i y u, m2 b = some (.cel o v d) ∧ X.N[i]? = some y ∧ X.env.scope.names.lookup y = some .cell ∧ σ[i]? = some (some v) ∧ δ[i]? = some (some d) ∧ X.env.cells.lookup y = some b ∧ o.data = .cell (some u) ∧ RelV v u := fun b o t => by
    obtain ⟨v, d, i, y, u, e, r⟩ := hc b o t
    refine ⟨v, d, i, y, u, ?_, r⟩
    rw [hm2]
    simp only [t, e]
  have m2_ne : ∀ b, T b = none → m2 b = m b := fun b t => by
    rw [hm2]
    simp only [t]
  have car : Carry H (Ban B m) (addT H T) (Ban B m2) := fun a o e n => by
    cases t : T a with
    | some o2 => rw [(O.of a o2 t).1] at e; cases e
    | none => exact ⟨by rw [addT_ne t]; exact e, fun z => n (z.imp id fun z => by rw [m2_ne a t] at z; exact z)⟩
  refine ⟨m2, ⟨hinj, fun a cc e => ?_, fun i y d h1 h2 h3 => ?_⟩, ⟨fun a cc e => ?_, fun a b => ?_⟩, fun x o e n => ?_, car, fun b o t => ?_, ?_⟩
  · cases t : T a with
    | some o => rw [(fr a o t).1] at e; cases e
    | none => rw [m2_ne a t]; exact e
  · obtain ⟨v, hv, _⟩ := E.at_ i d h3
    obtain ⟨b, o, g1, g2⟩ := O.to i y v ⟨d, h3⟩ h1 h2 hv
    obtain ⟨v2, d2, i2, y2, u, e, k1, k2, k3, k4, k5, _⟩ := m2_at b o g2
    have ey : y2 = y := hinj _ _ _ k5 g1
    subst ey
    have ei : i2 = i := (List.getElem?_inj (List.getElem?_eq_some_iff.mp k1).1 hN).mp (k1.trans h1.symm)
    subst ei
    rw [h3] at k4
    cases k4
    exact ⟨b, o, v2, g1, e⟩
  · cases t : T a with
    | some o =>
      obtain ⟨v, d, i, y, u, e2, k1, k2, k3, k4, k5, k6, k7⟩ := m2_at a o t
      rw [e2] at e
      cases e
      obtain ⟨v2, hv, rp⟩ := E.at_ i d k4
      rw [k3] at hv
      cases hv
      exact ⟨addT_at t, ⟨u, k6, k7⟩, Rep.carry car _ _ rp⟩
    | none =>
      rw [m2_ne a t] at e
      refine CellOk.carry car (fun o q => by rw [addT_ne t]; exact q) (fun dx q n => ?_) (W.cell a cc e)
      cases td : T dx with
      | some o => rw [(O.of dx o td).1] at q; cases q
      | none => exact ⟨by rw [addT_ne td]; exact q, by rw [m2_ne dx td]; exact n⟩
  · obtain ⟨h1, h2⟩ := W.hid a b
    cases t : T a with
    | some o => exact absurd b (fr a o t).2
    | none => exact ⟨by rw [addT_ne t]; exact h1, by rw [m2_ne a t]; exact h2⟩
  · cases t : T x with
    | some o2 => rw [(O.of x o2 t).1] at e; cases e
    | none => exact ⟨by rw [addT_ne t]; exact e, by rw [m2_ne x t]; exact n⟩
  · obtain ⟨v, d, _, _, _, e, _⟩ := m2_at b o t
    exact ⟨v, d, e⟩
  · funext b
    cases t : T b with
    | some o => rw [Mu.les_at t, (fr b o t).1]
    | none => rw [Mu.les_ne t, m2_ne b t]
end
/-! ### at the end of a def -/
structure PSsC (X : Cx) (st : List Stmt) (t : (L2.St → VK) → L2.St → Hp → Prop) : Prop where
  run : ∀ (pins : List (Addr × Obj)) (s : Shared) (σ : L2.St) (H : Hp) (D : L2.St → VK), Inv X pins σ H s → t D σ H → wpAny (model X.prog X.w) X.A (execs st X.env) (fun f s' => ∃ u v σ' H', f = .ret u ∧ Inv X pins σ' H' s' ∧ RelV v u ∧ D σ' v H') X.xe s
section
variable {X : Cx} {st : Stmt} {rest : List Stmt} {e : Expr} {pos : Pos}
theorem psc_ret {te : TE} (he : PE X e te) : PSsC X [.Return (some e) pos] (fun D σ H => te σ H (D σ)) := by
  refine ⟨fun pins s σ H D I h => ?_⟩
  exact wpAny_execs_cons (wpAny_Return_some (thn (he.run pins s σ H _ I h) fun v s1 ⟨x, H1, I1, r1, q1⟩ => ⟨v, x, σ, H1, rfl, I1, r1, q1⟩))
theorem psc_cons {t : TS} {u : (L2.St → VK) → L2.St → Hp → Prop} (h1 : PS X st t) (h2 : PSsC X rest u) : PSsC X (st :: rest) (fun D σ H => t { nx := u D, rt := fun _ _ => False } σ H) := by
  refine ⟨fun pins s σ H D I h => ?_⟩
  refine wpAny_execs_cons (thn (h1.run pins s σ H _ I h) fun f s1 q => ?_)
  cases f with
  | next =>
    obtain ⟨σ', H', I', q⟩ := q
    exact h2.run pins s1 σ' H' D I' q
  | ret v => obtain ⟨_, _, _, _, _, z⟩ := q; exact z.elim
  | brk => obtain ⟨_, _, _, z⟩ := q; exact z.elim
  | cont => obtain ⟨_, _, _, z⟩ := q; exact z.elim
end
/-- .. over data -/
structure ASsC (X : Cx) (st : List Stmt) (t : (Dt → EK) → Dt → Mu → Prop) : Prop where
  ex : ∃ ts, PSsC X st ts ∧ ∀ (B : Addr → Prop) (D : Dt → EK) (δ : Dt) (m : Mu) (σ : L2.St) (H : Hp), Wd X.K H B m → EnvD X.K H (Ban B m) σ δ → t D δ m →
    ∀ De : L2.St → VK, (∀ δ' d m' σ' v H', Step H m H' m' → Wd X.K H' B m' → EnvD X.K H' (Ban B m') σ' δ' → Rep X.K H' (Ban B m') d v → D δ' d m' → De σ' v H') → ts De σ H
section
variable {X : Cx} {st : Stmt} {rest : List Stmt} {e : Expr} {pos : Pos}
theorem asc_ret {te : AEt} (he : AE X e te) : ASsC X [.Return (some e) pos] (fun D δ m => te δ m (D δ)) :=
  let ⟨_, pe, se⟩ := he.ex
  ⟨_, psc_ret pe, fun B D δ m σ H W E h De k => se B δ m _ σ H W E h _ fun d m' v H' st W' r q => k δ d m' σ v H' st W' (E.carry st.carry) r q⟩
theorem asc_cons {t : ASt} {u : (Dt → EK) → Dt → Mu → Prop} (h1 : AS X st t) (h2 : ASsC X rest u) : ASsC X (st :: rest) (fun D δ m => t { nx := u D, rt := fun _ _ => False } δ m) :=
  let ⟨_, p1, s1⟩ := h1.ex
  let ⟨_, p2, s2⟩ := h2.ex
  ⟨_, psc_cons p1 p2, fun B D δ m σ H W E h De k => s1 B _ δ m σ H W E h _ ⟨fun δ' m' σ' H' st W' E' q => s2 B D δ' m' σ' H' W' E' q De fun δ2 d m2 σ2 v H2 st2 W2 E2 r2 q2 => k δ2 d m2 σ2 v H2 (st.trans st2) W2 E2 r2 q2,
    fun _ _ _ _ _ _ _ q => q.elim, fun _ _ _ _ _ _ _ q => q.elim, fun _ _ _ _ _ _ _ q => q.elim⟩⟩
end
/-- a def that hands out lambdas of its own -/
theorem fnd_ofC {P : Program} {w : World} {K : PySem.W.Frag} {mg : Str → Option Value} {base : Heap} {x : Str} {st : Stmt} {N ps : List Str} {k : Nat} {sp : SpD} {c : Addr} (F : DefL K mg x st ps c) (S : FnScope N ps (defScope st)) (hlen : ∀ ds m Q, sp ds m Q → ds.length = ps.length)
    (hbody : ∀ (f : Addr) (A : Around) (outer : List Env) (s : Shared) (H : Hp) (E : XK), Room k (A.deeper (envOfC x (defScope st) s.heap.objs.size f (.ref c))) →
      ∃ t, ASsC (cxOf L2.CX0 P w K mg base N x (defScope st) f (.ref c) A outer s H E).nox (defBody st) t ∧ ∀ ds m Q, sp ds m Q → t (fun δ d m' => ∀ m2, OwnK (cxOf L2.CX0 P w K mg base N x (defScope st) f (.ref c) A outer s H E).nox δ m' m2 → Q d m2) (startD N ds) m) : FnD P w K mg base x (k + 1) sp := by
  obtain ⟨f, oc, od, dV, kV, doc, pm, an, ct, osl, lk, hcd, hk, hm, hb⟩ := F.ex
  have hln : ∀ vs H Q E, spD K sp vs H Q E → vs.length = ps.length := fun vs H Q E ⟨B, m, ds, Qd, W, r, q, _⟩ => by rw [r.len]; exact hlen _ _ _ q
  refine ⟨f, _, ps, ⟨hln, fun A outer s H args us vs Q E hr e0 hb r hsp => ?_⟩, hm, hk, hb⟩
  have hl := hln _ _ _ _ hsp
  have KX : K.In s.heap := e0.mod.kin.keeps fun b o e => (e0.bs b o e).1
  have lim : s.heap.NoLimit := e0.mod.nolimit.keeps fun b o e => (e0.bs b o e).1
  have hkind : ∀ y ∈ ps.zip us, (defScope st).names.lookup y.1 = some .local ∨ ((defScope st).names.lookup y.1 = some .cell ∧ ((cellsFrom (s.heap.objs.size + 1) (defScope st).names []).lookup y.1).isSome = true) := fun ⟨n, v⟩ hy => by
    rcases S.par n (List.of_mem_zip hy).1 with q | q
    · exact .inl q
    · exact .inr ⟨q, PySem.W.cellsFrom_some _ _ _ (.inl q)⟩
  refine codeAny_call_function hr.depth (KX _ _ lk) rfl S.co S.gen rfl (PySem.W.codeRec_of KX hcd) (hb _ _ _ _ ?_)
  refine wpAny_newFunctionEnv_cells S.kind hkind fun env he s1 xc => ?_
  subst he
  refine ⟨lim.keeps xc.toInCall.keep, codeAny_func ?_⟩
  obtain ⟨B, m, ds, Qd, W, rr, q, kk⟩ := hsp
  obtain ⟨t, h, hq⟩ := hbody f A outer s H E (hr.deeper _)
  obtain ⟨ts, ps', ss⟩ := h.ex
  have I : Inv (cxOf L2.CX0 P w K mg base N x (defScope st) f (.ref c) A outer s H E) [] (start N vs) H s1 := inv_start S hr.hd e0 hl r xc
  have run := ss B _ (startD N ds) m _ H W (EnvD.start N rr) (hq ds m Qd q) (fun σ' v H' => ∀ T : Tk, InjC (cxOf L2.CX0 P w K mg base N x (defScope st) f (.ref c) A outer s H E).nox → (∀ p, True → ∃ T, OwnT (cxOf L2.CX0 P w K mg base N x (defScope st) f (.ref c) A outer s H E).nox σ' p H' T ∧ T = T) → ∃ p, ∀ T, OwnT (cxOf L2.CX0 P w K mg base N x (defScope st) f (.ref c) A outer s H E).nox σ' p H' T → Q v (addT H' T)) (fun δ' d m' σ' v H' st' W' E' r' q' => fun _ hinj _ => ⟨fun i => ∃ d, δ'[i]? = some (some d), fun T O => by
    obtain ⟨m2, o1, o2, o3, o4, _, _⟩ := own_mu hinj S.nd W' E' O
    exact kk d m2 v (addT H' T) (st'.trans o3) o2 (Rep.carry o4 _ _ r') (q' m2 o1)⟩)
  refine wpAny_mono (ps'.run [] s1 (start N vs) H _ (I.wish _) run) (fun fl s' hs => ?_) fun e s' hs => hs.elim
  obtain ⟨u, v, σ', H', rfl, J, rv, q⟩ := hs
  obtain ⟨p, q⟩ := q (fun _ => none) J.ok.inj (fun p _ => let ⟨T, h, _⟩ := own_ex J p; ⟨T, h, rfl⟩)
  obtain ⟨T, O, hT⟩ := own_ex J p
  refine ⟨v, addT H' T, J.os, J.bare, ?_, hok_addT J.hok fun b o t => ⟨(O.of b o t).1, hT b o t⟩, rv, q T O⟩
  have un : Un (frs outer) [] H H' s.heap s'.heap := J.base
  have new : ∀ b o o2, T b = some o → s.heap.get? b = some o2 → False := fun b o o2 t e => by
    obtain ⟨_, i, y, v, u, _, _, _, _, h4, _⟩ := O.of b o t
    exact absurd (Nat.lt_of_lt_of_le (Heap.lt_size e) (J.ok.cab y b rfl h4)) (Nat.lt_irrefl _)
  have ne : ∀ b u, H' b = some u → addT H' T b = some u := fun b u e => by
    cases t : T b with
    | some o => rw [(O.of b o t).1] at e; cases e
    | none => rw [addT_ne t]; exact e
  refine ⟨un.keep, un.slot, fun b o e n hx => ?_, un.there, fun b xs e => ne b _ (un.tups b xs e), fun b o xs e => ne b _ (un.frzs b o xs e), fun b ps e => let ⟨more, z⟩ := un.tbls b ps e; ⟨more, ne b _ z⟩⟩
  cases t : T b with
  | some o2 => exact (new b o2 o t e).elim
  | none => rw [addT_ne t]; exact un.free b o e n hx
/-! ### for one call -/
section
variable {X : Cx} {x : Str} {p pos : Pos} {e : Expr} {es : List Expr}
/-- x(..), the own cells known meanwhile: the called def leaves the store as it is -/
def aCallO (X : Cx) (sp : SpD) (t : AAt) : AEt := fun δ m Q => t δ m fun ds m1 => ∀ m2, OwnK X δ m1 m2 → sp ds m2 fun d m3 => m3 = m2 ∧ Q d m1
theorem ae_callO {k : Nat} {sp : SpD} {t : AAt} (F : FnD X.prog X.w X.K X.mg X.base x k sp) (hr : Room k X.A) (hN : X.N.Nodup) (hfn : ∀ y, X.fn y = true) (h : AA X (e :: es) t) (hg : Gl X x := by rfl) (hdb : (x == ("__debug__" : Str)) = false := by decide)
    (he : starEach (e :: es) X.env = (false, eval e X.env) :: starEach es X.env := by rfl) (hpl : (backTo pos (starEach es X.env)).any (·.1) = false := by rfl) : AE X (.Call (.Name x p) (e :: es) [] pos) (aCallO X sp t) := by
  obtain ⟨ta, pa, sa⟩ := h.ex
  obtain ⟨f, fd, ps, F, hm, hk, hb⟩ := F.ex
  refine ⟨fun σ H Q' => ta σ H fun vs H1 => InjC X → ∃ pp : Nat → Prop, ∀ T, OwnT X σ pp H1 T → spD X.K sp vs (addT H1 T) (fun v H' => (∀ b o, T b = some o → H' b = some (ObjO b o)) ∧ Q' v (delT H' T)) fun _ _ _ => False, ⟨fun pins s σ H Q I h => ?_⟩, fun B δ m Q σ H W E h Q' k => sa B δ m _ σ H W E h _ fun ds m1 vs H1 s1 W1 r q => fun hinj => ⟨fun i => ∃ d, δ[i]? = some (some d), fun T O => ?_⟩⟩
  · refine wpAny_Call_Name_kw (ld_glob I hg hm ?_ hdb)
    refine PySem.W.callWith_K (h₀ := X.base) I.ok.mod.kin hk (thn (pa.run pos pins s σ H _ I h) fun us s1 ⟨vs, H1, I1, r, q⟩ => ⟨I1.kIn, ?_⟩) he hpl
    obtain ⟨pp, q⟩ := q I1.ok.inj
    obtain ⟨T, O, hT⟩ := own_ex I1 pp
    have hsp := q T O
    have hT2 : ∀ b o, T b = some o → H1 b = none ∧ s1.heap.get? b = some o := fun b o t => ⟨(O.of b o t).1, hT b o t⟩
    have lo : ∀ b o, T b = some o → X.s_0.heap.objs.size ≤ b ∧ b ≠ X.env.locals := fun b o t => by
      obtain ⟨_, i, y, v, u, _, _, _, _, h4, _⟩ := O.of b o t
      exact ⟨I1.ok.cab y b (hfn y) h4, I1.cne y b h4⟩
    have e0 := I1.env0
    have e1 : Env0 X.prog X.w X.K X.mg X.base X.A X.stack s1 (addT H1 T) := by
      refine ⟨e0.frames, e0.mod, fun b o e => ⟨(e0.bs b o e).1, ?_⟩, e0.bsz, e0.funs, fun b hb => ?_, hok_addT e0.hok hT2, e0.bare⟩
      · cases t : T b with
        | some o2 => exact absurd (Nat.lt_of_lt_of_le (Heap.lt_size e) (Nat.le_trans I1.ok.bsz (lo b o2 t).1)) (Nat.lt_irrefl _)
        | none => rw [addT_ne t]; exact (e0.bs b o e).2
      · cases t : T b with
        | some o2 =>
          rcases List.mem_cons.mp (I1.stkSub b hb) with z | z
          · exact absurd z (lo b o2 t).2
          · obtain ⟨_, o, ho, _⟩ := I1.ok.funs.mem z
            exact absurd (Nat.lt_of_lt_of_le (Heap.lt_size ho) (lo b o2 t).1) (Nat.lt_irrefl _)
        | none => rw [addT_ne t]; exact e0.frf b hb
    have hl : us.length = ps.length := by rw [← r.length]; exact F.len _ _ _ _ hsp
    refine wpAny_call (codeAny_mono (F.run X.A X.stack s1 (addT H1 T) ⟨us, []⟩ us vs _ _ hr e1 (by have := hb s1 us I1.kIn (by rw [List.append_nil]; exact hl); rw [List.append_nil] at this; exact this) r hsp) fun rr s' hq => ?_)
    match rr, hq with
    | .ok (.ret u), hq =>
      obtain ⟨v, H', os, bare, un, hok, rv, g, q⟩ := hq
      exact I1.after ⟨v, delT H' T, os, bare, un_delT un hT2 fun b o t => objO_at hok (g b o t), hok_delT hok fun b o t => .inl (g b o t), rv, q⟩
  · obtain ⟨m2, o1, o2, o3, o4, o5, o6⟩ := own_mu hinj hN W1 (E.carry s1.carry) O
    refine ⟨B, m2, ds, _, o2, Reps.carry o4 _ _ r, q m2 o1, fun d m3 v H' st W' rp ⟨e3, q3⟩ => ?_⟩
    subst e3
    refine ⟨o5.at_ W', ?_⟩
    have W2 := W'.les o5
    rw [o6] at W2
    have cl := carry_les (H := H') (B := B) o5
    rw [o6] at cl
    refine k d m1 v (delT H' T) (s1.trans fun y o e n => ?_) W2 (Rep.carry cl _ _ rp) q3
    have ty : T y = none := by
      cases t : T y with
      | none => rfl
      | some o9 => rw [(O.of y o9 t).1] at e; cases e
    have ny : m3 y = none := by
      have := congrFun o6 y
      rw [Mu.les_ne ty] at this
      rw [this]; exact n
    obtain ⟨g1, g2⟩ := st y o (by rw [addT_ne ty]; exact e) ny
    exact ⟨by rw [delT_ne ty]; exact g1, n⟩
end
/-! ### lambdas made -/
def aLamG (X : Cx) (k : Nat) (ns : List Nat) (t : AEYt) (P : Addr) (q : Str) : AEt := fun δ m Q => m P = some (.tab q) ∧ ∀ f o c tt, CloA X k ns t o c tt → m f = none → Q (.ref f) (m.put f (.fnc o c q tt))
theorem SE.mono {K : PySem.W.Frag} {te : TE} {t u : AEt} (h : SE K te t) (i : ∀ δ m Q, u δ m Q → t δ m Q) : SE K te u := fun B δ m Q σ H W E q => h B δ m Q σ H W E (i _ _ _ q)
def slotsB (N : List Str) (ns : List Nat) (scope : Scope) : Bool := scope.names.all fun y => !decide (y.2 = .free) || ns.any fun i => decide (N[i]? = some y.1)
theorem slots_by {N : List Str} {ns : List Nat} {scope : Scope} (h : slotsB N ns scope = true) : ∀ y ∈ scope.names, y.2 = .free → ∃ i ∈ ns, N[i]? = some y.1 := fun y hy e => by
  unfold slotsB at h
  have := List.all_eq_true.mp h y hy
  rw [Bool.or_eq_true, Bool.not_eq_true', decide_eq_false_iff_not, List.any_eq_true] at this
  rcases this with z | ⟨i, hi, z⟩
  · exact absurd e z
  · exact ⟨i, hi, of_decide_eq_true z⟩
section
variable {X : Cx} {pos : Pos}
theorem ae_lamG {c P : Addr} {params : Arguments} {body : Expr} {scope : Scope} {k : Nat} {t : AEYt} (ns : List Nat) (TB : LamX.TabB X.base X.mg c P) (hcode : X.env.code = .ref c) (L : LamT X.N X.env.scope scope) (hs : slotsB X.N ns scope = true)
    (h : ∀ (A : Around) (outer : List Env) (s : Shared) (H : Hp) (E : XK) (f c' : Addr), Room k (LamX.lamCx X A outer s H E scope f c').A → AEY (LamX.lamCx X A outer s H E scope f c') body t)
    (hdef : defaultsOf params X.env = ([], []) := by rfl)
    (hb : ∀ (q : Str) (cl : List (Str × Addr)) (doc pm cv ctv : Value), bindArgs (PySem.W.kdv_fn "<lambda>" q params (.expr body) scope cl .none doc pm cv ctv) ⟨[], []⟩ = pure [] := by intros; rfl) :
    AE X (.Lambda params body scope pos) (aLamG X k ns t P (X.env.qual ++ "<lambda>")) :=
  let ⟨_, p, s⟩ := (ae_lamV (pos := pos) (body := body) TB hcode L hdef).ex
  ⟨_, p, s.mono fun δ m Q ⟨h1, h2⟩ => ⟨h1, fun f o c tt hJ => h2 f o c tt ⟨_, _, _, _, hJ, L, hb, slots_by hs, h⟩⟩⟩
theorem ae_lamGd {c P : Addr} {params : Arguments} {body : Expr} {scope : Scope} {k : Nat} {t : AEYt} {cpos : Pos} {i : Int} {j : Nat} (x : Str) (ns : List Nat) (TB : LamX.TabB X.base X.mg c P) (hcode : X.env.code = .ref c) (L : LamT X.N X.env.scope scope) (hs : slotsB X.N ns scope = true)
    (h : ∀ (A : Around) (outer : List Env) (s : Shared) (H : Hp) (E : XK) (f c' : Addr), Room k (LamX.lamCx X A outer s H E scope f c').A → AEY (LamX.lamCx X A outer s H E scope f c') body t)
    (hd : params.defaults = [.Constant (.int i) j cpos] := by rfl) (hk0 : params.kw_defaults = [] := by rfl)
    (hx : scope.names.lookup x = some .local := by rfl) (hb : ∀ (q : Str) (cl : List (Str × Addr)) (T : Addr) (doc pm cv ctv : Value), ∃ k, bindArgs (PySem.W.kdv_fn "<lambda>" q params (.expr body) scope cl (.ref T) doc pm cv ctv) ⟨[], []⟩ = seqItems? (.ref T) >>= k ∧ ∀ u : Value, k (some [u].toArray) = pure [(x, u)] := by exact fun _ _ _ _ _ _ _ => ⟨_, rfl, fun _ => rfl⟩) :
    AE X (.Lambda params body scope pos) (aLamG X k ns t P (X.env.qual ++ "<lambda>")) :=
  let ⟨_, p, s⟩ := (ae_lamVd (pos := pos) (body := body) x TB hcode L hd hk0).ex
  ⟨_, p, s.mono fun δ m Q ⟨h1, h2⟩ => ⟨h1, fun f o c tt hJ => h2 f o c tt ⟨_, _, _, _, hJ, L, ⟨hx, hb⟩, slots_by hs, h⟩⟩⟩
end
end L3
/-! L96: data of any form that is taken for a tree. -/
namespace L3
open PySem PySem.Spec PyProof.Rows L2
/-- data that is handed in: numbers, truths, texts, tuples of such -/
def Pln : Nat → D → Prop
  | _, .non => True
  | _, .bl _ => True
  | _, .int _ => True
  | _, .str x => PyData.strOk x = true ∧ x.length ≤ 1000
  | n + 1, .tup ds => ds.length ≤ 100 ∧ ∀ d ∈ ds, Pln n d
  | _, _ => False
theorem Pln.okD : ∀ {n : Nat} {d : D}, Pln n d → okD d n
  | _, .non, _ => okD_non
  | _, .bl _, _ => okD_bl
  | _, .int _, _ => okD_int
  | _, .str x, h => okD_str (by unfold Pln at h; exact h.1)
  | n + 1, .tup ds, h => okD_tup fun d hd => Pln.okD (by unfold Pln at h; exact h.2 d hd)
  | 0, .tup ds, h => by unfold Pln at h; exact h.elim
  | _, .lst _, h => by unfold Pln at h; exact h.elim
  | _, .dct _, h => by unfold Pln at h; exact h.elim
  | _, .ref _, h => by unfold Pln at h; exact h.elim
  | _, .ty _, h => by unfold Pln at h; exact h.elim
  | _, .fl _, h => by unfold Pln at h; exact h.elim
theorem Pln.tup {n : Nat} {ds : List D} (h : Pln n (.tup ds)) : ds.length ≤ 100 ∧ ∀ d ∈ ds, Pln n d := by
  cases n with
  | zero => unfold Pln at h; exact h.elim
  | succ n =>
    unfold Pln at h
    exact ⟨h.1, fun d hd => up n d (h.2 d hd)⟩
where
  up : ∀ (n : Nat) (d : D), Pln n d → Pln (n + 1) d
    | _, .non, _ => by unfold Pln; trivial
    | _, .bl _, _ => by unfold Pln; trivial
    | _, .int _, _ => by unfold Pln; trivial
    | _, .str x, h => by unfold Pln at h ⊢; exact h
    | n + 1, .tup ds, h => by
      unfold Pln at h ⊢
      exact ⟨h.1, fun d hd => up n d (h.2 d hd)⟩
    | 0, .tup ds, h => by unfold Pln at h; exact h.elim
    | _, .lst _, h => by unfold Pln at h; exact h.elim
    | _, .dct _, h => by unfold Pln at h; exact h.elim
    | _, .ref _, h => by unfold Pln at h; exact h.elim
    | _, .ty _, h => by unfold Pln at h; exact h.elim
    | _, .fl _, h => by unfold Pln at h; exact h.elim
theorem Pln.str {n : Nat} {x : Str} (h : Pln n (.str x)) : PyData.strOk x = true ∧ x.length ≤ 1000 := by unfold Pln at h; exact h
theorem pln_str {n : Nat} {x : Str} (h1 : PyData.strOk x = true) (h2 : x.length ≤ 1000) : Pln n (.str x) := by unfold Pln; exact ⟨h1, h2⟩
theorem pln_sg {n c : Nat} (h : c < 1114112) : Pln n (.str (sg c)) := pln_str (sg_ok h) (by show 1 ≤ 1000; decide)
theorem pln_tup {n : Nat} {ds : List D} (h1 : ds.length ≤ 100) (h2 : ∀ d ∈ ds, Pln n d) : Pln (n + 1) (.tup ds) := by unfold Pln; exact ⟨h1, h2⟩
theorem pln_int {n : Nat} {i : Int} : Pln n (.int i) := by unfold Pln; trivial
theorem pln_bl {n : Nat} {i : Bool} : Pln n (.bl i) := by unfold Pln; trivial
/-- is it one of some letters -/
def isLetD : D → List Nat → Bool
  | .str x, l => isIn x l
  | _, _ => false
def So.cd : So → Nat
  | .t => 116
  | .d => 100
  | .p => 112
def shL (l : List So) : Str := ⟨(l.map So.cd).toArray⟩
theorem shL_len {l : List So} : (shL l).length = l.length := by simp [shL, Str.length]
theorem zip_sh {as : List D} {l : List So} : zipS as (shL l) = (as.zip l).map fun p => D.tup [p.1, .str (sg p.2.cd)] := by
  unfold zipS
  rw [show (shL l).cps.toList = l.map So.cd from rfl]
  rw [List.zip_map_right, List.map_map]
  rfl
/-- what is counted of the arms -/
def tnA (f : D → Nat) (ns : List Nat) : List So → List D → Nat → Nat
  | .t :: l, a :: as, acc => tnA f ns l as (acc + f a)
  | .d :: l, a :: as, acc => if isLetD a [97, 98, 99, 100, 101, 102, 103, 104] = true then tnA f ns l as acc else 41
  | .p :: l, a :: as, acc => if inD a (strD (ns.map sg)) = true then tnA f ns l as acc else 41
  | _, _, acc => acc
/-- how many trees are counted, where so many may stand within one another -/
def tnD (ns : List Nat) : Nat → D → Nat
  | 0, _ => 41
  | n + 1, .tup (.str x :: as) => match shW x with
    | none => 41
    | some l => if as.length = l.length then tnA (tnD ns n) ns l as 1 else 41
  | _ + 1, _ => 41
theorem tup_ne {a : D} {as : List D} : eqD (.tup (a :: as)) (.tup []) = false := by
  show PyData.eqv (D.tup (a :: as)).pd (D.tup []).pd = false
  simp [D.pd, pds, PyData.eqv, PyData.eqvAll]
theorem inD_sgs {c : Nat} : ∀ {ns : List Nat}, inD (.str (sg c)) (strD (ns.map sg)) = decide (c ∈ ns)
  | [] => rfl
  | d :: ds => by
    show (eqD (.str (sg d)) (.str (sg c)) || inD (.str (sg c)) (strD (ds.map sg))) = _
    rw [inD_sgs, eqD_str]
    by_cases h : c = d
    · subst h; simp
    · have : ¬ sg d = sg c := fun e => h (sg_inj.mp e).symm
      simp [h, this]
theorem getS_c {x z : Str} {d : D} {r : List (Str × D)} : getS ((x, d) :: r) z = if x = z then some d else getS r z := by
  unfold getS
  rw [List.find?_cons]
  by_cases h : x = z
  · subst h; simp
  · simp [h]
/-! ### good ones -/
theorem let_sg {c : Nat} {l : List Nat} : isLetD (.str (sg c)) l = decide (c ∈ l) := isIn_one
/-! ### bad ones -/
theorem tn_bad {ns : List Nat} {f : Nat} {d : D} (h : ∀ x as, d ≠ .tup (.str x :: as)) : tnD ns f d = 41 := by
  cases f with
  | zero => rfl
  | succ f => rw [tnD]; exact h
theorem pln_le {n k : Nat} {d : D} (h : Pln n d) (hk : n ≤ k) : Pln k d := by
  induction hk with
  | refl => exact h
  | step _ ih => exact Pln.tup.up _ _ ih
end L3
/-! data of any form that is taken for a tree: counted, refused. -/
namespace K01
open PySem PySem.Spec PyProof.Rows L2 L3
variable {P : Program} {w : World} {K : PySem.W.Frag} {mg : Str → Option Value} {base : Heap}
local macro_rules | `(tactic| walk_at "rbt") => `(tactic| simp only [ ySeq, yRet, yE, yA, yS, yIfS, yAsg, yRaise, yDrop, yFor, yCall, yMake, yMeth, yIf, yCons, yTup, yOp, aIfT, lcStep, aLenSet, aOrI, Bool.and_true, Bool.or_false, Bool.false_or, Bool.true_or, Bool.or_true, Bool.and_self, Bool.false_bne, Bool.false_xor, Bool.true_xor, aRet, aRetN, aDrop, aIfS, aSeq, aNext, aAsg, gNm, gTupD, gConsD, gNilD, aFor, ex_var0, ex_varS, aC, aOp, aCall, aCons, aNil, aTup, aLst, aB, aAnd, aOr, aNot, aAndV, aOrV, aNotV, aIf, aNeg, aChain, aKix, aKGet1, aKGet2, aDGet1, aDGet2, aNoPart, aPart, aSl, aList, aTupI, aStrI, aZipS, aYes, aLc, aNever, aBreak, aCont, forGo, lcGo,
  isi_str_str, isi_str_int, isi_str_bool, isi_str_tuple, isi_str_list, isi_int_str, isi_int_int, isi_int_bool, isi_int_tuple, isi_int_list, isi_bl_str, isi_bl_int, isi_bl_bool, isi_bl_tuple, isi_bl_list, isi_non_str, isi_non_int, isi_non_bool, isi_non_tuple, isi_non_list, isi_tup_str, isi_tup_int, isi_tup_bool, isi_tup_tuple, isi_tup_list, isi_lst_str, isi_lst_int, isi_lst_bool, isi_lst_tuple, isi_lst_list, isi_dct_str, isi_dct_int, isi_dct_bool, isi_dct_tuple, isi_dct_list, isi2_str, isi2_int, isi2_bl, isi2_non, isi2_tup, isi2_lst, isi2_dct, Option.getD_some, Option.getD_none, D.isNon, sz_0, sz_1, sz_2, sz_3, sz_4, sz_5, sz_6, sz_7, sz_8, sz_9, sz_10, sz_11, sz_12, sz_13, sz_14, sz_15, sz_16, sg_len, ex_in_sg, ex_len_str, ex_len_tup, ex_len_lst, ex_eq_str, ex_ne_str, ex_eq_int, ex_ne_int, ex_eq_ns, ex_eq_sn, ex_eq_nn, ex_ne_ns, ex_ne_sn, ex_ne_nn, ex_I, ex_add_int, ex_add_str, ex_add_tup, ex_add_lst, ex_sub, ex_mul, ex_mod, ex_div, ex_isN, ex_notN, ex_ix_tup, ex_ix_lst, ex_sl_tup, ex_sl_lst, ex_sl_str, ex_tuple_lst,
  ofs_inj, String.reduceEq, atI_0, atI_1, atI_2, atI_3, cut_1, cut_13, startD, wipeD, List.map_cons, List.map_nil, List.length_cons, List.length_nil, List.cons_append, List.nil_append, List.replicate_succ, List.replicate_zero, List.set_cons_zero, List.set_cons_succ, Nat.reduceAdd, Nat.reduceSub, Nat.sub_self,
  D.bl.injEq, D.int.injEq, D.str.injEq, D.tup.injEq, D.lst.injEq, D.dct.injEq, Option.some.injEq, List.cons.injEq, and_assoc, Int.cast_ofNat_Int, Int.reduceAdd, Int.reduceSub, Int.reduceMul, Int.reduceNeg, Int.reduceEq, Int.reduceLT, Int.reduceLE, Int.reduceNe, eq_self, exists_eq_left, exists_eq_left', exists_eq_right, exists_eq, exists_const, exists_false, false_and, and_false, false_or, or_false, true_and, and_true, if_true, if_false, Bool.false_eq_true, Bool.not_true, Bool.not_false, ite_true, ite_false, reduceCtorEq, decide_true, decide_false, decide_eq_true_eq, exists_and_left, Bool.not_eq_true])

theorem oneP_sg {x : Str} (h : x.length = 1) : ∃ c, x = sg c := by
  rw [len_tl] at h
  obtain ⟨c, e⟩ := List.length_eq_one_iff.mp h
  obtain ⟨a⟩ := x
  exact ⟨c, congrArg Str.mk (Array.toList_inj.mp e)⟩
/-- letters, of anything -/
def sp_is_letterP : SpD := fun ds m Q => ∃ d n z, ds = [d, .str z] ∧ Pln n d ∧ Q (.bl (isLetD d z.cps.toList)) m
theorem F_is_letterP (T : Txt K w mg) : FnD P w K mg base "is_letter" 1 sp_is_letterP := by
  have nd := sc_is_letter.nd
  refine fnd_ofZ T.d_is_letter sc_is_letter (fun ds m Q ⟨_, _, _, e, _⟩ => by rw [e]; rfl) fun f cdv A outer s H E hr => ⟨_, (ass_one (as_ret (ae_and (ae_callB cr_isi T.b_isinstance boot_isinstance (aa_cons (ae_var 0) (aa_cons (ae_ty T.b_str boot_str) aa_nil))) (ae_and (ae_cmp (or_eq hr.units) (ae_callB cr_len T.b_len boot_len (aa_cons (ae_var 0) aa_nil)) ae_int (nomark _)) (ae_one (ae_cmp (or_in1 hr.u65) (ae_var 0) (ae_var 1) (by rfl))))))), ?_⟩
  rintro _ m Q ⟨d, n, z, rfl, hp, q⟩
  cases d with
  | str x =>
    have hl := hp.str.2
    walk_at "rbt"
    refine ⟨szl (by omega), ?_⟩
    have q : Q (.bl (isIn x z.cps.toList)) m := q
    by_cases h : x.length = 1
    · rw [if_pos (by rw [h]; rfl)]
      obtain ⟨c, rfl⟩ := oneP_sg h
      rw [ex_in_sg, Bool.false_xor]
      rw [isIn_one] at q
      exact Fz.now q
    · rw [if_neg (by omega)]
      rw [isIn_len h] at q
      exact Fz.now q
  | non => walk_at "rbt"; exact Fz.now q
  | bl b => walk_at "rbt"; exact Fz.now q
  | int i => walk_at "rbt"; exact Fz.now q
  | tup ds => walk_at "rbt"; exact Fz.now q
  | lst ds => unfold Pln at hp; exact hp.elim
  | dct ds => unfold Pln at hp; exact hp.elim
  | ref a => unfold Pln at hp; exact hp.elim
  | ty a => unfold Pln at hp; exact hp.elim
  | fl a => unfold Pln at hp; exact hp.elim
theorem shp_all (x : Str) : getS kt_SHAPES x = (shW x).map fun l => .str (shL l) := by
  unfold shW
  by_cases h1 : x = ("part" : Str)
  · subst h1; rfl
  by_cases h2 : x = ("with" : Str)
  · subst h2; rfl
  by_cases h3 : x = ("without" : Str)
  · subst h3; rfl
  by_cases h4 : x = ("also" : Str)
  · subst h4; rfl
  by_cases h5 : x = ("renamed" : Str)
  · subst h5; rfl
  by_cases h6 : x = ("over" : Str)
  · subst h6; rfl
  rw [if_neg h1, if_neg h2, if_neg h3, if_neg h4, if_neg h5, if_neg h6]
  unfold kt_SHAPES
  rw [getS_c, if_neg (Ne.symm h1), getS_c, if_neg (Ne.symm h2), getS_c, if_neg (Ne.symm h3), getS_c, if_neg (Ne.symm h4), getS_c, if_neg (Ne.symm h5), getS_c, if_neg (Ne.symm h6)]
  rfl
theorem sh_le {x : Str} {l : List So} (h : shW x = some l) : l.length ≤ 3 := by
  unfold shW at h
  repeat' split at h
  all_goals first | (cases h; decide) | cases h
def sp_trees_inB (n : Nat) : SpD := fun ds m Q => ∃ (d : D) (r : Nat) (ns : List Nat) (k f : Nat), ds = [d, .lst (strD (ns.map sg)), .int (k : Nat)] ∧ Pln r d ∧ r ≤ 60 ∧ (∀ n ∈ ns, n < 1114112) ∧ k + f = 10 ∧ f < n ∧ Q (.int (tnD ns f d : Nat)) m
theorem F_trees_inB (T : Txt K w mg) : ∀ n : Nat, FnD P w K mg base "trees_in" (n + 3) (sp_trees_inB n)
  | 0 => fnd_never T.d_trees_in sc_trees_in fun ds m Q ⟨_, _, _, _, _, _, _, _, _, _, h, _⟩ => by omega
  | n + 1 => by
    have nd := sc_trees_in.nd
    have F := F_trees_inB T n
    refine fnd_ofZ T.d_trees_in sc_trees_in (fun ds m Q ⟨_, _, _, _, _, e, _⟩ => by rw [e]; rfl) fun f cdv A outer s H E hr => ⟨_, (ass_cons (as_if (AW.t (aw_or (at_not (at_val (ae_callB cr_isi T.b_isinstance boot_isinstance (aa_cons (ae_var 0) (aa_cons (ae_ty T.b_tuple boot_tuple) aa_nil))))) (aw_or (at_cmp (or_eq hr.units) (ae_var 0) (ae_tup aa_nil) (nomark _)) (aw_or (at_not (at_val (ae_callB cr_isi T.b_isinstance boot_isinstance (aa_cons (ae_ix hr.u1 (ae_var 0) ae_int) (aa_cons (ae_ty T.b_str boot_str) aa_nil))))) (aw_or1 (at_cmp or_gt (ae_var 2) (ae_glo T.c_MOST_WITHIN_trees) (nomark _))))))) (ass_one (as_ret (ae_op or_add (ae_glo T.c_MOST_TREES) ae_int))) ass_nil)
      (ass_cons (as_asg (ae_kget1 hr.u1 T.t_SHAPES (ae_ix hr.u1 (ae_var 0) ae_int)) (ag_name 3 nd))
      (ass_cons (as_if (AW.t (aw_or (at_cmp or_isN (ae_var 3) ae_non (nomark _)) (aw_or1 (at_cmp (or_ne hr.units) (ae_callB cr_len T.b_len boot_len (aa_cons (ae_var 0) aa_nil)) (ae_op or_add (ae_callB cr_len T.b_len boot_len (aa_cons (ae_var 3) aa_nil)) ae_int) (nomark _))))) (ass_one (as_ret (ae_op or_add (ae_glo T.c_MOST_TREES) ae_int))) ass_nil)
      (ass_cons (as_asg ae_int (ag_name 4 nd))
      (ass_cons (as_for PassesOwn.never rfl (ai_zipTS T.b_zip (aa_cons (ae_sl (ae_var 0) (ao_some ae_int) ao_none) (aa_cons (ae_var 3) aa_nil))) (ag_tup (n := 2) rfl (ags_cons (ag_name 5 nd) (ags_cons (ag_name 6 nd) ags_nil)))
      (ass_one (as_if (at_cmp (or_eq hr.units) (ae_var 6) ae_str (nomark _)) (ass_one (as_asg (ae_op or_add (ae_var 4) (ae_call (F.mono (by omega)) hr (aa_cons (ae_var 5) (aa_cons (ae_var 1) (aa_cons (ae_op or_add (ae_var 2) ae_int) aa_nil))))) (ag_name 4 nd))) (ass_one (as_if (at_not (at_if (at_cmp (or_eq hr.units) (ae_var 6) ae_str (nomark _)) (at_val (ae_call ((F_is_letterP T).mono (by omega)) hr (aa_cons (ae_var 5) (aa_cons (ae_glo T.c_DEEDS) aa_nil)))) (at_cmp (or_in1 hr.u65) (ae_var 5) (ae_var 1) (by rfl)))) (ass_one (as_ret (ae_op or_add (ae_glo T.c_MOST_TREES) ae_int))) ass_nil)))))
      (ass_one (as_ret (ae_var 4)))))))), ?_⟩
    rintro _ m Q ⟨d, r, ns, k, f, rfl, hp, hr60, hns, hk, hf, q⟩
    replace q := Fz.now q
    have bad : ∀ e : D, (∀ x as, e ≠ .tup (.str x :: as)) → tnD ns f e = 41 := fun e h => by
      cases f with
      | zero => rfl
      | succ f => rw [tnD]; exact h
    cases d with
    | non => rw [bad _ (fun _ _ => D.noConfusion)] at q; walk_at "rbt"; exact q
    | bl b => rw [bad _ (fun _ _ => D.noConfusion)] at q; walk_at "rbt"; exact q
    | int i => rw [bad _ (fun _ _ => D.noConfusion)] at q; walk_at "rbt"; exact q
    | str x => rw [bad _ (fun _ _ => D.noConfusion)] at q; walk_at "rbt"; exact q
    | lst ds => unfold Pln at hp; exact hp.elim
    | dct ds => unfold Pln at hp; exact hp.elim
    | ref a => unfold Pln at hp; exact hp.elim
    | ty a => unfold Pln at hp; exact hp.elim
    | fl a => unfold Pln at hp; exact hp.elim
    | tup ds =>
      obtain ⟨h100, hds⟩ := hp.tup
      cases ds with
      | nil =>
        rw [bad _ (fun _ _ e => by cases e)] at q
        walk_at "rbt"
        rw [ex_eq_of (x := .tup []) (y := .tup []) (by exact ok_nil) (by exact ok_nil) (show eqD (.tup []) (.tup []) = true from by decide +kernel)]
        walk_at "rbt"
        exact q
      | cons a as =>
        have e1 : ∀ R, rhoEq (.tup (a :: as)) (.tup []) m R = R (.bl false) m := fun R => ex_eq_of (x := .tup (a :: as)) (y := .tup []) (by exact hp.okD.eq (by omega)) (by exact ok_nil) tup_ne
        have ha := hds a List.mem_cons_self
        walk_at "rbt"
        rw [e1]
        walk_at "rbt"
        cases a with
        | non => rw [bad _ (fun _ _ e => by cases e)] at q; walk_at "rbt"; exact q
        | bl b => rw [bad _ (fun _ _ e => by cases e)] at q; walk_at "rbt"; exact q
        | int i => rw [bad _ (fun _ _ e => by cases e)] at q; walk_at "rbt"; exact q
        | tup es => rw [bad _ (fun _ _ e => by cases e)] at q; walk_at "rbt"; exact q
        | lst ds => unfold Pln at ha; exact ha.elim
        | dct ds => unfold Pln at ha; exact ha.elim
        | ref a => unfold Pln at ha; exact ha.elim
        | ty a => unfold Pln at ha; exact ha.elim
        | fl a => unfold Pln at ha; exact ha.elim
        | str x =>
          walk_at "rbt"
          cases f with
          | zero =>
            rw [if_pos (show 9 < (k : Int) by omega)]
            exact q
          | succ f =>
            rw [if_neg (show ¬ 9 < (k : Int) by omega), shp_all]
            cases hs : shW x with
            | none =>
              rw [tnD, hs] at q
              simp only [Option.map_none, Option.getD_none, if_true]
              exact q
            | some l =>
              rw [tnD, hs] at q
              simp only [Option.map_some, Option.getD_some]
              rw [if_neg (by simp)]
              walk_at "rbt"
              rw [shL_len]
              by_cases hl : as.length = l.length
              · have q : Fz Q (.int (tnA (tnD ns f) ns l as 1 : Nat)) m := by simpa only [if_pos hl] using q
                refine ⟨szl (by have := sh_le hs; omega), ?_⟩
                rw [decide_eq_true (show ((as.length + 1 : Nat) : Int) = (l.length : Nat) + 1 by omega), if_neg (by simp), zip_sh]
                refine for_inv (fun rest δ m' => ∃ (l2 : List So) (as2 : List D) (acc : Nat), rest = (as2.zip l2).map (fun p => D.tup [p.1, .str (sg p.2.cd)]) ∧ as2.length = l2.length ∧ (∀ d ∈ as2, Pln r d) ∧ tnA (tnD ns f) ns l as 1 = tnA (tnD ns f) ns l2 as2 acc ∧ m' = m ∧ ∃ o5 o6, δ = [some (.tup (.str x :: as)), some (.lst (strD (ns.map sg))), some (.int (k : Nat)), some (.str (shL l)), some (.int (acc : Nat)), o5, o6]) ?_ ?_ ⟨l, as, 1, rfl, hl, fun d hd => hds d (List.mem_cons_of_mem _ hd), rfl, rfl, _, _, rfl⟩
                · rintro y rest δ m' ⟨l2, as2, acc, e, hl2, hpl, htn, rfl, o5, o6, rfl⟩ nx hnx
                  rw [htn] at q
                  cases as2 with
                  | nil => cases e
                  | cons b as2 =>
                    cases l2 with
                    | nil => cases hl2
                    | cons s l2 =>
                      rw [List.zip_cons_cons, List.map_cons] at e
                      injection e with e1 e2
                      subst e1
                      have hb := hpl b List.mem_cons_self
                      have hl3 : as2.length = l2.length := by simpa using hl2
                      have hpl2 : ∀ d ∈ as2, Pln r d := fun d hd => hpl d (List.mem_cons_of_mem _ hd)
                      cases s with
                      | t =>
                        simp only [So.cd]
                        walk_at "rbt"
                        rw [if_pos (show sg 116 = Str.ofString "t" from by decide +kernel)]
                        refine ⟨b, r, ns, k + 1, f, rfl, hb, hr60, hns, by omega, by omega, ?_⟩
                        walk_at "rbt"
                        rw [show ((acc : Nat) : Int) + (tnD ns f b : Nat) = ((acc + tnD ns f b : Nat) : Int) by omega]
                        exact hnx _ _ ⟨l2, as2, acc + tnD ns f b, e2, hl3, hpl2, htn, rfl, _, _, rfl⟩
                      | d =>
                        simp only [So.cd]
                        walk_at "rbt"
                        rw [if_neg (show ¬ sg 100 = Str.ofString "t" from by decide +kernel), if_pos (show sg 100 = Str.ofString "d" from by decide +kernel)]
                        refine ⟨b, r, _, rfl, hb, _, rfl, ?_⟩
                        rw [cps_deeds]
                        by_cases hlt : isLetD b [97, 98, 99, 100, 101, 102, 103, 104] = true
                        · rw [hlt, if_neg (by simp)]
                          refine hnx _ _ ⟨l2, as2, acc, e2, hl3, hpl2, ?_, rfl, _, _, rfl⟩
                          rw [htn]
                          show (if _ = true then _ else 41) = _
                          rw [if_pos hlt]
                        · rw [Bool.eq_false_iff.mpr hlt, if_pos (by rfl)]
                          have e0 : tnA (tnD ns f) ns (.d :: l2) (b :: as2) acc = 41 := by
                            show (if _ = true then _ else 41) = _
                            rw [if_neg hlt]
                          rw [e0] at q
                          exact q
                      | p =>
                        simp only [So.cd]
                        walk_at "rbt"
                        rw [if_neg (show ¬ sg 112 = Str.ofString "t" from by decide +kernel), if_neg (show ¬ sg 112 = Str.ofString "d" from by decide +kernel)]
                        have hin : ∀ R : EK, R (.bl (inD b (strD (ns.map sg)))) m' → rhoIn false b (.lst (strD (ns.map sg))) m' R := fun R z =>
                          .inl ⟨_, rfl, .inr ⟨hb.okD.eq (by omega), strsOk hns⟩, by rw [Bool.false_xor]; exact z⟩
                        refine hin _ ⟨_, rfl, ?_⟩
                        by_cases hlt : inD b (strD (ns.map sg)) = true
                        · rw [hlt, if_neg (by simp)]
                          refine hnx _ _ ⟨l2, as2, acc, e2, hl3, hpl2, ?_, rfl, _, _, rfl⟩
                          rw [htn]
                          show (if _ = true then _ else 41) = _
                          rw [if_pos hlt]
                        · rw [Bool.eq_false_iff.mpr hlt, if_pos (by rfl)]
                          have e0 : tnA (tnD ns f) ns (.p :: l2) (b :: as2) acc = 41 := by
                            show (if _ = true then _ else 41) = _
                            rw [if_neg hlt]
                          rw [e0] at q
                          exact q
                · rintro δ m' ⟨l2, as2, acc, e, hl2, hpl, htn, rfl, o5, o6, rfl⟩
                  walk_at "rbt"
                  have : as2 = [] ∨ l2 = [] := by
                    cases as2 with
                    | nil => exact .inl rfl
                    | cons _ _ => cases l2 with
                      | nil => exact .inr rfl
                      | cons _ _ => simp at e
                  rw [htn] at q
                  have e0 : tnA (tnD ns f) ns l2 as2 acc = acc := by
                    cases as2 with
                    | nil => cases l2 with
                      | nil => rfl
                      | cons s l2 => cases hl2
                    | cons b as2 => cases l2 with
                      | nil => cases hl2
                      | cons s l2 => rcases this with z | z <;> cases z
                  rw [e0] at q
                  exact q
              · rw [decide_eq_false (show ¬ ((as.length + 1 : Nat) : Int) = (l.length : Nat) + 1 by omega)]
                refine ⟨szl (by have := sh_le hs; omega), ?_⟩
                rw [if_pos (by rfl)]
                have q : Fz Q (.int (if as.length = l.length then tnA (tnD ns f) ns l as 1 else 41 : Nat)) m := q
                rw [if_neg hl] at q
                exact q
end K01
/-! L97: lambdas made one after another; what they tell when they are called from elsewhere. -/
namespace L3
open PySem PySem.Spec PyProof.Rows L2
/-- d is a lambda made in X -/
def CloF (X : Cx) (k : Nat) (ns : List Nat) (t : AEYt) (m : Mu) (d : D) : Prop := ∃ f o c tt, d = .ref f ∧ CloA X k ns t o c tt ∧ m f = some (.fnc o c (X.env.qual ++ "<lambda>") tt)
theorem CloF.mono {X k ns t m m' d} (h : CloF X k ns t m d) (s : Sub m m') : CloF X k ns t m' d :=
  let ⟨f, o, c, tt, h1, h2, h3⟩ := h
  ⟨f, o, c, tt, h1, h2, s _ _ h3⟩
theorem lam_go {X : Cx} {k : Nat} {ns : List Nat} {t : AEYt} {P : Addr} {q : Str} {δ : Dt} {m : Mu} {Q : EK} (hq : X.env.qual ++ "<lambda>" = q) (hm : m P = some (.tab q)) (h : ∀ m1 d, Sub m m1 → m1 P = some (.tab q) → CloF X k ns t m1 d → Q d m1) : aLamG X k ns t P (X.env.qual ++ "<lambda>") δ m Q := by
  subst hq
  exact ⟨hm, fun f o c tt hc hf => h _ _ (Sub.put hf) (Sub.put hf _ _ hm) ⟨f, o, c, tt, rfl, hc, Mu.put_same⟩⟩
theorem calls_of {P : Program} {w : World} {K : PySem.W.Frag} {mg : Str → Option Value} {base : Heap} {X : Cx} {k : Nat} {ns : List Nat} {t : AEYt} {m m2 : Mu} {δ : Dt} {d : D} (hP : Ph X P w K mg base) (c : CloF X k ns t m d) (O : OwnK X δ m m2) (hl : δ.length = X.N.length)
    (hns : ∀ i ∈ ns, ∃ y e, X.N[i]? = some y ∧ X.env.scope.names.lookup y = some .cell ∧ δ[i]? = some (some e)) : Calls P w K mg base k m2 d (t (maskD δ ns)) := by
  obtain ⟨f, o, cc, tt, h1, h2, h3⟩ := c
  exact ⟨f, o, cc, tt, X, ns, t, _, h1, O.sub _ _ h3, hP, O.inj, h2, O.cels hl hns, rfl⟩
end L3
/-! L98: trees at the bounds. -/
namespace L3
open PySem PySem.Spec PyProof.Rows L2
section
variable {α : Type}
variable [DecidableEq α]
end
end L3
/-! L99: data of any form that is taken for a part. -/
namespace L3
open PySem PySem.Spec PyProof.Rows L2
/-! ### bodies -/
def armOk : Bo → D → Bool
  | .n, .int i => decide (-99 ≤ i) && decide (i ≤ 99)
  | .t, .bl _ => true
  | .c, d => isLetD d [112, 113, 114, 115]
  | .d, d => isLetD d [97, 98, 99, 100, 101, 102, 103, 104]
  | _, _ => false
def wnA (f : D → Nat) : List Bo → List D → Nat → Nat
  | .x :: l, a :: as, acc => wnA f l as (acc + f a)
  | s :: l, a :: as, acc => if armOk s a = true then wnA f l as acc else 61
  | _, _, acc => acc
/-- how many words are counted, where so many bodies may stand within one another -/
def wnD : Nat → D → Nat
  | 0, _ => 61
  | n + 1, .tup (.str x :: as) => match shB x with
    | none => 61
    | some l => if as.length = l.length then wnA (wnD n) l as 1 else 61
  | _ + 1, _ => 61
theorem wn_bad {f : Nat} {d : D} (h : ∀ x as, d ≠ .tup (.str x :: as)) : wnD f d = 61 := by
  cases f with
  | zero => rfl
  | succ f => rw [wnD]; exact h
theorem wn_word {f : Nat} {x : Str} {as : List D} (h : shB x = none) : wnD f (.tup (.str x :: as)) = 61 := by
  cases f with
  | zero => rfl
  | succ f => rw [wnD, h]
theorem wn_len {f : Nat} {x : Str} {as : List D} {l : List Bo} (h : shB x = some l) (hl : as.length ≠ l.length) : wnD f (.tup (.str x :: as)) = 61 := by
  cases f with
  | zero => rfl
  | succ f => rw [wnD, h]; exact if_neg hl
theorem wn_at {f : Nat} {x : Str} {as : List D} {l : List Bo} (h : shB x = some l) (hl : as.length = l.length) : wnD (f + 1) (.tup (.str x :: as)) = wnA (wnD f) l as 1 := by
  rw [wnD, h]; exact if_pos hl
theorem wnD_good : ∀ (b : Bd) (f : Nat), b.wf → b.dep ≤ f → wnD f b.enc = b.words
  | .num i, f, w, d => by
    obtain ⟨f, rfl⟩ : ∃ g, f = g + 1 := ⟨f - 1, by simp only [Bd.dep] at d; omega⟩
    simp only [Bd.enc]
    rw [wn_at (l := [.n]) (by decide +kernel) rfl]
    show (if armOk .n (.int i) = true then 1 else 61) = _
    rw [show armOk .n (.int i) = true from by show (decide (-99 ≤ i) && decide (i ≤ 99)) = true; rw [decide_eq_true w.1, decide_eq_true w.2]; rfl]
    rfl
  | .tru i, f, w, d => by
    obtain ⟨f, rfl⟩ : ∃ g, f = g + 1 := ⟨f - 1, by simp only [Bd.dep] at d; omega⟩
    simp only [Bd.enc]
    rw [wn_at (l := [.t]) (by decide +kernel) rfl]
    rfl
  | .emp, f, w, d => by
    obtain ⟨f, rfl⟩ : ∃ g, f = g + 1 := ⟨f - 1, by simp only [Bd.dep] at d; omega⟩
    simp only [Bd.enc]
    rw [wn_at (l := []) (by decide +kernel) rfl]
    rfl
  | .arg, f, w, d => by
    obtain ⟨f, rfl⟩ : ∃ g, f = g + 1 := ⟨f - 1, by simp only [Bd.dep] at d; omega⟩
    simp only [Bd.enc]
    rw [wn_at (l := []) (by decide +kernel) rfl]
    rfl
  | .cel c, f, w, d => by
    obtain ⟨f, rfl⟩ : ∃ g, f = g + 1 := ⟨f - 1, by simp only [Bd.dep] at d; omega⟩
    simp only [Bd.enc]
    rw [wn_at (l := [.c]) (by decide +kernel) rfl]
    show (if isLetD (.str (sg c)) [112, 113, 114, 115] = true then 1 else 61) = _
    rw [let_sg, decide_eq_true (show c ∈ _ from w)]
    rfl
  | .un wd a, f, w, d => by
    obtain ⟨f, rfl⟩ : ∃ g, f = g + 1 := ⟨f - 1, by simp only [Bd.dep] at d; omega⟩
    simp only [Bd.dep] at d
    simp only [Bd.enc]
    rw [wn_at (l := [.x]) (by cases wd <;> decide +kernel) rfl]
    show 1 + wnD f a.enc = _
    rw [wnD_good a f w (by omega)]
    rfl
  | .bin wd a b, f, w, d => by
    obtain ⟨f, rfl⟩ : ∃ g, f = g + 1 := ⟨f - 1, by simp only [Bd.dep] at d; omega⟩
    simp only [Bd.dep] at d
    simp only [Bd.enc]
    rw [wn_at (l := [.x, .x]) (by cases wd <;> decide +kernel) rfl]
    show 1 + wnD f a.enc + wnD f b.enc = _
    rw [wnD_good a f w.1 (by omega), wnD_good b f w.2 (by omega)]
    rfl
  | .ite a b c, f, w, d => by
    obtain ⟨f, rfl⟩ : ∃ g, f = g + 1 := ⟨f - 1, by simp only [Bd.dep] at d; omega⟩
    simp only [Bd.dep] at d
    simp only [Bd.enc]
    rw [wn_at (l := [.x, .x, .x]) (by decide +kernel) rfl]
    show 1 + wnD f a.enc + wnD f b.enc + wnD f c.enc = _
    rw [wnD_good a f w.1 (by omega), wnD_good b f w.2.1 (by omega), wnD_good c f w.2.2 (by omega)]
    rfl
  | .set c a, f, w, d => by
    obtain ⟨f, rfl⟩ : ∃ g, f = g + 1 := ⟨f - 1, by simp only [Bd.dep] at d; omega⟩
    simp only [Bd.dep] at d
    simp only [Bd.enc]
    rw [wn_at (l := [.c, .x]) (by decide +kernel) rfl]
    show (if isLetD (.str (sg c)) [112, 113, 114, 115] = true then 1 + wnD f a.enc else 61) = _
    rw [let_sg, decide_eq_true (show c ∈ _ from w.1), if_pos rfl, wnD_good a f w.2 (by omega)]
    rfl
  | .cal c a, f, w, d => by
    obtain ⟨f, rfl⟩ : ∃ g, f = g + 1 := ⟨f - 1, by simp only [Bd.dep] at d; omega⟩
    simp only [Bd.dep] at d
    simp only [Bd.enc]
    rw [wn_at (l := [.d, .x]) (by decide +kernel) rfl]
    show (if isLetD (.str (sg c)) [97, 98, 99, 100, 101, 102, 103, 104] = true then 1 + wnD f a.enc else 61) = _
    rw [let_sg, decide_eq_true (show c ∈ _ from w.1), if_pos rfl, wnD_good a f w.2 (by omega)]
    rfl
def Bo.cd : Bo → Nat
  | .x => 120
  | .n => 110
  | .t => 116
  | .c => 99
  | .d => 100
def shM (l : List Bo) : Str := ⟨(l.map Bo.cd).toArray⟩
theorem shM_len {l : List Bo} : (shM l).length = l.length := by simp [shM, Str.length]
theorem zip_shM {as : List D} {l : List Bo} : zipS as (shM l) = (as.zip l).map fun p => D.tup [p.1, .str (sg p.2.cd)] := by
  unfold zipS
  rw [show (shM l).cps.toList = l.map Bo.cd from rfl]
  rw [List.zip_map_right, List.map_map]
  rfl
theorem shB_le {x : Str} {l : List Bo} (h : shB x = some l) : l.length ≤ 3 := by
  unfold shB at h
  cases e : shTab.find? fun p => decide (p.1 = x) with
  | none => rw [e] at h; cases h
  | some p =>
    rw [e] at h
    cases h
    have hm := List.mem_of_find?_eq_some e
    have all : ∀ p ∈ shTab, p.2.length ≤ 3 := by decide +kernel
    exact all p hm
/-! ### rows -/
def codeD : D → Nat
  | .tup (.str x :: _) => x.cps.toList.headD 0
  | _ => 0
def rowK (many : Nat) (l : List Nat) : D → Bool
  | .tup (a :: as) => decide (as.length + 1 = many) && isLetD a l
  | _ => false
theorem rowK_row {many : Nat} {l : List Nat} {d : D} (h : rowK many l d = true) : ∃ c as, c ∈ l ∧ d = .tup (.str (sg c) :: as) ∧ as.length + 1 = many ∧ codeD d = c := by
  unfold rowK at h
  split at h
  · rename_i a as
    rw [Bool.and_eq_true, decide_eq_true_eq] at h
    obtain ⟨h1, h2⟩ := h
    unfold isLetD at h2
    split at h2
    · obtain ⟨c, hc, rfl⟩ := isIn_sg h2
      exact ⟨c, as, hc, rfl, h1, rfl⟩
    · cases h2
  · cases h
def rowsB (most many : Nat) (l : List Nat) (rs : List D) : Bool := decide (rs.length ≤ most) && (rs.all (rowK many l) && decide (Rsg (rs.map codeD)))
def kdB (d : D) : Bool := inD d [.str "number", .str "truth", .str "list"]
def deedK : D → Bool
  | .tup [_, k1, k2, b] => kdB k1 && kdB k2 && decide (wnD 10 b ≤ 60)
  | _ => false
def deedsK : D → Bool
  | .tup rs => rowsB 8 4 [97, 98, 99, 100, 101, 102, 103, 104] rs && rs.all deedK
  | _ => false
def askK (nms : List Nat) : D → Bool
  | .tup (a :: ks) => ks.all kdB && !inD a (strD (nms.map sg))
  | _ => false
def asksK (nms : List Nat) : D → Bool
  | .tup rs => rowsB 8 3 [97, 98, 99, 100, 101, 102, 103, 104] rs && rs.all (askK nms)
  | _ => false
def sndD : D → D
  | .tup (_ :: k :: _) => k
  | _ => .non
def cellsK : D → Bool
  | .tup rs => rowsB 4 2 [112, 113, 114, 115] rs && (rs.map sndD).all kdB
  | _ => false
def codesD : D → List Nat
  | .tup rs => rs.map codeD
  | _ => []
/-- what of it can't be -/
def whyD : D → Str
  | .tup [nm, ds, as, cs] => if isLetD nm [65, 66, 67, 68, 69, 70] = true then (if deedsK ds = true then (if asksK (codesD ds) as = true then (if cellsK cs = true then "" else "cells") else "asks") else "deeds") else "name"
  | _ => "name"
/-! ### good ones -/
theorem kdB_s (k : Kd) : kdB (.str k.s) = true := by cases k <;> decide +kernel
theorem deedsK_ok {es : List Deed} (h8 : es.length ≤ 8) (h : ∀ d ∈ es, d.ok) (hr : Rsg (es.map (·.c))) : deedsK (.tup (es.map Deed.enc)) = true ∧ codesD (.tup (es.map Deed.enc)) = es.map (·.c) := by
  have ec : (es.map Deed.enc).map codeD = es.map (·.c) := by rw [List.map_map]; rfl
  refine ⟨?_, ec⟩
  show (rowsB 8 4 [97, 98, 99, 100, 101, 102, 103, 104] (es.map Deed.enc) && (es.map Deed.enc).all deedK) = true
  unfold rowsB
  rw [ec, decide_eq_true hr, decide_eq_true (by rw [List.length_map]; exact h8), Bool.true_and, Bool.and_true, Bool.and_eq_true, List.all_eq_true, List.all_eq_true]
  refine ⟨fun x hx => ?_, fun x hx => ?_⟩
  · obtain ⟨d, hd, rfl⟩ := List.mem_map.mp hx
    show (decide (3 + 1 = 4) && isLetD (.str (sg d.c)) _) = true
    rw [let_sg, decide_eq_true (show d.c ∈ _ from (h d hd).c)]
    rfl
  · obtain ⟨d, hd, rfl⟩ := List.mem_map.mp hx
    show (kdB (.str d.tk.s) && kdB (.str d.tl.s) && decide (wnD 10 d.b.enc ≤ 60)) = true
    have ok := h d hd
    rw [kdB_s, kdB_s, wnD_good d.b 10 ok.wf ok.dep, decide_eq_true ok.words]
    rfl
theorem asksK_ok {as : Gv} {nms : List Nat} (h8 : as.length ≤ 8) (h : ∀ a ∈ as, deedC a.1) (hr : Rsg (as.map (·.1))) (hd : ∀ a ∈ as, a.1 ∉ nms) : asksK nms (.tup (as.map askD)) = true := by
  have ec : (as.map askD).map codeD = as.map (·.1) := by rw [List.map_map]; rfl
  show (rowsB 8 3 [97, 98, 99, 100, 101, 102, 103, 104] (as.map askD) && (as.map askD).all (askK nms)) = true
  unfold rowsB
  rw [ec, decide_eq_true hr, decide_eq_true (by rw [List.length_map]; exact h8), Bool.true_and, Bool.and_true, Bool.and_eq_true, List.all_eq_true, List.all_eq_true]
  refine ⟨fun x hx => ?_, fun x hx => ?_⟩
  · obtain ⟨a, ha, rfl⟩ := List.mem_map.mp hx
    show (decide (2 + 1 = 3) && isLetD (.str (sg a.1)) _) = true
    rw [let_sg, decide_eq_true (show a.1 ∈ _ from h a ha)]
    rfl
  · obtain ⟨a, ha, rfl⟩ := List.mem_map.mp hx
    show (([D.str a.2.1.s, .str a.2.2.s].all kdB) && !inD (.str (sg a.1)) (strD (nms.map sg))) = true
    rw [inD_sgs, decide_eq_false (hd a ha), List.all_cons, List.all_cons, kdB_s, kdB_s]
    rfl
theorem cellsK_ok {cs : Cv} (h4 : cs.length ≤ 4) (h : ∀ a ∈ cs, cellC a.1) (hr : Rsg (cs.map (·.1))) : cellsK (.tup (cs.map celD)) = true := by
  have ec : (cs.map celD).map codeD = cs.map (·.1) := by rw [List.map_map]; rfl
  show (rowsB 4 2 [112, 113, 114, 115] (cs.map celD) && ((cs.map celD).map sndD).all kdB) = true
  unfold rowsB
  rw [ec, decide_eq_true hr, decide_eq_true (by rw [List.length_map]; exact h4), Bool.true_and, Bool.and_true, Bool.and_eq_true, List.all_eq_true, List.all_eq_true]
  refine ⟨fun x hx => ?_, fun x hx => ?_⟩
  · obtain ⟨a, ha, rfl⟩ := List.mem_map.mp hx
    show (decide (1 + 1 = 2) && isLetD (.str (sg a.1)) _) = true
    rw [let_sg, decide_eq_true (show a.1 ∈ _ from h a ha)]
    rfl
  · obtain ⟨y, hy, rfl⟩ := List.mem_map.mp hx
    obtain ⟨a, ha, rfl⟩ := List.mem_map.mp hy
    exact kdB_s a.2
theorem why_good {p : Part} (h : p.ok) : whyD p.enc = "" := by
  obtain ⟨e1, e2⟩ := deedsK_ok h.dl h.dok h.dr
  unfold whyD Part.enc
  simp only
  rw [let_sg, decide_eq_true (show p.nm ∈ _ from h.nm), if_pos rfl, if_pos e1, e2, if_pos (asksK_ok h.al h.aok h.ar h.dis), if_pos (cellsK_ok h.cl h.cok h.cr)]
/-! ### the form that is asked of data -/
def flatR : D → Bool
  | .tup (_ :: k1 :: k2 :: _) => k1.flat && k2.flat
  | .tup [_, k] => k.flat
  | _ => true
def flatRs : D → Bool
  | .tup rs => rs.all flatR
  | _ => true
def partF : D → Bool
  | .tup [_, ds, as, cs] => flatRs ds && (flatRs as && flatRs cs)
  | _ => true
structure PartP (d : D) : Prop where
  pl : Pln 30 d
  f : partF d = true
theorem pln_kd {n : Nat} (k : Kd) : Pln n (.str k.s) := by cases k <;> exact pln_str (by decide +kernel) (by decide +kernel)
theorem pln_bd : ∀ b : Bd, b.wf → Pln b.dep b.enc
  | .num i, w => pln_tup (n := 0) (by simp) fun d hd => by
    simp only [List.mem_cons, List.not_mem_nil, or_false] at hd
    rcases hd with rfl | rfl
    · exact pln_str (by decide +kernel) (by decide +kernel)
    · exact pln_int
  | .tru i, w => pln_tup (n := 0) (by simp) fun d hd => by
    simp only [List.mem_cons, List.not_mem_nil, or_false] at hd
    rcases hd with rfl | rfl
    · exact pln_str (by decide +kernel) (by decide +kernel)
    · exact pln_bl
  | .emp, w => pln_tup (n := 0) (by simp) fun d hd => by
    simp only [List.mem_cons, List.not_mem_nil, or_false] at hd
    subst hd
    exact pln_str (by decide +kernel) (by decide +kernel)
  | .arg, w => pln_tup (n := 0) (by simp) fun d hd => by
    simp only [List.mem_cons, List.not_mem_nil, or_false] at hd
    subst hd
    exact pln_str (by decide +kernel) (by decide +kernel)
  | .cel c, w => pln_tup (n := 0) (by simp) fun d hd => by
    simp only [List.mem_cons, List.not_mem_nil, or_false] at hd
    rcases hd with rfl | rfl
    · exact pln_str (by decide +kernel) (by decide +kernel)
    · exact pln_sg (cellC.lt w)
  | .un wd a, w => pln_tup (n := a.dep) (by simp) fun d hd => by
    simp only [List.mem_cons, List.not_mem_nil, or_false] at hd
    rcases hd with rfl | rfl
    · cases wd <;> exact pln_str (by decide +kernel) (by decide +kernel)
    · exact pln_bd a w
  | .bin wd a b, w => pln_tup (n := max a.dep b.dep) (by simp) fun d hd => by
    simp only [List.mem_cons, List.not_mem_nil, or_false] at hd
    rcases hd with rfl | rfl | rfl
    · cases wd <;> exact pln_str (by decide +kernel) (by decide +kernel)
    · exact pln_le (pln_bd a w.1) (Nat.le_max_left _ _)
    · exact pln_le (pln_bd b w.2) (Nat.le_max_right _ _)
  | .ite a b c, w => pln_le (pln_tup (n := max a.dep (max b.dep c.dep)) (by simp) fun d hd => by
    simp only [List.mem_cons, List.not_mem_nil, or_false] at hd
    rcases hd with rfl | rfl | rfl | rfl
    · exact pln_str (by decide +kernel) (by decide +kernel)
    · exact pln_le (pln_bd a w.1) (by omega)
    · exact pln_le (pln_bd b w.2.1) (by omega)
    · exact pln_le (pln_bd c w.2.2) (by omega)) (by simp only [Bd.dep]; omega)
  | .set c a, w => pln_tup (n := a.dep) (by simp) fun d hd => by
    simp only [List.mem_cons, List.not_mem_nil, or_false] at hd
    rcases hd with rfl | rfl | rfl
    · exact pln_str (by decide +kernel) (by decide +kernel)
    · exact pln_sg (cellC.lt w.1)
    · exact pln_bd a w.2
  | .cal c a, w => pln_tup (n := a.dep) (by simp) fun d hd => by
    simp only [List.mem_cons, List.not_mem_nil, or_false] at hd
    rcases hd with rfl | rfl | rfl
    · exact pln_str (by decide +kernel) (by decide +kernel)
    · exact pln_sg (deedC.lt w.1)
    · exact pln_bd a w.2
theorem pln_ds {es : List Deed} (h8 : es.length ≤ 8) (h : ∀ d ∈ es, d.ok) : Pln 12 (.tup (es.map Deed.enc)) ∧ flatRs (.tup (es.map Deed.enc)) = true := by
  refine ⟨pln_tup (by rw [List.length_map]; omega) fun x hx => ?_, List.all_eq_true.mpr fun x hx => ?_⟩
  · obtain ⟨d, hd, rfl⟩ := List.mem_map.mp hx
    have ok := h d hd
    refine pln_tup (n := 10) (by simp) fun y hy => ?_
    simp only [List.mem_cons, List.not_mem_nil, or_false] at hy
    rcases hy with rfl | rfl | rfl | rfl
    · exact pln_sg (deedC.lt ok.c)
    · exact pln_kd _
    · exact pln_kd _
    · exact pln_le (pln_bd d.b ok.wf) ok.dep
  · obtain ⟨d, _, rfl⟩ := List.mem_map.mp hx
    rfl
theorem pln_as {as : Gv} (h8 : as.length ≤ 8) (h : ∀ a ∈ as, deedC a.1) : Pln 2 (.tup (as.map askD)) ∧ flatRs (.tup (as.map askD)) = true := by
  refine ⟨pln_tup (by rw [List.length_map]; omega) fun x hx => ?_, List.all_eq_true.mpr fun x hx => ?_⟩
  · obtain ⟨a, ha, rfl⟩ := List.mem_map.mp hx
    refine pln_tup (n := 0) (by simp) fun y hy => ?_
    simp only [List.mem_cons, List.not_mem_nil, or_false] at hy
    rcases hy with rfl | rfl | rfl
    · exact pln_sg (deedC.lt (h a ha))
    · exact pln_kd _
    · exact pln_kd _
  · obtain ⟨d, _, rfl⟩ := List.mem_map.mp hx
    rfl
theorem pln_cs {cs : Cv} (h4 : cs.length ≤ 4) (h : ∀ a ∈ cs, cellC a.1) : Pln 2 (.tup (cs.map celD)) ∧ flatRs (.tup (cs.map celD)) = true := by
  refine ⟨pln_tup (by rw [List.length_map]; omega) fun x hx => ?_, List.all_eq_true.mpr fun x hx => ?_⟩
  · obtain ⟨a, ha, rfl⟩ := List.mem_map.mp hx
    refine pln_tup (n := 0) (by simp) fun y hy => ?_
    simp only [List.mem_cons, List.not_mem_nil, or_false] at hy
    rcases hy with rfl | rfl
    · exact pln_sg (cellC.lt (h a ha))
    · exact pln_kd _
  · obtain ⟨d, _, rfl⟩ := List.mem_map.mp hx
    rfl
theorem part_four {nm ds as cs : D} (h1 : Pln 29 nm) (h2 : Pln 29 ds ∧ flatRs ds = true) (h3 : Pln 29 as ∧ flatRs as = true) (h4 : Pln 29 cs ∧ flatRs cs = true) : PartP (.tup [nm, ds, as, cs]) :=
  ⟨pln_tup (by simp) fun d hd => by
    simp only [List.mem_cons, List.not_mem_nil, or_false] at hd
    rcases hd with rfl | rfl | rfl | rfl
    · exact h1
    · exact h2.1
    · exact h3.1
    · exact h4.1, by show (flatRs ds && (flatRs as && flatRs cs)) = true; rw [h2.2, h3.2, h4.2]; rfl⟩
theorem part_ok {p : Part} (h : p.ok) : PartP p.enc :=
  part_four (pln_sg (partC.lt h.nm)) ⟨pln_le (pln_ds h.dl h.dok).1 (by omega), (pln_ds h.dl h.dok).2⟩ ⟨pln_le (pln_as h.al h.aok).1 (by omega), (pln_as h.al h.aok).2⟩ ⟨pln_le (pln_cs h.cl h.cok).1 (by omega), (pln_cs h.cl h.cok).2⟩
end L3
/-! data of any form that is taken for a body. -/
namespace K01
open PySem PySem.Spec PyProof.Rows L2 L3
variable {P : Program} {w : World} {K : PySem.W.Frag} {mg : Str → Option Value} {base : Heap}
local macro_rules | `(tactic| walk_at "rbp") => `(tactic| simp only [ aIfT, lcStep, aLenSet, aOrI, Bool.and_true, Bool.or_false, Bool.false_or, Bool.true_or, Bool.or_true, Bool.and_self, Bool.false_bne, Bool.false_xor, Bool.true_xor, aRet, aRetN, aDrop, aIfS, aSeq, aNext, aAsg, gNm, gTupD, gConsD, gNilD, aFor, ex_var0, ex_varS, aC, aOp, aCall, aCons, aNil, aTup, aLst, aB, aAnd, aOr, aNot, aAndV, aOrV, aNotV, aIf, aNeg, aChain, aKix, aKGet1, aKGet2, aDGet1, aDGet2, aNoPart, aPart, aSl, aList, aTupI, aStrI, aZipS, aYes, aLc, aNever, aBreak, aCont, forGo, lcGo,
  isi_str_str, isi_str_int, isi_str_bool, isi_str_tuple, isi_str_list, isi_int_str, isi_int_int, isi_int_bool, isi_int_tuple, isi_int_list, isi_bl_str, isi_bl_int, isi_bl_bool, isi_bl_tuple, isi_bl_list, isi_non_str, isi_non_int, isi_non_bool, isi_non_tuple, isi_non_list, isi_tup_str, isi_tup_int, isi_tup_bool, isi_tup_tuple, isi_tup_list, isi_lst_str, isi_lst_int, isi_lst_bool, isi_lst_tuple, isi_lst_list, isi_dct_str, isi_dct_int, isi_dct_bool, isi_dct_tuple, isi_dct_list, isi2_str, isi2_int, isi2_bl, isi2_non, isi2_tup, isi2_lst, isi2_dct, Option.getD_some, Option.getD_none, D.isNon, sz_0, sz_1, sz_2, sz_3, sz_4, sz_5, sz_6, sz_7, sz_8, sz_9, sz_10, sz_11, sz_12, sz_13, sz_14, sz_15, sz_16, sg_len, ex_in_sg, ex_len_str, ex_len_tup, ex_len_lst, ex_eq_str, ex_ne_str, ex_eq_int, ex_ne_int, ex_eq_ns, ex_eq_sn, ex_eq_nn, ex_ne_ns, ex_ne_sn, ex_ne_nn, ex_I, ex_add_int, ex_add_str, ex_add_tup, ex_add_lst, ex_sub, ex_mul, ex_mod, ex_div, ex_isN, ex_notN, ex_ix_tup, ex_ix_lst, ex_sl_tup, ex_sl_lst, ex_sl_str, ex_tuple_lst,
  ofs_inj, String.reduceEq, atI_0, atI_1, atI_2, atI_3, cut_1, cut_13, startD, wipeD, List.map_cons, List.map_nil, List.length_cons, List.length_nil, List.cons_append, List.nil_append, List.replicate_succ, List.replicate_zero, List.set_cons_zero, List.set_cons_succ, Nat.reduceAdd, Nat.reduceSub, Nat.sub_self,
  D.bl.injEq, D.int.injEq, D.str.injEq, D.tup.injEq, D.lst.injEq, D.dct.injEq, Option.some.injEq, List.cons.injEq, and_assoc, Int.cast_ofNat_Int, Int.reduceAdd, Int.reduceSub, Int.reduceMul, Int.reduceNeg, Int.reduceEq, Int.reduceLT, Int.reduceLE, Int.reduceNe, eq_self, exists_eq_left, exists_eq_left', exists_eq_right, exists_eq, exists_const, exists_false, false_and, and_false, false_or, or_false, true_and, and_true, if_true, if_false, Bool.false_eq_true, Bool.not_true, Bool.not_false, ite_true, ite_false, reduceCtorEq, decide_true, decide_false, decide_eq_true_eq, exists_and_left, Bool.not_eq_true])

def intB : D → Bool
  | .int _ => true
  | _ => false
def sp_wholeP : SpD := fun ds m Q => ∃ d n, ds = [d] ∧ Pln n d ∧ Q (.bl (intB d)) m
theorem F_wholeP (T : Txt K w mg) : FnD P w K mg base "is_whole_kinds" 1 sp_wholeP := by
  have nd := sc_is_whole_kinds.nd
  refine fnd_ofN T.d_is_whole_kinds sc_is_whole_kinds (fun ds m Q ⟨_, _, e, _⟩ => by rw [e]; rfl) fun f cdv A outer s H E hr => ⟨_, (ass_one (as_ret (ae_and (ae_callB cr_isi T.b_isinstance boot_isinstance (aa_cons (ae_var 0) (aa_cons (ae_ty T.b_int boot_int) aa_nil))) (ae_one (ae_not (ae_callB cr_isi T.b_isinstance boot_isinstance (aa_cons (ae_var 0) (aa_cons (ae_ty T.b_bool boot_bool) aa_nil)))))))), ?_⟩
  rintro _ m Q ⟨d, n, rfl, hp, q⟩
  cases d with
  | str x => walk_at "rbp"; exact Fz.now q
  | non => walk_at "rbp"; exact Fz.now q
  | bl b => walk_at "rbp"; exact Fz.now q
  | int i => walk_at "rbp"; exact Fz.now q
  | tup ds => walk_at "rbp"; exact Fz.now q
  | lst ds => unfold Pln at hp; exact hp.elim
  | dct ds => unfold Pln at hp; exact hp.elim
  | ref a => unfold Pln at hp; exact hp.elim
  | ty a => unfold Pln at hp; exact hp.elim
  | fl a => unfold Pln at hp; exact hp.elim
def sp_is_armP : SpD := fun ds m Q => ∃ d n b, ds = [d, .str (sg (Bo.cd b))] ∧ b ≠ .x ∧ Pln n d ∧ Q (.bl (armOk b d)) m
theorem F_is_armP (T : Txt K w mg) : FnD P w K mg base "is_arm" 2 sp_is_armP := by
  have nd := sc_is_arm.nd
  refine fnd_ofZ T.d_is_arm sc_is_arm (fun ds m Q ⟨_, _, _, e, _⟩ => by rw [e]; rfl) fun f cdv A outer s H E hr => ⟨_, (ass_cons (as_if (at_cmp (or_eq hr.units) (ae_var 1) ae_str (nomark _)) (ass_one (as_ret (ae_and (ae_call ((F_wholeP T).mono (by omega)) hr (aa_cons (ae_var 0) aa_nil)) (ae_one (ae_chain or_le or_le (ae_neg (ae_glo T.c_MOST_WRITTEN)) (ae_var 0) (ae_glo T.c_MOST_WRITTEN)))))) ass_nil)
      (ass_cons (as_if (at_cmp (or_eq hr.units) (ae_var 1) ae_str (nomark _)) (ass_one (as_ret (ae_callB cr_isi T.b_isinstance boot_isinstance (aa_cons (ae_var 0) (aa_cons (ae_ty T.b_bool boot_bool) aa_nil))))) ass_nil)
      (ass_one (as_ret (ae_call ((F_is_letterP T).mono (by omega)) hr (aa_cons (ae_var 0) (aa_cons (ae_if (at_cmp (or_eq hr.units) (ae_var 1) ae_str (nomark _)) (ae_glo T.c_CELLS) (ae_glo T.c_DEEDS)) aa_nil))))))), ?_⟩
  rintro _ m Q ⟨d, n, b, rfl, hb, hp, q⟩
  replace q := Fz.now q
  cases b with
  | x => exact absurd rfl hb
  | n =>
    simp only [Bo.cd]
    walk_at "rbp"
    rw [if_pos (show sg 110 = Str.ofString "n" from by decide +kernel)]
    refine ⟨d, n, rfl, hp, ?_⟩
    have no : ∀ e : D, intB e = false → armOk .n e = false := fun e h => by cases e <;> first | rfl | cases h
    by_cases hi : intB d = true
    · obtain ⟨i, rfl⟩ : ∃ i, d = .int i := by cases d <;> first | exact ⟨_, rfl⟩ | cases hi
      have q : Fz Q (.bl (decide (-99 ≤ i) && decide (i ≤ 99))) m := q
      refine ⟨true, rfl, ?_⟩
      rw [if_pos rfl]
      walk_at "rbp"
      by_cases h1 : -99 ≤ i
      · rw [if_pos h1]
        rw [decide_eq_true h1, Bool.true_and] at q
        exact q
      · rw [if_neg h1]
        rw [decide_eq_false h1, Bool.false_and] at q
        exact q
    · rw [no d (Bool.eq_false_iff.mpr hi)] at q
      refine ⟨false, by rw [Bool.eq_false_iff.mpr hi], ?_⟩
      rw [if_neg (by simp)]
      exact q
  | t =>
    simp only [Bo.cd]
    walk_at "rbp"
    rw [if_neg (show ¬ sg 116 = Str.ofString "n" from by decide +kernel), if_pos (show sg 116 = Str.ofString "t" from by decide +kernel)]
    cases d with
    | str x => walk_at "rbp"; exact q
    | non => walk_at "rbp"; exact q
    | bl b => walk_at "rbp"; exact q
    | int i => walk_at "rbp"; exact q
    | tup ds => walk_at "rbp"; exact q
    | lst ds => unfold Pln at hp; exact hp.elim
    | dct ds => unfold Pln at hp; exact hp.elim
    | ref a => unfold Pln at hp; exact hp.elim
    | ty a => unfold Pln at hp; exact hp.elim
    | fl a => unfold Pln at hp; exact hp.elim
  | c =>
    simp only [Bo.cd]
    walk_at "rbp"
    rw [if_neg (show ¬ sg 99 = Str.ofString "n" from by decide +kernel), if_neg (show ¬ sg 99 = Str.ofString "t" from by decide +kernel), if_pos (show sg 99 = Str.ofString "c" from by decide +kernel)]
    refine ⟨d, n, _, rfl, hp, ?_⟩
    rw [cps_cells]
    have q : Fz Q (.bl (isLetD d [112, 113, 114, 115])) m := by cases d <;> exact q
    exact q
  | d =>
    simp only [Bo.cd]
    walk_at "rbp"
    rw [if_neg (show ¬ sg 100 = Str.ofString "n" from by decide +kernel), if_neg (show ¬ sg 100 = Str.ofString "t" from by decide +kernel), if_neg (show ¬ sg 100 = Str.ofString "c" from by decide +kernel)]
    refine ⟨d, n, _, rfl, hp, ?_⟩
    rw [cps_deeds]
    have q : Fz Q (.bl (isLetD d [97, 98, 99, 100, 101, 102, 103, 104])) m := by cases d <;> exact q
    exact q
theorem arms_tab : kt_ARMS = shTab.map fun p => (p.1, D.str (shM p.2)) := by rfl
theorem arms_all (x : Str) : getS kt_ARMS x = (shB x).map fun l => .str (shM l) := by
  rw [arms_tab]
  unfold shB
  generalize shTab = l
  induction l with
  | nil => rfl
  | cons p l ih =>
    rw [List.map_cons, getS_c, List.find?_cons, ih]
    by_cases h : p.1 = x
    · rw [if_pos h, decide_eq_true h]; rfl
    · rw [if_neg h, decide_eq_false h]
def sp_words_inB (n : Nat) : SpD := fun ds m Q => ∃ (d : D) (r k f : Nat), ds = [d, .int (k : Nat)] ∧ Pln r d ∧ r ≤ 60 ∧ k + f = 10 ∧ f < n ∧ Q (.int (wnD f d : Nat)) m
theorem F_words_inB (T : Txt K w mg) : ∀ n : Nat, FnD P w K mg base "words_in" (n + 3) (sp_words_inB n)
  | 0 => fnd_never T.d_words_in sc_words_in fun ds m Q ⟨_, _, _, _, _, _, _, _, h, _⟩ => by omega
  | n + 1 => by
    have nd := sc_words_in.nd
    have F := F_words_inB T n
    refine fnd_ofZ T.d_words_in sc_words_in (fun ds m Q ⟨_, _, _, _, e, _⟩ => by rw [e]; rfl) fun f cdv A outer s H E hr => ⟨_, (ass_cons (as_if (AW.t (aw_or (at_not (at_val (ae_callB cr_isi T.b_isinstance boot_isinstance (aa_cons (ae_var 0) (aa_cons (ae_ty T.b_tuple boot_tuple) aa_nil))))) (aw_or (at_cmp (or_eq hr.units) (ae_var 0) (ae_tup aa_nil) (nomark _)) (aw_or (at_not (at_val (ae_callB cr_isi T.b_isinstance boot_isinstance (aa_cons (ae_ix hr.u1 (ae_var 0) ae_int) (aa_cons (ae_ty T.b_str boot_str) aa_nil))))) (aw_or1 (at_cmp or_gt (ae_var 1) (ae_glo T.c_MOST_WITHIN_bodies) (nomark _))))))) (ass_one (as_ret (ae_op or_add (ae_glo T.c_MOST_WORDS) ae_int))) ass_nil)
      (ass_cons (as_asg (ae_kget1 hr.u1 T.t_ARMS (ae_ix hr.u1 (ae_var 0) ae_int)) (ag_name 2 nd))
      (ass_cons (as_if (AW.t (aw_or (at_cmp or_isN (ae_var 2) ae_non (nomark _)) (aw_or1 (at_cmp (or_ne hr.units) (ae_callB cr_len T.b_len boot_len (aa_cons (ae_var 0) aa_nil)) (ae_op or_add (ae_callB cr_len T.b_len boot_len (aa_cons (ae_var 2) aa_nil)) ae_int) (nomark _))))) (ass_one (as_ret (ae_op or_add (ae_glo T.c_MOST_WORDS) ae_int))) ass_nil)
      (ass_cons (as_asg ae_int (ag_name 3 nd))
      (ass_cons (as_for PassesOwn.never rfl (ai_zipTS T.b_zip (aa_cons (ae_sl (ae_var 0) (ao_some ae_int) ao_none) (aa_cons (ae_var 2) aa_nil))) (ag_tup (n := 2) rfl (ags_cons (ag_name 4 nd) (ags_cons (ag_name 5 nd) ags_nil)))
      (ass_one (as_if (at_cmp (or_eq hr.units) (ae_var 5) ae_str (nomark _)) (ass_one (as_asg (ae_op or_add (ae_var 3) (ae_call (F.mono (by omega)) hr (aa_cons (ae_var 4) (aa_cons (ae_op or_add (ae_var 1) ae_int) aa_nil)))) (ag_name 3 nd))) (ass_one (as_if (at_not (at_val (ae_call ((F_is_armP T).mono (by omega)) hr (aa_cons (ae_var 4) (aa_cons (ae_var 5) aa_nil))))) (ass_one (as_ret (ae_op or_add (ae_glo T.c_MOST_WORDS) ae_int))) ass_nil)))))
      (ass_one (as_ret (ae_var 3)))))))), ?_⟩
    rintro _ m Q ⟨d, r, k, f, rfl, hp, hr60, hk, hf, q⟩
    replace q := Fz.now q
    cases d with
    | non => rw [wn_bad (fun _ _ => D.noConfusion)] at q; walk_at "rbp"; exact q
    | bl b => rw [wn_bad (fun _ _ => D.noConfusion)] at q; walk_at "rbp"; exact q
    | int i => rw [wn_bad (fun _ _ => D.noConfusion)] at q; walk_at "rbp"; exact q
    | str x => rw [wn_bad (fun _ _ => D.noConfusion)] at q; walk_at "rbp"; exact q
    | lst ds => unfold Pln at hp; exact hp.elim
    | dct ds => unfold Pln at hp; exact hp.elim
    | ref a => unfold Pln at hp; exact hp.elim
    | ty a => unfold Pln at hp; exact hp.elim
    | fl a => unfold Pln at hp; exact hp.elim
    | tup ds =>
      obtain ⟨h100, hds⟩ := hp.tup
      cases ds with
      | nil =>
        rw [wn_bad (fun _ _ e => by cases e)] at q
        walk_at "rbp"
        rw [ex_eq_of (x := .tup []) (y := .tup []) (by exact ok_nil) (by exact ok_nil) (show eqD (.tup []) (.tup []) = true from by decide +kernel)]
        walk_at "rbp"
        exact q
      | cons a as =>
        have e1 : ∀ R, rhoEq (.tup (a :: as)) (.tup []) m R = R (.bl false) m := fun R => ex_eq_of (x := .tup (a :: as)) (y := .tup []) (by exact hp.okD.eq (by omega)) (by exact ok_nil) tup_ne
        have ha := hds a List.mem_cons_self
        walk_at "rbp"
        rw [e1]
        walk_at "rbp"
        cases a with
        | non => rw [wn_bad (fun _ _ e => by cases e)] at q; walk_at "rbp"; exact q
        | bl b => rw [wn_bad (fun _ _ e => by cases e)] at q; walk_at "rbp"; exact q
        | int i => rw [wn_bad (fun _ _ e => by cases e)] at q; walk_at "rbp"; exact q
        | tup es => rw [wn_bad (fun _ _ e => by cases e)] at q; walk_at "rbp"; exact q
        | lst ds => unfold Pln at ha; exact ha.elim
        | dct ds => unfold Pln at ha; exact ha.elim
        | ref a => unfold Pln at ha; exact ha.elim
        | ty a => unfold Pln at ha; exact ha.elim
        | fl a => unfold Pln at ha; exact ha.elim
        | str x =>
          walk_at "rbp"
          cases f with
          | zero =>
            rw [if_pos (show 9 < (k : Int) by omega)]
            exact q
          | succ f =>
            rw [if_neg (show ¬ 9 < (k : Int) by omega), arms_all]
            cases hs : shB x with
            | none =>
              rw [wn_word hs] at q
              simp only [Option.map_none, Option.getD_none, if_true]
              exact q
            | some l =>
              simp only [Option.map_some, Option.getD_some]
              rw [if_neg (by simp)]
              walk_at "rbp"
              rw [shM_len]
              by_cases hl : as.length = l.length
              · rw [wn_at hs hl] at q
                refine ⟨szl (by have := shB_le hs; omega), ?_⟩
                rw [decide_eq_true (show ((as.length + 1 : Nat) : Int) = (l.length : Nat) + 1 by omega), if_neg (by simp), zip_shM]
                refine for_inv (fun rest δ m' => ∃ (l2 : List Bo) (as2 : List D) (acc : Nat), rest = (as2.zip l2).map (fun p => D.tup [p.1, .str (sg p.2.cd)]) ∧ as2.length = l2.length ∧ (∀ d ∈ as2, Pln r d) ∧ wnA (wnD f) l as 1 = wnA (wnD f) l2 as2 acc ∧ m' = m ∧ ∃ o4 o5, δ = [some (.tup (.str x :: as)), some (.int (k : Nat)), some (.str (shM l)), some (.int (acc : Nat)), o4, o5]) ?_ ?_ ⟨l, as, 1, rfl, hl, fun d hd => hds d (List.mem_cons_of_mem _ hd), rfl, rfl, _, _, rfl⟩
                · rintro y rest δ m' ⟨l2, as2, acc, e, hl2, hpl, htn, rfl, o4, o5, rfl⟩ nx hnx
                  rw [htn] at q
                  cases as2 with
                  | nil => cases e
                  | cons b as2 =>
                    cases l2 with
                    | nil => cases hl2
                    | cons s l2 =>
                      rw [List.zip_cons_cons, List.map_cons] at e
                      injection e with e1 e2
                      subst e1
                      have hb := hpl b List.mem_cons_self
                      have hl3 : as2.length = l2.length := by simpa using hl2
                      have hpl2 : ∀ d ∈ as2, Pln r d := fun d hd => hpl d (List.mem_cons_of_mem _ hd)
                      by_cases hx : s = .x
                      · subst hx
                        simp only [Bo.cd]
                        walk_at "rbp"
                        rw [if_pos (show sg 120 = Str.ofString "x" from by decide +kernel)]
                        refine ⟨b, r, k + 1, f, rfl, hb, hr60, by omega, by omega, ?_⟩
                        walk_at "rbp"
                        rw [show ((acc : Nat) : Int) + (wnD f b : Nat) = ((acc + wnD f b : Nat) : Int) by omega]
                        exact hnx _ _ ⟨l2, as2, acc + wnD f b, e2, hl3, hpl2, htn, rfl, _, _, rfl⟩
                      · have key : wnA (wnD f) (s :: l2) (b :: as2) acc = if armOk s b = true then wnA (wnD f) l2 as2 acc else 61 := by
                          cases s <;> first | rfl | exact absurd rfl hx
                        have nx : ¬ sg s.cd = Str.ofString "x" := by cases s <;> first | exact absurd rfl hx | decide +kernel
                        walk_at "rbp"
                        rw [if_neg nx]
                        refine ⟨b, r, s, rfl, hx, hb, _, rfl, ?_⟩
                        rw [key] at q htn
                        by_cases hlt : armOk s b = true
                        · rw [hlt, if_neg (by simp)]
                          rw [if_pos hlt] at htn
                          exact hnx _ _ ⟨l2, as2, acc, e2, hl3, hpl2, htn, rfl, _, _, rfl⟩
                        · rw [Bool.eq_false_iff.mpr hlt, if_pos (by rfl)]
                          rw [if_neg hlt] at q
                          exact q
                · rintro δ m' ⟨l2, as2, acc, e, hl2, hpl, htn, rfl, o4, o5, rfl⟩
                  walk_at "rbp"
                  have e0 : wnA (wnD f) l2 as2 acc = acc := by
                    cases as2 with
                    | nil => cases l2 with
                      | nil => rfl
                      | cons s l2 => cases hl2
                    | cons b as2 => cases l2 with
                      | nil => cases hl2
                      | cons s l2 => simp at e
                  rw [htn, e0] at q
                  exact q
              · refine ⟨szl (by have := shB_le hs; omega), ?_⟩
                rw [decide_eq_false (show ¬ ((as.length + 1 : Nat) : Int) = (l.length : Nat) + 1 by omega)]
                rw [if_pos (by rfl)]
                rw [wn_len hs hl] at q
                exact q
def sp_is_bodyB : SpD := fun ds m Q => ∃ d r, ds = [d] ∧ Pln r d ∧ r ≤ 60 ∧ Q (.bl (decide (wnD 10 d ≤ 60))) m
theorem F_is_bodyB (T : Txt K w mg) : FnD P w K mg base "is_body" 15 sp_is_bodyB := by
  have nd := sc_is_body.nd
  refine fnd_ofZ T.d_is_body sc_is_body (fun ds m Q ⟨_, _, e, _⟩ => by rw [e]; rfl) fun f cdv A outer s H E hr => ⟨_, (ass_one (as_ret (ae_cmp or_le (ae_call ((F_words_inB T 11).mono (by omega)) hr (aa_cons (ae_var 0) (aa_cons ae_int aa_nil))) (ae_glo T.c_MOST_WORDS) (nomark _)))), ?_⟩
  rintro _ m Q ⟨d, r, rfl, hp, h60, q⟩
  walk_at "rbp"
  refine ⟨d, r, 0, 10, rfl, hp, h60, by omega, by omega, ?_⟩
  walk_at "rbp"
  have e : decide (((wnD 10 d : Nat) : Int) ≤ 60) = decide (wnD 10 d ≤ 60) := decide_eq_decide.mpr (by omega)
  rw [e]
  exact Fz.now q
end K01
/-! data of any form that is taken for a part. -/
namespace K01
open PySem PySem.Spec PyProof.Rows L2 L3
variable {P : Program} {w : World} {K : PySem.W.Frag} {mg : Str → Option Value} {base : Heap}
local macro_rules | `(tactic| walk_at "rpp") => `(tactic| simp only [ ySeq, yRet, yE, yA, yS, yIfS, yAsg, yRaise, yRaiseI, yDrop, yFor, yCall, yMake, yMeth, yIf, yCons, yTup, yOp, aOrI, lcStep, aIfT, ex_in_tup, ex_in_lst, Bool.and_true, Bool.or_false, Bool.false_or, Bool.true_or, Bool.or_true, Bool.and_self, Bool.false_bne, Bool.false_xor, Bool.true_xor, aRet, aRetN, aDrop, aIfS, aSeq, aNext, aAsg, gNm, gTupD, gConsD, gNilD, aFor, ex_var0, ex_varS, aC, aOp, aCall, aCons, aNil, aTup, aLst, aB, aAnd, aOr, aNot, aAndV, aOrV, aNotV, aIf, aNeg, aChain, aKix, aKGet1, aKGet2, aDGet1, aDGet2, aNoPart, aPart, aSl, aList, aTupI, aStrI, aZipS, aYes, aLc, aNever, aBreak, aCont, forGo, lcGo,
  isi_str_str, isi_str_int, isi_str_bool, isi_str_tuple, isi_str_list, isi_int_str, isi_int_int, isi_int_bool, isi_int_tuple, isi_int_list, isi_bl_str, isi_bl_int, isi_bl_bool, isi_bl_tuple, isi_bl_list, isi_non_str, isi_non_int, isi_non_bool, isi_non_tuple, isi_non_list, isi_tup_str, isi_tup_int, isi_tup_bool, isi_tup_tuple, isi_tup_list, isi_lst_str, isi_lst_int, isi_lst_bool, isi_lst_tuple, isi_lst_list, isi_dct_str, isi_dct_int, isi_dct_bool, isi_dct_tuple, isi_dct_list, isi2_str, isi2_int, isi2_bl, isi2_non, isi2_tup, isi2_lst, isi2_dct, Option.getD_some, Option.getD_none, D.isNon, sz_0, sz_1, sz_2, sz_3, sz_4, sz_5, sz_6, sz_7, sz_8, sz_9, sz_10, sz_11, sz_12, sz_13, sz_14, sz_15, sz_16, sg_len, ex_in_sg, ex_len_str, ex_len_tup, ex_len_lst, ex_eq_str, ex_ne_str, ex_eq_int, ex_ne_int, ex_eq_ns, ex_eq_sn, ex_eq_nn, ex_ne_ns, ex_ne_sn, ex_ne_nn, ex_I, ex_add_int, ex_add_str, ex_add_tup, ex_add_lst, ex_sub, ex_mul, ex_mod, ex_div, ex_isN, ex_notN, ex_ix_tup, ex_ix_lst, ex_sl_tup, ex_sl_lst, ex_sl_str, ex_tuple_lst,
  ofs_inj, String.reduceEq, atI_0, atI_1, atI_2, atI_3, cut_1, cut_13, startD, wipeD, List.map_cons, List.map_nil, List.length_cons, List.length_nil, List.cons_append, List.nil_append, List.replicate_succ, List.replicate_zero, List.set_cons_zero, List.set_cons_succ, Nat.reduceAdd, Nat.reduceSub, Nat.sub_self,
  D.bl.injEq, D.int.injEq, D.str.injEq, D.tup.injEq, D.lst.injEq, D.dct.injEq, Option.some.injEq, List.cons.injEq, and_assoc, Int.cast_ofNat_Int, Int.reduceAdd, Int.reduceSub, Int.reduceMul, Int.reduceNeg, Int.reduceEq, Int.reduceLT, Int.reduceLE, Int.reduceNe, eq_self, exists_eq_left, exists_eq_left', exists_eq_right, exists_eq, exists_const, exists_false, false_and, and_false, false_or, or_false, true_and, and_true, if_true, if_false, Bool.false_eq_true, Bool.not_true, Bool.not_false, ite_true, ite_false, reduceCtorEq, decide_true, decide_false, decide_eq_true_eq, exists_and_left, Bool.not_eq_true])

def sp_are_kindsP : SpD := fun ds m Q => ∃ es n, (ds = [.tup es] ∨ ds = [.lst es]) ∧ es.length ≤ 100 ∧ (∀ e ∈ es, Pln n e ∧ e.flat = true) ∧ n ≤ 60 ∧ Q (.bl (es.all kdB)) m
theorem kt_flat : ([.str "number", .str "truth", .str "list"] : List D).all D.flat = true := rfl
theorem F_are_kindsP (T : Txt K w mg) : FnD P w K mg base "are_kinds" 1 sp_are_kindsP := by
  have nd := sc_are_kinds.nd
  refine fnd_ofZ T.d_are_kinds sc_are_kinds (fun ds m Q ⟨_, _, e, _⟩ => by rcases e with e | e <;> rw [e] <;> rfl) fun f cdv A outer s H E hr => ⟨_, (ass_one (as_ret (ae_cmp (or_eq hr.units) (ae_lc (own := [("one", 1)]) rfl nd (ai_or (ai_list (ae_var 0)) (ai_tup (ae_var 0))) (blkOk_by (own := [("one", 1)]) (by kernel_rfl)) (gg_name (i := 1) (by simp)) (fun _ _ _ _ _ => (pg_name (i := 1) nd rfl (Or.inl rfl))) (fun _ _ _ _ _ => (ats_one (at_cmp (or_nin hr.u65) (ae_var 1) (ae_glo T.c_KINDS) (by rfl)))) (fun _ _ _ _ _ => (ae_var 1))) (ae_lst aa_nil) (nomark _)))), ?_⟩
  rintro _ m Q ⟨es, n, e, hl, hf, hn, q⟩
  have go : ∀ (o : Option D) (R : EK), (∀ bad : List D, bad.isEmpty = es.all kdB → (∀ x ∈ bad, x ∈ es) → R (.lst bad) m) → lcGo (gNm 1) (aB (aOp (rhoIn true) (aVar 1) (aC (.tup [.str "number", .str "truth", .str "list"])))) (aVar 1) [o, none] R es [] m := by
    intro o R q
    have hfm : ∀ xs : List D, (xs.filterMap fun d => if kdB d = true then none else some d).isEmpty = xs.all kdB := fun xs => by
      induction xs with
      | nil => rfl
      | cons x xs ih =>
        rw [List.filterMap_cons, List.all_cons]
        by_cases h : kdB x = true
        · rw [if_pos h, h, Bool.true_and]; exact ih
        · rw [if_neg h, Bool.eq_false_iff.mpr h]; rfl
    refine lc_pure (fun d => if kdB d = true then none else some d) (fun d hd R q => ?_) ?_
    · walk_at "rpp"
      rw [ex_in_tup (hf d hd).2 kt_flat, Bool.true_xor]
      refine ⟨_, rfl, ?_⟩
      have q : R (if kdB d = true then none else some d) m := q
      show if (!kdB d) = true then R (some d) m else R none m
      by_cases h : kdB d = true
      · rw [if_pos h] at q
        rw [h, if_neg (by simp)]
        exact q
      · rw [if_neg h] at q
        rw [Bool.eq_false_iff.mpr h, if_pos (by rfl)]
        exact q
    · rw [List.nil_append]
      refine q _ (hfm es) fun x hx => ?_
      obtain ⟨y, hy, e⟩ := List.mem_filterMap.mp hx
      split at e
      · cases e
      · cases e; exact hy
  have fin : ∀ bad : List D, bad.isEmpty = es.all kdB → (∀ x ∈ bad, x ∈ es) → rhoEq (.lst bad) (.lst []) m (Fz Q) := fun bad e hb => by
    rw [eq_lstE (okD.eq (n := n + 1) (okD_lst fun x hx => (hf x (hb x hx)).1.okD) (by omega)), e]
    exact Fz.now q
  rcases e with rfl | rfl
  · walk_at "rpp"
    exact ⟨szl (by omega), go _ _ fin⟩
  · walk_at "rpp"
    exact ⟨szl (by omega), go _ _ fin⟩
def sp_are_risingP : SpD := fun ds m Q => ∃ rs : List (Nat × List D), ds = [.tup (rs.map rowD)] ∧ rs.length < 64 ∧ (∀ r ∈ rs, r.1 < 1114112) ∧ Q (.bl (decide (Rsg (rs.map (·.1))))) m
theorem F_are_risingP (T : Txt K w mg) : FnD P w K mg base "are_rising" 1 sp_are_risingP := by
  have nd := sc_are_rising.nd
  refine fnd_ofZ T.d_are_rising sc_are_rising (fun ds m Q ⟨x, e, _⟩ => by rw [e]; rfl) fun f cdv A outer s H E hr => ⟨_, (ass_cons (as_setLc (i := 1) (own := [("row", 2)]) rfl nd rfl rfl (sw_true rfl rfl rfl (by decide +kernel)) (ai_tup (ae_var 0)) (blkOk_by (own := [("row", 2)]) (by kernel_rfl)) (gg_name (i := 2) (by simp)) (fun _ _ _ _ _ => (pg_name (i := 2) nd rfl (Or.inl rfl))) (fun _ _ _ _ _ => ats_nil) (fun _ _ _ _ _ => (ae_ix hr.u1 (ae_var 2) ae_int)))
      (ass_one (as_ret (ae_cmp (or_eq hr.units) (ae_var 1) (ae_sset T.b_sorted T.b_set (ae_var 1)) (nomark _))))), ?_⟩
  rintro _ m Q ⟨rs, rfl, hl, hc, q⟩
  walk_at "rpp"
  refine ⟨szl (by simp; omega), ?_⟩
  have hcc : ∀ c ∈ rs.map (·.1), c < 1114112 := fun c hcc => by obtain ⟨r, hr, rfl⟩ := List.mem_map.mp hcc; exact hc r hr
  refine lc_pure hdD (fun d hd R q => ?_) ?_
  · obtain ⟨r, _, rfl⟩ := List.mem_map.mp hd
    simp only [rowD, hdD] at q ⊢
    walk_at "rpp"
    exact q
  · rw [hd_rows, List.nil_append]
    simp only [aSset]
    walk_at "rpp"
    have l64 : ((rs.map (·.1)).map sg).length < 64 := by simp; omega
    refine ⟨(rs.map (·.1)).map sg, rfl, (sset64 l64).1, (sset64 l64).2, fun ys p so => ?_⟩
    obtain ⟨es, rfl, hsub, hr⟩ := sset_any p so
    rw [ex_eq_cs hcc (fun c h => hcc c (hsub c h))]
    by_cases h : Rsg (rs.map (·.1))
    · have e := sset_ris h p so
      rw [decide_eq_true (by exact (map_sg_inj e).symm)]
      rw [decide_eq_true h] at q
      exact Fz.now q
    · rw [decide_eq_false (fun z => h (by rw [z]; exact hr))]
      rw [decide_eq_false h] at q
      exact Fz.now q
theorem rows_are {many : Nat} {l : List Nat} : ∀ {rs : List D}, (∀ d ∈ rs, rowK many l d = true) → ∃ rr : List (Nat × List D), rs = rr.map rowD ∧ rr.map (·.1) = rs.map codeD ∧ ∀ r ∈ rr, r.1 ∈ l ∧ r.2.length + 1 = many
  | [], _ => ⟨[], rfl, rfl, fun _ h => nomatch h⟩
  | d :: rs, h => by
    obtain ⟨c, as, hc, rfl, hl, _⟩ := rowK_row (h d List.mem_cons_self)
    obtain ⟨rr, e1, e2, e3⟩ := rows_are fun x hx => h x (List.mem_cons_of_mem _ hx)
    subst e1
    refine ⟨(c, as) :: rr, rfl, ?_, fun r hr => ?_⟩
    · rw [List.map_cons, List.map_cons, e2]; rfl
    · rcases List.mem_cons.mp hr with rfl | hr
      · exact ⟨hc, hl⟩
      · exact e3 r hr
def rowsD (most many : Nat) (l : List Nat) : D → Bool
  | .tup rs => rowsB most many l rs
  | _ => false
def sp_are_rowsP : SpD := fun ds m Q => ∃ (d : D) (r most many : Nat) (z : Str), ds = [d, .int (most : Nat), .int (many : Nat), .str z] ∧ Pln r d ∧ most ≤ 60 ∧ 0 < many ∧ (∀ c ∈ z.cps.toList, c < 1114112) ∧ Q (.bl (rowsD most many z.cps.toList d)) m
theorem F_are_rowsP (T : Txt K w mg) : FnD P w K mg base "are_rows" 2 sp_are_rowsP := by
  have nd := sc_are_rows.nd
  refine fnd_ofZ T.d_are_rows sc_are_rows (fun ds m Q ⟨_, _, _, _, _, e, _⟩ => by rw [e]; rfl) fun f cdv A outer s H E hr => ⟨_, (ass_cons (as_if (AW.t (aw_or (at_not (at_val (ae_callB cr_isi T.b_isinstance boot_isinstance (aa_cons (ae_var 0) (aa_cons (ae_ty T.b_tuple boot_tuple) aa_nil))))) (aw_or1 (at_cmp or_gt (ae_callB cr_len T.b_len boot_len (aa_cons (ae_var 0) aa_nil)) (ae_var 1) (nomark _))))) (ass_one (as_ret ae_bl)) ass_nil)
      (ass_cons (as_for PassesOwn.never rfl (ai_tup (ae_var 0)) (ag_name 4 nd)
      (ass_one (as_if (AW.t (aw_or (at_not (at_val (ae_callB cr_isi T.b_isinstance boot_isinstance (aa_cons (ae_var 4) (aa_cons (ae_ty T.b_tuple boot_tuple) aa_nil))))) (aw_or (at_cmp (or_ne hr.units) (ae_callB cr_len T.b_len boot_len (aa_cons (ae_var 4) aa_nil)) (ae_var 2) (nomark _)) (aw_or1 (at_not (at_val (ae_call ((F_is_letterP T).mono (by omega)) hr (aa_cons (ae_ix hr.u1 (ae_var 4) ae_int) (aa_cons (ae_var 3) aa_nil))))))))) (ass_one (as_ret ae_bl)) ass_nil)))
      (ass_one (as_ret (ae_call ((F_are_risingP T).mono (by omega)) hr (aa_cons (ae_var 0) aa_nil)))))), ?_⟩
  rintro _ m Q ⟨d, r, most, many, z, rfl, hp, h60, h0, hz, q⟩
  replace q := Fz.now q
  cases d with
  | str x => walk_at "rpp"; exact q
  | non => walk_at "rpp"; exact q
  | bl b => walk_at "rpp"; exact q
  | int i => walk_at "rpp"; exact q
  | lst ds => unfold Pln at hp; exact hp.elim
  | dct ds => unfold Pln at hp; exact hp.elim
  | ref a => unfold Pln at hp; exact hp.elim
  | ty a => unfold Pln at hp; exact hp.elim
  | fl a => unfold Pln at hp; exact hp.elim
  | tup rs =>
    obtain ⟨h100, hrs⟩ := hp.tup
    have q : Fz Q (.bl (rowsB most many z.cps.toList rs)) m := q
    unfold rowsB at q
    walk_at "rpp"
    by_cases hm : rs.length ≤ most
    · rw [if_neg (by omega)]
      rw [decide_eq_true hm, Bool.true_and] at q
      refine for_inv (fun rest δ m' => m' = m ∧ (∃ done, rs = done ++ rest ∧ ∀ d ∈ done, rowK many z.cps.toList d = true) ∧ ∃ o, δ = [some (.tup rs), some (.int (most : Nat)), some (.int (many : Nat)), some (.str z), o]) ?_ ?_ ⟨rfl, ⟨[], rfl, fun _ h => nomatch h⟩, _, rfl⟩
      · rintro d rest δ mX ⟨rfl, ⟨done, e, hd⟩, o, rfl⟩ nx hnx
        have hmem : d ∈ rs := by rw [e]; simp
        have next : rowK many z.cps.toList d = true → ∀ o, nx [some (.tup rs), some (.int (most : Nat)), some (.int (many : Nat)), some (.str z), o] mX := fun h o => hnx _ _ ⟨rfl, ⟨done ++ [d], by rw [e]; simp, fun x hx => (List.mem_append.mp hx).elim (hd x) fun w => by rw [List.mem_singleton.mp w]; exact h⟩, _, rfl⟩
        have stop : ¬ rowK many z.cps.toList d = true → Fz Q (.bl false) mX := fun h => by
          have : rs.all (rowK many z.cps.toList) = false := by
            rw [Bool.eq_false_iff]
            exact fun w => h (List.all_eq_true.mp w d hmem)
          rw [this, Bool.false_and] at q
          exact q
        have hpd := hrs d hmem
        cases d with
        | str x => walk_at "rpp"; exact stop (by simp [rowK])
        | non => walk_at "rpp"; exact stop (by simp [rowK])
        | bl b => walk_at "rpp"; exact stop (by simp [rowK])
        | int i => walk_at "rpp"; exact stop (by simp [rowK])
        | lst ds => unfold Pln at hpd; exact hpd.elim
        | dct ds => unfold Pln at hpd; exact hpd.elim
        | ref a => unfold Pln at hpd; exact hpd.elim
        | ty a => unfold Pln at hpd; exact hpd.elim
        | fl a => unfold Pln at hpd; exact hpd.elim
        | tup es =>
          walk_at "rpp"
          cases es with
          | nil =>
            rw [decide_eq_false (show ¬ ((([] : List D).length : Nat) : Int) = (many : Nat) by simp; omega), if_pos (by rfl)]
            exact stop (by simp [rowK])
          | cons a as =>
            have ha := (hpd.tup).2 a List.mem_cons_self
            by_cases hl : as.length + 1 = many
            · rw [decide_eq_true (show (((a :: as).length : Nat) : Int) = (many : Nat) by rw [List.length_cons]; omega), if_neg (by simp)]
              refine ⟨a, atI_0, a, r, z, rfl, ha, _, rfl, ?_⟩
              have rk : rowK many z.cps.toList (.tup (a :: as)) = isLetD a z.cps.toList := by
                show (decide (as.length + 1 = many) && isLetD a z.cps.toList) = _
                rw [decide_eq_true hl, Bool.true_and]
              by_cases hi : isLetD a z.cps.toList = true
              · rw [hi, if_neg (by simp)]
                exact next (rk.trans hi) _
              · rw [Bool.eq_false_iff.mpr hi, if_pos (by rfl)]
                exact stop (by rw [rk]; exact hi)
            · rw [decide_eq_false (show ¬ (((a :: as).length : Nat) : Int) = (many : Nat) by rw [List.length_cons]; omega), if_pos (by rfl)]
              refine stop fun w => ?_
              have w : (decide (as.length + 1 = many) && isLetD a z.cps.toList) = true := w
              rw [decide_eq_false hl] at w
              cases w
      · rintro δ _ ⟨rfl, ⟨done, e, hd⟩, o, rfl⟩
        rw [List.append_nil] at e
        subst e
        obtain ⟨rr, e1, e2, e3⟩ := rows_are hd
        have : rs.all (rowK many z.cps.toList) = true := List.all_eq_true.mpr hd
        rw [this, Bool.true_and, ← e2] at q
        walk_at "rpp"
        refine ⟨rr, by rw [e1], ?_, fun r hr => hz _ (e3 r hr).1, q⟩
        have : rs.length = rr.length := by rw [e1, List.length_map]
        omega
    · rw [if_pos (by omega)]
      rw [decide_eq_false hm, Bool.false_and] at q
      exact q
/-- some rows but those that are fine -/
theorem lst_rows {n : Nat} {bad rs : List D} {m : Mu} {R : EK} (h : ∀ x ∈ bad, x ∈ rs) (hp : ∀ x ∈ rs, Pln n x) (hn : n ≤ 60) (q : R (.bl bad.isEmpty) m) : rhoEq (.lst bad) (.lst []) m R := by
  rw [eq_lstE (okD.eq (n := n + 1) (okD_lst fun x hx => (hp x (h x hx)).okD) (by omega))]
  exact q
theorem lst_rows' {n : Nat} {bad rs : List D} {m : Mu} {R : EK} (h : ∀ x ∈ bad, x ∈ rs) (hp : ∀ x ∈ rs, Pln n x) (hn : n ≤ 60) (q : R (.bl (!bad.isEmpty)) m) : rhoNe (.lst bad) (.lst []) m R := by
  rw [ne_lstE (okD.eq (n := n + 1) (okD_lst fun x hx => (hp x (h x hx)).okD) (by omega))]
  exact q
theorem fm_bad (p : D → Bool) (xs : List D) : (xs.filterMap fun d => if p d = true then none else some d).isEmpty = xs.all p := by
  induction xs with
  | nil => rfl
  | cons x xs ih =>
    rw [List.filterMap_cons, List.all_cons]
    by_cases h : p x = true
    · rw [if_pos h, h, Bool.true_and]; exact ih
    · rw [if_neg h, Bool.eq_false_iff.mpr h]; rfl
theorem fm_sub (p : D → Bool) (xs : List D) : ∀ x ∈ (xs.filterMap fun d => if p d = true then none else some d), x ∈ xs := fun x hx => by
  obtain ⟨y, hy, e⟩ := List.mem_filterMap.mp hx
  split at e
  · cases e
  · cases e; exact hy
def sp_are_deedsP : SpD := fun ds m Q => ∃ d r, ds = [d] ∧ Pln r d ∧ r ≤ 50 ∧ flatRs d = true ∧ Q (.bl (deedsK d)) m
theorem F_are_deedsP (T : Txt K w mg) : FnD P w K mg base "are_deeds" 17 sp_are_deedsP := by
  have nd := sc_are_deeds.nd
  refine fnd_ofZ T.d_are_deeds sc_are_deeds (fun ds m Q ⟨_, _, e, _⟩ => by rw [e]; rfl) fun f cdv A outer s H E hr => ⟨_, (ass_cons (as_if (at_not (at_val (ae_call ((F_are_rowsP T).mono (by omega)) hr (aa_cons (ae_var 0) (aa_cons (ae_glo T.c_MOST_DEEDS) (aa_cons ae_int (aa_cons (ae_glo T.c_DEEDS) aa_nil))))))) (ass_one (as_ret ae_bl)) ass_nil)
      (ass_one (as_ret (ae_cmp (or_eq hr.units) (ae_lc (own := [("row", 1)]) rfl nd (ai_tup (ae_var 0)) (blkOk_by (own := [("row", 1)]) (by kernel_rfl)) (gg_name (i := 1) (by simp)) (fun _ _ _ _ _ => (pg_name (i := 1) nd rfl (Or.inl rfl))) (fun _ _ _ _ _ => (ats_one (AW.t (aw_or (at_not (at_val (ae_call ((F_are_kindsP T).mono (by omega)) hr (aa_cons (ae_sl (ae_var 1) (ao_some ae_int) (ao_some ae_int)) aa_nil)))) (aw_or1 (at_not (at_val (ae_call ((F_is_bodyB T).mono (by omega)) hr (aa_cons (ae_ix hr.u1 (ae_var 1) ae_int) aa_nil))))))))) (fun _ _ _ _ _ => (ae_var 1))) (ae_lst aa_nil) (nomark _))))), ?_⟩
  rintro _ m Q ⟨d, r, rfl, hp, h50, hf, q⟩
  replace q := Fz.now q
  walk_at "rpp"
  refine ⟨d, r, 8, 4, _, rfl, hp, by omega, by omega, by rw [cps_deeds]; decide, ?_⟩
  rw [cps_deeds]
  have noK : rowsD 8 4 [97, 98, 99, 100, 101, 102, 103, 104] d = false → deedsK d = false := fun h => by
    cases d with
    | tup rs =>
      show (rowsB 8 4 _ rs && rs.all deedK) = false
      rw [show rowsB 8 4 [97, 98, 99, 100, 101, 102, 103, 104] rs = false from h, Bool.false_and]
    | _ => rfl
  by_cases hk : rowsD 8 4 [97, 98, 99, 100, 101, 102, 103, 104] d = true
  · obtain ⟨rs, rfl⟩ : ∃ rs, d = .tup rs := by cases d <;> first | exact ⟨_, rfl⟩ | cases hk
    have hk : rowsB 8 4 [97, 98, 99, 100, 101, 102, 103, 104] rs = true := hk
    have q : Fz Q (.bl (rowsB 8 4 [97, 98, 99, 100, 101, 102, 103, 104] rs && rs.all deedK)) m := q
    rw [hk, Bool.true_and] at q
    unfold rowsB at hk
    rw [Bool.and_eq_true, Bool.and_eq_true, decide_eq_true_eq] at hk
    obtain ⟨h8, hrk, hris⟩ := hk
    obtain ⟨h100, hrs⟩ := hp.tup
    have hrk := List.all_eq_true.mp hrk
    have hf := List.all_eq_true.mp (show rs.all flatR = true from hf)
    refine ⟨true, by show D.bl (rowsB 8 4 _ rs) = _; unfold rowsB; rw [decide_eq_true h8, List.all_eq_true.mpr hrk, hris]; rfl, ?_⟩
    rw [if_neg (by simp)]
    walk_at "rpp"
    refine ⟨szl (by omega), lc_pure (fun d => if deedK d = true then none else some d) (fun d hd R q => ?_) ?_⟩
    · obtain ⟨c, as, hc, rfl, hl, _⟩ := rowK_row (hrk d hd)
      obtain ⟨k1, k2, b, rfl⟩ : ∃ k1 k2 b, as = [k1, k2, b] := by
        match as, hl with
        | [k1, k2, b], _ => exact ⟨k1, k2, b, rfl⟩
      have hfl := hf _ hd
      have hfl : (k1.flat && k2.flat) = true := hfl
      rw [Bool.and_eq_true] at hfl
      have hpd := (hrs _ hd).tup.2
      have q : R (if (kdB k1 && kdB k2 && decide (wnD 10 b ≤ 60)) = true then none else some (.tup [.str (sg c), k1, k2, b])) m := q
      walk_at "rpp"
      refine ⟨[k1, k2], r, .inl rfl, by simp, fun e he => ?_, by omega, ?_⟩
      · simp only [List.mem_cons, List.not_mem_nil, or_false] at he
        rcases he with rfl | rfl
        · exact ⟨hpd _ (by simp), hfl.1⟩
        · exact ⟨hpd _ (by simp), hfl.2⟩
      have ek : [k1, k2].all kdB = (kdB k1 && kdB k2) := by simp
      rw [ek]
      refine ⟨_, rfl, ?_⟩
      by_cases hkk : (kdB k1 && kdB k2) = true
      · rw [hkk, if_neg (by simp)]
        rw [hkk, Bool.true_and] at q
        refine ⟨b, r, rfl, hpd _ (by simp), by omega, _, rfl, ?_⟩
        by_cases hb : wnD 10 b ≤ 60
        · rw [decide_eq_true hb, if_pos rfl] at q
          rw [decide_eq_true hb, if_neg (by simp)]
          exact q
        · rw [decide_eq_false hb, if_neg (by simp)] at q
          rw [decide_eq_false hb, if_pos (by rfl)]
          exact q
      · rw [Bool.eq_false_iff.mpr hkk, if_pos (by rfl)]
        rw [Bool.eq_false_iff.mpr hkk, Bool.false_and, if_neg (by simp)] at q
        exact q
    · rw [List.nil_append]
      refine lst_rows (fm_sub _ _) hrs (by omega) ?_
      rw [fm_bad]
      exact q
  · rw [Bool.eq_false_iff.mpr hk]
    rw [noK (Bool.eq_false_iff.mpr hk)] at q
    refine ⟨false, rfl, ?_⟩
    rw [if_pos (by rfl)]
    exact q
theorem fm_snd : ∀ rc : List D, rc.filterMap (fun d => some (sndD d)) = rc.map sndD
  | [] => rfl
  | x :: xs => by rw [List.filterMap_cons, List.map_cons, fm_snd xs]
def sp_why_noneP : SpD := fun ds m Q => ∃ d, ds = [d] ∧ PartP d ∧ Q (.str (whyD d)) m
theorem F_why_noneP (T : Txt K w mg) : FnD P w K mg base "why_none" 19 sp_why_noneP := by
  have nd := sc_why_none.nd
  refine fnd_ofZ T.d_why_none sc_why_none (fun ds m Q ⟨_, e, _⟩ => by rw [e]; rfl) fun f cdv A outer s H E hr => ⟨_, (ass_cons (as_if (AW.t (aw_or (at_not (at_val (ae_callB cr_isi T.b_isinstance boot_isinstance (aa_cons (ae_var 0) (aa_cons (ae_ty T.b_tuple boot_tuple) aa_nil))))) (aw_or (at_cmp (or_ne hr.units) (ae_callB cr_len T.b_len boot_len (aa_cons (ae_var 0) aa_nil)) ae_int (nomark _)) (aw_or1 (at_not (at_val (ae_call ((F_is_letterP T).mono (by omega)) hr (aa_cons (ae_ix hr.u1 (ae_var 0) ae_int) (aa_cons (ae_glo T.c_PARTS) aa_nil))))))))) (ass_one (as_ret ae_str)) ass_nil)
      (ass_cons (as_asg (ae_var 0) (ag_tup (n := 4) rfl (ags_cons (ag_name 2 nd) (ags_cons (ag_name 3 nd) (ags_cons (ag_name 4 nd) (ags_cons (ag_name 5 nd) ags_nil))))))
      (ass_cons (as_if (at_not (at_val (ae_call ((F_are_deedsP T).mono (by omega)) hr (aa_cons (ae_var 3) aa_nil)))) (ass_one (as_ret ae_str)) ass_nil)
      (ass_cons (as_asg (ae_lc (own := [("row", 6)]) rfl nd (ai_tup (ae_var 3)) (blkOk_by (own := [("row", 6)]) (by kernel_rfl)) (gg_name (i := 6) (by simp)) (fun _ _ _ _ _ => (pg_name (i := 6) nd rfl (Or.inl rfl))) (fun _ _ _ _ _ => ats_nil) (fun _ _ _ _ _ => (ae_ix hr.u1 (ae_var 6) ae_int))) (ag_name 1 nd))
      (ass_cons (as_if (at_not (at_val (ae_call ((F_are_rowsP T).mono (by omega)) hr (aa_cons (ae_var 4) (aa_cons (ae_glo T.c_MOST_DEEDS) (aa_cons ae_int (aa_cons (ae_glo T.c_DEEDS) aa_nil))))))) (ass_one (as_ret ae_str)) ass_nil)
      (ass_cons (as_if (at_cmp (or_ne hr.units) (ae_lc (own := [("row", 6)]) rfl nd (ai_tup (ae_var 4)) (blkOk_by (own := [("row", 6)]) (by kernel_rfl)) (gg_name (i := 6) (by simp)) (fun _ _ _ _ _ => (pg_name (i := 6) nd rfl (Or.inl rfl))) (fun _ _ _ _ _ => (ats_one (AW.t (aw_or (at_not (at_val (ae_call ((F_are_kindsP T).mono (by omega)) hr (aa_cons (ae_sl (ae_var 6) (ao_some ae_int) ao_none) aa_nil)))) (aw_or1 (at_cmp (or_in1 hr.u65) (ae_ix hr.u1 (ae_var 6) ae_int) (ae_var 1) (by rfl))))))) (fun _ _ _ _ _ => (ae_var 6))) (ae_lst aa_nil) (nomark _)) (ass_one (as_ret ae_str)) ass_nil)
      (ass_cons (as_if (AW.t (aw_or (at_not (at_val (ae_call ((F_are_rowsP T).mono (by omega)) hr (aa_cons (ae_var 5) (aa_cons (ae_glo T.c_MOST_CELLS) (aa_cons ae_int (aa_cons (ae_glo T.c_CELLS) aa_nil))))))) (aw_or1 (at_not (at_val (ae_call ((F_are_kindsP T).mono (by omega)) hr (aa_cons (ae_lc (own := [("row", 6)]) rfl nd (ai_tup (ae_var 5)) (blkOk_by (own := [("row", 6)]) (by kernel_rfl)) (gg_name (i := 6) (by simp)) (fun _ _ _ _ _ => (pg_name (i := 6) nd rfl (Or.inl rfl))) (fun _ _ _ _ _ => ats_nil) (fun _ _ _ _ _ => (ae_ix hr.u1 (ae_var 6) ae_int))) aa_nil))))))) (ass_one (as_ret ae_str)) ass_nil)
      (ass_one (as_ret ae_str))))))))), ?_⟩
  rintro _ m Q ⟨d, rfl, ⟨hp, hf⟩, q⟩
  replace q := Fz.now q
  have bad : (∀ a b c e, d ≠ .tup [a, b, c, e]) → whyD d = "name" := fun h => by
    unfold whyD
    split
    · exact absurd rfl (h _ _ _ _)
    · rfl
  cases d with
  | str x => rw [bad (fun _ _ _ _ => D.noConfusion)] at q; walk_at "rpp"; exact q
  | non => rw [bad (fun _ _ _ _ => D.noConfusion)] at q; walk_at "rpp"; exact q
  | bl b => rw [bad (fun _ _ _ _ => D.noConfusion)] at q; walk_at "rpp"; exact q
  | int i => rw [bad (fun _ _ _ _ => D.noConfusion)] at q; walk_at "rpp"; exact q
  | lst ds => unfold Pln at hp; exact hp.elim
  | dct ds => unfold Pln at hp; exact hp.elim
  | ref a => unfold Pln at hp; exact hp.elim
  | ty a => unfold Pln at hp; exact hp.elim
  | fl a => unfold Pln at hp; exact hp.elim
  | tup es =>
    walk_at "rpp"
    by_cases h4 : es.length = 4
    · obtain ⟨nm, ds, as, cs, rfl⟩ : ∃ a b c e, es = [a, b, c, e] := by
        match es, h4 with
        | [a, b, c, e], _ => exact ⟨a, b, c, e, rfl⟩
      walk_at "rpp"
      obtain ⟨_, hpp⟩ := hp.tup
      have pnm := hpp nm (by simp)
      have pds := hpp ds (by simp)
      have pas := hpp as (by simp)
      have pcs := hpp cs (by simp)
      have hf : (flatRs ds && (flatRs as && flatRs cs)) = true := hf
      rw [Bool.and_eq_true, Bool.and_eq_true] at hf
      obtain ⟨fds, fas, fcs⟩ := hf
      have q : Fz Q (.str (if isLetD nm [65, 66, 67, 68, 69, 70] = true then (if deedsK ds = true then (if asksK (codesD ds) as = true then (if cellsK cs = true then "" else "cells") else "asks") else "deeds") else "name")) m := q
      refine ⟨nm, _, _, rfl, pnm, ?_⟩
      rw [cps_parts]
      refine ⟨_, rfl, ?_⟩
      by_cases k1 : isLetD nm [65, 66, 67, 68, 69, 70] = true
      rotate_left
      · rw [if_neg k1] at q
        rw [Bool.eq_false_iff.mpr k1, if_pos (by rfl)]
        exact q
      rw [if_pos k1] at q
      rw [k1, if_neg (by simp)]
      refine ⟨ds, _, rfl, pds, by omega, fds, _, rfl, ?_⟩
      by_cases k2 : deedsK ds = true
      rotate_left
      · rw [if_neg k2] at q
        rw [Bool.eq_false_iff.mpr k2, if_pos (by rfl)]
        exact q
      rw [if_pos k2] at q
      rw [k2, if_neg (by simp)]
      obtain ⟨rs, rfl⟩ : ∃ rs, ds = .tup rs := by cases ds <;> first | exact ⟨_, rfl⟩ | cases k2
      have k2 : (rowsB 8 4 [97, 98, 99, 100, 101, 102, 103, 104] rs && rs.all deedK) = true := k2
      unfold rowsB at k2
      simp only [Bool.and_eq_true, decide_eq_true_eq] at k2
      obtain ⟨⟨h8, hrk, _⟩, _⟩ := k2
      have hrk := List.all_eq_true.mp hrk
      obtain ⟨rr, e1, e2, e3⟩ := rows_are hrk
      have q : Fz Q (.str (if asksK (rs.map codeD) as = true then (if cellsK cs = true then "" else "cells") else "asks")) m := q
      refine ⟨rs, rfl, szl (by omega), lc_pure hdD (fun d hd R q => ?_) ?_⟩
      · obtain ⟨c, es, _, rfl, _, _⟩ := rowK_row (hrk d hd)
        simp only [hdD] at q
        walk_at "rpp"
        exact q
      rw [List.nil_append, e1, hd_rows, e2, ← e1]
      have hcd : ∀ c ∈ rs.map codeD, c < 1114112 := fun c hc => by
        rw [← e2] at hc
        obtain ⟨r, hr, rfl⟩ := List.mem_map.mp hc
        have := (e3 r hr).1
        simp only [List.mem_cons, List.not_mem_nil, or_false] at this
        omega
      generalize rs.map codeD = nms at q hcd ⊢
      refine ⟨as, _, 8, 3, _, rfl, pas, by omega, by omega, by rw [cps_deeds]; decide, ?_⟩
      rw [cps_deeds]
      refine ⟨_, rfl, ?_⟩
      by_cases k3 : rowsD 8 3 [97, 98, 99, 100, 101, 102, 103, 104] as = true
      rotate_left
      · have : asksK nms as = false := by
          cases as with
          | tup rs =>
            show (rowsB 8 3 _ rs && rs.all (askK nms)) = false
            rw [show rowsB 8 3 [97, 98, 99, 100, 101, 102, 103, 104] rs = false from Bool.eq_false_iff.mpr k3, Bool.false_and]
          | _ => rfl
        rw [this, if_neg (by simp)] at q
        rw [Bool.eq_false_iff.mpr k3, if_pos (by rfl)]
        exact q
      rw [k3, if_neg (by simp)]
      obtain ⟨ra, rfl⟩ : ∃ rs, as = .tup rs := by cases as <;> first | exact ⟨_, rfl⟩ | cases k3
      have k3 : rowsB 8 3 [97, 98, 99, 100, 101, 102, 103, 104] ra = true := k3
      have q : Fz Q (.str (if (rowsB 8 3 [97, 98, 99, 100, 101, 102, 103, 104] ra && ra.all (askK nms)) = true then (if cellsK cs = true then "" else "cells") else "asks")) m := q
      rw [k3, Bool.true_and] at q
      unfold rowsB at k3
      simp only [Bool.and_eq_true, decide_eq_true_eq] at k3
      obtain ⟨h8a, hrka, _⟩ := k3
      have hrka := List.all_eq_true.mp hrka
      have hra := pas.tup.2
      have fas := List.all_eq_true.mp (show ra.all flatR = true from fas)
      refine ⟨ra, rfl, szl (by omega), lc_pure (fun d => if askK nms d = true then none else some d) (fun d hd R q => ?_) ?_⟩
      · obtain ⟨c, es, hc, rfl, hl, _⟩ := rowK_row (hrka d hd)
        obtain ⟨x1, x2, rfl⟩ : ∃ x1 x2, es = [x1, x2] := by
          match es, hl with
          | [x1, x2], _ => exact ⟨x1, x2, rfl⟩
        have hfl : (x1.flat && x2.flat) = true := fas _ hd
        rw [Bool.and_eq_true] at hfl
        have hpd := (hra _ hd).tup.2
        have q : R (if ([x1, x2].all kdB && !inD (.str (sg c)) (strD (nms.map sg))) = true then none else some (.tup [.str (sg c), x1, x2])) m := q
        walk_at "rpp"
        refine ⟨[x1, x2], _, .inl rfl, by simp, fun e he => ?_, (by omega : 30 ≤ 60), ?_⟩
        · simp only [List.mem_cons, List.not_mem_nil, or_false] at he
          rcases he with rfl | rfl
          · exact ⟨hpd _ (by simp), hfl.1⟩
          · exact ⟨hpd _ (by simp), hfl.2⟩
        refine ⟨_, rfl, ?_⟩
        by_cases hkk : [x1, x2].all kdB = true
        · rw [hkk, if_neg (by simp), ex_in_lst fl_str (strD_flat _), Bool.false_xor]
          rw [hkk, Bool.true_and] at q
          refine ⟨_, rfl, ?_⟩
          by_cases hin : inD (.str (sg c)) (strD (nms.map sg)) = true
          · rw [hin, if_neg (by simp)] at q
            rw [hin, if_pos rfl]
            exact q
          · rw [Bool.eq_false_iff.mpr hin, if_pos (by rfl)] at q
            rw [Bool.eq_false_iff.mpr hin, if_neg (by simp)]
            exact q
        · rw [Bool.eq_false_iff.mpr hkk, if_pos (by rfl)]
          rw [Bool.eq_false_iff.mpr hkk, Bool.false_and, if_neg (by simp)] at q
          exact q
      rw [List.nil_append]
      refine lst_rows' (fm_sub _ _) hra (by omega) ?_
      rw [fm_bad]
      refine ⟨_, rfl, ?_⟩
      by_cases k4 : ra.all (askK nms) = true
      rotate_left
      · rw [if_neg k4] at q
        rw [Bool.eq_false_iff.mpr k4, if_pos (by rfl)]
        exact q
      rw [if_pos k4] at q
      rw [k4, if_neg (by simp)]
      refine ⟨cs, _, 4, 2, _, rfl, pcs, by omega, by omega, by rw [cps_cells]; decide, ?_⟩
      rw [cps_cells]
      refine ⟨_, rfl, ?_⟩
      by_cases k5 : rowsD 4 2 [112, 113, 114, 115] cs = true
      rotate_left
      · have : cellsK cs = false := by
          cases cs with
          | tup rs =>
            show (rowsB 4 2 _ rs && (rs.map sndD).all kdB) = false
            rw [show rowsB 4 2 [112, 113, 114, 115] rs = false from Bool.eq_false_iff.mpr k5, Bool.false_and]
          | _ => rfl
        rw [this, if_neg (by simp)] at q
        rw [Bool.eq_false_iff.mpr k5, if_pos (by rfl)]
        exact q
      rw [k5, if_neg (by simp)]
      obtain ⟨rc, rfl⟩ : ∃ rs, cs = .tup rs := by cases cs <;> first | exact ⟨_, rfl⟩ | cases k5
      have k5 : rowsB 4 2 [112, 113, 114, 115] rc = true := k5
      have q : Fz Q (.str (if (rowsB 4 2 [112, 113, 114, 115] rc && (rc.map sndD).all kdB) = true then "" else "cells")) m := q
      rw [k5, Bool.true_and] at q
      unfold rowsB at k5
      simp only [Bool.and_eq_true, decide_eq_true_eq] at k5
      obtain ⟨h4c, hrkc, _⟩ := k5
      have hrkc := List.all_eq_true.mp hrkc
      have hrc := pcs.tup.2
      have fcs := List.all_eq_true.mp (show rc.all flatR = true from fcs)
      refine ⟨rc, rfl, szl (by omega), lc_pure (fun d => some (sndD d)) (fun d hd R q => ?_) ?_⟩
      · obtain ⟨c, es, hc, rfl, hl, _⟩ := rowK_row (hrkc d hd)
        obtain ⟨x1, rfl⟩ : ∃ x1, es = [x1] := by
          match es, hl with
          | [x1], _ => exact ⟨x1, rfl⟩
        have q : R (some x1) m := q
        walk_at "rpp"
        exact q
      have em : rc.filterMap (fun d => some (sndD d)) = rc.map sndD := fm_snd rc
      rw [List.nil_append, em]
      refine ⟨rc.map sndD, 30, .inr rfl, by rw [List.length_map]; omega, fun e he => ?_, by omega, ?_⟩
      · obtain ⟨x, hx, rfl⟩ := List.mem_map.mp he
        obtain ⟨c, es, hc, rfl, hl, _⟩ := rowK_row (hrkc x hx)
        obtain ⟨x1, rfl⟩ : ∃ x1, es = [x1] := by
          match es, hl with
          | [x1], _ => exact ⟨x1, rfl⟩
        exact ⟨(hrc _ hx).tup.2 x1 (by simp), fcs _ hx⟩
      refine ⟨_, rfl, ?_⟩
      by_cases k6 : (rc.map sndD).all kdB = true
      · rw [if_pos k6] at q
        rw [k6, if_neg (by simp)]
        exact q
      · rw [if_neg k6] at q
        rw [Bool.eq_false_iff.mpr k6, if_pos (by rfl)]
        exact q
    · rw [decide_eq_false (show ¬ ((es.length : Nat) : Int) = 4 by omega)]
      rw [bad (fun a b c e z => h4 (by cases z; rfl))] at q
      first | exact q | (rw [if_pos (by rfl)]; exact q)
end K01
/-! what is no part, no shelf, refused. -/
namespace K01
open PySem PySem.Spec PyProof.Rows L2 L3
variable {P : Program} {w : World} {K : PySem.W.Frag} {mg : Str → Option Value} {base : Heap}
local macro_rules | `(tactic| walk_at "rns") => `(tactic| simp only [ ySeq, yRet, yE, yA, yS, yIfS, yAsg, yRaise, yRaiseI, yDrop, yFor, yCall, yMake, yMeth, yIf, yCons, yTup, yOp, aIfT, lcStep, aLenSet, aOrI, aRet, aRetN, aDrop, aIfS, aSeq, aNext, aAsg, gNm, gTupD, gConsD, gNilD, aFor, ex_var0, ex_varS, aC, aOp, aCall, aCons, aNil, aTup, aLst, aB, aAnd, aOr, aNot, aAndV, aOrV, aNotV, aIf, aNeg, aChain, aKix, aKGet1, aKGet2, aDGet1, aDGet2, aNoPart, aPart, aSl, aList, aTupI, aStrI, aZipS, aYes, aLc, aNever, aBreak, aCont, forGo, lcGo,
  isi_str_str, isi_str_int, isi_str_bool, isi_str_tuple, isi_str_list, isi_int_str, isi_int_int, isi_int_bool, isi_int_tuple, isi_int_list, isi_bl_str, isi_bl_int, isi_bl_bool, isi_bl_tuple, isi_bl_list, isi_non_str, isi_non_int, isi_non_bool, isi_non_tuple, isi_non_list, isi_tup_str, isi_tup_int, isi_tup_bool, isi_tup_tuple, isi_tup_list, isi_lst_str, isi_lst_int, isi_lst_bool, isi_lst_tuple, isi_lst_list, isi_dct_str, isi_dct_int, isi_dct_bool, isi_dct_tuple, isi_dct_list, isi2_str, isi2_int, isi2_bl, isi2_non, isi2_tup, isi2_lst, isi2_dct, Option.getD_some, Option.getD_none, D.isNon, sz_0, sz_1, sz_2, sz_3, sz_4, sz_5, sz_6, sz_7, sz_8, sz_9, sz_10, sz_11, sz_12, sz_13, sz_14, sz_15, sz_16, sg_len, ex_in_sg, ex_len_str, ex_len_tup, ex_len_lst, ex_eq_str, ex_ne_str, ex_eq_int, ex_ne_int, ex_eq_ns, ex_eq_sn, ex_eq_nn, ex_ne_ns, ex_ne_sn, ex_ne_nn, ex_I, ex_add_int, ex_add_str, ex_add_tup, ex_add_lst, ex_sub, ex_mul, ex_mod, ex_div, ex_isN, ex_notN, ex_ix_tup, ex_ix_lst, ex_sl_tup, ex_sl_lst, ex_sl_str, ex_tuple_lst,
  ofs_inj, String.reduceEq, atI_0, atI_1, atI_2, atI_3, cut_1, cut_13, startD, wipeD, List.map_cons, List.map_nil, List.length_cons, List.length_nil, List.cons_append, List.nil_append, List.replicate_succ, List.replicate_zero, List.set_cons_zero, List.set_cons_succ, Nat.reduceAdd, Nat.reduceSub, Nat.sub_self,
  D.bl.injEq, D.int.injEq, D.str.injEq, D.tup.injEq, D.lst.injEq, D.dct.injEq, Option.some.injEq, List.cons.injEq, and_assoc, Int.cast_ofNat_Int, Int.reduceAdd, Int.reduceSub, Int.reduceMul, Int.reduceNeg, Int.reduceEq, Int.reduceLT, Int.reduceLE, Int.reduceNe, eq_self, exists_eq_left, exists_eq_left', exists_eq_right, exists_eq, exists_const, exists_false, false_and, and_false, false_or, or_false, true_and, and_true, if_true, if_false, Bool.false_eq_true, Bool.not_true, Bool.not_false, ite_true, ite_false, reduceCtorEq, decide_true, decide_false, decide_eq_true_eq, exists_and_left, Bool.not_eq_true])

def sp_need_partB : SpY := fun ds m Q xq => ∃ d, ds = [d] ∧ PartP d ∧ (whyD d = "" ∧ Q .non m ∨ whyD d ≠ "" ∧ ∀ m', Sub m m' → xq "BadPart" (some ("why", .str (whyD d))) m')
theorem FY_need_partB (T : Txt K w mg) : FnY P w K mg base "need_part" 20 sp_need_partB := by
  have nd := sc_need_part.nd
  refine fny_of T.d_need_part sc_need_part (fun ds m Q xq ⟨_, e, _⟩ => by rw [e]; rfl) fun f cdv A outer s H E hr => ⟨_, (assy_cons (asy_of (as_asg (ae_call ((F_why_noneP T).mono (by omega)) hr (aa_cons (ae_var 0) aa_nil)) (ag_name 1 nd)))
      (assy_one (asy_if (at_cmp (or_ne hr.units) (ae_var 1) ae_str (nomark _)) (assy_one (asy_raiseI (X_BadPart T) (hr.mono (by omega)) rfl (ae_var 1))) (assy_of ass_nil)))), ?_⟩
  rintro _ m Q xq ⟨d, rfl, hp, q⟩
  walk_at "rns"
  refine ⟨d, rfl, hp, ?_⟩
  show rhoNe (.str _) (.str _) _ _
  rw [ex_ne_str]
  rcases q with ⟨h, q⟩ | ⟨h, q⟩
  · exact ⟨false, by rw [decide_eq_true h]; rfl, by rw [if_neg (by simp)]; exact Fz.now q⟩
  · exact ⟨true, by rw [decide_eq_false h]; rfl, by rw [if_pos rfl]; exact ⟨m, Sub.refl m, q _ (Sub.refl m)⟩⟩
theorem put_nodupA : ∀ (xs l : List Str), (putAllS xs l).length = xs.length + l.length → xs.Nodup ∧ ∀ x ∈ xs, x ∉ l
  | [], l, _ => ⟨List.nodup_nil, fun _ h => nomatch h⟩
  | x :: xs, l, h => by
    have h : (putAllS xs (if x ∈ l then l else x :: l)).length = xs.length + 1 + l.length := h
    by_cases hx : x ∈ l
    · rw [if_pos hx] at h
      have := putAllS_len xs l
      omega
    · rw [if_neg hx] at h
      obtain ⟨h1, h2⟩ := put_nodupA xs (x :: l) (by rw [h, List.length_cons]; omega)
      refine ⟨List.nodup_cons.mpr ⟨fun z => h2 x z List.mem_cons_self, h1⟩, fun y hy => ?_⟩
      rcases List.mem_cons.mp hy with rfl | hy
      · exact hx
      · exact fun z => h2 y hy (List.mem_cons_of_mem _ z)
theorem put_nodup {cs : List Nat} (h : (putAllS (cs.map sg) []).length = cs.length) : cs.Nodup := by
  have := (put_nodupA (cs.map sg) [] (by rw [h]; simp)).1
  rw [List.nodup_iff_pairwise_ne] at this ⊢
  exact (List.pairwise_map.mp this).imp fun h e => h (congrArg sg e)
/-- the shelf is refused -/
def RefS (sh : D) (n : Str) (fo : Fo) : Prop := (∃ pre d post, sh = .lst (pre ++ d :: post) ∧ (∀ x ∈ pre, PartP x ∧ whyD x = "") ∧ PartP d ∧ whyD d ≠ "" ∧ n = "BadPart" ∧ fo = some (("why" : Str), D.str (whyD d))) ∨
  ∃ ps : List Part, sh = .lst (ps.map Part.enc) ∧ (∀ p ∈ ps, p.ok) ∧ ps.length ≤ 20 ∧ (6 < ps.length ∨ ¬ (ps.map (·.nm)).Nodup) ∧ n = "BadShelf" ∧ fo = none
def sp_need_shelfB : SpY := fun ds m Q xq => ∃ sh, ds = [sh] ∧ ((∃ n fo, RefS sh n fo ∧ ∀ m', Sub m m' → xq n fo m') ∨ ∃ ps : List Part, sh = .lst (ps.map Part.enc) ∧ ShOk ps ∧ Q .non m)
theorem FY_need_shelfB (T : Txt K w mg) : FnY P w K mg base "need_shelf" 21 sp_need_shelfB := by
  have nd := sc_need_shelf.nd
  refine fny_of T.d_need_shelf sc_need_shelf (fun ds m Q xq ⟨_, e, _⟩ => by rw [e]; rfl) fun f cdv A outer s H E hr => ⟨_, (assy_cons (asy_for passX rfl (ai_list (ae_var 0)) (ag_name 1 nd)
      (assy_one (asy_expr (aey_call ((FY_need_partB T).mono (by omega)) hr (aa_cons (ae_var 1) aa_nil)))))
      (assy_cons (asy_of (as_setLc (i := 2) (own := [("part", 1)]) rfl nd rfl rfl (sw_true rfl rfl rfl (by decide +kernel)) (ai_list (ae_var 0)) (blkOk_by (own := [("part", 1)]) (by kernel_rfl)) (gg_name (i := 1) (by simp)) (fun _ _ _ _ _ => (pg_name (i := 1) nd rfl (Or.inl rfl))) (fun _ _ _ _ _ => ats_nil) (fun _ _ _ _ _ => (ae_ix hr.u1 (ae_var 1) ae_int))))
      (assy_one (asy_if (AW.t (aw_or (at_cmp or_gt (ae_callB cr_len T.b_len boot_len (aa_cons (ae_var 0) aa_nil)) (ae_glo T.c_MOST_PARTS) (nomark _)) (aw_or1 (at_cmp (or_ne hr.units) (ae_lenset T.b_len T.b_set (ae_var 2)) (ae_callB cr_len T.b_len boot_len (aa_cons (ae_var 2) aa_nil)) (nomark _))))) (assy_one (asy_raise (n := "BadShelf") T.x_BadShelf rfl)) (assy_of ass_nil))))), ?_⟩
  rintro _ m Q xq ⟨sh, rfl, q⟩
  rcases q with ⟨n, fo, h | h, q⟩ | h
  · obtain ⟨pre, d, post, rfl, hpre, hd, hw, rfl, rfl⟩ := h
    walk_at "rns"
    refine fory_inv (fun rest δ m' => m' = m ∧ (∃ pre2, rest = pre2 ++ d :: post ∧ ∀ x ∈ pre2, x ∈ pre) ∧ ∃ o1, δ = [some (.lst (pre ++ d :: post)), o1, none]) ?_ ?_ ⟨rfl, ⟨pre, rfl, fun x h => h⟩, _, rfl⟩
    · rintro y rest δ _ ⟨rfl, ⟨pre2, e, hin⟩, o1, rfl⟩ nx hnx
      cases pre2 with
      | nil =>
        injection e with e1 e2
        subst e1
        walk_at "rns"
        exact ⟨y, rfl, hd, .inr ⟨hw, fun m' s => ⟨m', Sub.refl m', q m' s⟩⟩⟩
      | cons x pre2 =>
        injection e with e1 e2
        subst e1
        obtain ⟨h1, h2⟩ := hpre y (hin y List.mem_cons_self)
        walk_at "rns"
        exact ⟨y, rfl, h1, .inl ⟨h2, hnx _ _ ⟨rfl, ⟨pre2, e2, fun z hz => hin z (List.mem_cons_of_mem _ hz)⟩, _, rfl⟩⟩⟩
    · rintro δ _ ⟨_, ⟨pre2, e, _⟩, _⟩
      cases pre2 <;> cases e
  · obtain ⟨ps, rfl, hok, h20, hbad, rfl, rfl⟩ := h
    walk_at "rns"
    refine fory_inv (fun rest δ m' => m' = m ∧ (∃ qs : List Part, rest = qs.map Part.enc ∧ ∀ p ∈ qs, p ∈ ps) ∧ ∃ o1, δ = [some (.lst (ps.map Part.enc)), o1, none]) ?_ ?_ ⟨rfl, ⟨ps, rfl, fun x h => h⟩, _, rfl⟩
    · rintro y rest δ _ ⟨rfl, ⟨qs, e, hin⟩, o1, rfl⟩ nx hnx
      cases qs with
      | nil => cases e
      | cons p qs =>
        rw [List.map_cons] at e
        injection e with e1 e2
        subst e1
        have pk := hok p (hin p List.mem_cons_self)
        walk_at "rns"
        exact ⟨p.enc, rfl, part_ok pk, .inl ⟨why_good pk, hnx _ _ ⟨rfl, ⟨qs, e2, fun z hz => hin z (List.mem_cons_of_mem _ hz)⟩, _, rfl⟩⟩⟩
    · rintro δ m1 ⟨rfl, _, o1, rfl⟩
      walk_at "rns"
      refine ⟨szl (by simp; omega), lc_pure hdD (fun d hd R q => ?_) ?_⟩
      · obtain ⟨p, _, rfl⟩ := List.mem_map.mp hd
        simp only [Part.enc, hdD] at q ⊢
        walk_at "rns"
        exact q
      rw [names_map, List.nil_append]
      walk_at "rns"
      by_cases h6 : 6 < ps.length
      · rw [if_pos (show (6 : Int) < ((ps.map Part.enc).length : Nat) by rw [List.length_map]; omega)]
        exact ⟨m1, Sub.refl m1, q _ (Sub.refl m1)⟩
      · rw [if_neg (show ¬ ((6 : Int) < ((ps.map Part.enc).length : Nat)) by rw [List.length_map]; omega)]
        have hnd : ¬ (ps.map (·.nm)).Nodup := hbad.resolve_left h6
        refine ⟨(ps.map (·.nm)).map sg, rfl, by simp; omega, ?_⟩
        rw [strD_len, decide_eq_false (show ¬ (((putAllS ((ps.map (·.nm)).map sg) []).length : Nat) : Int) = ((ps.map (·.nm)).length : Nat) from fun e => hnd (put_nodup (by omega)))]
        exact ⟨m1, Sub.refl m1, q _ (Sub.refl m1)⟩
  · obtain ⟨ps, rfl, h, q⟩ := h
    have h6 := h.six
    walk_at "rns"
    refine fory_inv (fun rest δ m' => m' = m ∧ (∃ qs : List Part, rest = qs.map Part.enc ∧ ∀ p ∈ qs, p ∈ ps) ∧ ∃ o1, δ = [some (.lst (ps.map Part.enc)), o1, none]) ?_ ?_ ⟨rfl, ⟨ps, rfl, fun x h => h⟩, _, rfl⟩
    · rintro y rest δ _ ⟨rfl, ⟨qs, e, hin⟩, o1, rfl⟩ nx hnx
      cases qs with
      | nil => cases e
      | cons p qs =>
        rw [List.map_cons] at e
        injection e with e1 e2
        subst e1
        have pk := h.ok p (hin p List.mem_cons_self)
        walk_at "rns"
        exact ⟨p.enc, rfl, part_ok pk, .inl ⟨why_good pk, hnx _ _ ⟨rfl, ⟨qs, e2, fun z hz => hin z (List.mem_cons_of_mem _ hz)⟩, _, rfl⟩⟩⟩
    · rintro δ m1 ⟨rfl, _, o1, rfl⟩
      walk_at "rns"
      refine ⟨szl (by simp; omega), lc_pure hdD (fun d hd R q => ?_) ?_⟩
      · obtain ⟨p, _, rfl⟩ := List.mem_map.mp hd
        simp only [Part.enc, hdD] at q ⊢
        walk_at "rns"
        exact q
      rw [names_map, List.nil_append]
      walk_at "rns"
      rw [if_neg (show ¬ ((6 : Int) < ((ps.map Part.enc).length : Nat)) by rw [List.length_map]; omega)]
      refine ⟨(ps.map (·.nm)).map sg, rfl, by simp; omega, ?_⟩
      rw [len_put h.nd, strD_len, decide_eq_true rfl]
      exact Fz.now q
/-! ### handed a part alone -/
def sp_rightB : SpY := fun ds m Q xq => ∃ d, ds = [d] ∧ ((PartP d ∧ whyD d ≠ "" ∧ ∀ m', Sub m m' → xq "BadPart" (some ("why", .str (whyD d))) m') ∨ ∃ p : Part, d = p.enc ∧ p.ok ∧ ∀ e m', Sub m m' → Q e m')
theorem FY_rightB (T : Txt K w mg) : FnY P w K mg base "right" 21 sp_rightB := by
  have nd := sc_right.nd
  refine fny_of T.d_right sc_right (fun ds m Q xq ⟨_, e, _⟩ => by rw [e]; rfl) fun f cdv A outer s H E hr => ⟨_, (assy_cons (asy_expr (aey_call ((FY_need_partB T).mono (by omega)) hr (aa_cons (ae_var 0) aa_nil)))
      (assy_of (ass_one (as_ret (ae_call ((F_wrong_deed T).mono (by omega)) hr (aa_cons (ae_var 0) aa_nil)))))), ?_⟩
  rintro _ m Q xq ⟨d, rfl, ⟨h1, h2, q⟩ | ⟨p, rfl, ok, q⟩⟩
  · walk_at "rns"
    exact ⟨d, rfl, h1, .inr ⟨h2, fun m' s => ⟨m', Sub.refl m', q m' s⟩⟩⟩
  · walk_at "rns"
    exact ⟨p.enc, rfl, part_ok ok, .inl ⟨why_good ok, p, rfl, ok, Fz.now (q _ _ (Sub.refl m))⟩⟩
def sp_writtenB : SpY := fun ds m Q xq => ∃ d, ds = [d] ∧ PartP d ∧ whyD d ≠ "" ∧ ∀ m', Sub m m' → xq "BadPart" (some ("why", .str (whyD d))) m'
theorem FY_writtenB (T : Txt K w mg) : FnY P w K mg base "written" 21 sp_writtenB := by
  have nd := sc_written.nd
  refine fny_of T.d_written sc_written (fun ds m Q xq ⟨_, e, _⟩ => by rw [e]; rfl) fun f cdv A outer s H E hr => ⟨_, (assy_cons (asy_expr (aey_call ((FY_need_partB T).mono (by omega)) hr (aa_cons (ae_var 0) aa_nil)))
      (assy_of ass_never)), ?_⟩
  rintro _ m Q xq ⟨d, rfl, h1, h2, q⟩
  walk_at "rns"
  exact ⟨d, rfl, h1, .inr ⟨h2, fun m' s => ⟨m', Sub.refl m', q m' s⟩⟩⟩
def sp_read_treeB : SpY := fun ds m Q xq => ∃ sh x n fo, ds = [sh, x] ∧ RefS sh n fo ∧ ∀ m', Sub m m' → xq n fo m'
theorem FY_read_treeB (T : Txt K w mg) : FnY P w K mg base "read_tree" 22 sp_read_treeB := by
  have nd := sc_read_tree.nd
  refine fny_of T.d_read_tree sc_read_tree (fun ds m Q xq ⟨_, _, _, _, e, _⟩ => by rw [e]; rfl) fun f cdv A outer s H E hr => ⟨_, (assy_cons (asy_expr (aey_call ((FY_need_shelfB T).mono (by omega)) hr (aa_cons (ae_var 0) aa_nil)))
      (assy_of ass_never)), ?_⟩
  rintro _ m Q xq ⟨sh, x, n, fo, rfl, h, q⟩
  walk_at "rns"
  exact ⟨sh, rfl, .inl ⟨n, fo, h, fun m' s => ⟨m', Sub.refl m', q m' s⟩⟩⟩
end K01
/-! what is no shelf, no tree, refused. -/
namespace K01
open PySem PySem.Spec PyProof.Rows L2 L3
variable {P : Program} {w : World} {K : PySem.W.Frag} {mg : Str → Option Value} {base : Heap}
local macro_rules | `(tactic| walk_at "rnt") => `(tactic| simp only [ ySeq, yRet, yE, yA, yS, yIfS, yAsg, yRaise, yDrop, yFor, yCall, yMake, yMeth, yIf, yCons, yTup, yOp, aIfT, lcStep, aLenSet, aOrI, aRet, aRetN, aDrop, aIfS, aSeq, aNext, aAsg, gNm, gTupD, gConsD, gNilD, aFor, ex_var0, ex_varS, aC, aOp, aCall, aCons, aNil, aTup, aLst, aB, aAnd, aOr, aNot, aAndV, aOrV, aNotV, aIf, aNeg, aChain, aKix, aKGet1, aKGet2, aDGet1, aDGet2, aNoPart, aPart, aSl, aList, aTupI, aStrI, aZipS, aYes, aLc, aNever, aBreak, aCont, forGo, lcGo,
  isi_str_str, isi_str_int, isi_str_bool, isi_str_tuple, isi_str_list, isi_int_str, isi_int_int, isi_int_bool, isi_int_tuple, isi_int_list, isi_bl_str, isi_bl_int, isi_bl_bool, isi_bl_tuple, isi_bl_list, isi_non_str, isi_non_int, isi_non_bool, isi_non_tuple, isi_non_list, isi_tup_str, isi_tup_int, isi_tup_bool, isi_tup_tuple, isi_tup_list, isi_lst_str, isi_lst_int, isi_lst_bool, isi_lst_tuple, isi_lst_list, isi_dct_str, isi_dct_int, isi_dct_bool, isi_dct_tuple, isi_dct_list, isi2_str, isi2_int, isi2_bl, isi2_non, isi2_tup, isi2_lst, isi2_dct, Option.getD_some, Option.getD_none, D.isNon, sz_0, sz_1, sz_2, sz_3, sz_4, sz_5, sz_6, sz_7, sz_8, sz_9, sz_10, sz_11, sz_12, sz_13, sz_14, sz_15, sz_16, sg_len, ex_in_sg, ex_len_str, ex_len_tup, ex_len_lst, ex_eq_str, ex_ne_str, ex_eq_int, ex_ne_int, ex_eq_ns, ex_eq_sn, ex_eq_nn, ex_ne_ns, ex_ne_sn, ex_ne_nn, ex_I, ex_add_int, ex_add_str, ex_add_tup, ex_add_lst, ex_sub, ex_mul, ex_mod, ex_div, ex_isN, ex_notN, ex_ix_tup, ex_ix_lst, ex_sl_tup, ex_sl_lst, ex_sl_str, ex_tuple_lst,
  ofs_inj, String.reduceEq, atI_0, atI_1, atI_2, atI_3, cut_1, cut_13, startD, wipeD, List.map_cons, List.map_nil, List.length_cons, List.length_nil, List.cons_append, List.nil_append, List.replicate_succ, List.replicate_zero, List.set_cons_zero, List.set_cons_succ, Nat.reduceAdd, Nat.reduceSub, Nat.sub_self,
  D.bl.injEq, D.int.injEq, D.str.injEq, D.tup.injEq, D.lst.injEq, D.dct.injEq, Option.some.injEq, List.cons.injEq, and_assoc, Int.cast_ofNat_Int, Int.reduceAdd, Int.reduceSub, Int.reduceMul, Int.reduceNeg, Int.reduceEq, Int.reduceLT, Int.reduceLE, Int.reduceNe, eq_self, exists_eq_left, exists_eq_left', exists_eq_right, exists_eq, exists_const, exists_false, false_and, and_false, false_or, or_false, true_and, and_true, if_true, if_false, Bool.false_eq_true, Bool.not_true, Bool.not_false, ite_true, ite_false, reduceCtorEq, decide_true, decide_false, decide_eq_true_eq, exists_and_left, Bool.not_eq_true])

/-- what is handed in, how many trees are counted -/
structure Han (sh tree : D) (ps : List Part) : Prop where
  sh : sh = .lst (ps.map Part.enc)
  ok : ShOk ps
  pl : ∃ r, Pln r tree ∧ r ≤ 60
def Ref (sh tree : D) (n : Str) (fo : Fo) : Prop := RefS sh n fo ∨ n = "BadTree" ∧ fo = none ∧ ∃ ps, Han sh tree ps ∧ 40 < tnD (ps.map (·.nm)) 10 tree
def Goo (sh tree : D) : Prop := ∃ ps, Han sh tree ps ∧ tnD (ps.map (·.nm)) 10 tree ≤ 40
def sp_need_treeB : SpY := fun ds m Q xq => ∃ sh tree, ds = [sh, tree] ∧ ((∃ n fo, Ref sh tree n fo ∧ ∀ m', Sub m m' → xq n fo m') ∨ Goo sh tree ∧ Q .non m)
theorem FY_need_treeB (T : Txt K w mg) : FnY P w K mg base "need_tree" 22 sp_need_treeB := by
  have nd := sc_need_tree.nd
  refine fny_of T.d_need_tree sc_need_tree (fun ds m Q xq ⟨_, _, e, _⟩ => by rw [e]; rfl) fun f cdv A outer s H E hr => ⟨_, (assy_cons (asy_expr (aey_call ((FY_need_shelfB T).mono (by omega)) hr (aa_cons (ae_var 0) aa_nil)))
      (assy_one (asy_if (at_cmp or_gt (ae_call ((F_trees_inB T 11).mono (by omega)) hr (aa_cons (ae_var 1) (aa_cons (ae_lc (own := [("part", 2)]) rfl nd (ai_list (ae_var 0)) (blkOk_by (own := [("part", 2)]) (by kernel_rfl)) (gg_name (i := 2) (by simp)) (fun _ _ _ _ _ => (pg_name (i := 2) nd rfl (Or.inl rfl))) (fun _ _ _ _ _ => ats_nil) (fun _ _ _ _ _ => (ae_ix hr.u1 (ae_var 2) ae_int))) (aa_cons ae_int aa_nil)))) (ae_glo T.c_MOST_TREES) (nomark _)) (assy_one (asy_raise (n := "BadTree") T.x_BadTree rfl)) (assy_of ass_nil)))), ?_⟩
  rintro _ m Q xq ⟨sh, tree, rfl, h⟩
  rcases h with ⟨n, fo, h | ⟨rfl, rfl, ps, g, l⟩, q⟩ | ⟨⟨ps, g, l⟩, q⟩
  · walk_at "rnt"
    exact ⟨sh, rfl, .inl ⟨n, fo, h, fun m' s => ⟨m', Sub.refl m', q m' s⟩⟩⟩
  all_goals
    obtain ⟨rfl, ok, r, hp, h60⟩ := g
    have h6 := ok.six
    walk_at "rnt"
    refine ⟨_, rfl, .inr ⟨ps, rfl, ok, ?_⟩⟩
    try walk_at "rnt"
    refine ⟨szl (by simp; omega), lc_pure hdD (fun d hd R q => ?_) ?_⟩
    · obtain ⟨p, _, rfl⟩ := List.mem_map.mp hd
      simp only [Part.enc, hdD] at q ⊢
      walk_at "rnt"
      exact q
    rw [names_map, List.nil_append]
    try walk_at "rnt"
    refine ⟨tree, r, ps.map (·.nm), 0, 10, rfl, hp, h60, fun n hn => ?_, by omega, by omega, ?_⟩
    · obtain ⟨p, hp, rfl⟩ := List.mem_map.mp hn
      exact partC.lt (ok.ok p hp).nm
    simp only [ex_I]
  · rw [decide_eq_true (by omega)]
    exact ⟨true, rfl, by rw [if_pos rfl]; exact ⟨m, Sub.refl m, q _ (Sub.refl m)⟩⟩
  · rw [decide_eq_false (by omega)]
    exact ⟨false, rfl, by simpa using Fz.now q⟩
end K01
/-! all that is handed a shelf and a tree, refused. -/
namespace K01
open PySem PySem.Spec PyProof.Rows L2 L3
variable {P : Program} {w : World} {K : PySem.W.Frag} {mg : Str → Option Value} {base : Heap}
local macro_rules | `(tactic| walk_at "rap") => `(tactic| simp only [ ySeq, yRet, yE, yA, yS, yIfS, yAsg, yRaise, yDrop, yFor, yCall, yMake, yMeth, yIf, yCons, yTup, yOp, aRet, aRetN, aDrop, aIfS, aSeq, aNext, aAsg, gNm, gTupD, gConsD, gNilD, aFor, ex_var0, ex_varS, aC, aOp, aCall, aCons, aNil, aTup, aLst, aB, aAnd, aOr, aNot, aAndV, aOrV, aNotV, aIf, aNeg, aChain, aKix, aKGet1, aKGet2, aDGet1, aDGet2, aNoPart, aPart, aSl, aList, aTupI, aStrI, aZipS, aYes, aLc, aNever, aBreak, aCont, forGo, lcGo,
  isi_str_str, isi_str_int, isi_str_bool, isi_str_tuple, isi_str_list, isi_int_str, isi_int_int, isi_int_bool, isi_int_tuple, isi_int_list, isi_bl_str, isi_bl_int, isi_bl_bool, isi_bl_tuple, isi_bl_list, isi_non_str, isi_non_int, isi_non_bool, isi_non_tuple, isi_non_list, isi_tup_str, isi_tup_int, isi_tup_bool, isi_tup_tuple, isi_tup_list, isi_lst_str, isi_lst_int, isi_lst_bool, isi_lst_tuple, isi_lst_list, isi_dct_str, isi_dct_int, isi_dct_bool, isi_dct_tuple, isi_dct_list, isi2_str, isi2_int, isi2_bl, isi2_non, isi2_tup, isi2_lst, isi2_dct, Option.getD_some, Option.getD_none, D.isNon, sz_0, sz_1, sz_2, sz_3, sz_4, sz_5, sz_6, sz_7, sz_8, sz_9, sz_10, sz_11, sz_12, sz_13, sz_14, sz_15, sz_16, sg_len, ex_in_sg, ex_len_str, ex_len_tup, ex_len_lst, ex_eq_str, ex_ne_str, ex_eq_int, ex_ne_int, ex_eq_ns, ex_eq_sn, ex_eq_nn, ex_ne_ns, ex_ne_sn, ex_ne_nn, ex_I, ex_add_int, ex_add_str, ex_add_tup, ex_add_lst, ex_sub, ex_mul, ex_mod, ex_div, ex_isN, ex_notN, ex_ix_tup, ex_ix_lst, ex_sl_tup, ex_sl_lst, ex_sl_str, ex_tuple_lst,
  ofs_inj, String.reduceEq, atI_0, atI_1, atI_2, atI_3, cut_1, cut_13, startD, wipeD, List.map_cons, List.map_nil, List.length_cons, List.length_nil, List.cons_append, List.nil_append, List.replicate_succ, List.replicate_zero, List.set_cons_zero, List.set_cons_succ, Nat.reduceAdd, Nat.reduceSub, Nat.sub_self,
  D.bl.injEq, D.int.injEq, D.str.injEq, D.tup.injEq, D.lst.injEq, D.dct.injEq, Option.some.injEq, List.cons.injEq, and_assoc, Int.cast_ofNat_Int, Int.reduceAdd, Int.reduceSub, Int.reduceMul, Int.reduceNeg, Int.reduceEq, Int.reduceLT, Int.reduceLE, Int.reduceNe, eq_self, exists_eq_left, exists_eq_left', exists_eq_right, exists_eq, exists_const, exists_false, false_and, and_false, false_or, or_false, true_and, and_true, if_true, if_false, Bool.false_eq_true, Bool.not_true, Bool.not_false, ite_true, ite_false, reduceCtorEq, decide_true, decide_false, decide_eq_true_eq, exists_and_left, Bool.not_eq_true])

/-- refused with the shelf, the tree, and so many things more -/
def sp_ref (k : Nat) : SpY := fun ds m Q xq => ∃ sh tree r n fo, ds = sh :: tree :: r ∧ r.length = k ∧ Ref sh tree n fo ∧ ∀ m', Sub m m' → xq n fo m'
theorem yz_ref {xq : Yw} {δ : Dt} {n : Str} {fo : Fo} {m : Mu} (q : ∀ m', Sub m m' → xq n fo m') : ∀ m', Sub m m' → Yz xq δ n fo m' := fun m' s => ⟨m', Sub.refl m', q m' s⟩
theorem FY_formsB (T : Txt K w mg) : FnY P w K mg base "forms" 23 (sp_ref 0) := by
  have nd := sc_forms.nd
  refine fny_of T.d_forms sc_forms (fun ds m Q xq ⟨_, _, r, _, _, e, l, _⟩ => by rw [e]; simp [l]) fun f cdv A outer s H E hr => ⟨_, (assy_cons (asy_expr (aey_call ((FY_need_treeB T).mono (by omega)) hr (aa_cons (ae_var 0) (aa_cons (ae_var 1) aa_nil))))
      (assy_of ass_never)), ?_⟩
  rintro _ m Q xq ⟨sh, tree, r, n, fo, rfl, hl, h, q⟩
  obtain rfl := List.length_eq_zero_iff.mp hl
  walk_at "rap"
  exact ⟨sh, tree, rfl, .inl ⟨n, fo, h, yz_ref q⟩⟩
theorem FY_wantingB (T : Txt K w mg) : FnY P w K mg base "wanting" 23 (sp_ref 0) := by
  have nd := sc_wanting.nd
  refine fny_of T.d_wanting sc_wanting (fun ds m Q xq ⟨_, _, r, _, _, e, l, _⟩ => by rw [e]; simp [l]) fun f cdv A outer s H E hr => ⟨_, (assy_cons (asy_expr (aey_call ((FY_need_treeB T).mono (by omega)) hr (aa_cons (ae_var 0) (aa_cons (ae_var 1) aa_nil))))
      (assy_of ass_never)), ?_⟩
  rintro _ m Q xq ⟨sh, tree, r, n, fo, rfl, hl, h, q⟩
  obtain rfl := List.length_eq_zero_iff.mp hl
  walk_at "rap"
  exact ⟨sh, tree, rfl, .inl ⟨n, fo, h, yz_ref q⟩⟩
theorem FY_flatB (T : Txt K w mg) : FnY P w K mg base "flat" 23 (sp_ref 1) := by
  have nd := sc_flat.nd
  refine fny_of T.d_flat sc_flat (fun ds m Q xq ⟨_, _, r, _, _, e, l, _⟩ => by rw [e]; simp [l]) fun f cdv A outer s H E hr => ⟨_, (assy_cons (asy_expr (aey_call ((FY_need_treeB T).mono (by omega)) hr (aa_cons (ae_var 0) (aa_cons (ae_var 1) aa_nil))))
      (assy_of ass_never)), ?_⟩
  rintro _ m Q xq ⟨sh, tree, r, n, fo, rfl, hl, h, q⟩
  obtain ⟨a, rfl⟩ := List.length_eq_one_iff.mp hl
  walk_at "rap"
  exact ⟨sh, tree, rfl, .inl ⟨n, fo, h, yz_ref q⟩⟩
theorem FY_triedB (T : Txt K w mg) : FnY P w K mg base "tried" 23 (sp_ref 2) := by
  have nd := sc_tried.nd
  refine fny_of T.d_tried sc_tried (fun ds m Q xq ⟨_, _, r, _, _, e, l, _⟩ => by rw [e]; simp [l]) fun f cdv A outer s H E hr => ⟨_, (assy_cons (asy_expr (aey_call ((FY_need_treeB T).mono (by omega)) hr (aa_cons (ae_var 0) (aa_cons (ae_var 1) aa_nil))))
      (assy_of ass_never)), ?_⟩
  rintro _ m Q xq ⟨sh, tree, r, n, fo, rfl, hl, h, q⟩
  obtain ⟨a, b, rfl⟩ : ∃ a b, r = [a, b] := by
    match r, hl with
    | [a, b], _ => exact ⟨a, b, rfl⟩
  walk_at "rap"
  exact ⟨sh, tree, rfl, .inl ⟨n, fo, h, yz_ref q⟩⟩
theorem FY_giversB (T : Txt K w mg) : FnY P w K mg base "givers" 23 (sp_ref 0) := by
  have nd := sc_givers.nd
  refine fny_of T.d_givers sc_givers (fun ds m Q xq ⟨_, _, r, _, _, e, l, _⟩ => by rw [e]; simp [l]) fun f cdv A outer s H E hr => ⟨_, (assy_cons (asy_expr (aey_call ((FY_need_treeB T).mono (by omega)) hr (aa_cons (ae_var 0) (aa_cons (ae_var 1) aa_nil))))
      (assy_of ass_never)), ?_⟩
  rintro _ m Q xq ⟨sh, tree, r, n, fo, rfl, hl, h, q⟩
  obtain rfl := List.length_eq_zero_iff.mp hl
  walk_at "rap"
  exact ⟨sh, tree, rfl, .inl ⟨n, fo, h, yz_ref q⟩⟩
theorem FY_written_treeB (T : Txt K w mg) : FnY P w K mg base "written_tree" 23 (sp_ref 0) := by
  have nd := sc_written_tree.nd
  refine fny_of T.d_written_tree sc_written_tree (fun ds m Q xq ⟨_, _, r, _, _, e, l, _⟩ => by rw [e]; simp [l]) fun f cdv A outer s H E hr => ⟨_, (assy_cons (asy_expr (aey_call ((FY_need_treeB T).mono (by omega)) hr (aa_cons (ae_var 0) (aa_cons (ae_var 1) aa_nil))))
      (assy_of ass_never)), ?_⟩
  rintro _ m Q xq ⟨sh, tree, r, n, fo, rfl, hl, h, q⟩
  obtain rfl := List.length_eq_zero_iff.mp hl
  walk_at "rap"
  exact ⟨sh, tree, rfl, .inl ⟨n, fo, h, yz_ref q⟩⟩
/-- two trees: the first is refused, or it is good and the second is refused -/
def sp_ref2 : SpY := fun ds m Q xq => ∃ sh a b n fo, ds = [sh, a, b] ∧ (Ref sh a n fo ∨ Goo sh a ∧ Ref sh b n fo) ∧ ∀ m', Sub m m' → xq n fo m'
theorem FY_partedB (T : Txt K w mg) : FnY P w K mg base "parted" 23 sp_ref2 := by
  have nd := sc_parted.nd
  refine fny_of T.d_parted sc_parted (fun ds m Q xq ⟨_, _, _, _, _, e, _⟩ => by rw [e]; rfl) fun f cdv A outer s H E hr => ⟨_, (assy_cons (asy_expr (aey_call ((FY_need_treeB T).mono (by omega)) hr (aa_cons (ae_var 0) (aa_cons (ae_var 1) aa_nil))))
      (assy_cons (asy_expr (aey_call ((FY_need_treeB T).mono (by omega)) hr (aa_cons (ae_var 0) (aa_cons (ae_var 2) aa_nil))))
      (assy_of ass_never))), ?_⟩
  rintro _ m Q xq ⟨sh, a, b, n, fo, rfl, h, q⟩
  walk_at "rap"
  rcases h with h | ⟨g, h⟩
  · exact ⟨sh, a, rfl, .inl ⟨n, fo, h, yz_ref q⟩⟩
  · refine ⟨sh, a, rfl, .inr ⟨g, ?_⟩⟩
    exact ⟨sh, b, rfl, .inl ⟨n, fo, h, yz_ref q⟩⟩
theorem FY_alikeB (T : Txt K w mg) : FnY P w K mg base "alike" 24 sp_ref2 := by
  have nd := sc_alike.nd
  refine fny_of T.d_alike sc_alike (fun ds m Q xq ⟨_, _, _, _, _, e, _⟩ => by rw [e]; rfl) fun f cdv A outer s H E hr => ⟨_, (assy_one (asy_ret (aey_cmp or_isN (aey_call ((FY_partedB T).mono (by omega)) hr (aa_cons (ae_var 0) (aa_cons (ae_var 1) (aa_cons (ae_var 2) aa_nil)))) ae_non (nomark _)))), ?_⟩
  rintro _ m Q xq ⟨sh, a, b, n, fo, rfl, h, q⟩
  walk_at "rap"
  exact ⟨sh, a, b, n, fo, rfl, h, yz_ref q⟩
def sp_refI (K : PySem.W.Frag) : SpY := fun ds m Q xq => ∃ x sh tree n fo, ds = [x, sh, tree] ∧ Ref sh tree n fo ∧ ∀ m', Sub m m' → xq n fo m'
theorem FIY_ThingB (T : Txt K w mg) : FnIY P w K mg base (He.ga K "Thing") 23 (sp_refI K) := by
  have nd := sc_Thing_init.nd
  refine fniy_of T.i_Thing sc_Thing_init (fun ds m Q xq ⟨_, _, _, _, _, e, _⟩ => by rw [e]; rfl) fun f cdv A outer s H E hr => ⟨_, (assy_cons (asy_expr (aey_call ((FY_need_treeB T).mono (by omega)) hr (aa_cons (ae_var 1) (aa_cons (ae_var 2) aa_nil))))
      (assy_of ass_never)), ?_⟩
  rintro _ m Q xq ⟨x, sh, tree, n, fo, rfl, h, q⟩
  walk_at "rap"
  exact ⟨sh, tree, rfl, .inl ⟨n, fo, h, yz_ref q⟩⟩
end K01
/-! whether some lambdas tell all the same. -/
namespace K01
open PySem PySem.Spec PyProof.Rows L2 L3
variable {P : Program} {w : World} {K : PySem.W.Frag} {mg : Str → Option Value} {base : Heap}
local macro_rules | `(tactic| walk_at "rar") => `(tactic| simp only [ aKindC, lcStep, aRet, aRetN, aDrop, aIfS, aSeq, aNext, aAsg, gNm, gTupD, gConsD, gNilD, aFor, ex_var0, ex_varS, aC, aOp, aCall, aCons, aNil, aTup, aLst, aB, aAnd, aOr, aNot, aAndV, aOrV, aNotV, aIf, aNeg, aChain, aKix, aKGet1, aKGet2, aDGet1, aDGet2, aNoPart, aPart, aSl, aList, aTupI, aStrI, aZipS, aYes, aLc, aNever, aBreak, aCont, forGo, lcGo,
  isi_str_str, isi_str_int, isi_str_bool, isi_str_tuple, isi_str_list, isi_int_str, isi_int_int, isi_int_bool, isi_int_tuple, isi_int_list, isi_bl_str, isi_bl_int, isi_bl_bool, isi_bl_tuple, isi_bl_list, isi_non_str, isi_non_int, isi_non_bool, isi_non_tuple, isi_non_list, isi_tup_str, isi_tup_int, isi_tup_bool, isi_tup_tuple, isi_tup_list, isi_lst_str, isi_lst_int, isi_lst_bool, isi_lst_tuple, isi_lst_list, isi_dct_str, isi_dct_int, isi_dct_bool, isi_dct_tuple, isi_dct_list, isi2_str, isi2_int, isi2_bl, isi2_non, isi2_tup, isi2_lst, isi2_dct, Option.getD_some, Option.getD_none, D.isNon, sz_0, sz_1, sz_2, sz_3, sz_4, sz_5, sz_6, sz_7, sz_8, sz_9, sz_10, sz_11, sz_12, sz_13, sz_14, sz_15, sz_16, sg_len, ex_in_sg, ex_len_str, ex_len_tup, ex_len_lst, ex_eq_str, ex_ne_str, ex_eq_int, ex_ne_int, ex_eq_ns, ex_eq_sn, ex_eq_nn, ex_ne_ns, ex_ne_sn, ex_ne_nn, ex_I, ex_add_int, ex_add_str, ex_add_tup, ex_add_lst, ex_sub, ex_mul, ex_mod, ex_div, ex_isN, ex_notN, ex_ix_tup, ex_ix_lst, ex_sl_tup, ex_sl_lst, ex_sl_str, ex_tuple_lst,
  ofs_inj, String.reduceEq, atI_0, atI_1, atI_2, atI_3, cut_1, cut_13, startD, wipeD, List.map_cons, List.map_nil, List.length_cons, List.length_nil, List.cons_append, List.nil_append, List.replicate_succ, List.replicate_zero, List.set_cons_zero, List.set_cons_succ, Nat.reduceAdd, Nat.reduceSub, Nat.sub_self,
  D.bl.injEq, D.int.injEq, D.str.injEq, D.tup.injEq, D.lst.injEq, D.dct.injEq, Option.some.injEq, List.cons.injEq, and_assoc, Int.cast_ofNat_Int, Int.reduceAdd, Int.reduceSub, Int.reduceMul, Int.reduceNeg, Int.reduceEq, Int.reduceLT, Int.reduceLE, Int.reduceNe, eq_self, exists_eq_left, exists_eq_left', exists_eq_right, exists_eq, exists_const, exists_false, false_and, and_false, false_or, or_false, true_and, and_true, if_true, if_false, Bool.false_eq_true, Bool.not_true, Bool.not_false, ite_true, ite_false, reduceCtorEq, decide_true, decide_false, decide_eq_true_eq, exists_and_left, Bool.not_eq_true])

structure Wrd (d : D) : Prop where
  ok : eqOk d = true
  nr : ∀ a, d ≠ .ref a
  f : d.fine = true
/-- d says so, when it is called -/
def Tells (P : Program) (w : World) (K : PySem.W.Frag) (mg : Str → Option Value) (base : Heap) (m : Mu) (wd d : D) : Prop := ∃ L r, Calls P w K mg base 45 m d L ∧ SaysL m L r ∧ KnownR r ∧ kindR r = wd
theorem Tells.mono {m m' : Mu} {wd d : D} (h : Tells P w K mg base m wd d) (s : Sub m m') : Tells P w K mg base m' wd d :=
  let ⟨L, r, h1, h2, h3⟩ := h
  ⟨L, r, h1.mono s, h2.mono s, h3⟩
theorem tells_of {X : Cx} {ns : List Nat} {t : AEYt} {m m2 : Mu} {δ : Dt} {d wd : D} {r : Option (Str × Fo)} (hP : Ph X P w K mg base) (c : CloF X 45 ns t m d) (O : OwnK X δ m m2) (hl : δ.length = X.N.length)
    (hns : ∀ i ∈ ns, ∃ y e, X.N[i]? = some y ∧ X.env.scope.names.lookup y = some .cell ∧ δ[i]? = some (some e)) (hs : SaysL m2 (t (maskD δ ns)) r) (hk : KnownR r) (he : kindR r = wd) : Tells P w K mg base m2 wd d := ⟨_, r, calls_of hP c O hl hns, hs, hk, he⟩
def sp_are (P : Program) (w : World) (K : PySem.W.Frag) (mg : Str → Option Value) (base : Heap) : SpD := fun ds m Q => ∃ (fs : List D) (wd : D), ds = [.lst fs, wd] ∧ fs.length ≤ 40 ∧ Wrd wd ∧ (∀ d ∈ fs, Tells P w K mg base m wd d) ∧ Q (.bl true) m
theorem F__law_are (T : Txt K w mg) : FnD P w K mg base "_law_are" 50 (sp_are P w K mg base) := by
  have nd := sc__law_are.nd
  refine fnd_ofZ T.d__law_are sc__law_are (fun ds m Q ⟨_, _, e, _⟩ => by rw [e]; rfl) fun f cdv A outer s H E hr => ⟨_, (ass_one (as_ret (ae_cmp (or_eq hr.units) (ae_lc (own := [("_law_work", 2)]) rfl nd (ai_list (ae_var 0)) (blkOk_by (own := [("_law_work", 2)]) (by kernel_rfl)) (gg_name (i := 2) (by simp)) (fun _ _ _ _ _ => (pg_name (i := 2) nd rfl (Or.inl rfl))) (fun _ _ _ _ _ => (ats_one (at_cmp (or_ne hr.units) (ae_kindC (P := P) (w := w) (mg := mg) (base := base) (k := 45) ⟨rfl, rfl, rfl, rfl, rfl⟩ (kind_D T) sc__law_kind (fun q => kind_G T rfl rfl (hr.mono (by omega)) (q := q)) (hr.mono (by omega)) (ae_var 2)) (ae_var 1) (nomark _)))) (fun _ _ _ _ _ => (ae_var 2))) (ae_lst aa_nil) (nomark _)))), ?_⟩
  rintro _ m Q ⟨fs, wd, rfl, hl, hw, hf, q⟩
  walk_at "rar"
  refine ⟨szl (by omega), lc_inv (fun rest acc m' => (∀ d ∈ rest, d ∈ fs) ∧ acc = [] ∧ Sub m m') (fun d rest acc m' ⟨h1, h2, h3⟩ R r => ?_) (fun acc m' ⟨_, h2, h3⟩ => ?_) ⟨fun d h => h, rfl, Sub.refl m⟩⟩
  · subst h2
    obtain ⟨L, rr, c, sl, kn, e⟩ := hf d (h1 d List.mem_cons_self)
    walk_at "rar"
    refine ⟨L, c.mono h3, rr, sl.mono h3, kn, fun m2 s2 => ?_⟩
    rw [e, ne_self hw.ok hw.nr hw.f]
    refine ⟨false, rfl, ?_⟩
    rw [if_neg (by simp)]
    exact r none m2 ⟨fun x hx => h1 x (List.mem_cons_of_mem _ hx), rfl, h3.trans s2⟩
  · subst h2
    rw [nil_nilD]
    exact Fz.to h3 q
end K01
/-! all that is handed a shelf: lambdas handed out. -/
namespace K01
open PySem PySem.Spec PyProof.Rows L2 L3
variable {P : Program} {w : World} {K : PySem.W.Frag} {mg : Str → Option Value} {base : Heap}
local macro_rules | `(tactic| walk_at "rwk") => `(tactic| simp only [ yCall, yMake, yE,  aRet, aRetN, aDrop, aIfS, aSeq, aNext, aAsg, gNm, gTupD, gConsD, gNilD, aFor, ex_var0, ex_varS, aC, aOp, aCall, aCons, aNil, aTup, aLst, aB, aAnd, aOr, aNot, aAndV, aOrV, aNotV, aIf, aNeg, aChain, aKix, aKGet1, aKGet2, aDGet1, aDGet2, aNoPart, aPart, aSl, aList, aTupI, aStrI, aZipS, aYes, aLc, aNever, aBreak, aCont, forGo, lcGo,
  isi_str_str, isi_str_int, isi_str_bool, isi_str_tuple, isi_str_list, isi_int_str, isi_int_int, isi_int_bool, isi_int_tuple, isi_int_list, isi_bl_str, isi_bl_int, isi_bl_bool, isi_bl_tuple, isi_bl_list, isi_non_str, isi_non_int, isi_non_bool, isi_non_tuple, isi_non_list, isi_tup_str, isi_tup_int, isi_tup_bool, isi_tup_tuple, isi_tup_list, isi_lst_str, isi_lst_int, isi_lst_bool, isi_lst_tuple, isi_lst_list, isi_dct_str, isi_dct_int, isi_dct_bool, isi_dct_tuple, isi_dct_list, isi2_str, isi2_int, isi2_bl, isi2_non, isi2_tup, isi2_lst, isi2_dct, Option.getD_some, Option.getD_none, D.isNon, sz_0, sz_1, sz_2, sz_3, sz_4, sz_5, sz_6, sz_7, sz_8, sz_9, sz_10, sz_11, sz_12, sz_13, sz_14, sz_15, sz_16, sg_len, ex_in_sg, ex_len_str, ex_len_tup, ex_len_lst, ex_eq_str, ex_ne_str, ex_eq_int, ex_ne_int, ex_eq_ns, ex_eq_sn, ex_eq_nn, ex_ne_ns, ex_ne_sn, ex_ne_nn, ex_I, ex_add_int, ex_add_str, ex_add_tup, ex_add_lst, ex_sub, ex_mul, ex_mod, ex_div, ex_isN, ex_notN, ex_ix_tup, ex_ix_lst, ex_sl_tup, ex_sl_lst, ex_sl_str, ex_tuple_lst,
  ofs_inj, String.reduceEq, atI_0, atI_1, atI_2, atI_3, cut_1, cut_13, startD, wipeD, List.map_cons, List.map_nil, List.length_cons, List.length_nil, List.cons_append, List.nil_append, List.replicate_succ, List.replicate_zero, List.set_cons_zero, List.set_cons_succ, Nat.reduceAdd, Nat.reduceSub, Nat.sub_self,
  D.bl.injEq, D.int.injEq, D.str.injEq, D.tup.injEq, D.lst.injEq, D.dct.injEq, Option.some.injEq, List.cons.injEq, and_assoc, Int.cast_ofNat_Int, Int.reduceAdd, Int.reduceSub, Int.reduceMul, Int.reduceNeg, Int.reduceEq, Int.reduceLT, Int.reduceLE, Int.reduceNe, eq_self, exists_eq_left, exists_eq_left', exists_eq_right, exists_eq, exists_const, exists_false, false_and, and_false, false_or, or_false, true_and, and_true, if_true, if_false, Bool.false_eq_true, Bool.not_true, Bool.not_false, ite_true, ite_false, reduceCtorEq, decide_true, decide_false, decide_eq_true_eq, exists_and_left, Bool.not_eq_true])

def TPS (K : PySem.W.Frag) : Addr := (He.cT K ("_law_works", none)).2
abbrev TBS (base : Heap) (mg : Str → Option Value) (K : PySem.W.Frag) : Prop := LamX.TabB base mg (He.codeOf K ("_law_works", none)) (TPS K)
def qS : Str := ("_law_works" : Str) ++ ".<locals>." ++ "<lambda>"
theorem tnil {ns : List Nat} : 40 < tnD ns 10 (.tup []) := by rw [tn_bad (fun _ _ e => by cases e)]; omega
/-- good shelves -/
def GooS (sh : D) : Prop := ∃ ps : List Part, sh = .lst (ps.map Part.enc) ∧ ShOk ps
def sp_works (P : Program) (w : World) (K : PySem.W.Frag) (mg : Str → Option Value) (base : Heap) : SpD := fun ds m Q => ∃ sh, ds = [sh] ∧ m (TPS K) = some (.tab qS) ∧
  ∀ fs m', fs.length = 10 → (∀ n fo, RefS sh n fo → Known n fo → ∀ d ∈ fs, Tells P w K mg base m' (kindD n fo) d) → (GooS sh → ∀ d ∈ fs.take 9, Tells P w K mg base m' (.str "BadTree") d) → Sub m m' → Q (.lst fs) m'
theorem F__law_works (T : Txt K w mg) (B : TBS base mg K) : FnD P w K mg base "_law_works" 50 (sp_works P w K mg base) := by
  have nd := sc__law_works.nd
  refine fnd_ofC T.l__law_works sc__law_works (fun ds m Q ⟨_, e, _⟩ => by rw [e]; rfl) fun f A outer s H E hr => ⟨_, (asc_cons (as_asg (ae_lst (aa_cons (ae_lamG (k := 45) [0] B rfl (lamT_by (by kernel_rfl)) (by kernel_rfl) (fun A outer s H E f c' hr => (aey_call ((FY_formsB T).mono (by omega)) hr (aa_cons (ae_var 0) (aa_cons (ae_tup aa_nil) aa_nil))))) (aa_cons (ae_lamGd (k := 45) "_law_a" [0] B rfl (lamT_by (by kernel_rfl)) (by kernel_rfl) (fun A outer s H E f c' hr => (aey_call ((FY_wantingB T).mono (by omega)) hr (aa_cons (ae_var 0) (aa_cons (ae_tup aa_nil) aa_nil))))) (aa_cons (ae_lamGd (k := 45) "_law_b" [0] B rfl (lamT_by (by kernel_rfl)) (by kernel_rfl) (fun A outer s H E f c' hr => (aey_call ((FY_alikeB T).mono (by omega)) hr (aa_cons (ae_var 0) (aa_cons (ae_tup aa_nil) (aa_cons (ae_tup aa_nil) aa_nil)))))) aa_nil)))) (ag_name 1 nd))
      (asc_cons (as_asg (ae_op or_add (ae_var 1) (ae_lst (aa_cons (ae_lamGd (k := 45) "_law_c" [0] B rfl (lamT_by (by kernel_rfl)) (by kernel_rfl) (fun A outer s H E f c' hr => (aey_call ((FY_partedB T).mono (by omega)) hr (aa_cons (ae_var 0) (aa_cons (ae_tup aa_nil) (aa_cons (ae_tup aa_nil) aa_nil)))))) (aa_cons (ae_lamGd (k := 45) "_law_e" [0] B rfl (lamT_by (by kernel_rfl)) (by kernel_rfl) (fun A outer s H E f c' hr => (aey_call ((FY_flatB T).mono (by omega)) hr (aa_cons (ae_var 0) (aa_cons (ae_tup aa_nil) (aa_cons ae_str aa_nil)))))) aa_nil)))) (ag_name 1 nd))
      (asc_cons (as_asg (ae_op or_add (ae_var 1) (ae_lst (aa_cons (ae_lamGd (k := 45) "_law_f" [0] B rfl (lamT_by (by kernel_rfl)) (by kernel_rfl) (fun A outer s H E f c' hr => (aey_make ((FIY_ThingB T).mono (by omega)) hr T.k_Thing.g (aa_cons (ae_var 0) (aa_cons (ae_tup aa_nil) aa_nil))))) (aa_cons (ae_lamGd (k := 45) "_law_g" [0] B rfl (lamT_by (by kernel_rfl)) (by kernel_rfl) (fun A outer s H E f c' hr => (aey_call ((FY_triedB T).mono (by omega)) hr (aa_cons (ae_var 0) (aa_cons (ae_tup aa_nil) (aa_cons ae_str (aa_cons ae_int aa_nil))))))) (aa_cons (ae_lamGd (k := 45) "_law_i" [0] B rfl (lamT_by (by kernel_rfl)) (by kernel_rfl) (fun A outer s H E f c' hr => (aey_call ((FY_giversB T).mono (by omega)) hr (aa_cons (ae_var 0) (aa_cons (ae_tup aa_nil) aa_nil))))) aa_nil))))) (ag_name 1 nd))
      (asc_ret (ae_op or_add (ae_var 1) (ae_lst (aa_cons (ae_lamGd (k := 45) "_law_j" [0] B rfl (lamT_by (by kernel_rfl)) (by kernel_rfl) (fun A outer s H E f c' hr => (aey_call ((FY_written_treeB T).mono (by omega)) hr (aa_cons (ae_var 0) (aa_cons (ae_tup aa_nil) aa_nil))))) (aa_cons (ae_lamGd (k := 45) "_law_k" [0] B rfl (lamT_by (by kernel_rfl)) (by kernel_rfl) (fun A outer s H E f c' hr => (aey_call ((FY_read_treeB T).mono (by omega)) hr (aa_cons (ae_var 0) (aa_cons ae_str aa_nil))))) aa_nil)))))))), ?_⟩
  rintro _ m Q ⟨sh, rfl, hm, q⟩
  walk_at "rwk"
  have hq : (cxOf L2.CX0 P w K mg base ["_law_shelf_here", "_law_works_here"] "_law_works" (defScope s__law_works) f (.ref (He.codeOf K ("_law_works", none))) A outer s H E).nox.env.qual ++ "<lambda>" = qS := rfl
  have hP : Ph (cxOf L2.CX0 P w K mg base ["_law_shelf_here", "_law_works_here"] "_law_works" (defScope s__law_works) f (.ref (He.codeOf K ("_law_works", none))) A outer s H E).nox P w K mg base := ⟨rfl, rfl, rfl, rfl, rfl⟩
  refine lam_go hq hm fun m1 d1 s1 hm c1 => ?_
  refine lam_go hq hm fun m2 d2 s2 hm c2 => ?_
  refine lam_go hq hm fun m3 d3 s3 hm c3 => ?_
  refine lam_go hq hm fun m4 d4 s4 hm c4 => ?_
  refine lam_go hq hm fun m5 d5 s5 hm c5 => ?_
  refine lam_go hq hm fun m6 d6 s6 hm c6 => ?_
  refine lam_go hq hm fun m7 d7 s7 hm c7 => ?_
  refine lam_go hq hm fun m8 d8 s8 hm c8 => ?_
  refine lam_go hq hm fun m9 d9 s9 hm c9 => ?_
  refine lam_go hq hm fun m10 d10 s10 hm c10 => ?_
  intro mZ O
  have hns : ∀ i ∈ ([0] : List Nat), ∃ y e, (["_law_shelf_here", "_law_works_here"] : List Str)[i]? = some y ∧ (defScope s__law_works).names.lookup y = some .cell ∧ ([some sh, some (.lst [d1, d2, d3, d4, d5, d6, d7, d8])] : Dt)[i]? = some (some e) := fun i hi => by
    simp only [List.mem_cons, List.not_mem_nil, or_false] at hi
    subst hi
    exact ⟨_, _, rfl, by decide +kernel, rfl⟩
  have em : maskD [some sh, some (.lst [d1, d2, d3, d4, d5, d6, d7, d8])] [0] = [some sh, none] := rfl
  have k10 := c10
  have k9 := c9.mono (s10)
  have k8 := c8.mono (s9.trans (s10))
  have k7 := c7.mono (s8.trans (s9.trans (s10)))
  have k6 := c6.mono (s7.trans (s8.trans (s9.trans (s10))))
  have k5 := c5.mono (s6.trans (s7.trans (s8.trans (s9.trans (s10)))))
  have k4 := c4.mono (s5.trans (s6.trans (s7.trans (s8.trans (s9.trans (s10))))))
  have k3 := c3.mono (s4.trans (s5.trans (s6.trans (s7.trans (s8.trans (s9.trans (s10)))))))
  have k2 := c2.mono (s3.trans (s4.trans (s5.trans (s6.trans (s7.trans (s8.trans (s9.trans (s10))))))))
  have k1 := c1.mono (s2.trans (s3.trans (s4.trans (s5.trans (s6.trans (s7.trans (s8.trans (s9.trans (s10)))))))))
  have tree : ∀ n fo, Ref sh (.tup []) n fo → Known n fo → ∀ d ∈ [d1, d2, d3, d4, d5, d6, d7, d8, d9], Tells P w K mg base mZ (kindD n fo) d := fun n fo hR kn d hd => by
    have kn : KnownR (some (n, fo)) := kn
    simp only [List.mem_cons, List.not_mem_nil, or_false] at hd
    rcases hd with rfl | rfl | rfl | rfl | rfl | rfl | rfl | rfl | rfl
    · refine tells_of hP k1 O rfl hns ?_ kn rfl
      rw [em]
      intro m' Q' xq' _ hx _
      walk_at "rwk"
      exact ⟨sh, _, _, _, _, rfl, rfl, hR, hx _ _ rfl⟩
    · refine tells_of hP k2 O rfl hns ?_ kn rfl
      rw [em]
      intro m' Q' xq' _ hx _
      walk_at "rwk"
      exact ⟨sh, _, _, _, _, rfl, rfl, hR, hx _ _ rfl⟩
    · refine tells_of hP k3 O rfl hns ?_ kn rfl
      rw [em]
      intro m' Q' xq' _ hx _
      walk_at "rwk"
      exact ⟨sh, _, _, _, _, rfl, .inl hR, hx _ _ rfl⟩
    · refine tells_of hP k4 O rfl hns ?_ kn rfl
      rw [em]
      intro m' Q' xq' _ hx _
      walk_at "rwk"
      exact ⟨sh, _, _, _, _, rfl, .inl hR, hx _ _ rfl⟩
    · refine tells_of hP k5 O rfl hns ?_ kn rfl
      rw [em]
      intro m' Q' xq' _ hx _
      walk_at "rwk"
      exact ⟨sh, _, _, _, _, rfl, rfl, hR, hx _ _ rfl⟩
    · refine tells_of hP k6 O rfl hns ?_ kn rfl
      rw [em]
      intro m' Q' xq' _ hx _
      walk_at "rwk"
      intro x dx hx1 hx2 hx3
      exact ⟨_, sh, _, _, _, rfl, hR, fun m2 s2 => hx _ _ rfl m2 ((Sub.put hx1).trans s2)⟩
    · refine tells_of hP k7 O rfl hns ?_ kn rfl
      rw [em]
      intro m' Q' xq' _ hx _
      walk_at "rwk"
      exact ⟨sh, _, _, _, _, rfl, rfl, hR, hx _ _ rfl⟩
    · refine tells_of hP k8 O rfl hns ?_ kn rfl
      rw [em]
      intro m' Q' xq' _ hx _
      walk_at "rwk"
      exact ⟨sh, _, _, _, _, rfl, rfl, hR, hx _ _ rfl⟩
    · refine tells_of hP k9 O rfl hns ?_ kn rfl
      rw [em]
      intro m' Q' xq' _ hx _
      walk_at "rwk"
      exact ⟨sh, _, _, _, _, rfl, rfl, hR, hx _ _ rfl⟩
  refine q _ mZ rfl (fun n fo hR kn d hd => ?_) (fun ⟨ps, e, ok⟩ d hd => ?_) (((((((((((s1).trans s2).trans s3).trans s4).trans s5).trans s6).trans s7).trans s8).trans s9).trans s10).trans O.sub)
  · rcases List.mem_append.mp (show d ∈ [d1, d2, d3, d4, d5, d6, d7, d8, d9] ++ [d10] from hd) with hd | hd
    · exact tree n fo (.inl hR) kn d hd
    · rw [List.mem_singleton.mp hd]
      refine tells_of (r := some (n, fo)) hP k10 O rfl hns ?_ kn rfl
      rw [em]
      intro m' Q' xq' _ hx _
      walk_at "rwk"
      exact ⟨sh, _, _, _, rfl, hR, hx _ _ rfl⟩
  · refine tree "BadTree" none (.inr ⟨rfl, rfl, ps, ⟨e, ok, 1, pln_tup (n := 0) (by simp) (fun _ h => by cases h), by omega⟩, tnil⟩) (by simp : ("BadTree" : Str) ∈ (["BadShelf", "BadTree", "NotWhole", "BadCall", "Long"] : List Str)) d hd
end K01
/-! L100: bodies and parts that can't be. -/
namespace L3
open PySem PySem.Spec PyProof.Rows L2
def plnB : Nat → D → Bool
  | _, .non => true
  | _, .bl _ => true
  | _, .int _ => true
  | _, .str x => PyData.strOk x && decide (x.length ≤ 1000)
  | n + 1, .tup ds => decide (ds.length ≤ 100) && ds.all (plnB n)
  | _, _ => false
theorem plnB_ok : ∀ {n : Nat} {d : D}, plnB n d = true → Pln n d
  | _, .non, _ => by unfold Pln; trivial
  | _, .bl _, _ => pln_bl
  | _, .int _, _ => pln_int
  | _, .str x, h => by
    unfold plnB at h
    rw [Bool.and_eq_true, decide_eq_true_eq] at h
    exact pln_str h.1 h.2
  | n + 1, .tup ds, h => by
    unfold plnB at h
    rw [Bool.and_eq_true, decide_eq_true_eq, List.all_eq_true] at h
    exact pln_tup h.1 fun d hd => plnB_ok (h.2 d hd)
  | 0, .tup ds, h => by unfold plnB at h; cases h
  | _, .lst _, h => by unfold plnB at h; cases h
  | _, .dct _, h => by unfold plnB at h; cases h
  | _, .ref _, h => by unfold plnB at h; cases h
  | _, .ty _, h => by unfold plnB at h; cases h
  | _, .fl _, h => by unfold plnB at h; cases h
/-! ### bodies -/
def restD (x : D) : Nat → D
  | 0 => x
  | n + 1 => .tup [.str "rest", restD x n]
def thenD (x : D) : Nat → D
  | 0 => x
  | n + 1 => .tup [.str "then", thenD x n, thenD x n]
def badbD (far : Int) : List D := [restD (.tup [.str "empty"]) 10, thenD (.tup [.str "argument"]) 5, .tup [], .tup [.str "number", .int (100 + far)], .tup [.str "number", .bl true], .tup [.str "truth", .int 1], .tup [.str "plus", .tup [.str "empty"]],
  .tup [.str "cell", .str "t"], .tup [.str "call", .str "i", .tup [.str "empty"]], .tup [.str "call", .str "a"], .tup [.str "set", .str "a", .tup [.str "empty"]], .tup [.str "Not", .tup [.str "empty"]], .tup [.str "empty", .int 1], .tup [.str "not", .str "argument"], .tup [.str "number", .int (-100 - far)]]
theorem wn_num {i : Int} (h : ¬ (-99 ≤ i ∧ i ≤ 99)) : wnD 10 (.tup [.str "number", .int i]) = 61 := by
  rw [wn_at (l := [.n]) (by decide +kernel) rfl]
  show (if (decide (-99 ≤ i) && decide (i ≤ 99)) = true then 1 else 61) = _
  rw [if_neg]
  intro z
  rw [Bool.and_eq_true, decide_eq_true_eq, decide_eq_true_eq] at z
  exact h z
theorem badb_no {far : Int} (h0 : 0 ≤ far) : ∀ d ∈ badbD far, Pln 20 d ∧ 60 < wnD 10 d := by
  intro d hd
  unfold badbD at hd
  simp only [List.mem_cons, List.not_mem_nil, or_false] at hd
  rcases hd with rfl | rfl | rfl | rfl | rfl | rfl | rfl | rfl | rfl | rfl | rfl | rfl | rfl | rfl | rfl
  case _ => exact ⟨plnB_ok (by decide +kernel), by decide +kernel⟩
  case _ => exact ⟨plnB_ok (by decide +kernel), by decide +kernel⟩
  case _ => exact ⟨plnB_ok (by decide +kernel), by decide +kernel⟩
  case _ => exact ⟨pln_tup (by simp) fun d hd => by
      simp only [List.mem_cons, List.not_mem_nil, or_false] at hd
      rcases hd with rfl | rfl
      · exact plnB_ok (by decide +kernel)
      · exact pln_int, by rw [wn_num (by omega)]; omega⟩
  case _ => exact ⟨plnB_ok (by decide +kernel), by decide +kernel⟩
  case _ => exact ⟨plnB_ok (by decide +kernel), by decide +kernel⟩
  case _ => exact ⟨plnB_ok (by decide +kernel), by decide +kernel⟩
  case _ => exact ⟨plnB_ok (by decide +kernel), by decide +kernel⟩
  case _ => exact ⟨plnB_ok (by decide +kernel), by decide +kernel⟩
  case _ => exact ⟨plnB_ok (by decide +kernel), by decide +kernel⟩
  case _ => exact ⟨plnB_ok (by decide +kernel), by decide +kernel⟩
  case _ => exact ⟨plnB_ok (by decide +kernel), by decide +kernel⟩
  case _ => exact ⟨plnB_ok (by decide +kernel), by decide +kernel⟩
  case _ => exact ⟨plnB_ok (by decide +kernel), by decide +kernel⟩
  case _ => exact ⟨pln_tup (by simp) fun d hd => by
      simp only [List.mem_cons, List.not_mem_nil, or_false] at hd
      rcases hd with rfl | rfl
      · exact plnB_ok (by decide +kernel)
      · exact pln_int, by rw [wn_num (by omega)]; omega⟩
/-! ### parts -/
def goodR : D := .tup [.str "a", .str "number", .str "list", .tup [.str "empty"]]
def odd0 : List D := [.str "", .str "G", .str "a", .str "AB", .int 1]
def odd1 (b : D) : List D := [.tup [.tup [.str "a", .str "number", .str "list", b]], .tup [.tup [.str "i", .str "number", .str "list", .tup [.str "empty"]]], .tup [goodR, goodR], .tup [.tup [.str "b", .str "number", .str "list", .tup [.str "empty"]], goodR],
  .tup [.tup [.str "a", .str "number", .str "list"]], .tup [.tup [.str "a", .str "numbers", .str "list", .tup [.str "empty"]]], .tup [.tup [.str "a", .str "list", .str "", .tup [.str "empty"]]], .tup [.tup []]]
def askR : D := .tup [.str "b", .str "list", .str "truth"]
def odd2 : List D := [.tup [askR, askR], .tup [.tup [.str "b", .str "list"]], .tup [.tup [.str "b", .str "list", .str "Truth"]], .tup [.tup [.str "h", .str "list", .str "list"], askR], .tup [.tup [.str "j", .str "list", .str "truth"]], .tup [.tup [.str "a", .str "list", .str "truth"]]]
def celR : D := .tup [.str "p", .str "list"]
def odd3 : List D := [.tup [celR, celR], .tup [.tup [.str "p"]], .tup [.tup [.str "p", .str "lists"]], .tup [.tup [.str "q", .str "list"], celR], .tup [.tup [.str "a", .str "list"]], .tup [celR, .tup [.str "t", .str "list"]], .tup [.tup []]]
theorem odd0_no : ∀ d ∈ odd0, Pln 29 d ∧ isLetD d [65, 66, 67, 68, 69, 70] = false := by
  intro d hd
  unfold odd0 at hd
  simp only [List.mem_cons, List.not_mem_nil, or_false] at hd
  rcases hd with rfl | rfl | rfl | rfl | rfl <;> exact ⟨plnB_ok (by decide +kernel), by decide +kernel⟩
theorem odd1_no {b : D} (hb : Pln 20 b ∧ 60 < wnD 10 b) : ∀ d ∈ odd1 b, Pln 29 d ∧ flatRs d = true ∧ deedsK d = false := by
  intro d hd
  unfold odd1 at hd
  simp only [List.mem_cons, List.not_mem_nil, or_false] at hd
  rcases hd with rfl | rfl | rfl | rfl | rfl | rfl | rfl | rfl
  case _ =>
    refine ⟨pln_tup (by simp) fun d hd => ?_, rfl, ?_⟩
    · rw [List.mem_singleton.mp hd]
      refine pln_tup (by simp) fun d hd => ?_
      simp only [List.mem_cons, List.not_mem_nil, or_false] at hd
      rcases hd with rfl | rfl | rfl | rfl
      · exact plnB_ok (by decide +kernel)
      · exact plnB_ok (by decide +kernel)
      · exact plnB_ok (by decide +kernel)
      · exact pln_le hb.1 (by omega)
    · have e : deedK (.tup [.str "a", .str "number", .str "list", b]) = false := by
        show (kdB (.str "number") && kdB (.str "list") && decide (wnD 10 b ≤ 60)) = false
        rw [decide_eq_false (by omega), Bool.and_false]
      unfold deedsK
      simp only
      rw [List.all_cons, e, Bool.false_and, Bool.and_false]
  all_goals exact ⟨plnB_ok (by decide +kernel), by decide +kernel, by decide +kernel⟩
theorem odd2_no : ∀ d ∈ odd2, Pln 29 d ∧ flatRs d = true ∧ asksK [97] d = false := by
  intro d hd
  unfold odd2 at hd
  simp only [List.mem_cons, List.not_mem_nil, or_false] at hd
  rcases hd with rfl | rfl | rfl | rfl | rfl | rfl <;> exact ⟨plnB_ok (by decide +kernel), by decide +kernel, by decide +kernel⟩
theorem odd3_no : ∀ d ∈ odd3, Pln 29 d ∧ flatRs d = true ∧ cellsK d = false := by
  intro d hd
  unfold odd3 at hd
  simp only [List.mem_cons, List.not_mem_nil, or_false] at hd
  rcases hd with rfl | rfl | rfl | rfl | rfl | rfl | rfl <;> exact ⟨plnB_ok (by decide +kernel), by decide +kernel, by decide +kernel⟩
theorem unit_ok : Pln 29 (.tup [.tup []]) ∧ flatRs (.tup [.tup []]) = true := ⟨plnB_ok (by decide +kernel), by decide +kernel⟩
theorem good_ok : Pln 29 (.tup [goodR]) ∧ flatRs (.tup [goodR]) = true ∧ deedsK (.tup [goodR]) = true ∧ codesD (.tup [goodR]) = [97] := ⟨plnB_ok (by decide +kernel), by decide +kernel, by decide +kernel, by decide +kernel⟩
/-- a part told otherwise, and why it can't be -/
def OddP (d : D) (why : Str) : Prop := PartP d ∧ whyD d = why ∧ why ∈ (["name", "deeds", "asks", "cells"] : List Str)
section
variable {p : Part}
theorem odd_name (h : p.ok) {nm : D} (hn : nm ∈ odd0) : OddP (.tup [nm, .tup [.tup []], .tup (p.as.map askD), .tup (p.cs.map celD)]) "name" := by
  obtain ⟨h1, h2⟩ := odd0_no nm hn
  refine ⟨part_four h1 unit_ok ⟨pln_le (pln_as h.al h.aok).1 (by omega), (pln_as h.al h.aok).2⟩ ⟨pln_le (pln_cs h.cl h.cok).1 (by omega), (pln_cs h.cl h.cok).2⟩, ?_, by simp⟩
  unfold whyD
  simp only
  rw [h2, if_neg (by simp)]
theorem nm_let (h : p.ok) : isLetD (.str (sg p.nm)) [65, 66, 67, 68, 69, 70] = true := by
  rw [let_sg, decide_eq_true (show p.nm ∈ _ from h.nm)]
theorem odd_deeds (h : p.ok) {b d : D} (hb : Pln 20 b ∧ 60 < wnD 10 b) (hd : d ∈ odd1 b) : OddP (.tup [.str (sg p.nm), d, .tup [.tup []], .tup (p.cs.map celD)]) "deeds" := by
  obtain ⟨h1, h2, h3⟩ := odd1_no hb d hd
  refine ⟨part_four (pln_sg (partC.lt h.nm)) ⟨h1, h2⟩ unit_ok ⟨pln_le (pln_cs h.cl h.cok).1 (by omega), (pln_cs h.cl h.cok).2⟩, ?_, by simp⟩
  unfold whyD
  simp only
  rw [nm_let h, if_pos rfl, h3, if_neg (by simp)]
theorem odd_asks (h : p.ok) {d : D} (hd : d ∈ odd2) : OddP (.tup [.str (sg p.nm), .tup [goodR], d, .tup [.tup []]]) "asks" := by
  obtain ⟨h1, h2, h3⟩ := odd2_no d hd
  obtain ⟨g1, g2, g3, g4⟩ := good_ok
  refine ⟨part_four (pln_sg (partC.lt h.nm)) ⟨g1, g2⟩ ⟨h1, h2⟩ unit_ok, ?_, by simp⟩
  unfold whyD
  simp only
  rw [nm_let h, if_pos rfl, g3, if_pos rfl, g4, h3, if_neg (by simp)]
theorem odd_cells (h : p.ok) {d : D} (hd : d ∈ odd3) : OddP (.tup [.str (sg p.nm), .tup (p.ds.map Deed.enc), .tup (p.as.map askD), d]) "cells" := by
  obtain ⟨h1, h2, h3⟩ := odd3_no d hd
  obtain ⟨e1, e2⟩ := deedsK_ok h.dl h.dok h.dr
  refine ⟨part_four (pln_sg (partC.lt h.nm)) ⟨pln_le (pln_ds h.dl h.dok).1 (by omega), (pln_ds h.dl h.dok).2⟩ ⟨pln_le (pln_as h.al h.aok).1 (by omega), (pln_as h.al h.aok).2⟩ ⟨h1, h2⟩, ?_, by simp⟩
  unfold whyD
  simp only
  rw [nm_let h, if_pos rfl, e1, if_pos rfl, e2, asksK_ok h.al h.aok h.ar h.dis, if_pos rfl, h3, if_neg (by simp)]
end
end L3
/-! parts told otherwise, drawn. -/
namespace K01
open PySem PySem.Spec PyProof.Rows L2 L3
variable {P : Program} {w : World} {K : PySem.W.Frag} {mg : Str → Option Value} {base : Heap}
local macro_rules | `(tactic| walk_at "rod") => `(tactic| simp only [ aRng1, lcStep, D.ref.injEq, aRet, aRetN, aDrop, aIfS, aSeq, aNext, aAsg, gNm, gTupD, gConsD, gNilD, aFor, ex_var0, ex_varS, aC, aOp, aCall, aCons, aNil, aTup, aLst, aB, aAnd, aOr, aNot, aAndV, aOrV, aNotV, aIf, aNeg, aChain, aKix, aKGet1, aKGet2, aDGet1, aDGet2, aNoPart, aPart, aSl, aList, aTupI, aStrI, aZipS, aYes, aLc, aNever, aBreak, aCont, forGo, lcGo,
  isi_str_str, isi_str_int, isi_str_bool, isi_str_tuple, isi_str_list, isi_int_str, isi_int_int, isi_int_bool, isi_int_tuple, isi_int_list, isi_bl_str, isi_bl_int, isi_bl_bool, isi_bl_tuple, isi_bl_list, isi_non_str, isi_non_int, isi_non_bool, isi_non_tuple, isi_non_list, isi_tup_str, isi_tup_int, isi_tup_bool, isi_tup_tuple, isi_tup_list, isi_lst_str, isi_lst_int, isi_lst_bool, isi_lst_tuple, isi_lst_list, isi_dct_str, isi_dct_int, isi_dct_bool, isi_dct_tuple, isi_dct_list, isi2_str, isi2_int, isi2_bl, isi2_non, isi2_tup, isi2_lst, isi2_dct, Option.getD_some, Option.getD_none, D.isNon, sz_0, sz_1, sz_2, sz_3, sz_4, sz_5, sz_6, sz_7, sz_8, sz_9, sz_10, sz_11, sz_12, sz_13, sz_14, sz_15, sz_16, sg_len, ex_in_sg, ex_len_str, ex_len_tup, ex_len_lst, ex_eq_str, ex_ne_str, ex_eq_int, ex_ne_int, ex_eq_ns, ex_eq_sn, ex_eq_nn, ex_ne_ns, ex_ne_sn, ex_ne_nn, ex_I, ex_add_int, ex_add_str, ex_add_tup, ex_add_lst, ex_sub, ex_mul, ex_mod, ex_div, ex_isN, ex_notN, ex_ix_tup, ex_ix_lst, ex_sl_tup, ex_sl_lst, ex_sl_str, ex_tuple_lst,
  ofs_inj, String.reduceEq, atI_0, atI_1, atI_2, atI_3, cut_1, cut_13, startD, wipeD, List.map_cons, List.map_nil, List.length_cons, List.length_nil, List.cons_append, List.nil_append, List.replicate_succ, List.replicate_zero, List.set_cons_zero, List.set_cons_succ, Nat.reduceAdd, Nat.reduceSub, Nat.sub_self,
  D.bl.injEq, D.int.injEq, D.str.injEq, D.tup.injEq, D.lst.injEq, D.dct.injEq, Option.some.injEq, List.cons.injEq, and_assoc, Int.cast_ofNat_Int, Int.reduceAdd, Int.reduceSub, Int.reduceMul, Int.reduceNeg, Int.reduceEq, Int.reduceLT, Int.reduceLE, Int.reduceNe, eq_self, exists_eq_left, exists_eq_left', exists_eq_right, exists_eq, exists_const, exists_false, false_and, and_false, false_or, or_false, true_and, and_true, if_true, if_false, Bool.false_eq_true, Bool.not_true, Bool.not_false, ite_true, ite_false, reduceCtorEq, decide_true, decide_false, decide_eq_true_eq, exists_and_left, Bool.not_eq_true])

def sp_bad_body : SpD := fun ds m Q => ∃ (ha hb : Addr), ds = [.ref ha] ∧ Rg ha hb m ∧ ∀ b m', (Pln 20 b ∧ 60 < wnD 10 b) → Rg ha hb m' → Ch ha hb m m' → Q b m'
theorem F__law_bad_body (T : Txt K w mg) : FnD P w K mg base "_law_bad_body" 5 sp_bad_body := by
  have nd := sc__law_bad_body.nd
  refine fnd_ofZ T.d__law_bad_body sc__law_bad_body (fun ds m Q ⟨_, _, e, _⟩ => by rw [e]; rfl) fun f cdv A outer s H E hr => ⟨_, (ass_cons (as_asg (ae_tup (aa_cons ae_str aa_nil)) (ag_name 1 nd))
      (ass_cons (as_for PassesOwn.never rfl (ai_rng1 T.b_range (aa_cons ae_int aa_nil)) (ag_name 2 nd)
      (ass_one (as_asg (ae_tup (aa_cons ae_str (aa_cons (ae_var 1) aa_nil))) (ag_name 1 nd))))
      (ass_cons (as_asg (ae_tup (aa_cons ae_str aa_nil)) (ag_name 3 nd))
      (ass_cons (as_for PassesOwn.never rfl (ai_rng1 T.b_range (aa_cons ae_int aa_nil)) (ag_name 2 nd)
      (ass_one (as_asg (ae_tup (aa_cons ae_str (aa_cons (ae_var 3) (aa_cons (ae_var 3) aa_nil)))) (ag_name 3 nd))))
      (ass_cons (as_asg (ae_call ((F__law_next T).mono (by omega)) hr (aa_cons (ae_var 0) (aa_cons (ae_op or_pow ae_int ae_int) aa_nil))) (ag_name 4 nd))
      (ass_cons (as_asg (ae_lst (aa_cons (ae_var 1) (aa_cons (ae_var 3) (aa_cons (ae_tup aa_nil) (aa_cons (ae_tup (aa_cons ae_str (aa_cons (ae_op or_add ae_int (ae_var 4)) aa_nil))) (aa_cons (ae_tup (aa_cons ae_str (aa_cons ae_bl aa_nil))) (aa_cons (ae_tup (aa_cons ae_str (aa_cons ae_int aa_nil))) (aa_cons (ae_tup (aa_cons ae_str (aa_cons (ae_tup (aa_cons ae_str aa_nil)) aa_nil))) aa_nil)))))))) (ag_name 5 nd))
      (ass_cons (as_asg (ae_op or_add (ae_var 5) (ae_lst (aa_cons (ae_tup (aa_cons ae_str (aa_cons ae_str aa_nil))) (aa_cons (ae_tup (aa_cons ae_str (aa_cons ae_str (aa_cons (ae_tup (aa_cons ae_str aa_nil)) aa_nil)))) (aa_cons (ae_tup (aa_cons ae_str (aa_cons ae_str aa_nil))) (aa_cons (ae_tup (aa_cons ae_str (aa_cons ae_str (aa_cons (ae_tup (aa_cons ae_str aa_nil)) aa_nil)))) aa_nil)))))) (ag_name 5 nd))
      (ass_cons (as_asg (ae_op or_add (ae_var 5) (ae_lst (aa_cons (ae_tup (aa_cons ae_str (aa_cons (ae_tup (aa_cons ae_str aa_nil)) aa_nil))) (aa_cons (ae_tup (aa_cons ae_str (aa_cons ae_int aa_nil))) aa_nil)))) (ag_name 5 nd))
      (ass_one (as_ret (ae_ix hr.u1 (ae_op or_add (ae_var 5) (ae_lst (aa_cons (ae_tup (aa_cons ae_str (aa_cons ae_str aa_nil))) (aa_cons (ae_tup (aa_cons ae_str (aa_cons (ae_op or_sub (ae_neg ae_int) (ae_var 4)) aa_nil))) aa_nil)))) (ae_call ((F__law_next T).mono (by omega)) hr (aa_cons (ae_var 0) (aa_cons ae_int aa_nil)))))))))))))), ?_⟩
  rintro _ m Q ⟨ha, hb, rfl, R, q⟩
  walk_at "rod"
  refine ⟨by decide, by decide, for_rng (fun i δ m' => m' = m ∧ ∃ o5, δ = [some (.ref ha), some (restD (.tup [.str "empty"]) i), o5, none, none, none]) ?_ ?_ ⟨rfl, _, rfl⟩⟩
  · rintro i δ mX hi ⟨rfl, o5, rfl⟩ nx2 hnx
    walk_at "rod"
    exact hnx _ _ ⟨rfl, _, rfl⟩
  rintro δ mA ⟨rfl, o5, rfl⟩
  walk_at "rod"
  refine ⟨by decide, by decide, for_rng (fun i δ m' => m' = mA ∧ ∃ o5, δ = [some (.ref ha), some (restD (.tup [.str "empty"]) 10), o5, some (thenD (.tup [.str "argument"]) i), none, none]) ?_ ?_ ⟨rfl, _, rfl⟩⟩
  · rintro i δ mX hi ⟨rfl, o5, rfl⟩ nx2 hnx
    walk_at "rod"
    exact hnx _ _ ⟨rfl, _, rfl⟩
  rintro δ mB ⟨rfl, o5, rfl⟩
  walk_at "rod"
  rw [ex_pow]
  refine ⟨⟨by decide, by decide, by decide⟩, ?_⟩
  show sp_next [.ref ha, .int 1000000] _ _
  refine nx R (by omega) fun far m1 a0 b0 R1 C1 => ?_
  walk_at "rod"
  refine nx R1 (by omega) fun r m2 a b R2 C2 => ?_
  show rhoIx (.lst (badbD far)) (.int r) m2 (Fz Q)
  obtain ⟨k, rfl⟩ := Int.eq_ofNat_of_zero_le a
  obtain ⟨d, hd⟩ : ∃ d, (badbD far)[k]? = some d := ⟨_, List.getElem?_eq_getElem (by show k < 15; omega)⟩
  rw [ex_ix_lst]
  exact ⟨d, atI_nat hd, Fz.now (q d m2 (badb_no a0 d (List.mem_of_getElem? hd)) R2 (C1.trans C2))⟩
def sp_odd : SpD := fun ds m Q => ∃ (ha hb : Addr) (p : Part), ds = [.ref ha, p.enc] ∧ Rg ha hb m ∧ p.ok ∧ ∀ d why m', OddP d why → Rg ha hb m' → Ch ha hb m m' → Q (.tup [d, .str why]) m'
theorem F__law_odd (T : Txt K w mg) : FnD P w K mg base "_law_odd" 7 sp_odd := by
  have nd := sc__law_odd.nd
  refine fnd_ofZ T.d__law_odd sc__law_odd (fun ds m Q ⟨_, _, _, e, _⟩ => by rw [e]; rfl) fun f cdv A outer s H E hr => ⟨_, (ass_cons (as_asg (ae_var 1) (ag_tup (n := 4) rfl (ags_cons (ag_name 6 nd) (ags_cons (ag_name 7 nd) (ags_cons (ag_name 8 nd) (ags_cons (ag_name 9 nd) ags_nil))))))
      (ass_cons (as_asg (ae_tup (aa_cons ae_str (aa_cons ae_str (aa_cons ae_str (aa_cons (ae_tup (aa_cons ae_str aa_nil)) aa_nil))))) (ag_name 2 nd))
      (ass_cons (as_asg (ae_call ((F__law_next T).mono (by omega)) hr (aa_cons (ae_var 0) (aa_cons ae_int aa_nil))) (ag_name 3 nd))
      (ass_cons (as_if (at_cmp (or_eq hr.units) (ae_var 3) ae_int (nomark _)) (ass_one (as_ret (ae_tup (aa_cons (ae_tup (aa_cons (ae_ix hr.u1 (ae_lst (aa_cons ae_str (aa_cons ae_str (aa_cons ae_str (aa_cons ae_str (aa_cons ae_int aa_nil)))))) (ae_call ((F__law_next T).mono (by omega)) hr (aa_cons (ae_var 0) (aa_cons ae_int aa_nil)))) (aa_cons (ae_tup (aa_cons (ae_tup aa_nil) aa_nil)) (aa_cons (ae_var 8) (aa_cons (ae_var 9) aa_nil))))) (aa_cons ae_str aa_nil))))) ass_nil)
      (ass_cons (as_if (at_cmp (or_eq hr.units) (ae_var 3) ae_int (nomark _)) (ass_cons (as_asg (ae_lst (aa_cons (ae_tup (aa_cons (ae_op or_add (ae_sl (ae_var 2) ao_none (ao_some ae_int)) (ae_tup (aa_cons (ae_call ((F__law_bad_body T).mono (by omega)) hr (aa_cons (ae_var 0) aa_nil)) aa_nil))) aa_nil)) (aa_cons (ae_tup (aa_cons (ae_op or_add (ae_tup (aa_cons ae_str aa_nil)) (ae_sl (ae_var 2) (ao_some ae_int) ao_none)) aa_nil)) (aa_cons (ae_tup (aa_cons (ae_var 2) (aa_cons (ae_var 2) aa_nil))) (aa_cons (ae_tup (aa_cons (ae_op or_add (ae_tup (aa_cons ae_str aa_nil)) (ae_sl (ae_var 2) (ao_some ae_int) ao_none)) (aa_cons (ae_var 2) aa_nil))) aa_nil))))) (ag_name 5 nd))
      (ass_cons (as_asg (ae_op or_add (ae_var 5) (ae_lst (aa_cons (ae_tup (aa_cons (ae_sl (ae_var 2) ao_none (ao_some ae_int)) aa_nil)) (aa_cons (ae_tup (aa_cons (ae_tup (aa_cons ae_str (aa_cons ae_str (aa_cons ae_str (aa_cons (ae_tup (aa_cons ae_str aa_nil)) aa_nil))))) aa_nil)) aa_nil)))) (ag_name 5 nd))
      (ass_cons (as_asg (ae_op or_add (ae_var 5) (ae_lst (aa_cons (ae_tup (aa_cons (ae_tup (aa_cons ae_str (aa_cons ae_str (aa_cons ae_str (aa_cons (ae_tup (aa_cons ae_str aa_nil)) aa_nil))))) aa_nil)) (aa_cons (ae_tup (aa_cons (ae_tup aa_nil) aa_nil)) aa_nil)))) (ag_name 5 nd))
      (ass_one (as_ret (ae_tup (aa_cons (ae_tup (aa_cons (ae_var 6) (aa_cons (ae_ix hr.u1 (ae_var 5) (ae_call ((F__law_next T).mono (by omega)) hr (aa_cons (ae_var 0) (aa_cons ae_int aa_nil)))) (aa_cons (ae_tup (aa_cons (ae_tup aa_nil) aa_nil)) (aa_cons (ae_var 9) aa_nil))))) (aa_cons ae_str aa_nil)))))))) ass_nil)
      (ass_cons (as_if (at_cmp (or_eq hr.units) (ae_var 3) ae_int (nomark _)) (ass_cons (as_asg (ae_tup (aa_cons ae_str (aa_cons ae_str (aa_cons ae_str aa_nil)))) (ag_name 10 nd))
      (ass_cons (as_asg (ae_lst (aa_cons (ae_tup (aa_cons (ae_var 10) (aa_cons (ae_var 10) aa_nil))) (aa_cons (ae_tup (aa_cons (ae_tup (aa_cons ae_str (aa_cons ae_str aa_nil))) aa_nil)) (aa_cons (ae_tup (aa_cons (ae_tup (aa_cons ae_str (aa_cons ae_str (aa_cons ae_str aa_nil)))) aa_nil)) (aa_cons (ae_tup (aa_cons (ae_tup (aa_cons ae_str (aa_cons ae_str (aa_cons ae_str aa_nil)))) (aa_cons (ae_var 10) aa_nil))) aa_nil))))) (ag_name 5 nd))
      (ass_cons (as_asg (ae_op or_add (ae_var 5) (ae_lst (aa_cons (ae_tup (aa_cons (ae_op or_add (ae_tup (aa_cons ae_str aa_nil)) (ae_sl (ae_var 10) (ao_some ae_int) ao_none)) aa_nil)) (aa_cons (ae_tup (aa_cons (ae_tup (aa_cons ae_str (aa_cons ae_str (aa_cons ae_str aa_nil)))) aa_nil)) aa_nil)))) (ag_name 5 nd))
      (ass_one (as_ret (ae_tup (aa_cons (ae_tup (aa_cons (ae_var 6) (aa_cons (ae_tup (aa_cons (ae_var 2) aa_nil)) (aa_cons (ae_ix hr.u1 (ae_var 5) (ae_call ((F__law_next T).mono (by omega)) hr (aa_cons (ae_var 0) (aa_cons ae_int aa_nil)))) (aa_cons (ae_tup (aa_cons (ae_tup aa_nil) aa_nil)) aa_nil))))) (aa_cons ae_str aa_nil)))))))) ass_nil)
      (ass_cons (as_asg (ae_tup (aa_cons ae_str (aa_cons ae_str aa_nil))) (ag_name 4 nd))
      (ass_cons (as_asg (ae_lst (aa_cons (ae_tup (aa_cons (ae_var 4) (aa_cons (ae_var 4) aa_nil))) (aa_cons (ae_tup (aa_cons (ae_tup (aa_cons ae_str aa_nil)) aa_nil)) (aa_cons (ae_tup (aa_cons (ae_tup (aa_cons ae_str (aa_cons ae_str aa_nil))) aa_nil)) (aa_cons (ae_tup (aa_cons (ae_tup (aa_cons ae_str (aa_cons ae_str aa_nil))) (aa_cons (ae_var 4) aa_nil))) (aa_cons (ae_tup (aa_cons (ae_tup (aa_cons ae_str (aa_cons ae_str aa_nil))) aa_nil)) aa_nil)))))) (ag_name 5 nd))
      (ass_cons (as_asg (ae_op or_add (ae_var 5) (ae_lst (aa_cons (ae_tup (aa_cons (ae_var 4) (aa_cons (ae_tup (aa_cons ae_str (aa_cons ae_str aa_nil))) aa_nil))) (aa_cons (ae_tup (aa_cons (ae_tup aa_nil) aa_nil)) aa_nil)))) (ag_name 5 nd))
      (ass_one (as_ret (ae_tup (aa_cons (ae_tup (aa_cons (ae_var 6) (aa_cons (ae_var 7) (aa_cons (ae_var 8) (aa_cons (ae_ix hr.u1 (ae_var 5) (ae_call ((F__law_next T).mono (by omega)) hr (aa_cons (ae_var 0) (aa_cons ae_int aa_nil)))) aa_nil))))) (aa_cons ae_str aa_nil)))))))))))))), ?_⟩
  rintro _ m Q ⟨ha, hb, p, rfl, R, ok, q⟩
  simp only [Part.enc]
  walk_at "rod"
  have pick : ∀ (l : List D) (x : Int) (m' : Mu) (R' : EK), 0 ≤ x → x < l.length → (∀ d ∈ l, R' d m') → rhoIx (.lst l) (.int x) m' R' := fun l x m' R' h0 h1 h => by
    obtain ⟨k, rfl⟩ := Int.eq_ofNat_of_zero_le h0
    rw [ex_ix_lst]
    have hk : k < l.length := by omega
    exact ⟨l[k], atI_nat (List.getElem?_eq_getElem hk), h _ (List.getElem_mem hk)⟩
  refine nx R (by omega) fun r m1 a1 b1 R1 C1 => ?_
  walk_at "rod"
  by_cases h0 : r = 0
  · rw [if_pos h0]
    refine nx R1 (by omega) fun r2 m2 a2 b2 R2 C2 => ?_
    exact pick odd0 r2 m2 _ a2 b2 fun d hd => Fz.now (q _ _ m2 (odd_name ok hd) R2 (C1.trans C2))
  rw [if_neg h0]
  by_cases h1 : r = 1
  · rw [if_pos h1]
    refine ⟨ha, hb, rfl, R1, fun b m2 hbb R2 C2 => ?_⟩
    refine ⟨by show 4 ≤ sizeLine; decide, ?_⟩
    refine nx R2 (by omega) fun r2 m3 a2 b2 R3 C3 => ?_
    exact pick (odd1 b) r2 m3 _ a2 b2 fun d hd => Fz.now (q _ _ m3 (odd_deeds ok hbb hd) R3 ((C1.trans C2).trans C3))
  rw [if_neg h1]
  by_cases h2 : r = 2
  · rw [if_pos h2]
    refine nx R1 (by omega) fun r2 m2 a2 b2 R2 C2 => ?_
    exact pick odd2 r2 m2 _ a2 b2 fun d hd => Fz.now (q _ _ m2 (odd_asks ok hd) R2 (C1.trans C2))
  rw [if_neg h2]
  refine nx R1 (by omega) fun r2 m2 a2 b2 R2 C2 => ?_
  exact pick odd3 r2 m2 _ a2 b2 fun d hd => Fz.now (q _ _ m2 (odd_cells ok hd) R2 (C1.trans C2))
end K01
/-! the law. -/
namespace K01
open PySem PySem.Spec PyProof.Rows L2 L3
variable {P : Program} {w : World} {K : PySem.W.Frag} {mg : Str → Option Value} {base : Heap}
local macro_rules | `(tactic| walk_at "rl") => `(tactic| simp only [ lcStep, aRng1, sg_inj, D.ref.injEq, yE, yCall, aCallO, aRet, aRetN, aDrop, aIfS, aSeq, aNext, aAsg, gNm, gTupD, gConsD, gNilD, aFor, ex_var0, ex_varS, aC, aOp, aCall, aCons, aNil, aTup, aLst, aB, aAnd, aOr, aNot, aAndV, aOrV, aNotV, aIf, aNeg, aChain, aKix, aKGet1, aKGet2, aDGet1, aDGet2, aNoPart, aPart, aSl, aList, aTupI, aStrI, aZipS, aYes, aLc, aNever, aBreak, aCont, forGo, lcGo,
  isi_str_str, isi_str_int, isi_str_bool, isi_str_tuple, isi_str_list, isi_int_str, isi_int_int, isi_int_bool, isi_int_tuple, isi_int_list, isi_bl_str, isi_bl_int, isi_bl_bool, isi_bl_tuple, isi_bl_list, isi_non_str, isi_non_int, isi_non_bool, isi_non_tuple, isi_non_list, isi_tup_str, isi_tup_int, isi_tup_bool, isi_tup_tuple, isi_tup_list, isi_lst_str, isi_lst_int, isi_lst_bool, isi_lst_tuple, isi_lst_list, isi_dct_str, isi_dct_int, isi_dct_bool, isi_dct_tuple, isi_dct_list, isi2_str, isi2_int, isi2_bl, isi2_non, isi2_tup, isi2_lst, isi2_dct, Option.getD_some, Option.getD_none, D.isNon, sz_0, sz_1, sz_2, sz_3, sz_4, sz_5, sz_6, sz_7, sz_8, sz_9, sz_10, sz_11, sz_12, sz_13, sz_14, sz_15, sz_16, sg_len, ex_in_sg, ex_len_str, ex_len_tup, ex_len_lst, ex_eq_str, ex_ne_str, ex_eq_int, ex_ne_int, ex_eq_ns, ex_eq_sn, ex_eq_nn, ex_ne_ns, ex_ne_sn, ex_ne_nn, ex_I, ex_add_int, ex_add_str, ex_add_tup, ex_add_lst, ex_sub, ex_mul, ex_mod, ex_div, ex_isN, ex_notN, ex_ix_tup, ex_ix_lst, ex_sl_tup, ex_sl_lst, ex_sl_str, ex_tuple_lst,
  ofs_inj, String.reduceEq, atI_0, atI_1, atI_2, atI_3, cut_1, cut_13, startD, wipeD, List.map_cons, List.map_nil, List.length_cons, List.length_nil, List.cons_append, List.nil_append, List.replicate_succ, List.replicate_zero, List.set_cons_zero, List.set_cons_succ, Nat.reduceAdd, Nat.reduceSub, Nat.sub_self,
  D.bl.injEq, D.int.injEq, D.str.injEq, D.tup.injEq, D.lst.injEq, D.dct.injEq, Option.some.injEq, List.cons.injEq, and_assoc, Int.cast_ofNat_Int, Int.reduceAdd, Int.reduceSub, Int.reduceMul, Int.reduceNeg, Int.reduceEq, Int.reduceLT, Int.reduceLE, Int.reduceNe, eq_self, exists_eq_left, exists_eq_left', exists_eq_right, exists_eq, exists_const, exists_false, false_and, and_false, false_or, or_false, true_and, and_true, if_true, if_false, Bool.false_eq_true, Bool.not_true, Bool.not_false, ite_true, ite_false, reduceCtorEq, decide_true, decide_false, decide_eq_true_eq, exists_and_left, Bool.not_eq_true])

theorem rg_neT {m : Mu} {ha hb a : Addr} {c : Cell} (R : Rg ha hb m) (h : m a = some c) (hc : ∀ l, c ≠ .lst l) : a ≠ ha ∧ a ≠ hb := by
  obtain ⟨i, j, ns, e1, e2⟩ := R.ex
  exact ⟨fun z => by rw [z, e1] at h; cases h; exact hc _ rfl, fun z => by rw [z, e2] at h; cases h; exact hc _ rfl⟩
/-- tables stay -/
def TabK (m m' : Mu) : Prop := ∀ a q, m a = some (.tab q) → m' a = some (.tab q)
theorem TabK.trans {m m' m2 : Mu} (h : TabK m m') (g : TabK m' m2) : TabK m m2 := fun a q e => g a q (h a q e)
theorem TabK.ch {ha hb : Addr} {m m' : Mu} (R : Rg ha hb m) (C : Ch ha hb m m') : TabK m m' := fun a q e => by
  obtain ⟨n1, n2⟩ := rg_neT R e (fun _ => Cell.noConfusion)
  rw [C a n1 n2, e]
theorem TabK.sub {m m' : Mu} (s : Sub m m') : TabK m m' := fun a q e => s _ _ e
def TPL (K : PySem.W.Frag) : Addr := (He.cT K ("law", none)).2
def qL : Str := ("law" : Str) ++ ".<locals>." ++ "<lambda>"
theorem wrdT : Wrd (.str "BadTree") := ⟨by decide +kernel, fun _ => D.noConfusion, rfl⟩
theorem wrdS : Wrd (.str "BadShelf") := ⟨by decide +kernel, fun _ => D.noConfusion, rfl⟩
theorem wrdE : Wrd (.str "") := ⟨by decide +kernel, fun _ => D.noConfusion, rfl⟩
theorem wrdP {why : Str} (h : why ∈ (["name", "deeds", "asks", "cells"] : List Str)) : Wrd (.tup [.str "BadPart", .str why]) := by
  simp only [List.mem_cons, List.not_mem_nil, or_false] at h
  rcases h with rfl | rfl | rfl | rfl <;> exact ⟨by decide +kernel, fun _ => D.noConfusion, rfl⟩
theorem cut_one {xs : List D} {j : Nat} {x : D} (h : xs[j]? = some x) : L3.cutD xs (some (j : Nat)) (some ((j : Nat) + 1)) = [x] := by
  have hl := (List.getElem?_eq_some_iff.mp h).1
  unfold L3.cutD
  rw [show ((j : Nat) : Int) + 1 = ((j + 1 : Nat) : Int) by omega, HT.sIx_nat, HT.sIx_nat, Nat.min_eq_left (by omega), Nat.min_eq_left (by omega), show j + 1 - j = 1 by omega, List.drop_eq_getElem_cons hl]
  have := (List.getElem?_eq_some_iff.mp h).2
  rw [this]
  rfl
theorem cut_from {xs : List D} {j : Nat} : L3.cutD xs (some ((j : Nat) + 1)) none = xs.drop (j + 1) := by
  rw [show ((j : Nat) : Int) + 1 = ((j + 1 : Nat) : Int) by omega, cut_hi']
theorem emp_ok {c : Nat} (h : partC c) : (⟨c, [], [], []⟩ : Part).ok where
  nm := h
  dl := Nat.zero_le _
  al := Nat.zero_le _
  cl := Nat.zero_le _
  dok := fun _ h => nomatch h
  aok := fun _ h => nomatch h
  cok := fun _ h => nomatch h
  dr := List.Pairwise.nil
  ar := List.Pairwise.nil
  cr := List.Pairwise.nil
  dis := fun _ h => nomatch h
theorem F_law (T : Txt K w mg) (BS : TBS base mg K) (BL : LamX.TabB base mg (He.codeOf K ("law", none)) (TPL K)) {fd : FuncData} (F : FunD K "law" "law" (defArgs s_law) (defBody s_law) (defScope s_law) [] [] (He.fAd K ("law", none)) fd) : FnOk P w K mg base L2.CX0 60 (He.fAd K ("law", none)) fd ["_law_script"] (spD K (sp_law0Ts [(TPS K, qS), (TPL K, qL)])) := by
  have nd := sc_law.nd
  refine okZL F sc_law (fun ds m Q ⟨_, e, _⟩ => by rw [e]; rfl) fun f A outer s H E hr => ⟨_, (ass_cons (as_asg (ae_call ((F__law_mixC T).mono (by omega)) hr (aa_cons (ae_var 0) (aa_cons ae_int aa_nil))) (ag_name 1 nd))
      (ass_cons (as_for PassesOwn.never rfl (ai_rng1 T.b_range (aa_cons ae_int aa_nil)) (ag_name 2 nd)
      (ass_cons (as_asg (ae_call ((F__law_shelf T).mono (by omega)) hr (aa_cons (ae_var 1) aa_nil)) (ag_name 3 nd))
      (ass_cons (as_asg (ae_call ((F__law_next T).mono (by omega)) hr (aa_cons (ae_var 1) (aa_cons (ae_callB cr_len T.b_len boot_len (aa_cons (ae_var 3) aa_nil)) aa_nil))) (ag_name 4 nd))
      (ass_cons (as_asg (ae_call ((F__law_odd T).mono (by omega)) hr (aa_cons (ae_var 1) (aa_cons (ae_ix hr.u1 (ae_var 3) (ae_var 4)) aa_nil))) (ag_tup (n := 2) rfl (ags_cons (ag_name 7 nd) (ags_cons (ag_name 8 nd) ags_nil))))
      (ass_cons (as_if (at_not (at_val (ae_callO ((F__law_are (P := P) (w := w) (base := base) T).mono (by omega)) hr nd (fun _ => rfl) (aa_cons (ae_lst (aa_cons (ae_lamG (k := 45) [7] BL rfl (lamT_by (by kernel_rfl)) (by kernel_rfl) (fun A outer s H E f c' hr => (aey_call ((FY_rightB T).mono (by omega)) hr (aa_cons (ae_var 7) aa_nil)))) (aa_cons (ae_lamGd (k := 45) "_law_a" [7] BL rfl (lamT_by (by kernel_rfl)) (by kernel_rfl) (fun A outer s H E f c' hr => (aey_call ((FY_writtenB T).mono (by omega)) hr (aa_cons (ae_var 7) aa_nil)))) aa_nil))) (aa_cons (ae_tup (aa_cons ae_str (aa_cons (ae_var 8) aa_nil))) aa_nil))))) (ass_one (as_ret ae_bl)) ass_nil)
      (ass_cons (as_asg (ae_op or_add (ae_op or_add (ae_op or_add (ae_sl (ae_var 3) ao_none (ao_some (ae_var 4))) (ae_lst (aa_cons (ae_var 7) aa_nil))) (ae_sl (ae_var 3) (ao_some (ae_op or_add (ae_var 4) ae_int)) ao_none)) (ae_op or_mul (ae_lst (aa_cons (ae_tup (aa_cons ae_int (aa_cons ae_int aa_nil))) aa_nil)) (ae_call ((F__law_next T).mono (by omega)) hr (aa_cons (ae_var 1) (aa_cons ae_int aa_nil))))) (ag_name 5 nd))
      (ass_cons (as_if (at_not (at_val (ae_call ((F__law_are (P := P) (w := w) (base := base) T).mono (by omega)) hr (aa_cons (ae_call ((F__law_works (P := P) (base := base) T BS).mono (by omega)) hr (aa_cons (ae_var 5) aa_nil)) (aa_cons (ae_tup (aa_cons ae_str (aa_cons (ae_var 8) aa_nil))) aa_nil))))) (ass_one (as_ret ae_bl)) ass_nil)
      (ass_cons (as_asg (ae_lst (aa_cons (ae_op or_add (ae_var 3) (ae_sl (ae_var 3) (ao_some (ae_var 4)) (ao_some (ae_op or_add (ae_var 4) ae_int)))) (aa_cons (ae_sl (ae_op or_add (ae_lc (own := [("_law_name", 9)]) rfl nd (ai_str ae_str) (blkOk_by (own := [("_law_name", 9)]) (by kernel_rfl)) (gg_name (i := 9) (by simp)) (fun _ _ _ _ _ => (pg_name (i := 9) nd rfl (Or.inl rfl))) (fun _ _ _ _ _ => ats_nil) (fun _ _ _ _ _ => (ae_tup (aa_cons (ae_var 9) (aa_cons (ae_tup aa_nil) (aa_cons (ae_tup aa_nil) (aa_cons (ae_tup aa_nil) aa_nil))))))) (ae_var 3)) ao_none (ao_some (ae_op or_add ae_int (ae_call ((F__law_next T).mono (by omega)) hr (aa_cons (ae_var 1) (aa_cons ae_int aa_nil)))))) aa_nil))) (ag_name 6 nd))
      (ass_cons (as_if (at_not (at_val (ae_call ((F__law_are (P := P) (w := w) (base := base) T).mono (by omega)) hr (aa_cons (ae_call ((F__law_works (P := P) (base := base) T BS).mono (by omega)) hr (aa_cons (ae_ix hr.u1 (ae_var 6) (ae_call ((F__law_next T).mono (by omega)) hr (aa_cons (ae_var 1) (aa_cons ae_int aa_nil)))) aa_nil)) (aa_cons ae_str aa_nil))))) (ass_one (as_ret ae_bl)) ass_nil)
      (ass_one (as_if (AW.t (aw_or (at_not (at_val (ae_call ((F__law_are (P := P) (w := w) (base := base) T).mono (by omega)) hr (aa_cons (ae_sl (ae_call ((F__law_works (P := P) (base := base) T BS).mono (by omega)) hr (aa_cons (ae_var 3) aa_nil)) ao_none (ao_some ae_int)) (aa_cons ae_str aa_nil))))) (aw_or1 (at_not (at_val (ae_callO ((F__law_are (P := P) (w := w) (base := base) T).mono (by omega)) hr nd (fun _ => rfl) (aa_cons (ae_lst (aa_cons (ae_lamG (k := 45) [3, 4] BL rfl (lamT_by (by kernel_rfl)) (by kernel_rfl) (fun A outer s H E f c' hr => (aey_call ((FY_rightB T).mono (by omega)) hr (aa_cons (ae_ix hr.u1 (ae_var 3) (ae_var 4)) aa_nil)))) aa_nil)) (aa_cons ae_str aa_nil)))))))) (ass_one (as_ret ae_bl)) ass_nil)))))))))))
      (ass_one (as_ret ae_bl)))), ?_⟩
  rintro _ m Q ⟨ns, rfl, hns, hm, q⟩
  have hmS : m (TPS K) = some (.tab qS) := hm _ List.mem_cons_self
  have hmL : m (TPL K) = some (.tab qL) := hm _ (List.mem_cons_of_mem _ List.mem_cons_self)
  walk_at "rl"
  refine ⟨ns, 3, rfl, fun ha hb m1 R na nb C0 => ?_⟩
  have k1 : TabK m m1 := fun a q e => (C0 _ (fun z => by rw [z, na] at e; cases e) (fun z => by rw [z, nb] at e; cases e)).trans e
  refine ⟨by decide, by decide, for_rng (fun i δ m' => Rg ha hb m' ∧ TabK m m' ∧ ∃ o2 o3 o4 o5 o6 o7 o8 o9, δ = [some (.fl ns), some (.ref ha), o2, o3, o4, o5, o6, o7, o8, o9]) ?_ ?_ ⟨R, k1, _, _, _, _, _, _, _, _, rfl⟩⟩
  · rintro i δ m2 _ ⟨R2, k2, o2, o3, o4, o5, o6, o7, o8, o9, rfl⟩ nx2 hnx2
    walk_at "rl"
    refine ⟨ha, hb, rfl, R2, fun sg cl ps m3 hs R3 C3 => ?_⟩
    have k3 := k2.trans (TabK.ch R2 C3)
    have hsh := hs.sh
    have h6 := hs.six
    have h1 := hs.one
    walk_at "rl"
    rw [List.length_map]
    refine nx R3 (by omega) fun r m4 a4 b4 R4 C4 => ?_
    have k4 := k3.trans (TabK.ch R3 C4)
    obtain ⟨j, rfl⟩ := Int.eq_ofNat_of_zero_le a4
    have hj : j < ps.length := by omega
    obtain ⟨p, hpj⟩ : ∃ p, ps[j]? = some p := ⟨_, List.getElem?_eq_getElem hj⟩
    have hp : p ∈ ps := List.mem_of_getElem? hpj
    have hat : (ps.map Part.enc)[j]? = some p.enc := by rw [List.getElem?_map, hpj]; rfl
    rw [ex_ix_lst]
    refine ⟨_, atI_nat hat, ha, hb, p, rfl, R4, hsh.ok p hp, fun od why m5 hod R5 C5 => ?_⟩
    have k5 := k4.trans (TabK.ch R4 C5)
    obtain ⟨hop, hwy, hin⟩ := hod
    have hwe : whyD od ≠ "" := by
      rw [hwy]
      simp only [List.mem_cons, List.not_mem_nil, or_false] at hin
      rcases hin with rfl | rfl | rfl | rfl <;> decide +kernel
    refine ⟨_, rfl, rfl, _, _, rfl, _, _, rfl, rfl, ?_⟩
    have hq : (cxOf L2.CX0 P w K mg base ["_law_script", "_law_h", "_law_turn", "_law_shelf_here", "_law_k", "_law_bad", "_law_many", "_law_odd_here", "_law_why", "_law_name"] "law" (defScope s_law) f (.ref (He.codeOf K ("law", none))) A outer s H E).nox.env.qual ++ "<lambda>" = qL := rfl
    have hP : Ph (cxOf L2.CX0 P w K mg base ["_law_script", "_law_h", "_law_turn", "_law_shelf_here", "_law_k", "_law_bad", "_law_many", "_law_odd_here", "_law_why", "_law_name"] "law" (defScope s_law) f (.ref (He.codeOf K ("law", none))) A outer s H E).nox P w K mg base := ⟨rfl, rfl, rfl, rfl, rfl⟩
    have cl : ∀ {y : Str}, y ∈ (["_law_shelf_here", "_law_k", "_law_odd_here"] : List Str) → (defScope s_law).names.lookup y = some .cell := fun {y} hy => by
      simp only [List.mem_cons, List.not_mem_nil, or_false] at hy
      rcases hy with rfl | rfl | rfl <;> decide +kernel
    have knP : KnownR (some (("BadPart" : Str), some (("why" : Str), D.str why))) := (by simp : (("BadPart" : Str), ("why" : Str)) ∈ ([("BadPart", "why"), ("NotRight", "name"), ("BadText", "place")] : List (Str × Str)))
    have knS : Known "BadShelf" none := (by simp : ("BadShelf" : Str) ∈ (["BadShelf", "BadTree", "NotWhole", "BadCall", "Long"] : List Str))
    have kn0 : KnownR none := trivial
    refine lam_go hq (k5 _ _ hmL) fun m6 d6 s6 hm6 c6 => ?_
    refine lam_go hq hm6 fun m7 d7 s7 hm7 c7 => ?_
    have k7 := (k5.trans (TabK.sub s6)).trans (TabK.sub s7)
    have R7 : Rg ha hb m7 := (R5.keep s6).keep s7
    intro mO O
    have em : maskD [some (.fl ns), some (.ref ha), some (.int (0 + (i : Nat))), some (.lst (ps.map Part.enc)), some (.int (j : Nat)), o5, o6, some od, some (.str why), o9] [7] = [none, none, none, none, none, none, none, some od, none, none] := rfl
    refine ⟨_, _, rfl, by simp, wrdP hin, fun d hd => ?_, rfl, true, rfl, ?_⟩
    · simp only [List.mem_cons, List.not_mem_nil, or_false] at hd
      rcases hd with ed | ed
      · subst ed
        refine tells_of hP (c6.mono s7) O rfl (fun x hx => ?_) ?_ knP rfl
        · rw [List.mem_singleton.mp hx]
          exact ⟨_, _, rfl, cl (by simp), rfl⟩
        · intro m' Q' xq' _ hx _
          rw [em]
          walk_at "rl"
          exact ⟨od, rfl, .inl ⟨hop, hwe, by rw [hwy]; exact hx _ _ rfl⟩⟩
      · subst ed
        refine tells_of hP c7 O rfl (fun x hx => ?_) ?_ knP rfl
        · rw [List.mem_singleton.mp hx]
          exact ⟨_, _, rfl, cl (by simp), rfl⟩
        · intro m' Q' xq' _ hx _
          rw [em]
          walk_at "rl"
          exact ⟨od, rfl, hop, hwe, by rw [hwy]; exact hx _ _ rfl⟩
    rw [if_neg (by simp)]
    walk_at "rl"
    have lt : (List.take j (ps.map Part.enc)).length ≤ 6 := by rw [List.length_take, List.length_map]; omega
    have ld : (List.drop (j + 1) (ps.map Part.enc)).length ≤ 6 := by rw [List.length_drop, List.length_map]; omega
    rw [cut_lo', cut_from]
    refine ⟨szl (by omega), szl (by rw [List.length_append]; simp only [List.length_cons, List.length_nil]; omega), ?_⟩
    refine nx R7 (by omega) fun r1 m8 a8 b8 R8 C8 => ?_
    have k8 := k7.trans (TabK.ch R7 C8)
    rw [ex_mul_lst]
    refine ⟨a8, by omega, by simp only [List.length_cons, List.length_nil]; exact szl (by omega), ?_⟩
    obtain ⟨post, hpost⟩ : ∃ post, post = List.drop (j + 1) (ps.map Part.enc) ++ (List.replicate r1.toNat [D.tup [.int 1, .int 2]]).flatten := ⟨_, rfl⟩
    have lp : (List.replicate r1.toNat [D.tup [.int 1, .int 2]]).flatten.length ≤ 2 := by
      rw [List.length_flatten, List.map_replicate, List.sum_replicate_nat]
      simp only [List.length_cons, List.length_nil]
      omega
    walk_at "rl"
    refine ⟨szl (by simp only [List.length_append, List.length_cons, List.length_nil]; omega), ?_⟩
    refine ⟨_, rfl, k8 _ _ hmS, fun fs m9 l9 t9 _ s9 => ?_⟩
    have k9 := k8.trans (TabK.sub s9)
    have R9 : Rg ha hb m9 := R8.keep s9
    refine ⟨fs, _, rfl, by omega, wrdP hin, t9 "BadPart" (some (("why" : Str), D.str why)) (.inl ⟨List.take j (ps.map Part.enc), od, post, by rw [hpost]; simp, fun x hx => ?_, hop, hwe, rfl, by rw [hwy]⟩) knP, true, rfl, ?_⟩
    · obtain ⟨p2, hp2, rfl⟩ := List.mem_map.mp (List.mem_of_mem_take hx)
      exact ⟨part_ok (hsh.ok p2 hp2), why_good (hsh.ok p2 hp2)⟩
    rw [if_neg (by simp), cut_one hat]
    refine ⟨szl (by simp only [List.length_cons, List.length_nil]; omega), by rw [cps_parts]; decide, ?_⟩
    rw [cps_parts]
    refine lc_pure (fun d => some (.tup [d, .tup [], .tup [], .tup []])) (fun d hd R r => ?_) ?_
    · walk_at "rl"
      exact r
    obtain ⟨eps, heps⟩ : ∃ eps : List Part, eps = ([65, 66, 67, 68, 69, 70] : List Nat).map fun c => ⟨c, [], [], []⟩ := ⟨_, rfl⟩
    have e6 : eps.length = 6 := by rw [heps]; rfl
    have eok : ∀ q ∈ eps, q.ok := fun q hq => by
      rw [heps] at hq
      obtain ⟨c, hc, rfl⟩ := List.mem_map.mp hq
      exact emp_ok (show c ∈ ([65, 66, 67, 68, 69, 70] : List Nat) from hc)
    rw [List.nil_append, show (([65, 66, 67, 68, 69, 70] : List Nat).map fun c => D.str ⟨#[c]⟩).filterMap (fun d => some (D.tup [d, .tup [], .tup [], .tup []])) = eps.map Part.enc from by rw [heps]; rfl]
    walk_at "rl"
    refine ⟨szl (by simp only [List.length_map]; omega), ?_⟩
    refine nx R9 (by omega) fun r2 m10 a10 b10 R10 C10 => ?_
    have k10 := k9.trans (TabK.ch R9 C10)
    walk_at "rl"
    obtain ⟨t2, rfl⟩ := Int.eq_ofNat_of_zero_le a10
    rw [show (7 : Int) + (t2 : Nat) = ((7 + t2 : Nat) : Int) by omega, cut_lo']
    refine nx R10 (by omega) fun r3 m11 a11 b11 R11 C11 => ?_
    have k11 := k10.trans (TabK.ch R10 C11)
    obtain ⟨qs, hqs, qok, q20, qbad⟩ : ∃ qs : List Part, atI [D.lst (ps.map Part.enc ++ [p.enc]), .lst (List.take (7 + t2) (eps.map Part.enc ++ ps.map Part.enc))] r3 = some (.lst (qs.map Part.enc)) ∧ (∀ q ∈ qs, q.ok) ∧ qs.length ≤ 20 ∧ (6 < qs.length ∨ ¬ (qs.map (·.nm)).Nodup) := by
      rcases (show r3 = 0 ∨ r3 = 1 by omega) with e | e <;> subst e
      · refine ⟨ps ++ [p], by rw [List.map_append]; exact atI_0, fun q hq => ?_, by simp; omega, .inr fun nd2 => ?_⟩
        · rcases List.mem_append.mp hq with z | z
          · exact hsh.ok q z
          · rw [List.mem_singleton.mp z]; exact hsh.ok p hp
        · rw [List.map_append] at nd2
          have := (List.nodup_append.mp nd2).2.2 p.nm (List.mem_map.mpr ⟨p, hp, rfl⟩) p.nm (by simp)
          exact this rfl
      · refine ⟨(eps ++ ps).take (7 + t2), by rw [List.map_take, List.map_append]; exact atI_1, fun q hq => ?_, by rw [List.length_take, List.length_append]; omega, .inl (by rw [List.length_take, List.length_append]; omega)⟩
        rcases List.mem_append.mp (List.mem_of_mem_take hq) with z | z
        · exact eok q z
        · exact hsh.ok q z
    rw [ex_ix_lst]
    refine ⟨_, hqs, ?_⟩
    refine ⟨_, rfl, k11 _ _ hmS, fun gs m12 l12 t12 _ s12 => ?_⟩
    have k12 := k11.trans (TabK.sub s12)
    have R12 : Rg ha hb m12 := R11.keep s12
    refine ⟨gs, _, rfl, by omega, wrdS, t12 "BadShelf" none (.inr ⟨qs, rfl, qok, q20, qbad, rfl, rfl⟩) knS, true, rfl, ?_⟩
    rw [if_neg (by simp)]
    refine ⟨_, rfl, k12 _ _ hmS, fun us m13 l13 _ t13 s13 => ?_⟩
    have k13 := k12.trans (TabK.sub s13)
    have R13 : Rg ha hb m13 := R12.keep s13
    walk_at "rl"
    rw [show (9 : Int) = ((9 : Nat) : Int) from rfl, cut_lo']
    refine ⟨us.take 9, _, rfl, by rw [List.length_take]; omega, wrdT, t13 ⟨ps, rfl, hsh⟩, true, rfl, ?_⟩
    rw [if_neg (by simp)]
    refine lam_go hq (k13 _ _ hmL) fun m14 d14 s14 hm14 c14 => ?_
    have k14 := k13.trans (TabK.sub s14)
    have R14 : Rg ha hb m14 := R13.keep s14
    intro mP O2
    refine ⟨_, _, rfl, by simp, wrdE, fun d hd => ?_, rfl, true, rfl, ?_⟩
    · rw [List.mem_singleton.mp hd]
      refine tells_of (r := none) hP c14 O2 rfl (fun x hx => ?_) ?_ kn0 rfl
      · simp only [List.mem_cons, List.not_mem_nil, or_false] at hx
        rcases hx with rfl | rfl <;> exact ⟨_, _, rfl, cl (by simp), rfl⟩
      · intro m' Q' xq' _ _ hx
        show yCall sp_rightB (aCons (aOp rhoIx (aVar 3) (aVar 4)) aNil) [none, none, none, some (.lst (ps.map Part.enc)), some (.int (j : Nat)), none, none, none, none, none] m' Q' xq'
        walk_at "rl"
        exact ⟨_, atI_nat hat, _, rfl, .inr ⟨p, rfl, hsh.ok p hp, fun e m2 s2 => hx rfl e m2 s2⟩⟩
    rw [if_neg (by simp)]
    exact hnx2 _ _ ⟨R14, k14, _, _, _, _, _, _, _, _, rfl⟩
  · rintro δ m2 ⟨R2, k2, o2, o3, o4, o5, o6, o7, o8, o9, rfl⟩
    walk_at "rl"
    exact Fz.now (q _)
end K01
set_option maxHeartbeats 0
/-! the end. -/
namespace K01
open PySem PySem.Spec PyProof.Rows L2 L3
section
variable {w : World} {K : PySem.W.Frag} {h : Heap} {mg : Str → Option Value}
theorem txt (X : K.In h) (G : h.Ns mainGlobals mg) (c : He.SaysX fa fn ts [("_law_works", none), ("law", none)] ex w h K) : Txt K w mg := by
  refine {
    d_is_letter := by
      obtain ⟨fd, F⟩ := c.t.d.def_ 0 (d := dd_is_letter) rfl
      exact defT_of F (He.glo_ok X G (c.t.d.fact 0 (f := .glo "is_letter") rfl)) (FunD.bindsN F fun _ _ _ _ _ _ us hl => match us, hl with | [_, _], _ => rfl)
    d_is_whole_kinds := by
      obtain ⟨fd, F⟩ := c.t.d.def_ 1 (d := dd_is_whole_kinds) rfl
      exact defN_of F (He.glo_ok X G (c.t.d.fact 1 (f := .glo "is_whole_kinds") rfl)) (FunD.bindsN F fun _ _ _ _ _ _ us hl => match us, hl with | [_], _ => rfl)
    d_is_arm := by
      obtain ⟨fd, F⟩ := c.t.d.def_ 2 (d := dd_is_arm) rfl
      exact defT_of F (He.glo_ok X G (c.t.d.fact 2 (f := .glo "is_arm") rfl)) (FunD.bindsN F fun _ _ _ _ _ _ us hl => match us, hl with | [_, _], _ => rfl)
    d_words_in := by
      obtain ⟨fd, F⟩ := c.t.d.def_ 3 (d := dd_words_in) rfl
      exact defT_of F (He.glo_ok X G (c.t.d.fact 3 (f := .glo "words_in") rfl)) (FunD.bindsN F fun _ _ _ _ _ _ us hl => match us, hl with | [_, _], _ => rfl)
    d_is_body := by
      obtain ⟨fd, F⟩ := c.t.d.def_ 4 (d := dd_is_body) rfl
      exact defT_of F (He.glo_ok X G (c.t.d.fact 4 (f := .glo "is_body") rfl)) (FunD.bindsN F fun _ _ _ _ _ _ us hl => match us, hl with | [_], _ => rfl)
    d_within := by
      obtain ⟨fd, F⟩ := c.t.d.def_ 5 (d := dd_within) rfl
      exact defT_of F (He.glo_ok X G (c.t.d.fact 5 (f := .glo "within") rfl)) (FunD.bindsN F fun _ _ _ _ _ _ us hl => match us, hl with | [_], _ => rfl)
    d_kind_in := by
      obtain ⟨fd, F⟩ := c.t.d.def_ 6 (d := dd_kind_in) rfl
      exact defT_of F (He.glo_ok X G (c.t.d.fact 6 (f := .glo "kind_in") rfl)) (FunD.bindsN F fun _ _ _ _ _ _ us hl => match us, hl with | [_, _, _, _], _ => rfl)
    d_are_kinds := by
      obtain ⟨fd, F⟩ := c.t.d.def_ 7 (d := dd_are_kinds) rfl
      exact defT_of F (He.glo_ok X G (c.t.d.fact 7 (f := .glo "are_kinds") rfl)) (FunD.bindsN F fun _ _ _ _ _ _ us hl => match us, hl with | [_], _ => rfl)
    d_are_rising := by
      obtain ⟨fd, F⟩ := c.t.d.def_ 8 (d := dd_are_rising) rfl
      exact defT_of F (He.glo_ok X G (c.t.d.fact 8 (f := .glo "are_rising") rfl)) (FunD.bindsN F fun _ _ _ _ _ _ us hl => match us, hl with | [_], _ => rfl)
    d_are_rows := by
      obtain ⟨fd, F⟩ := c.t.d.def_ 9 (d := dd_are_rows) rfl
      exact defT_of F (He.glo_ok X G (c.t.d.fact 9 (f := .glo "are_rows") rfl)) (FunD.bindsN F fun _ _ _ _ _ _ us hl => match us, hl with | [_, _, _, _], _ => rfl)
    d_are_deeds := by
      obtain ⟨fd, F⟩ := c.t.d.def_ 10 (d := dd_are_deeds) rfl
      exact defT_of F (He.glo_ok X G (c.t.d.fact 10 (f := .glo "are_deeds") rfl)) (FunD.bindsN F fun _ _ _ _ _ _ us hl => match us, hl with | [_], _ => rfl)
    d_why_none := by
      obtain ⟨fd, F⟩ := c.t.d.def_ 11 (d := dd_why_none) rfl
      exact defT_of F (He.glo_ok X G (c.t.d.fact 11 (f := .glo "why_none") rfl)) (FunD.bindsN F fun _ _ _ _ _ _ us hl => match us, hl with | [_], _ => rfl)
    d_need_part := by
      obtain ⟨fd, F⟩ := c.t.d.def_ 12 (d := dd_need_part) rfl
      exact defT_of F (He.glo_ok X G (c.t.d.fact 12 (f := .glo "need_part") rfl)) (FunD.bindsN F fun _ _ _ _ _ _ us hl => match us, hl with | [_], _ => rfl)
    d_need_shelf := by
      obtain ⟨fd, F⟩ := c.t.d.def_ 13 (d := dd_need_shelf) rfl
      exact defT_of F (He.glo_ok X G (c.t.d.fact 13 (f := .glo "need_shelf") rfl)) (FunD.bindsN F fun _ _ _ _ _ _ us hl => match us, hl with | [_], _ => rfl)
    d_given_in := by
      obtain ⟨fd, F⟩ := c.t.d.def_ 14 (d := dd_given_in) rfl
      exact defT_of F (He.glo_ok X G (c.t.d.fact 14 (f := .glo "given_in") rfl)) (FunD.bindsN F fun _ _ _ _ _ _ us hl => match us, hl with | [_], _ => rfl)
    d_wrong_deed := by
      obtain ⟨fd, F⟩ := c.t.d.def_ 15 (d := dd_wrong_deed) rfl
      exact defT_of F (He.glo_ok X G (c.t.d.fact 15 (f := .glo "wrong_deed") rfl)) (FunD.bindsN F fun _ _ _ _ _ _ us hl => match us, hl with | [_], _ => rfl)
    d_right := by
      obtain ⟨fd, F⟩ := c.t.d.def_ 16 (d := dd_right) rfl
      exact defT_of F (He.glo_ok X G (c.t.d.fact 16 (f := .glo "right") rfl)) (FunD.bindsN F fun _ _ _ _ _ _ us hl => match us, hl with | [_], _ => rfl)
    d_trees_in := by
      obtain ⟨fd, F⟩ := c.t.d.def_ 17 (d := dd_trees_in) rfl
      exact defT_of F (He.glo_ok X G (c.t.d.fact 17 (f := .glo "trees_in") rfl)) (FunD.bindsN F fun _ _ _ _ _ _ us hl => match us, hl with | [_, _, _], _ => rfl)
    d_need_tree := by
      obtain ⟨fd, F⟩ := c.t.d.def_ 18 (d := dd_need_tree) rfl
      exact defT_of F (He.glo_ok X G (c.t.d.fact 18 (f := .glo "need_tree") rfl)) (FunD.bindsN F fun _ _ _ _ _ _ us hl => match us, hl with | [_, _], _ => rfl)
    d_forms := by
      obtain ⟨fd, F⟩ := c.t.d.def_ 19 (d := dd_forms) rfl
      exact defT_of F (He.glo_ok X G (c.t.d.fact 19 (f := .glo "forms") rfl)) (FunD.bindsN F fun _ _ _ _ _ _ us hl => match us, hl with | [_, _], _ => rfl)
    d_wanting := by
      obtain ⟨fd, F⟩ := c.t.d.def_ 20 (d := dd_wanting) rfl
      exact defT_of F (He.glo_ok X G (c.t.d.fact 20 (f := .glo "wanting") rfl)) (FunD.bindsN F fun _ _ _ _ _ _ us hl => match us, hl with | [_, _], _ => rfl)
    d_parted := by
      obtain ⟨fd, F⟩ := c.t.d.def_ 21 (d := dd_parted) rfl
      exact defT_of F (He.glo_ok X G (c.t.d.fact 21 (f := .glo "parted") rfl)) (FunD.bindsN F fun _ _ _ _ _ _ us hl => match us, hl with | [_, _, _], _ => rfl)
    d_alike := by
      obtain ⟨fd, F⟩ := c.t.d.def_ 22 (d := dd_alike) rfl
      exact defT_of F (He.glo_ok X G (c.t.d.fact 22 (f := .glo "alike") rfl)) (FunD.bindsN F fun _ _ _ _ _ _ us hl => match us, hl with | [_, _, _], _ => rfl)
    d_flat := by
      obtain ⟨fd, F⟩ := c.t.d.def_ 23 (d := dd_flat) rfl
      exact defT_of F (He.glo_ok X G (c.t.d.fact 23 (f := .glo "flat") rfl)) (FunD.bindsN F fun _ _ _ _ _ _ us hl => match us, hl with | [_, _, _], _ => rfl)
    d_givers := by
      obtain ⟨fd, F⟩ := c.t.d.def_ 24 (d := dd_givers) rfl
      exact defT_of F (He.glo_ok X G (c.t.d.fact 24 (f := .glo "givers") rfl)) (FunD.bindsN F fun _ _ _ _ _ _ us hl => match us, hl with | [_, _], _ => rfl)
    d_written := by
      obtain ⟨fd, F⟩ := c.t.d.def_ 25 (d := dd_written) rfl
      exact defT_of F (He.glo_ok X G (c.t.d.fact 25 (f := .glo "written") rfl)) (FunD.bindsN F fun _ _ _ _ _ _ us hl => match us, hl with | [_], _ => rfl)
    d_written_tree := by
      obtain ⟨fd, F⟩ := c.t.d.def_ 26 (d := dd_written_tree) rfl
      exact defT_of F (He.glo_ok X G (c.t.d.fact 26 (f := .glo "written_tree") rfl)) (FunD.bindsN F fun _ _ _ _ _ _ us hl => match us, hl with | [_, _], _ => rfl)
    d_read_tree := by
      obtain ⟨fd, F⟩ := c.t.d.def_ 27 (d := dd_read_tree) rfl
      exact defT_of F (He.glo_ok X G (c.t.d.fact 27 (f := .glo "read_tree") rfl)) (FunD.bindsN F fun _ _ _ _ _ _ us hl => match us, hl with | [_, _], _ => rfl)
    d_tried := by
      obtain ⟨fd, F⟩ := c.t.d.def_ 28 (d := dd_tried) rfl
      exact defT_of F (He.glo_ok X G (c.t.d.fact 28 (f := .glo "tried") rfl)) (FunD.bindsN F fun _ _ _ _ _ _ us hl => match us, hl with | [_, _, _, _], _ => rfl)
    d__law_mix := by
      obtain ⟨fd, F⟩ := c.t.d.def_ 29 (d := dd__law_mix) rfl
      exact defT_of F (He.glo_ok X G (c.t.d.fact 29 (f := .glo "_law_mix") rfl)) (FunD.bindsN F fun _ _ _ _ _ _ us hl => match us, hl with | [_, _], _ => rfl)
    d__law_next := by
      obtain ⟨fd, F⟩ := c.t.d.def_ 30 (d := dd__law_next) rfl
      exact defT_of F (He.glo_ok X G (c.t.d.fact 30 (f := .glo "_law_next") rfl)) (FunD.bindsN F fun _ _ _ _ _ _ us hl => match us, hl with | [_, _], _ => rfl)
    d__law_leaf := by
      obtain ⟨fd, F⟩ := c.t.d.def_ 31 (d := dd__law_leaf) rfl
      exact defT_of F (He.glo_ok X G (c.t.d.fact 31 (f := .glo "_law_leaf") rfl)) (FunD.bindsN F fun _ _ _ _ _ _ us hl => match us, hl with | [_, _, _], _ => rfl)
    d__law_call := by
      obtain ⟨fd, F⟩ := c.t.d.def_ 32 (d := dd__law_call) rfl
      exact defT_of F (He.glo_ok X G (c.t.d.fact 32 (f := .glo "_law_call") rfl)) (FunD.bindsN F fun _ _ _ _ _ _ us hl => match us, hl with | [_, _, _, _], _ => rfl)
    d__law_body := by
      obtain ⟨fd, F⟩ := c.t.d.def_ 33 (d := dd__law_body) rfl
      exact defT_of F (He.glo_ok X G (c.t.d.fact 33 (f := .glo "_law_body") rfl)) (FunD.bindsN F fun _ _ _ _ _ _ us hl => match us, hl with | [_, _, _, _], _ => rfl)
    d__law_reckons := by
      obtain ⟨fd, F⟩ := c.t.d.def_ 34 (d := dd__law_reckons) rfl
      exact defT_of F (He.glo_ok X G (c.t.d.fact 34 (f := .glo "_law_reckons") rfl)) (FunD.bindsN F fun _ _ _ _ _ _ us hl => match us, hl with | [_, _, _, _], _ => rfl)
    d__law_calls := by
      obtain ⟨fd, F⟩ := c.t.d.def_ 35 (d := dd__law_calls) rfl
      exact defT_of F (He.glo_ok X G (c.t.d.fact 35 (f := .glo "_law_calls") rfl)) (FunD.bindsN F fun _ _ _ _ _ _ us hl => match us, hl with | [_], _ => rfl)
    d__law_used := by
      obtain ⟨fd, F⟩ := c.t.d.def_ 36 (d := dd__law_used) rfl
      exact defT_of F (He.glo_ok X G (c.t.d.fact 36 (f := .glo "_law_used") rfl)) (FunD.bindsN F fun _ _ _ _ _ _ us hl => match us, hl with | [_], _ => rfl)
    d__law_part := by
      obtain ⟨fd, F⟩ := c.t.d.def_ 37 (d := dd__law_part) rfl
      exact defT_of F (He.glo_ok X G (c.t.d.fact 37 (f := .glo "_law_part") rfl)) (FunD.bindsN F fun _ _ _ _ _ _ us hl => match us, hl with | [_, _, _, _, _, _], _ => rfl)
    d__law_shelf := by
      obtain ⟨fd, F⟩ := c.t.d.def_ 38 (d := dd__law_shelf) rfl
      exact defT_of F (He.glo_ok X G (c.t.d.fact 38 (f := .glo "_law_shelf") rfl)) (FunD.bindsN F fun _ _ _ _ _ _ us hl => match us, hl with | [_], _ => rfl)
    d__law_kind := by
      obtain ⟨fd, F⟩ := c.t.d.def_ 39 (d := dd__law_kind) rfl
      exact defT_of F (He.glo_ok X G (c.t.d.fact 39 (f := .glo "_law_kind") rfl)) (FunD.bindsN F fun _ _ _ _ _ _ us hl => match us, hl with | [_], _ => rfl)
    d__law_bad_body := by
      obtain ⟨fd, F⟩ := c.t.d.def_ 40 (d := dd__law_bad_body) rfl
      exact defT_of F (He.glo_ok X G (c.t.d.fact 40 (f := .glo "_law_bad_body") rfl)) (FunD.bindsN F fun _ _ _ _ _ _ us hl => match us, hl with | [_], _ => rfl)
    d__law_odd := by
      obtain ⟨fd, F⟩ := c.t.d.def_ 41 (d := dd__law_odd) rfl
      exact defT_of F (He.glo_ok X G (c.t.d.fact 41 (f := .glo "_law_odd") rfl)) (FunD.bindsN F fun _ _ _ _ _ _ us hl => match us, hl with | [_, _], _ => rfl)
    d__law_works := by
      obtain ⟨fd, F⟩ := c.t.d.def_ 42 (d := dd__law_works) rfl
      exact defT_of F (He.glo_ok X G (c.t.d.fact 42 (f := .glo "_law_works") rfl)) (FunD.bindsN F fun _ _ _ _ _ _ us hl => match us, hl with | [_], _ => rfl)
    d__law_are := by
      obtain ⟨fd, F⟩ := c.t.d.def_ 43 (d := dd__law_are) rfl
      exact defT_of F (He.glo_ok X G (c.t.d.fact 43 (f := .glo "_law_are") rfl)) (FunD.bindsN F fun _ _ _ _ _ _ us hl => match us, hl with | [_, _], _ => rfl)
    d_law := by
      obtain ⟨fd, F⟩ := c.t.d.def_ 44 (d := dd_law) rfl
      exact defT_of F (He.glo_ok X G (c.t.d.fact 44 (f := .glo "law") rfl)) (FunD.bindsN F fun _ _ _ _ _ _ us hl => match us, hl with | [_], _ => rfl)
    c_TRUTH := gloB_ok X G (ex_at c.more 0)
    c_KINDS := gloB_ok X G (ex_at c.more 1)
    c_DEEDS := gloB_ok X G (ex_at c.more 2)
    c_CELLS := gloB_ok X G (ex_at c.more 3)
    c_PARTS := gloB_ok X G (ex_at c.more 4)
    c_MOST_WORDS := gloB_ok X G (ex_at c.more 5)
    c_MOST_WITHIN_bodies := gloB_ok X G (ex_at c.more 6)
    c_MOST_WRITTEN := gloB_ok X G (ex_at c.more 7)
    c_MOST_DEEDS := gloB_ok X G (ex_at c.more 8)
    c_MOST_CELLS := gloB_ok X G (ex_at c.more 9)
    c_MOST_PARTS := gloB_ok X G (ex_at c.more 10)
    c_MOST_TREES := gloB_ok X G (ex_at c.more 11)
    c_MOST_WITHIN_trees := gloB_ok X G (ex_at c.more 12)
    t_ARMS := by
      obtain ⟨es, n, D⟩ := c.t.tab 0 (t := (fun K => He.ga K "ARMS", ["number", "truth", "empty", "argument", "cell", "plus", "less", "times", "below", "same", "not", "and", "if", "put", "first", "rest", "many", "set", "then", "call"])) rfl
      exact tabB_ok (He.glo_ok X G (c.t.d.fact 45 (f := .glo "ARMS") rfl)) D (ex_at c.more 13)
    t_TAKES := by
      obtain ⟨es, n, D⟩ := c.t.tab 1 (t := (fun K => He.ga K "TAKES", ["plus", "less", "times", "below", "not", "and", "put", "first", "rest", "many"])) rfl
      exact tabB_ok (He.glo_ok X G (c.t.d.fact 46 (f := .glo "TAKES") rfl)) D (ex_at c.more 14)
    t_TELLS := by
      obtain ⟨es, n, D⟩ := c.t.tab 2 (t := (fun K => He.ga K "TELLS", ["number", "truth", "empty", "plus", "less", "times", "below", "same", "not", "and", "put", "first", "rest", "many"])) rfl
      exact tabB_ok (He.glo_ok X G (c.t.d.fact 47 (f := .glo "TELLS") rfl)) D (ex_at c.more 15)
    t_SHAPES := by
      obtain ⟨es, n, D⟩ := c.t.tab 3 (t := (fun K => He.ga K "SHAPES", ["part", "with", "without", "also", "renamed", "over"])) rfl
      exact tabB_ok (He.glo_ok X G (c.t.d.fact 48 (f := .glo "SHAPES") rfl)) D (ex_at c.more 16)
    o_ARMS := by
      obtain ⟨es, n, D⟩ := c.t.tab 0 (t := (fun K => He.ga K "ARMS", ["number", "truth", "empty", "argument", "cell", "plus", "less", "times", "below", "same", "not", "and", "if", "put", "first", "rest", "many", "set", "then", "call"])) rfl
      exact tabO_ok (He.glo_ok X G (c.t.d.fact 45 (f := .glo "ARMS") rfl)) D (ex_at c.more 13)
    o_TAKES := by
      obtain ⟨es, n, D⟩ := c.t.tab 1 (t := (fun K => He.ga K "TAKES", ["plus", "less", "times", "below", "not", "and", "put", "first", "rest", "many"])) rfl
      exact tabO_ok (He.glo_ok X G (c.t.d.fact 46 (f := .glo "TAKES") rfl)) D (ex_at c.more 14)
    o_TELLS := by
      obtain ⟨es, n, D⟩ := c.t.tab 2 (t := (fun K => He.ga K "TELLS", ["number", "truth", "empty", "plus", "less", "times", "below", "same", "not", "and", "put", "first", "rest", "many"])) rfl
      exact tabO_ok (He.glo_ok X G (c.t.d.fact 47 (f := .glo "TELLS") rfl)) D (ex_at c.more 15)
    o_SHAPES := by
      obtain ⟨es, n, D⟩ := c.t.tab 3 (t := (fun K => He.ga K "SHAPES", ["part", "with", "without", "also", "renamed", "over"])) rfl
      exact tabO_ok (He.glo_ok X G (c.t.d.fact 48 (f := .glo "SHAPES") rfl)) D (ex_at c.more 16)
    l__law_works := by
      obtain ⟨fd, F⟩ := c.t.d.def_ 42 (d := dd__law_works) rfl
      exact defL_of F (He.glo_ok X G (c.t.d.fact 42 (f := .glo "_law_works") rfl)) (FunD.bindsN F fun _ _ _ _ _ _ us hl => match us, hl with | [_], _ => rfl)
    k_Thing := ⟨He.cls_ok (c.t.d.fact 64 (f := .cls "Thing") rfl), He.glo_ok X G (c.t.d.fact 63 (f := .glo "Thing") rfl), by
      intro f hf
      simp only [List.mem_cons, List.not_mem_nil, or_false] at hf
      rcases hf with rfl <;> first | exact He.noat_ok (c.t.d.fact 66 (f := .noat "Thing" "runner") rfl)⟩
    i_Thing := by
      obtain ⟨fd, F⟩ := c.t.d.def_ 45 (d := dd_Thing_init) rfl
      exact ⟨⟨_, fd, F, He.mkr_ok (c.t.d.fact 65 (f := .mkr "Thing") rfl), FunD.bindsN F fun _ _ _ _ _ _ us hl => match us, hl with | [_, _, _], _ => rfl⟩⟩
    x_BadShelf := excB_ok (He.glo_ok X G (c.t.d.fact 67 (f := .glo "BadShelf") rfl)) (ex_at c.more 18)
    x_BadTree := excB_ok (He.glo_ok X G (c.t.d.fact 68 (f := .glo "BadTree") rfl)) (ex_at c.more 19)
    b_bool := He.free_ok X G (c.t.d.fact 49 (f := .free "bool") rfl)
    b_dict := He.free_ok X G (c.t.d.fact 50 (f := .free "dict") rfl)
    b_int := He.free_ok X G (c.t.d.fact 51 (f := .free "int") rfl)
    b_isinstance := He.free_ok X G (c.t.d.fact 52 (f := .free "isinstance") rfl)
    b_len := He.free_ok X G (c.t.d.fact 53 (f := .free "len") rfl)
    b_list := He.free_ok X G (c.t.d.fact 54 (f := .free "list") rfl)
    b_max := He.free_ok X G (c.t.d.fact 55 (f := .free "max") rfl)
    b_min := He.free_ok X G (c.t.d.fact 56 (f := .free "min") rfl)
    b_range := He.free_ok X G (c.t.d.fact 57 (f := .free "range") rfl)
    b_set := He.free_ok X G (c.t.d.fact 58 (f := .free "set") rfl)
    b_sorted := He.free_ok X G (c.t.d.fact 59 (f := .free "sorted") rfl)
    b_str := He.free_ok X G (c.t.d.fact 60 (f := .free "str") rfl)
    b_tuple := He.free_ok X G (c.t.d.fact 61 (f := .free "tuple") rfl)
    b_zip := He.free_ok X G (c.t.d.fact 62 (f := .free "zip") rfl)
    g_PartError := He.glo_ok X G (c.t.d.fact 69 (f := .glo "PartError") rfl)
    g_BadPart := He.glo_ok X G (c.t.d.fact 70 (f := .glo "BadPart") rfl)
    g_BadShelf := He.glo_ok X G (c.t.d.fact 67 (f := .glo "BadShelf") rfl)
    g_BadTree := He.glo_ok X G (c.t.d.fact 68 (f := .glo "BadTree") rfl)
    g_NotRight := He.glo_ok X G (c.t.d.fact 71 (f := .glo "NotRight") rfl)
    g_NotWhole := He.glo_ok X G (c.t.d.fact 72 (f := .glo "NotWhole") rfl)
    g_BadCall := He.glo_ok X G (c.t.d.fact 73 (f := .glo "BadCall") rfl)
    g_Long := He.glo_ok X G (c.t.d.fact 74 (f := .glo "Long") rfl)
    g_BadText := He.glo_ok X G (c.t.d.fact 75 (f := .glo "BadText") rfl)
    b_ValueError := He.free_ok X G (c.t.d.fact 76 (f := .free "ValueError") rfl)
    e8 := fun n hn => eightB_ok (ex_at c.more 20) hn
    o_BadPart := by
      obtain ⟨fd, F⟩ := c.t.d.def_ 46 (d := dd_BadPart_init) rfl
      exact excDB_ok (He.glo_ok X G (c.t.d.fact 70 (f := .glo "BadPart") rfl)) (He.glo_ok X G (c.t.d.fact 69 (f := .glo "PartError") rfl)) (ex_at c.more 21) F (FunD.bindsN F fun _ _ _ _ _ _ us hl => match us, hl with | [_, _], _ => rfl)
    o_NotRight := by
      obtain ⟨fd, F⟩ := c.t.d.def_ 47 (d := dd_NotRight_init) rfl
      exact excDB_ok (He.glo_ok X G (c.t.d.fact 71 (f := .glo "NotRight") rfl)) (He.glo_ok X G (c.t.d.fact 69 (f := .glo "PartError") rfl)) (ex_at c.more 22) F (FunD.bindsN F fun _ _ _ _ _ _ us hl => match us, hl with | [_, _], _ => rfl)
    o_BadText := by
      obtain ⟨fd, F⟩ := c.t.d.def_ 48 (d := dd_BadText_init) rfl
      exact excDB_ok (He.glo_ok X G (c.t.d.fact 75 (f := .glo "BadText") rfl)) (He.glo_ok X G (c.t.d.fact 69 (f := .glo "PartError") rfl)) (ex_at c.more 23) F (FunD.bindsN F fun _ _ _ _ _ _ us hl => match us, hl with | [_, _], _ => rfl) }
theorem facts {P : Program} {f : Addr} (X : K.In h) (G : h.Ns mainGlobals mg) (hfa : mg ("law" : Str) = some (.ref f)) (c : He.SaysX fa fn ts [("_law_works", none), ("law", none)] ex w h K) :
    ∃ fd : FuncData, (∀ (s : Shared) (v : Value), BindsTo s fd ⟨[v], []⟩ [("_law_script", v)]) ∧ ∀ base : Heap, K.In base → base.Ns mainGlobals mg → (∀ p ∈ [He.cT K ("_law_works", none), He.cT K ("law", none)], LamX.TabB base mg p.1 p.2) → FnOk P w K mg base L2.CX0 60 f fd ["_law_script"] (spD K (sp_law0Ts [(TPS K, qS), (TPL K, qL)])) := by
  obtain ⟨fd, F⟩ := c.t.d.def_ 44 (d := dd_law) rfl
  have e := hfa.symm.trans (He.glo_ok X G (c.t.d.fact 44 (f := .glo "law") rfl))
  cases e
  have b := FunD.bindsA (ps := ["_law_script"]) F fun _ _ _ _ _ _ us hl => match us, hl with | [_], _ => rfl
  exact ⟨fd, fun s v => b s [v] rfl, fun base _ _ B => F_law (txt X G c) (B _ List.mem_cons_self) (B _ (List.mem_cons_of_mem _ List.mem_cons_self)) F⟩
end
end K01
open PySem PySem.W PySem.Calls PyProof.Rows
set_option maxRecDepth 100000 in
set_option maxHeartbeats 0 in
theorem PySem.Challenge.cw_partdeeds_k01_parts_refused_holds : PySem.Challenge.rw_partdeeds_k01_parts_refused.Holds := by
  w_on; o_law
  refine HandSHeadRun.head_any (r := OpenLaw.row PySem.Challenge.rw_partdeeds_k01_parts_refused) (q := view (OpenLaw.row PySem.Challenge.rw_partdeeds_k01_parts_refused).prog [120]) (H := K01.hk) (ob := K01.ob) (M := 9600) (loose := K01.loose) (d := HandSHeadRun.topDef (OpenLaw.row PySem.Challenge.rw_partdeeds_k01_parts_refused).prog 120) (kwd := []) K01.ob_eq
    (by kernel_rfl) (fun s => by kernel_rfl) K01.run (by kernel_rfl) (by kernel_rfl) (by kernel_rfl) (by rfl) (by first | assumption | decide +kernel) (by decide +kernel) ⟨rfl, rfl, rfl, rfl, rfl, by decide +kernel⟩ ?hw ?hc
  case hw => w_witness2
  case hc =>
    refine LamX.walk_ofTsE (l := PySem.Challenge.rw_partdeeds_k01_parts_refused) (n := 63) (k := 60) (x := "_law_script") (CX := fun _ => L2.CX0) rfl (by decide) (by kernel_rfl) ⟨rfl, by decide, by decide⟩ ?F (fun _ _ _ _ _ z => z)
    intro w mg fa h Y G hmg0
    obtain ⟨K, KX, c⟩ := Y
    have hmg : mg ("law" : PySem.Str) = some (.ref fa) := by
      have e : (HandSHeadRun.topDef (OpenLaw.row PySem.Challenge.rw_partdeeds_k01_parts_refused).prog 120).name = ("law" : PySem.Str) := by kernel_rfl
      rw [← e]
      exact hmg0
    obtain ⟨fd, hb, hF⟩ := K01.facts (P := (PySem.Challenge.rw_partdeeds_k01_parts_refused).prog) (w := w) KX G hmg c
    refine ⟨K, KX, fd, [He.cT K ("_law_works", none), He.cT K ("law", none)], L3.spD K (L3.sp_law0Ts [(K01.TPS K, K01.qS), (K01.TPL K, K01.qL)]), fun p hp => ?_, fun p hp => ?_, fun p hp => ?_, hb, fun H a ns hl _ hH hS => L3.law_askedTs hl (of_decide_eq_true (K01.ex_at c.more 17)) (fun t ht => by
      simp only [List.mem_cons, List.not_mem_nil, or_false] at ht
      rcases ht with rfl | rfl
      · exact hH _ List.mem_cons_self
      · exact hH _ (List.mem_cons_of_mem _ List.mem_cons_self)) hS, hF⟩
    · simp only [List.mem_cons, List.not_mem_nil, or_false] at hp
      rcases hp with rfl | rfl
      · exact c.empty _ List.mem_cons_self
      · exact c.empty _ (List.mem_cons_of_mem _ List.mem_cons_self)
    · simp only [List.mem_cons, List.not_mem_nil, or_false] at hp
      rcases hp with rfl | rfl
      · exact c.out _ List.mem_cons_self
      · exact c.out _ (List.mem_cons_of_mem _ List.mem_cons_self)
    · simp only [List.mem_cons, List.not_mem_nil, or_false] at hp
      rcases hp with rfl | rfl
      · exact PySem.W.codeHd_of_K KX (c.hd _ List.mem_cons_self)
      · exact PySem.W.codeHd_of_K KX (c.hd _ (List.mem_cons_of_mem _ List.mem_cons_self))
