import PyProof.Rows.All
import Wide.All
import OpenK.AllK
import Wide.FinOn
import HandS.Base
import HandS.Call
import HandS.List
import HandS.Comp
import HandS.Dict
import HandS.Iter
import HandS.Text
import HandS.Ends
import HandS.More
import HandS.Exc
import HandS.Words
import HandS.WordsExc
import HandS.IsInst
import HandS.Defaults
import HandS.TupAny
import HandS.Lambda
import HandS.Deep
import HandS.Zip
import HandS.Set
import HandS.SetFor
import PyProof.Rows.SortShellAny
import KE.GoesMore
import KE.GoesEnum
import KE.KDictPairs
import HandS.Small
import HandS.SortKw
import KE.DataMinMax
import PyProof.ListStr
import PyProof.SetRoads
import HandS.Head0
import HandS.Head1
import HandS.Head2
import HandS.HeadEnd
import HandS.HeadHook1
import HandS.HeadHook2
import HandS.HeadHook3
import HandS.HeadHook4
import HandS.RaiseMore
import HandS.Strs
import PyProof.CallStr
import KE.KDictOf
import HandS.Codes
import HandS.TupSets
import KE.SortKeyHeap
import HandS.HeadWalk
import PySem.Challenge.RW_partdeeds_k16_whole_what_givers_give
set_option Elab.async false
set_option linter.all false
set_option maxRecDepth 100000
set_option maxHeartbeats 4000000
/-! L3v: new tuples, told with their object: it has no dict of its own. -/
namespace L3
open PySem PySem.Spec PyProof.Rows L2
section
variable {X : Cx} {pos : Pos}
/-- a new tuple's object -/
abbrev tupO (its : List Value) : Obj := { cls := .type "tuple", data := .seq its.toArray }
/-- a new tuple comes: a tuple that is known as an object without a dict -/
def NewT (H : Hp) (xs : List V) (Q : VK) : Prop := ∀ (p : Addr) (o : Obj), H p = none → o.dict = none → Q (.ref p) (upd H p (.frz o (.tup xs)))
theorem laidT {pins : List (Addr × Obj)} {σ : L2.St} {H : Hp} {s : Shared} {xs : List V} {its : List Value} {Q : VK} (I : Inv X pins σ H s) (hz : xs.length ≤ sizeLine) (r : Vals xs its) (q : NewT H xs Q) :
    EP X pins σ Q (.ref s.heap.objs.size) { s with heap := s.heap.push (tupO its) } :=
  ⟨.ref s.heap.objs.size, _, I.laid (t' := s.toks) (o := .frz (tupO its) (.tup xs)) (fun _ _ e => Heap.get?_push_of_some _ e) (Nat.le_refl _) ⟨Heap.get?_push_size _ rfl, ⟨hz, its, r, IsTup.new _ _⟩⟩, rfl, q _ _ (I.hok.fresh (Nat.le_refl _)) rfl⟩
def tTupF (t : TA) : TE := fun σ H Q => t σ H fun xs H1 => xs.length ≤ sizeLine ∧ NewT H1 xs Q
theorem pe_tupF {es : List Expr} {t : TA} {x1} (h : PA X es t) : PE X (.Tuple es x1 pos) (tTupF t) :=
  ⟨fun pins s σ H Q I hq => wpAny_Tuple_spliced (thn (h.run pos pins s σ H _ I hq) fun us s1 ⟨xs, H1, I1, r, z, q⟩ => ⟨by rw [← r.length]; exact z, laidT I1 z r q⟩)⟩
def rCatF (K : PySem.W.Frag) : R2 := fun x y H Q => ∃ a b xs ys, x = .ref a ∧ y = .ref b ∧ SqT K H a xs ∧ SqT K H b ys ∧ xs.length + ys.length ≤ sizeLine ∧
  (xs = [] → Q (.ref b) H) ∧ (xs ≠ [] → ys = [] → Q (.ref a) H) ∧ (xs ≠ [] → ys ≠ [] → NewT H (xs ++ ys) Q)
theorem op_catF : OpR X (binaryOp .Add) (rCatF X.K) := by
  intro pins s σ H x y v u Q I rx ry ⟨a, b, xs, ys, ex, ey, ha, hb, hz, q0, q1, q2⟩
  subst ex ey
  by_cases hx : xs = []
  · exact op_catA pins s σ H _ _ v u Q I rx ry ⟨a, b, xs, ys, rfl, rfl, ha, hb, hz, q0, q1, fun h => absurd hx h⟩
  · cases rx
    cases ry
    obtain ⟨its, r1, p1, _⟩ := I.tuple ha
    obtain ⟨its2, r2, p2, _⟩ := I.tuple hb
    exact HT.cat_tup p1 p2 (fun z => hx (r1.nil_iff.mp z)) (fun z => ⟨.ref a, H, I, rfl, q1 hx (r2.nil_iff.mp z)⟩) (fun z => laidT I (by rw [List.length_append]; exact hz) (r1.append r2) (q2 hx fun w => z (r2.nil_iff.mpr w)))
      (by rw [← r1.length, ← r2.length]; exact hz)
def rSlF (K : PySem.W.Frag) : V → Option Int → Option Int → Hp → VK → Prop := fun x lo hi H Q => ∃ a xs, x = .ref a ∧ SqT K H a xs ∧
  (HT.sIx xs.length 0 lo = 0 ∧ HT.sIx xs.length xs.length hi = xs.length → Q (.ref a) H) ∧ (¬ (HT.sIx xs.length 0 lo = 0 ∧ HT.sIx xs.length xs.length hi = xs.length) → NewT H (cutV xs lo hi) Q)
theorem sl_tupF : SlR X (rSlF X.K) := by
  intro pins s σ H x v vl vu lo hi sl Q I rx hs pl pu ⟨a, xs, ex, hx, q1, q2⟩
  subst ex
  by_cases hw : HT.sIx xs.length 0 lo = 0 ∧ HT.sIx xs.length xs.length hi = xs.length
  · exact sl_tupA pins s σ H _ v vl vu lo hi sl Q I rx hs pl pu ⟨a, xs, rfl, hx, q1, fun h => absurd hw h⟩
  · cases rx
    obtain ⟨its, r, ht, hz⟩ := I.tuple hx
    have hn : its.toArray.size = xs.length := by rw [List.size_toArray, r.length]
    refine ⟨"tuple", _, PyProof.Rows.slot_tuple_getitem.lookup, ht.typeIs, HT.getItem_tuple_cut ht hs pl pu (by rw [hn]; exact hw) ?_ (by rw [hn]; exact hz)⟩
    rw [hn]
    exact laidT I (Nat.le_trans (cutV_length xs lo hi) hz) ((r.drop _).take _) (q2 hw)
theorem call_tupleF : CallR X (.type "tuple") (fun xs H Q => ∃ p ys, xs = [.ref p] ∧ ((SqL X.K H p ys ∧ NewT H ys Q) ∨ (SqT X.K H p ys ∧ Q (.ref p) H))) := by
  intro pins s σ H xs us Q I r ⟨p, ys, ex, h⟩
  subst ex
  rcases h with ⟨hq, q⟩ | ⟨hq, q⟩
  · obtain ⟨u, rfl, rx⟩ := vals1 r
    cases rx
    obtain ⟨its, r', pl, hz⟩ := I.list hq
    have hn := r'.length
    refine call_tuple_list pl.isList (fun g kp => ?_) (by simp only [List.size_toArray]; omega)
    exact laidT (I.kept (t' := s.toks) kp) hz r' q
  · exact call_tuple_of pins s σ H _ us Q I r ⟨p, ys, rfl, .inr ⟨hq, q⟩⟩
end
end L3
/-! L3: readings over data. Data that never changes is by value (D); what changes stands in a store Mu. -/
namespace L3
open PySem PySem.Spec PyProof.Rows L2

/-- data by value; ref: what stands in the store, or is handed on unread -/
inductive D where
  | non | bl (b : Bool) | int (i : Int) | str (x : Str) | tup (ds : List D) | lst (ds : List D) | dct (kvs : List (Key × D)) | ref (a : Addr) | ty (n : String) | fl (ns : List Int)

instance : Inhabited D := ⟨.non⟩

/-- no heap: only the written part is read -/
abbrev E0H : Hp := fun _ => none
def TupAt (K : PySem.W.Frag) (H : Hp) (N : Addr → Prop) (a : Addr) (vs : List V) : Prop := (∃ o, H a = some (.frz o (.tup vs)) ∧ o.dict = none ∧ ¬ N a) ∨
  ∃ (o : Obj) (its : Array Value) (n : Nat), K.lookup a = some o ∧ o.cls = .type "tuple" ∧ o.dict = none ∧ o.data = .seq its n ∧ its.size ≤ sizeLine ∧ Vals vs its.toList
def LstAt (H : Hp) (N : Addr → Prop) (a : Addr) (vs : List V) : Prop := H a = some (.lst vs) ∧ ¬ N a
/-- a list of ints that was handed in, and that nobody changes -/
def FlAt (K : PySem.W.Frag) (H : Hp) (N : Addr → Prop) (a : Addr) (ns : List Int) : Prop := (Rd H a (.lst (ns.map V.int)) ∧ ¬ N a) ∨
  ∃ (o : Obj) (its : Array Value) (n : Nat), K.lookup a = some o ∧ o.cls = .type "list" ∧ o.dict = none ∧ o.data = .seq its n ∧ its.size ≤ sizeLine ∧ Vals (ns.map V.int) its.toList
def DctAt (H : Hp) (N : Addr → Prop) (a : Addr) (vs : List (Key × V)) : Prop := H a = some (.dK vs) ∧ ¬ N a

mutual
def Rep (K : PySem.W.Frag) (H : Hp) (N : Addr → Prop) : D → V → Prop
  | .non, v => v = .non
  | .bl b, v => v = .bl b
  | .int i, v => v = .int i
  | .str x, v => v = .str x
  | .tup ds, v => ∃ a vs, v = .ref a ∧ TupAt K H N a vs ∧ Reps K H N ds vs
  | .lst ds, v => ∃ a vs, v = .ref a ∧ LstAt H N a vs ∧ Reps K H N ds vs
  | .dct kvs, v => ∃ a vs, v = .ref a ∧ DctAt H N a vs ∧ Repk K H N kvs vs
  | .ref a, v => v = .ref a
  | .ty n, v => v = .ty n
  | .fl ns, v => ∃ a, v = .ref a ∧ FlAt K H N a ns
def Reps (K : PySem.W.Frag) (H : Hp) (N : Addr → Prop) : List D → List V → Prop
  | [], vs => vs = []
  | d :: ds, vs => ∃ v ws, vs = v :: ws ∧ Rep K H N d v ∧ Reps K H N ds ws
def Repk (K : PySem.W.Frag) (H : Hp) (N : Addr → Prop) : List (Key × D) → List (Key × V) → Prop
  | [], vs => vs = []
  | (k, d) :: ds, vs => ∃ v ws, vs = (k, v) :: ws ∧ Rep K H N d v ∧ Repk K H N ds ws
end

/-- what changes -/
inductive Cell where
  | lst (ds : List D)
  | dct (kvs : List (Key × D))
  | ins (C dx : Addr) (fs : List (Str × D))
  /-- a dict that is walked over: read, not written -/
  | dfz (od : Obj) (vs : List (Key × V)) (kvs : List (Key × D))
  /-- a def's table of its lambdas' code objects, all of one name -/
  | tab (q : Str)
abbrev Mu := Addr → Option Cell
def Mu.put (m : Mu) (a : Addr) (c : Cell) : Mu := fun b => if b = a then some c else m b
def Mu.del (m : Mu) (a : Addr) : Mu := fun b => if b = a then none else m b
theorem Mu.put_same {m : Mu} {a : Addr} {c : Cell} : m.put a c a = some c := by unfold Mu.put; rw [if_pos rfl]
theorem Mu.put_ne {m : Mu} {a b : Addr} {c : Cell} (h : b ≠ a) : m.put a c b = m b := by unfold Mu.put; rw [if_neg h]
theorem Mu.put_put {m : Mu} {a : Addr} {c d : Cell} : (m.put a c).put a d = m.put a d := by funext b; unfold Mu.put; split <;> rfl
theorem Mu.del_same {m : Mu} {a : Addr} : m.del a a = none := by unfold Mu.del; rw [if_pos rfl]
theorem Mu.del_ne {m : Mu} {a b : Addr} (h : b ≠ a) : m.del a b = m b := by unfold Mu.del; rw [if_neg h]
theorem Mu.del_put {m : Mu} {a : Addr} {c : Cell} (h : m a = none) : (m.put a c).del a = m := by
  funext b; unfold Mu.del Mu.put; split
  · rename_i e; rw [e, h]
  · rfl

def Repf (K : PySem.W.Frag) (H : Hp) (N : Addr → Prop) : List (Str × D) → List (Str × V) → Prop
  | [], vs => vs = []
  | (k, d) :: ds, vs => ∃ v ws, vs = (k, v) :: ws ∧ Rep K H N d v ∧ Repf K H N ds ws
def CellOk (K : PySem.W.Frag) (H : Hp) (N : Addr → Prop) (m : Mu) (a : Addr) : Cell → Prop
  | .lst ds => ∃ vs, H a = some (.lst vs) ∧ Reps K H N ds vs
  | .dct kvs => ∃ vs, H a = some (.dK vs) ∧ Repk K H N kvs vs
  | .ins C dx fs => ∃ vs, H a = some (.ins C dx vs) ∧ Repf K H N fs vs ∧ H dx = some (.own a) ∧ m dx = none
  | .dfz od vs kvs => H a = some (.frz od (.dK vs)) ∧ Repk K H N kvs vs
  | .tab q => ∃ ps : Array Value, H a = some (.tbl ps) ∧ TriplesOk ps.toList ∧ ∀ (pos : Pos) (cv : Value), codeAmong pos ps.toList = some cv → ∃ c, cv = .ref c ∧ H c = some (LamX.CodeO c q) ∧ ¬ N c
/-- what data may not stand at: what is hidden (B), what is in the store -/
def Ban (B : Addr → Prop) (m : Mu) : Addr → Prop := fun a => B a ∨ m a ≠ none
structure Wd (K : PySem.W.Frag) (H : Hp) (B : Addr → Prop) (m : Mu) : Prop where
  cell : ∀ a c, m a = some c → CellOk K H (Ban B m) m a c
  hid : ∀ a, B a → H a ≠ none ∧ m a = none
/-- what isn't in the store stays, and stays out of it -/
def Step (H : Hp) (m : Mu) (H' : Hp) (m' : Mu) : Prop := ∀ x o, H x = some o → m x = none → H' x = some o ∧ m' x = none
theorem Step.refl (H : Hp) (m : Mu) : Step H m H m := fun _ _ h1 h2 => ⟨h1, h2⟩
theorem Step.trans {H H1 H2 : Hp} {m m1 m2 : Mu} (a : Step H m H1 m1) (b : Step H1 m1 H2 m2) : Step H m H2 m2 := fun x o h1 h2 =>
  let ⟨p, q⟩ := a x o h1 h2
  b x o p q
/-- all that is there stays -/
theorem Step.same {H H' : Hp} {m : Mu} (e : ∀ x o, H x = some o → H' x = some o) : Step H m H' m := fun x o h1 h2 => ⟨e x o h1, h2⟩

theorem Rd.mono {H H' : Hp} {a : Addr} {u : HO} (h : Rd H a u) (k : ∀ o, H a = some o → H' a = some o) : Rd H' a u := by
  rcases h with h | ⟨o, h⟩
  · exact .inl (k _ h)
  · exact .inr ⟨o, k _ h⟩
theorem Rd.some {H : Hp} {a : Addr} {u : HO} (h : Rd H a u) : ∃ o, H a = some o := by
  rcases h with h | ⟨o, h⟩
  · exact ⟨_, h⟩
  · exact ⟨_, h⟩
/-- how places are carried on -/
def Carry (H : Hp) (N : Addr → Prop) (H' : Hp) (N' : Addr → Prop) : Prop := ∀ a o, H a = some o → ¬ N a → H' a = some o ∧ ¬ N' a
theorem Carry.rd {H H' : Hp} {N N' : Addr → Prop} (c : Carry H N H' N') {a : Addr} {u : HO} (h : Rd H a u) (n : ¬ N a) : Rd H' a u ∧ ¬ N' a :=
  ⟨Rd.mono h fun o e => (c a o e n).1, let ⟨o, e⟩ := Rd.some h; (c a o e n).2⟩
section
variable {K : PySem.W.Frag} {H H' : Hp} {N N' : Addr → Prop}
theorem TupAt.carry (c : Carry H N H' N') {a : Addr} {vs : List V} (h : TupAt K H N a vs) : TupAt K H' N' a vs := by
  rcases h with ⟨o, h, d, n⟩ | h
  · exact .inl ⟨o, (c a _ h n).1, d, (c a _ h n).2⟩
  · exact .inr h
theorem LstAt.carry (c : Carry H N H' N') {a : Addr} {vs : List V} (h : LstAt H N a vs) : LstAt H' N' a vs := c a _ h.1 h.2
theorem DctAt.carry (c : Carry H N H' N') {a : Addr} {vs : List (Key × V)} (h : DctAt H N a vs) : DctAt H' N' a vs := c a _ h.1 h.2
theorem TupAt.sq {a : Addr} {vs : List V} (h : TupAt K H N a vs) : SqT K H a vs := by
  rcases h with ⟨o, h, _⟩ | ⟨o, its, n, h1, h2, _, h3⟩
  · exact .inl (.inr ⟨o, h⟩)
  · exact .inr ⟨o, its, n, h1, h2, h3⟩
theorem LstAt.sq {a : Addr} {vs : List V} (h : LstAt H N a vs) : SqL K H a vs := .inl (.inl h.1)
theorem FlAt.carry (c : Carry H N H' N') {a : Addr} {ns : List Int} (h : FlAt K H N a ns) : FlAt K H' N' a ns := by
  rcases h with ⟨h, n⟩ | h
  · exact .inl (c.rd h n)
  · exact .inr h
theorem FlAt.sq {a : Addr} {ns : List Int} (h : FlAt K H N a ns) : SqL K H a (ns.map V.int) := h.imp (·.1) id
mutual
theorem Rep.carry (c : Carry H N H' N') : ∀ (d : D) (v : V), Rep K H N d v → Rep K H' N' d v
  | .non, _, h => by simpa only [Rep] using h
  | .bl _, _, h => by simpa only [Rep] using h
  | .int _, _, h => by simpa only [Rep] using h
  | .str _, _, h => by simpa only [Rep] using h
  | .ref _, _, h => by simpa only [Rep] using h
  | .ty _, _, h => by simpa only [Rep] using h
  | .fl ns, v, h => by
    simp only [Rep] at h ⊢
    obtain ⟨a, e, t⟩ := h
    exact ⟨a, e, t.carry c⟩
  | .tup ds, v, h => by
    simp only [Rep] at h ⊢
    obtain ⟨a, vs, e, t, r⟩ := h
    exact ⟨a, vs, e, t.carry c, Reps.carry c ds vs r⟩
  | .lst ds, v, h => by
    simp only [Rep] at h ⊢
    obtain ⟨a, vs, e, t, r⟩ := h
    exact ⟨a, vs, e, t.carry c, Reps.carry c ds vs r⟩
  | .dct ds, v, h => by
    simp only [Rep] at h ⊢
    obtain ⟨a, vs, e, t, r⟩ := h
    exact ⟨a, vs, e, t.carry c, Repk.carry c ds vs r⟩
theorem Reps.carry (c : Carry H N H' N') : ∀ (ds : List D) (vs : List V), Reps K H N ds vs → Reps K H' N' ds vs
  | [], _, h => by simpa only [Reps] using h
  | d :: ds, vs, h => by
    simp only [Reps] at h ⊢
    obtain ⟨v, ws, e, r, rs⟩ := h
    exact ⟨v, ws, e, Rep.carry c d v r, Reps.carry c ds ws rs⟩
theorem Repk.carry (c : Carry H N H' N') : ∀ (ds : List (Key × D)) (vs : List (Key × V)), Repk K H N ds vs → Repk K H' N' ds vs
  | [], _, h => by simpa only [Repk] using h
  | (k, d) :: ds, vs, h => by
    simp only [Repk] at h ⊢
    obtain ⟨v, ws, e, r, rs⟩ := h
    exact ⟨v, ws, e, Rep.carry c d v r, Repk.carry c ds ws rs⟩
end
theorem Repf.carry (c : Carry H N H' N') : ∀ (ds : List (Str × D)) (vs : List (Str × V)), Repf K H N ds vs → Repf K H' N' ds vs
  | [], _, h => h
  | (k, d) :: ds, vs, h => by
    obtain ⟨v, ws, e, r, rs⟩ := h
    exact ⟨v, ws, e, Rep.carry c d v r, Repf.carry c ds ws rs⟩
end
theorem Step.carry {H H' : Hp} {m m' : Mu} {B : Addr → Prop} (s : Step H m H' m') : Carry H (Ban B m) H' (Ban B m') := fun a o h n =>
  have hm : m a = none := by
    cases e : m a with
    | none => rfl
    | some c => exact absurd (.inr (by rw [e]; exact fun z => nomatch z)) n
  let ⟨p, q⟩ := s a o h hm
  ⟨p, fun z => z.elim (fun b => n (.inl b)) fun z => z q⟩

section
variable {K : PySem.W.Frag} {H H' : Hp} {N : Addr → Prop}
theorem reps_nil {vs : List V} : Reps K H N [] vs ↔ vs = [] := by simp only [Reps]
theorem reps_cons {d : D} {ds : List D} {vs : List V} : Reps K H N (d :: ds) vs ↔ ∃ v ws, vs = v :: ws ∧ Rep K H N d v ∧ Reps K H N ds ws := by simp only [Reps]
theorem Reps.len : ∀ {ds : List D} {vs : List V}, Reps K H N ds vs → vs.length = ds.length
  | [], _, h => by rw [reps_nil.mp h]; rfl
  | d :: ds, _, h => by
    obtain ⟨v, ws, rfl, _, r⟩ := reps_cons.mp h
    rw [List.length_cons, List.length_cons, Reps.len r]
theorem Reps.get : ∀ {ds : List D} {vs : List V}, Reps K H N ds vs → ∀ (i : Nat) (d : D), ds[i]? = some d → ∃ v, vs[i]? = some v ∧ Rep K H N d v
  | [], _, _, i, d, e => by simp at e
  | x :: ds, _, h, i, d, e => by
    obtain ⟨v, ws, rfl, r, rs⟩ := reps_cons.mp h
    cases i with
    | zero => simp at e; subst e; exact ⟨v, rfl, r⟩
    | succ i => simpa using Reps.get rs i d (by simpa using e)
theorem Reps.none_of {ds : List D} {vs : List V} (h : Reps K H N ds vs) {i : Nat} (e : ds[i]? = none) : vs[i]? = none := by
  have := h.len
  rw [List.getElem?_eq_none_iff] at e ⊢
  omega
theorem Reps.mk : ∀ {ds : List D} {vs : List V}, vs.length = ds.length → (∀ (i : Nat) d v, ds[i]? = some d → vs[i]? = some v → Rep K H N d v) → Reps K H N ds vs
  | [], [], _, _ => reps_nil.mpr rfl
  | [], _ :: _, h, _ => by simp at h
  | _ :: _, [], h, _ => by simp at h
  | d :: ds, v :: vs, h, k => reps_cons.mpr ⟨v, vs, rfl, k 0 d v rfl rfl, Reps.mk (by simpa using h) fun i d' v' a b => k (i + 1) d' v' (by simpa using a) (by simpa using b)⟩
theorem Reps.app : ∀ {ds es : List D} {vs ws : List V}, Reps K H N ds vs → Reps K H N es ws → Reps K H N (ds ++ es) (vs ++ ws)
  | [], _, _, _, a, b => by rw [reps_nil.mp a]; exact b
  | d :: ds, _, _, _, a, b => by
    obtain ⟨v, us, rfl, r, rs⟩ := reps_cons.mp a
    exact reps_cons.mpr ⟨v, us ++ _, rfl, r, Reps.app rs b⟩
theorem Reps.one {d : D} {v : V} (h : Rep K H N d v) : Reps K H N [d] [v] := reps_cons.mpr ⟨v, [], rfl, h, reps_nil.mpr rfl⟩
theorem Reps.take {ds : List D} {vs : List V} (h : Reps K H N ds vs) (n : Nat) : Reps K H N (ds.take n) (vs.take n) := by
  refine Reps.mk (by simp [h.len]) fun i d v a b => ?_
  rw [List.getElem?_take] at a b
  split at a
  · obtain ⟨v', e, r⟩ := h.get i d a
    rw [if_pos (by assumption), e] at b
    cases b; exact r
  · cases a
theorem Reps.drop {ds : List D} {vs : List V} (h : Reps K H N ds vs) (n : Nat) : Reps K H N (ds.drop n) (vs.drop n) := by
  refine Reps.mk (by simp [h.len]) fun i d v a b => ?_
  rw [List.getElem?_drop] at a b
  obtain ⟨v', e, r⟩ := h.get _ d a
  rw [e] at b
  cases b; exact r
theorem Reps.set {ds : List D} {vs : List V} (h : Reps K H N ds vs) {d : D} {v : V} (hd : Rep K H N d v) (n : Nat) : Reps K H N (ds.set n d) (vs.set n v) := by
  refine Reps.mk (by simp [h.len]) fun i d' v' a b => ?_
  rw [List.getElem?_set] at a b
  have := h.len
  by_cases e : n = i
  · subst e
    rw [if_pos rfl] at a b
    split at a
    · cases a
      rw [if_pos (by omega)] at b
      cases b; exact hd
    · cases a
  · rw [if_neg e] at a b
    obtain ⟨v2, e2, r⟩ := h.get _ d' a
    rw [e2] at b
    cases b; exact r
/-- the form of the value -/
theorem rep_tup {ds : List D} {v : V} : Rep K H N (.tup ds) v ↔ ∃ a vs, v = .ref a ∧ TupAt K H N a vs ∧ Reps K H N ds vs := by simp only [Rep]
theorem rep_lst {ds : List D} {v : V} : Rep K H N (.lst ds) v ↔ ∃ a vs, v = .ref a ∧ LstAt H N a vs ∧ Reps K H N ds vs := by simp only [Rep]
theorem rep_dct {ds : List (Key × D)} {v : V} : Rep K H N (.dct ds) v ↔ ∃ a vs, v = .ref a ∧ DctAt H N a vs ∧ Repk K H N ds vs := by simp only [Rep]
theorem rep_non {v : V} : Rep K H N .non v ↔ v = .non := by simp only [Rep]
theorem rep_bl {b : Bool} {v : V} : Rep K H N (.bl b) v ↔ v = .bl b := by simp only [Rep]
theorem rep_int {i : Int} {v : V} : Rep K H N (.int i) v ↔ v = .int i := by simp only [Rep]
theorem rep_str {x : Str} {v : V} : Rep K H N (.str x) v ↔ v = .str x := by simp only [Rep]
theorem rep_ref {a : Addr} {v : V} : Rep K H N (.ref a) v ↔ v = .ref a := by simp only [Rep]
theorem rep_ty {n : String} {v : V} : Rep K H N (.ty n) v ↔ v = .ty n := by simp only [Rep]
theorem rep_fl {ns : List Int} {v : V} : Rep K H N (.fl ns) v ↔ ∃ a, v = .ref a ∧ FlAt K H N a ns := by simp only [Rep]
/-- dicts -/
theorem Repk.val : ∀ {ds : List (Key × D)} {vs : List (Key × V)}, Repk K H N ds vs → ∀ k, (valV vs k = none ∧ (ds.find? fun p => decide (p.1 = k)) = none) ∨ ∃ d v, (ds.find? fun p => decide (p.1 = k)) = some (k, d) ∧ valV vs k = some v ∧ Rep K H N d v
  | [], _, h, k => by simp only [Repk] at h; subst h; exact .inl ⟨rfl, rfl⟩
  | (j, d) :: ds, _, h, k => by
    simp only [Repk] at h
    obtain ⟨v, ws, rfl, r, rs⟩ := h
    by_cases e : j = k
    · subst e
      exact .inr ⟨d, v, by simp, valV_pos rfl, r⟩
    · have := Repk.val rs k
      rw [valV_neg (by exact e)]
      simpa [e] using this
end
end L3
namespace L3
open PySem PySem.Spec PyProof.Rows L2

abbrev Dt := List (Option D)
structure EnvD (K : PySem.W.Frag) (H : Hp) (N : Addr → Prop) (σ : L2.St) (δ : Dt) : Prop where
  len : σ.length = δ.length
  at_ : ∀ (i : Nat) d, δ[i]? = some (some d) → ∃ v, σ[i]? = some (some v) ∧ Rep K H N d v
def wipeD (δ : Dt) : List Nat → Dt
  | [] => δ
  | v :: vs => (wipeD δ vs).set v none
section
variable {K : PySem.W.Frag} {H H' : Hp} {N N' : Addr → Prop} {σ : L2.St} {δ : Dt}
theorem EnvD.carry (c : Carry H N H' N') (E : EnvD K H N σ δ) : EnvD K H' N' σ δ := ⟨E.len, fun i d e => let ⟨v, h, r⟩ := E.at_ i d e; ⟨v, h, Rep.carry c d v r⟩⟩
theorem EnvD.set (E : EnvD K H N σ δ) {d : D} {v : V} (r : Rep K H N d v) (i : Nat) : EnvD K H N (σ.set i (some v)) (δ.set i (some d)) := by
  refine ⟨by simp [E.len], fun j e h => ?_⟩
  have hl := E.len
  rw [List.getElem?_set] at h ⊢
  by_cases q : i = j
  · subst q
    rw [if_pos rfl] at h ⊢
    split at h
    · cases h
      exact ⟨v, by rw [if_pos (by omega)], r⟩
    · cases h
  · rw [if_neg q] at h ⊢
    exact E.at_ j e h
theorem EnvD.unset (E : EnvD K H N σ δ) (i : Nat) : EnvD K H N (σ.set i none) (δ.set i none) := by
  refine ⟨by simp [E.len], fun j e h => ?_⟩
  rw [List.getElem?_set] at h ⊢
  by_cases q : i = j
  · subst q
    rw [if_pos rfl] at h
    split at h <;> cases h
  · rw [if_neg q] at h ⊢
    exact E.at_ j e h
theorem EnvD.wipe (E : EnvD K H N σ δ) : ∀ vs, EnvD K H N (L2.wipe σ vs) (wipeD δ vs)
  | [] => E
  | v :: vs => (EnvD.wipe E vs).unset v
theorem EnvD.start {ds : List D} {vs : List V} (N' : List Str) (r : Reps K H N ds vs) : EnvD K H N (L2.start N' vs) (ds.map some ++ List.replicate (N'.length - ds.length) none) := by
  have hl := r.len
  refine ⟨by simp [L2.start, hl], fun i d h => ?_⟩
  unfold L2.start
  rw [List.getElem?_append] at h ⊢
  simp only [List.length_map, List.getElem?_map, hl] at h ⊢
  split at h
  · rw [if_pos (by assumption)]
    cases e : ds[i]? with
    | none => rw [e] at h; cases h
    | some d' =>
      rw [e] at h
      cases h
      obtain ⟨v, hv, q⟩ := r.get i _ e
      exact ⟨v, by rw [hv]; rfl, q⟩
  · rw [List.getElem?_replicate] at h
    split at h <;> cases h
end

/-! ### readings -/
abbrev EK := D → Mu → Prop
abbrev AEt := Dt → Mu → EK → Prop
abbrev ATt := Dt → Mu → (Bool → Mu → Prop) → Prop
abbrev AAt := Dt → Mu → (List D → Mu → Prop) → Prop
structure AEnds where
  nx : Dt → Mu → Prop
  rt : EK
  bk : Dt → Mu → Prop := fun _ _ => False
  ct : Dt → Mu → Prop := fun _ _ => False
abbrev ASt := AEnds → Dt → Mu → Prop
section
variable (K : PySem.W.Frag)
def PostE (B : Addr → Prop) (H : Hp) (m : Mu) (Q : EK) (Q' : VK) : Prop := ∀ d m' v H', Step H m H' m' → Wd K H' B m' → Rep K H' (Ban B m') d v → Q d m' → Q' v H'
def PostA (B : Addr → Prop) (H : Hp) (m : Mu) (Q : List D → Mu → Prop) (Q' : List V → Hp → Prop) : Prop := ∀ d m' v H', Step H m H' m' → Wd K H' B m' → Reps K H' (Ban B m') d v → Q d m' → Q' v H'
def PostT (B : Addr → Prop) (H : Hp) (m : Mu) (Q : Bool → Mu → Prop) (Q' : Bool → Hp → Prop) : Prop := ∀ b m' H', Step H m H' m' → Wd K H' B m' → Q b m' → Q' b H'
def PostN (B : Addr → Prop) (H : Hp) (m : Mu) (Q : Dt → Mu → Prop) (Q' : L2.St → Hp → Prop) : Prop := ∀ δ' m' σ' H', Step H m H' m' → Wd K H' B m' → EnvD K H' (Ban B m') σ' δ' → Q δ' m' → Q' σ' H'
structure EndsOk (B : Addr → Prop) (H : Hp) (m : Mu) (D : AEnds) (De : Ends) : Prop where
  nx : PostN K B H m D.nx De.nx
  rt : PostE K B H m D.rt De.rt
  bk : PostN K B H m D.bk De.bk
  ct : PostN K B H m D.ct De.ct
def SE (te : TE) (t : AEt) : Prop := ∀ (B : Addr → Prop) (δ : Dt) (m : Mu) (Q : EK) (σ : L2.St) (H : Hp), Wd K H B m → EnvD K H (Ban B m) σ δ → t δ m Q → ∀ Q' : VK, PostE K B H m Q Q' → te σ H Q'
def ST (te : TT) (t : ATt) : Prop := ∀ (B : Addr → Prop) (δ : Dt) (m : Mu) (Q : Bool → Mu → Prop) (σ : L2.St) (H : Hp), Wd K H B m → EnvD K H (Ban B m) σ δ → t δ m Q → ∀ Q', PostT K B H m Q Q' → te σ H Q'
def SA (te : TA) (t : AAt) : Prop := ∀ (B : Addr → Prop) (δ : Dt) (m : Mu) (Q : List D → Mu → Prop) (σ : L2.St) (H : Hp), Wd K H B m → EnvD K H (Ban B m) σ δ → t δ m Q → ∀ Q', PostA K B H m Q Q' → te σ H Q'
def SS (ts : TS) (t : ASt) : Prop := ∀ (B : Addr → Prop) (D : AEnds) (δ : Dt) (m : Mu) (σ : L2.St) (H : Hp), Wd K H B m → EnvD K H (Ban B m) σ δ → t D δ m → ∀ De : Ends, EndsOk K B H m D De → ts De σ H
end
structure AE (X : Cx) (e : Expr) (t : AEt) : Prop where
  ex : ∃ te, PE X e te ∧ SE X.K te t
structure AT (X : Cx) (e : Expr) (t : ATt) : Prop where
  ex : ∃ te, PT X e te ∧ ST X.K te t
structure AW (X : Cx) (e : Expr) (t : ATt) : Prop where
  ex : ∃ te, PW X e te ∧ ST X.K te t
structure AA (X : Cx) (es : List Expr) (t : AAt) : Prop where
  ex : ∃ te, PA X es te ∧ SA X.K te t
structure AS (X : Cx) (st : Stmt) (t : ASt) : Prop where
  ex : ∃ ts, PS X st ts ∧ SS X.K ts t
structure ASs (X : Cx) (st : List Stmt) (t : ASt) : Prop where
  ex : ∃ ts, PSs X st ts ∧ SS X.K ts t
section
variable {K : PySem.W.Frag} {B : Addr → Prop} {H H' : Hp} {m m' : Mu}
theorem PostE.step {Q : EK} {Q' : VK} (s : Step H m H' m') (k : PostE K B H m Q Q') : PostE K B H' m' Q Q' := fun d m2 v H2 s2 W r q => k d m2 v H2 (s.trans s2) W r q
theorem PostA.step {Q Q'} (s : Step H m H' m') (k : PostA K B H m Q Q') : PostA K B H' m' Q Q' := fun d m2 v H2 s2 W r q => k d m2 v H2 (s.trans s2) W r q
theorem PostT.step {Q Q'} (s : Step H m H' m') (k : PostT K B H m Q Q') : PostT K B H' m' Q Q' := fun b m2 H2 s2 W q => k b m2 H2 (s.trans s2) W q
theorem PostN.step {Q Q'} (s : Step H m H' m') (k : PostN K B H m Q Q') : PostN K B H' m' Q Q' := fun b m2 v H2 s2 W r q => k b m2 v H2 (s.trans s2) W r q
theorem EndsOk.step {D : AEnds} {De : Ends} (s : Step H m H' m') (k : EndsOk K B H m D De) : EndsOk K B H' m' D De := ⟨k.nx.step s, k.rt.step s, k.bk.step s, k.ct.step s⟩
theorem PostE.now {Q : EK} {Q' : VK} (k : PostE K B H m Q Q') (W : Wd K H B m) {d : D} {v : V} (r : Rep K H (Ban B m) d v) (q : Q d m) : Q' v H := k d m v H (Step.refl H m) W r q
theorem PostT.now {Q Q'} (k : PostT K B H m Q Q') (W : Wd K H B m) {b : Bool} (q : Q b m) : Q' b H := k b m H (Step.refl H m) W q
/-- a new object -/
theorem Wd.free (W : Wd K H B m) {p : Addr} (hp : H p = none) : m p = none ∧ ¬ B p := by
  refine ⟨?_, fun b => (W.hid p b).1 hp⟩
  cases e : m p with
  | none => rfl
  | some c =>
    have := W.cell p c e
    cases c with
    | lst ds => obtain ⟨vs, h, _⟩ := this; rw [hp] at h; cases h
    | dct ds => obtain ⟨vs, h, _⟩ := this; rw [hp] at h; cases h
    | ins C dx fs => obtain ⟨vs, h, _⟩ := this; rw [hp] at h; cases h
    | dfz od vs ds => obtain ⟨h, _⟩ := this; rw [hp] at h; cases h
    | tab q => obtain ⟨ps, h, _⟩ := this; rw [hp] at h; cases h
theorem Step.new {p : Addr} {o : HO} (hp : H p = none) : Step H m (upd H p o) m := Step.same fun x u e => by rw [upd_ne (ne_of_none e hp)]; exact e
theorem CellOk.carry {N N' : Addr → Prop} {a : Addr} {c : Cell} (k : Carry H N H' N') (ha : ∀ o, H a = some o → H' a = some o) (hd : ∀ dx, H dx = some (.own a) → m dx = none → H' dx = some (.own a) ∧ m' dx = none) (h : CellOk K H N m a c) : CellOk K H' N' m' a c := by
  cases c with
  | lst ds => obtain ⟨vs, e, r⟩ := h; exact ⟨vs, ha _ e, Reps.carry k ds vs r⟩
  | dct ds => obtain ⟨vs, e, r⟩ := h; exact ⟨vs, ha _ e, Repk.carry k ds vs r⟩
  | ins C dx fs => obtain ⟨vs, e, r, o, q⟩ := h; exact ⟨vs, ha _ e, Repf.carry k fs vs r, hd dx o q⟩
  | dfz od vs ds => obtain ⟨e, r⟩ := h; exact ⟨ha _ e, Repk.carry k ds vs r⟩
  | tab q => obtain ⟨ps, e, t, r⟩ := h; exact ⟨ps, ha _ e, t, fun pos cv z => let ⟨c, e1, e2, e3⟩ := r pos cv z; ⟨c, e1, (k c _ e2 e3).1, (k c _ e2 e3).2⟩⟩
theorem Wd.new (W : Wd K H B m) {p : Addr} {o : HO} (hp : H p = none) : Wd K (upd H p o) B m ∧ ¬ Ban B m p := by
  obtain ⟨f1, f2⟩ := W.free hp
  have st : Step H m (upd H p o) m := Step.new hp
  refine ⟨⟨fun a c e => ?_, fun a b => ?_⟩, fun z => z.elim f2 fun z => z f1⟩
  · exact CellOk.carry st.carry (fun u q => by rw [upd_ne (ne_of_none q hp)]; exact q) (fun dx q h => ⟨by rw [upd_ne (ne_of_none q hp)]; exact q, h⟩) (W.cell a c e)
  · obtain ⟨h1, h2⟩ := W.hid a b
    refine ⟨?_, h2⟩
    cases q : H a with
    | none => exact absurd q h1
    | some u => rw [upd_ne (ne_of_none q hp), q]; exact fun z => nomatch z
/-- .. handed on as data -/
theorem PostE.tup {Q : EK} {Q' : VK} (k : PostE K B H m Q Q') (W : Wd K H B m) {ds : List D} {vs : List V} (r : Reps K H (Ban B m) ds vs) (q : Q (.tup ds) m) : NewT H vs Q' := fun p o hp hd =>
  have ⟨W', n⟩ := W.new (o := .frz o (.tup vs)) hp
  k _ m _ _ (Step.new hp) W' (rep_tup.mpr ⟨p, vs, rfl, .inl ⟨o, upd_same, hd, n⟩, Reps.carry (Step.new hp : Step H m _ m).carry _ _ r⟩) q
theorem PostE.lst {Q : EK} {Q' : VK} (k : PostE K B H m Q Q') (W : Wd K H B m) {ds : List D} {vs : List V} (r : Reps K H (Ban B m) ds vs) (q : Q (.lst ds) m) {p : Addr} (hp : H p = none) : Q' (.ref p) (upd H p (.lst vs)) :=
  have ⟨W', n⟩ := W.new (o := .lst vs) hp
  k _ m _ _ (Step.new hp) W' (rep_lst.mpr ⟨p, vs, rfl, ⟨upd_same, n⟩, Reps.carry (Step.new hp : Step H m _ m).carry _ _ r⟩) q
theorem PostE.dct {Q : EK} {Q' : VK} (k : PostE K B H m Q Q') (W : Wd K H B m) {ds : List (Key × D)} {vs : List (Key × V)} (r : Repk K H (Ban B m) ds vs) (q : Q (.dct ds) m) {p : Addr} (hp : H p = none) : Q' (.ref p) (upd H p (.dK vs)) :=
  have ⟨W', n⟩ := W.new (o := .dK vs) hp
  k _ m _ _ (Step.new hp) W' (rep_dct.mpr ⟨p, vs, rfl, ⟨upd_same, n⟩, Repk.carry (Step.new hp : Step H m _ m).carry _ _ r⟩) q
/-- a cell written -/
theorem Wd.write (W : Wd K H B m) {p : Addr} {c0 c : Cell} {o : HO} (h0 : m p = some c0) (hin : ∀ C dx fs, c0 = .ins C dx fs → ∃ gs, c = .ins C dx gs)
    (hno : ∀ x, H p ≠ some (.own x)) (new : CellOk K (upd H p o) (Ban B (m.put p c)) (m.put p c) p c) : Step H m (upd H p o) (m.put p c) ∧ Wd K (upd H p o) B (m.put p c) := by
  have st : Step H m (upd H p o) (m.put p c) := fun x u e n => by
    have ne : x ≠ p := fun z => by subst z; rw [h0] at n; cases n
    rw [upd_ne ne, Mu.put_ne ne]; exact ⟨e, n⟩
  refine ⟨st, fun a d e => ?_, fun a b => ?_⟩
  · by_cases q : a = p
    · subst q; rw [Mu.put_same] at e; cases e; exact new
    · rw [Mu.put_ne q] at e
      refine CellOk.carry st.carry (fun u z => by rw [upd_ne q]; exact z) (fun dx z n => st dx _ z n) (W.cell a d e)
  · obtain ⟨h1, h2⟩ := W.hid a b
    have ne : a ≠ p := fun z => by subst z; rw [h0] at h2; cases h2
    rw [upd_ne ne, Mu.put_ne ne]; exact ⟨h1, h2⟩
/-- a new object into the store -/
theorem Wd.into (W : Wd K H B m) {p : Addr} {c : Cell} {o : HO} (hp : H p = none) (new : CellOk K (upd H p o) (Ban B (m.put p c)) (m.put p c) p c) : Step H m (upd H p o) (m.put p c) ∧ Wd K (upd H p o) B (m.put p c) := by
  have st : Step H m (upd H p o) (m.put p c) := fun x u e n => by
    have ne : x ≠ p := ne_of_none e hp
    rw [upd_ne ne, Mu.put_ne ne]; exact ⟨e, n⟩
  refine ⟨st, fun a d e => ?_, fun a b => ?_⟩
  · by_cases q : a = p
    · subst q; rw [Mu.put_same] at e; cases e; exact new
    · rw [Mu.put_ne q] at e
      exact CellOk.carry st.carry (fun u z => by rw [upd_ne q]; exact z) (fun dx z n => st dx _ z n) (W.cell a d e)
  · obtain ⟨h1, h2⟩ := W.hid a b
    cases q : H a with
    | none => exact absurd q h1
    | some u =>
      have ne : a ≠ p := ne_of_none q hp
      rw [upd_ne ne, Mu.put_ne ne, q]; exact ⟨(fun z => nomatch z), h2⟩
end
end L3
namespace L3
open PySem PySem.Spec PyProof.Rows L2
section
variable {X : Cx} {pos : Pos}
/-! ### names, constants -/
def aVar (i : Nat) : AEt := fun δ m Q => ∃ d, δ[i]? = some (some d) ∧ Q d m
def aC (d : D) : AEt := fun _ m Q => Q d m
theorem ae_var (i : Nat) {x : Str} (hN : X.N[i]? = some x := by rfl) (hv : Vis X.env.scope x := by first | exact Or.inl rfl | exact Or.inr (Or.inl rfl) | exact Or.inr (Or.inr rfl)) (hd : (x == ("__debug__" : Str)) = false := by decide)
    (hcd : (x == ("__classdict__" : Str)) = false := by decide) : AE X (.Name x pos) (aVar i) :=
  ⟨tVar i, pv i hN hv hd hcd, fun B δ m Q σ H W E ⟨d, e, q⟩ Q' k => let ⟨v, hv, r⟩ := E.at_ i d e; ⟨v, hv, k.now W r q⟩⟩
/-- a value that the heap has nothing to do with -/
theorem ae_c {e : Expr} {d : D} {v : V} (h : PE X e (tC v)) (r : ∀ H N, Rep X.K H N d v) : AE X e (aC d) :=
  ⟨tC v, h, fun B δ m Q σ H W E q Q' k => k.now W (r _ _) q⟩
theorem ae_int {i j} : AE X (.Constant (.int i) j pos) (aC (.int i)) := ae_c pe_int fun _ _ => rep_int.mpr rfl
theorem ae_bl {b j} : AE X (.Constant (.bool b) j pos) (aC (.bl b)) := ae_c pe_bl fun _ _ => rep_bl.mpr rfl
theorem ae_non {j} : AE X (.Constant .none j pos) (aC .non) := ae_c pe_non fun _ _ => rep_non.mpr rfl
theorem ae_str {x j} : AE X (.Constant (.str x) j pos) (aC (.str x)) := ae_c pe_str fun _ _ => rep_str.mpr rfl
/-- what the module's name x stands for -/
structure GloD (K : PySem.W.Frag) (mg : Str → Option Value) (x : Str) (d : D) : Prop where
  ex : ∃ u v, mg x = some u ∧ RelV v u ∧ ∀ H N, Rep K H N d v
theorem GloD.int {K mg x i} (h : ∃ t, mg x = some (.int i t)) : GloD K mg x (.int i) := let ⟨t, h⟩ := h; ⟨_, .int i, h, ⟨t, rfl⟩, fun _ _ => rep_int.mpr rfl⟩
theorem GloD.str {K mg x z} (h : ∃ t, mg x = some (.str z t)) : GloD K mg x (.str z) := let ⟨t, h⟩ := h; ⟨_, .str z, h, ⟨t, rfl⟩, fun _ _ => rep_str.mpr rfl⟩
theorem ae_glo {x : Str} {d : D} (h : GloD X.K X.mg x d) (hg : Gl X x := by rfl) (hd : (x == ("__debug__" : Str)) = false := by decide) : AE X (.Name x pos) (aC d) :=
  let ⟨_, _, hm, r, q⟩ := h.ex
  ae_c (pe_glob hg hm r hd) q
theorem ae_ty {x : Str} {n : String} (hm : X.mg x = none) (hv : bootBuiltins x = some (.type n)) (hg : Gl X x := by rfl) (hn : x ≠ "__name__" := by decide) (hd : (x == ("__debug__" : Str)) = false := by decide) : AE X (.Name x pos) (aC (.ty n)) :=
  ae_c (pe_bltn (v := .ty n) hg hm hv rfl hn hd) fun _ _ => rep_ty.mpr rfl

/-! ### operations by values -/
abbrev Rho2 := D → D → Mu → EK → Prop
def rOf (K : PySem.W.Frag) (ρ : Rho2) : R2 := fun x y H Q' => ∃ B m dx dy Q, Wd K H B m ∧ Rep K H (Ban B m) dx x ∧ Rep K H (Ban B m) dy y ∧ ρ dx dy m Q ∧ PostE K B H m Q Q'
def aOp (ρ : Rho2) (ta tb : AEt) : AEt := fun δ m Q => ta δ m fun x m1 => tb δ m1 fun y m2 => ρ x y m2 Q
theorem SE.bin {K : PySem.W.Frag} {ρ : Rho2} {ta tb : AEt} {sa sb : TE} (ha : SE K sa ta) (hb : SE K sb tb) : SE K (tOp (rOf K ρ) sa sb) (aOp ρ ta tb) := fun B δ m Q σ H W E h Q' k =>
  ha B δ m _ σ H W E h _ fun x m1 v H1 s1 W1 r1 q1 => hb B δ m1 _ σ H1 W1 (E.carry s1.carry) q1 _ fun y m2 u H2 s2 W2 r2 q2 =>
    ⟨B, m2, x, y, Q, W2, Rep.carry s2.carry _ _ r1, r2, q2, k.step (s1.trans s2)⟩
theorem ae_op {op : Operator} {ρ : Rho2} {a b : Expr} {ta tb : AEt} (ho : OpR X (binaryOp op) (rOf X.K ρ)) (ha : AE X a ta) (hb : AE X b tb) : AE X (.BinOp a op b pos) (aOp ρ ta tb) :=
  let ⟨_, pa, sa⟩ := ha.ex
  let ⟨_, pb, sb⟩ := hb.ex
  ⟨_, pe_op ho pa pb, sa.bin sb⟩
theorem ae_cmp {op : CmpOp} {ρ : Rho2} {a b : Expr} {ta tb : AEt} (ho : OpR X (compareOp op) (rOf X.K ρ)) (ha : AE X a ta) (hb : AE X b tb) (hm : behindInMarks op b = false) : AE X (.Compare a [op] [b] pos) (aOp ρ ta tb) :=
  let ⟨_, pa, sa⟩ := ha.ex
  let ⟨_, pb, sb⟩ := hb.ex
  ⟨_, pe_cmpR ho pa pb hm, sa.bin sb⟩
/-- a list, also one in the store -/
def lstOf (m : Mu) : D → Option (List D)
  | .lst ds => some ds
  | .ref p => match m p with
    | some (.lst ds) => some ds
    | _ => none
  | _ => none
/-- it stands there as a tracked list -/
theorem lst_at {K : PySem.W.Frag} {H : Hp} {B : Addr → Prop} {m : Mu} {d : D} {ds : List D} {v : V} (W : Wd K H B m) (r : Rep K H (Ban B m) d v) (h : lstOf m d = some ds) : ∃ a vs, v = .ref a ∧ H a = some (.lst vs) ∧ Reps K H (Ban B m) ds vs := by
  unfold lstOf at h
  split at h
  · cases h
    obtain ⟨a, vs, e, t, q⟩ := rep_lst.mp r
    exact ⟨a, vs, e, t.1, q⟩
  · rename_i p
    split at h
    · rename_i e
      cases h
      obtain ⟨vs, hp, q⟩ := W.cell p _ e
      exact ⟨p, vs, rep_ref.mp r, hp, q⟩
    · cases h
  · cases h
def rhoAdd : Rho2 := fun x y m Q => match x, y with
  | .int i, .int j => Q (.int (i + j)) m
  | .str s, .str t => s.length + t.length ≤ sizeLine ∧ Q (.str (s ++ t)) m
  | .tup a, .tup b => a.length + b.length ≤ sizeLine ∧ Q (.tup (a ++ b)) m
  | x, y => ∃ a b, lstOf m x = some a ∧ lstOf m y = some b ∧ a.length + b.length ≤ sizeLine ∧ Q (.lst (a ++ b)) m
theorem add_lst {x y : D} {B : Addr → Prop} {m : Mu} {Q : EK} {a b : List D} (hx : lstOf m x = some a) (hy : lstOf m y = some b) (hl : a.length + b.length ≤ sizeLine) (hq : Q (.lst (a ++ b)) m)
    {pins s σ H v u} {Q' : VK} {vv uu : Value} (I : Inv X pins σ H s) (rv : RelV v vv) (ru : RelV u uu) (W : Wd X.K H B m) (r1 : Rep X.K H (Ban B m) x v) (r2 : Rep X.K H (Ban B m) y u) (k : PostE X.K B H m Q Q') :
    wpAny (model X.prog X.w) X.A (binaryOp .Add vv uu) (EP X pins σ Q') X.xe s := by
  obtain ⟨p, vs, rfl, hp, q1⟩ := lst_at W r1 hx
  obtain ⟨p', ws, rfl, hp', q2⟩ := lst_at W r2 hy
  exact op_cat pins s σ H _ _ _ _ Q' I rv ru ⟨p, p', vs, ws, rfl, rfl, hp, hp', by rw [q1.len, q2.len]; exact hl, fun l hl' => k.lst W (q1.app q2) hq hl'⟩
theorem or_add : OpR X (binaryOp .Add) (rOf X.K rhoAdd) := by
  intro pins s σ H x y v u Q' I rx ry h
  obtain ⟨B, m, dx, dy, Q, W, r1, r2, h, k⟩ := h
  unfold rhoAdd at h
  split at h
  · cases rep_int.mp r1; cases rep_int.mp r2
    exact op_add pins s σ H _ _ v u Q' I rx ry ⟨_, _, rfl, rfl, k.now W (rep_int.mpr rfl) h⟩
  · cases rep_str.mp r1; cases rep_str.mp r2
    exact op_add_str pins s σ H _ _ v u Q' I rx ry ⟨_, _, rfl, rfl, h.1, k.now W (rep_str.mpr rfl) h.2⟩
  · rename_i a b
    obtain ⟨p, vs, rfl, t1, q1⟩ := rep_tup.mp r1
    obtain ⟨p', ws, rfl, t2, q2⟩ := rep_tup.mp r2
    refine op_catF pins s σ H _ _ v u Q' I rx ry ⟨p, p', vs, ws, rfl, rfl, t1.sq, t2.sq, by rw [q1.len, q2.len]; exact h.1, fun e => ?_, fun _ e => ?_, fun _ _ => k.tup W (q1.app q2) h.2⟩
    · have : a = [] := by have := q1.len; rw [e] at this; exact List.eq_nil_of_length_eq_zero this.symm
      subst this
      exact k.now W r2 h.2
    · have : b = [] := by have := q2.len; rw [e] at this; exact List.eq_nil_of_length_eq_zero this.symm
      subst this
      exact k.now W r1 (by simpa using h.2)
  · obtain ⟨a, b, hx, hy, hl, hq⟩ := h
    exact add_lst hx hy hl hq I rx ry W r1 r2 k
def rhoSub : Rho2 := fun x y m Q => ∃ i j, x = .int i ∧ y = .int j ∧ Q (.int (i - j)) m
theorem or_sub : OpR X (binaryOp .Sub) (rOf X.K rhoSub) := by
  intro pins s σ H x y v u Q' I rx ry h
  obtain ⟨B, m, dx, dy, Q, W, r1, r2, ⟨i, j, rfl, rfl, h⟩, k⟩ := h
  cases rep_int.mp r1; cases rep_int.mp r2
  exact op_sub pins s σ H _ _ v u Q' I rx ry ⟨_, _, rfl, rfl, k.now W (rep_int.mpr rfl) h⟩
def rhoMul : Rho2 := fun x y m Q => match x, y with
  | .int i, .int j => CMul i j ∧ Q (.int (i * j)) m
  | .lst a, .int n => 0 ≤ n ∧ n < 1000 ∧ a.length * n.toNat ≤ sizeLine ∧ Q (.lst (List.replicate n.toNat a).flatten) m
  | .tup a, .int n => False
  | _, _ => False
theorem reps_rep {K : PySem.W.Frag} {H : Hp} {N : Addr → Prop} {ds : List D} {vs : List V} (h : Reps K H N ds vs) : ∀ n, Reps K H N (List.replicate n ds).flatten (List.replicate n vs).flatten
  | 0 => reps_nil.mpr rfl
  | n + 1 => by
    rw [List.replicate_succ, List.replicate_succ, List.flatten_cons, List.flatten_cons]
    exact h.app (reps_rep h n)
theorem or_mul : OpR X (binaryOp .Mult) (rOf X.K rhoMul) := by
  intro pins s σ H x y v u Q' I rx ry h
  obtain ⟨B, m, dx, dy, Q, W, r1, r2, h, k⟩ := h
  unfold rhoMul at h
  split at h
  · cases rep_int.mp r1; cases rep_int.mp r2
    exact op_mul pins s σ H _ _ v u Q' I rx ry ⟨_, _, rfl, rfl, h.1, k.now W (rep_int.mpr rfl) h.2⟩
  · obtain ⟨p, vs, rfl, t1, q1⟩ := rep_lst.mp r1
    cases rep_int.mp r2
    obtain ⟨h1, h2, h3, h4⟩ := h
    exact op_rep pins s σ H _ _ v u Q' I rx ry ⟨p, _, vs, rfl, rfl, t1.1, by omega, by omega, by rw [q1.len]; exact h3, fun l hl => k.lst W (reps_rep q1 _) h4 hl⟩
  · exact h.elim
  · exact h.elim
def rhoMod : Rho2 := fun x y m Q => ∃ i j, x = .int i ∧ y = .int j ∧ 0 < j ∧ Q (.int (i % j)) m
theorem or_mod : OpR X (binaryOp .Mod) (rOf X.K rhoMod) := by
  intro pins s σ H x y v u Q' I rx ry h
  obtain ⟨B, m, dx, dy, Q, W, r1, r2, ⟨i, j, rfl, rfl, hj, h⟩, k⟩ := h
  cases rep_int.mp r1; cases rep_int.mp r2
  exact op_mod pins s σ H _ _ v u Q' I rx ry ⟨_, _, rfl, rfl, hj, k.now W (rep_int.mpr rfl) h⟩
def rhoDiv : Rho2 := fun x y m Q => ∃ i j, x = .int i ∧ y = .int j ∧ CDiv i j ∧ Q (.int (i / j)) m
theorem or_div : OpR X (binaryOp .FloorDiv) (rOf X.K rhoDiv) := by
  intro pins s σ H x y v u Q' I rx ry h
  obtain ⟨B, m, dx, dy, Q, W, r1, r2, ⟨i, j, rfl, rfl, hj, h⟩, k⟩ := h
  cases rep_int.mp r1; cases rep_int.mp r2
  exact op_fdiv pins s σ H _ _ v u Q' I rx ry ⟨_, _, rfl, rfl, hj, k.now W (rep_int.mpr rfl) h⟩
def rhoPow : Rho2 := fun x y m Q => ∃ i j, x = .int i ∧ y = .int j ∧ CPow i j ∧ Q (.int (i ^ j.toNat)) m
theorem or_pow : OpR X (binaryOp .Pow) (rOf X.K rhoPow) := by
  intro pins s σ H x y v u Q' I rx ry h
  obtain ⟨B, m, dx, dy, Q, W, r1, r2, ⟨i, j, rfl, rfl, hj, h⟩, k⟩ := h
  cases rep_int.mp r1; cases rep_int.mp r2
  exact op_pow pins s σ H _ _ v u Q' I rx ry ⟨_, _, rfl, rfl, hj, k.now W (rep_int.mpr rfl) h⟩
/-- comparisons of ints -/
def rhoI (f : Int → Int → Bool) : Rho2 := fun x y m Q => ∃ i j, x = .int i ∧ y = .int j ∧ Q (.bl (f i j)) m
theorem or_int {op : CmpOp} {f : Int → Int → Bool} (h0 : OpR X (compareOp op) (rI0 fun i j => .bl (f i j))) : OpR X (compareOp op) (rOf X.K (rhoI f)) := by
  intro pins s σ H x y v u Q' I rx ry h
  obtain ⟨B, m, dx, dy, Q, W, r1, r2, ⟨i, j, rfl, rfl, h⟩, k⟩ := h
  cases rep_int.mp r1; cases rep_int.mp r2
  exact h0 pins s σ H _ _ v u Q' I rx ry ⟨_, _, rfl, rfl, k.now W (rep_bl.mpr rfl) h⟩
abbrev rhoLt : Rho2 := rhoI fun i j => decide (i < j)
abbrev rhoLe : Rho2 := rhoI fun i j => decide (i ≤ j)
abbrev rhoGt : Rho2 := rhoI fun i j => decide (j < i)
abbrev rhoGe : Rho2 := rhoI fun i j => decide (j ≤ i)
theorem or_lt : OpR X (compareOp .Lt) (rOf X.K rhoLt) := or_int op_lt
theorem or_le : OpR X (compareOp .LtE) (rOf X.K rhoLe) := or_int op_le
theorem or_gt : OpR X (compareOp .Gt) (rOf X.K rhoGt) := or_int op_gt
theorem or_ge : OpR X (compareOp .GtE) (rOf X.K rhoGe) := or_int op_ge
/-! ### equality: data of any depth -/
mutual
def D.pd : D → PyData
  | .non => .none
  | .bl b => .bool b
  | .int i => .int i
  | .str x => .str x
  | .tup ds => .tuple (pds ds)
  | .lst ds => .list (pds ds)
  | .dct _ => .none
  | .ref _ => .none
  | .ty _ => .none
  | .fl _ => .none
def pds : List D → List PyData
  | [] => []
  | d :: ds => d.pd :: pds ds
end
mutual
/-- data that == is reckoned of -/
def D.plain : D → Bool
  | .tup ds => plains ds
  | .lst ds => plains ds
  | .dct _ => false
  | .ref _ => false
  | .ty _ => false
  | .fl _ => false
  | _ => true
def plains : List D → Bool
  | [] => true
  | d :: ds => d.plain && plains ds
end
section
variable {K : PySem.W.Frag} {H : Hp} {N : Addr → Prop}
mutual
theorem dp_of : ∀ (d : D) (v : V), d.plain = true → Rep K H N d v → Dp K H v d.pd
  | .non, _, _, r => by cases rep_non.mp r; exact .non
  | .bl _, _, _, r => by cases rep_bl.mp r; exact .bl _
  | .int _, _, _, r => by cases rep_int.mp r; exact .int _
  | .str _, _, _, r => by cases rep_str.mp r; exact .str _
  | .tup ds, _, p, r => by
    obtain ⟨a, vs, rfl, t, q⟩ := rep_tup.mp r
    exact .tup t.sq (dps_of ds vs (by simpa only [D.plain] using p) q)
  | .lst ds, _, p, r => by
    obtain ⟨a, vs, rfl, t, q⟩ := rep_lst.mp r
    exact .lst t.sq (dps_of ds vs (by simpa only [D.plain] using p) q)
  | .dct _, _, p, _ => by simp [D.plain] at p
  | .ref _, _, p, _ => by simp [D.plain] at p
  | .ty _, _, p, _ => by simp [D.plain] at p
  | .fl _, _, p, _ => by simp [D.plain] at p
theorem dps_of : ∀ (ds : List D) (vs : List V), plains ds = true → Reps K H N ds vs → DpAll K H vs (pds ds)
  | [], _, _, r => by rw [reps_nil.mp r]; exact .nil
  | d :: ds, _, p, r => by
    obtain ⟨v, ws, rfl, r1, r2⟩ := reps_cons.mp r
    have p' : d.plain = true ∧ plains ds = true := by simpa [plains] using p
    exact .cons (dp_of d v p'.1 r1) (dps_of ds ws p'.2 r2)
end
end
/-- what == looks at: a list of the store as it stands -/
def rsv (m : Mu) (d : D) : D := match lstOf m d with
  | some ds => .lst ds
  | none => d
theorem rsv_dp {K : PySem.W.Frag} {H : Hp} {B : Addr → Prop} {m : Mu} {d : D} {v : V} (W : Wd K H B m) (r : Rep K H (Ban B m) d v) (p : (rsv m d).plain = true) : Dp K H v (rsv m d).pd := by
  unfold rsv at p ⊢
  cases e : lstOf m d with
  | none => rw [e] at p; exact dp_of d v p r
  | some ds =>
    rw [e] at p
    obtain ⟨a, vs, rfl, h, q⟩ := lst_at W r e
    exact .lst (SqL.of h) (dps_of ds vs (by simpa only [D.plain] using p) q)
def eqOk (d : D) : Bool := d.plain && SeqAt.shaped d.pd
/-- flat data -/
def D.flat : D → Bool
  | .non => true
  | .bl _ => true
  | .int _ => true
  | .str _ => true
  | _ => false
def vOf : D → V
  | .non => .non
  | .bl b => .bl b
  | .int i => .int i
  | .str x => .str x
  | _ => .non
theorem rep_flat {K : PySem.W.Frag} {H : Hp} {N : Addr → Prop} {d : D} {v : V} (f : d.flat = true) (r : Rep K H N d v) : v = vOf d := by
  cases d <;> first | (cases f; done) | (simp only [Rep] at r; exact r)
/-- what == tells apart by itself -/
def scalD (x y : D) : Bool := x.flat && (y.flat && scal (vOf x) (vOf y))
def eqD (x y : D) : Bool := PyData.eqv x.pd y.pd
theorem rsv_flat {m : Mu} {d : D} (f : d.flat = true) : rsv m d = d := by
  cases d <;> first | (cases f; done) | rfl
theorem scal_eqv {x y : D} (f : x.flat = true) (g : y.flat = true) (h : scal (vOf x) (vOf y) = true) : decide (vOf x = vOf y) = eqD x y := by
  unfold eqD
  cases x <;> first | (cases f; done) | skip
  all_goals (cases y <;> first | (cases g; done) | (cases h; done) | skip)
  all_goals (simp only [vOf, D.pd, PyData.eqv])
  all_goals first
    | rfl
    | exact dec_int
    | exact dec_bl
    | (rename_i a b
       by_cases e : a = b
       · subst e; simp
       · simp [e])
    | simp
def rhoEq : Rho2 := fun x y m Q => (scalD x y = true ∨ (eqOk (rsv m x) = true ∧ eqOk (rsv m y) = true)) ∧ Q (.bl (eqD (rsv m x) (rsv m y))) m
def rhoNe : Rho2 := fun x y m Q => (scalD x y = true ∨ (eqOk (rsv m x) = true ∧ eqOk (rsv m y) = true)) ∧ Q (.bl (!eqD (rsv m x) (rsv m y))) m
theorem scalD_of {x y : D} (h : scalD x y = true) : x.flat = true ∧ y.flat = true ∧ scal (vOf x) (vOf y) = true :=
  let ⟨a, b⟩ := Bool.and_eq_true_iff.mp h
  let ⟨c, d⟩ := Bool.and_eq_true_iff.mp b
  ⟨a, c, d⟩
theorem or_eq (hu : X.A.units + 64 < cLine) : OpR X (compareOp .Eq) (rOf X.K rhoEq) := by
  intro pins s σ H x y v u Q' I rx ry ⟨B, m, dx, dy, Q, W, r1, r2, ⟨c, h⟩, k⟩
  rcases c with c | ⟨h1, h2⟩
  · obtain ⟨f, g, e⟩ := scalD_of c
    obtain rfl := rep_flat f r1
    obtain rfl := rep_flat g r2
    rw [rsv_flat f, rsv_flat g, ← scal_eqv f g e] at h
    exact op_eq pins s σ H _ _ v u Q' I rx ry ⟨e, k.now W (rep_bl.mpr rfl) h⟩
  · obtain ⟨p1, s1⟩ := Bool.and_eq_true_iff.mp h1
    obtain ⟨p2, s2⟩ := Bool.and_eq_true_iff.mp h2
    exact op_eqD hu pins s σ H _ _ v u Q' I rx ry ⟨_, _, rsv_dp W r1 p1, rsv_dp W r2 p2, s1, s2, k.now W (rep_bl.mpr rfl) h⟩
theorem or_ne (hu : X.A.units + 64 < cLine) : OpR X (compareOp .NotEq) (rOf X.K rhoNe) := by
  intro pins s σ H x y v u Q' I rx ry ⟨B, m, dx, dy, Q, W, r1, r2, ⟨c, h⟩, k⟩
  rcases c with c | ⟨h1, h2⟩
  · obtain ⟨f, g, e⟩ := scalD_of c
    obtain rfl := rep_flat f r1
    obtain rfl := rep_flat g r2
    rw [rsv_flat f, rsv_flat g, ← scal_eqv f g e] at h
    exact op_ne pins s σ H _ _ v u Q' I rx ry ⟨e, k.now W (rep_bl.mpr rfl) h⟩
  · obtain ⟨p1, s1⟩ := Bool.and_eq_true_iff.mp h1
    obtain ⟨p2, s2⟩ := Bool.and_eq_true_iff.mp h2
    exact op_neD hu pins s σ H _ _ v u Q' I rx ry ⟨_, _, rsv_dp W r1 p1, rsv_dp W r2 p2, s1, s2, k.now W (rep_bl.mpr rfl) h⟩
/-! ### is None -/
def D.isNon : D → Bool
  | .non => true
  | _ => false
theorem rep_isNon {K : PySem.W.Frag} {H : Hp} {N : Addr → Prop} {d : D} {v : V} (r : Rep K H N d v) : decide (v = .non) = d.isNon := by
  cases d with
  | non => cases rep_non.mp r; rfl
  | bl b => cases rep_bl.mp r; rfl
  | int b => cases rep_int.mp r; rfl
  | str b => cases rep_str.mp r; rfl
  | tup ds => obtain ⟨a, vs, rfl, _⟩ := rep_tup.mp r; rfl
  | lst ds => obtain ⟨a, vs, rfl, _⟩ := rep_lst.mp r; rfl
  | dct ds => obtain ⟨a, vs, rfl, _⟩ := rep_dct.mp r; rfl
  | ref a => cases rep_ref.mp r; rfl
  | ty a => cases rep_ty.mp r; rfl
  | fl a => obtain ⟨p, rfl, _⟩ := rep_fl.mp r; rfl
def rhoIsN : Rho2 := fun x y m Q => y = .non ∧ Q (.bl x.isNon) m
def rhoNotN : Rho2 := fun x y m Q => y = .non ∧ Q (.bl (!x.isNon)) m
theorem or_isN : OpR X (compareOp .Is) (rOf X.K rhoIsN) := by
  intro pins s σ H x y v u Q' I rx ry h
  obtain ⟨B, m, dx, dy, Q, W, r1, r2, ⟨rfl, h⟩, k⟩ := h
  cases rep_non.mp r2
  exact op_isN pins s σ H _ _ v u Q' I rx ry ⟨rfl, by rw [rep_isNon r1]; exact k.now W (rep_bl.mpr rfl) h⟩
theorem or_notN : OpR X (compareOp .IsNot) (rOf X.K rhoNotN) := by
  intro pins s σ H x y v u Q' I rx ry h
  obtain ⟨B, m, dx, dy, Q, W, r1, r2, ⟨rfl, h⟩, k⟩ := h
  cases rep_non.mp r2
  exact op_notN pins s σ H _ _ v u Q' I rx ry ⟨rfl, by rw [rep_isNon r1]; exact k.now W (rep_bl.mpr rfl) h⟩
end
end L3
namespace L3
open PySem PySem.Spec PyProof.Rows L2
section
variable {X : Cx} {pos : Pos}
/-! ### tests -/
def aB (t : AEt) : ATt := fun δ m Q => t δ m fun x m' => ∃ c, x = .bl c ∧ Q c m'
theorem at_cmp {op : CmpOp} {ρ : Rho2} {a b : Expr} {ta tb : AEt} (ho : OpR X (compareOp op) (rOf X.K ρ)) (ha : AE X a ta) (hb : AE X b tb) (hm : behindInMarks op b = false) : AT X (.Compare a [op] [b] pos) (aB (aOp ρ ta tb)) :=
  let ⟨_, pa, sa⟩ := ha.ex
  let ⟨_, pb, sb⟩ := hb.ex
  ⟨_, pt_cmpR ho pa pb hm, fun B δ m Q σ H W E h Q' k => sa.bin sb B δ m _ σ H W E h _ fun d m' v H' s W' r ⟨c, e, q⟩ => by subst e; exact ⟨c, rep_bl.mp r, k c m' H' s W' q⟩⟩
theorem at_val {e : Expr} {t : AEt} (h : AE X e t) (he : ∀ whole, isTrue e X.env whole = (do let v ← whole; standAt e.pos; holding [v] (truthy v)) := by intro _; rfl) : AT X e (aB t) :=
  let ⟨_, pa, sa⟩ := h.ex
  ⟨_, pt_val pa he, fun B δ m Q σ H W E h Q' k => sa B δ m _ σ H W E h _ fun d m' v H' s W' r ⟨c, e, q⟩ => by subst e; exact ⟨c, rep_bl.mp r, k c m' H' s W' q⟩⟩
def aAnd (t u : ATt) : ATt := fun δ m Q => t δ m fun c m1 => if c = true then u δ m1 Q else Q false m1
def aOr (t u : ATt) : ATt := fun δ m Q => t δ m fun c m1 => if c = true then Q true m1 else u δ m1 Q
def aNot (t : ATt) : ATt := fun δ m Q => t δ m fun c m1 => Q (!c) m1
theorem AW.t {e : Expr} {t : ATt} (h : AW X e t) : AT X e t := let ⟨_, p, s⟩ := h.ex; ⟨_, p.pt, s⟩
section
variable {a b : Expr} {rest : List Expr} {t u : ATt}
theorem aw_and1 (h : AT X a t) : AW X (.BoolOp .And [a] pos) t := let ⟨_, p, s⟩ := h.ex; ⟨_, pw_and1 p, s⟩
theorem aw_or1 (h : AT X a t) : AW X (.BoolOp .Or [a] pos) t := let ⟨_, p, s⟩ := h.ex; ⟨_, pw_or1 p, s⟩
theorem aw_and (h : AT X a t) (g : AW X (.BoolOp .And (b :: rest) pos) u) : AW X (.BoolOp .And (a :: b :: rest) pos) (aAnd t u) :=
  let ⟨_, p, s⟩ := h.ex
  let ⟨_, p', s'⟩ := g.ex
  ⟨_, pw_and p p', fun B δ m Q σ H W E h Q' k => s B δ m _ σ H W E h _ fun c m1 H1 s1 W1 q => by
    cases c with
    | true => exact s' B δ m1 _ σ H1 W1 (E.carry s1.carry) q _ (k.step s1)
    | false => exact k false m1 H1 s1 W1 q⟩
theorem aw_or (h : AT X a t) (g : AW X (.BoolOp .Or (b :: rest) pos) u) : AW X (.BoolOp .Or (a :: b :: rest) pos) (aOr t u) :=
  let ⟨_, p, s⟩ := h.ex
  let ⟨_, p', s'⟩ := g.ex
  ⟨_, pw_or p p', fun B δ m Q σ H W E h Q' k => s B δ m _ σ H W E h _ fun c m1 H1 s1 W1 q => by
    cases c with
    | false => exact s' B δ m1 _ σ H1 W1 (E.carry s1.carry) q _ (k.step s1)
    | true => exact k true m1 H1 s1 W1 q⟩
theorem at_not (h : AT X a t) : AT X (.UnaryOp .Not a pos) (aNot t) :=
  let ⟨_, p, s⟩ := h.ex
  ⟨_, pt_not p, fun B δ m Q σ H W E h Q' k => s B δ m _ σ H W E h _ fun c m1 H1 s1 W1 q => k (!c) m1 H1 s1 W1 q⟩
end
/-! ### and, or, not as values; a if t else b -/
section
variable {a b c : Expr} {rest : List Expr} {ta tb : AEt} {t : ATt}
def aAndV (ta tb : AEt) : AEt := fun δ m Q => ta δ m fun x m1 => ∃ c, x = .bl c ∧ if c = true then tb δ m1 Q else Q (.bl false) m1
def aOrV (ta tb : AEt) : AEt := fun δ m Q => ta δ m fun x m1 => ∃ c, x = .bl c ∧ if c = true then Q (.bl true) m1 else tb δ m1 Q
def aNotV (ta : AEt) : AEt := fun δ m Q => ta δ m fun x m1 => ∃ c, x = .bl c ∧ Q (.bl (!c)) m1
def aIf (t : ATt) (ta tb : AEt) : AEt := fun δ m Q => t δ m fun c m1 => if c = true then ta δ m1 Q else tb δ m1 Q
theorem ae_one {op} (h : AE X a ta) : AE X (.BoolOp op [a] pos) ta := let ⟨_, p, s⟩ := h.ex; ⟨_, pe_one p, s⟩
theorem ae_and (h : AE X a ta) (g : AE X (.BoolOp .And (b :: rest) pos) tb) : AE X (.BoolOp .And (a :: b :: rest) pos) (aAndV ta tb) :=
  let ⟨_, p, s⟩ := h.ex
  let ⟨_, p', s'⟩ := g.ex
  ⟨_, pe_and p p', fun B δ m Q σ H W E h Q' k => s B δ m _ σ H W E h _ fun x m1 v H1 s1 W1 r ⟨c, e, q⟩ => by
    subst e
    refine ⟨c, rep_bl.mp r, ?_⟩
    cases c with
    | true => exact s' B δ m1 _ σ H1 W1 (E.carry s1.carry) q _ (k.step s1)
    | false => exact k _ m1 _ H1 s1 W1 (rep_bl.mpr rfl) q⟩
theorem ae_or (h : AE X a ta) (g : AE X (.BoolOp .Or (b :: rest) pos) tb) : AE X (.BoolOp .Or (a :: b :: rest) pos) (aOrV ta tb) :=
  let ⟨_, p, s⟩ := h.ex
  let ⟨_, p', s'⟩ := g.ex
  ⟨_, pe_or p p', fun B δ m Q σ H W E h Q' k => s B δ m _ σ H W E h _ fun x m1 v H1 s1 W1 r ⟨c, e, q⟩ => by
    subst e
    refine ⟨c, rep_bl.mp r, ?_⟩
    cases c with
    | false => exact s' B δ m1 _ σ H1 W1 (E.carry s1.carry) q _ (k.step s1)
    | true => exact k _ m1 _ H1 s1 W1 (rep_bl.mpr rfl) q⟩
theorem ae_not (h : AE X a ta) : AE X (.UnaryOp .Not a pos) (aNotV ta) :=
  let ⟨_, p, s⟩ := h.ex
  ⟨_, pe_not p, fun B δ m Q σ H W E h Q' k => s B δ m _ σ H W E h _ fun x m1 v H1 s1 W1 r ⟨c, e, q⟩ => by
    subst e
    exact ⟨c, rep_bl.mp r, k _ m1 _ H1 s1 W1 (rep_bl.mpr rfl) q⟩⟩
theorem ae_if (hc : AT X c t) (h : AE X a ta) (g : AE X b tb) : AE X (.IfExp c a b pos) (aIf t ta tb) :=
  let ⟨_, pc, sc⟩ := hc.ex
  let ⟨_, p, s⟩ := h.ex
  let ⟨_, p', s'⟩ := g.ex
  ⟨_, pe_ifExp pc p p', fun B δ m Q σ H W E h Q' k => sc B δ m _ σ H W E h _ fun c m1 H1 s1 W1 q => by
    cases c with
    | true => exact s B δ m1 _ σ H1 W1 (E.carry s1.carry) q _ (k.step s1)
    | false => exact s' B δ m1 _ σ H1 W1 (E.carry s1.carry) q _ (k.step s1)⟩
/-- -a of an int -/
def aNeg (ta : AEt) : AEt := fun δ m Q => ta δ m fun x m1 => ∃ i, x = .int i ∧ Q (.int (-i)) m1
theorem ae_neg (h : AE X a ta) : AE X (.UnaryOp .USub a pos) (aNeg ta) :=
  let ⟨_, p, s⟩ := h.ex
  ⟨_, pe_un un_neg p, fun B δ m Q σ H W E h Q' k => s B δ m _ σ H W E h _ fun x m1 v H1 s1 W1 r ⟨i, e, q⟩ => by
    subst e
    exact ⟨i, rep_int.mp r, k _ m1 _ H1 s1 W1 (rep_int.mpr rfl) q⟩⟩
/-- a <= b <= c of ints -/
def aChain (ρ ρ' : Rho2) (ta tb tc : AEt) : AEt := fun δ m Q => ta δ m fun x m1 => tb δ m1 fun y m2 => ρ x y m2 fun z m3 => ∃ c, z = .bl c ∧ if c = true then tc δ m3 fun w m4 => ρ' y w m4 Q else Q (.bl false) m3
end
/-! ### arguments, displays -/
section
variable {e : Expr} {es : List Expr} {te : AEt} {t : AAt}
def aNil : AAt := fun _ m Q => Q [] m
def aCons (ta : AEt) (tr : AAt) : AAt := fun δ m Q => ta δ m fun x m1 => tr δ m1 fun xs m2 => Q (x :: xs) m2
theorem aa_nil : AA X [] aNil := ⟨_, pa_nil, fun B δ m Q σ H W E h Q' k => k [] m [] H (Step.refl H m) W (reps_nil.mpr rfl) h⟩
theorem aa_cons (h : AE X e te) (g : AA X es t) (hs : starEach (e :: es) X.env = (false, eval e X.env) :: starEach es X.env := by rfl) : AA X (e :: es) (aCons te t) :=
  let ⟨_, p, s⟩ := h.ex
  let ⟨_, p', s'⟩ := g.ex
  ⟨_, pa_cons p p' hs, fun B δ m Q σ H W E h Q' k => s B δ m _ σ H W E h _ fun x m1 v H1 s1 W1 r q => s' B δ m1 _ σ H1 W1 (E.carry s1.carry) q _ fun xs m2 vs H2 s2 W2 r2 q2 =>
    k (x :: xs) m2 (v :: vs) H2 (s1.trans s2) W2 (reps_cons.mpr ⟨v, vs, rfl, Rep.carry s2.carry _ _ r, r2⟩) q2⟩
def aTup (t : AAt) : AEt := fun δ m Q => t δ m fun ds m1 => ds.length ≤ sizeLine ∧ Q (.tup ds) m1
def aLst (t : AAt) : AEt := fun δ m Q => t δ m fun ds m1 => ds.length ≤ sizeLine ∧ Q (.lst ds) m1
/-- a new list that goes into the store -/
def aLstM (t : AAt) : AEt := fun δ m Q => t δ m fun ds m1 => ds.length ≤ sizeLine ∧ ∀ p, m1 p = none → Q (.ref p) (m1.put p (.lst ds))
theorem ae_tup {x1} (h : AA X es t) : AE X (.Tuple es x1 pos) (aTup t) :=
  let ⟨_, p, s⟩ := h.ex
  ⟨_, pe_tupF p, fun B δ m Q σ H W E h Q' k => s B δ m _ σ H W E h _ fun ds m1 vs H1 s1 W1 r q => ⟨by rw [r.len]; exact q.1, (k.step s1).tup W1 r q.2⟩⟩
theorem ae_lst (h : AA X es t) : AE X (.List es pos) (aLst t) :=
  let ⟨_, p, s⟩ := h.ex
  ⟨_, pe_lst p, fun B δ m Q σ H W E h Q' k => s B δ m _ σ H W E h _ fun ds m1 vs H1 s1 W1 r q => ⟨by rw [r.len]; exact q.1, fun l hl => (k.step s1).lst W1 r q.2 hl⟩⟩
theorem carry_put {H : Hp} {m : Mu} {B : Addr → Prop} {p : Addr} {c : Cell} {o : HO} (hp : H p = none) : Carry H (Ban B m) (upd H p o) (Ban B (m.put p c)) := fun x u e n => by
  have ne : x ≠ p := ne_of_none e hp
  exact ⟨by rw [upd_ne ne]; exact e, fun z => z.elim (fun b => n (.inl b)) fun z => n (.inr (by rw [Mu.put_ne ne] at z; exact z))⟩
theorem ae_lstM (h : AA X es t) : AE X (.List es pos) (aLstM t) :=
  let ⟨_, p, s⟩ := h.ex
  ⟨_, pe_lst p, fun B δ m Q σ H W E h Q' k => s B δ m _ σ H W E h _ fun ds m1 vs H1 s1 W1 r q => ⟨by rw [r.len]; exact q.1, fun l hl => by
    have ⟨st, W2⟩ := W1.into (c := .lst ds) (o := .lst vs) hl ⟨vs, upd_same, Reps.carry (carry_put hl) _ _ r⟩
    exact k _ _ _ _ (s1.trans st) W2 (rep_ref.mpr rfl) (q.2 l (W1.free hl).1)⟩⟩
/-! ### calls -/
abbrev SpD := List D → Mu → EK → Prop
/-- what is promised of data -/
def spD (K : PySem.W.Frag) (sp : SpD) : Sp := fun vs H Q' _ => ∃ B m ds Q, Wd K H B m ∧ Reps K H (Ban B m) ds vs ∧ sp ds m Q ∧ PostE K B H m Q Q'
def aCall (sp : SpD) (t : AAt) : AEt := fun δ m Q => t δ m fun ds m1 => sp ds m1 Q
/-- a def of the program that keeps a promise over data, and may be called by its name -/
structure FnD (P : Program) (w : World) (K : PySem.W.Frag) (mg : Str → Option Value) (base : Heap) (x : Str) (k : Nat) (sp : SpD) : Prop where
  ex : ∃ (f : Addr) (fd : FuncData) (ps : List Str), FnOk P w K mg base L2.CX0 k f fd ps (spD K sp) ∧ mg x = some (.ref f) ∧ PySem.W.keepIn K (.ref f) = true ∧ Binds K fd ps []
theorem FnD.mono {P w K mg base x j k sp} (h : FnD P w K mg base x j sp) (hj : j ≤ k) : FnD P w K mg base x k sp := let ⟨f, fd, ps, F, r⟩ := h.ex; ⟨f, fd, ps, F.mono hj, r⟩
theorem FnD.imp {P w K mg base x k} {sp sp' : SpD} (h : FnD P w K mg base x k sp) (i : ∀ ds m Q, sp' ds m Q → sp ds m Q) : FnD P w K mg base x k sp' :=
  let ⟨f, fd, ps, F, r⟩ := h.ex
  ⟨f, fd, ps, F.imp fun vs H Q' E ⟨B, m, ds, Q, W, rr, q, p⟩ => ⟨B, m, ds, Q, W, rr, i _ _ _ q, p⟩, r⟩
theorem ae_call {x : Str} {k : Nat} {sp : SpD} {p : Pos} (F : FnD X.prog X.w X.K X.mg X.base x k sp) (hr : Room k X.A) (h : AA X (e :: es) t) (hg : Gl X x := by rfl) (hdb : (x == ("__debug__" : Str)) = false := by decide)
    (he : starEach (e :: es) X.env = (false, eval e X.env) :: starEach es X.env := by rfl) (hpl : (backTo pos (starEach es X.env)).any (·.1) = false := by rfl) : AE X (.Call (.Name x p) (e :: es) [] pos) (aCall sp t) :=
  let ⟨_, pa, s⟩ := h.ex
  let ⟨_, _, _, F, hm, hk, hb⟩ := F.ex
  ⟨_, pe_call F hr hg hm hk hb .nil pass0 pa hdb he hpl, fun B δ m Q σ H W E h Q' k => s B δ m _ σ H W E h _ fun ds m1 vs H1 s1 W1 r q => by
    rw [List.append_nil]
    exact ⟨B, m1, ds, Q, W1, r, q, k.step s1⟩⟩
/-- a call of a built-in, by values -/
def rcOf (K : PySem.W.Frag) (ρ : SpD) : List V → Hp → VK → Prop := fun vs H Q' => ∃ B m ds Q, Wd K H B m ∧ Reps K H (Ban B m) ds vs ∧ ρ ds m Q ∧ PostE K B H m Q Q'
theorem ae_callB {x : Str} {id : String} {ρ : SpD} {p : Pos} (hc : CallR X (.builtin id) (rcOf X.K ρ)) (hm : X.mg x = none) (hv : bootBuiltins x = some (.builtin id)) (h : AA X (e :: es) t) (hg : Gl X x := by rfl) (hn : x ≠ "__name__" := by decide) (hdb : (x == ("__debug__" : Str)) = false := by decide)
    (he : starEach (e :: es) X.env = (false, eval e X.env) :: starEach es X.env := by rfl) (hpl : (backTo pos (starEach es X.env)).any (·.1) = false := by rfl) : AE X (.Call (.Name x p) (e :: es) [] pos) (aCall ρ t) :=
  let ⟨_, pa, s⟩ := h.ex
  ⟨_, pe_callB hc hg hm hv pa hn hdb he hpl, fun B δ m Q σ H W E h Q' k => s B δ m _ σ H W E h _ fun ds m1 vs H1 s1 W1 r q => ⟨B, m1, ds, Q, W1, r, q, k.step s1⟩⟩
theorem ae_callTy {x : Str} {T : String} {ρ : SpD} {p : Pos} (hc : CallR X (.type T) (rcOf X.K ρ)) (hm : X.mg x = none) (hv : bootBuiltins x = some (.type T)) (h : AA X (e :: es) t) (hg : Gl X x := by rfl) (hn : x ≠ "__name__" := by decide) (hdb : (x == ("__debug__" : Str)) = false := by decide)
    (he : starEach (e :: es) X.env = (false, eval e X.env) :: starEach es X.env := by rfl) (hpl : (backTo pos (starEach es X.env)).any (·.1) = false := by rfl) : AE X (.Call (.Name x p) (e :: es) [] pos) (aCall ρ t) :=
  let ⟨_, pa, s⟩ := h.ex
  ⟨_, pe_callTy hc hg hm hv pa hn hdb he hpl, fun B δ m Q σ H W E h Q' k => s B δ m _ σ H W E h _ fun ds m1 vs H1 s1 W1 r q => ⟨B, m1, ds, Q, W1, r, q, k.step s1⟩⟩
end
/-! ### in -/
theorem flat_vOf {d : D} (f : d.flat = true) : flatV (vOf d) = true := by
  cases d <;> first | (cases f; done) | rfl
theorem eq_vOf {d e : D} (f : d.flat = true) (g : e.flat = true) : eqV (vOf d) (vOf e) = PyData.eqv d.pd e.pd := by
  cases d <;> first | (cases f; done) | (cases e <;> first | (cases g; done) | (simp only [vOf, D.pd, PyData.eqv, eqV]) | rfl)
theorem reps_flat {K : PySem.W.Frag} {H : Hp} {N : Addr → Prop} : ∀ {ds : List D} {vs : List V}, ds.all D.flat = true → Reps K H N ds vs → vs = ds.map vOf
  | [], _, _, r => reps_nil.mp r
  | d :: ds, _, f, r => by
    obtain ⟨v, ws, rfl, r1, r2⟩ := reps_cons.mp r
    rw [List.all_cons, Bool.and_eq_true] at f
    rw [List.map_cons, rep_flat f.1 r1, reps_flat f.2 r2]
theorem flats_vOf : ∀ {ds : List D}, ds.all D.flat = true → (ds.map vOf).all flatV = true
  | [], _ => rfl
  | d :: ds, f => by
    rw [List.all_cons, Bool.and_eq_true] at f
    rw [List.map_cons, List.all_cons, flat_vOf f.1, flats_vOf f.2]; rfl
def inD (x : D) (ds : List D) : Bool := ds.any fun y => PyData.eqv y.pd x.pd
theorem inV_of {x : D} (f : x.flat = true) : ∀ {ds : List D}, ds.all D.flat = true → inV (vOf x) (ds.map vOf) = inD x ds
  | [], _ => rfl
  | d :: ds, g => by
    rw [List.all_cons, Bool.and_eq_true] at g
    have ih := inV_of f g.2
    unfold inV inD at ih ⊢
    rw [List.map_cons, List.any_cons, List.any_cons, ih, eq_vOf g.1 f]
def getK (kvs : List (Key × D)) (k : Key) : Option D := (kvs.find? fun p => decide (p.1 = k)).map (·.2)
def keyD : D → Option Key
  | .int i => some (.inl i)
  | .str x => some (.inr x)
  | _ => none
theorem keyD_v {K : PySem.W.Frag} {H : Hp} {N : Addr → Prop} {d : D} {v : V} {k : Key} (h : keyD d = some k) (r : Rep K H N d v) : v = kV k := by
  cases d <;> first | (cases h; done) | (cases h; simp only [Rep] at r; exact r)
/-- a dict, also one in the store -/
def dctOf (m : Mu) : D → Option (List (Key × D))
  | .dct ds => some ds
  | .ref p => match m p with
    | some (.dct ds) => some ds
    | some (.dfz _ _ ds) => some ds
    | _ => none
  | _ => none
theorem dct_at {K : PySem.W.Frag} {H : Hp} {B : Addr → Prop} {m : Mu} {d : D} {ds : List (Key × D)} {v : V} (W : Wd K H B m) (r : Rep K H (Ban B m) d v) (h : dctOf m d = some ds) : ∃ a vs, v = .ref a ∧ Rd H a (.dK vs) ∧ Repk K H (Ban B m) ds vs := by
  unfold dctOf at h
  split at h
  · cases h
    obtain ⟨a, vs, e, t, q⟩ := rep_dct.mp r
    exact ⟨a, vs, e, .inl t.1, q⟩
  · rename_i p
    split at h
    · rename_i e
      cases h
      obtain ⟨vs, hp, q⟩ := W.cell p _ e
      exact ⟨p, vs, rep_ref.mp r, .inl hp, q⟩
    · rename_i e
      cases h
      obtain ⟨hp, q⟩ := W.cell p _ e
      exact ⟨p, _, rep_ref.mp r, .inr ⟨_, hp⟩, q⟩
    · cases h
  · cases h
theorem dget_rd {H : Hp} {a : Addr} {kvs : List (Key × V)} {k : Key} (e : Rd H a (.dK kvs)) : DGet H a (kV k) (valV kvs k) := .inl ⟨kvs, k, e, rfl, rfl⟩
/-- a dict that may be written -/
def dctP (m : Mu) : D → Option (List (Key × D))
  | .ref p => match m p with
    | some (.dct ds) => some ds
    | _ => none
  | _ => none
theorem getK_val {K : PySem.W.Frag} {H : Hp} {N : Addr → Prop} {ds : List (Key × D)} {vs : List (Key × V)} (r : Repk K H N ds vs) (k : Key) : (valV vs k = none ∧ getK ds k = none) ∨ ∃ d v, getK ds k = some d ∧ valV vs k = some v ∧ Rep K H N d v := by
  rcases r.val k with ⟨h1, h2⟩ | ⟨d, v, h1, h2, h3⟩
  · exact .inl ⟨h1, by unfold getK; rw [h2]; rfl⟩
  · exact .inr ⟨d, v, by unfold getK; rw [h1]; rfl, h2, h3⟩
/-- x in y: a sign in a text; flat things in a list or tuple; a key in a dict -/
def rhoIn (neg : Bool) : Rho2 := fun x y m Q => match y with
  | .str z => ∃ c, x = .str ⟨#[c]⟩ ∧ Q (.bl (neg ^^ decide (c ∈ z.cps.toList))) m
  | .tup ds => x.flat = true ∧ ds.all D.flat = true ∧ Q (.bl (neg ^^ inD x ds)) m
  | y => (∃ ds, lstOf m y = some ds ∧ ((x.flat = true ∧ ds.all D.flat = true) ∨ (eqOk x = true ∧ eqOk (.lst ds) = true)) ∧ Q (.bl (neg ^^ inD x ds)) m) ∨ ∃ ds k, dctOf m y = some ds ∧ keyD x = some k ∧ Q (.bl (neg ^^ (getK ds k).isSome)) m
theorem any_pd (x : D) : ∀ ds : List D, ((pds ds).any fun z => PyData.eqv z x.pd) = inD x ds
  | [] => rfl
  | d :: ds => by
    have ih := any_pd x ds
    unfold inD at ih ⊢
    rw [pds, List.any_cons, List.any_cons, ih]
theorem d_inR {neg : Bool} (hu : X.A.units + 1 < cLine) {pins : List (Addr × Obj)} {σ : L2.St} {H : Hp} {s : Shared} {a : Addr} {y : V} {u : Value} {o : Option V} {Q : VK} (I : Inv X pins σ H s) (g : DGet H a y o) (ry : RelV y u) (q : Q (.bl (neg ^^ o.isSome)) H) :
    wpAny (model X.prog X.w) X.A (compareOp (if neg then .NotIn else .In) u (.ref a)) (EP X pins σ Q) X.xe s := by
  cases neg with
  | true => exact d_notIn hu I g ry fun s3 I3 => ⟨.bl (!o.isSome), H, I3, rfl, by simpa using q⟩
  | false => exact d_in hu I g ry fun s3 I3 => ⟨.bl o.isSome, H, I3, rfl, by simpa using q⟩
theorem or_in (hu : X.A.units + 65 < cLine) (neg : Bool) : OpR X (compareOp (if neg then .NotIn else .In)) (rOf X.K (rhoIn neg)) := by
  intro pins s σ H x y v u Q' I rx ry h
  obtain ⟨B, m, dx, dy, Q, W, r1, r2, h, k⟩ := h
  unfold rhoIn at h
  split at h
  · rename_i z
    obtain ⟨c, rfl, h⟩ := h
    cases rep_str.mp r1; cases rep_str.mp r2
    cases neg with
    | true => exact op_notIn_sign pins s σ H _ _ v u Q' I rx ry ⟨c, z, rfl, rfl, by have := k.now W (rep_bl.mpr rfl) h; simpa using this⟩
    | false => exact op_in_sign pins s σ H _ _ v u Q' I rx ry ⟨c, z, rfl, rfl, by have := k.now W (rep_bl.mpr rfl) h; simpa using this⟩
  · rename_i ds
    obtain ⟨f, g, h⟩ := h
    obtain ⟨p, vs, rfl, t, q⟩ := rep_tup.mp r2
    obtain rfl := reps_flat g q
    obtain rfl := rep_flat f r1
    have hq := k.now W (rep_bl.mpr rfl) h
    rw [← inV_of f g] at hq
    cases neg with
    | true => exact op_notIn_seq pins s σ H _ _ v u Q' I rx ry ⟨p, _, rfl, .inr t.sq, flat_vOf f, flats_vOf g, by simpa using hq⟩
    | false => exact op_in_seq pins s σ H _ _ v u Q' I rx ry ⟨p, _, rfl, .inr t.sq, flat_vOf f, flats_vOf g, by simpa using hq⟩
  · rcases h with ⟨ds, hl, c, h⟩ | ⟨ds, key, hd, hk, h⟩
    · obtain ⟨p, vs, rfl, hp, q⟩ := lst_at W r2 hl
      have hq := k.now W (rep_bl.mpr rfl) h
      rcases c with ⟨f, g⟩ | ⟨f, g⟩
      · obtain rfl := reps_flat g q
        obtain rfl := rep_flat f r1
        rw [← inV_of f g] at hq
        cases neg with
        | true => exact op_notIn_seq pins s σ H _ _ v u Q' I rx ry ⟨p, _, rfl, .inl (SqL.of hp), flat_vOf f, flats_vOf g, by simpa using hq⟩
        | false => exact op_in_seq pins s σ H _ _ v u Q' I rx ry ⟨p, _, rfl, .inl (SqL.of hp), flat_vOf f, flats_vOf g, by simpa using hq⟩
      · obtain ⟨f1, f2⟩ := Bool.and_eq_true_iff.mp f
        obtain ⟨g1, g2⟩ := Bool.and_eq_true_iff.mp g
        have dl : Dp X.K H (.ref p) (.list (pds ds)) := .lst (SqL.of hp) (dps_of ds vs (by simpa only [D.plain] using g1) q)
        have g2' : SeqAt.shaped (.list (pds ds)) = true := by simpa only [D.pd] using g2
        rw [← any_pd] at hq
        cases neg with
        | true => exact op_notInD hu pins s σ H _ _ v u Q' I rx ry ⟨_, _, dp_of _ _ f1 r1, dl, f2, g2', by simpa using hq⟩
        | false => exact op_inD hu pins s σ H _ _ v u Q' I rx ry ⟨_, _, dp_of _ _ f1 r1, dl, f2, g2', by simpa using hq⟩
    · obtain ⟨p, vs, rfl, hp, q⟩ := dct_at W r2 hd
      obtain rfl := keyD_v hk r1
      cases ry
      have hq := k.now W (rep_bl.mpr rfl) h
      refine d_inR (neg := neg) (by omega) I (dget_rd (k := key) hp) rx ?_
      rcases getK_val q key with ⟨e1, e2⟩ | ⟨d, v, e1, e2, _⟩
      · rw [e1]; rw [e2] at hq; exact hq
      · rw [e2]; rw [e1] at hq; exact hq
end
end L3
namespace L3
open PySem PySem.Spec PyProof.Rows L2
section
variable {X : Cx} {pos : Pos}
/-! ### a[b] -/
def rhoIx : Rho2 := fun x y m Q => match x with
  | .tup ds => ∃ i d, y = .int i ∧ atI ds i = some d ∧ Q d m
  | .str z => ∃ i c, y = .int i ∧ z.length ≤ sizeLine ∧ atI z.cps.toList i = some c ∧ Q (.str ⟨#[c]⟩) m
  | x => (∃ ds i d, lstOf m x = some ds ∧ y = .int i ∧ atI ds i = some d ∧ Q d m) ∨ ∃ ds k d, dctOf m x = some ds ∧ keyD y = some k ∧ getK ds k = some d ∧ Q d m
theorem reps_atI {K : PySem.W.Frag} {H : Hp} {N : Addr → Prop} {ds : List D} {vs : List V} (r : Reps K H N ds vs) {i : Int} {d : D} (h : atI ds i = some d) : ∃ v, atI vs i = some v ∧ Rep K H N d v := by
  unfold atI at h ⊢
  rw [r.len]
  cases e : ixN ds.length i with
  | none => rw [e] at h; cases h
  | some j =>
    rw [e] at h
    exact r.get j d h
theorem ix_D (hu : X.A.units + 1 < cLine) : IxR X (rOf X.K rhoIx) := by
  intro value slice pins s σ H x y v u Q' I rx ry h hs
  obtain ⟨B, m, dx, dy, Q, W, r1, r2, h, k⟩ := h
  unfold rhoIx at h
  split at h
  · obtain ⟨i, d, rfl, ha, q⟩ := h
    obtain ⟨p, vs, rfl, t, rs⟩ := rep_tup.mp r1
    obtain ⟨w, hw, rw⟩ := reps_atI rs ha
    cases rep_int.mp r2
    exact ix_tup value slice pins s σ H _ _ v u Q' I rx ry ⟨p, vs, i, w, rfl, rfl, t.sq, hw, k.now W rw q⟩ hs
  · obtain ⟨i, c, rfl, hl, ha, q⟩ := h
    cases rep_str.mp r1; cases rep_int.mp r2
    exact ix_str value slice pins s σ H _ _ v u Q' I rx ry ⟨_, i, c, rfl, rfl, hl, ha, k.now W (rep_str.mpr rfl) q⟩ hs
  · rcases h with ⟨ds, i, d, hl, rfl, ha, q⟩ | ⟨ds, key, d, hd, hk, hg, q⟩
    · obtain ⟨p, vs, rfl, hp, rs⟩ := lst_at W r1 hl
      obtain ⟨w, hw, rw⟩ := reps_atI rs ha
      cases rep_int.mp r2
      exact ix_list value slice pins s σ H _ _ v u Q' I rx ry ⟨p, vs, i, w, rfl, rfl, SqL.of hp, hw, k.now W rw q⟩ hs
    · obtain ⟨p, vs, rfl, hp, rs⟩ := dct_at W r1 hd
      obtain rfl := keyD_v hk r2
      cases rx
      rcases getK_val rs key with ⟨e1, e2⟩ | ⟨d', w, e1, e2, rw⟩
      · rw [hg] at e2; cases e2
      · rw [hg] at e1; cases e1
        have g : DGet H p (kV key) (some w) := by rw [← e2]; exact dget_rd hp
        exact tail_any (dict_typeIs I g) PySem.F.slot_dict_getitem.lookup (d_getItem hu I g ry fun w' s' I' rw' => ⟨w, H, I', rw', k.now W rw q⟩) hs
section
variable {a b : Expr} {ta tb : AEt}
theorem ae_ix (hu : X.A.units + 1 < cLine) (ha : AE X a ta) (hb : AE X b tb) (hs : PlainIx b := by exact fun _ _ => rfl) : AE X (.Subscript a b pos) (aOp rhoIx ta tb) :=
  let ⟨_, pa, sa⟩ := ha.ex
  let ⟨_, pb, sb⟩ := hb.ex
  ⟨_, pe_ix (ix_D hu) pa pb hs, sa.bin sb⟩
end
/-- a dict of the module with text keys: KTab K w x kvs -/
structure KTab (K : PySem.W.Frag) (w : World) (mg : Str → Option Value) (x : Str) (kvs : List (Str × D)) : Prop where
  ex : ∃ d es n, mg x = some (.ref d) ∧ KDict K w d es n ∧
    ∀ z, match (kvs.find? fun p => decide (p.1 = z)).map (·.2) with
      | some e => ∃ u v, PySem.W.nsIn K d z = some (some u) ∧ RelV v u ∧ ∀ H N, Rep K H N e v
      | none => PySem.W.nsIn K d z = some none
def getS (kvs : List (Str × D)) (z : Str) : Option D := (kvs.find? fun p => decide (p.1 = z)).map (·.2)
def aKix (kvs : List (Str × D)) (tb : AEt) : AEt := fun δ m Q => tb δ m fun y m1 => ∃ z d, y = .str z ∧ getS kvs z = some d ∧ Q d m1
theorem ix_kd {d : Addr} {es : Array DictEntry} {n : Nat} (D : KDict X.K X.w d es n) : IxR X (fun x y H Q => ∃ (z : Str) (u0 : Value) (v0 : V), x = .ref d ∧ y = .str z ∧ PySem.W.nsIn X.K d z = some (some u0) ∧ RelV v0 u0 ∧ Q v0 H) := by
  intro value slice pins s σ H x y v u Q I rx ry h hs
  have h' := h
  obtain ⟨z, u0, v0, rfl, rfl, _⟩ := h'
  have hg := op_item_kd D pins s σ H _ _ v u Q I rx ry h
  cases rx
  exact tail_any (kd_type D I) PySem.F.slot_dict_getitem.lookup hg hs
theorem ae_kix {x : Str} {kvs : List (Str × D)} {b : Expr} {tb : AEt} {p : Pos} (T : KTab X.K X.w X.mg x kvs) (hb : AE X b tb) (hg : Gl X x := by rfl) (hd : (x == ("__debug__" : Str)) = false := by decide) (hs : PlainIx b := by exact fun _ _ => rfl) : AE X (.Subscript (.Name x p) b pos) (aKix kvs tb) :=
  let ⟨d, es, n, hm, D, val⟩ := T.ex
  let ⟨_, pb, sb⟩ := hb.ex
  ⟨_, pe_ix (ix_kd D) (pe_glob (v := .ref d) hg hm rfl hd) pb hs, fun B δ m Q σ H W E h Q' k => sb B δ m _ σ H W E h _ fun y m1 v H1 s1 W1 r ⟨z, e, ey, hz, q⟩ => by
    subst ey
    cases rep_str.mp r
    have hv := val z
    unfold getS at hz
    rw [hz] at hv
    obtain ⟨u, w, h1, h2, h3⟩ := hv
    exact ⟨z, u, w, rfl, rfl, h1, h2, k e m1 w H1 s1 W1 (h3 _ _) q⟩⟩
theorem getM_kd {d : Addr} {es : Array DictEntry} {n : Nat} (D : KDict X.K X.w d es n) {pins : List (Addr × Obj)} {σ : L2.St} {H : Hp} {s : Shared} (I : Inv X pins σ H s) : s.heap.get? d = some ⟨.type "dict", none, .dict es n, #[]⟩ := I.kIn d _ D.at_
/-! ### slices -/
abbrev AOt := Dt → Mu → (Option Int → Mu → Prop) → Prop
def SO (K : PySem.W.Frag) (te : TO) (t : AOt) : Prop := ∀ (B : Addr → Prop) (δ : Dt) (m : Mu) (Q : Option Int → Mu → Prop) (σ : L2.St) (H : Hp), Wd K H B m → EnvD K H (Ban B m) σ δ → t δ m Q → ∀ Q' : Option Int → Hp → Prop, (∀ o m' H', Step H m H' m' → Wd K H' B m' → Q o m' → Q' o H') → te σ H Q'
structure AO (X : Cx) (e : Option Expr) (t : AOt) : Prop where
  ex : ∃ te, PO X e te ∧ SO X.K te t
def aNoPart : AOt := fun _ m Q => Q none m
def aPart (t : AEt) : AOt := fun δ m Q => t δ m fun x m1 => ∃ i, x = .int i ∧ Q (some i) m1
theorem ao_none : AO X none aNoPart := ⟨_, po_none, fun B δ m Q σ H W E h Q' k => k none m H (Step.refl H m) W h⟩
theorem ao_some {e : Expr} {t : AEt} (h : AE X e t) : AO X (some e) (aPart t) :=
  let ⟨_, p, s⟩ := h.ex
  ⟨_, po_some p, fun B δ m Q σ H W E h Q' k => s B δ m _ σ H W E h _ fun x m1 v H1 s1 W1 r ⟨i, e, q⟩ => by
    subst e
    exact ⟨i, rep_int.mp r, k (some i) m1 H1 s1 W1 q⟩⟩
def cutD (xs : List D) (lo hi : Option Int) : List D := (xs.drop (HT.sIx xs.length 0 lo)).take (HT.sIx xs.length xs.length hi - HT.sIx xs.length 0 lo)
def rhoSl : D → Option Int → Option Int → Mu → EK → Prop := fun x lo hi m Q => match x with
  | .tup ds => Q (.tup (cutD ds lo hi)) m
  | .str z => z.length ≤ sizeLine ∧ Q (.str (cutS z lo hi)) m
  | x => ∃ ds, lstOf m x = some ds ∧ Q (.lst (cutD ds lo hi)) m
def rsOf (K : PySem.W.Frag) : V → Option Int → Option Int → Hp → VK → Prop := fun x lo hi H Q' => ∃ B m dx Q, Wd K H B m ∧ Rep K H (Ban B m) dx x ∧ rhoSl dx lo hi m Q ∧ PostE K B H m Q Q'
theorem cut_reps {K : PySem.W.Frag} {H : Hp} {N : Addr → Prop} {ds : List D} {vs : List V} (r : Reps K H N ds vs) (lo hi : Option Int) : Reps K H N (cutD ds lo hi) (cutV vs lo hi) := by
  unfold cutD cutV
  rw [r.len]
  exact (r.drop _).take _
theorem sl_D : SlR X (rsOf X.K) := by
  intro pins s σ H x v vl vu lo hi sl Q' I rx hs pl pu h
  obtain ⟨B, m, dx, Q, W, r1, h, k⟩ := h
  unfold rhoSl at h
  split at h
  · rename_i ds
    obtain ⟨p, vs, rfl, t, rs⟩ := rep_tup.mp r1
    refine sl_tupF pins s σ H _ v vl vu lo hi sl Q' I rx hs pl pu ⟨p, vs, rfl, t.sq, fun e => ?_, fun _ => k.tup W (cut_reps rs lo hi) h⟩
    have e' : cutD ds lo hi = ds := by
      unfold cutD
      rw [rs.len] at e
      rw [e.1, e.2]
      simp
    rw [e'] at h
    exact k.now W r1 h
  · obtain ⟨hl, q⟩ := h
    cases rep_str.mp r1
    exact sl_str pins s σ H _ v vl vu lo hi sl Q' I rx hs pl pu ⟨_, rfl, hl, k.now W (rep_str.mpr rfl) q⟩
  · obtain ⟨ds, hl, q⟩ := h
    obtain ⟨p, vs, rfl, hp, rs⟩ := lst_at W r1 hl
    exact sl_list pins s σ H _ v vl vu lo hi sl Q' I rx hs pl pu ⟨p, vs, rfl, SqL.of hp, fun l hl => k.lst W (cut_reps rs lo hi) q hl⟩
def aSl (t : AEt) (tl th : AOt) : AEt := fun δ m Q => t δ m fun x m1 => tl δ m1 fun lo m2 => th δ m2 fun hi m3 => rhoSl x lo hi m3 Q
theorem ae_sl {e : Expr} {lo hi : Option Expr} {p2 : Pos} {t : AEt} {tl th : AOt} (h : AE X e t) (hl : AO X lo tl) (hh : AO X hi th) : AE X (.Subscript e (.Slice lo hi none p2) pos) (aSl t tl th) :=
  let ⟨_, p, s⟩ := h.ex
  let ⟨_, pl, s1⟩ := hl.ex
  let ⟨_, ph, s2⟩ := hh.ex
  ⟨_, pe_slice sl_D p pl ph, fun B δ m Q σ H W E h Q' k => s B δ m _ σ H W E h _ fun x m1 v H1 st1 W1 r q =>
    s1 B δ m1 _ σ H1 W1 (E.carry st1.carry) q _ fun lo m2 H2 st2 W2 q => s2 B δ m2 _ σ H2 W2 (E.carry (st1.trans st2).carry) q _ fun hi m3 H3 st3 W3 q =>
      ⟨B, m3, x, Q, W3, Rep.carry (st2.trans st3).carry _ _ r, q, k.step ((st1.trans st2).trans st3)⟩⟩
/-! ### built-ins by values -/
def rcLen : SpD := fun ds m Q => ∃ x, ds = [x] ∧ match x with
  | .str z => z.length ≤ sizeLine ∧ Q (.int (z.length : Int)) m
  | .tup es => Q (.int (es.length : Int)) m
  | x => ∃ es, lstOf m x = some es ∧ Q (.int (es.length : Int)) m
theorem reps1 {K : PySem.W.Frag} {H : Hp} {N : Addr → Prop} {d : D} {vs : List V} (r : Reps K H N [d] vs) : ∃ v, vs = [v] ∧ Rep K H N d v := by
  obtain ⟨v, ws, rfl, r1, r2⟩ := reps_cons.mp r
  rw [reps_nil.mp r2]
  exact ⟨v, rfl, r1⟩
theorem reps2 {K : PySem.W.Frag} {H : Hp} {N : Addr → Prop} {d e : D} {vs : List V} (r : Reps K H N [d, e] vs) : ∃ v w, vs = [v, w] ∧ Rep K H N d v ∧ Rep K H N e w := by
  obtain ⟨v, ws, rfl, r1, r2⟩ := reps_cons.mp r
  obtain ⟨w, rfl, r3⟩ := reps1 r2
  exact ⟨v, w, rfl, r1, r3⟩
theorem cr_len : CallR X (.builtin "len") (rcOf X.K rcLen) := by
  intro pins s σ H xs us Q' I r h
  obtain ⟨B, m, ds, Q, W, rs, ⟨x, rfl, h⟩, k⟩ := h
  obtain ⟨v, rfl, r1⟩ := reps1 rs
  split at h
  · cases rep_str.mp r1
    exact call_len pins s σ H _ us Q' I r ⟨_, _, rfl, ⟨h.1, rfl⟩, k.now W (rep_int.mpr rfl) h.2⟩
  · obtain ⟨p, vs, rfl, t, q⟩ := rep_tup.mp r1
    exact call_len pins s σ H _ us Q' I r ⟨_, _, rfl, .inr ⟨vs, t.sq, rfl⟩, k.now W (rep_int.mpr (by rw [q.len])) h⟩
  · obtain ⟨es, hl, h⟩ := h
    obtain ⟨p, vs, rfl, hp, q⟩ := lst_at W r1 hl
    exact call_len pins s σ H _ us Q' I r ⟨_, _, rfl, .inl ⟨vs, SqL.of hp, rfl⟩, k.now W (rep_int.mpr (by rw [q.len])) h⟩
/-- isinstance -/
def tyD (m : Mu) : D → Option String
  | .non => some "NoneType"
  | .bl _ => some "bool"
  | .int _ => some "int"
  | .str _ => some "str"
  | .tup _ => some "tuple"
  | .lst _ => some "list"
  | .dct _ => some "dict"
  | .ref p => match m p with
    | some (.lst _) => some "list"
    | some (.dct _) => some "dict"
    | _ => none
  | .ty _ => none
  | .fl _ => none
theorem tyX_of {K : PySem.W.Frag} {H : Hp} {B : Addr → Prop} {m : Mu} {d : D} {v : V} {t : String} (W : Wd K H B m) (r : Rep K H (Ban B m) d v) (h : tyD m d = some t) : TyX K H v (.type t) := by
  cases d with
  | non => cases h; cases rep_non.mp r; exact .base .non
  | bl b => cases h; cases rep_bl.mp r; exact .base (.bl _)
  | int b => cases h; cases rep_int.mp r; exact .base (.int _)
  | str b => cases h; cases rep_str.mp r; exact .base (.str _)
  | tup ds =>
    cases h
    obtain ⟨p, vs, rfl, tt, q⟩ := rep_tup.mp r
    rcases tt with ⟨o, tt, _⟩ | ⟨o, its, n, h1, h2, _⟩
    · exact .fTuple tt
    · exact .kTuple h1 h2
  | lst ds => cases h; obtain ⟨p, vs, rfl, tt, q⟩ := rep_lst.mp r; exact .base (.lst tt.1)
  | dct ds => cases h; obtain ⟨p, vs, rfl, tt, q⟩ := rep_dct.mp r; exact .base (.dK tt.1)
  | ref p =>
    cases rep_ref.mp r
    have h' : (match m p with | some (.lst _) => some "list" | some (.dct _) => some "dict" | _ => none) = some t := h
    cases e : m p with
    | none => rw [e] at h'; cases h'
    | some c =>
      rw [e] at h'
      cases c with
      | lst ds => cases h'; obtain ⟨vs, hp, _⟩ := W.cell p _ e; exact .base (.lst hp)
      | dct ds => cases h'; obtain ⟨vs, hp, _⟩ := W.cell p _ e; exact .base (.dK hp)
      | ins C dx fs => cases h'
      | dfz od vs ds => cases h'
      | tab q => cases h'
  | ty n => cases h
  | fl n => cases h
def isB (t n : String) : Bool := decide (t = n) || (decide (t = "bool") && decide (n = "int"))
theorem isB_tab : ∀ t ∈ ["NoneType", "bool", "int", "str", "tuple", "list", "dict"], ∀ n ∈ ["str", "int", "bool", "tuple", "list"], kitB t n = some (isB t n) := by decide +kernel
theorem tyD_mem {m : Mu} {d : D} {t : String} (h : tyD m d = some t) : t ∈ ["NoneType", "bool", "int", "str", "tuple", "list", "dict"] := by
  unfold tyD at h
  split at h <;> first | (cases h; done) | (cases h; simp; done) | (split at h <;> cases h <;> simp)
def rcIsi : SpD := fun ds m Q => ∃ x n t, ds = [x, .ty n] ∧ n ∈ ["str", "int", "bool", "tuple", "list"] ∧ tyD m x = some t ∧ Q (.bl (isB t n)) m
theorem cr_isi : CallR X (.builtin "isinstance") (rcOf X.K rcIsi) := by
  intro pins s σ H xs us Q' I r h
  obtain ⟨B, m, ds, Q, W, rs, ⟨x, n, t, rfl, hn, ht, h⟩, k⟩ := h
  obtain ⟨v, w, rfl, r1, r2⟩ := reps2 rs
  cases rep_ty.mp r2
  exact call_isi pins s σ H _ us Q' I r ⟨v, .ty n, .type t, .type n, _, rfl, ClsV.ty n, tyX_of W r1 ht, kit_ty (isB_tab t (tyD_mem ht) n hn), k.now W (rep_bl.mpr rfl) h⟩
/-- str of an int, a bool, a text: see what is asked -/
def rcTuple : SpD := fun ds m Q => ∃ x, ds = [x] ∧ match x with
  | .tup es => Q (.tup es) m
  | x => ∃ es, lstOf m x = some es ∧ Q (.tup es) m
theorem cr_tuple : CallR X (.type "tuple") (rcOf X.K rcTuple) := by
  intro pins s σ H xs us Q' I r h
  obtain ⟨B, m, ds, Q, W, rs, ⟨x, rfl, h⟩, k⟩ := h
  obtain ⟨v, rfl, r1⟩ := reps1 rs
  split at h
  · obtain ⟨p, vs, rfl, t, q⟩ := rep_tup.mp r1
    exact call_tupleF pins s σ H _ us Q' I r ⟨p, vs, rfl, .inr ⟨t.sq, k.now W r1 h⟩⟩
  · obtain ⟨es, hl, h⟩ := h
    obtain ⟨p, vs, rfl, hp, q⟩ := lst_at W r1 hl
    exact call_tupleF pins s σ H _ us Q' I r ⟨p, vs, rfl, .inl ⟨SqL.of hp, k.tup W q h⟩⟩
/-- list(x): by value; into the store -/
def rcList : SpD := fun ds m Q => ∃ x, ds = [x] ∧ match x with
  | .tup es => Q (.lst es) m
  | x => ∃ es, lstOf m x = some es ∧ Q (.lst es) m
theorem cr_list : CallR X (.type "list") (rcOf X.K rcList) := by
  intro pins s σ H xs us Q' I r h
  obtain ⟨B, m, ds, Q, W, rs, ⟨x, rfl, h⟩, k⟩ := h
  obtain ⟨v, rfl, r1⟩ := reps1 rs
  split at h
  · obtain ⟨p, vs, rfl, t, q⟩ := rep_tup.mp r1
    exact call_list_of pins s σ H _ us Q' I r ⟨p, vs, rfl, .inr t.sq, fun l hl => k.lst W q h hl⟩
  · obtain ⟨es, hl, h⟩ := h
    obtain ⟨p, vs, rfl, hp, q⟩ := lst_at W r1 hl
    exact call_list_of pins s σ H _ us Q' I r ⟨p, vs, rfl, .inl (SqL.of hp), fun l hl => k.lst W q h hl⟩
def rcMax2 : SpD := fun ds m Q => ∃ i j, ds = [.int i, .int j] ∧ Q (.int (if j > i then j else i)) m
theorem cr_max2 (hc : X.calm = true := by rfl) : CallR X (.builtin "max") (rcOf X.K rcMax2) := by
  intro pins s σ H xs us Q' I r h
  obtain ⟨B, m, ds, Q, W, rs, ⟨i, j, rfl, h⟩, k⟩ := h
  obtain ⟨v, w, rfl, r1, r2⟩ := reps2 rs
  cases rep_int.mp r1; cases rep_int.mp r2
  exact call_max2 hc pins s σ H _ us Q' I r ⟨i, j, rfl, k.now W (rep_int.mpr rfl) h⟩
def rcMin2 : SpD := fun ds m Q => ∃ i j, ds = [.int i, .int j] ∧ Q (.int (if j < i then j else i)) m
theorem cr_min2 (hc : X.calm = true := by rfl) : CallR X (.builtin "min") (rcOf X.K rcMin2) := by
  intro pins s σ H xs us Q' I r h
  obtain ⟨B, m, ds, Q, W, rs, ⟨i, j, rfl, h⟩, k⟩ := h
  obtain ⟨v, w, rfl, r1, r2⟩ := reps2 rs
  cases rep_int.mp r1; cases rep_int.mp r2
  exact call_min2 hc pins s σ H _ us Q' I r ⟨i, j, rfl, k.now W (rep_int.mpr rfl) h⟩
/-! ### methods of lists that stand in the store -/
abbrev Rho3 := D → List D → Mu → EK → Prop
def rmOf (K : PySem.W.Frag) (ρ : Rho3) : V → List V → Hp → VK → Prop := fun x vs H Q' => ∃ B m dx ds Q, Wd K H B m ∧ Rep K H (Ban B m) dx x ∧ Reps K H (Ban B m) ds vs ∧ ρ dx ds m Q ∧ PostE K B H m Q Q'
/-- the receiver is a list, ahead of the arguments and behind -/
def aLM (ρ : Rho3) (to : AEt) (t : AAt) : AEt := fun δ m Q => to δ m fun x m1 => (∃ es, lstOf m1 x = some es) ∧ t δ m1 fun ds m2 => ρ x ds m2 Q
def rhoAppend : Rho3 := fun x ds m Q => ∃ p es d, x = .ref p ∧ m p = some (.lst es) ∧ ds = [d] ∧ es.length < sizeLine ∧ Q .non (m.put p (.lst (es ++ [d])))
theorem wd_lst {K : PySem.W.Frag} {H : Hp} {B : Addr → Prop} {m : Mu} {p : Addr} {es es' : List D} {vs' : List V} (W : Wd K H B m) (h : m p = some (.lst es)) (r : Reps K H (Ban B m) es' vs') : Step H m (upd H p (.lst vs')) (m.put p (.lst es')) ∧ Wd K (upd H p (.lst vs')) B (m.put p (.lst es')) := by
  obtain ⟨vs, hp, q⟩ := W.cell p _ h
  refine W.write h (fun C dx fs e => nomatch e) (fun x e => by rw [hp] at e; cases e) ⟨vs', upd_same, Reps.carry (fun x u e n => ?_) _ _ r⟩
  have ne : x ≠ p := fun z => n (.inr (by rw [z, h]; exact fun z => nomatch z))
  exact ⟨by rw [upd_ne ne]; exact e, fun z => z.elim (fun b => n (.inl b)) fun z => n (.inr (by rw [Mu.put_ne ne] at z; exact z))⟩
theorem mt_appendD : MtM X "list.append" (rmOf X.K rhoAppend) := by
  intro pins s σ H x vs v us Q' I rx rv h
  obtain ⟨B, m, dx, ds, Q, W, r1, r2, ⟨p, es, d, rfl, hm, rfl, hl, q⟩, k⟩ := h
  cases rep_ref.mp r1
  obtain ⟨w, rfl, rw⟩ := reps1 r2
  obtain ⟨vs, hp, rs⟩ := W.cell p _ hm
  obtain ⟨st, W2⟩ := wd_lst W hm (rs.app (Reps.one rw))
  exact mt_append pins s σ H _ _ v us Q' I rx rv ⟨p, vs, w, rfl, rfl, hp, by rw [rs.len]; exact hl, k _ _ _ _ st W2 (rep_non.mpr rfl) q⟩
def rhoExtend : Rho3 := fun x ds m Q => ∃ p es d zs, x = .ref p ∧ m p = some (.lst es) ∧ ds = [d] ∧ lstOf m d = some zs ∧ es.length + zs.length ≤ sizeLine ∧ Q .non (m.put p (.lst (es ++ zs)))
theorem mt_extendD : MtM X "list.extend" (rmOf X.K rhoExtend) := by
  intro pins s σ H x vs v us Q' I rx rv h
  obtain ⟨B, m, dx, ds, Q, W, r1, r2, ⟨p, es, d, zs, rfl, hm, rfl, hz, hl, q⟩, k⟩ := h
  cases rep_ref.mp r1
  obtain ⟨w, rfl, rw⟩ := reps1 r2
  obtain ⟨vs, hp, rs⟩ := W.cell p _ hm
  obtain ⟨b, ws, rfl, hb, rz⟩ := lst_at W rw hz
  obtain ⟨st, W2⟩ := wd_lst W hm (rs.app rz)
  exact mt_extend pins s σ H _ _ v us Q' I rx rv ⟨p, b, vs, ws, rfl, rfl, hp, hb, by rw [rs.len, rz.len]; exact hl, k _ _ _ _ st W2 (rep_non.mpr rfl) q⟩
theorem tyV_lst {K : PySem.W.Frag} {H : Hp} {p : Addr} {vs : List V} (h : H p = some (.lst vs)) : tyV K "list" (.ref p) H := .inl ⟨rfl, vs, SqL.of h⟩
section
variable {o e : Expr} {es : List Expr} {to : AEt} {t : AAt} {apos : Pos}
theorem ae_lm {name : Str} {id : String} {ρ : Rho3} (slot : Slot "list" name id) (hty : typeOf (.builtin id) = pure (.type "method_descriptor")) (hm : MtR X id (rmOf X.K ρ)) (ho : AE X o to) (h : AA X (e :: es) t)
    (hbase : attributeBase o name X.env (eval o X.env) = eval o X.env := by rfl)
    (hfew : ((backTo pos (starEach (e :: es) X.env)).all (fun x => !x.1) && (backToKw pos (keywordEach [] X.env)).all (fun x => x.1.isSome)
      && decide ((e :: es).length + ([] : List Keyword).length + (if ([] : List Keyword).isEmpty then 0 else 1) < 30)) = true := by rfl)
    (hline : (apos.endLine == pos.line) = true := by rfl) (hs : starEach (e :: es) X.env = (false, eval e X.env) :: starEach es X.env := by rfl) (hplain : (backTo pos (starEach es X.env)).any (·.1) = false := by rfl) :
    AE X (.Call (.Attribute o name apos) (e :: es) [] pos) (aLM ρ to t) :=
  let ⟨_, po, so⟩ := ho.ex
  let ⟨_, pa, s⟩ := h.ex
  ⟨_, pe_bm PySem.F.plainAttrs_list slot hty hm po pa hbase hfew hline hs hplain, fun B δ m Q σ H W E h Q' k => so B δ m _ σ H W E h _ fun x m1 v H1 s1 W1 r ⟨⟨es, hl⟩, q⟩ => by
    obtain ⟨p, vs, rfl, hp, rs⟩ := lst_at W1 r hl
    exact ⟨tyV_lst hp, s B δ m1 _ σ H1 W1 (E.carry s1.carry) q _ fun ds m2 ws H2 s2 W2 r2 q2 => ⟨B, m2, x, ds, Q, W2, Rep.carry s2.carry _ _ r, r2, q2, k.step (s1.trans s2)⟩⟩⟩
end
end
end L3
namespace L3
open PySem PySem.Spec PyProof.Rows L2
section
variable {X : Cx} {pos : Pos}
/-! ### statements -/
def aNext : ASt := fun D δ m => D.nx δ m
def aSeq (t u : ASt) : ASt := fun D δ m => t { D with nx := u D } δ m
def aRet (t : AEt) : ASt := fun D δ m => t δ m D.rt
def aRetN : ASt := fun D _ m => D.rt .non m
def aDrop (t : AEt) : ASt := fun D δ m => t δ m fun _ m1 => D.nx δ m1
def aIfS (c : ATt) (t u : ASt) : ASt := fun D δ m => c δ m fun b m1 => if b = true then t D δ m1 else u D δ m1
def aNever : ASt := fun _ _ _ => False
def aBreak : ASt := fun D δ m => D.bk δ m
def aCont : ASt := fun D δ m => D.ct δ m
section
variable {st : Stmt} {rest : List Stmt} {t u : ASt} {e : Expr} {te : AEt}
theorem ass_nil : ASs X [] aNext := ⟨_, pss_nil, fun B D δ m σ H W E h De k => k.nx δ m σ H (Step.refl H m) W E h⟩
theorem ass_one (h : AS X st t) : ASs X [st] t := let ⟨_, p, s⟩ := h.ex; ⟨_, pss_one p, s⟩
theorem ass_cons (h : AS X st t) (g : ASs X rest u) : ASs X (st :: rest) (aSeq t u) :=
  let ⟨_, p, s⟩ := h.ex
  let ⟨_, p', s'⟩ := g.ex
  ⟨_, pss_cons p p', fun B D δ m σ H W E h De k => s B _ δ m σ H W E h _ ⟨fun δ' m' σ' H' st W' E' q => s' B D δ' m' σ' H' W' E' q De (k.step st), k.rt, k.bk, k.ct⟩⟩
theorem as_ret (h : AE X e te) : AS X (.Return (some e) pos) (aRet te) := let ⟨_, p, s⟩ := h.ex; ⟨_, ps_ret p, fun B D δ m σ H W E h De k => s B δ m _ σ H W E h _ k.rt⟩
theorem as_retN : AS X (.Return none pos) aRetN := ⟨_, ps_retN, fun B D δ m σ H W E h De k => k.rt _ m _ H (Step.refl H m) W (rep_non.mpr rfl) h⟩
theorem as_expr (h : AE X e te) (hs : swapsWith e none pos.line X.env = pure false := by rfl) : AS X (.Expr e pos) (aDrop te) :=
  let ⟨_, p, s⟩ := h.ex
  ⟨_, ps_expr p hs, fun B D δ m σ H W E h De k => s B δ m _ σ H W E h _ fun d m1 v H1 s1 W1 r q => k.nx δ m1 σ H1 s1 W1 (E.carry s1.carry) q⟩
theorem as_doc {x j pos'} : AS X (.Expr (.Constant (.str x) j pos) pos') aNext := ⟨_, ps_doc, fun B D δ m σ H W E h De k => k.nx δ m σ H (Step.refl H m) W E h⟩
theorem as_pass : AS X (.Pass pos) aNext := ⟨_, ps_pass, fun B D δ m σ H W E h De k => k.nx δ m σ H (Step.refl H m) W E h⟩
theorem as_break : AS X (.Break pos) aBreak := ⟨_, ps_break, fun B D δ m σ H W E h De k => k.bk δ m σ H (Step.refl H m) W E h⟩
theorem as_cont : AS X (.Continue pos) aCont := ⟨_, ps_continue, fun B D δ m σ H W E h De k => k.ct δ m σ H (Step.refl H m) W E h⟩
theorem as_if {c : Expr} {a b : List Stmt} {tc : ATt} (hc : AT X c tc) (ha : ASs X a t) (hb : ASs X b u) : AS X (.If c a b pos) (aIfS tc t u) :=
  let ⟨_, pc, sc⟩ := hc.ex
  let ⟨_, p, s⟩ := ha.ex
  let ⟨_, p', s'⟩ := hb.ex
  ⟨_, ps_if pc p p', fun B D δ m σ H W E h De k => sc B δ m _ σ H W E h _ fun c m1 H1 s1 W1 q => by
    cases c with
    | true => exact s B D δ m1 σ H1 W1 (E.carry s1.carry) q De (k.step s1)
    | false => exact s' B D δ m1 σ H1 W1 (E.carry s1.carry) q De (k.step s1)⟩
theorem as_never : AS X st aNever := ⟨_, ps_never, fun B D δ m σ H W E h De k => h.elim⟩
theorem ass_never {sts : List Stmt} : ASs X sts aNever := ⟨_, pss_never, fun B D δ m σ H W E h De k => h.elim⟩
end
/-! ### targets -/
abbrev AGt := D → Dt → Mu → (Dt → Mu → Prop) → Prop
def SG (K : PySem.W.Frag) (tg : TG) (g : AGt) : Prop := ∀ (B : Addr → Prop) (d : D) (v : V) (δ : Dt) (m : Mu) (Q : Dt → Mu → Prop) (σ : L2.St) (H : Hp), Wd K H B m → EnvD K H (Ban B m) σ δ → Rep K H (Ban B m) d v → g d δ m Q → ∀ Q', PostN K B H m Q Q' → tg v σ H Q'
structure AG (X : Cx) (e : Expr) (g : AGt) : Prop where
  ex : ∃ tg, PG X e tg ∧ SG X.K tg g
abbrev AGts := List D → Dt → Mu → (Dt → Mu → Prop) → Prop
def SGs (K : PySem.W.Frag) (tg : TGs) (g : AGts) : Prop := ∀ (B : Addr → Prop) (d : List D) (v : List V) (δ : Dt) (m : Mu) (Q : Dt → Mu → Prop) (σ : L2.St) (H : Hp), Wd K H B m → EnvD K H (Ban B m) σ δ → Reps K H (Ban B m) d v → g d δ m Q → ∀ Q', PostN K B H m Q Q' → tg v σ H Q'
structure AGs (X : Cx) (es : List Expr) (g : AGts) : Prop where
  ex : ∃ tg, PGs X es tg ∧ SGs X.K tg g
def gNm (i : Nat) : AGt := fun d δ m Q => Q (δ.set i (some d)) m
theorem ag_name (i : Nat) {x : Str} (hN : X.N.Nodup) (hi : X.N[i]? = some x := by rfl) (hx : Loc X.env.scope x := by first | exact Or.inl rfl | exact Or.inr rfl) (hf : X.fn x = true ∨ X.env.scope.names.lookup x = some .local := by first | exact .inl rfl | exact .inr rfl) : AG X (.Name x pos) (gNm i) :=
  ⟨_, pg_name hN hi hx hf, fun B d v δ m Q σ H W E r h Q' k => k _ m _ H (Step.refl H m) W (E.set r i) h⟩
def gNilD : AGts := fun ds δ m Q => ds = [] ∧ Q δ m
def gConsD (t : AGt) (u : AGts) : AGts := fun ds δ m Q => ∃ d r, ds = d :: r ∧ t d δ m fun δ' m' => u r δ' m' Q
theorem ags_nil : AGs X [] gNilD := ⟨_, pgs_nil, fun B ds vs δ m Q σ H W E r ⟨e, q⟩ Q' k => by
  subst e
  exact ⟨reps_nil.mp r, k δ m σ H (Step.refl H m) W E q⟩⟩
theorem ags_cons {e : Expr} {es : List Expr} {t : AGt} {u : AGts} (h : AG X e t) (g : AGs X es u) (hs : (assignEach (e :: es) X.env).map (·.2) = assign e X.env :: (assignEach es X.env).map (·.2) := by rfl) : AGs X (e :: es) (gConsD t u) :=
  let ⟨_, p, s⟩ := h.ex
  let ⟨_, p', s'⟩ := g.ex
  ⟨_, pgs_cons p p' hs, fun B ds vs δ m Q σ H W E r ⟨d, ds', e, q⟩ Q' k => by
    subst e
    obtain ⟨v, ws, rfl, r1, r2⟩ := reps_cons.mp r
    exact ⟨v, ws, rfl, s B d v δ m _ σ H W E r1 q _ fun δ' m' σ' H' st W' E' q' => s' B ds' ws δ' m' Q σ' H' W' E' (Reps.carry st.carry _ _ r2) q' Q' (k.step st)⟩⟩
def gTupD (n : Nat) (t : AGts) : AGt := fun d δ m Q => ∃ ds, d = .tup ds ∧ ds.length = n ∧ t ds δ m Q
theorem ag_tup {es : List Expr} {k : Nat} {t : AGts} {n : Nat} (hc : X.calm = true) (h : AGs X es t) (hn : (assignEach es X.env).length = n := by rfl) (hst : (assignEach es X.env).findIdx? (·.1) = none := by rfl) : AG X (.Tuple es k pos) (gTupD n t) :=
  let ⟨_, p, s⟩ := h.ex
  ⟨_, pg_tup (n := n) hc p hn hst, fun B d v δ m Q σ H W E r ⟨ds, e, hn', q⟩ Q' k => by
    subst e
    obtain ⟨a, vs, rfl, t, rs⟩ := rep_tup.mp r
    exact ⟨a, vs, rfl, t.sq, by rw [rs.len]; exact hn', s B ds vs δ m Q σ H W E rs q Q' k⟩⟩
/-! ### assignment -/
def aAsg (t : AEt) (g : AGt) : ASt := fun D δ m => t δ m fun d m1 => g d δ m1 D.nx
section
variable {e tg : Expr} {te : AEt} {g : AGt}
theorem as_asg (he : AE X e te) (hg : AG X tg g) (hs : swapsWithSole [tg] e pos.line X.env = pure false := by rfl) (hw : swappedStores [tg] e X.env = pure none := by rfl) (h1 : (assignEach [tg] X.env).map (·.2) = [assign tg X.env] := by rfl) : AS X (.Assign [tg] e pos) (aAsg te g) :=
  let ⟨_, p, s⟩ := he.ex
  let ⟨_, pg, sg⟩ := hg.ex
  ⟨_, ps_asg p pg hs hw h1, fun B D δ m σ H W E h De k => s B δ m _ σ H W E h _ fun d m1 v H1 s1 W1 r q => sg B d v δ m1 _ σ H1 W1 (E.carry s1.carry) r q _ (k.nx.step s1)⟩
end
/-! ### what is walked -/
/-- at turn i the i-th of ds comes -/
def Yields (K : PySem.W.Frag) (B : Addr → Prop) (H1 : Hp) (m1 : Mu) (J : It) (ds : List D) : Prop := ∀ (B' : Addr → Prop), (∀ a, B' a → B a ∨ H1 a = none) → ∀ (i : Nat) (H' : Hp) (m' : Mu), Step H1 m1 H' m' → Wd K H' B' m' →
  (∀ d, ds[i]? = some d → J.go i H' ∧ ∀ x H'', J.yld i H' x H'' → Step H' m' H'' m' ∧ Wd K H'' B' m' ∧ Rep K H'' (Ban B' m') d x) ∧ (i = ds.length → J.stop i H')
theorem Step.carry2 {H H' : Hp} {m m' : Mu} {B B' : Addr → Prop} (hB : ∀ a, B' a → B a ∨ H a = none) (s : Step H m H' m') : Carry H (Ban B m) H' (Ban B' m') := fun a o h n =>
  have ⟨p, q⟩ := (s.carry (B := B)) a o h n
  ⟨p, fun z => z.elim (fun b => (hB a b).elim (fun b => n (.inl b)) fun e => by rw [h] at e; cases e) fun z => q (.inr z)⟩
abbrev AIt := Dt → Mu → (List D → Mu → Prop) → Prop
def SI (K : PySem.W.Frag) (wi : TI) (t : AIt) : Prop := ∀ (B : Addr → Prop) (δ : Dt) (m : Mu) (Q : List D → Mu → Prop) (σ : L2.St) (H : Hp), Wd K H B m → EnvD K H (Ban B m) σ δ → t δ m Q → ∀ R : It → Hp → Prop,
  (∀ J ds m1 H1, Step H m H1 m1 → Wd K H1 B m1 → Yields K B H1 m1 J ds → Q ds m1 → R J H1) → wi σ H R
structure AI (X : Cx) (tg iter : Expr) (t : AIt) : Prop where
  ex : ∃ wi, PI X tg iter wi ∧ SI X.K wi t
/-- a tuple or a list by value -/
def aList (t : AEt) : AIt := fun δ m Q => t δ m fun d m1 => ∃ ds, d = .lst ds ∧ Q ds m1
def aTupI (t : AEt) : AIt := fun δ m Q => t δ m fun d m1 => ∃ ds, d = .tup ds ∧ Q ds m1
def aStrI (t : AEt) : AIt := fun δ m Q => t δ m fun d m1 => ∃ z : Str, d = .str z ∧ Q (z.cps.toList.map fun c => D.str ⟨#[c]⟩) m1
theorem yields_list {K : PySem.W.Frag} {B : Addr → Prop} {H : Hp} {m : Mu} {a : Addr} {vs : List V} {ds : List D} (t : LstAt H (Ban B m) a vs) (r : Reps K H (Ban B m) ds vs) : Yields K B H m (Itl K a) ds := fun B' hB i H' m' st W' => by
  have t' := t.carry (st.carry2 hB)
  have r' := Reps.carry (st.carry2 hB) _ _ r
  refine ⟨fun d hd => ?_, fun hi => ⟨vs, t'.sq, by rw [r'.len]; exact Nat.le_of_eq hi.symm⟩⟩
  obtain ⟨v, hv, rv⟩ := r'.get i d hd
  refine ⟨⟨vs, v, t'.sq, hv⟩, fun x H'' y => ?_⟩
  obtain ⟨rfl, y⟩ := y
  have := y vs t'.sq
  rw [hv] at this
  cases this
  exact ⟨Step.refl _ _, W', rv⟩
theorem yields_tup {K : PySem.W.Frag} {B : Addr → Prop} {H : Hp} {m : Mu} {a : Addr} {vs : List V} {ds : List D} (t : TupAt K H (Ban B m) a vs) (r : Reps K H (Ban B m) ds vs) : Yields K B H m (Itt K a) ds := fun B' hB i H' m' st W' => by
  have t' := t.carry (st.carry2 hB)
  have r' := Reps.carry (st.carry2 hB) _ _ r
  refine ⟨fun d hd => ?_, fun hi => ⟨vs, t'.sq, by rw [r'.len]; exact Nat.le_of_eq hi.symm⟩⟩
  obtain ⟨v, hv, rv⟩ := r'.get i d hd
  refine ⟨⟨vs, v, t'.sq, hv⟩, fun x H'' y => ?_⟩
  obtain ⟨rfl, y⟩ := y
  have := y vs t'.sq
  rw [hv] at this
  cases this
  exact ⟨Step.refl _ _, W', rv⟩
theorem ai_list {tg e : Expr} {t : AEt} (h : AE X e t) : AI X tg e (aList t) :=
  let ⟨_, p, s⟩ := h.ex
  ⟨_, pi_list p, fun B δ m Q σ H W E h R k => s B δ m _ σ H W E h _ fun d m1 v H1 s1 W1 r ⟨ds, e, q⟩ => by
    subst e
    obtain ⟨a, vs, rfl, t, rs⟩ := rep_lst.mp r
    exact ⟨a, rfl, ⟨vs, t.sq⟩, k _ ds m1 H1 s1 W1 (yields_list t rs) q⟩⟩
theorem ai_tup {tg e : Expr} {t : AEt} (h : AE X e t) : AI X tg e (aTupI t) :=
  let ⟨_, p, s⟩ := h.ex
  ⟨_, pi_tup p, fun B δ m Q σ H W E h R k => s B δ m _ σ H W E h _ fun d m1 v H1 s1 W1 r ⟨ds, e, q⟩ => by
    subst e
    obtain ⟨a, vs, rfl, t, rs⟩ := rep_tup.mp r
    exact ⟨a, rfl, ⟨vs, t.sq⟩, k _ ds m1 H1 s1 W1 (yields_tup t rs) q⟩⟩
theorem yields_str {K : PySem.W.Frag} {B : Addr → Prop} {H : Hp} {m : Mu} {z : Str} : Yields K B H m (Its z) (z.cps.toList.map fun c => D.str ⟨#[c]⟩) := fun B' hB i H' m' st W' => by
  refine ⟨fun d hd => ?_, fun hi => by simp [Its] at hi ⊢; omega⟩
  rw [List.getElem?_map] at hd
  cases e : z.cps.toList[i]? with
  | none => rw [e] at hd; cases hd
  | some c =>
    rw [e] at hd
    cases hd
    have e' : z.cps[i]? = some c := by simpa using e
    refine ⟨(Array.getElem?_eq_some_iff.mp e').1, fun x H'' ⟨q, c', hc, hx⟩ => ?_⟩
    subst q hx
    rw [e'] at hc
    cases hc
    exact ⟨Step.refl _ _, W', rep_str.mpr rfl⟩
theorem ai_str {tg e : Expr} {t : AEt} (h : AE X e t) : AI X tg e (aStrI t) :=
  let ⟨_, p, s⟩ := h.ex
  ⟨_, pi_str p, fun B δ m Q σ H W E h R k => s B δ m _ σ H W E h _ fun d m1 v H1 s1 W1 r ⟨z, e, q⟩ => by
    subst e
    exact ⟨z, rep_str.mp r, k _ _ m1 H1 s1 W1 yields_str q⟩⟩
/-- range(n), range(a, b) -/
def rngD (lo : Int) (n : Nat) : List D := (List.range n).map fun (i : Nat) => D.int (lo + i)
theorem yields_rng {K : PySem.W.Frag} {B : Addr → Prop} {H : Hp} {m : Mu} {lo : Int} {n : Nat} : Yields K B H m (Itr lo n) (rngD lo n) := fun B' hB i H' m' st W' => by
  refine ⟨fun d hd => ?_, fun hi => by simp [Itr, rngD] at hi ⊢; omega⟩
  unfold rngD at hd
  rw [List.getElem?_map] at hd
  have hi : i < n := by
    cases e : (List.range n)[i]? with
    | none => rw [e] at hd; cases hd
    | some j => simpa using (List.getElem?_eq_some_iff.mp e).1
  rw [List.getElem?_range hi] at hd
  cases hd
  refine ⟨hi, fun x H'' ⟨q, hx⟩ => ?_⟩
  subst q hx
  exact ⟨Step.refl _ _, W', rep_int.mpr rfl⟩
def aRng1 (t : AAt) : AIt := fun δ m Q => t δ m fun ds m1 => ∃ n, ds = [.int n] ∧ -(2 ^ 62) ≤ n ∧ n < 2 ^ 62 ∧ Q (rngD 0 n.toNat) m1
theorem ai_rng1 {tg a : Expr} {p : Pos} {t : AAt} (hm : X.mg "range" = none) (h : AA X [a] t) (hg : Gl X "range" := by rfl) (hs : starEach [a] X.env = [(false, eval a X.env)] := by rfl) : AI X tg (.Call (.Name "range" p) [a] [] pos) (aRng1 t) :=
  let ⟨_, pa, s⟩ := h.ex
  ⟨_, pi_range1 hg hm pa hs, fun B δ m Q σ H W E h R k => s B δ m _ σ H W E h _ fun ds m1 vs H1 s1 W1 r ⟨n, e, h1, h2, q⟩ => by
    subst e
    obtain ⟨v, rfl, rv⟩ := reps1 r
    exact ⟨n, by rw [rep_int.mp rv], h1, h2, k _ _ m1 H1 s1 W1 yields_rng q⟩⟩
def aRng2 (t : AAt) : AIt := fun δ m Q => t δ m fun ds m1 => ∃ lo n, ds = [.int lo, .int n] ∧ (-(2 ^ 62) ≤ lo ∧ lo < 2 ^ 62 ∧ -(2 ^ 62) ≤ n ∧ n < 2 ^ 62) ∧ Q (rngD lo (n - lo).toNat) m1
theorem ai_rng2 {tg a b : Expr} {p : Pos} {t : AAt} (hm : X.mg "range" = none) (h : AA X [a, b] t) (hg : Gl X "range" := by rfl) (hs : starEach [a, b] X.env = [(false, eval a X.env), (false, eval b X.env)] := by rfl) (hs2 : starEach [b] X.env = [(false, eval b X.env)] := by rfl) : AI X tg (.Call (.Name "range" p) [a, b] [] pos) (aRng2 t) :=
  let ⟨_, pa, s⟩ := h.ex
  ⟨_, pi_range2 hg hm pa hs hs2, fun B δ m Q σ H W E h R k => s B δ m _ σ H W E h _ fun ds m1 vs H1 s1 W1 r ⟨lo, n, e, h1, q⟩ => by
    subst e
    obtain ⟨v, w, rfl, rv, rw⟩ := reps2 r
    exact ⟨lo, n, by rw [rep_int.mp rv, rep_int.mp rw], h1, k _ _ m1 H1 s1 W1 yields_rng q⟩⟩
end
end L3
namespace L3
open PySem PySem.Spec PyProof.Rows L2
section
variable {X : Cx} {pos : Pos}
/-! ### for -/
def forGo (g : AGt) (tb : ASt) (Z : AEnds) : List D → Dt → Mu → Prop
  | [], δ, m => Z.nx δ m
  | d :: ds, δ, m => g d δ m fun δ2 m2 => tb { Z with nx := forGo g tb Z ds, ct := forGo g tb Z ds, bk := Z.nx } δ2 m2
def aFor (ai : AIt) (g : AGt) (tb : ASt) : ASt := fun D δ m => ai δ m fun ds m1 => forGo g tb D ds δ m1
theorem as_for {iter tg : Expr} {body : List Stmt} {ai : AIt} {g : AGt} {tb : ASt} (hp : PassesOwn (model X.prog X.w) X.A X.env X.xe) (hc : X.calm = true) (hi : AI X tg iter ai) (hg : AG X tg g) (hb : ASs X body tb)
    (hs : ∀ x, foldedSetIterable iter X.env x = pure x := by intro _; rfl) : AS X (.For tg iter body [] pos) (aFor ai g tb) := by
  obtain ⟨wi, pi, si⟩ := hi.ex
  obtain ⟨tg', pg, sg⟩ := hg.ex
  obtain ⟨ts, ps, ss⟩ := hb.ex
  refine ⟨_, ps_for hp hc pi pg ps hs, fun B D δ m σ H W E h De k => ?_⟩
  refine si B δ m _ σ H W E h _ fun J ds m1 H1 s1 W1 Y q => ?_
  have k1 := k.step s1
  refine ⟨fun i n σ' H' => ∃ δ' m', Step H1 m1 H' m' ∧ Wd X.K H' B m' ∧ EnvD X.K H' (Ban B m') σ' δ' ∧ n + i = ds.length ∧ forGo g tb D (ds.drop i) δ' m', ⟨ds.length, δ, m1, Step.refl _ _, W1, E.carry s1.carry, rfl, q⟩, ?_⟩
  rintro i n σ' H' ⟨δ', m', st, W', E', hn, hq⟩
  have Yi := Y B (fun a b => .inl b) i H' m' st W'
  by_cases hlt : i < ds.length
  · have hd : ds[i]? = some ds[i] := List.getElem?_eq_getElem hlt
    rw [List.drop_eq_getElem_cons hlt] at hq
    obtain ⟨hgo, hy⟩ := Yi.1 _ hd
    refine .inr ⟨hgo, fun σ2 H2 => ∃ δ2 m2, Step H1 m1 H2 m2 ∧ Wd X.K H2 B m2 ∧ EnvD X.K H2 (Ban B m2) σ2 δ2 ∧ forGo g tb D (ds.drop (i + 1)) δ2 m2, ?_, ?_⟩
    · rintro σ2 H2 ⟨δ2, m2, st2, W2, E2, q2⟩
      exact ⟨n - 1, by omega, δ2, m2, st2, W2, E2, by omega, q2⟩
    · intro x H'' y
      obtain ⟨st2, W2, r2⟩ := hy x H'' y
      refine sg B _ x δ' m' _ σ' H'' W2 (E'.carry st2.carry) r2 hq _ fun δ3 m3 σ3 H3 st3 W3 E3 q3 => ?_
      refine ss B _ δ3 m3 σ3 H3 W3 E3 q3 _ ?_
      have sall := (st.trans st2).trans st3
      refine ⟨fun δ4 m4 σ4 H4 st4 W4 E4 q4 => ⟨δ4, m4, sall.trans st4, W4, E4, q4⟩, k1.rt.step sall, k1.nx.step sall, fun δ4 m4 σ4 H4 st4 W4 E4 q4 => ⟨δ4, m4, sall.trans st4, W4, E4, q4⟩⟩
  · refine .inl ⟨Yi.2 (by omega), ?_⟩
    rw [List.drop_eq_nil_of_le (by omega)] at hq
    exact k1.nx δ' m' σ' H' st W' E' hq
/-! ### comprehensions -/
def lcGo (g : AGt) (tt : ATt) (te : AEt) (δw : Dt) (Q : EK) : List D → List D → Mu → Prop
  | [], acc, m => Q (.lst acc) m
  | d :: ds, acc, m => g d δw m fun δ2 m2 => tt δ2 m2 fun b m3 => if b = true then te δ2 m3 fun y m4 => lcGo g tt te δw Q ds (acc ++ [y]) m4 else lcGo g tt te δw Q ds acc m3
def aLc (ai : AIt) (g : AGt) (tt : ATt) (te : AEt) (vs : List Nat) : AEt := fun δ m Q => ai δ m fun ds m1 => ds.length ≤ sizeLine ∧ lcGo g tt te (wipeD δ vs) Q ds [] m1
/-- a target that sets the block's own names alone -/
def Win (tg : TG) (vs : List Nat) : Prop := ∀ (v : V) (σ : L2.St) (H : Hp) (Q : L2.St → Hp → Prop), tg v σ H Q → tg v σ H fun σ2 H2 => wipe σ2 vs = wipe σ vs ∧ Q σ2 H2
def Wins (tg : TGs) (vs : List Nat) : Prop := ∀ (v : List V) (σ : L2.St) (H : Hp) (Q : L2.St → Hp → Prop), tg v σ H Q → tg v σ H fun σ2 H2 => wipe σ2 vs = wipe σ vs ∧ Q σ2 H2
theorem wipe_get {σ : L2.St} {i : Nat} : ∀ {vs : List Nat}, i ∈ vs → i < σ.length → (wipe σ vs)[i]? = some none
  | v :: vs, h, hl => by
    show ((wipe σ vs).set v none)[i]? = some none
    rw [List.getElem?_set]
    by_cases e : v = i
    · rw [if_pos e, if_pos (by rw [wipe_length]; omega)]
    · rw [if_neg e]
      exact wipe_get ((List.mem_cons.mp h).resolve_left fun z => e z.symm) hl
theorem wipe_set {σ : L2.St} {i : Nat} {o : Option V} {vs : List Nat} (h : i ∈ vs) : wipe (σ.set i o) vs = wipe σ vs := by
  refine List.ext_getElem? fun j => ?_
  by_cases hj : j ∈ vs
  · by_cases hl : j < σ.length
    · rw [wipe_get hj (by simpa using hl), wipe_get hj hl]
    · rw [List.getElem?_eq_none (by rw [wipe_length]; simpa using hl), List.getElem?_eq_none (by rw [wipe_length]; omega)]
  · rw [wipe_out hj, wipe_out hj, List.getElem?_set_ne (fun e => hj (by rw [← e]; exact h))]
theorem wipe_wipe {σ : L2.St} {vs : List Nat} : wipe (wipe σ vs) vs = wipe σ vs := by
  refine List.ext_getElem? fun j => ?_
  by_cases hj : j ∈ vs
  · by_cases hl : j < σ.length
    · rw [wipe_get hj (by rw [wipe_length]; exact hl), wipe_get hj hl]
    · rw [List.getElem?_eq_none (by rw [wipe_length, wipe_length]; omega), List.getElem?_eq_none (by rw [wipe_length]; omega)]
  · rw [wipe_out hj]
theorem win_name {i : Nat} {vs : List Nat} (h : i ∈ vs) : Win (gName i) vs := fun v σ H Q q => ⟨wipe_set h, q⟩
theorem wins_nil {vs : List Nat} : Wins gNil vs := fun v σ H Q ⟨e, q⟩ => ⟨e, rfl, q⟩
/-- .. and is monotone -/
def MonG (tg : TG) : Prop := ∀ (v : V) (σ : L2.St) (H : Hp) (Q Q' : L2.St → Hp → Prop), (∀ σ H, Q σ H → Q' σ H) → tg v σ H Q → tg v σ H Q'
def MonGs (tg : TGs) : Prop := ∀ (v : List V) (σ : L2.St) (H : Hp) (Q Q' : L2.St → Hp → Prop), (∀ σ H, Q σ H → Q' σ H) → tg v σ H Q → tg v σ H Q'
theorem mon_name {i : Nat} : MonG (gName i) := fun v σ H Q Q' k q => k _ _ q
theorem mons_nil : MonGs gNil := fun v σ H Q Q' k ⟨e, q⟩ => ⟨e, k _ _ q⟩
theorem mons_cons {t : TG} {u : TGs} (h : MonG t) (g : MonGs u) : MonGs (gCons t u) := fun v σ H Q Q' k ⟨x, r, e, q⟩ => ⟨x, r, e, h x σ H _ _ (fun σ' H' q' => g r σ' H' Q Q' k q') q⟩
theorem mon_tup {K : PySem.W.Frag} {n : Nat} {t : TGs} (h : MonGs t) : MonG (gTup K n t) := fun v σ H Q Q' k ⟨a, xs, e, s, l, q⟩ => ⟨a, xs, e, s, l, h xs σ H Q Q' k q⟩
theorem wins_cons {t : TG} {u : TGs} {vs : List Nat} (m : MonG t) (mu : MonGs u) (h : Win t vs) (g : Wins u vs) : Wins (gCons t u) vs := fun v σ H Q ⟨x, r, e, q⟩ =>
  ⟨x, r, e, m x σ H _ _ (fun σ' H' ⟨e1, q'⟩ => mu r σ' H' _ _ (fun σ2 H2 ⟨e2, q2⟩ => ⟨e2.trans e1, q2⟩) (g r σ' H' Q q')) (h x σ H _ q)⟩
theorem win_tup {K : PySem.W.Frag} {n : Nat} {t : TGs} {vs : List Nat} (h : Wins t vs) : Win (gTup K n t) vs := fun v σ H Q ⟨a, xs, e, s, l, q⟩ => ⟨a, xs, e, s, l, h xs σ H Q q⟩
/-- a target for a comprehension: the library's reading, ours -/
structure GoodG (K : PySem.W.Frag) (vs : List Nat) (tg : TG) (g : AGt) : Prop where
  s : SG K tg g
  w : Win tg vs
  m : MonG tg
structure GoodGs (K : PySem.W.Frag) (vs : List Nat) (tg : TGs) (g : AGts) : Prop where
  s : SGs K tg g
  w : Wins tg vs
  m : MonGs tg
theorem gg_name {K : PySem.W.Frag} {vs : List Nat} {i : Nat} (h : i ∈ vs) : GoodG K vs (gName i) (gNm i) := ⟨fun B d v δ m Q σ H W E r h Q' k => k _ m _ H (Step.refl H m) W (E.set r i) h, win_name h, mon_name⟩
theorem ggs_nil {K : PySem.W.Frag} {vs : List Nat} : GoodGs K vs gNil gNilD := ⟨fun B ds vs δ m Q σ H W E r ⟨e, q⟩ Q' k => by
  subst e
  exact ⟨reps_nil.mp r, k δ m σ H (Step.refl H m) W E q⟩, wins_nil, mons_nil⟩
theorem ggs_cons {K : PySem.W.Frag} {vs : List Nat} {tg tgs g gs} (h : GoodG K vs tg g) (k : GoodGs K vs tgs gs) : GoodGs K vs (gCons tg tgs) (gConsD g gs) := ⟨fun B ds us δ m Q σ H W E r ⟨d, ds', e, q⟩ Q' kk => by
    subst e
    obtain ⟨v, ws, rfl, r1, r2⟩ := reps_cons.mp r
    exact ⟨v, ws, rfl, h.s B d v δ m _ σ H W E r1 q _ fun δ' m' σ' H' st W' E' q' => k.s B ds' ws δ' m' Q σ' H' W' E' (Reps.carry st.carry _ _ r2) q' Q' (kk.step st)⟩, wins_cons h.m k.m h.w k.w, mons_cons h.m k.m⟩
theorem gg_tup {K : PySem.W.Frag} {vs : List Nat} {n : Nat} {tgs gs} (h : GoodGs K vs tgs gs) : GoodG K vs (gTup K n tgs) (gTupD n gs) := ⟨fun B d v δ m Q σ H W E r ⟨ds, e, hn', q⟩ Q' k => by
    subst e
    obtain ⟨a, vs, rfl, t, rs⟩ := rep_tup.mp r
    exact ⟨a, vs, rfl, t.sq, by rw [rs.len]; exact hn', h.s B ds vs δ m Q σ H W E rs q Q' k⟩, win_tup h.w, mon_tup h.m⟩
/-- the canonical readings -/
def teOf (K : PySem.W.Frag) (t : AEt) : TE := fun σ H Q' => ∃ B δ m Q, Wd K H B m ∧ EnvD K H (Ban B m) σ δ ∧ t δ m Q ∧ PostE K B H m Q Q'
def ttOf (K : PySem.W.Frag) (t : ATt) : TT := fun σ H Q' => ∃ B δ m Q, Wd K H B m ∧ EnvD K H (Ban B m) σ δ ∧ t δ m Q ∧ PostT K B H m Q Q'
theorem AE.canon {X : Cx} {e : Expr} {t : AEt} (h : AE X e t) : PE X e (teOf X.K t) :=
  let ⟨_, p, s⟩ := h.ex
  ⟨fun pins s' σ H Q' I ⟨B, δ, m, Q, W, E, q, k⟩ => p.run pins s' σ H Q' I (s B δ m Q σ H W E q Q' k)⟩
theorem AT.canon {X : Cx} {e : Expr} {t : ATt} (h : AT X e t) : PT X e (ttOf X.K t) :=
  let ⟨_, p, s⟩ := h.ex
  ⟨fun pins s' σ H Q' I ⟨B, δ, m, Q, W, E, q, k⟩ => p.run pins s' σ H Q' I (s B δ m Q σ H W E q Q' k)⟩
def aYes : ATt := fun _ m Q => Q true m
/-- the tests of a clause -/
structure ATs (X : Cx) (ifs : List Expr) (t : ATt) : Prop where
  p : PTs X ifs (ttOf X.K t)
theorem ats_nil : ATs X [] aYes := ⟨⟨fun pins s σ H Q' I ⟨B, δ, m, Q, W, E, q, k⟩ => pts_nil.run pins s σ H Q' I (k true m H (Step.refl H m) W q)⟩⟩
theorem ats_one {c : Expr} {t : ATt} (h : AT X c t) : ATs X [c] t := ⟨pts_one h.canon⟩
/-- hidden: one more address -/
def Hid (B : Addr → Prop) (p : Addr) : Addr → Prop := fun a => B a ∨ a = p
theorem ban_hid {B : Addr → Prop} {m : Mu} {p a : Addr} (h : Ban B m a) : Ban (Hid B p) m a := h.elim (fun b => .inl (.inl b)) .inr
theorem Wd.unhide {K : PySem.W.Frag} {H : Hp} {B : Addr → Prop} {m : Mu} {p : Addr} (W : Wd K H (Hid B p) m) : Wd K H B m :=
  ⟨fun a c e => CellOk.carry (fun x o h n => ⟨h, fun z => n (ban_hid z)⟩) (fun o h => h) (fun dx h n => ⟨h, n⟩) (W.cell a c e), fun a b => W.hid a (.inl b)⟩
theorem carry_unhide {H : Hp} {B : Addr → Prop} {m : Mu} {p : Addr} : Carry H (Ban (Hid B p) m) H (Ban B m) := fun x o h n => ⟨h, fun z => n (ban_hid z)⟩
theorem carry_hidden {H : Hp} {B : Addr → Prop} {m : Mu} {p : Addr} {o : HO} : Carry H (Ban (Hid B p) m) (upd H p o) (Ban (Hid B p) m) := fun x u h n =>
  have ne : x ≠ p := fun z => n (.inl (.inr z))
  ⟨by rw [upd_ne ne]; exact h, n⟩
theorem Wd.hidden {K : PySem.W.Frag} {H : Hp} {B : Addr → Prop} {m : Mu} {p : Addr} {o : HO} (W : Wd K H (Hid B p) m) (hno : ∀ x, H p ≠ some (.own x)) : Wd K (upd H p o) (Hid B p) m := by
  have hp := W.hid p (.inr rfl)
  refine ⟨fun a c e => ?_, fun a b => ?_⟩
  · have ne : a ≠ p := fun z => by subst z; rw [hp.2] at e; cases e
    refine CellOk.carry carry_hidden (fun u q => by rw [upd_ne ne]; exact q) (fun dx q n => ⟨?_, n⟩) (W.cell a c e)
    have : dx ≠ p := fun z => by subst z; exact hno _ q
    rw [upd_ne this]; exact q
  · obtain ⟨h1, h2⟩ := W.hid a b
    refine ⟨?_, h2⟩
    by_cases q : a = p
    · subst q; rw [upd_same]; exact fun z => nomatch z
    · rw [upd_ne q]; exact h1
theorem Wd.hideNew {K : PySem.W.Frag} {H : Hp} {B : Addr → Prop} {m : Mu} {p : Addr} {o : HO} (W : Wd K H B m) (hp : H p = none) : Wd K (upd H p o) (Hid B p) m ∧ Carry H (Ban B m) (upd H p o) (Ban (Hid B p) m) := by
  have c : Carry H (Ban B m) (upd H p o) (Ban (Hid B p) m) := Step.carry2 (fun a b => b.elim .inl fun e => .inr (by rw [e]; exact hp)) (Step.new hp)
  refine ⟨⟨fun a cc e => ?_, fun a b => ?_⟩, c⟩
  · have hne : ∀ {x u}, H x = some u → x ≠ p := fun h => ne_of_none h hp
    exact CellOk.carry c (fun u q => by rw [upd_ne (hne q)]; exact q) (fun dx q n => ⟨by rw [upd_ne (hne q)]; exact q, n⟩) (W.cell a cc e)
  · rcases b with b | rfl
    · obtain ⟨h1, h2⟩ := W.hid a b
      cases q : H a with
      | none => exact absurd q h1
      | some u => rw [upd_ne (ne_of_none q hp), q]; exact ⟨(fun z => nomatch z), h2⟩
    · rw [upd_same]; exact ⟨(fun z => nomatch z), (W.free hp).1⟩
theorem lc_sound {K : PySem.W.Frag} {wi : TI} {tg : TG} {ai : AIt} {g : AGt} {tt : ATt} {te : AEt} {vs : List Nat} (si : SI K wi ai) (gg : GoodG K vs tg g) : SE K (tLc wi tg (ttOf K tt) (teOf K te) vs) (aLc ai g tt te vs) := by
  intro B δ m Q σ H W E h Q' k
  refine si B δ m _ σ H W E h _ fun J ds m1 H1 s1 W1 Y ⟨hz, q⟩ => ?_
  have k1 := k.step s1
  intro p hp
  obtain ⟨Wn, cn⟩ := W1.hideNew (o := .lst []) hp
  have stn : Step H1 m1 (upd H1 p (.lst [])) m1 := Step.new hp
  have hB : ∀ a, Hid B p a → B a ∨ H1 a = none := fun a b => b.elim .inl fun e => .inr (by rw [e]; exact hp)
  have E1 : EnvD K H1 (Ban B m1) (wipe σ vs) (wipeD δ vs) := (E.carry s1.carry).wipe vs
  refine ⟨fun i n H' => ∃ m' acc av, Step H1 m1 H' m' ∧ Wd K H' (Hid B p) m' ∧ H' p = some (.lst av) ∧ Reps K H' (Ban (Hid B p) m') acc av ∧ EnvD K H' (Ban (Hid B p) m') (wipe σ vs) (wipeD δ vs) ∧ n + i = ds.length ∧ acc.length ≤ i ∧ lcGo g tt te (wipeD δ vs) Q (ds.drop i) acc m',
    ⟨ds.length, m1, [], [], stn, Wn, upd_same, reps_nil.mpr rfl, E1.carry cn, rfl, Nat.le_refl _, q⟩, ?_⟩
  rintro i n H' ⟨m', acc, av, st, W', hp', rv, E', hn, hacc, hq⟩
  have Yi := Y (Hid B p) hB i H' m' st W'
  by_cases hlt : i < ds.length
  · have hd : ds[i]? = some ds[i] := List.getElem?_eq_getElem hlt
    rw [List.drop_eq_getElem_cons hlt] at hq
    obtain ⟨hgo, hy⟩ := Yi.1 _ hd
    refine .inr ⟨hgo, fun H2 => ∃ m2 acc2 av2, Step H1 m1 H2 m2 ∧ Wd K H2 (Hid B p) m2 ∧ H2 p = some (.lst av2) ∧ Reps K H2 (Ban (Hid B p) m2) acc2 av2 ∧ EnvD K H2 (Ban (Hid B p) m2) (wipe σ vs) (wipeD δ vs) ∧ acc2.length ≤ i + 1 ∧ lcGo g tt te (wipeD δ vs) Q (ds.drop (i + 1)) acc2 m2, ?_, ?_⟩
    · rintro H2 ⟨m2, acc2, av2, a1, a2, a3, a4, a5, a6, a7⟩
      exact ⟨n - 1, by omega, m2, acc2, av2, a1, a2, a3, a4, a5, by omega, a6, a7⟩
    · intro x H'' y
      obtain ⟨st2, W2, r2⟩ := hy x H'' y
      refine gg.m x _ H'' _ _ (fun σ2 H2 ⟨e, q⟩ => ⟨e.trans wipe_wipe, q⟩) (gg.w x _ H'' _ ?_)
      refine gg.s (Hid B p) _ x _ m' _ _ H'' W2 (E'.carry st2.carry) r2 hq _ fun δ3 m3 σ3 H3 st3 W3 E3 q3 => ?_
      refine ⟨Hid B p, δ3, m3, _, W3, E3, q3, fun b m4 H4 st4 W4 q4 => ?_⟩
      have s34 := (st2.trans st3).trans st4
      have keep : H' p = some (.lst av) := hp'
      have hm' : m' p = none := (W'.hid p (.inr rfl)).2
      cases b with
      | true =>
        refine ⟨Hid B p, δ3, m4, _, W4, E3.carry st4.carry, q4, fun d m5 v H5 st5 W5 r5 q5 => ?_⟩
        have s35 := s34.trans st5
        have h5 : H5 p = some (.lst av) := (s35 p _ keep hm').1
        refine ⟨av, h5, ?_, m5, acc ++ [d], av ++ [v], ?_, W5.hidden (fun x e => by rw [h5] at e; cases e), upd_same, ?_, ?_, by rw [List.length_append]; simp; omega, q5⟩
        · have := rv.len; omega
        · intro a o ha hm
          have ne : a ≠ p := ne_of_none ha hp
          have := (st.trans s35) a o ha hm
          rw [upd_ne ne]; exact this
        · exact Reps.carry carry_hidden _ _ ((Reps.carry s35.carry _ _ rv).app (Reps.one r5))
        · exact (E'.carry s35.carry).carry carry_hidden
      | false =>
        exact ⟨m4, acc, av, st.trans s34, W4, (s34 p _ keep hm').1, Reps.carry s34.carry _ _ rv, E'.carry s34.carry, by omega, q4⟩
  · refine .inl ⟨Yi.2 (by omega), ?_⟩
    rw [List.drop_eq_nil_of_le (by omega)] at hq
    have hm' : m' p = none := (W'.hid p (.inr rfl)).2
    refine k1 _ m' _ H' st W'.unhide (rep_lst.mpr ⟨p, av, rfl, ⟨hp', fun z => z.elim (fun b => (W1.hid p b).1 hp) fun z => z hm'⟩, Reps.carry carry_unhide _ _ rv⟩) hq
section
variable {elt tg iter : Expr} {ifs : List Expr} {scope : Scope} {own : List (Str × Nat)} {ai : AIt} {g : AGt} {tt : ATt} {te : AEt} {gt : TG}
theorem ae_lc (hc : X.calm = true) (hN : X.N.Nodup) (hi : AI X tg iter ai) (ok : BlkOk X.N X.env.scope scope own) (gg : GoodG X.K (own.map (·.2)) gt g)
    (hg : ∀ (s : Shared) (H : Hp) (C : Addr) (cl : List (Str × Addr)) (fp : List Addr), PG (X.blk s H scope (compEnvC scope cl C X.env) fp) tg gt)
    (ht : ∀ (s : Shared) (H : Hp) (C : Addr) (cl : List (Str × Addr)) (fp : List Addr), ATs (X.blk s H scope (compEnvC scope cl C X.env) fp) ifs tt)
    (he : ∀ (s : Shared) (H : Hp) (C : Addr) (cl : List (Str × Addr)) (fp : List Addr), AE (X.blk s H scope (compEnvC scope cl C X.env) fp) elt te)
    (hs : ∀ x, foldedSetIterable iter X.env x = pure x := by intro _; rfl) : AE X (.ListComp elt [⟨tg, iter, ifs, 0⟩] scope pos) (aLc ai g tt te (own.map (·.2))) :=
  let ⟨_, pi, si⟩ := hi.ex
  ⟨_, pe_lc hc hN pi ok hg (fun s H C cl fp => (ht s H C cl fp).p) (fun s H C cl fp => (he s H C cl fp).canon) hs, lc_sound si gg⟩
theorem as_setLc {i : Nat} {y : Str} {py spos : Pos} (hc : X.calm = true) (hN : X.N.Nodup) (hy : X.N[i]? = some y) (hyl : X.env.scope.names.lookup y = some .local)
    (hsw : swapsWith (.ListComp elt [⟨tg, iter, ifs, 0⟩] scope pos) (some (.Name y py)) spos.line X.env = pure true) (hi : AI X tg iter ai) (ok : BlkOk X.N X.env.scope scope own) (gg : GoodG X.K (own.map (·.2)) gt g)
    (hg : ∀ (s : Shared) (H : Hp) (C : Addr) (cl : List (Str × Addr)) (fp : List Addr), PG (X.blk s H scope (compEnvC scope cl C X.env) fp) tg gt)
    (ht : ∀ (s : Shared) (H : Hp) (C : Addr) (cl : List (Str × Addr)) (fp : List Addr), ATs (X.blk s H scope (compEnvC scope cl C X.env) fp) ifs tt)
    (he : ∀ (s : Shared) (H : Hp) (C : Addr) (cl : List (Str × Addr)) (fp : List Addr), AE (X.blk s H scope (compEnvC scope cl C X.env) fp) elt te)
    (hs : ∀ x, foldedSetIterable iter X.env x = pure x := by intro _; rfl) : AS X (.Assign [.Name y py] (.ListComp elt [⟨tg, iter, ifs, 0⟩] scope pos) spos) (aAsg (aLc ai g tt te (own.map (·.2))) (gNm i)) :=
  let ⟨_, pi, si⟩ := hi.ex
  ⟨_, ps_setLc hc hN hy hyl hsw pi ok hg (fun s H C cl fp => (ht s H C cl fp).p) (fun s H C cl fp => (he s H C cl fp).canon) hs, fun B D δ m σ H W E h De k =>
    lc_sound si gg B δ m _ σ H W E h _ fun d m1 v H1 s1 W1 r q => k.nx _ m1 _ H1 s1 W1 ((E.carry s1.carry).set r i) q⟩
end
end
end L3
namespace L3
open PySem PySem.Spec PyProof.Rows L2
theorem _root_.L2.Room.u65 {k : Nat} {A : Around} (r : Room k A) : A.units + 65 < cLine := by have := r.un; omega
theorem _root_.L2.Room.u1 {k : Nat} {A : Around} (r : Room k A) : A.units + 1 < cLine := by have := r.un; omega
section
variable {X : Cx}
theorem or_in1 (hu : X.A.units + 65 < cLine) : OpR X (compareOp .In) (rOf X.K (rhoIn false)) := or_in hu false
theorem or_nin (hu : X.A.units + 65 < cLine) : OpR X (compareOp .NotIn) (rOf X.K (rhoIn true)) := or_in hu true
end
def startD (N : List Str) (ds : List D) : Dt := ds.map some ++ List.replicate (N.length - ds.length) none
/-- a def as it stands behind the top, by its name -/
structure DefT (K : PySem.W.Frag) (mg : Str → Option Value) (x : Str) (st : Stmt) (ps : List Str) : Prop where
  ex : ∃ (f : Addr) (fd : FuncData), FunD K x x (defArgs st) (defBody st) (defScope st) [] [] f fd ∧ mg x = some (.ref f) ∧ Binds K fd ps []
theorem fnd_of {P : Program} {w : World} {K : PySem.W.Frag} {mg : Str → Option Value} {base : Heap} {x : Str} {st : Stmt} {N ps : List Str} {k : Nat} {sp : SpD} (F : DefT K mg x st ps) (S : FnScope N ps (defScope st)) (hlen : ∀ ds m Q, sp ds m Q → ds.length = ps.length)
    (hbody : ∀ (f : Addr) (cdv : Value) (A : Around) (outer : List Env) (s : Shared) (H : Hp) (E : XK), Room k (A.deeper (envOfC x (defScope st) s.heap.objs.size f cdv)) →
      ∃ t, ASs (cxOf L2.CX0 P w K mg base N x (defScope st) f cdv A outer s H E).nox (defBody st) t ∧ ∀ ds m Q, sp ds m Q → t { nx := fun _ m' => Q .non m', rt := Q } (startD N ds) m) : FnD P w K mg base x (k + 1) sp := by
  obtain ⟨f, fd, F, hm, hb⟩ := F.ex
  refine ⟨f, fd, ps, F.ok S (fun vs H Q E ⟨B, m, ds, Qd, W, r, q, _⟩ => by rw [r.len]; exact hlen _ _ _ q) (fun cdv A outer s H vs Q E hr ⟨B, m, ds, Qd, W, r, q, k⟩ => ?_), hm, F.kp, hb⟩
  obtain ⟨t, h, hq⟩ := hbody f cdv A outer s H E hr
  obtain ⟨ts, ps', ss⟩ := h.ex
  refine ⟨ts, PSs.nox ps', ss B _ (startD N ds) m _ H W (EnvD.start N r) (hq ds m Qd q) _ ⟨fun δ' m' σ' H' st W' E' q' => k _ m' _ H' st W' (rep_non.mpr rfl) q', k, fun _ _ _ _ _ _ _ q' => q'.elim, fun _ _ _ _ _ _ _ q' => q'.elim⟩⟩
end L3
/-! L3s: sets of texts: set(list of texts), sorted of it. -/
namespace L3
open PySem PySem.Spec PyProof.Rows L2
/-- the text of an entry -/
def txOf (e : Int × Value) : Str := match e.2 with
  | .str x _ => x
  | _ => Str.empty
def TxE (w : World) (e : Int × Value) : Prop := ∃ x u, e.2 = Value.str x u ∧ e.1 = hashStr w x
/-- a set of texts: its members (in some order, each once); its table can be walked -/
def SetS (w : World) (g : Heap) (p : Addr) (l : List Str) : Prop :=
  ∃ ob xs ep tb, g.get? p = some ob ∧ ob.ExactSet ∧ ob.data = .set xs ep tb ∧ (∀ e ∈ xs.toList, TxE w e) ∧ (xs.toList.map txOf).Perm l ∧ l.Nodup ∧ xs.size < scanBound ∧ tb.fits xs.size = true ∧
    Ris tb.place.toList ∧ (w.params.followText "set-order" = true ∨ tb.led = true)
section
variable {P : Program} {w : World} {A : Around} {E : Value → Shared → Prop} {s : Shared} {p : Addr} {l : List Str}
theorem SetS.at {g g' : Heap} (R : SetS w g p l) (k : ∀ o, g.get? p = some o → g'.get? p = some o) : SetS w g' p l :=
  let ⟨ob, xs, ep, tb, h, r⟩ := R
  ⟨ob, xs, ep, tb, k ob h, r⟩
theorem txE_elems {es : List (Int × Value)} (g : ∀ e ∈ es, TxE w e) : ElemsOf (PySem.strKind P w) es := fun e he =>
  let ⟨x, u, h1, h2⟩ := g e he
  ⟨⟨x, by rw [h1]; exact PySem.strKind_is P w x u, h2⟩, by rw [h1]; rfl⟩
theorem txE_is {e : Int × Value} (g : TxE w e) (x : Str) : (PySem.strKind P w).is x e.2 = true ↔ txOf e = x := by
  obtain ⟨y, u, h1, _⟩ := g
  unfold txOf
  rw [h1]
  show Value.isStrOf x (.str y u) = true ↔ y = x
  unfold Value.isStrOf
  simp
theorem txE_mem {es : List (Int × Value)} (g : ∀ e ∈ es, TxE w e) (x : Str) : x ∈ es.map txOf ↔ ∃ e ∈ es, (PySem.strKind P w).is x e.2 = true := by
  rw [List.mem_map]
  exact ⟨fun ⟨e, he, q⟩ => ⟨e, he, (txE_is (g e he) x).2 q⟩, fun ⟨e, he, q⟩ => ⟨e, he, (txE_is (g e he) x).1 q⟩⟩
theorem setS_tail {gw : Bool → Sem Unit} (hgw : ∀ (b : Bool) (s₁ : Shared) (Q' : Unit → Shared → Prop), Q' () s₁ → wpAny (model P w) A (gw b) Q' E s₁)
    {ob : Obj} {xs : Array (Int × Value)} {ep : Nat} {tb : SetTable} (h : s.heap.get? p = some ob) (hex : ob.ExactSet) (hd : ob.data = .set xs ep tb)
    {ys : Array (Int × Value)} {tc : SetTable} (gy : ∀ e ∈ ys.toList, TxE w e) (py : (ys.toList.map txOf).Perm l) (nl : l.Nodup)
    (hb : ys.size < scanBound) (hf : tc.fits ys.size = true) (hr : Ris tc.place.toList) (hl : w.params.followText "set-order" = true ∨ tc.led = true) {dum : Bool} {R : Option Bool → Shared → Prop}
    (hR : ∀ g', Heap.SameBut p s.heap g' → SetS w g' p l → R (some true) { s with heap := g' }) :
    wpAny (model P w) A (do
        storeSet p ys tc
        if (!dum && tc.tooFull) = true then do
            gw (relayAll tc ys (SetTable.grown ys.size)).2.2
            storeSet p (relayAll tc ys (SetTable.grown ys.size)).1 (relayAll tc ys (SetTable.grown ys.size)).2.1
            pure (some true)
          else pure (some true)) R E s := by
  refine wpAny_bind (wpAny_storeSet_of h hd ?_ (fits_of_scanBound hb))
  have h1 := store_at (es' := ys) (t' := tc) h hd
  have b1 := Heap.SameBut.update s.heap p (Obj.putSet ys tc)
  split
  · have z1 := relayAll_perm tc ys (SetTable.grown ys.size)
    have z2 := relayAll_fits tc ys (SetTable.grown ys.size)
    have z3 := relayAll_ris tc ys (SetTable.grown ys.size)
    have z4 := relayAll_led tc ys (SetTable.grown ys.size)
    generalize relayAll tc ys (SetTable.grown ys.size) = Y at z1 z2 z3 z4 ⊢
    obtain ⟨zs, td, gave⟩ := Y
    dsimp only at z1 z2 z3 z4 ⊢
    have z5 : zs.size = ys.size := by rw [← Array.length_toList, z1.length_eq, Array.length_toList]
    refine wpAny_bind (hgw _ _ _ ?_)
    refine wpAny_bind (wpAny_storeSet_of h1 rfl ?_ (fits_of_scanBound (by rw [z5]; exact hb)))
    have h2 := store_at (es' := zs) (t' := td) h1 rfl
    refine wpAny_pure (hR _ (b1.trans (Heap.SameBut.update _ p _)) ?_)
    exact ⟨_, zs, _, td, h2, hex, rfl, fun e he => gy e (z1.mem_iff.mp he), (z1.map txOf).trans py, nl, by rw [z5]; exact hb, z2, z3, hl.imp id fun z => by rw [z4]; exact z⟩
  · exact wpAny_pure (hR _ b1 ⟨_, ys, _, tc, h1, hex, rfl, gy, py, nl, hb, hf, hr, hl⟩)
/-- one text more, or as it is -/
theorem setS_add {x : Str} {u : Tok} {Q : Bool → Shared → Prop} (R : SetS w s.heap p l) (room : l.length + 1 < scanBound)
    (hQ : ∀ b g', Heap.SameBut p s.heap g' → SetS w g' p (if x ∈ l then l else x :: l) → Q b { s with heap := g' }) :
    wpAny (model P w) A (setAddHashed p (.str x u) ((PySem.strKind P w).hash x)) Q E s := by
  obtain ⟨ob, xs, ep, tb, h, hex, hd, g, pl, nl, hb, hf, hr, hl⟩ := R
  have hkey : (PySem.strKind P w).is x (.str x u) = true := PySem.strKind_is P w x u
  have hsc : (Value.str x u).scannable = true := rfl
  have hel : ElemsOf (PySem.strKind P w) xs.toList := txE_elems g
  unfold setAddHashed setAddHashedIn
  refine wpAny_holding (wpAny_bind (wpAny_setState_of h hd hf ?_))
  dsimp only
  rw [byScan_of hsc hb hel]
  simp only [↓reduceIte]
  unfold setAddByScan
  refine wpAny_bind (wpAny_bind (wpAny_rule ?_))
  refine wpAny_bind (wpAny_setScan_of hkey h hd hf hel ?_)
  cases hfi : List.findIdx? (fun e => (PySem.strKind P w).is x e.2) xs.toList with
  | some j =>
    dsimp only
    obtain ⟨hj, pj, _⟩ := List.findIdx?_eq_some_iff_getElem.mp hfi
    have hin : x ∈ l := pl.mem_iff.mp ((txE_mem (P := P) g x).2 ⟨xs.toList[j], List.getElem_mem hj, pj⟩)
    refine wpAny_pure (wpAny_pure (hQ _ s.heap (Heap.SameBut.refl p s.heap) ?_))
    rw [if_pos hin]
    exact ⟨ob, xs, ep, tb, h, hex, hd, g, pl, nl, hb, hf, hr, hl⟩
  | none =>
    dsimp only
    have hno : x ∉ l := fun z => by
      obtain ⟨e, he, q⟩ := (txE_mem (P := P) g x).1 (pl.mem_iff.mpr z)
      have c := List.findIdx?_eq_none_iff.mp hfi e he
      rw [q] at c; cases c
    have hgw : ∀ (b : Bool) {s₁ : Shared} {Q' : Unit → Shared → Prop}, Q' () s₁ → wpAny (model P w) A (match b with | true => rule "set.scan.the-table-gave-way" | false => pure ()) Q' E s₁ :=
      fun b s₁ Q' q => by cases b with
        | false => exact wpAny_pure q
        | true => exact wpAny_rule q
    have y1 := layNew_perm tb xs ((PySem.strKind P w).hash x) (.str x u)
    have y2 := layNew_fits tb xs ((PySem.strKind P w).hash x) (.str x u)
    have y3 := layNew_ris tb xs ((PySem.strKind P w).hash x) (.str x u) hr
    have y4 := layNew_led tb xs ((PySem.strKind P w).hash x) (.str x u)
    generalize layNew tb xs ((PySem.strKind P w).hash x) (.str x u) = Y at y1 y2 y3 y4 ⊢
    obtain ⟨ys, tc, dum, gave⟩ := Y
    dsimp only at y1 y2 y3 y4 ⊢
    rw [Array.toList_push] at y1
    have pc := y1.trans (List.perm_append_singleton _ _)
    have pk : (ys.toList.map txOf).Perm (x :: l) := (pc.map txOf).trans (List.Perm.cons x pl)
    have gy : ∀ e ∈ ys.toList, TxE w e := fun e he => by
      rcases List.mem_cons.mp (pc.mem_iff.mp he) with z | z
      · rw [z]; exact ⟨x, u, rfl, rfl⟩
      · exact g e z
    have nx : (x :: l).Nodup := List.nodup_cons.mpr ⟨hno, nl⟩
    have hsz : ys.size < scanBound := by
      have q := pk.length_eq
      rw [List.length_map, Array.length_toList, List.length_cons] at q
      omega
    have hled : w.params.followText "set-order" = true ∨ tc.led = true := hl.imp id fun z => by rw [y4]; exact z
    have fin : ∀ g', Heap.SameBut p s.heap g' → SetS w g' p (x :: l) → Q true { s with heap := g' } := fun g' sb r => hQ _ g' sb (by rw [if_neg hno]; exact r)
    refine wpAny_bind (hgw _ ?_)
    split
    · refine wpAny_bind ?_
      rw [hashByValue_scannable 8 hsc]
      refine wpAny_pure ?_
      refine setS_tail (l := x :: l) ?_ h hex hd gy pk nx hsz ?_ ?_ ?_ ?_
      · intro b s₁ Q' q
        cases b with
        | false => exact wpAny_pure q
        | true => exact wpAny_rule q
      · first | (split <;> first | exact y2 | exact SetTable.fits_plain_off y2) | exact y2
      · first | (split <;> exact y3) | exact y3
      · first | (split <;> exact hled) | exact hled
      · intro g' sb r; dsimp only; exact wpAny_pure (fin g' sb r)
    · refine wpAny_bind (wpAny_pure ?_)
      simp only [↓reduceIte]
      refine setS_tail (l := x :: l) ?_ h hex hd gy pk nx hsz y2 y3 hled ?_
      · intro b s₁ Q' q
        cases b with
        | false => exact wpAny_pure q
        | true => exact wpAny_rule q
      · intro g' sb r; dsimp only; exact wpAny_pure (fin g' sb r)
/-- what the first i of ns make -/
def putAllS : List Str → List Str → List Str
  | [], l => l
  | x :: xs, l => putAllS xs (if x ∈ l then l else x :: l)
theorem putAllS_snoc (x : Str) : ∀ (xs l : List Str), putAllS (xs ++ [x]) l = if x ∈ putAllS xs l then putAllS xs l else x :: putAllS xs l
  | [], l => rfl
  | y :: ys, l => putAllS_snoc x ys _
theorem putAllS_len : ∀ (xs l : List Str), (putAllS xs l).length ≤ xs.length + l.length
  | [], l => by simp [putAllS]
  | y :: ys, l => by
    have q := putAllS_len ys (if y ∈ l then l else y :: l)
    show (putAllS ys _).length ≤ _
    rw [List.length_cons]
    by_cases h : y ∈ l
    · rw [if_pos h] at q ⊢; omega
    · rw [if_neg h] at q ⊢; rw [List.length_cons] at q; omega
theorem putAllS_mem {z : Str} : ∀ (xs l : List Str), z ∈ putAllS xs l ↔ z ∈ xs ∨ z ∈ l
  | [], l => by simp [putAllS]
  | y :: ys, l => by
    rw [show putAllS (y :: ys) l = putAllS ys (if y ∈ l then l else y :: l) from rfl, putAllS_mem ys, List.mem_cons]
    by_cases h : y ∈ l
    · rw [if_pos h]
      exact ⟨fun q => q.elim (fun q => .inl (.inr q)) .inr, fun q => q.elim (fun q => q.elim (fun e => .inr (by rw [e]; exact h)) .inl) .inr⟩
    · rw [if_neg h, List.mem_cons]
      exact ⟨fun q => q.elim (fun q => .inl (.inr q)) fun q => q.elim (fun e => .inl (.inl e)) .inr, fun q => q.elim (fun q => q.elim (fun e => .inr (.inl e)) .inl) fun q => .inr (.inr q)⟩
theorem setS_loop {I : Addr} {fp wr : List Addr} {G : Array GenState → Array GenState → Prop} {n : Nat} {Pv : Nat → Value → Prop} {St : Nat → Shared → Prop} {R : Result → Shared → Prop}
    (W : WalksS P w A.in1 I fp wr G n Pv St) (p : Addr) (hpf : p ∉ fp) (ns : List Str) (hn : n = ns.length) (hb : ns.length + 1 < scanBound) (hval : ∀ i v, Pv i v → ∃ x t, ns[i]? = some x ∧ v = .str x t) :
    ∀ (k i : Nat) (s : Shared), n - i = k → i ≤ n → St i s → SetS w s.heap p (putAllS (ns.take i) []) →
      (∀ s', Moved (p :: wr) G s s' → SetS w s'.heap p (putAllS ns []) → R (.ok (.ret .none)) s') →
      codeAny (model P w) A (.builtin "set.update.loop" ⟨[.ref p, .ref I], []⟩) R s := by
  have hpw : p ∉ wr := fun h => hpf (W.sub _ h)
  have hsub : ∀ b ∈ wr, b ∈ p :: wr := fun b hb => List.mem_cons_of_mem _ hb
  intro k
  induction k with
  | zero =>
    intro i s hk hi hst hS hR
    obtain rfl : i = n := by omega
    refine codeAny_builtin F.entry_set_update_loop ?_
    rw [Around.under_plainId F.plain_set_update_loop _]
    show wpAny _ A.in1 (pyNext (.ref I) >>= _) _ _ s
    refine wpAny_bind (W.done s _ _ hst fun s' hm => ?_)
    show wpAny _ A.in1 (ret Value.none) _ _ s'
    rw [List.take_of_length_le (by omega)] at hS
    exact wpAny_pure (hR s' (hm.mono hsub) (hS.at fun o e => hm.heap p o hpw e))
  | succ k ih =>
    intro i s hk hi hst hS hR
    have hlt : i < n := by omega
    refine codeAny_builtin F.entry_set_update_loop ?_
    rw [Around.under_plainId F.plain_set_update_loop _]
    show wpAny _ A.in1 (pyNext (.ref I) >>= _) _ _ s
    refine wpAny_bind (W.item i s _ _ hlt hst fun v s' hP hst' hm => ?_)
    obtain ⟨z, t, hz, rfl⟩ := hval i v hP
    have hS1 : SetS w s'.heap p (putAllS (ns.take i) []) := hS.at fun o e => hm.heap p o hpw e
    show wpAny _ A.in1 (holding [Value.str z t] (setAdd p (.str z t)) >>= _) _ _ s'
    refine wpAny_bind (wpAny_holding ?_)
    unfold setAdd
    refine wpAny_holding (wpAny_bind ((PySem.strKind P w).pyHash (k := z) (PySem.strKind_is _ _ _ _) ?_))
    have hlen : (putAllS (ns.take i) []).length + 1 < scanBound := by
      have q := putAllS_len (ns.take i) []
      have q2 : (ns.take i).length ≤ ns.length := by rw [List.length_take]; omega
      rw [List.length_nil] at q
      omega
    refine setS_add (s := { s' with toks := s'.toks + 1 }) hS1 hlen fun b h' hsb hS2 => ?_
    have hS3 : SetS w h' p (putAllS (ns.take (i + 1)) []) := by
      rw [List.take_add_one, hz]
      show SetS w h' p (putAllS (ns.take i ++ [z]) [])
      rw [putAllS_snoc]
      exact hS2
    refine wpAny_pure ⟨plainId_quiet F.plain_set_update_loop _, ih (i + 1) _ (by omega) hlt (W.frame _ s' _ _ hst' (Nat.le_succ _) fun c hc o e => ?_) hS3 fun s'' hm'' hS'' => ?_⟩
    · rw [hsb.2 c (fun h : c = p => hpf (by rw [← h]; exact hc))]; exact e
    · refine hR s'' (Moved.trans W.gtrans ((hm.mono hsub).then_heap (Nat.le_succ _) fun c o hc e => ?_) hm'') hS''
      rw [hsb.2 c (fun h : c = p => hc (by rw [h]; exact List.mem_cons_self))]; exact e
/-- the new set's object -/
abbrev newSet (w : World) : Obj := { cls := .type "set", dict := none, data := .set #[] 0 (.fresh 0 0 (!w.params.followText "set-order")) }
theorem setS_empty {g : Heap} (h : g.get? p = some (newSet w)) : SetS w g p [] :=
  ⟨_, #[], 0, _, h, ⟨rfl, rfl, rfl⟩, rfl, (fun e he => by simp at he), .nil, List.nodup_nil, (by decide), (by rfl), List.Pairwise.nil, by
    show _ ∨ (!w.params.followText "set-order") = true
    cases w.params.followText "set-order" with
    | true => exact .inl rfl
    | false => exact .inr rfl⟩
end
end L3
namespace L3
open PySem PySem.Spec PyProof.Rows L2
section
variable {P : Program} {w : World} {A : Around} {E : Value → Shared → Prop} {s : Shared}
theorem strs_get : ∀ {us : List Value} {xs : List Str}, StrsAre us xs → ∀ (i : Nat) (v : Value), us[i]? = some v → ∃ x t, xs[i]? = some x ∧ v = .str x t
  | _, _, .nil, i, v, h => by simp at h
  | _, _, .cons x t r, 0, v, h => by simp at h; exact ⟨x, t, rfl, h.symm⟩
  | _, _, .cons x t r, i + 1, v, h => by simpa using strs_get r i v (by simpa using h)
/-- set(a list): its loop by a promise -/
theorem call_set_gen {l : Addr} {items : Array Value} (Post : Shared → Prop) {Q : Value → Shared → Prop} (hh : A.handled = none) (hl : s.heap.IsList l items)
    (loop : ∀ {I : Addr} {fp wr : List Addr} {G : Array GenState → Array GenState → Prop} {Pv : Nat → Value → Prop} {St : Nat → Shared → Prop} {R : Result → Shared → Prop} (s1 : Shared), WalksS P w A.in1.in1.in1 I fp wr G items.size Pv St → (∀ i v, Pv i v → items[i]? = some v) → s.heap.objs.size ∉ fp → (∀ b ∈ wr, s.heap.get? b = none) →
      St 0 s1 → s1.heap.get? s.heap.objs.size = some (newSet w) → (∀ b o, s.heap.get? b = some o → s1.heap.get? b = some o) → (∀ s', Moved (s.heap.objs.size :: wr) G s1 s' → Post s' → R (.ok (.ret .none)) s') →
      codeAny (model P w) A.in1.in1 (.builtin "set.update.loop" ⟨[.ref s.heap.objs.size, .ref I], []⟩) R s1)
    (h : ∀ (g : Heap) (tk : Nat), Post { s with heap := g, toks := tk } → (∀ b o, s.heap.get? b = some o → g.get? b = some o) → Q (.ref s.heap.objs.size) { s with heap := g, toks := tk }) :
    wpAny (model P w) A (call (.type "set") [.ref l]) Q E s := by
  obtain ⟨c, tl, hmro⟩ := F.called_set.mro
  have hmade := F.called_set.made
  have hsub := F.called_set.sub
  refine wpAny_call (codeAny_of_tree ?_)
  show wpAny _ _ (callAny (.type "set") _) _ _ _
  refine wpAny_pure ⟨Code.quiet_builtin _ (by decide +kernel), codeAny_builtin F.entry_type_call ?_⟩
  rw [Around.under_plain (weight_type_call_type "set" [.ref l] []) rfl]
  have h1 := F.called_set.notType
  have h2 := F.called_set.canCreate
  have hct := F.typeCall_set_1 (.ref l)
  repeat (any_goals (first | assumption | wp_step))
  refine codeAny_mono (code_set_led1 (.ref l) (E := E) (Q₁ := fun ob s₁ => ob = .ref s.heap.objs.size ∧ s₁ = { s with heap := s.heap.push (newSet w) }) ⟨rfl, rfl⟩) fun r s₁ hr => ?_
  cases r with
  | error e => exact hr
  | ok fl =>
    cases fl with
    | ret ob =>
      obtain ⟨rfl, rfl⟩ := hr
      have hS : (s.heap.push (newSet w)).get? s.heap.objs.size = some (newSet w) := Heap.get?_push_size _ rfl
      have hT : Shared.TypeIs { s with heap := s.heap.push (newSet w) } (.ref s.heap.objs.size) "set" := ⟨_, hS, rfl⟩
      have hli := F.called_set.init.lookup
      have hbi := F.called_set.init.bind (.ref s.heap.objs.size)
      repeat (any_goals (first | assumption | wp_step))
      refine codeAny_mono (codeAny_call_builtin (R := wants (fun r s₂ => r = .none ∧ ∃ g tk, s₂ = { s with heap := g, toks := tk } ∧ Post { s with heap := g, toks := tk } ∧
          (∀ b o, s.heap.get? b = some o → g.get? b = some o)) E) F.called_set.init.plain F.entry_set_init (check_set_init_1 hT ?_)) fun r₂ s₂ hr₂ => ?_
      · obtain ⟨ol, hol, hcl, nl, hdl⟩ := hl
        obtain ⟨c1, c2, c3, c4⟩ := ol
        simp only at hcl hdl
        subst hcl; subst hdl
        have hl1 : (s.heap.push (newSet w)).IsList l items := ⟨_, Heap.get?_push_of_some _ hol, rfl, nl, rfl⟩
        have hol1 : (s.heap.push (newSet w)).get? l = some { cls := .type "list", dict := c2, data := .seq items nl, slots := c4 } := Heap.get?_push_of_some _ hol
        have q1 := F.sub_list_set
        have q2 := F.sub_list_frozenset
        have q3 : (Value.type "list" == Value.type "dict") = false := by decide
        unfold Builtin.«set.__init__» noKeywords Builtin.Frozenset.updateFrom
        generalize hPI : pyIter = PI
        wp_walk
        subst hPI
        refine wpAny_pyIter_list hl1 ?_
        refine wpAny_bind (wpAny_runValue ?_)
        have hlS : l < s.heap.objs.size := Heap.lt_size hol
        have hh3 : A.in1.in1.in1.handled = none := by simp [hh]
        have hneI : l ≠ (s.heap.push (newSet w)).objs.size := by
          rw [Heap.size_push]; exact Nat.ne_of_lt (Nat.lt_succ_of_lt hlS)
        have hSf : s.heap.objs.size ∉ [(s.heap.push (newSet w)).objs.size, l] := by
          rw [Heap.size_push]
          intro z
          rcases List.mem_cons.mp z with z | z
          · exact absurd z (Nat.ne_of_lt (Nat.lt_succ_self _))
          · exact absurd (List.mem_singleton.mp z) (Nat.ne_of_gt hlS)
        refine loop _ ((Walks.list hh3 _ l hneI items).toS) (fun i v hv => hv) hSf (fun b hb => Heap.get?_none_of_le (by
            rw [List.mem_singleton.mp hb, Heap.size_push]
            exact Nat.le_succ _))
          ⟨⟨_, Heap.get?_push_size _ rfl, rfl, rfl⟩, (hl1.push _)⟩ (Heap.get?_push_of_some _ hS) (fun b o e => Heap.get?_push_of_some _ (Heap.get?_push_of_some _ e)) ?hR
        case hR =>
          intro s' hm hS'
          obtain ⟨g, g2, d', tk', os'⟩ := s'
          obtain rfl : g2 = s.gens := hm.gens
          obtain rfl : d' = s.drawn := hm.drawn
          obtain rfl : os' = s.os := hm.os
          show wpAny _ _ _ _ _ _
          refine wpAny_pure ?_
          show wpAny _ _ (ret Value.none) _ _ _
          refine wpAny_pure ⟨rfl, g, tk', rfl, hS', fun b o e => ?_⟩
          have b0 : b < s.heap.objs.size := Heap.lt_size e
          refine hm.heap b o (fun z => ?_) (Heap.get?_push_of_some _ (Heap.get?_push_of_some _ e))
          rcases List.mem_cons.mp z with z | z
          · exact absurd z (Nat.ne_of_lt b0)
          · have z := List.mem_singleton.mp z
            rw [Heap.size_push] at z
            exact absurd z (Nat.ne_of_lt (Nat.lt_succ_of_lt b0))
      · cases r₂ with
        | error e => exact hr₂
        | ok fl₂ =>
          cases fl₂ with
          | ret r =>
            obtain ⟨rfl, g, tk, rfl, hS', hk⟩ := hr₂
            repeat (any_goals (first | assumption | wp_step))
            exact h _ _ hS' hk
          | _ => exact hr₂.elim
    | _ => exact hr.elim
theorem call_set_list {l : Addr} {items : Array Value} (ns : List Str) {Q : Value → Shared → Prop} (hh : A.handled = none) (hl : s.heap.IsList l items) (hit : StrsAre items.toList ns) (hb : ns.length + 1 < scanBound)
    (h : ∀ (g : Heap) (tk : Nat), SetS w g s.heap.objs.size (putAllS ns []) → (∀ b o, s.heap.get? b = some o → g.get? b = some o) → Q (.ref s.heap.objs.size) { s with heap := g, toks := tk }) :
    wpAny (model P w) A (call (.type "set") [.ref l]) Q E s := by
  have hisz : items.size = ns.length := by
    have q := hit.length
    rw [Array.length_toList] at q
    exact q
  refine call_set_gen (fun s' => SetS w s'.heap s.heap.objs.size (putAllS ns [])) hh hl (fun s1 W hv hSf hw hst hS hk hR => ?_) fun g tk hS hk => h g tk hS hk
  exact setS_loop W s.heap.objs.size hSf ns hisz hb (fun i v e => strs_get hit i v (by rw [Array.getElem?_toList]; exact hv i v e)) (items.size - 0) 0 _ (by omega) (Nat.zero_le _) hst (setS_empty hS) fun s' hm hS' => hR s' hm hS'
theorem strs_of : ∀ (l : List Value), (∀ v ∈ l, ∃ x tk, v = Value.str x tk) → ∃ xs, StrsAre l xs
  | [], _ => ⟨[], .nil⟩
  | v :: l, h => by
    obtain ⟨x, tk, rfl⟩ := h v List.mem_cons_self
    obtain ⟨xs, r⟩ := strs_of l fun u hu => h u (List.mem_cons_of_mem _ hu)
    exact ⟨x :: xs, .cons x tk r⟩
def txV (v : Value) : Str := match v with
  | .str x _ => x
  | _ => Str.empty
theorem strsAre_map : ∀ {l : List Value} {xs : List Str}, StrsAre l xs → l.map txV = xs
  | _, _, .nil => rfl
  | _, _, .cons x t r => by rw [List.map_cons, strsAre_map r]; rfl
theorem sorted_setS {p : Addr} {l : List Str} {Q : Value → Shared → Prop} (R : SetS w s.heap p l) (hh : A.handled = none) (h64 : l.length < 64)
    (hQ : ∀ s' q (out : Array Value) (c : Nat) (ys : List Str), (∀ b o, s.heap.get? b = some o → s'.heap.get? b = some o) → s'.gens = s.gens → s'.os = s.os → s.heap.objs.size ≤ q →
      s'.heap.get? q = some (seqObj "list" out c) → StrsAre out.toList ys → ys.Perm l → sortedS ys = true → Q (.ref q) s') :
    wpAny (model P w) A (call (.builtin "sorted") [.ref p]) Q E s := by
  obtain ⟨ob, xs, ep, tb, h, hex, hd, g, pl, nl, hb, hf, hr, hl⟩ := R
  refine Calls.call_function_entry kind_sorted plain_sorted entry_sorted (args_sorted1 _) ?_
  unfold Builtin.«sorted»
  refine wpAny_bind (m := checkCount "sorted" 1 1 _) (wpAny_pure ?_)
  refine wpAny_bind (collect_set (A := A.in1) hh ⟨ob, h, hex.1, hd⟩ hf hb hr hl fun s1 vs k1 hz g1 o1 pm => ?_)
  have pt : (vs.map txV).Perm l := by
    have q := pm.map txV
    rw [List.map_map] at q
    exact q.trans pl
  obtain ⟨zs, hI⟩ := strs_of vs fun v hv => by
    obtain ⟨e, he, q⟩ := List.mem_map.mp (pm.mem_iff.mp hv)
    obtain ⟨x, tk, e1, _⟩ := g e he
    exact ⟨x, tk, by rw [← q]; exact e1⟩
  rw [strsAre_map hI] at pt
  have hvl : vs.length = l.length := by rw [hI.length, pt.length_eq]
  refine wpAny_bind (wpAny_newList ?_ (by rw [hvl, sizeLine_eq]; omega))
  have hoL : (s1.heap.push (seqObj "list" vs.toArray 0)).get? s1.heap.objs.size = some (seqObj "list" vs.toArray 0) := Heap.get?_push_size _ rfl
  refine wpAny_bind (wpAny_holding (wpAny_call_entry slot_list_sort ⟨_, hoL, rfl⟩ entry_list_sort (list_sort_treeKAny strKind_oneLt hoL hI.keysOf (fun v₁ v₂ rest e => keyKind_strs (by rw [← e]; exact hI)) (by rw [hvl, sizeLine_eq]; omega)
    fun st' a1 a2 => ⟨_, rfl, ?_⟩) (args_list_sort _)))
  obtain ⟨ys, b1, b2, b3⟩ := sorted_out_str hI a1 a2
  generalize hout : (arrOf st').map (·.2) = out at b1 ⊢
  obtain ⟨c, hc⟩ := sortedHeap_at (vs := vs) (out := out) hoL
  refine wpAny_pure ⟨_, rfl, hQ _ s1.heap.objs.size out c ys (fun b u e => ?_) g1 o1 hz hc b1 (b2.trans pt) b3⟩
  have q := k1 b u e
  have hlt := Heap.lt_size q
  show (sortedHeap (s1.heap.push (seqObj "list" vs.toArray 0)) s1.heap.objs.size vs out).get? b = some u
  rw [sortedHeap_old (Nat.ne_of_lt hlt) (by rw [size_push']; exact Nat.lt_succ_of_lt hlt)]
  exact Heap.get?_push_of_some _ q
end
end L3
namespace L3
open PySem PySem.Spec PyProof.Rows L2
/-! ### zip of a tuple and a text -/
theorem n_ne (n : Nat) : n + 2 ≠ n + 4 ∧ n + 3 ≠ n + 4 ∧ n ≠ n + 4 ∧ n + 1 ≠ n + 4 ∧ n + 2 ≠ n + 3 ∧ n + 2 ≠ n ∧ n + 2 ≠ n + 1 := by omega
theorem n_lt (n k : Nat) (h : n + 4 < k) : n + 2 < k ∧ n + 3 < k ∧ n < k ∧ n + 1 < k := by omega
def ItzS (K : PySem.W.Frag) (a : Addr) (z : Str) : It :=
  ⟨fun i H => ∃ (xs : List V) (x : V) (c : Nat), SqT K H a xs ∧ xs[i]? = some x ∧ z.cps[i]? = some c,
    fun i H v H' => ∃ T x c o, v = .ref T ∧ H T = none ∧ o.dict = none ∧ H' = upd H T (.frz o (.tup [x, .str ⟨#[c]⟩])) ∧ (∀ xs, SqT K H a xs → xs[i]? = some x) ∧ z.cps[i]? = some c,
    fun i H => ∃ xs : List V, SqT K H a xs ∧ i ≤ xs.length ∧ i ≤ z.cps.size ∧ (i = xs.length ∨ i = z.cps.size)⟩
/-- what the walk's own objects are at turn i -/
def ZipS (a : Addr) (z : Str) (t : Tok) (N : Addr) (i : Nat) (h : Heap) : Prop :=
  IsZip h (N + 4) (N + 2) (N + 3) .none ∧ IsTupOf2 h (N + 2) (.ref N) (.ref (N + 1)) ∧ (∃ x y, IsTupOf2 h (N + 3) x y) ∧ h.IsTupleIter N a i ∧ h.IsStrIter (N + 1) (strIterType z) z t i
theorem turn_zipS {P : Program} {w : World} {K : PySem.W.Frag} {elts : List Expr} {kk : Nat} {tpos : Pos} {a N : Addr} {z : Str} {t : Tok} (ha : a < N) :
    Turn P w K (.Tuple elts kk tpos) (ItzS K a z) [N + 4, N + 2, N + 3, N, N + 1] (N + 4) (ZipS a z t N) where
  mem := by simp
  obj := fun i h st c hc => by
    obtain ⟨hz, hTI, ⟨x, y, hTO⟩, ⟨o1, e1, _, d1⟩, ⟨o2, e2, _, d2⟩⟩ := st
    simp only [List.mem_cons, List.not_mem_nil, or_false] at hc
    rcases hc with rfl | rfl | rfl | rfl | rfl
    · exact ⟨_, hz, fun v q => nomatch q⟩
    · exact ⟨_, hTI, fun v q => nomatch q⟩
    · exact ⟨_, hTO, fun v q => nomatch q⟩
    · exact ⟨o1, e1, fun v q => by rw [d1] at q; cases q⟩
    · exact ⟨o2, e2, fun v q => by rw [d2] at q; cases q⟩
  keep := fun i h h' st k => by
    obtain ⟨hz, hTI, ⟨x, y, hTO⟩, ⟨o1, e1, r1⟩, ⟨o2, e2, r2⟩⟩ := st
    exact ⟨k _ (by simp) _ hz, k _ (by simp) _ hTI, ⟨x, y, k _ (by simp) _ hTO⟩, ⟨o1, k _ (by simp) _ e1, r1⟩, ⟨o2, k _ (by simp) _ e2, r2⟩⟩
  item := by
    intro X hP hw hK hc i pins s σ H E I hf st hg
    subst hP hw hK
    obtain ⟨hz, hTI, ⟨x0, y0, hTO⟩, h1, h2⟩ := st
    obtain ⟨xs, x, c, hq, hx, hcz⟩ := hg
    obtain ⟨its, rv, p, _⟩ := I.tuple hq
    obtain ⟨u, hu, ru⟩ := rv.get hx
    have S := zip_sep2 (N := N) (fp1 := [a]) (fp2 := []) (fun b hb => by rw [List.mem_singleton.mp hb]; exact ha) (fun b hb => by cases hb)
    have hne : a ≠ N := Nat.ne_of_lt ha
    have hh : X.A.in1.handled = none := I.ok.hd hc
    have hi1 : i < its.toArray.size := by rw [List.size_toArray]; exact (List.getElem?_eq_some_iff.mp hu).1
    have hi2 : i < z.cps.size := (Array.getElem?_eq_some_iff.mp hcz).1
    have hzl : N + 4 < s.heap.objs.size := Heap.lt_size hz
    refine wpAny_pyNext_zipD2_item S (Draws.tuple hh N a hne its.toArray) (Draws.text hh (N + 1) z t) hz hTI hTO ⟨h1, p⟩ h2 hi1 hi2 fun v1 v2 h' tk p1 p2 z' TO' s1' s2' hT hsz hk => ?_
    obtain ⟨c', tk2, hc', e2⟩ := p2
    rw [hcz] at hc'
    cases hc'
    have e1 : v1 = u := by
      have q : its.toArray[i]? = some v1 := p1
      simp only [List.getElem?_toArray] at q
      rw [hu] at q
      exact (Option.some.inj q).symm
    subst e1 e2
    refine ⟨_, rfl, wpAny_letOwnedTupleGo_zip (s := { s with heap := h', toks := tk }) z' fun h'' z'' sb => ?_⟩
    have hT2 : h''.get? s.heap.objs.size = some { cls := .type "tuple", data := .seq #[v1, .str ⟨#[c]⟩ tk2] } := (sb.2 _ (Nat.ne_of_gt hzl)).trans hT
    have new : ObjOk X.prog X.w (upd H s.heap.objs.size (.frz (tupO [v1, .str ⟨#[c]⟩ tk2]) (.tup [x, .str ⟨#[c]⟩]))) h'' s.heap.objs.size (.frz (tupO [v1, .str ⟨#[c]⟩ tk2]) (.tup [x, .str ⟨#[c]⟩])) :=
      ⟨hT2, by show 2 ≤ sizeLine; decide, [v1, .str ⟨#[c]⟩ tk2], .cons ru (.cons ⟨tk2, rfl⟩ .nil), ⟨_, hT2, rfl, _, rfl⟩⟩
    have I1 : Inv X pins σ (upd H s.heap.objs.size (.frz (tupO [v1, .str ⟨#[c]⟩ tk2]) (.tup [x, .str ⟨#[c]⟩]))) { s with heap := h'', toks := tk } :=
      I.turnedNew (t' := tk) (ch := [N + 4, N + 2, N + 3, N, N + 1]) (fun b o hb q => (sb.2 b (fun q' => hb (by simp [q']))).trans (hk b o (fun q' => hb (by simp [q'])) (fun q' => hb (by simp [q'])) (fun q' => hb (by simp [q'])) (fun q' => hb (by simp [q'])) q)) hf (Nat.le_refl _) new
    obtain ⟨n42, n43, n40, n41, n23, n20, n21⟩ := n_ne N
    refine ⟨.ref s.heap.objs.size, _, I1, rfl, ⟨_, x, c, tupO [v1, .str ⟨#[c]⟩ tk2], rfl, I.hok.fresh (Nat.le_refl _), rfl, rfl, fun l hl => by rw [I.tuple_inj hl hq]; exact hx, hcz⟩, ⟨z'', ?_, ⟨v1, .str ⟨#[c]⟩ tk2, ?_⟩, ?_, ?_⟩, fun b hb => ?_⟩
    · exact (sb.2 _ n42).trans (hk _ _ n42 n23 n20 n21 hTI)
    · exact (sb.2 _ n43).trans TO'
    · exact s1'.1.at fun o q => (sb.2 _ n40).trans q
    · obtain ⟨o, ho, r⟩ := (show h'.IsStrIter (N + 1) (strIterType z) z t (i + 1) from s2')
      exact ⟨o, (sb.2 _ n41).trans ho, r⟩
    · have hlt : b < s.heap.objs.size := by
        simp only [List.mem_cons, List.not_mem_nil, or_false] at hb
        obtain ⟨q2, q3, q0, q1⟩ := n_lt N _ hzl
        rcases hb with e | e | e | e | e
        · rw [e]; exact hzl
        · rw [e]; exact q2
        · rw [e]; exact q3
        · rw [e]; exact q0
        · rw [e]; exact q1
      rw [upd_ne (Nat.ne_of_lt hlt)]
      exact (hf b hb).1
  done := by
    intro X hP hw hK hc i pins s σ H E I hf st hg
    subst hP hw hK
    obtain ⟨hz, hTI, ⟨x0, y0, hTO⟩, h1, h2⟩ := st
    obtain ⟨xs, hq, l1, l2, hend⟩ := hg
    obtain ⟨its, rv, p, _⟩ := I.tuple hq
    have S := zip_sep2 (N := N) (fp1 := [a]) (fp2 := []) (fun b hb => by rw [List.mem_singleton.mp hb]; exact ha) (fun b hb => by cases hb)
    have hne : a ≠ N := Nat.ne_of_lt ha
    have hh : X.A.in1.handled = none := I.ok.hd hc
    have hl : its.toArray.size = xs.length := by rw [List.size_toArray]; exact rv.length.symm
    exact wpAny_pyNext_zipD2_end S (Draws.tuple hh N a hne its.toArray) (Draws.text hh (N + 1) z t) hz hTI hTO ⟨h1, p⟩ h2 (by omega) l2 (by omega) fun h' tk hk => ⟨rfl, I.turnedL (t' := tk) (ch := [N + 4, N + 2, N + 3, N, N + 1]) (fun b o hb q =>
      hk b o (fun q' => hb (by simp [q'])) (fun q' => hb (by simp [q'])) (fun q' => hb (by simp [q'])) (fun q' => hb (by simp [q'])) q) hf⟩
  self := fun A i s Q E st h => wpAny_pyIter_zip st.1 h
def iZipS (K : PySem.W.Frag) (ta : TA) : TI := fun σ H R => ta σ H fun vs H1 => ∃ a xs z, vs = [.ref a, .str z] ∧ SqT K H1 a xs ∧ R (ItzS K a z) H1
theorem pi_zipS {X : Cx} {e e2 : Expr} {ta : TA} {p pos tpos : Pos} {elts : List Expr} {kk : Nat} (hg : Gl X "zip") (hm : X.mg "zip" = none) (ha : PA X [e, e2] ta)
    (hs : starEach [e, e2] X.env = (false, eval e X.env) :: starEach [e2] X.env := by rfl) (hpl : (backTo pos (starEach [e2] X.env)).any (·.1) = false := by rfl) :
    PI X (.Tuple elts kk tpos) (.Call (.Name "zip" p) [e, e2] [] pos) (iZipS X.K ta) := by
  refine ⟨fun pins s σ H R I h => ?_⟩
  refine Call_ (ld_blt I hg hm PyProof.Rows.boot_zip (PyProof.Rows.callWith_type1 (thn (ha.run pos pins s σ H _ I h) fun us s1 ⟨vs, H1, I1, r1, q1⟩ => ?_) hs hpl))
  obtain ⟨a, xs, z, rfl, hq, q⟩ := q1
  obtain ⟨u1, u2, rfl, r, r'⟩ := vals2 r1
  cases r
  obtain ⟨t, rfl⟩ := r'
  obtain ⟨its, rv, p1, _⟩ := I1.tuple hq
  have hal : a < s1.heap.objs.size := p1.lt
  refine zip_begins2 (begins_tuple a its.toArray) (begins_text z t) p1 trivial fun h' hz hTI hTO h1 h2 hsz hk => wpAny_pyIter_zip hz ?_
  have I2 : Inv X pins σ H1 { s1 with heap := h' } := I1.kept (t' := s1.toks) hk
  have fresh : ∀ b, b ∈ [s1.heap.objs.size + 4, s1.heap.objs.size + 2, s1.heap.objs.size + 3, s1.heap.objs.size, s1.heap.objs.size + 1] → FpOk X pins H1 b := fun b hb => by
    have hle : s1.heap.objs.size ≤ b := by
      simp only [List.mem_cons, List.not_mem_nil, or_false] at hb
      rcases hb with e | e | e | e | e
      all_goals (rw [e]; first | exact Nat.le_refl _ | exact Nat.le_add_right _ _)
    exact I1.fpOk hle (I1.hok.fresh hle)
  exact ⟨s1.heap.objs.size + 4, _, _, _, H1, rfl, I2, turn_zipS (t := t) hal, ⟨hz, hTI, ⟨_, _, hTO⟩, ⟨_, h1, rfl, rfl⟩, ⟨_, h2, rfl, rfl⟩⟩, fresh, q⟩
def zipS (ds : List D) (z : Str) : List D := (ds.zip z.cps.toList).map fun p => D.tup [p.1, .str ⟨#[p.2]⟩]
def aZipS (t : AAt) : AIt := fun δ m Q => t δ m fun ds m1 => ∃ es z, ds = [.tup es, .str z] ∧ Q (zipS es z) m1
theorem ai_zipTS {X : Cx} {e e2 : Expr} {t : AAt} {p pos tpos : Pos} {elts : List Expr} {kk : Nat} (hm : X.mg "zip" = none) (h : AA X [e, e2] t) (hg : Gl X "zip" := by rfl)
    (hs : starEach [e, e2] X.env = (false, eval e X.env) :: starEach [e2] X.env := by rfl) (hpl : (backTo pos (starEach [e2] X.env)).any (·.1) = false := by rfl) :
    AI X (.Tuple elts kk tpos) (.Call (.Name "zip" p) [e, e2] [] pos) (aZipS t) :=
  let ⟨_, pa, s⟩ := h.ex
  ⟨_, pi_zipS hg hm pa hs hpl, fun B δ m Q σ H W E h R k => s B δ m _ σ H W E h _ fun ds m1 vs H1 s1 W1 r ⟨es, z, e, q⟩ => by
    subst e
    obtain ⟨v1, v2, rfl, r1, r2⟩ := reps2 r
    obtain ⟨a, us, rfl, t, rs⟩ := rep_tup.mp r1
    cases rep_str.mp r2
    refine ⟨a, us, z, rfl, t.sq, k _ _ m1 H1 s1 W1 (fun B' hB i H' m' st W' => ?_) q⟩
    have t' := t.carry (st.carry2 hB)
    have r' := Reps.carry (st.carry2 hB) _ _ rs
    unfold zipS
    refine ⟨fun d hd => ?_, fun hi => ?_⟩
    · rw [List.getElem?_map] at hd
      cases e : (es.zip z.cps.toList)[i]? with
      | none => rw [e] at hd; cases hd
      | some pr =>
        rw [e] at hd
        cases hd
        obtain ⟨e1, e2⟩ := List.getElem?_zip_eq_some.mp e
        have e2' : z.cps[i]? = some pr.2 := by simpa using e2
        obtain ⟨v, hv, rv⟩ := r'.get i _ e1
        refine ⟨⟨us, v, pr.2, t'.sq, hv, e2'⟩, fun x H'' ⟨T, x1, c, ob, ex, hT, hdn, eH, hx1, hc⟩ => ?_⟩
        subst ex eH
        rw [e2'] at hc
        cases hc
        have := hx1 us t'.sq
        rw [hv] at this
        cases this
        have ⟨W2, nb⟩ := W'.new (o := .frz ob (.tup [v, .str ⟨#[pr.2]⟩])) hT
        exact ⟨Step.new hT, W2, rep_tup.mpr ⟨T, _, rfl, .inl ⟨ob, upd_same, hdn, nb⟩, Reps.carry (Step.new hT : Step H' m' _ m').carry _ _ (reps_cons.mpr ⟨v, _, rfl, rv, Reps.one (rep_str.mpr rfl)⟩)⟩⟩
    · rw [List.length_map, List.length_zip] at hi
      have hz : z.cps.toList.length = z.cps.size := Array.length_toList
      have hu := r'.len
      exact ⟨us, t'.sq, by omega, by omega, by omega⟩⟩
end L3
namespace L3
open PySem PySem.Spec PyProof.Rows L2
section
variable {X : Cx} {pos : Pos}
/-! ### d.get -/
section
variable {o e f : Expr} {to te tf : AEt} {apos : Pos}
def aDGet1 (to te : AEt) : AEt := fun δ m Q => to δ m fun x m1 => (∃ ds, dctOf m1 x = some ds) ∧ te δ m1 fun y m2 => ∃ ds k, dctOf m2 x = some ds ∧ keyD y = some k ∧ Q ((getK ds k).getD .non) m2
def aDGet2 (to te tf : AEt) : AEt := fun δ m Q => to δ m fun x m1 => (∃ ds, dctOf m1 x = some ds) ∧ te δ m1 fun y m2 => tf δ m2 fun z m3 => ∃ ds k, dctOf m3 x = some ds ∧ keyD y = some k ∧ Q ((getK ds k).getD z) m3
theorem getK_rep {K : PySem.W.Frag} {H : Hp} {N : Addr → Prop} {ds : List (Key × D)} {vs : List (Key × V)} (r : Repk K H N ds vs) (k : Key) {z : D} {u : V} (rz : Rep K H N z u) : Rep K H N ((getK ds k).getD z) ((valV vs k).getD u) := by
  rcases getK_val r k with ⟨h1, h2⟩ | ⟨d, v, h1, h2, h3⟩
  · rw [h1, h2]; exact rz
  · rw [h1, h2]; exact h3
theorem ae_dget1 (hu : X.A.units + 1 < cLine) (ho : AE X o to) (he : AE X e te) (h1 : attributeBase o "get" X.env (eval o X.env) = eval o X.env := by rfl)
    (h2 : ((backTo pos (starEach [e] X.env)).all (fun x => !x.1) && (backToKw pos (keywordEach [] X.env)).all (fun x => x.1.isSome) && decide (([e] : List Expr).length + ([] : List Keyword).length + (if ([] : List Keyword).isEmpty then 0 else 1) < 30)) = true := by rfl)
    (h3 : (apos.endLine == pos.line) = true := by rfl) (h4 : backTo pos (starEach [e] X.env) = [(false, eval e X.env)] := by rfl) : AE X (.Call (.Attribute o "get" apos) [e] [] pos) (aDGet1 to te) :=
  let ⟨_, po, so⟩ := ho.ex
  let ⟨_, pe, se⟩ := he.ex
  ⟨_, pe_dget1 hu po pe ⟨h1, h2, h3, h4⟩, fun B δ m Q σ H W E h Q' k => so B δ m _ σ H W E h _ fun x m1 v H1 s1 W1 r ⟨⟨ds, hd⟩, q⟩ => by
    obtain ⟨a, vs, rfl, ha, rs⟩ := dct_at W1 r hd
    refine ⟨a, rfl, .inl ⟨vs, ha⟩, se B δ m1 _ σ H1 W1 (E.carry s1.carry) q _ fun y m2 u H2 s2 W2 r2 ⟨ds2, key, hd2, hk, q2⟩ => ?_⟩
    obtain ⟨a2, vs2, ea, ha2, rs2⟩ := dct_at W2 (Rep.carry s2.carry _ _ r) hd2
    cases ea
    obtain rfl := keyD_v hk r2
    exact ⟨_, dget_rd ha2, (k.step (s1.trans s2)).now W2 (getK_rep rs2 key (rep_non.mpr rfl)) q2⟩⟩
theorem ae_dget2 (hu : X.A.units + 1 < cLine) (ho : AE X o to) (he : AE X e te) (hf : AE X f tf) (h1 : attributeBase o "get" X.env (eval o X.env) = eval o X.env := by rfl)
    (h2 : ((backTo pos (starEach [e, f] X.env)).all (fun x => !x.1) && (backToKw pos (keywordEach [] X.env)).all (fun x => x.1.isSome) && decide (([e, f] : List Expr).length + ([] : List Keyword).length + (if ([] : List Keyword).isEmpty then 0 else 1) < 30)) = true := by rfl)
    (h3 : (apos.endLine == pos.line) = true := by rfl) (h4 : backTo pos (starEach [e, f] X.env) = [(false, eval e X.env), (false, eval f X.env)] := by rfl) : AE X (.Call (.Attribute o "get" apos) [e, f] [] pos) (aDGet2 to te tf) :=
  let ⟨_, po, so⟩ := ho.ex
  let ⟨_, pe, se⟩ := he.ex
  let ⟨_, pf, sf⟩ := hf.ex
  ⟨_, pe_dget2 hu po pe pf ⟨h1, h2, h3, h4⟩, fun B δ m Q σ H W E h Q' k => so B δ m _ σ H W E h _ fun x m1 v H1 s1 W1 r ⟨⟨ds, hd⟩, q⟩ => by
    obtain ⟨a, vs, rfl, ha, rs⟩ := dct_at W1 r hd
    refine ⟨a, rfl, .inl ⟨vs, ha⟩, se B δ m1 _ σ H1 W1 (E.carry s1.carry) q _ fun y m2 u H2 s2 W2 r2 q => sf B δ m2 _ σ H2 W2 (E.carry (s1.trans s2).carry) q _ fun z m3 u3 H3 s3 W3 r3 ⟨ds2, key, hd2, hk, q2⟩ => ?_⟩
    obtain ⟨a2, vs2, ea, ha2, rs2⟩ := dct_at W3 (Rep.carry (s2.trans s3).carry _ _ r) hd2
    cases ea
    obtain rfl := keyD_v hk (Rep.carry s3.carry _ _ r2)
    exact ⟨_, dget_rd ha2, (k.step ((s1.trans s2).trans s3)).now W3 (getK_rep rs2 key r3) q2⟩⟩
/-- .. of a table of the module -/
theorem kd_find {K : PySem.W.Frag} {w : World} {mg : Str → Option Value} {x : Str} {kvs : List (Str × D)} (T : KTab K w mg x kvs) : ∃ d es n, mg x = some (.ref d) ∧ KDict K w d es n ∧
    ∀ z, ∃ r, PySem.W.nsIn K d z = some r ∧ ((getS kvs z = none ∧ r = none) ∨ ∃ u v e, getS kvs z = some e ∧ r = some u ∧ RelV v u ∧ ∀ H N, Rep K H N e v) := by
  obtain ⟨d, es, n, hm, D, val⟩ := T.ex
  refine ⟨d, es, n, hm, D, fun z => ?_⟩
  have hv := val z
  unfold getS
  cases e : (kvs.find? fun p => decide (p.1 = z)).map (·.2) with
  | none => rw [e] at hv; exact ⟨none, hv, .inl ⟨rfl, rfl⟩⟩
  | some d' =>
    rw [e] at hv
    obtain ⟨u, v, h1, h2, h3⟩ := hv
    exact ⟨some u, h1, .inr ⟨u, v, d', rfl, rfl, h2, h3⟩⟩
def aKGet1 (kvs : List (Str × D)) (te : AEt) : AEt := fun δ m Q => te δ m fun y m1 => ∃ z, y = .str z ∧ Q ((getS kvs z).getD .non) m1
def aKGet2 (kvs : List (Str × D)) (te tf : AEt) : AEt := fun δ m Q => te δ m fun y m1 => tf δ m1 fun f m2 => ∃ z, y = .str z ∧ Q ((getS kvs z).getD f) m2
theorem ae_kget1 {x : Str} {kvs : List (Str × D)} {p : Pos} (hu : X.A.units + 1 < cLine) (T : KTab X.K X.w X.mg x kvs) (he : AE X e te) (hg : Gl X x := by rfl) (hd : (x == ("__debug__" : Str)) = false := by decide)
    (h1 : attributeBase (.Name x p) "get" X.env (eval (.Name x p) X.env) = eval (.Name x p) X.env := by rfl)
    (h2 : ((backTo pos (starEach [e] X.env)).all (fun x => !x.1) && (backToKw pos (keywordEach [] X.env)).all (fun x => x.1.isSome) && decide (([e] : List Expr).length + ([] : List Keyword).length + (if ([] : List Keyword).isEmpty then 0 else 1) < 30)) = true := by rfl)
    (h3 : (apos.endLine == pos.line) = true := by rfl) (h4 : backTo pos (starEach [e] X.env) = [(false, eval e X.env)] := by rfl) : AE X (.Call (.Attribute (.Name x p) "get" apos) [e] [] pos) (aKGet1 kvs te) := by
  obtain ⟨d, es, n, hm, D, find⟩ := kd_find T
  obtain ⟨t, pe, se⟩ := he.ex
  refine ⟨fun σ H Q' => t σ H fun y H1 => ∃ z r v, y = .str z ∧ PySem.W.nsIn X.K d z = some r ∧ RelV v (r.getD .none) ∧ Q' v H1, ⟨fun pins s σ H Q' I h => ?_⟩, fun B δ m Q σ H W E h Q' k => ?_⟩
  · refine wpAny_Call_method h1 h2 h3 PySem.F.plainAttrs_dict PySem.F.slot_dict_get PySem.F.type_dict_get (thn ((pe_glob (v := .ref d) (pos := p) hg hm rfl hd).run pins s σ H (fun v H' => v = .ref d ∧ t σ H' fun y H1 => ∃ z r v, y = .str z ∧ PySem.W.nsIn X.K d z = some r ∧ RelV v (r.getD .none) ∧ Q' v H1) I ⟨rfl, h⟩) fun u s1 ⟨v, H1, I1, rv, ev, q⟩ => ?_)
    subst ev
    cases rv
    have mp := PySem.W.mapOf_K (prog := X.prog) (w := X.w) I1.kIn D.at_ D.lit
    refine ⟨mp.typeIs, mp.noDict, ?_⟩
    rw [h4]
    refine Calls.callWith_builtin rfl (Calls.evalArgs_plain (Calls.spliced_cons (thn (pe.run pins s1 σ H1 _ I1 q) fun u s2 ⟨y, H2, I2, r2, z, r, v, ey, hz, rv, q2⟩ => Calls.spliced_nil ?_)))
    subst ey
    obtain ⟨tk, rfl⟩ := r2
    have mp2 := PySem.W.mapOf_K (prog := X.prog) (w := X.w) I2.kIn D.at_ D.lit
    refine call_meetsIn PySem.F.slot_dict_get mp2.typeIs PySem.F.entry_dict_get (PySem.F.args_dict_get_2 _ _) (meets_dict_get (PySem.strKind X.prog X.w) d (PySem.strKind_is X.prog X.w z tk) D.low) ⟨_, mp2, ?_⟩
    rw [PySem.W.find_K D.at_ hz]
    exact ⟨v, H2, I2.tok _, rv, q2⟩
  · refine se B δ m _ σ H W E h _ fun y m1 v H1 s1 W1 r ⟨z, ey, q⟩ => ?_
    subst ey
    cases rep_str.mp r
    obtain ⟨r, hz, c⟩ := find z
    rcases c with ⟨h1, h2⟩ | ⟨u, v, e, h1, h2, h3, h4⟩
    · subst h2
      rw [h1] at q
      exact ⟨z, none, .non, rfl, hz, rfl, (k.step s1).now W1 (rep_non.mpr rfl) q⟩
    · subst h2
      rw [h1] at q
      exact ⟨z, some u, v, rfl, hz, h3, (k.step s1).now W1 (h4 _ _) q⟩
theorem ae_kget2 {x : Str} {kvs : List (Str × D)} {p : Pos} (hu : X.A.units + 1 < cLine) (T : KTab X.K X.w X.mg x kvs) (he : AE X e te) (hf : AE X f tf) (hg : Gl X x := by rfl) (hd : (x == ("__debug__" : Str)) = false := by decide)
    (h1 : attributeBase (.Name x p) "get" X.env (eval (.Name x p) X.env) = eval (.Name x p) X.env := by rfl)
    (h2 : ((backTo pos (starEach [e, f] X.env)).all (fun x => !x.1) && (backToKw pos (keywordEach [] X.env)).all (fun x => x.1.isSome) && decide (([e, f] : List Expr).length + ([] : List Keyword).length + (if ([] : List Keyword).isEmpty then 0 else 1) < 30)) = true := by rfl)
    (h3 : (apos.endLine == pos.line) = true := by rfl) (h4 : backTo pos (starEach [e, f] X.env) = [(false, eval e X.env), (false, eval f X.env)] := by rfl) : AE X (.Call (.Attribute (.Name x p) "get" apos) [e, f] [] pos) (aKGet2 kvs te tf) := by
  obtain ⟨d, es, n, hm, D, find⟩ := kd_find T
  obtain ⟨t, pe, se⟩ := he.ex
  obtain ⟨t', pf, sf⟩ := hf.ex
  refine ⟨fun σ H Q' => t σ H fun y H1 => t' σ H1 fun f H2 => ∃ z r, y = .str z ∧ PySem.W.nsIn X.K d z = some r ∧ (r = none → Q' f H2) ∧ (∀ u, r = some u → ∃ v, RelV v u ∧ Q' v H2), ⟨fun pins s σ H Q' I h => ?_⟩, fun B δ m Q σ H W E h Q' k => ?_⟩
  · refine wpAny_Call_method h1 h2 h3 PySem.F.plainAttrs_dict PySem.F.slot_dict_get PySem.F.type_dict_get (thn ((pe_glob (v := .ref d) (pos := p) hg hm rfl hd).run pins s σ H (fun v H' => v = .ref d ∧ t σ H' fun y H1 => t' σ H1 fun f H2 => ∃ z r, y = .str z ∧ PySem.W.nsIn X.K d z = some r ∧ (r = none → Q' f H2) ∧ (∀ u, r = some u → ∃ v, RelV v u ∧ Q' v H2)) I ⟨rfl, h⟩) fun u s1 ⟨v, H1, I1, rv, ev, q⟩ => ?_)
    subst ev
    cases rv
    have mp := PySem.W.mapOf_K (prog := X.prog) (w := X.w) I1.kIn D.at_ D.lit
    refine ⟨mp.typeIs, mp.noDict, ?_⟩
    rw [h4]
    refine Calls.callWith_builtin rfl (Calls.evalArgs_plain (Calls.spliced_cons (thn (pe.run pins s1 σ H1 _ I1 q) fun u s2 ⟨y, H2, I2, r2, q2⟩ => Calls.spliced_cons (thn (pf.run pins s2 σ H2 _ I2 q2) fun u3 s3 ⟨fv, H3, I3, r3, z, r, ey, hz, q3, q4⟩ => Calls.spliced_nil ?_))))
    subst ey
    obtain ⟨tk, rfl⟩ := r2
    have mp2 := PySem.W.mapOf_K (prog := X.prog) (w := X.w) I3.kIn D.at_ D.lit
    refine call_meetsIn PySem.F.slot_dict_get mp2.typeIs PySem.F.entry_dict_get (PySem.F.args_dict_get_3 _ _ _) (meets_dict_get_default (PySem.strKind X.prog X.w) d (PySem.strKind_is X.prog X.w z tk) D.low u3) ⟨_, mp2, ?_⟩
    rw [PySem.W.find_K D.at_ hz]
    cases r with
    | none => exact ⟨fv, H3, I3.tok _, r3, q3 rfl⟩
    | some u => obtain ⟨v, h5, h6⟩ := q4 u rfl; exact ⟨v, H3, I3.tok _, h5, h6⟩
  · refine se B δ m _ σ H W E h _ fun y m1 v H1 s1 W1 r q0 => sf B δ m1 _ σ H1 W1 (E.carry s1.carry) q0 _ fun f m2 u H2 s2 W2 r2 ⟨z, ey, q⟩ => ?_
    subst ey
    cases rep_str.mp r
    obtain ⟨r, hz, c⟩ := find z
    have k2 := k.step (s1.trans s2)
    refine ⟨z, r, rfl, hz, fun e => ?_, fun u' e => ?_⟩
    · rcases c with ⟨h1, _⟩ | ⟨u, v, e', _, h2, _⟩
      · rw [h1] at q; exact k2.now W2 r2 q
      · rw [h2] at e; cases e
    · rcases c with ⟨_, h2⟩ | ⟨u, v, e', h1, h2, h3, h4⟩
      · rw [h2] at e; cases e
      · rw [h2] at e
        cases e
        rw [h1] at q
        exact ⟨v, h3, k2.now W2 (h4 _ _) q⟩
end
/-! ### a <= b <= c -/
theorem ae_chain {op op' : CmpOp} {ρ ρ' : Rho2} {a b c : Expr} {ta tb tc : AEt} (ho : OpR X (compareOp op) (rOf X.K ρ)) (ho' : OpR X (compareOp op') (rOf X.K ρ')) (ha : AE X a ta) (hb : AE X b tb) (hc : AE X c tc) (hm : lastMarks [op, op'] [b, c] = false := by with_unfolding_all rfl) :
    AE X (.Compare a [op, op'] [b, c] pos) (aChain ρ ρ' ta tb tc) :=
  let ⟨_, pa, sa⟩ := ha.ex
  let ⟨_, pb, sb⟩ := hb.ex
  let ⟨_, pc, sc⟩ := hc.ex
  ⟨_, pe_chain ho ho' pa pb pc hm, fun B δ m Q σ H W E h Q' k => sa B δ m _ σ H W E h _ fun x m1 v H1 s1 W1 r1 q1 => sb B δ m1 _ σ H1 W1 (E.carry s1.carry) q1 _ fun y m2 u H2 s2 W2 r2 q2 =>
    ⟨B, m2, x, y, _, W2, Rep.carry s2.carry _ _ r1, r2, q2, fun z m3 t H3 s3 W3 r3 ⟨c, e, q3⟩ => by
      subst e
      refine ⟨c, rep_bl.mp r3, ?_⟩
      have s123 := (s1.trans s2).trans s3
      cases c with
      | true => exact sc B δ m3 _ σ H3 W3 (E.carry s123.carry) q3 _ fun w m4 t4 H4 s4 W4 r4 q4 => ⟨B, m4, y, w, Q, W4, Rep.carry (s3.trans s4).carry _ _ r2, r4, q4, k.step (s123.trans s4)⟩
      | false => exact (k.step s123).now W3 (rep_bl.mpr rfl) q3⟩⟩
end
end L3
namespace L3
open PySem PySem.Spec PyProof.Rows L2
section
variable {X : Cx} {pos : Pos}
/-! ### sorted(set(xs)) of texts -/
theorem sset64 {xs : List Str} (h : xs.length < 64) : xs.length < 4000 ∧ (putAllS xs []).length < 64 := ⟨by omega, Nat.lt_of_le_of_lt (by simpa using putAllS_len xs []) h⟩
theorem scan64 {n : Nat} (h : n < 64) : n + 1 < scanBound := by
  have : (64 : Nat) < scanBound := by decide
  omega
def strD (xs : List Str) : List D := xs.map D.str
theorem vals_strD {K : PySem.W.Frag} {H : Hp} {N : Addr → Prop} : ∀ {xs : List Str} {vs : List V}, Reps K H N (strD xs) vs → vs = xs.map V.str
  | [], _, r => by rw [reps_nil.mp r]; rfl
  | x :: xs, _, r => by
    obtain ⟨v, ws, rfl, r1, r2⟩ := reps_cons.mp r
    rw [rep_str.mp r1, vals_strD r2]; rfl
theorem reps_strD {K : PySem.W.Frag} {H : Hp} {N : Addr → Prop} : ∀ {xs : List Str}, Reps K H N (strD xs) (xs.map V.str)
  | [] => reps_nil.mpr rfl
  | x :: xs => reps_cons.mpr ⟨_, _, rfl, rep_str.mpr rfl, reps_strD⟩
theorem strs_vals : ∀ {xs : List Str} {us : List Value}, Vals (xs.map V.str) us → StrsAre us xs
  | [], _, .nil => .nil
  | x :: xs, _, .cons r t => by
    obtain ⟨k, rfl⟩ := r
    exact .cons x k (strs_vals t)
theorem vals_strs : ∀ {us : List Value} {xs : List Str}, StrsAre us xs → Vals (xs.map V.str) us
  | _, _, .nil => .nil
  | _, _, .cons x t r => .cons ⟨t, rfl⟩ (vals_strs r)
def aSset (t : AEt) : AEt := fun δ m Q => t δ m fun d m1 => ∃ xs : List Str, lstOf m1 d = some (strD xs) ∧ (xs.length < 4000 ∧ (putAllS xs []).length < 64) ∧ ∀ ys, ys.Perm (putAllS xs []) → sortedS ys = true → Q (.lst (strD ys)) m1
def tSset (K : PySem.W.Frag) (ta : TE) : TE := fun σ H Q => ta σ H fun x H1 => ∃ (l : Addr) (xs : List Str), x = .ref l ∧ H1 l = some (.lst (xs.map V.str)) ∧ (xs.length < 4000 ∧ (putAllS xs []).length < 64) ∧ ∀ (ys : List Str) (p : Addr), ys.Perm (putAllS xs []) → sortedS ys = true → H1 p = none → Q (.ref p) (upd H1 p (.lst (ys.map V.str)))
theorem pe_sset {a : Expr} {ta : TE} {p p2 q : Pos} (hc : X.calm = true) (hg : Gl X "sorted") (hm : X.mg "sorted" = none) (hg2 : Gl X "set") (hm2 : X.mg "set" = none) (ha : PE X a ta)
    (na : starEach [a] X.env = (false, eval a X.env) :: starEach [] X.env := by rfl) : PE X (.Call (.Name "sorted" p) [.Call (.Name "set" p2) [a] [] q] [] pos) (tSset X.K ta) := by
  refine ⟨fun pins s σ H Q I h => ?_⟩
  refine Call_ (ld_blt I hg hm boot_sorted ?_)
  refine PyProof.Rows.callWith_builtin1 (PyProof.Rows.args_cons ?_ rfl) rfl rfl
  refine Call_ (ld_blt I hg2 hm2 boot_set ?_)
  refine PyProof.Rows.callWith_type1 (PyProof.Rows.args_cons (thn (ha.run pins s σ H _ I h) fun v s1 ⟨x, H1, I1, r1, q1⟩ => PyProof.Rows.args_nil ?_) na) na rfl
  obtain ⟨l, xs, rfl, hl, h64, q1⟩ := q1
  cases r1
  obtain ⟨its, r, pl, hz⟩ := I1.list (SqL.of hl : SqL X.K H1 l _)
  have hll : (putAllS xs []).length < 64 := h64.2
  have hsc : xs.length + 1 < scanBound := Nat.lt_of_lt_of_le (Nat.succ_lt_succ h64.1) (by decide)
  refine call_set_list xs (I1.ok.hd hc) pl.isList (by simpa using strs_vals r) hsc fun g tk hS hk => ?_
  have I2 : L2.Inv X pins σ H1 { s1 with heap := g, toks := tk } := I1.kept hk
  refine PyProof.Rows.args_nil ?_
  refine sorted_setS hS (I2.ok.hd hc) hll fun s' p out c ys k hgen ho hp hg' hi hs hm => ?_
  have hlen : (ys.map V.str).length ≤ sizeLine := by rw [List.length_map, hs.length_eq, sizeLine_eq]; omega
  have hn : H1 p = none := I2.hok.fresh hp
  refine ⟨.ref p, upd H1 p (.lst (ys.map V.str)), ?_, rfl, q1 ys p hs hm hn⟩
  exact I2.call' (ch := []) ho (Un.laid k hp hn) (I2.hok.laid k hp ⟨hlen, out.toList, c, vals_strs hi, hg'⟩) (by rw [hgen]; exact I2.bare) (fun _ z => nomatch z)
theorem ae_sset {a : Expr} {t : AEt} {p p2 q : Pos} (hm : X.mg "sorted" = none) (hm2 : X.mg "set" = none) (h : AE X a t) (hc : X.calm = true := by rfl) (hg : Gl X "sorted" := by rfl) (hg2 : Gl X "set" := by rfl)
    (na : starEach [a] X.env = (false, eval a X.env) :: starEach [] X.env := by rfl) : AE X (.Call (.Name "sorted" p) [.Call (.Name "set" p2) [a] [] q] [] pos) (aSset t) :=
  let ⟨_, pa, s⟩ := h.ex
  ⟨_, pe_sset hc hg hm hg2 hm2 pa na, fun B δ m Q σ H W E h Q' k => s B δ m _ σ H W E h _ fun d m1 v H1 s1 W1 r ⟨xs, hx, h64, q⟩ => by
    obtain ⟨l, vs, rfl, hl, rs⟩ := lst_at W1 r hx
    obtain rfl := vals_strD rs
    exact ⟨l, xs, rfl, hl, h64, fun ys p h1 h2 hp => (k.step s1).lst W1 reps_strD (q ys h1 h2) hp⟩⟩
/-! ### sorted of a list of texts, of a dict -/
def rcSorted : SpD := fun ds m Q => ∃ x xs, ds = [x] ∧ (lstOf m x = some (strD xs) ∨ ∃ kvs, dctOf m x = some kvs ∧ kvs.map (·.1) = xs.map Sum.inr) ∧ xs.length < 64 ∧ ∀ ys, ys.Perm xs → sortedS ys = true → Q (.lst (strD ys)) m
theorem repk_keys {K : PySem.W.Frag} {H : Hp} {N : Addr → Prop} : ∀ {ds : List (Key × D)} {vs : List (Key × V)}, Repk K H N ds vs → vs.map (·.1) = ds.map (·.1)
  | [], _, h => by simp only [Repk] at h; subst h; rfl
  | (j, d) :: ds, _, h => by
    simp only [Repk] at h
    obtain ⟨v, ws, rfl, r, rs⟩ := h
    rw [List.map_cons, List.map_cons, repk_keys rs]
theorem cr_sorted (hc : X.calm = true := by rfl) : CallR X (.builtin "sorted") (rcOf X.K rcSorted) := by
  intro pins s σ H xs us Q' I r h
  obtain ⟨B, m, ds, Q, W, rs, ⟨x, xs, rfl, h, h64, q⟩, k⟩ := h
  obtain ⟨v, rfl, r1⟩ := reps1 rs
  rcases h with h | ⟨kvs, h, hk⟩
  · obtain ⟨l, vs, rfl, hl, rz⟩ := lst_at W r1 h
    obtain rfl := vals_strD rz
    exact cr_sortedS pins s σ H _ us Q' I r ⟨l, xs, rfl, SqL.of hl, h64, fun ys p h1 h2 hp => k.lst W reps_strD (q ys h1 h2) hp⟩
  · obtain ⟨l, vs, rfl, hl, rz⟩ := dct_at W r1 h
    exact call_sortedD hc pins s σ H _ us Q' I r ⟨l, vs, xs, rfl, hl, by rw [repk_keys rz]; exact hk, h64, fun ys p h1 h2 hp => k.lst W reps_strD (q ys h1 h2) hp⟩
/-! ### dict of pairs -/
/-- later ones win, in the place of the first -/
def putD (kvs : List (Key × D)) (k : Key) (d : D) : List (Key × D) := if (kvs.any fun p => decide (p.1 = k)) = true then kvs.map (fun p => if p.1 = k then (p.1, d) else p) else kvs ++ [(k, d)]
def mergeD (kvs more : List (Key × D)) : List (Key × D) := more.foldl (fun acc p => putD acc p.1 p.2) kvs
theorem repk_any {K : PySem.W.Frag} {H : Hp} {N : Addr → Prop} (k : Key) {ds : List (Key × D)} {vs : List (Key × V)} (r : Repk K H N ds vs) : (vs.any fun p => decide (p.1 = k)) = (ds.any fun p => decide (p.1 = k)) := by
  have h := repk_keys r
  have e1 : ∀ {α : Type} (l : List (Key × α)), (l.any fun p => decide (p.1 = k)) = (l.map (·.1)).any fun j => decide (j = k) := fun l => by rw [List.any_map]; rfl
  rw [e1, e1, h]
section
variable {K : PySem.W.Frag} {H : Hp} {N : Addr → Prop}
theorem repk_nil {vs : List (Key × V)} : Repk K H N [] vs ↔ vs = [] := by simp only [Repk]
theorem repk_cons {k : Key} {d : D} {ds : List (Key × D)} {vs : List (Key × V)} : Repk K H N ((k, d) :: ds) vs ↔ ∃ v ws, vs = (k, v) :: ws ∧ Rep K H N d v ∧ Repk K H N ds ws := by simp only [Repk]
theorem repk_map (k : Key) {d : D} {v : V} (rd : Rep K H N d v) : ∀ {ds : List (Key × D)} {vs : List (Key × V)}, Repk K H N ds vs → Repk K H N (ds.map fun p => if p.1 = k then (p.1, d) else p) (vs.map fun p => if p.1 = k then (p.1, v) else p)
  | [], _, h => by rw [repk_nil.mp h]; exact repk_nil.mpr rfl
  | (j, e) :: ds, _, h => by
    obtain ⟨w, ws, rfl, r, rs⟩ := repk_cons.mp h
    rw [List.map_cons, List.map_cons]
    by_cases q : j = k
    · simp only [q, if_true]
      exact repk_cons.mpr ⟨v, _, rfl, rd, repk_map k rd rs⟩
    · simp only [q, if_false]
      exact repk_cons.mpr ⟨w, _, rfl, r, repk_map k rd rs⟩
theorem repk_app : ∀ {ds es : List (Key × D)} {vs ws : List (Key × V)}, Repk K H N ds vs → Repk K H N es ws → Repk K H N (ds ++ es) (vs ++ ws)
  | [], _, _, _, a, b => by rw [repk_nil.mp a]; exact b
  | (k, d) :: ds, _, _, _, a, b => by
    obtain ⟨v, us, rfl, r, rs⟩ := repk_cons.mp a
    exact repk_cons.mpr ⟨v, us ++ _, rfl, r, repk_app rs b⟩
theorem repk_put {ds : List (Key × D)} {vs : List (Key × V)} (r : Repk K H N ds vs) (k : Key) {d : D} {v : V} (rd : Rep K H N d v) : Repk K H N (putD ds k d) (putK vs k v) := by
  unfold putD putK
  rw [repk_any k r]
  by_cases h : (ds.any fun p => decide (p.1 = k)) = true
  · rw [if_pos h, if_pos h]; exact repk_map k rd r
  · rw [if_neg h, if_neg h]; exact repk_app r (repk_cons.mpr ⟨v, [], rfl, rd, repk_nil.mpr rfl⟩)
theorem repk_merge : ∀ {more : List (Key × D)} {mv : List (Key × V)}, Repk K H N more mv → ∀ {ds : List (Key × D)} {vs : List (Key × V)}, Repk K H N ds vs → Repk K H N (mergeD ds more) (mergeK vs mv)
  | [], _, a, _, _, b => by rw [repk_nil.mp a]; exact b
  | (k, d) :: more, _, a, _, _, b => by
    obtain ⟨v, us, rfl, r, rs⟩ := repk_cons.mp a
    exact repk_merge rs (repk_put b k r)
end
/-- pairs: tuples of a key and what it has -/
def pairD (p : Key × D) : D := .tup [match p.1 with | .inl i => .int i | .inr x => .str x, p.2]
theorem rep_key {K : PySem.W.Frag} {H : Hp} {N : Addr → Prop} {k : Key} {v : V} (r : Rep K H N (match k with | .inl i => D.int i | .inr x => D.str x) v) : v = kV k := by
  cases k with
  | inl i => exact rep_int.mp r
  | inr x => exact rep_str.mp r
theorem pairs_D {K : PySem.W.Frag} {H : Hp} {N : Addr → Prop} : ∀ {ps : List (Key × D)} {vs : List V}, Reps K H N (ps.map pairD) vs → ∃ as kvs, vs = as.map V.ref ∧ Repk K H N ps kvs ∧ Paired (fun p kv => SqT K H p [kV kv.1, kv.2]) as kvs
  | [], _, r => by rw [List.map_nil] at r; rw [reps_nil.mp r]; exact ⟨[], [], rfl, repk_nil.mpr rfl, .nil⟩
  | (k, d) :: ps, _, r => by
    rw [List.map_cons] at r
    obtain ⟨v, ws, rfl, r1, r2⟩ := reps_cons.mp r
    obtain ⟨as, kvs, rfl, r3, r4⟩ := pairs_D r2
    obtain ⟨a, us, rfl, t, rs⟩ := rep_tup.mp r1
    obtain ⟨x, y, rfl, rk, rd⟩ := reps2 rs
    obtain rfl := rep_key rk
    exact ⟨a :: as, (k, y) :: kvs, rfl, repk_cons.mpr ⟨y, kvs, rfl, rd, r3⟩, .cons t.sq r4⟩
def rcDict : SpD := fun ds m Q => ∃ x ps, ds = [x] ∧ lstOf m x = some (ps.map pairD) ∧ Q (.dct (mergeD [] ps)) m
theorem cr_dict (hc : X.calm = true := by rfl) : CallR X (.type "dict") (rcOf X.K rcDict) := by
  intro pins s σ H xs us Q' I r h
  obtain ⟨B, m, ds, Q, W, rs, ⟨x, ps, rfl, h, q⟩, k⟩ := h
  obtain ⟨v, rfl, r1⟩ := reps1 rs
  obtain ⟨l, vs, rfl, hl, rz⟩ := lst_at W r1 h
  obtain ⟨as, kvs, rfl, r3, r4⟩ := pairs_D rz
  exact call_dictP hc pins s σ H _ us Q' I r ⟨l, as, kvs, rfl, SqL.of hl, r4, fun p hp => k.dct W (repk_merge r3 (repk_nil.mpr rfl)) q hp⟩
/-! ### sum of ints, int of a truth -/
def rcSum : SpD := fun ds m Q => ∃ (x : D) (ns : List Int), ds = [x] ∧ lstOf m x = some (ns.map D.int) ∧ Q (.int ns.sum) m
theorem vals_intD {K : PySem.W.Frag} {H : Hp} {N : Addr → Prop} : ∀ {xs : List Int} {vs : List V}, Reps K H N (xs.map D.int) vs → vs = xs.map V.int
  | [], _, r => by rw [List.map_nil] at r; rw [reps_nil.mp r]; rfl
  | x :: xs, _, r => by
    rw [List.map_cons] at r
    obtain ⟨v, ws, rfl, r1, r2⟩ := reps_cons.mp r
    rw [rep_int.mp r1, vals_intD r2]; rfl
theorem cr_sum3 (hc : X.calm = true := by rfl) : CallR X (.builtin "sum") (rcOf X.K rcSum) := by
  intro pins s σ H xs us Q' I r h
  obtain ⟨B, m, ds, Q, W, rs, ⟨x, ns, rfl, h, q⟩, k⟩ := h
  obtain ⟨v, rfl, r1⟩ := reps1 rs
  obtain ⟨l, vs, rfl, hl, rz⟩ := lst_at W r1 h
  obtain rfl := vals_intD rz
  exact cr_sum hc pins s σ H _ us Q' I r ⟨l, ns, rfl, SqL.of hl, k.now W (rep_int.mpr rfl) q⟩
def rcInt : SpD := fun ds m Q => ∃ x, ds = [x] ∧ match x with
  | .int i => Q (.int i) m
  | .bl b => Q (.int (if b then 1 else 0)) m
  | _ => False
theorem cr_int : CallR X (.type "int") (rcOf X.K rcInt) := by
  intro pins s σ H xs us Q' I r h
  obtain ⟨B, m, ds, Q, W, rs, ⟨x, rfl, h⟩, k⟩ := h
  obtain ⟨v, rfl, r1⟩ := reps1 rs
  split at h
  · cases rep_int.mp r1
    exact call_int1 pins s σ H _ us Q' I r (.inl ⟨_, rfl, k.now W (rep_int.mpr rfl) h⟩)
  · cases rep_bl.mp r1
    exact call_int1 pins s σ H _ us Q' I r (.inr ⟨_, rfl, k.now W (rep_int.mpr rfl) h⟩)
  · exact h.elim
end
end L3
namespace L3
open PySem PySem.Spec PyProof.Rows L2
section
variable {X : Cx} {pos : Pos}
theorem pairs2 {pins : List (Addr × Obj)} {σ : L2.St} {H : Hp} {s : Shared} (I : Inv X pins σ H s) : ∀ {as : List Addr} {kvs : List (Key × V)}, Paired (fun p kv => SqT X.K H p [kV kv.1, kv.2]) as kvs →
    ∃ (ps : List (Value × Value)) (rs : List (Key × Value)), KV kvs rs ∧ ps.length = as.length ∧ rs.length = as.length ∧
      ∀ (j : Nat) (k v : Value), ps[j]? = some (k, v) → (∃ b, as[j]? = some b ∧ s.heap.IsTuple b #[k, v]) ∧ ∃ key, rs[j]? = some (key, v) ∧ keyIs key k = true
  | _, _, .nil => ⟨[], [], .nil, rfl, rfl, fun j k v e => by simp at e⟩
  | _, _, .cons (a := p) (b := kv) h t => by
    obtain ⟨ps, rs, r, l1, l2, hj⟩ := pairs2 I t
    obtain ⟨its, rv, ht, _⟩ := I.tuple h
    obtain ⟨u, y, rfl, ru, ry⟩ := vals2 rv
    refine ⟨(u, y) :: ps, (kv.1, y) :: rs, .cons ⟨rfl, ry⟩ r, by rw [List.length_cons, List.length_cons, l1], by rw [List.length_cons, List.length_cons, l2], fun j k v e => ?_⟩
    cases j with
    | zero =>
      have e' : (u, y) = (k, v) := Option.some.inj e
      cases e'
      exact ⟨⟨p, rfl, ht⟩, kv.1, rfl, kV_is (P := X.prog) (w := X.w) ru⟩
    | succ j => simpa using hj j k v (by simpa using e)
theorem call_dictTup {pins : List (Addr × Obj)} {σ : L2.St} {H : Hp} {s : Shared} {Q : VK} {a : Addr} {o : Obj} {as : List Addr} {kvs : List (Key × V)} (I : Inv X pins σ H s) (hc : X.calm = true) (ht : s.heap.get? a = some o) (hd : o.dict = none) (hcl : o.cls = .type "tuple")
    {its : List Value} {n : Nat} (hdat : o.data = .seq its.toArray n) (rv : Vals (as.map V.ref) its) (hz : as.length ≤ sizeLine) (hp : Paired (fun p kv => SqT X.K H p [kV kv.1, kv.2]) as kvs)
    (q : ∀ p, H p = none → Q (.ref p) (upd H p (.dK (mergeK [] kvs)))) : wpAny (model X.prog X.w) X.A (call (.type "dict") [.ref a]) (EP X pins σ Q) X.xe s := by
  obtain ⟨ps, rs, rel, l1, l2, hj⟩ := pairs2 I hp
  obtain rfl := refs_at rv
  refine PySem.call_dict_pairs (knd := mixKind X.prog X.w) (kvs := rs) (PairArg.tuple a (as.map Value.ref).toArray (fun j => as.getD j 0) ps) (I.ok.hd hc) ⟨⟨o, n, ht, hcl, hd, hdat⟩, by simp [l1], fun j k v e => ?_⟩ ⟨by rw [l1, l2], fun i k v e => ?_⟩ (by rw [l1]; exact hz) fun g tk hd' kp => ?_
  · obtain ⟨⟨b, e1, e2⟩, _⟩ := hj j k v e
    have e3 : as.getD j 0 = b := by rw [List.getD_eq_getElem?_getD, e1]; rfl
    refine ⟨?_, .inl (show s.heap.IsTuple (as.getD j 0) #[k, v] by rw [e3]; exact e2)⟩
    show (as.map Value.ref).toArray[j]? = some (Value.ref (as.getD j 0))
    rw [e3]
    simp [e1]
  · have e' : ps[i]? = some (k, v) := e
    obtain ⟨_, key, e1, e2⟩ := hj i k v e'
    exact ⟨key, e1, e2⟩
  · have hm : (s.heap.objs.size == sysModules) = false := beq_eq_false_iff_ne.mpr (Nat.ne_of_gt I.big)
    have hl : (mergeK [] kvs).length ≤ sizeLine := by
      refine Nat.le_trans (length_mergeK kvs []) ?_
      rw [List.length_nil, Nat.zero_add, rel.length, l2]
      exact hz
    exact ⟨.ref s.heap.objs.size, upd H s.heap.objs.size (.dK (mergeK [] kvs)), I.laid (t' := tk) (fun b o e => kp b o (fun h => nomatch h) e) (Nat.le_refl _) (show ObjOk X.prog X.w _ _ _ (.dK (mergeK [] kvs)) from ⟨hl, hm, merged [] rs, KV.merge rel .nil, hd'⟩), rfl, q _ (I.hok.fresh (Nat.le_refl _))⟩
def rcDict2 : SpD := fun ds m Q => ∃ x ps, ds = [x] ∧ (lstOf m x = some (ps.map pairD) ∨ x = .tup (ps.map pairD)) ∧ Q (.dct (mergeD [] ps)) m
theorem cr_dict2 (hc : X.calm = true := by rfl) : CallR X (.type "dict") (rcOf X.K rcDict2) := by
  intro pins s σ H xs us Q' I r h
  obtain ⟨B, m, ds, Q, W, rs, ⟨x, ps, rfl, h, q⟩, k⟩ := h
  rcases h with h | rfl
  · exact cr_dict hc pins s σ H xs us Q' I r ⟨B, m, [x], Q, W, rs, ⟨x, ps, rfl, h, q⟩, k⟩
  · obtain ⟨v, rfl, r1⟩ := reps1 rs
    obtain ⟨a, vs, rfl, t, rz⟩ := rep_tup.mp r1
    obtain ⟨as, kvs, rfl, r3, r4⟩ := pairs_D rz
    obtain ⟨u, rfl, ru⟩ := vals1 r
    cases ru
    have fin : ∀ p, H p = none → Q' (.ref p) (upd H p (.dK (mergeK [] kvs))) := fun p hp => k.dct W (repk_merge r3 (repk_nil.mpr rfl)) q hp
    rcases t with ⟨o, e, hd, _⟩ | ⟨o, its, n, h1, h2, hd, h3, h4, h5⟩
    · obtain ⟨g1, hz, its, rv, ob, g2, g3, n, g4⟩ := I.hok a _ e
      rw [g1] at g2
      cases g2
      rw [List.length_map] at hz
      exact call_dictTup I hc g1 hd g3 g4 rv hz r4 fin
    · have hl := h5.length
      rw [List.length_map] at hl
      have hl2 : its.toList.length = its.size := Array.length_toList
      exact call_dictTup I hc (I.kIn a _ h1) hd h2 (its := its.toList) (n := n) (by rw [h3]) h5 (by omega) r4 fin
end
end L3
/-! L3r: how readings run on data that is known. -/
namespace L3
open PySem PySem.Spec PyProof.Rows L2
section
variable {δ : Dt} {m : Mu} {Q : EK} {n : Nat} {d : D} {o : Option D}
theorem ex_var0 : aVar 0 (some d :: δ) m Q = Q d m := by
  unfold aVar
  simp
theorem ex_varS : aVar (n + 1) (o :: δ) m Q = aVar n δ m Q := by
  unfold aVar
  simp
/-- isinstance -/
def isTy (m : Mu) (x : D) (n : String) : Option Bool := (tyD m x).map fun t => isB t n
theorem ex_isi {x : D} {n : String} {b : Bool} (hn : n ∈ ["str", "int", "bool", "tuple", "list"]) (h : isTy m x n = some b) : rcIsi [x, .ty n] m Q = Q (.bl b) m := by
  unfold isTy at h
  cases e : tyD m x with
  | none => rw [e] at h; cases h
  | some t =>
    rw [e] at h
    obtain rfl := Option.some.inj h
    unfold rcIsi
    refine propext ⟨?_, fun q => ⟨x, n, t, rfl, hn, e, q⟩⟩
    rintro ⟨x', n', t', e1, _, e2, q⟩
    injection e1 with a1 a2
    subst a1
    injection a2 with a3 _
    injection a3 with a4
    subst a4
    rw [e] at e2
    cases e2
    exact q
theorem ex_isi_str {z : Str} {n : String} (hn : n ∈ ["str", "int", "bool", "tuple", "list"] := by decide) : rcIsi [.str z, .ty n] m Q = Q (.bl (isB "str" n)) m := ex_isi hn rfl
theorem ex_isi_int {z : Int} {n : String} (hn : n ∈ ["str", "int", "bool", "tuple", "list"] := by decide) : rcIsi [.int z, .ty n] m Q = Q (.bl (isB "int" n)) m := ex_isi hn rfl
theorem ex_isi_bl {z : Bool} {n : String} (hn : n ∈ ["str", "int", "bool", "tuple", "list"] := by decide) : rcIsi [.bl z, .ty n] m Q = Q (.bl (isB "bool" n)) m := ex_isi hn rfl
theorem ex_isi_non {n : String} (hn : n ∈ ["str", "int", "bool", "tuple", "list"] := by decide) : rcIsi [.non, .ty n] m Q = Q (.bl (isB "NoneType" n)) m := ex_isi hn rfl
theorem ex_isi_tup {z : List D} {n : String} (hn : n ∈ ["str", "int", "bool", "tuple", "list"] := by decide) : rcIsi [.tup z, .ty n] m Q = Q (.bl (isB "tuple" n)) m := ex_isi hn rfl
theorem ex_isi_lst {z : List D} {n : String} (hn : n ∈ ["str", "int", "bool", "tuple", "list"] := by decide) : rcIsi [.lst z, .ty n] m Q = Q (.bl (isB "list" n)) m := ex_isi hn rfl
theorem ex_isi_dct {z : List (Key × D)} {n : String} (hn : n ∈ ["str", "int", "bool", "tuple", "list"] := by decide) : rcIsi [.dct z, .ty n] m Q = Q (.bl (isB "dict" n)) m := ex_isi hn rfl
/-- len -/
theorem ex_len_str {z : Str} : rcLen [.str z] m Q = (z.length ≤ sizeLine ∧ Q (.int (z.length : Int)) m) := by
  unfold rcLen
  exact propext ⟨fun ⟨x, e, q⟩ => by injection e with e _; subst e; exact q, fun q => ⟨_, rfl, q⟩⟩
theorem ex_len_tup {z : List D} : rcLen [.tup z] m Q = Q (.int (z.length : Int)) m := by
  unfold rcLen
  exact propext ⟨fun ⟨x, e, q⟩ => by injection e with e _; subst e; exact q, fun q => ⟨_, rfl, q⟩⟩
theorem ex_len_lst {z : List D} : rcLen [.lst z] m Q = Q (.int (z.length : Int)) m := by
  unfold rcLen
  exact propext ⟨fun ⟨x, e, q⟩ => by injection e with e _; subst e; obtain ⟨es, h, q⟩ := q; cases h; exact q, fun q => ⟨_, rfl, _, rfl, q⟩⟩
/-- equality -/
theorem ex_eq_flat {x y : D} (h : scalD x y = true) : rhoEq x y m Q = Q (.bl (eqD x y)) m := by
  obtain ⟨f, g, _⟩ := scalD_of h
  unfold rhoEq
  rw [rsv_flat f, rsv_flat g]
  exact propext ⟨fun q => q.2, fun q => ⟨.inl h, q⟩⟩
theorem ex_ne_flat {x y : D} (h : scalD x y = true) : rhoNe x y m Q = Q (.bl (!eqD x y)) m := by
  obtain ⟨f, g, _⟩ := scalD_of h
  unfold rhoNe
  rw [rsv_flat f, rsv_flat g]
  exact propext ⟨fun q => q.2, fun q => ⟨.inl h, q⟩⟩
theorem ex_eq_str {x y : Str} : rhoEq (.str x) (.str y) m Q = Q (.bl (decide (x = y))) m := by
  rw [ex_eq_flat rfl]
  show Q (.bl (x == y)) m = _
  rw [show (x == y) = decide (x = y) from rfl]
theorem ex_ne_str {x y : Str} : rhoNe (.str x) (.str y) m Q = Q (.bl (!decide (x = y))) m := by
  rw [ex_ne_flat rfl]
  show Q (.bl (!(x == y))) m = _
  rw [show (x == y) = decide (x = y) from rfl]
theorem ex_eq_int {x y : Int} : rhoEq (.int x) (.int y) m Q = Q (.bl (decide (x = y))) m := by
  rw [ex_eq_flat rfl]
  show Q (.bl (x == y)) m = _
  rw [show (x == y) = decide (x = y) from rfl]
theorem ex_ne_int {x y : Int} : rhoNe (.int x) (.int y) m Q = Q (.bl (!decide (x = y))) m := by
  rw [ex_ne_flat rfl]
  show Q (.bl (!(x == y))) m = _
  rw [show (x == y) = decide (x = y) from rfl]
theorem ex_eq_ns {y : Str} : rhoEq .non (.str y) m Q = Q (.bl false) m := by rw [ex_eq_flat rfl]; rfl
theorem ex_eq_sn {y : Str} : rhoEq (.str y) .non m Q = Q (.bl false) m := by rw [ex_eq_flat rfl]; rfl
theorem ex_eq_nn : rhoEq .non .non m Q = Q (.bl true) m := by rw [ex_eq_flat rfl]; rfl
theorem ex_ne_ns {y : Str} : rhoNe .non (.str y) m Q = Q (.bl true) m := by rw [ex_ne_flat rfl]; rfl
theorem ex_ne_sn {y : Str} : rhoNe (.str y) .non m Q = Q (.bl true) m := by rw [ex_ne_flat rfl]; rfl
theorem ex_ne_nn : rhoNe .non .non m Q = Q (.bl false) m := by rw [ex_ne_flat rfl]; rfl
/-- of whole data -/
theorem ex_eq {x y : D} (hx : eqOk (rsv m x) = true) (hy : eqOk (rsv m y) = true) : rhoEq x y m Q = Q (.bl (eqD (rsv m x) (rsv m y))) m := by
  unfold rhoEq
  exact propext ⟨fun q => q.2, fun q => ⟨.inr ⟨hx, hy⟩, q⟩⟩
theorem ex_ne {x y : D} (hx : eqOk (rsv m x) = true) (hy : eqOk (rsv m y) = true) : rhoNe x y m Q = Q (.bl (!eqD (rsv m x) (rsv m y))) m := by
  unfold rhoNe
  exact propext ⟨fun q => q.2, fun q => ⟨.inr ⟨hx, hy⟩, q⟩⟩
/-- order of ints, reckoning -/
theorem ex_I {f : Int → Int → Bool} {x y : Int} : rhoI f (.int x) (.int y) m Q = Q (.bl (f x y)) m := by
  unfold rhoI
  exact propext ⟨fun ⟨i, j, e1, e2, q⟩ => by cases e1; cases e2; exact q, fun q => ⟨_, _, rfl, rfl, q⟩⟩
theorem ex_add_int {x y : Int} : rhoAdd (.int x) (.int y) m Q = Q (.int (x + y)) m := rfl
theorem ex_add_str {x y : Str} : rhoAdd (.str x) (.str y) m Q = (x.length + y.length ≤ sizeLine ∧ Q (.str (x ++ y)) m) := rfl
theorem ex_add_tup {x y : List D} : rhoAdd (.tup x) (.tup y) m Q = (x.length + y.length ≤ sizeLine ∧ Q (.tup (x ++ y)) m) := rfl
theorem ex_add_lst {x y : List D} : rhoAdd (.lst x) (.lst y) m Q = (x.length + y.length ≤ sizeLine ∧ Q (.lst (x ++ y)) m) := by
  show (∃ a b, lstOf m (.lst x) = some a ∧ lstOf m (.lst y) = some b ∧ a.length + b.length ≤ sizeLine ∧ Q (.lst (a ++ b)) m) = _
  exact propext ⟨fun ⟨a, b, e1, e2, q⟩ => by cases e1; cases e2; exact q, fun q => ⟨_, _, rfl, rfl, q⟩⟩
theorem ex_sub {x y : Int} : rhoSub (.int x) (.int y) m Q = Q (.int (x - y)) m := by
  unfold rhoSub
  exact propext ⟨fun ⟨i, j, e1, e2, q⟩ => by cases e1; cases e2; exact q, fun q => ⟨_, _, rfl, rfl, q⟩⟩
theorem ex_mul {x y : Int} : rhoMul (.int x) (.int y) m Q = (CMul x y ∧ Q (.int (x * y)) m) := rfl
theorem ex_mul_lst {x : List D} {y : Int} : rhoMul (.lst x) (.int y) m Q = (0 ≤ y ∧ y < 1000 ∧ x.length * y.toNat ≤ sizeLine ∧ Q (.lst (List.replicate y.toNat x).flatten) m) := rfl
theorem ex_mod {x y : Int} : rhoMod (.int x) (.int y) m Q = (0 < y ∧ Q (.int (x % y)) m) := by
  unfold rhoMod
  exact propext ⟨fun ⟨i, j, e1, e2, q⟩ => by cases e1; cases e2; exact q, fun q => ⟨_, _, rfl, rfl, q⟩⟩
theorem ex_div {x y : Int} : rhoDiv (.int x) (.int y) m Q = (CDiv x y ∧ Q (.int (x / y)) m) := by
  unfold rhoDiv
  exact propext ⟨fun ⟨i, j, e1, e2, q⟩ => by cases e1; cases e2; exact q, fun q => ⟨_, _, rfl, rfl, q⟩⟩
theorem ex_pow {x y : Int} : rhoPow (.int x) (.int y) m Q = (CPow x y ∧ Q (.int (x ^ y.toNat)) m) := by
  unfold rhoPow
  exact propext ⟨fun ⟨i, j, e1, e2, q⟩ => by cases e1; cases e2; exact q, fun q => ⟨_, _, rfl, rfl, q⟩⟩
theorem ex_isN {x : D} : rhoIsN x .non m Q = Q (.bl x.isNon) m := by
  unfold rhoIsN
  exact propext ⟨fun q => q.2, fun q => ⟨rfl, q⟩⟩
theorem ex_notN {x : D} : rhoNotN x .non m Q = Q (.bl (!x.isNon)) m := by
  unfold rhoNotN
  exact propext ⟨fun q => q.2, fun q => ⟨rfl, q⟩⟩
/-- in -/
theorem ex_in_str {c : Nat} {z : Str} {b : Bool} : rhoIn b (.str ⟨#[c]⟩) (.str z) m Q = Q (.bl (b ^^ decide (c ∈ z.cps.toList))) m := by
  show (∃ c', D.str ⟨#[c]⟩ = D.str ⟨#[c']⟩ ∧ Q (.bl (b ^^ decide (c' ∈ z.cps.toList))) m) = _
  exact propext ⟨fun ⟨c', e, q⟩ => by cases e; exact q, fun q => ⟨c, rfl, q⟩⟩
theorem ex_in_tup {x : D} {ds : List D} {b : Bool} (f : x.flat = true) (g : ds.all D.flat = true) : rhoIn b x (.tup ds) m Q = Q (.bl (b ^^ inD x ds)) m := propext ⟨fun q => q.2.2, fun q => ⟨f, g, q⟩⟩
theorem ex_in_lst {x : D} {ds : List D} {b : Bool} (f : x.flat = true) (g : ds.all D.flat = true) : rhoIn b x (.lst ds) m Q = Q (.bl (b ^^ inD x ds)) m := by
  refine propext ⟨?_, fun q => .inl ⟨ds, rfl, .inl ⟨f, g⟩, q⟩⟩
  rintro (⟨es, h, _, q⟩ | ⟨es, k, h, _⟩)
  · cases h; exact q
  · cases h
theorem ex_in_dct {x : D} {k : Key} {ds : List (Key × D)} {b : Bool} (f : keyD x = some k) : rhoIn b x (.dct ds) m Q = Q (.bl (b ^^ (getK ds k).isSome)) m := by
  refine propext ⟨?_, fun q => .inr ⟨ds, k, rfl, f, q⟩⟩
  rintro (⟨es, h, _, q⟩ | ⟨es, k', h, hk, q⟩)
  · cases h
  · cases h
    rw [f] at hk
    cases hk
    exact q
/-- a[b] -/
theorem ex_ix_tup {ds : List D} {i : Int} : rhoIx (.tup ds) (.int i) m Q = ∃ d, atI ds i = some d ∧ Q d m := by
  show (∃ i' d, D.int i = D.int i' ∧ atI ds i' = some d ∧ Q d m) = _
  exact propext ⟨fun ⟨i', d, e, h⟩ => by cases e; exact ⟨d, h⟩, fun ⟨d, h⟩ => ⟨i, d, rfl, h⟩⟩
theorem ex_ix_lst {ds : List D} {i : Int} : rhoIx (.lst ds) (.int i) m Q = ∃ d, atI ds i = some d ∧ Q d m := by
  refine propext ⟨?_, fun ⟨d, h⟩ => .inl ⟨ds, i, d, rfl, rfl, h⟩⟩
  rintro (⟨es, i', d, h, e, h2⟩ | ⟨es, k, d, h, _⟩)
  · cases h; cases e; exact ⟨d, h2⟩
  · cases h
theorem ex_ix_str {z : Str} {i : Int} : rhoIx (.str z) (.int i) m Q = ∃ c, z.length ≤ sizeLine ∧ atI z.cps.toList i = some c ∧ Q (.str ⟨#[c]⟩) m := by
  show (∃ i' c, D.int i = D.int i' ∧ z.length ≤ sizeLine ∧ atI z.cps.toList i' = some c ∧ Q (.str ⟨#[c]⟩) m) = _
  exact propext ⟨fun ⟨i', d, e, h⟩ => by cases e; exact ⟨d, h⟩, fun ⟨d, h⟩ => ⟨i, d, rfl, h⟩⟩
theorem ex_ix_dct {ds : List (Key × D)} {x : D} {k : Key} (hk : keyD x = some k) : rhoIx (.dct ds) x m Q = ∃ d, getK ds k = some d ∧ Q d m := by
  refine propext ⟨?_, fun ⟨d, h⟩ => .inr ⟨ds, k, d, rfl, hk, h⟩⟩
  rintro (⟨es, i', d, h, e, h2⟩ | ⟨es, k', d, h, e, h2⟩)
  · cases h
  · cases h
    rw [hk] at e
    cases e
    exact ⟨d, h2⟩
theorem atI_0 {α : Type} {x : α} {xs : List α} : atI (x :: xs) 0 = some x := atI_nat (j := 0) rfl
theorem atI_1 {α : Type} {x y : α} {xs : List α} : atI (x :: y :: xs) 1 = some y := atI_nat (j := 1) rfl
theorem atI_2 {α : Type} {x y z : α} {xs : List α} : atI (x :: y :: z :: xs) 2 = some z := atI_nat (j := 2) rfl
theorem atI_3 {α : Type} {x y z u : α} {xs : List α} : atI (x :: y :: z :: u :: xs) 3 = some u := atI_nat (j := 3) rfl
theorem cut_1 {x : D} {xs : List D} : cutD (x :: xs) (some 1) none = xs := by
  unfold cutD HT.sIx
  simp
theorem cut_13 {x y z : D} {xs : List D} : cutD (x :: y :: z :: xs) (some 1) (some 3) = [y, z] := by
  unfold cutD HT.sIx
  simp
theorem ex_sl_tup {ds : List D} {lo hi : Option Int} : rhoSl (.tup ds) lo hi m Q = Q (.tup (cutD ds lo hi)) m := rfl
theorem ex_sl_lst {ds : List D} {lo hi : Option Int} : rhoSl (.lst ds) lo hi m Q = Q (.lst (cutD ds lo hi)) m := by
  show (∃ es, lstOf m (.lst ds) = some es ∧ Q (.lst (cutD es lo hi)) m) = _
  exact propext ⟨fun ⟨es, e, q⟩ => by cases e; exact q, fun q => ⟨ds, rfl, q⟩⟩
theorem ex_sl_str {z : Str} {lo hi : Option Int} : rhoSl (.str z) lo hi m Q = (z.length ≤ sizeLine ∧ Q (.str (cutS z lo hi)) m) := rfl
theorem ex_tuple_lst {ds : List D} : rcTuple [.lst ds] m Q = Q (.tup ds) m := by
  unfold rcTuple
  exact propext ⟨fun ⟨x, e, q⟩ => by injection e with e _; subst e; obtain ⟨es, h, q⟩ := q; cases h; exact q, fun q => ⟨_, rfl, _, rfl, q⟩⟩
end
end L3
/-! L3m: more rules: freezing, lists into the store, stores at an index, displays, update, max of none. -/
namespace L3
open PySem PySem.Spec PyProof.Rows L2
section
variable {X : Cx} {pos : Pos}
/-! ### freezing -/
theorem step_del {H : Hp} {m : Mu} {p : Addr} : Step H m H (m.del p) := fun x o h n => ⟨h, by unfold Mu.del; split <;> first | rfl | exact n⟩
theorem ban_del {B : Addr → Prop} {m : Mu} {p a : Addr} (h : Ban B (m.del p) a) : Ban B m a := h.imp id fun z e => z (by unfold Mu.del; split <;> first | rfl | exact e)
theorem Wd.del {K : PySem.W.Frag} {H : Hp} {B : Addr → Prop} {m : Mu} (W : Wd K H B m) (p : Addr) : Wd K H B (m.del p) := by
  refine ⟨fun a c e => ?_, fun a b => ?_⟩
  · by_cases q : a = p
    · subst q; rw [Mu.del_same] at e; cases e
    · rw [Mu.del_ne q] at e
      exact CellOk.carry (fun x o h n => ⟨h, fun z => n (ban_del z)⟩) (fun o h => h) (fun dx h n => ⟨h, by unfold Mu.del; split <;> first | rfl | exact n⟩) (W.cell a c e)
  · obtain ⟨h1, h2⟩ := W.hid a b
    exact ⟨h1, by unfold Mu.del; split <;> first | rfl | exact h2⟩
theorem carry_del {H : Hp} {B : Addr → Prop} {m : Mu} {p : Addr} : Carry H (Ban B m) H (Ban B (m.del p)) := fun x o h n => ⟨h, fun z => n (ban_del z)⟩
theorem not_ban_del {K : PySem.W.Frag} {H : Hp} {B : Addr → Prop} {m : Mu} {p : Addr} {c : Cell} (W : Wd K H B m) (h : m p = some c) : ¬ Ban B (m.del p) p := fun z => z.elim (fun b => by have := (W.hid p b).2; rw [h] at this; cases this) fun z => z Mu.del_same
/-- a list of the store ceases to change -/
def frzK (Q : EK) : EK := fun d m1 => ∃ p ds, d = .ref p ∧ m1 p = some (.lst ds) ∧ Q (.lst ds) (m1.del p)
def aFrz (t : AEt) : AEt := fun δ m Q => t δ m (frzK Q)
theorem ae_frz {e : Expr} {t : AEt} (h : AE X e t) : AE X e (aFrz t) :=
  let ⟨_, p, s⟩ := h.ex
  ⟨_, p, fun B δ m Q σ H W E h Q' k => s B δ m _ σ H W E h _ fun d m1 v H1 s1 W1 r ⟨p, ds, e, hp, q⟩ => by
    subst e
    obtain ⟨vs, hv, rs⟩ := W1.cell p _ hp
    exact k _ (m1.del p) v H1 (s1.trans step_del) (W1.del p) (rep_lst.mpr ⟨p, vs, rep_ref.mp r, ⟨hv, not_ban_del W1 hp⟩, Reps.carry carry_del _ _ rs⟩) q⟩
/-! ### lists and dicts into the store -/
theorem PostE.lstM {K : PySem.W.Frag} {B : Addr → Prop} {H : Hp} {m : Mu} {Q : EK} {Q' : VK} (k : PostE K B H m Q Q') (W : Wd K H B m) {ds : List D} {vs : List V} (r : Reps K H (Ban B m) ds vs) (q : ∀ p, m p = none → Q (.ref p) (m.put p (.lst ds))) {p : Addr} (hp : H p = none) : Q' (.ref p) (upd H p (.lst vs)) := by
  have ⟨st, W2⟩ := W.into (c := .lst ds) (o := .lst vs) hp ⟨vs, upd_same, Reps.carry (carry_put hp) _ _ r⟩
  exact k _ _ _ _ st W2 (rep_ref.mpr rfl) (q p (W.free hp).1)
theorem PostE.dctM {K : PySem.W.Frag} {B : Addr → Prop} {H : Hp} {m : Mu} {Q : EK} {Q' : VK} (k : PostE K B H m Q Q') (W : Wd K H B m) {ds : List (Key × D)} {vs : List (Key × V)} (r : Repk K H (Ban B m) ds vs) (q : ∀ p, m p = none → Q (.ref p) (m.put p (.dct ds))) {p : Addr} (hp : H p = none) : Q' (.ref p) (upd H p (.dK vs)) := by
  have ⟨st, W2⟩ := W.into (c := .dct ds) (o := .dK vs) hp ⟨vs, upd_same, Repk.carry (carry_put hp) _ _ r⟩
  exact k _ _ _ _ st W2 (rep_ref.mpr rfl) (q p (W.free hp).1)
/-- a + b of lists, the new list into the store -/
def rhoAddM : Rho2 := fun x y m Q => ∃ a b, lstOf m x = some a ∧ lstOf m y = some b ∧ a.length + b.length ≤ sizeLine ∧ ∀ p, m p = none → Q (.ref p) (m.put p (.lst (a ++ b)))
theorem or_addM : OpR X (binaryOp .Add) (rOf X.K rhoAddM) := by
  intro pins s σ H x y v u Q' I rx ry h
  obtain ⟨B, m, dx, dy, Q, W, r1, r2, ⟨a, b, hx, hy, hl, hq⟩, k⟩ := h
  obtain ⟨p, vs, rfl, hp, q1⟩ := lst_at W r1 hx
  obtain ⟨p', ws, rfl, hp', q2⟩ := lst_at W r2 hy
  exact op_cat pins s σ H _ _ _ _ Q' I rx ry ⟨p, p', vs, ws, rfl, rfl, hp, hp', by rw [q1.len, q2.len]; exact hl, fun l hl' => k.lstM W (q1.app q2) hq hl'⟩
/-- list(x) into the store -/
def rcListM : SpD := fun ds m Q => ∃ x es, ds = [x] ∧ (lstOf m x = some es ∨ x = .tup es ∨ ∃ ns, x = .fl ns ∧ es = ns.map D.int) ∧ ∀ p, m p = none → Q (.ref p) (m.put p (.lst es))
theorem reps_ints {K : PySem.W.Frag} {H : Hp} {N : Addr → Prop} : ∀ {ns : List Int}, Reps K H N (ns.map D.int) (ns.map V.int)
  | [] => reps_nil.mpr rfl
  | x :: xs => reps_cons.mpr ⟨_, _, rfl, rep_int.mpr rfl, reps_ints⟩
theorem cr_listM : CallR X (.type "list") (rcOf X.K rcListM) := by
  intro pins s σ H xs us Q' I r h
  obtain ⟨B, m, ds, Q, W, rs, ⟨x, es, rfl, h, hq⟩, k⟩ := h
  obtain ⟨v, rfl, r1⟩ := reps1 rs
  rcases h with h | rfl | ⟨ns, rfl, rfl⟩
  · obtain ⟨p, vs, rfl, hp, q⟩ := lst_at W r1 h
    exact call_list_of pins s σ H _ us Q' I r ⟨p, vs, rfl, .inl (SqL.of hp), fun l hl => k.lstM W q hq hl⟩
  · obtain ⟨p, vs, rfl, t, q⟩ := rep_tup.mp r1
    exact call_list_of pins s σ H _ us Q' I r ⟨p, vs, rfl, .inr t.sq, fun l hl => k.lstM W q hq hl⟩
  · obtain ⟨p, rfl, t⟩ := rep_fl.mp r1
    exact call_list_of pins s σ H _ us Q' I r ⟨p, _, rfl, .inl t.sq, fun l hl => k.lstM W reps_ints hq hl⟩
/-- list(a text) -/
def signD (z : Str) : List D := z.cps.toList.map fun c => D.str ⟨#[c]⟩
def rcListS : SpD := fun ds m Q => ∃ z : Str, ds = [.str z] ∧ z.cps.size ≤ sizeLine ∧ Q (.lst (signD z)) m
theorem cr_listS (hc : X.calm = true := by rfl) : CallR X (.type "list") (rcOf X.K rcListS) := by
  intro pins s σ H xs us Q' I r h
  obtain ⟨B, m, ds, Q, W, rs, ⟨z, rfl, hz, hq⟩, k⟩ := h
  obtain ⟨v, rfl, r1⟩ := reps1 rs
  cases rep_str.mp r1
  obtain ⟨u, rfl, ru⟩ := vals1 r
  obtain ⟨t, rfl⟩ := ru
  refine PySem.call_list_str (I.ok.hd hc) z t (hn := hz) fun h' tk acc c hk hS hacc => ?_
  have rv : Vals (z.cps.toList.map fun c => V.str ⟨#[c]⟩) acc.toList := by
    have len : acc.size = z.cps.size := hacc.1
    have gen : ∀ (cs : List Nat) (us : List Value), us.length = cs.length → (∀ (j : Nat) (v : Value), us[j]? = some v → ∃ c t, cs[j]? = some c ∧ v = Value.str ⟨#[c]⟩ t) → Vals (cs.map fun c => V.str ⟨#[c]⟩) us := by
      intro cs
      induction cs with
      | nil => intro us hl _; cases us with
        | nil => exact .nil
        | cons _ _ => cases hl
      | cons c cs ih => intro us hl hv; cases us with
        | nil => cases hl
        | cons u us =>
          obtain ⟨c', t', hc', rfl⟩ := hv 0 u rfl
          cases hc'
          exact .cons ⟨t', rfl⟩ (ih us (by simpa using hl) fun j v e => by simpa using hv (j + 1) v (by simpa using e))
    refine gen _ _ (by simp [len]) fun j v e => ?_
    obtain ⟨c, t, hc', e2⟩ := hacc.2 j v (by simpa using e)
    exact ⟨c, t, by simpa using hc', e2⟩
  have hlen : (z.cps.toList.map fun c => V.str ⟨#[c]⟩).length ≤ sizeLine := by simpa using hz
  have hn := I.hok.fresh (Nat.le_refl s.heap.objs.size)
  refine ⟨.ref s.heap.objs.size, _, I.laid (t' := tk) (o := .lst (z.cps.toList.map fun c => V.str ⟨#[c]⟩)) hk (Nat.le_refl _) ⟨hlen, acc.toList, c, rv, by simpa using hS⟩, rfl, k.lst W ?_ hq hn⟩
  unfold signD
  generalize z.cps.toList = cs
  induction cs with
  | nil => exact reps_nil.mpr rfl
  | cons c cs ih => exact reps_cons.mpr ⟨_, _, rfl, rep_str.mpr rfl, ih⟩
/-- a list that was handed in, walked -/
def aFlI (t : AEt) : AIt := fun δ m Q => t δ m fun d m1 => ∃ ns, d = .fl ns ∧ Q (ns.map D.int) m1
theorem ai_fl {tg e : Expr} {t : AEt} (h : AE X e t) : AI X tg e (aFlI t) :=
  let ⟨_, p, s⟩ := h.ex
  ⟨_, pi_list p, fun B δ m Q σ H W E h R k => s B δ m _ σ H W E h _ fun d m1 v H1 s1 W1 r ⟨ns, e, q⟩ => by
    subst e
    obtain ⟨a, rfl, t⟩ := rep_fl.mp r
    refine ⟨a, rfl, ⟨_, t.sq⟩, k _ _ m1 H1 s1 W1 (fun B' hB i H' m' st W' => ?_) q⟩
    have t' := t.carry (st.carry2 hB)
    refine ⟨fun d hd => ?_, fun hi => ⟨_, t'.sq, by simp at hi ⊢; omega⟩⟩
    rw [List.getElem?_map] at hd
    cases e : ns[i]? with
    | none => rw [e] at hd; cases hd
    | some n =>
      rw [e] at hd
      cases hd
      have hv : (ns.map V.int)[i]? = some (.int n) := by rw [List.getElem?_map, e]; rfl
      refine ⟨⟨_, _, t'.sq, hv⟩, fun x H'' y => ?_⟩
      obtain ⟨rfl, y⟩ := y
      have := y _ t'.sq
      rw [hv] at this
      cases this
      exact ⟨Step.refl _ _, W', rep_int.mpr rfl⟩⟩
/-! ### o[i] = v -/
/-- into a list or a dict of the store -/
def rhoSet (x y v : D) (m : Mu) (Q : Mu → Prop) : Prop := ∃ p, x = .ref p ∧ ((∃ es i j, m p = some (.lst es) ∧ y = .int i ∧ ixN es.length i = some j ∧ Q (m.put p (.lst (es.set j v)))) ∨
  ∃ es k, m p = some (.dct es) ∧ keyD y = some k ∧ es.length < sizeLine ∧ Q (m.put p (.dct (putD es k v))))
def sOf (K : PySem.W.Frag) : TSet := fun o i v H Q' => ∃ B m x y d Q, Wd K H B m ∧ Rep K H (Ban B m) x o ∧ Rep K H (Ban B m) y i ∧ Rep K H (Ban B m) d v ∧ rhoSet x y d m Q ∧ ∀ m' H', Step H m H' m' → Wd K H' B m' → Q m' → Q' H'
theorem wd_dct {K : PySem.W.Frag} {H : Hp} {B : Addr → Prop} {m : Mu} {p : Addr} {es es' : List (Key × D)} {vs' : List (Key × V)} (W : Wd K H B m) (h : m p = some (.dct es)) (r : Repk K H (Ban B m) es' vs') : Step H m (upd H p (.dK vs')) (m.put p (.dct es')) ∧ Wd K (upd H p (.dK vs')) B (m.put p (.dct es')) := by
  obtain ⟨vs, hp, q⟩ := W.cell p _ h
  refine W.write h (fun C dx fs e => nomatch e) (fun x e => by rw [hp] at e; cases e) ⟨vs', upd_same, Repk.carry (fun x u e n => ?_) _ _ r⟩
  have ne : x ≠ p := fun z => n (.inr (by rw [z, h]; exact fun z => nomatch z))
  exact ⟨by rw [upd_ne ne]; exact e, fun z => z.elim (fun b => n (.inl b)) fun z => n (.inr (by rw [Mu.put_ne ne] at z; exact z))⟩
theorem repk_len {K : PySem.W.Frag} {H : Hp} {N : Addr → Prop} : ∀ {ds : List (Key × D)} {vs : List (Key × V)}, Repk K H N ds vs → vs.length = ds.length
  | [], _, r => by rw [repk_nil.mp r]; rfl
  | (k, d) :: ds, _, r => by
    obtain ⟨v, ws, rfl, _, rs⟩ := repk_cons.mp r
    rw [List.length_cons, List.length_cons, repk_len rs]
theorem set_D (hu : X.A.units + 1 < cLine) : PSet X (sOf X.K) := by
  intro pins s σ H o i v ov iv u Q I ro ri rv h
  obtain ⟨B, m, x, y, d, Qm, W, r1, r2, r3, ⟨p, rfl, h⟩, k⟩ := h
  cases rep_ref.mp r1
  rcases h with ⟨es, n, j, hm, rfl, hj, q⟩ | ⟨es, key, hm, hk, hl, q⟩
  · obtain ⟨vs, hp, rs⟩ := W.cell p _ hm
    obtain ⟨st, W2⟩ := wd_lst W hm (rs.set r3 j)
    cases rep_int.mp r2
    exact set_list pins s σ H _ _ v ov iv u Q I ro ri rv ⟨p, vs, n, j, rfl, rfl, hp, by rw [rs.len]; exact hj, k _ _ st W2 q⟩
  · obtain ⟨vs, hp, rs⟩ := W.cell p _ hm
    obtain ⟨st, W2⟩ := wd_dct W hm (repk_put rs key r3)
    obtain rfl := keyD_v hk r2
    exact set_dict hu pins s σ H _ _ v ov iv u Q I ro ri rv ⟨p, _, rfl, DPut.k hp (by rw [repk_len rs]; exact hl), k _ _ st W2 q⟩
def gSubD (to ti : AEt) : AGt := fun v δ m Q => to δ m fun x m1 => ti δ m1 fun y m2 => rhoSet x y v m2 fun m3 => Q δ m3
theorem ag_sub {o i : Expr} {to ti : AEt} (hu : X.A.units + 1 < cLine) (ho : AE X o to) (hi : AE X i ti)
    (ha : ∀ v, assign (.Subscript o i pos) X.env v = (do
      let ov ← holding [v] (eval o X.env)
      let iv ← holding [v, ov] (eval i X.env)
      standAt pos
      holding [v, ov, iv] (setItem ov iv v)
      release [v, ov, iv] []) := by intro _; rfl) : AG X (.Subscript o i pos) (gSubD to ti) :=
  let ⟨_, po, so⟩ := ho.ex
  let ⟨_, pi, si⟩ := hi.ex
  ⟨_, pg_sub po pi (set_D hu) ha, fun B d v δ m Q σ H W E r h Q' k => so B δ m _ σ H W E h _ fun x m1 o H1 s1 W1 r1 q1 => si B δ m1 _ σ H1 W1 (E.carry s1.carry) q1 _ fun y m2 i H2 s2 W2 r2 q2 =>
    ⟨B, m2, x, y, d, _, W2, Rep.carry s2.carry _ _ r1, r2, Rep.carry (s1.trans s2).carry _ _ r, q2, fun m3 H3 s3 W3 q3 => k δ m3 σ H3 ((s1.trans s2).trans s3) W3 (E.carry ((s1.trans s2).trans s3).carry) q3⟩⟩
/-! ### displays of dicts -/
def pairsD : List (AEt × AEt) → Dt → Mu → (List (D × D) → Mu → Prop) → Prop
  | [], _, m, Q => Q [] m
  | (tk, tv) :: r, δ, m, Q => tk δ m fun x m1 => tv δ m1 fun y m2 => pairsD r δ m2 fun ps m3 => Q ((x, y) :: ps) m3
inductive RepP (K : PySem.W.Frag) (H : Hp) (N : Addr → Prop) : List (D × D) → List (V × V) → Prop where
  | nil : RepP K H N [] []
  | cons {x y v w ps qs} (a : Rep K H N x v) (b : Rep K H N y w) (t : RepP K H N ps qs) : RepP K H N ((x, y) :: ps) ((v, w) :: qs)
def SP (K : PySem.W.Frag) (trs : List (TE × TE)) (t : List (AEt × AEt)) : Prop := ∀ (B : Addr → Prop) (δ : Dt) (m : Mu) (Q : List (D × D) → Mu → Prop) (σ : L2.St) (H : Hp), Wd K H B m → EnvD K H (Ban B m) σ δ → pairsD t δ m Q → ∀ Q' : List (V × V) → Hp → Prop,
  (∀ ps m' vs H', Step H m H' m' → Wd K H' B m' → RepP K H' (Ban B m') ps vs → Q ps m' → Q' vs H') → tPairs trs σ H Q'
structure APs (X : Cx) (pos : Pos) (keys : List (Option Expr)) (values : List Expr) (t : List (AEt × AEt)) : Prop where
  ex : ∃ trs, PPs X pos keys values trs ∧ SP X.K trs t
theorem apps_nil : APs X pos [] [] [] := ⟨[], pps_nil, fun B δ m Q σ H W E h Q' k => k [] m [] H (Step.refl H m) W .nil h⟩
theorem apps_cons {kx v : Expr} {ks : List (Option Expr)} {vs : List Expr} {tk tv : AEt} {t : List (AEt × AEt)} (hk : AE X kx tk) (hv : AE X v tv) (hr : APs X pos ks vs t) : APs X pos (some kx :: ks) (v :: vs) ((tk, tv) :: t) :=
  let ⟨_, pk, sk⟩ := hk.ex
  let ⟨_, pv, sv⟩ := hv.ex
  let ⟨_, pr, sr⟩ := hr.ex
  ⟨_, pps_cons pk pv pr, fun B δ m Q σ H W E h Q' k => sk B δ m _ σ H W E h _ fun x m1 v1 H1 s1 W1 r1 q1 => sv B δ m1 _ σ H1 W1 (E.carry s1.carry) q1 _ fun y m2 v2 H2 s2 W2 r2 q2 =>
    sr B δ m2 _ σ H2 W2 (E.carry (s1.trans s2).carry) q2 _ fun ps m3 qs H3 s3 W3 r3 q3 => k _ m3 _ H3 ((s1.trans s2).trans s3) W3 (.cons (Rep.carry (s2.trans s3).carry _ _ r1) (Rep.carry s3.carry _ _ r2) r3) q3⟩
def dispK (ps : List (D × D)) (kvs : List (Key × D)) : Prop := ps = kvs.map fun kv => ((match kv.1 with | .inl i => D.int i | .inr x => D.str x), kv.2)
theorem disp_rep {K : PySem.W.Frag} {H : Hp} {N : Addr → Prop} : ∀ {kvs : List (Key × D)} {qs : List (V × V)}, RepP K H N (kvs.map fun kv => ((match kv.1 with | .inl i => D.int i | .inr x => D.str x), kv.2)) qs → ∃ ks, qs = ks.map (fun kv : Key × V => (kV kv.1, kv.2)) ∧ Repk K H N kvs ks
  | [], _, r => by rw [List.map_nil] at r; cases r; exact ⟨[], rfl, repk_nil.mpr rfl⟩
  | (k, d) :: kvs, _, r => by
    rw [List.map_cons] at r
    cases r with
    | cons a b t =>
      obtain ⟨ks, rfl, rk⟩ := disp_rep t
      obtain rfl := rep_key a
      exact ⟨(k, _) :: ks, rfl, repk_cons.mpr ⟨_, _, rfl, b, rk⟩⟩
/-- a display whose parts leave the store as it is -/
def aDispW (t : List (AEt × AEt)) (fin : List (Key × D) → Mu → EK → Prop) : AEt := fun δ m Q => pairsD t δ m fun ps m1 => ∃ kvs, dispK ps kvs ∧ kvs.length ≤ 15 ∧ fin (mergeD [] kvs) m1 Q
def aDisp (t : List (AEt × AEt)) : AEt := aDispW t fun kvs m Q => Q (.dct kvs) m
def aDispM (t : List (AEt × AEt)) : AEt := aDispW t fun kvs m Q => ∀ p, m p = none → Q (.ref p) (m.put p (.dct kvs))
theorem disp_sound {K : PySem.W.Frag} {trs : List (TE × TE)} {t : List (AEt × AEt)} {fin : List (Key × D) → Mu → EK → Prop} (sp : SP K trs t)
    (hf : ∀ (B : Addr → Prop) (m : Mu) (H : Hp) (p : Addr) (kvs : List (Key × D)) (ks : List (Key × V)) (Q : EK) (Q' : VK), Wd K H (Hid B p) m → H p = some (.dK []) → (H0 : Hp) → (m0 : Mu) → H0 p = none → Wd K H0 B m0 → Step H0 m0 H m → Repk K H (Ban (Hid B p) m) kvs ks → fin kvs m Q → PostE K B H0 m0 Q Q' → Q' (.ref p) (upd H p (.dK ks))) :
    SE K (tDisp trs) (aDispW t fin) := by
  intro B δ m Q σ H W E h Q' k p hp
  obtain ⟨Wn, cn⟩ := W.hideNew (o := .dK []) hp
  have stn : Step H m (upd H p (.dK [])) m := Step.new hp
  refine sp (Hid B p) δ m _ σ _ Wn (E.carry cn) h _ fun ps m1 vs H1 s1 W1 r ⟨kvs, e, hl, q⟩ => ?_
  have hm : m p = none := (W.free hp).1
  have h1 : H1 p = some (.dK []) := (s1 p _ upd_same hm).1
  subst e
  obtain ⟨ks, rfl, rk⟩ := disp_rep r
  refine ⟨h1, ks, rfl, by rw [repk_len rk]; exact hl, ?_⟩
  exact hf B m1 H1 p _ _ Q Q' W1 h1 H m hp W (stn.trans s1) (repk_merge rk (repk_nil.mpr rfl)) q k
theorem disp_fresh {K : PySem.W.Frag} {B : Addr → Prop} {m m0 : Mu} {H H0 : Hp} {p : Addr} {ks : List (Key × V)} (W1 : Wd K H (Hid B p) m) (h1 : H p = some (.dK [])) (hp : H0 p = none) (st : Step H0 m0 H m) : Step H0 m0 (upd H p (.dK ks)) m ∧ Wd K (upd H p (.dK ks)) (Hid B p) m :=
  ⟨fun x o e n => by
    have ne : x ≠ p := ne_of_none e hp
    rw [upd_ne ne]; exact st x o e n, W1.hidden fun x e => by rw [h1] at e; cases e⟩
theorem ae_disp {keys : List (Option Expr)} {values : List Expr} {t : List (AEt × AEt)} (h : APs X pos keys values t) (hall : keys.all (·.isSome) = true := by rfl) (hl : keys.length = values.length := by rfl) (h0 : keys ≠ [] := by intro z; cases z) (h15 : keys.length ≤ 15 := by decide) : AE X (.Dict keys values pos) (aDisp t) :=
  let ⟨_, p, s⟩ := h.ex
  ⟨_, pe_disp p hall hl h0 h15, disp_sound s fun B m H p kvs ks Q Q' W1 h1 H0 m0 hp W st rk q k => by
    obtain ⟨st2, W2⟩ := disp_fresh (ks := ks) W1 h1 hp st
    have hm : m p = none := (W1.hid p (.inr rfl)).2
    exact k _ m _ _ st2 W2.unhide (rep_dct.mpr ⟨p, ks, rfl, ⟨upd_same, fun z => z.elim (fun b => (W.hid p b).1 hp) fun z => z hm⟩, Repk.carry carry_unhide _ _ (Repk.carry carry_hidden _ _ rk)⟩) q⟩
theorem ae_dispM {keys : List (Option Expr)} {values : List Expr} {t : List (AEt × AEt)} (h : APs X pos keys values t) (hall : keys.all (·.isSome) = true := by rfl) (hl : keys.length = values.length := by rfl) (h0 : keys ≠ [] := by intro z; cases z) (h15 : keys.length ≤ 15 := by decide) : AE X (.Dict keys values pos) (aDispM t) :=
  let ⟨_, p, s⟩ := h.ex
  ⟨_, pe_disp p hall hl h0 h15, disp_sound s fun B m H p kvs ks Q Q' W1 h1 H0 m0 hp W st rk q k => by
    obtain ⟨st2, W2⟩ := disp_fresh (ks := ks) W1 h1 hp st
    have hm : m p = none := (W1.hid p (.inr rfl)).2
    have hB : ¬ B p := fun b => (W.hid p b).1 hp
    have c : ∀ a, Ban B (m.put p (.dct kvs)) a → Ban (Hid B p) m a := fun a z => by
      by_cases e : a = p
      · exact .inl (.inr e)
      · exact z.elim (fun b => .inl (.inl b)) fun z => .inr (by rw [Mu.put_ne e] at z; exact z)
    have cr : Carry (upd H p (.dK ks)) (Ban (Hid B p) m) (upd H p (.dK ks)) (Ban B (m.put p (.dct kvs))) := fun x o e n => ⟨e, fun z => n (c x z)⟩
    have W3 : Wd X.K (upd H p (.dK ks)) B (m.put p (.dct kvs)) := by
      refine ⟨fun a cc e => ?_, fun a b => ?_⟩
      · by_cases q : a = p
        · subst q
          rw [Mu.put_same] at e
          cases e
          exact ⟨ks, upd_same, Repk.carry cr _ _ (Repk.carry carry_hidden _ _ rk)⟩
        · rw [Mu.put_ne q] at e
          refine CellOk.carry cr (fun o h => h) (fun dx h n => ⟨h, ?_⟩) (W2.cell a cc e)
          have : dx ≠ p := fun z => by subst z; rw [upd_same] at h; cases h
          rw [Mu.put_ne this]; exact n
      · obtain ⟨e1, e2⟩ := W2.hid a (.inl b)
        have ne : a ≠ p := fun z => hB (z ▸ b)
        exact ⟨e1, by rw [Mu.put_ne ne]; exact e2⟩
    refine k _ _ _ _ (fun x o e n => ?_) W3 (rep_ref.mpr rfl) (q p hm)
    have ne : x ≠ p := ne_of_none e hp
    obtain ⟨e1, e2⟩ := st2 x o e n
    exact ⟨e1, by rw [Mu.put_ne ne]; exact e2⟩⟩
/-! ### d.update(e) -/
def rhoUpdate : Rho3 := fun x ds m Q => ∃ p es d zs, x = .ref p ∧ m p = some (.dct es) ∧ ds = [d] ∧ d ≠ .ref p ∧ dctOf m d = some zs ∧ es.length + zs.length ≤ sizeLine ∧ Q .non (m.put p (.dct (mergeD es zs)))
theorem mt_updateD : MtR X "dict.update" (rmOf X.K rhoUpdate) := by
  intro pins s σ H x vs v us Q' I rx rv h
  obtain ⟨B, m, dx, ds, Q, W, r1, r2, ⟨p, es, d, zs, rfl, hm, rfl, hne, hz, hl, q⟩, k⟩ := h
  cases rep_ref.mp r1
  obtain ⟨w, rfl, rw⟩ := reps1 r2
  obtain ⟨vs, hp, rs⟩ := W.cell p _ hm
  obtain ⟨b, ws, rfl, hb, rz⟩ := dct_at W rw hz
  obtain ⟨st, W2⟩ := wd_dct W hm (repk_merge rz rs)
  obtain ⟨u, rfl, ru⟩ := vals1 rv
  cases ru
  cases rx
  have hpb : p ≠ b := fun e => by
    subst e
    unfold dctOf at hz
    split at hz
    · cases hz
      obtain ⟨a, _, e, t, _⟩ := rep_dct.mp rw
      cases e
      exact t.2 (.inr (by rw [hm]; exact fun z => nomatch z))
    · rename_i p'
      cases rep_ref.mp rw
      exact hne rfl
    · cases hz
  obtain ⟨z1, hd1, vs1, rel1, dd1⟩ := dk_of I.hok hp
  obtain ⟨z2, hd2, vs2, rel2, dd2⟩ := dk_rd I.hok hb
  refine call_meetsIn PySem.F.slot_dict_update dd1.typeIs PySem.F.entry_dict_update (PySem.F.args_dict_update_2 _ _) (meets_dict_update (mixKind X.prog X.w) p b hpb hd2)
    ⟨vs1, vs2, dd1, dd2, by rw [← rel1.length, ← rel2.length, repk_len rs, repk_len rz]; exact hl, fun h' hm' _ hs => ?_⟩
  have hz' : (mergeK vs ws).length ≤ sizeLine := by
    have := length_mergeK ws vs
    rw [repk_len rs, repk_len rz] at this
    omega
  have he : ∃ q, h'.get? p = some q := let ⟨q, _, _, hq, _⟩ := hm'; ⟨q, hq⟩
  have I2 : Inv X pins σ (upd H p (.dK (mergeK vs ws))) { s with heap := h' } := d_write (t' := s.toks) I (by rw [hp]; exact True.intro) hs he (dk_new hz' hd1 (rel2.merge rel1) hm')
  exact ⟨.non, _, I2, rfl, k _ _ _ _ st W2 (rep_non.mpr rfl) q⟩
/-- the receiver is a dict of the store -/
def aDM (ρ : Rho3) (to : AEt) (t : AAt) : AEt := fun δ m Q => to δ m fun x m1 => (∃ es, dctP m1 x = some es) ∧ t δ m1 fun ds m2 => ρ x ds m2 Q
theorem dctP_at {K : PySem.W.Frag} {H : Hp} {B : Addr → Prop} {m : Mu} {d : D} {ds : List (Key × D)} {v : V} (W : Wd K H B m) (r : Rep K H (Ban B m) d v) (h : dctP m d = some ds) : ∃ a vs, v = .ref a ∧ H a = some (.dK vs) ∧ Repk K H (Ban B m) ds vs := by
  unfold dctP at h
  split at h
  · rename_i p
    split at h
    · rename_i e
      cases h
      obtain ⟨vs, hp, q⟩ := W.cell p _ e
      exact ⟨p, vs, rep_ref.mp r, hp, q⟩
    · cases h
  · cases h
theorem tyV_dct {K : PySem.W.Frag} {H : Hp} {p : Addr} {vs : List (Key × V)} (h : H p = some (.dK vs)) : tyV K "dict" (.ref p) H := .inr (.inr (.inl ⟨rfl, .inl ⟨vs, h⟩⟩))
theorem ae_dm {o e : Expr} {es : List Expr} {to : AEt} {t : AAt} {apos : Pos} {name : Str} {id : String} {ρ : Rho3} (slot : Slot "dict" name id) (hty : typeOf (.builtin id) = pure (.type "method_descriptor")) (hm : MtR X id (rmOf X.K ρ)) (ho : AE X o to) (h : AA X (e :: es) t)
    (hbase : attributeBase o name X.env (eval o X.env) = eval o X.env := by rfl)
    (hfew : ((backTo pos (starEach (e :: es) X.env)).all (fun x => !x.1) && (backToKw pos (keywordEach [] X.env)).all (fun x => x.1.isSome)
      && decide ((e :: es).length + ([] : List Keyword).length + (if ([] : List Keyword).isEmpty then 0 else 1) < 30)) = true := by rfl)
    (hline : (apos.endLine == pos.line) = true := by rfl) (hs : starEach (e :: es) X.env = (false, eval e X.env) :: starEach es X.env := by rfl) (hplain : (backTo pos (starEach es X.env)).any (·.1) = false := by rfl) :
    AE X (.Call (.Attribute o name apos) (e :: es) [] pos) (aDM ρ to t) :=
  let ⟨_, po, so⟩ := ho.ex
  let ⟨_, pa, s⟩ := h.ex
  ⟨_, pe_bm PySem.F.plainAttrs_dict slot hty hm po pa hbase hfew hline hs hplain, fun B δ m Q σ H W E h Q' k => so B δ m _ σ H W E h _ fun x m1 v H1 s1 W1 r ⟨⟨es, hl⟩, q⟩ => by
    obtain ⟨p, vs, rfl, hp, rs⟩ := dctP_at W1 r hl
    exact ⟨tyV_dct hp, s B δ m1 _ σ H1 W1 (E.carry s1.carry) q _ fun ds m2 ws H2 s2 W2 r2 q2 => ⟨B, m2, x, ds, Q, W2, Rep.carry s2.carry _ _ r, r2, q2, k.step (s1.trans s2)⟩⟩⟩
theorem ae_dupd {o e : Expr} {to : AEt} {t : AEt} {apos : Pos} (ho : AE X o to) (h : AE X e t)
    (hbase : attributeBase o "update" X.env (eval o X.env) = eval o X.env := by rfl)
    (hfew : ((backTo pos (starEach [e] X.env)).all (fun x => !x.1) && (backToKw pos (keywordEach [] X.env)).all (fun x => x.1.isSome)
      && decide (([e] : List Expr).length + ([] : List Keyword).length + (if ([] : List Keyword).isEmpty then 0 else 1) < 30)) = true := by rfl)
    (hline : (apos.endLine == pos.line) = true := by rfl) (hs : starEach [e] X.env = (false, eval e X.env) :: starEach [] X.env := by rfl) (hplain : (backTo pos (starEach [] X.env)).any (·.1) = false := by rfl) :
    AE X (.Call (.Attribute o "update" apos) [e] [] pos) (aDM rhoUpdate to (aCons t aNil)) := ae_dm PySem.F.slot_dict_update PySem.F.type_dict_update mt_updateD ho (aa_cons h aa_nil hs) hbase hfew hline hs hplain
/-! ### isinstance(x, (A, B)) -/
def rcIsi2 : SpD := fun ds m Q => ∃ x a b t, ds = [x, .tup [.ty a, .ty b]] ∧ a ∈ ["str", "int", "bool", "tuple", "list"] ∧ b ∈ ["str", "int", "bool", "tuple", "list"] ∧ tyD m x = some t ∧ Q (.bl (isB t a || isB t b)) m
theorem isiF {pins : List (Addr × Obj)} {σ : L2.St} {H : Hp} {s : Shared} {x : V} {tp : Addr} {o : Obj} {cs : List V} {us ws : List Value} {t : Value} {b : Bool} {Q : VK} (I : Inv X pins σ H s) (r : Vals [x, .ref tp] us) (hT : H tp = some (.frz o (.tup cs))) (k : Paired ClsV cs ws) (ty : TyX X.K H x t) (e : PySem.W.kitAny X.K t ws = some b) (q : Q (.bl b) H) :
    wpAny (model X.prog X.w) X.A (call (.builtin "isinstance") us) (EP X pins σ Q) X.xe s := by
  obtain ⟨u1, u2, rfl, r1, r2⟩ := vals2 r
  cases (show u2 = Value.ref tp from r2)
  obtain ⟨P, Z, p, hx⟩ := kit_of I r1 ty
  obtain ⟨_, _, its, rv, o, h1, h2, n, h3⟩ := (show ObjOk X.prog X.w H s.heap tp (.frz _ (.tup cs)) from I.hok tp _ hT)
  have e3 := ClsV.all k rv
  subst e3
  obtain ⟨oc, od, dt, sl⟩ := o
  simp only at h2 h3
  subst h2 h3
  exact PySem.W.kia_tup Z I.kIn p h1 e hx fun tk => ⟨.bl b, H, I.tok tk, rfl, q⟩
theorem kit2 {K : PySem.W.Frag} {t a b : String} (ht : t ∈ ["NoneType", "bool", "int", "str", "tuple", "list", "dict"]) (ha : a ∈ ["str", "int", "bool", "tuple", "list"]) (hb : b ∈ ["str", "int", "bool", "tuple", "list"]) : PySem.W.kitAny K (.type t) [.type a, .type b] = some (isB t a || isB t b) :=
  kitAny_cons (kit_ty (isB_tab t ht a ha)) (fun e => by
    rw [e, Bool.false_or]
    exact kitAny_cons (kit_ty (isB_tab t ht b hb)) (fun e => by rw [e]; exact kitAny_nil) (fun e => e)) (fun e => by rw [e]; rfl)
theorem cr_isi2 : CallR X (.builtin "isinstance") (rcOf X.K rcIsi2) := by
  intro pins s σ H xs us Q' I r h
  obtain ⟨B, m, ds, Q, W, rs, ⟨x, a, b, t, rfl, ha, hb, ht, h⟩, k⟩ := h
  obtain ⟨v, w, rfl, r1, r2⟩ := reps2 rs
  obtain ⟨p, vs, rfl, tt, q⟩ := rep_tup.mp r2
  obtain ⟨v1, v2, rfl, e1, e2⟩ := reps2 q
  cases rep_ty.mp e1; cases rep_ty.mp e2
  have ha' := kit2 (K := X.K) (tyD_mem ht) ha hb
  rcases tt with ⟨o, e, _, _⟩ | ⟨o, its, n, h1, h2, h3, h4, h5, h6⟩
  · exact isiF I r e (.cons (ClsV.ty a) (.cons (ClsV.ty b) .nil)) (tyX_of W r1 ht) ha' (k.now W (rep_bl.mpr rfl) h)
  · obtain ⟨oc, od, dt, sl⟩ := o
    simp only at h2 h3 h4
    subst h2 h3 h4
    have e3 := ClsV.all (.cons (ClsV.ty a) (.cons (ClsV.ty b) .nil)) h6
    exact call_isiK pins s σ H _ us Q' I r ⟨v, p, none, its.toList, n, sl, .type t, _, rfl, by rw [h1], tyX_of W r1 ht, by rw [e3]; exact ha', k.now W (rep_bl.mpr rfl) h⟩
/-! ### max(xs, default=n) of ints -/
theorem reads_ints {h : Heap} : ∀ {ns : List Int} {us : List Value}, IntsAre us ns → ReadsAll h us (ns.map .int) []
  | _, _, .nil => .nil
  | _, _, .cons i t r => by
    have := ReadsAll.cons (Reads.int (h := h) i t) (reads_ints r)
    exact this
theorem depth_ints : ∀ ns : List Int, PyData.depthAll (ns.map .int) = 0
  | [] => rfl
  | n :: ns => by
    rw [List.map_cons]
    show max _ (PyData.depthAll (ns.map .int)) = 0
    rw [depth_ints ns]; rfl
def rcMaxD (n0 : Int) : SpD := fun ds m Q => ∃ (x : D) (ns : List Int), ds = [x] ∧ lstOf m x = some (ns.map D.int) ∧ Q (.int (match ns with | [] => n0 | n :: r => r.foldl max n)) m
theorem ints_reps {K : PySem.W.Frag} {H : Hp} {N : Addr → Prop} {ns : List Int} {vs : List V} (r : Reps K H N (ns.map D.int) vs) : vs = ns.map V.int := vals_intD r
theorem maxd_run (n0 : Int) : CallRK X (.builtin "max") ["default"] (fun xs zs H Q' => X.calm = true ∧ X.A.units + 64 < cLine ∧ zs = [.int n0] ∧ rcOf X.K (rcMaxD n0) xs H Q') := by
  intro pins s σ H xs zs us ws Q' I r rz h
  obtain ⟨hc, hu, rfl, B, m, ds, Q, W, rs, ⟨x, ns, rfl, h, q⟩, k⟩ := h
  obtain ⟨v, rfl, r1⟩ := reps1 rs
  obtain ⟨l, vs, rfl, hl, rn⟩ := lst_at W r1 h
  obtain rfl := vals_intD rn
  obtain ⟨u, rfl, ru⟩ := vals1 r
  cases ru
  obtain ⟨z, rfl, rz2⟩ := vals1 rz
  obtain ⟨its, rv, hll, _⟩ := I.list (SqL.of hl : SqL X.K H l _)
  have hk := k.now W (rep_int.mpr rfl) q
  have al : PySem.W.AlikeAll (ns.map PyData.int) := by
    refine ⟨fun x hx y hy => ?_, fun x hx => ?_⟩
    · obtain ⟨i, _, rfl⟩ := List.mem_map.mp hx
      obtain ⟨j, _, rfl⟩ := List.mem_map.mp hy
      rfl
    · obtain ⟨i, _, rfl⟩ := List.mem_map.mp hx
      exact fun z => nomatch z
  refine PySem.W.max_list_default (A := X.A) (I.ok.hd hc) hll.isList (xs := ns.map .int) (reads_ints rv.ints) al (by rw [depth_ints]; omega) (fun e h' tk hkp => ?_) fun y ys i v h' tk bs e hi hr hkp => ?_
  · have : ns = [] := List.map_eq_nil_iff.mp e
    subst this
    exact ⟨.int n0, H, I.kept hkp, rz2, hk⟩
  · cases ns with
    | nil => cases e
    | cons n r =>
      rw [List.map_cons] at e
      injection e with e1 e2
      subst e1 e2
      rw [PySem.W.maxD_ints] at hr
      cases hr
      exact ⟨.int _, H, I.kept hkp, ⟨_, rfl⟩, hk⟩
def aMaxD (n0 : Int) (t : AEt) : AEt := fun δ m Q => t δ m fun x m1 => rcMaxD n0 [x] m1 Q
theorem ae_maxd {e d : Expr} {te : AEt} {x : Str} {p kpos : Pos} {n0 : Int} (hb : x = "max") (hc : X.calm = true) (hu : X.A.units + 64 < cLine) (hm : X.mg x = none) (he : AE X e te) (hd : PE X d (tC (.int n0))) (hg : Gl X x := by rfl) (hv : bootBuiltins x = some (.builtin "max") := by first | exact boot_max | rfl)
    (hn : x ≠ "__name__" := by decide) (hdb : (x == ("__debug__" : Str)) = false := by decide)
    (h1 : backTo pos (starEach [e] X.env) = (false, eval e X.env) :: backTo pos (starEach [] X.env) := by rfl) (hpl : (backTo pos (starEach [e] X.env)).any (·.1) = false := by rfl) (hs : starEach [e] X.env = (false, eval e X.env) :: starEach [] X.env := by rfl)
    (hall : (backToKw pos (keywordEach [⟨some "default", d, kpos⟩] X.env)).all (·.1.isSome) = true := by rfl) (hnone : (backToKw pos (keywordEach [⟨some "default", d, kpos⟩] X.env)).any (·.1.isNone) = false := by rfl) (hks : (backToKw pos (keywordEach [⟨some "default", d, kpos⟩] X.env)).filterMap (·.1) = [("default" : Str)] := by rfl) :
    AE X (.Call (.Name x p) [e] [⟨some "default", d, kpos⟩] pos) (aMaxD n0 te) :=
  let ⟨_, pa, s⟩ := he.ex
  ⟨_, pe_callBK (maxd_run n0) hg hm hv (pa_cons pa pa_nil hs) (pk_cons hd pk_nil) hn hdb h1 hpl hall hnone hks, fun B δ m Q σ H W E h Q' k => s B δ m _ σ H W E h _ fun x m1 v H1 s1 W1 r q =>
    ⟨hc, hu, rfl, B, m1, [x], Q, W1, Reps.one r, q, k.step s1⟩⟩
end
end L3
/-! L3n: defs that forget what they kept for themselves; loops over lists of unknown length. -/
namespace L3
open PySem PySem.Spec PyProof.Rows L2
/-- less is known of the store -/
def Sub (m2 m1 : Mu) : Prop := ∀ a c, m2 a = some c → m1 a = some c
theorem Sub.refl (m : Mu) : Sub m m := fun _ _ h => h
theorem Sub.trans {a b c : Mu} (h : Sub a b) (g : Sub b c) : Sub a c := fun x d e => g x d (h x d e)
theorem Sub.non {m2 m1 : Mu} (h : Sub m2 m1) {a : Addr} (e : m1 a = none) : m2 a = none := by
  cases q : m2 a with
  | none => rfl
  | some c => have := h a c q; rw [e] at this; cases this
theorem Sub.put {m : Mu} {p : Addr} {c : Cell} (h : m p = none) : Sub m (m.put p c) := fun a d e => by
  have ne : a ≠ p := fun z => by subst z; rw [h] at e; cases e
  rw [Mu.put_ne ne]; exact e
theorem ban_sub {B : Addr → Prop} {m2 m1 : Mu} (h : Sub m2 m1) {a : Addr} (z : Ban B m2 a) : Ban B m1 a := z.imp id fun n e => n (h.non e)
theorem carry_sub {H : Hp} {B : Addr → Prop} {m2 m1 : Mu} (h : Sub m2 m1) : Carry H (Ban B m1) H (Ban B m2) := fun x o e n => ⟨e, fun z => n (ban_sub h z)⟩
theorem Wd.sub {K : PySem.W.Frag} {H : Hp} {B : Addr → Prop} {m1 m2 : Mu} (W : Wd K H B m1) (h : Sub m2 m1) : Wd K H B m2 :=
  ⟨fun a c e => CellOk.carry (carry_sub h) (fun o q => q) (fun dx q n => ⟨q, h.non n⟩) (W.cell a c (h a c e)), fun a b => let ⟨p, q⟩ := W.hid a b; ⟨p, h.non q⟩⟩
theorem step_sub {H : Hp} {m1 m2 : Mu} (h : Sub m2 m1) : Step H m1 H m2 := fun x o e n => ⟨e, h.non n⟩
/-- what a def hands on: it may forget, and freeze a list that it made -/
def Fz (Q : EK) : EK := fun d m1 => (∃ m2, Sub m2 m1 ∧ Q d m2) ∨ ∃ p ds m2, d = .ref p ∧ m1 p = some (.lst ds) ∧ Sub m2 (m1.del p) ∧ Q (.lst ds) m2
theorem PostE.fz {K : PySem.W.Frag} {B : Addr → Prop} {H : Hp} {m : Mu} {Q : EK} {Q' : VK} (k : PostE K B H m Q Q') : PostE K B H m (Fz Q) Q' := fun d m1 v H1 st W r q => by
  rcases q with ⟨m2, hs, q⟩ | ⟨p, ds, m2, rfl, hp, hs, q⟩
  · exact k d m2 v H1 (st.trans (step_sub hs)) (W.sub hs) (Rep.carry (carry_sub hs) _ _ r) q
  · obtain ⟨vs, hv, rs⟩ := W.cell p _ hp
    have r2 : Rep K H1 (Ban B (m1.del p)) (.lst ds) v := rep_lst.mpr ⟨p, vs, rep_ref.mp r, ⟨hv, not_ban_del W hp⟩, Reps.carry carry_del _ _ rs⟩
    exact k _ m2 v H1 (st.trans (step_del.trans (step_sub hs))) ((W.del p).sub hs) (Rep.carry (carry_sub hs) _ _ r2) q
theorem Fz.now {Q : EK} {d : D} {m : Mu} (q : Q d m) : Fz Q d m := .inl ⟨m, Sub.refl m, q⟩
theorem Fz.to {Q : EK} {d : D} {m m1 : Mu} (h : Sub m m1) (q : Q d m) : Fz Q d m1 := .inl ⟨m, h, q⟩
theorem Fz.lst {Q : EK} {p : Addr} {ds : List D} {m m1 : Mu} (hp : m1 p = some (.lst ds)) (h : Sub m m1) (hn : m p = none) (q : Q (.lst ds) m) : Fz Q (.ref p) m1 := .inr ⟨p, ds, m, rfl, hp, fun a c e => by
  have ne : a ≠ p := fun z => by subst z; rw [hn] at e; cases e
  rw [Mu.del_ne ne]; exact h a c e, q⟩
/-- the ends of a def's body -/
abbrev endsZ (Q : EK) : AEnds := { nx := fun _ m' => Fz Q .non m', rt := Fz Q }
theorem fnd_ofZ {P : Program} {w : World} {K : PySem.W.Frag} {mg : Str → Option Value} {base : Heap} {x : Str} {st : Stmt} {N ps : List Str} {k : Nat} {sp : SpD} (F : DefT K mg x st ps) (S : FnScope N ps (defScope st)) (hlen : ∀ ds m Q, sp ds m Q → ds.length = ps.length)
    (hbody : ∀ (f : Addr) (cdv : Value) (A : Around) (outer : List Env) (s : Shared) (H : Hp) (E : XK), Room k (A.deeper (envOfC x (defScope st) s.heap.objs.size f cdv)) →
      ∃ t, ASs (cxOf L2.CX0 P w K mg base N x (defScope st) f cdv A outer s H E).nox (defBody st) t ∧ ∀ ds m Q, sp ds m Q → t (endsZ Q) (startD N ds) m) : FnD P w K mg base x (k + 1) sp := by
  obtain ⟨f, fd, F, hm, hb⟩ := F.ex
  refine ⟨f, fd, ps, F.ok S (fun vs H Q E ⟨B, m, ds, Qd, W, r, q, _⟩ => by rw [r.len]; exact hlen _ _ _ q) (fun cdv A outer s H vs Q E hr ⟨B, m, ds, Qd, W, r, q, k⟩ => ?_), hm, F.kp, hb⟩
  obtain ⟨t, h, hq⟩ := hbody f cdv A outer s H E hr
  obtain ⟨ts, ps', ss⟩ := h.ex
  refine ⟨ts, PSs.nox ps', ss B _ (startD N ds) m _ H W (EnvD.start N r) (hq ds m Qd q) _ ⟨fun δ' m' σ' H' st W' E' q' => k.fz _ m' _ H' st W' (rep_non.mpr rfl) q', k.fz, fun _ _ _ _ _ _ _ q' => q'.elim, fun _ _ _ _ _ _ _ q' => q'.elim⟩⟩
/-! ### loops -/
/-- one turn of a comprehension -/
def lcStep (g : AGt) (tt : ATt) (te : AEt) (δw : Dt) (d : D) (m : Mu) (Q : Option D → Mu → Prop) : Prop := g d δw m fun δ2 m2 => tt δ2 m2 fun b m3 => if b = true then te δ2 m3 fun y m4 => Q (some y) m4 else Q none m3
theorem lcGo_cons {g : AGt} {tt : ATt} {te : AEt} {δw : Dt} {Q : EK} {d : D} {ds acc : List D} {m : Mu} : lcGo g tt te δw Q (d :: ds) acc m = lcStep g tt te δw d m fun o m' => lcGo g tt te δw Q ds (acc ++ o.toList) m' := by
  show g d δw m _ = g d δw m _
  congr 1
  funext δ2 m2
  congr 1
  funext b m3
  simp
/-- each item by itself, the store as it is -/
theorem lc_pure {g : AGt} {tt : ATt} {te : AEt} {δw : Dt} {Q : EK} (f : D → Option D) {m : Mu} : ∀ {ds acc : List D}, (∀ d ∈ ds, ∀ R : Option D → Mu → Prop, R (f d) m → lcStep g tt te δw d m R) → Q (.lst (acc ++ ds.filterMap f)) m → lcGo g tt te δw Q ds acc m
  | [], acc, _, q => by
    show Q (.lst acc) m
    simpa using q
  | d :: ds, acc, h, q => by
    rw [lcGo_cons]
    refine h d List.mem_cons_self _ (lc_pure f (fun x hx => h x (List.mem_cons_of_mem _ hx)) ?_)
    rw [List.filterMap_cons] at q
    cases e : f d with
    | none => rw [e] at q; simpa using q
    | some y => rw [e] at q; simpa using q
/-- .. with what holds along the way -/
theorem lc_inv {g : AGt} {tt : ATt} {te : AEt} {δw : Dt} {Q : EK} (I : List D → List D → Mu → Prop) (h : ∀ d ds acc m, I (d :: ds) acc m → ∀ R : Option D → Mu → Prop, (∀ o m', I ds (acc ++ o.toList) m' → R o m') → lcStep g tt te δw d m R) (q : ∀ acc m, I [] acc m → Q (.lst acc) m) :
    ∀ {ds acc : List D} {m : Mu}, I ds acc m → lcGo g tt te δw Q ds acc m
  | [], acc, m, i => q acc m i
  | d :: ds, acc, m, i => by
    rw [lcGo_cons]
    exact h d ds acc m i _ fun o m' i' => lc_inv I h q i'
theorem for_inv {g : AGt} {tb : ASt} {Z : AEnds} (I : List D → Dt → Mu → Prop) (h : ∀ d ds δ m, I (d :: ds) δ m → ∀ nx : Dt → Mu → Prop, (∀ δ' m', I ds δ' m' → nx δ' m') → g d δ m fun δ2 m2 => tb { Z with nx := nx, ct := nx, bk := Z.nx } δ2 m2) (q : ∀ δ m, I [] δ m → Z.nx δ m) :
    ∀ {ds : List D} {δ : Dt} {m : Mu}, I ds δ m → forGo g tb Z ds δ m
  | [], δ, m, i => q δ m i
  | d :: ds, δ, m, i => h d ds δ m i _ fun δ' m' i' => for_inv I h q i'
end L3
/-! L4: the things the laws speak of, with Lean types: kinds, bodies, parts. -/
namespace L3
open PySem PySem.Spec PyProof.Rows L2
theorem fnd_never {P : Program} {w : World} {K : PySem.W.Frag} {mg : Str → Option Value} {base : Heap} {x : Str} {st : Stmt} {N ps : List Str} {k : Nat} {sp : SpD} (F : DefT K mg x st ps) (S : FnScope N ps (defScope st)) (h : ∀ ds m Q, ¬ sp ds m Q) : FnD P w K mg base x (k + 1) sp :=
  fnd_ofZ F S (fun ds m Q q => (h _ _ _ q).elim) fun f cdv A outer s H E hr => ⟨_, ass_never, fun ds m Q q => (h _ _ _ q).elim⟩
inductive Kd where
  | n | t | l
  deriving DecidableEq
def Kd.s : Kd → Str
  | .n => "number"
  | .t => "truth"
  | .l => "list"
inductive W1 where
  | nt | fst | rst | many
  deriving DecidableEq
inductive W2 where
  | plus | less | times | below | same | and | put | thn
  deriving DecidableEq
def W1.s : W1 → Str
  | .nt => "not"
  | .fst => "first"
  | .rst => "rest"
  | .many => "many"
def W2.s : W2 → Str
  | .plus => "plus"
  | .less => "less"
  | .times => "times"
  | .below => "below"
  | .same => "same"
  | .and => "and"
  | .put => "put"
  | .thn => "then"
/-- a text of one sign -/
def sg (c : Nat) : Str := ⟨#[c]⟩
inductive Bd where
  | num (i : Int) | tru (b : Bool) | emp | arg | cel (c : Nat) | un (w : W1) (a : Bd) | bin (w : W2) (a b : Bd) | ite (a b c : Bd) | set (c : Nat) (a : Bd) | cal (d : Nat) (a : Bd)
  deriving DecidableEq
def Bd.enc : Bd → D
  | .num i => .tup [.str "number", .int i]
  | .tru b => .tup [.str "truth", .bl b]
  | .emp => .tup [.str "empty"]
  | .arg => .tup [.str "argument"]
  | .cel c => .tup [.str "cell", .str (sg c)]
  | .un w a => .tup [.str w.s, a.enc]
  | .bin w a b => .tup [.str w.s, a.enc, b.enc]
  | .ite a b c => .tup [.str "if", a.enc, b.enc, c.enc]
  | .set c a => .tup [.str "set", .str (sg c), a.enc]
  | .cal d a => .tup [.str "call", .str (sg d), a.enc]
def Bd.words : Bd → Nat
  | .un _ a => 1 + a.words
  | .bin _ a b => 1 + a.words + b.words
  | .ite a b c => 1 + a.words + b.words + c.words
  | .set _ a => 1 + a.words
  | .cal _ a => 1 + a.words
  | _ => 1
def Bd.dep : Bd → Nat
  | .un _ a => a.dep + 1
  | .bin _ a b => max a.dep b.dep + 1
  | .ite a b c => max a.dep (max b.dep c.dep) + 1
  | .set _ a => a.dep + 1
  | .cal _ a => a.dep + 1
  | _ => 1
def cellC (c : Nat) : Prop := c ∈ [112, 113, 114, 115]
def deedC (c : Nat) : Prop := c ∈ [97, 98, 99, 100, 101, 102, 103, 104]
def partC (c : Nat) : Prop := c ∈ [65, 66, 67, 68, 69, 70]
instance (c : Nat) : Decidable (cellC c) := by unfold cellC; infer_instance
instance (c : Nat) : Decidable (deedC c) := by unfold deedC; infer_instance
instance (c : Nat) : Decidable (partC c) := by unfold partC; infer_instance
def Bd.wf : Bd → Prop
  | .num i => -99 ≤ i ∧ i ≤ 99
  | .cel c => cellC c
  | .un _ a => a.wf
  | .bin _ a b => a.wf ∧ b.wf
  | .ite a b c => a.wf ∧ b.wf ∧ c.wf
  | .set c a => cellC c ∧ a.wf
  | .cal d a => deedC d ∧ a.wf
  | _ => True
theorem Bd.dep_pos (b : Bd) : 1 ≤ b.dep := by cases b <;> simp [Bd.dep]
/-- data that == can look at -/
def okD (d : D) (n : Nat) : Prop := d.plain = true ∧ d.pd.canLay0 = true ∧ d.pd.depth ≤ n
theorem okD.eq {d : D} {n : Nat} (h : okD d n) (hn : n ≤ 64) : eqOk d = true := by
  obtain ⟨a, b, c⟩ := h
  unfold eqOk SeqAt.shaped
  rw [a, b, decide_eq_true (Nat.le_trans c hn)]; rfl
theorem okD.mono {d : D} {n k : Nat} (h : okD d n) (hn : n ≤ k) : okD d k := ⟨h.1, h.2.1, Nat.le_trans h.2.2 hn⟩
theorem okD_str {x : Str} {n : Nat} (h : PyData.strOk x = true) : okD (.str x) n := ⟨rfl, by simpa only [D.pd, PyData.canLay0] using h, by simp [D.pd, PyData.depth]⟩
theorem okD_int {x : Int} {n : Nat} : okD (.int x) n := ⟨rfl, by simp [D.pd, PyData.canLay0], by simp [D.pd, PyData.depth]⟩
theorem okD_bl {x : Bool} {n : Nat} : okD (.bl x) n := ⟨rfl, by simp [D.pd, PyData.canLay0], by simp [D.pd, PyData.depth]⟩
theorem okD_non {n : Nat} : okD .non n := ⟨rfl, by simp [D.pd, PyData.canLay0], by simp [D.pd, PyData.depth]⟩
theorem oks_mk : ∀ {ds : List D} {n : Nat}, (∀ d ∈ ds, okD d n) → plains ds = true ∧ PyData.canLayAll0 (pds ds) = true ∧ PyData.depthAll (pds ds) ≤ n
  | [], n, _ => by simp [plains, pds, PyData.canLayAll0, PyData.depthAll]
  | d :: ds, n, h => by
    obtain ⟨a, b, c⟩ := h d List.mem_cons_self
    obtain ⟨a2, b2, c2⟩ := oks_mk fun x hx => h x (List.mem_cons_of_mem _ hx)
    refine ⟨by simp [plains, a, a2], by simp [pds, PyData.canLayAll0, b, b2], ?_⟩
    simp only [pds, PyData.depthAll]
    omega
theorem okD_tup {ds : List D} {n : Nat} (h : ∀ d ∈ ds, okD d n) : okD (.tup ds) (n + 1) := by
  obtain ⟨a, b, c⟩ := oks_mk h
  exact ⟨by simpa only [D.plain] using a, by simpa only [D.pd, PyData.canLay0] using b, by simp only [D.pd, PyData.depth]; omega⟩
theorem okD_lst {ds : List D} {n : Nat} (h : ∀ d ∈ ds, okD d n) : okD (.lst ds) (n + 1) := by
  obtain ⟨a, b, c⟩ := oks_mk h
  exact ⟨by simpa only [D.plain] using a, by simpa only [D.pd, PyData.canLay0] using b, by simp only [D.pd, PyData.depth]; omega⟩
theorem sg_ok {c : Nat} (h : c < 1114112) : PyData.strOk (sg c) = true := by simp [PyData.strOk, sg, h]
theorem okD_sg {c n : Nat} (h : c < 1114112) : okD (.str (sg c)) n := okD_str (sg_ok h)
theorem cellC.lt {c : Nat} (h : cellC c) : c < 1114112 := by simp [cellC] at h; omega
theorem deedC.lt {c : Nat} (h : deedC c) : c < 1114112 := by simp [deedC] at h; omega
theorem partC.lt {c : Nat} (h : partC c) : c < 1114112 := by simp [partC] at h; omega
theorem Kd.ok (k : Kd) : PyData.strOk k.s = true := by cases k <;> decide +kernel
theorem W1.ok (k : W1) : PyData.strOk k.s = true := by cases k <;> decide +kernel
theorem W2.ok (k : W2) : PyData.strOk k.s = true := by cases k <;> decide +kernel
theorem Bd.okD : ∀ (b : Bd), b.wf → L3.okD b.enc b.dep
  | .num i, _ => okD_tup (by simp; exact ⟨okD_str (by decide +kernel), okD_int⟩)
  | .tru i, _ => okD_tup (by simp; exact ⟨okD_str (by decide +kernel), okD_bl⟩)
  | .emp, _ => okD_tup (by simp; exact okD_str (by decide +kernel))
  | .arg, _ => okD_tup (by simp; exact okD_str (by decide +kernel))
  | .cel c, h => okD_tup (by simp; exact ⟨okD_str (by decide +kernel), okD_sg (cellC.lt h)⟩)
  | .un w a, h => okD_tup (by simp; exact ⟨okD_str w.ok, Bd.okD a h⟩)
  | .bin w a b, h => okD_tup (by simp; exact ⟨okD_str w.ok, (Bd.okD a h.1).mono (by omega), (Bd.okD b h.2).mono (by omega)⟩)
  | .ite a b c, h => okD_tup (by simp; exact ⟨okD_str (by decide +kernel), (Bd.okD a h.1).mono (by omega), (Bd.okD b h.2.1).mono (by omega), (Bd.okD c h.2.2).mono (by omega)⟩)
  | .set c a, h => okD_tup (by simp; exact ⟨okD_str (by decide +kernel), okD_sg (cellC.lt h.1), Bd.okD a h.2⟩)
  | .cal c a, h => okD_tup (by simp; exact ⟨okD_str (by decide +kernel), okD_sg (deedC.lt h.1), Bd.okD a h.2⟩)
theorem Bd.tup (b : Bd) : ∃ x ds, b.enc = .tup (.str x :: ds) := by cases b <;> exact ⟨_, _, rfl⟩
theorem Bd.ne_nil (b : Bd) : eqD b.enc (.tup []) = false := by
  obtain ⟨x, ds, e⟩ := b.tup
  rw [e]
  simp [eqD, D.pd, pds, PyData.eqv, PyData.eqvAll]
/-! ### kinds -/
def lk {α : Type} (l : List (Nat × α)) (d : Nat) : Option α := (l.find? fun p => decide (p.1 = d)).map (·.2)
abbrev Gv := List (Nat × (Kd × Kd))
abbrev Cv := List (Nat × Kd)
def W1.takes : W1 → Kd
  | .nt => .t
  | _ => .l
def W1.tells : W1 → Kd
  | .nt => .t
  | .rst => .l
  | _ => .n
def W2.kind : W2 → Kd → Kd → Option Kd
  | .plus, a, b => if a = .n ∧ b = .n then some .n else none
  | .less, a, b => if a = .n ∧ b = .n then some .n else none
  | .times, a, b => if a = .n ∧ b = .n then some .n else none
  | .below, a, b => if a = .n ∧ b = .n then some .t else none
  | .same, a, b => if a = b then some .t else none
  | .and, a, b => if a = .t ∧ b = .t then some .t else none
  | .put, a, b => if a = .n ∧ b = .l then some .l else none
  | .thn, _, b => some b
def Bd.kind (tk : Kd) (gv : Gv) (cl : Cv) : Bd → Option Kd
  | .num _ => some .n
  | .tru _ => some .t
  | .emp => some .l
  | .arg => some tk
  | .cel c => lk cl c
  | .un w a => (a.kind tk gv cl).bind fun k => if k = w.takes then some w.tells else none
  | .bin w a b => (a.kind tk gv cl).bind fun k => (b.kind tk gv cl).bind fun j => w.kind k j
  | .ite a b c => (a.kind tk gv cl).bind fun k => (b.kind tk gv cl).bind fun i => (c.kind tk gv cl).bind fun j => if k = .t ∧ i = j then some i else none
  | .set c a => (a.kind tk gv cl).bind fun k => if lk cl c = some k then some k else none
  | .cal d a => (a.kind tk gv cl).bind fun k => (lk gv d).bind fun p => if p.1 = k then some p.2 else none
def kdD : Option Kd → D
  | none => .non
  | some k => .str k.s
def gvD (g : Gv) : List (Key × D) := g.map fun p => (.inr (sg p.1), .tup [.str p.2.1.s, .str p.2.2.s])
def cvD (c : Cv) : List (Key × D) := c.map fun p => (.inr (sg p.1), .str p.2.s)
theorem sg_inj {c d : Nat} : (sg c = sg d) = (c = d) := by simp [sg]
theorem getK_gv (d : Nat) : ∀ g : Gv, getK (gvD g) (.inr (sg d)) = (lk g d).map fun p => .tup [.str p.1.s, .str p.2.s]
  | [] => rfl
  | p :: g => by
    have ih := getK_gv d g
    unfold getK gvD lk at ih ⊢
    rw [List.map_cons, List.find?_cons, List.find?_cons]
    by_cases e : p.1 = d
    · subst e; simp
    · have e2 : ¬ sg p.1 = sg d := by rw [sg_inj]; exact e
      simp only [Sum.inr.injEq, e, e2, decide_false]
      exact ih
theorem getK_cv (d : Nat) : ∀ g : Cv, getK (cvD g) (.inr (sg d)) = (lk g d).map fun p => .str p.s
  | [] => rfl
  | p :: g => by
    have ih := getK_cv d g
    unfold getK cvD lk at ih ⊢
    rw [List.map_cons, List.find?_cons, List.find?_cons]
    by_cases e : p.1 = d
    · subst e; simp
    · have e2 : ¬ sg p.1 = sg d := by rw [sg_inj]; exact e
      simp only [Sum.inr.injEq, e, e2, decide_false]
      exact ih
end L3
/-! L5: more execution lemmas (partly printed). -/
namespace L3
open PySem PySem.Spec PyProof.Rows L2
section
variable {δ : Dt} {m : Mu} {Q : EK} {n : Nat} {d : D} {o : Option D}
theorem isi_str_str {z : Str} : rcIsi [.str z, .ty "str"] m Q = Q (.bl true) m := ex_isi (by decide) rfl
theorem isi_str_int {z : Str} : rcIsi [.str z, .ty "int"] m Q = Q (.bl false) m := ex_isi (by decide) rfl
theorem isi_str_bool {z : Str} : rcIsi [.str z, .ty "bool"] m Q = Q (.bl false) m := ex_isi (by decide) rfl
theorem isi_str_tuple {z : Str} : rcIsi [.str z, .ty "tuple"] m Q = Q (.bl false) m := ex_isi (by decide) rfl
theorem isi_str_list {z : Str} : rcIsi [.str z, .ty "list"] m Q = Q (.bl false) m := ex_isi (by decide) rfl
theorem isi_int_str {z : Int} : rcIsi [.int z, .ty "str"] m Q = Q (.bl false) m := ex_isi (by decide) rfl
theorem isi_int_int {z : Int} : rcIsi [.int z, .ty "int"] m Q = Q (.bl true) m := ex_isi (by decide) rfl
theorem isi_int_bool {z : Int} : rcIsi [.int z, .ty "bool"] m Q = Q (.bl false) m := ex_isi (by decide) rfl
theorem isi_int_tuple {z : Int} : rcIsi [.int z, .ty "tuple"] m Q = Q (.bl false) m := ex_isi (by decide) rfl
theorem isi_int_list {z : Int} : rcIsi [.int z, .ty "list"] m Q = Q (.bl false) m := ex_isi (by decide) rfl
theorem isi_bl_str {z : Bool} : rcIsi [.bl z, .ty "str"] m Q = Q (.bl false) m := ex_isi (by decide) rfl
theorem isi_bl_int {z : Bool} : rcIsi [.bl z, .ty "int"] m Q = Q (.bl true) m := ex_isi (by decide) rfl
theorem isi_bl_bool {z : Bool} : rcIsi [.bl z, .ty "bool"] m Q = Q (.bl true) m := ex_isi (by decide) rfl
theorem isi_bl_tuple {z : Bool} : rcIsi [.bl z, .ty "tuple"] m Q = Q (.bl false) m := ex_isi (by decide) rfl
theorem isi_bl_list {z : Bool} : rcIsi [.bl z, .ty "list"] m Q = Q (.bl false) m := ex_isi (by decide) rfl
theorem isi_non_str : rcIsi [.non, .ty "str"] m Q = Q (.bl false) m := ex_isi (by decide) rfl
theorem isi_non_int : rcIsi [.non, .ty "int"] m Q = Q (.bl false) m := ex_isi (by decide) rfl
theorem isi_non_bool : rcIsi [.non, .ty "bool"] m Q = Q (.bl false) m := ex_isi (by decide) rfl
theorem isi_non_tuple : rcIsi [.non, .ty "tuple"] m Q = Q (.bl false) m := ex_isi (by decide) rfl
theorem isi_non_list : rcIsi [.non, .ty "list"] m Q = Q (.bl false) m := ex_isi (by decide) rfl
theorem isi_tup_str {z : List D} : rcIsi [.tup z, .ty "str"] m Q = Q (.bl false) m := ex_isi (by decide) rfl
theorem isi_tup_int {z : List D} : rcIsi [.tup z, .ty "int"] m Q = Q (.bl false) m := ex_isi (by decide) rfl
theorem isi_tup_bool {z : List D} : rcIsi [.tup z, .ty "bool"] m Q = Q (.bl false) m := ex_isi (by decide) rfl
theorem isi_tup_tuple {z : List D} : rcIsi [.tup z, .ty "tuple"] m Q = Q (.bl true) m := ex_isi (by decide) rfl
theorem isi_tup_list {z : List D} : rcIsi [.tup z, .ty "list"] m Q = Q (.bl false) m := ex_isi (by decide) rfl
theorem isi_lst_str {z : List D} : rcIsi [.lst z, .ty "str"] m Q = Q (.bl false) m := ex_isi (by decide) rfl
theorem isi_lst_int {z : List D} : rcIsi [.lst z, .ty "int"] m Q = Q (.bl false) m := ex_isi (by decide) rfl
theorem isi_lst_bool {z : List D} : rcIsi [.lst z, .ty "bool"] m Q = Q (.bl false) m := ex_isi (by decide) rfl
theorem isi_lst_tuple {z : List D} : rcIsi [.lst z, .ty "tuple"] m Q = Q (.bl false) m := ex_isi (by decide) rfl
theorem isi_lst_list {z : List D} : rcIsi [.lst z, .ty "list"] m Q = Q (.bl true) m := ex_isi (by decide) rfl
theorem isi_dct_str {z : List (Key × D)} : rcIsi [.dct z, .ty "str"] m Q = Q (.bl false) m := ex_isi (by decide) rfl
theorem isi_dct_int {z : List (Key × D)} : rcIsi [.dct z, .ty "int"] m Q = Q (.bl false) m := ex_isi (by decide) rfl
theorem isi_dct_bool {z : List (Key × D)} : rcIsi [.dct z, .ty "bool"] m Q = Q (.bl false) m := ex_isi (by decide) rfl
theorem isi_dct_tuple {z : List (Key × D)} : rcIsi [.dct z, .ty "tuple"] m Q = Q (.bl false) m := ex_isi (by decide) rfl
theorem isi_dct_list {z : List (Key × D)} : rcIsi [.dct z, .ty "list"] m Q = Q (.bl false) m := ex_isi (by decide) rfl
theorem isi2_str {z : Str} : rcIsi2 [.str z, .tup [.ty "tuple", .ty "list"]] m Q = Q (.bl false) m := by
  unfold rcIsi2
  refine propext ⟨?_, fun q => ⟨.str z, "tuple", "list", "str", rfl, by decide, by decide, rfl, q⟩⟩
  rintro ⟨x, a, b, t, e, _, _, h, q⟩
  injection e with e1 e2
  subst e1
  injection e2 with e2 _
  injection e2 with e2
  injection e2 with e3 e4
  injection e4 with e4 _
  injection e3 with e3
  injection e4 with e4
  subst e3 e4
  cases h
  exact q
theorem isi2_int {z : Int} : rcIsi2 [.int z, .tup [.ty "tuple", .ty "list"]] m Q = Q (.bl false) m := by
  unfold rcIsi2
  refine propext ⟨?_, fun q => ⟨.int z, "tuple", "list", "int", rfl, by decide, by decide, rfl, q⟩⟩
  rintro ⟨x, a, b, t, e, _, _, h, q⟩
  injection e with e1 e2
  subst e1
  injection e2 with e2 _
  injection e2 with e2
  injection e2 with e3 e4
  injection e4 with e4 _
  injection e3 with e3
  injection e4 with e4
  subst e3 e4
  cases h
  exact q
theorem isi2_bl {z : Bool} : rcIsi2 [.bl z, .tup [.ty "tuple", .ty "list"]] m Q = Q (.bl false) m := by
  unfold rcIsi2
  refine propext ⟨?_, fun q => ⟨.bl z, "tuple", "list", "bool", rfl, by decide, by decide, rfl, q⟩⟩
  rintro ⟨x, a, b, t, e, _, _, h, q⟩
  injection e with e1 e2
  subst e1
  injection e2 with e2 _
  injection e2 with e2
  injection e2 with e3 e4
  injection e4 with e4 _
  injection e3 with e3
  injection e4 with e4
  subst e3 e4
  cases h
  exact q
theorem isi2_non : rcIsi2 [.non, .tup [.ty "tuple", .ty "list"]] m Q = Q (.bl false) m := by
  unfold rcIsi2
  refine propext ⟨?_, fun q => ⟨.non, "tuple", "list", "NoneType", rfl, by decide, by decide, rfl, q⟩⟩
  rintro ⟨x, a, b, t, e, _, _, h, q⟩
  injection e with e1 e2
  subst e1
  injection e2 with e2 _
  injection e2 with e2
  injection e2 with e3 e4
  injection e4 with e4 _
  injection e3 with e3
  injection e4 with e4
  subst e3 e4
  cases h
  exact q
theorem isi2_tup {z : List D} : rcIsi2 [.tup z, .tup [.ty "tuple", .ty "list"]] m Q = Q (.bl true) m := by
  unfold rcIsi2
  refine propext ⟨?_, fun q => ⟨.tup z, "tuple", "list", "tuple", rfl, by decide, by decide, rfl, q⟩⟩
  rintro ⟨x, a, b, t, e, _, _, h, q⟩
  injection e with e1 e2
  subst e1
  injection e2 with e2 _
  injection e2 with e2
  injection e2 with e3 e4
  injection e4 with e4 _
  injection e3 with e3
  injection e4 with e4
  subst e3 e4
  cases h
  exact q
theorem isi2_lst {z : List D} : rcIsi2 [.lst z, .tup [.ty "tuple", .ty "list"]] m Q = Q (.bl true) m := by
  unfold rcIsi2
  refine propext ⟨?_, fun q => ⟨.lst z, "tuple", "list", "list", rfl, by decide, by decide, rfl, q⟩⟩
  rintro ⟨x, a, b, t, e, _, _, h, q⟩
  injection e with e1 e2
  subst e1
  injection e2 with e2 _
  injection e2 with e2
  injection e2 with e3 e4
  injection e4 with e4 _
  injection e3 with e3
  injection e4 with e4
  subst e3 e4
  cases h
  exact q
theorem isi2_dct {z : List (Key × D)} : rcIsi2 [.dct z, .tup [.ty "tuple", .ty "list"]] m Q = Q (.bl false) m := by
  unfold rcIsi2
  refine propext ⟨?_, fun q => ⟨.dct z, "tuple", "list", "dict", rfl, by decide, by decide, rfl, q⟩⟩
  rintro ⟨x, a, b, t, e, _, _, h, q⟩
  injection e with e1 e2
  subst e1
  injection e2 with e2 _
  injection e2 with e2
  injection e2 with e3 e4
  injection e4 with e4 _
  injection e3 with e3
  injection e4 with e4
  subst e3 e4
  cases h
  exact q
theorem sz_0 : (0 ≤ sizeLine) = True := by rw [sizeLine_eq]; simp
theorem sz_1 : (1 ≤ sizeLine) = True := by rw [sizeLine_eq]; simp
theorem sz_2 : (2 ≤ sizeLine) = True := by rw [sizeLine_eq]; simp
theorem sz_3 : (3 ≤ sizeLine) = True := by rw [sizeLine_eq]; simp
theorem sz_4 : (4 ≤ sizeLine) = True := by rw [sizeLine_eq]; simp
theorem sz_5 : (5 ≤ sizeLine) = True := by rw [sizeLine_eq]; simp
theorem sz_6 : (6 ≤ sizeLine) = True := by rw [sizeLine_eq]; simp
theorem sz_7 : (7 ≤ sizeLine) = True := by rw [sizeLine_eq]; simp
theorem sz_8 : (8 ≤ sizeLine) = True := by rw [sizeLine_eq]; simp
theorem sz_9 : (9 ≤ sizeLine) = True := by rw [sizeLine_eq]; simp
theorem sz_10 : (10 ≤ sizeLine) = True := by rw [sizeLine_eq]; simp
theorem sz_11 : (11 ≤ sizeLine) = True := by rw [sizeLine_eq]; simp
theorem sz_12 : (12 ≤ sizeLine) = True := by rw [sizeLine_eq]; simp
theorem sz_13 : (13 ≤ sizeLine) = True := by rw [sizeLine_eq]; simp
theorem sz_14 : (14 ≤ sizeLine) = True := by rw [sizeLine_eq]; simp
theorem sz_15 : (15 ≤ sizeLine) = True := by rw [sizeLine_eq]; simp
theorem sz_16 : (16 ≤ sizeLine) = True := by rw [sizeLine_eq]; simp
theorem szl {n : Nat} (h : n ≤ 100000) : n ≤ sizeLine := by rw [sizeLine_eq]; omega
theorem sg_len (c : Nat) : (sg c).length = 1 := rfl
theorem ex_in_sg {c : Nat} {z : Str} {b : Bool} : rhoIn b (.str (sg c)) (.str z) m Q = Q (.bl (b ^^ decide (c ∈ z.cps.toList))) m := ex_in_str
/-- two tuples: == of data that is fine -/
theorem ex_eq_of {x y : D} {b : Bool} (hx : eqOk (rsv m x) = true) (hy : eqOk (rsv m y) = true) (e : eqD (rsv m x) (rsv m y) = b) : rhoEq x y m Q = Q (.bl b) m := by rw [ex_eq hx hy, e]
theorem ex_ne_of {x y : D} {b : Bool} (hx : eqOk (rsv m x) = true) (hy : eqOk (rsv m y) = true) (e : eqD (rsv m x) (rsv m y) = b) : rhoNe x y m Q = Q (.bl (!b)) m := by rw [ex_ne hx hy, e]
theorem ok_nil : eqOk (.tup []) = true := by decide +kernel
theorem okl_nil : eqOk (.lst []) = true := by decide +kernel
/-- the signs of the texts that come -/
theorem cps_of (s : String) : (PySem.Str.ofString s).cps.toList = s.toList.map Char.toNat := by
  rw [PySem.Str.ofString_eq_toList]
theorem ofs_inj {a b : String} : (PySem.Str.ofString a = PySem.Str.ofString b) = (a = b) := by
  refine propext ⟨fun h => ?_, fun h => by rw [h]⟩
  have e : a.toList.map Char.toNat = b.toList.map Char.toNat := by rw [← cps_of, ← cps_of, h]
  have inj : ∀ (xs ys : List Char), xs.map Char.toNat = ys.map Char.toNat → xs = ys := by
    intro xs
    induction xs with
    | nil => intro ys h; cases ys with
      | nil => rfl
      | cons _ _ => cases h
    | cons x xs ih => intro ys h; cases ys with
      | nil => cases h
      | cons y ys =>
        rw [List.map_cons, List.map_cons] at h
        injection h with h1 h2
        rw [ih ys h2, Char.toNat_inj.mp h1]
  exact String.toList_inj.mp (inj _ _ e)
end
end L3
/-! L6: execution lemmas about kinds, membership, dicts. -/
namespace L3
open PySem PySem.Spec PyProof.Rows L2
section
variable {δ : Dt} {m : Mu} {Q : EK} {n : Nat} {d : D} {o : Option D}
theorem inD_nil {x : D} : inD x [] = false := rfl
theorem inD_cons {x y : D} {ys : List D} : inD x (y :: ys) = (eqD y x || inD x ys) := rfl
theorem eqD_str {x y : Str} : eqD (.str x) (.str y) = decide (x = y) := by simp only [eqD, D.pd, PyData.eqv]; rfl
theorem eqD_int {x y : Int} : eqD (.int x) (.int y) = decide (x = y) := by simp only [eqD, D.pd, PyData.eqv]; rfl
theorem eqD_ns {x : Str} : eqD .non (.str x) = false := by simp only [eqD, D.pd, PyData.eqv]
theorem eqD_sn {x : Str} : eqD (.str x) .non = false := by simp only [eqD, D.pd, PyData.eqv]
theorem eqD_nn : eqD .non .non = true := by simp only [eqD, D.pd, PyData.eqv]
theorem fl_str {x : Str} : (D.str x).flat = true := by simp only [D.flat]
theorem fl_int {x : Int} : (D.int x).flat = true := by simp only [D.flat]
theorem fl_non : D.non.flat = true := by simp only [D.flat]
theorem fl_bl {b : Bool} : (D.bl b).flat = true := by simp only [D.flat]
theorem all_fl_nil : ([] : List D).all D.flat = true := by simp
theorem dctOf_dct {ds : List (Key × D)} : dctOf m (.dct ds) = some ds := rfl
theorem keyD_str {x : Str} : keyD (.str x) = some (.inr x) := rfl
theorem ex_in_dcts {x : Str} {ds : List (Key × D)} {b : Bool} : rhoIn b (.str x) (.dct ds) m Q = Q (.bl (b ^^ (getK ds (.inr x)).isSome)) m := ex_in_dct rfl
theorem ex_ix_dcts {ds : List (Key × D)} {x : Str} : rhoIx (.dct ds) (.str x) m Q = ∃ d, getK ds (.inr x) = some d ∧ Q d m := ex_ix_dct rfl
theorem Kd.s_inj {a b : Kd} : (a.s = b.s) = (a = b) := by cases a <;> cases b <;> simp [Kd.s, ofs_inj]
theorem Kd.s_n {a : Kd} : (a.s = PySem.Str.ofString "number") = (a = .n) := Kd.s_inj (b := .n)
theorem Kd.s_t {a : Kd} : (a.s = PySem.Str.ofString "truth") = (a = .t) := Kd.s_inj (b := .t)
theorem Kd.s_l {a : Kd} : (a.s = PySem.Str.ofString "list") = (a = .l) := Kd.s_inj (b := .l)
theorem Kd.s_ne {a : Kd} : (a.s = PySem.Str.ofString "") = False := by cases a <;> simp [Kd.s, ofs_inj]
def ksD (ks : List Kd) : List D := ks.map fun k => .str k.s
theorem ksD_ok (ks : List Kd) : eqOk (.tup (ksD ks)) = true := okD.eq (n := 1) (okD_tup fun d h => by
  obtain ⟨k, _, rfl⟩ := List.mem_map.mp h
  exact okD_str k.ok) (by omega)
theorem ksD_okl (ks : List Kd) : eqOk (.lst (ksD ks)) = true := okD.eq (n := 1) (okD_lst fun d h => by
  obtain ⟨k, _, rfl⟩ := List.mem_map.mp h
  exact okD_str k.ok) (by omega)
theorem eqv_ks : ∀ (ks js : List Kd), PyData.eqvAll (pds (ksD ks)) (pds (ksD js)) = decide (ks = js)
  | [], [] => by simp [ksD, pds, PyData.eqvAll]
  | [], _ :: _ => by simp [ksD, pds, PyData.eqvAll]
  | _ :: _, [] => by simp [ksD, pds, PyData.eqvAll]
  | k :: ks, j :: js => by
    have ih := eqv_ks ks js
    show (PyData.eqv (D.pd (.str k.s)) (D.pd (.str j.s)) && PyData.eqvAll (pds (ksD ks)) (pds (ksD js))) = _
    rw [ih]
    have : PyData.eqv (D.pd (.str k.s)) (D.pd (.str j.s)) = decide (k = j) := by
      rw [show PyData.eqv (D.pd (.str k.s)) (D.pd (.str j.s)) = decide (k.s = j.s) from eqD_str]
      simp only [Kd.s_inj]
    rw [this]
    simp [Bool.decide_and]
theorem ex_eq_ks {ks js : List Kd} : rhoEq (.tup (ksD ks)) (.tup (ksD js)) m Q = Q (.bl (decide (ks = js))) m :=
  ex_eq_of (ksD_ok ks) (ksD_ok js) (by show eqD (.tup (ksD ks)) (.tup (ksD js)) = _; simp only [eqD, D.pd, PyData.eqv]; exact eqv_ks ks js)
theorem ex_eq_ksl {ks js : List Kd} : rhoEq (.lst (ksD ks)) (.lst (ksD js)) m Q = Q (.bl (decide (ks = js))) m :=
  ex_eq_of (ksD_okl ks) (ksD_okl js) (by show eqD (.lst (ksD ks)) (.lst (ksD js)) = _; simp only [eqD, D.pd, PyData.eqv]; exact eqv_ks ks js)
/-- the words that a word holds -/
def Bd.subs : Bd → List Bd
  | .un _ a => [a]
  | .bin _ a b => [a, b]
  | .ite a b c => [a, b, c]
  | .set _ a => [a]
  | .cal _ a => [a]
  | _ => []
theorem kdD_cv {cl : Cv} {c : Nat} : ((lk cl c).map fun p => D.str p.s).getD .non = kdD (lk cl c) := by cases lk cl c <;> rfl
theorem kd_some {k : Kd} : kdD (some k) = .str k.s := rfl
theorem kd_none : kdD none = .non := rfl
theorem isSome_gv {g : Gv} {d : Nat} : ((lk g d).map fun p => D.tup [.str p.1.s, .str p.2.s]).isSome = (lk g d).isSome := by cases lk g d <;> rfl
end
end L3
/-! L7: sorted texts of one sign, dicts of pairs, parts. -/
namespace L3
open PySem PySem.Spec PyProof.Rows L2
/-! ### a list or a tuple that is walked -/
def aOrI (t u : AIt) : AIt := fun δ m Q => t δ m Q ∨ u δ m Q
theorem ai_or {X : Cx} {tg e : Expr} {t u : AIt} (h : AI X tg e t) (g : AI X tg e u) : AI X tg e (aOrI t u) :=
  let ⟨w1, p1, s1⟩ := h.ex
  let ⟨w2, p2, s2⟩ := g.ex
  ⟨fun σ H R => w1 σ H R ∨ w2 σ H R, ⟨fun pins s σ H R I q => q.elim (p1.run pins s σ H R I) (p2.run pins s σ H R I)⟩, fun B δ m Q σ H W E q R k => q.imp (fun q => s1 B δ m Q σ H W E q R k) (fun q => s2 B δ m Q σ H W E q R k)⟩
/-! ### sorted -/
def un (x : Str) : Nat := x.cps.toList.headD 0
theorem un_sg (c : Nat) : un (sg c) = c := rfl
theorem lt_sg (a b : Nat) : ltCps (sg a).cps.toList (sg b).cps.toList = decide (a < b) := by
  show ltCps [a] [b] = _
  simp [ltCps]
theorem rising_sg : ∀ (cs : List Nat) (p : Nat), risingS (sg p) (cs.map sg) = true → (p :: cs).Pairwise (· ≤ ·)
  | [], p, _ => by simp
  | c :: cs, p, h => by
    rw [List.map_cons] at h
    simp only [risingS, lt_sg, Bool.and_eq_true, Bool.not_eq_true', decide_eq_false_iff_not] at h
    have ih := rising_sg cs c h.2
    refine List.pairwise_cons.mpr ⟨fun x hx => ?_, ih⟩
    rcases List.mem_cons.mp hx with e | hx
    · omega
    · have := (List.pairwise_cons.mp ih).1 x hx
      omega
theorem sorted_sg {cs : List Nat} (h : sortedS (cs.map sg) = true) : cs.Pairwise (· ≤ ·) := by
  cases cs with
  | nil => simp
  | cons c cs => exact rising_sg cs c h
theorem perm_le : ∀ {xs ys : List Nat}, xs.Perm ys → xs.Pairwise (· ≤ ·) → ys.Pairwise (· ≤ ·) → xs = ys
  | [], ys, p, _, _ => (List.nil_perm.mp p).symm
  | x :: xs, [], p, _, _ => by have := p.length_eq; simp at this
  | x :: xs, y :: ys, p, h, g => by
    obtain ⟨h1, h2⟩ := List.pairwise_cons.mp h
    obtain ⟨g1, g2⟩ := List.pairwise_cons.mp g
    have e : x = y := by
      rcases List.mem_cons.mp (p.mem_iff.mp List.mem_cons_self) with e | e
      · exact e
      · rcases List.mem_cons.mp (p.mem_iff.mpr List.mem_cons_self) with e2 | e2
        · exact e2.symm
        · have := g1 x e; have := h1 y e2; omega
    subst e
    rw [perm_le (List.perm_cons x |>.mp p) h2 g2]
theorem sg_list {ys : List Str} {cs : List Nat} (p : ys.Perm (cs.map sg)) : ∃ ds : List Nat, ys = ds.map sg ∧ ds.Perm cs := by
  refine ⟨ys.map un, ?_, ?_⟩
  · rw [List.map_map]
    have : ∀ y ∈ ys, (sg ∘ un) y = y := fun y hy => by
      obtain ⟨c, _, rfl⟩ := List.mem_map.mp (p.mem_iff.mp hy)
      rfl
    rw [List.map_congr_left this, List.map_id']
  · have := p.map un
    rw [List.map_map] at this
    have e : cs.map (un ∘ sg) = cs := by
      have : ∀ c ∈ cs, (un ∘ sg) c = c := fun c _ => rfl
      rw [List.map_congr_left this, List.map_id']
    rw [e] at this
    exact this
theorem srt_sg {ys : List Str} {cs : List Nat} (p : ys.Perm (cs.map sg)) (h : sortedS ys = true) : ∃ ds : List Nat, ys = ds.map sg ∧ ds.Perm cs ∧ ds.Pairwise (· ≤ ·) := by
  obtain ⟨ds, rfl, q⟩ := sg_list p
  exact ⟨ds, rfl, q, sorted_sg h⟩
theorem putAllS_nodup : ∀ (xs l : List Str), l.Nodup → (putAllS xs l).Nodup
  | [], l, h => h
  | x :: xs, l, h => by
    refine putAllS_nodup xs _ ?_
    by_cases e : x ∈ l
    · rw [if_pos e]; exact h
    · rw [if_neg e]; exact List.nodup_cons.mpr ⟨e, h⟩
theorem putAllS_perm {xs : List Str} (h : xs.Nodup) : (putAllS xs []).Perm xs := by
  refine (List.perm_ext_iff_of_nodup (putAllS_nodup xs [] List.nodup_nil) h).mpr fun z => ?_
  rw [putAllS_mem]; simp
theorem sg_nodup {cs : List Nat} (h : cs.Nodup) : (cs.map sg).Nodup := by
  rw [List.nodup_iff_pairwise_ne] at h ⊢
  exact List.pairwise_map.mpr (h.imp fun ne e => ne (by rw [sg_inj] at e; exact e))
abbrev Rsg (cs : List Nat) : Prop := cs.Pairwise (· < ·)
theorem Rsg.nodup {cs : List Nat} (h : Rsg cs) : cs.Nodup := by rw [List.nodup_iff_pairwise_ne]; exact h.imp fun h e => by omega
theorem Rsg.le {cs : List Nat} (h : Rsg cs) : cs.Pairwise (· ≤ ·) := h.imp fun h => by omega
/-- sorted(set(names)) of rising names -/
theorem sset_ris {cs : List Nat} (h : Rsg cs) {ys : List Str} (p : ys.Perm (putAllS (cs.map sg) [])) (s : sortedS ys = true) : ys = cs.map sg := by
  obtain ⟨ds, rfl, q, r⟩ := srt_sg (p.trans (putAllS_perm (sg_nodup h.nodup))) s
  rw [perm_le q r h.le]
theorem sort_ris {cs : List Nat} (h : Rsg cs) {ys : List Str} (p : ys.Perm (cs.map sg)) (s : sortedS ys = true) : ys = cs.map sg := by
  obtain ⟨ds, rfl, q, r⟩ := srt_sg p s
  rw [perm_le q r h.le]
theorem sort_nodup {cs : List Nat} (h : cs.Nodup) {ys : List Str} (p : ys.Perm (cs.map sg)) (s : sortedS ys = true) : ∃ ds : List Nat, ys = ds.map sg ∧ ds.Perm cs ∧ Rsg ds := by
  obtain ⟨ds, e, q, r⟩ := srt_sg p s
  refine ⟨ds, e, q, ?_⟩
  have nd : ds.Nodup := q.nodup_iff.mpr h
  rw [List.nodup_iff_pairwise_ne] at nd
  exact (r.and nd).imp fun ⟨a, b⟩ => by omega
/-! ### dicts of pairs -/
theorem putD_new {kvs : List (Key × D)} {k : Key} {d : D} (h : k ∉ kvs.map (·.1)) : putD kvs k d = kvs ++ [(k, d)] := by
  unfold putD
  rw [if_neg]
  intro z
  obtain ⟨p, hp, e⟩ := List.any_eq_true.mp z
  exact h (List.mem_map.mpr ⟨p, hp, by simpa using e⟩)
theorem mergeD_new : ∀ {more kvs : List (Key × D)}, (kvs.map (·.1) ++ more.map (·.1)).Nodup → mergeD kvs more = kvs ++ more
  | [], kvs, _ => by simp [mergeD]
  | (k, d) :: more, kvs, h => by
    have hk : k ∉ kvs.map (·.1) := fun z => by
      have := (List.nodup_append.mp h).2.2 k z k (by simp)
      exact this rfl
    show mergeD (putD kvs k d) more = _
    rw [putD_new hk, mergeD_new (by simpa [List.append_assoc] using h)]
    simp
theorem merge_nil {kvs : List (Key × D)} (h : (kvs.map (·.1)).Nodup) : mergeD [] kvs = kvs := by rw [mergeD_new (by simpa using h)]; rfl
theorem keys_gv (g : Gv) : (gvD g).map (·.1) = (g.map (·.1)).map fun c => .inr (sg c) := by simp [gvD, Function.comp_def]
theorem keys_cv (g : Cv) : (cvD g).map (·.1) = (g.map (·.1)).map fun c => .inr (sg c) := by simp [cvD, Function.comp_def]
theorem key_nodup {cs : List Nat} (h : cs.Nodup) : (cs.map fun c => (Sum.inr (sg c) : Key)).Nodup := by
  rw [List.nodup_iff_pairwise_ne] at h ⊢
  exact List.pairwise_map.mpr (h.imp fun ne e => ne (by injection e with e; rw [sg_inj] at e; exact e))
theorem merge_gv {g : Gv} (h : (g.map (·.1)).Nodup) : mergeD [] (gvD g) = gvD g := merge_nil (by rw [keys_gv]; exact key_nodup h)
theorem merge_cv {g : Cv} (h : (g.map (·.1)).Nodup) : mergeD [] (cvD g) = cvD g := merge_nil (by rw [keys_cv]; exact key_nodup h)
/-! ### parts -/
structure Deed where
  c : Nat
  tk : Kd
  tl : Kd
  b : Bd
def Deed.enc (d : Deed) : D := .tup [.str (sg d.c), .str d.tk.s, .str d.tl.s, d.b.enc]
def askD (a : Nat × (Kd × Kd)) : D := .tup [.str (sg a.1), .str a.2.1.s, .str a.2.2.s]
def celD (a : Nat × Kd) : D := .tup [.str (sg a.1), .str a.2.s]
structure Part where
  nm : Nat
  ds : List Deed
  as : Gv
  cs : Cv
def Part.enc (p : Part) : D := .tup [.str (sg p.nm), .tup (p.ds.map Deed.enc), .tup (p.as.map askD), .tup (p.cs.map celD)]
def Part.gv (p : Part) : Gv := p.ds.map (fun d => (d.c, (d.tk, d.tl))) ++ p.as
structure Deed.ok (d : Deed) : Prop where
  c : deedC d.c
  wf : d.b.wf
  dep : d.b.dep ≤ 10
  words : d.b.words ≤ 60
structure Part.ok (p : Part) : Prop where
  nm : partC p.nm
  dl : p.ds.length ≤ 8
  al : p.as.length ≤ 8
  cl : p.cs.length ≤ 4
  dok : ∀ d ∈ p.ds, d.ok
  aok : ∀ a ∈ p.as, deedC a.1
  cok : ∀ a ∈ p.cs, cellC a.1
  dr : Rsg (p.ds.map (·.c))
  ar : Rsg (p.as.map (·.1))
  cr : Rsg (p.cs.map (·.1))
  dis : ∀ a ∈ p.as, a.1 ∉ p.ds.map (·.c)
theorem Part.ok.nodup {p : Part} (h : p.ok) : (p.gv.map (·.1)).Nodup := by
  unfold Part.gv
  rw [List.map_append, List.map_map]
  refine List.nodup_append.mpr ⟨h.dr.nodup, h.ar.nodup, fun a ha b hb e => ?_⟩
  subst e
  obtain ⟨x, hx, rfl⟩ := List.mem_map.mp hb
  exact h.dis x hx ha
/-- the first deed whose body isn't right -/
def Part.wrong (p : Part) : Option Nat := (p.ds.find? fun d => decide (d.b.kind d.tk p.gv p.cs ≠ some d.tl)).map (·.c)
def ndD : Option Nat → D
  | none => .non
  | some c => .str (sg c)
end L3
/-! L8: the laws' generator: two cells of the store. -/
namespace L3
open PySem PySem.Spec PyProof.Rows L2
section
variable {δ : Dt} {m : Mu} {Q : EK} {n : Nat} {d : D} {o : Option D} {p : Addr}
theorem ex_ix_ref {ds : List D} {i : Int} (h : m p = some (.lst ds)) : rhoIx (.ref p) (.int i) m Q = ∃ d, atI ds i = some d ∧ Q d m := by
  have hl : lstOf m (.ref p) = some ds := by simp [lstOf, h]
  have hd : dctOf m (.ref p) = none := by simp [dctOf, h]
  refine propext ⟨?_, fun ⟨d, q⟩ => .inl ⟨ds, i, d, hl, rfl, q⟩⟩
  rintro (⟨es, j, d, e, e2, q⟩ | ⟨es, k, d, e, _⟩)
  · rw [hl] at e; cases e; cases e2; exact ⟨d, q⟩
  · rw [hd] at e; cases e
theorem ex_len_ref {ds : List D} (h : m p = some (.lst ds)) : rcLen [.ref p] m Q = Q (.int (ds.length : Int)) m := by
  have hl : lstOf m (.ref p) = some ds := by simp [lstOf, h]
  unfold rcLen
  exact propext ⟨fun ⟨x, e, q⟩ => by injection e with e _; subst e; obtain ⟨es, h, q⟩ := q; rw [hl] at h; cases h; exact q, fun q => ⟨_, rfl, _, hl, q⟩⟩
theorem rsv_ref {ds : List D} (h : m p = some (.lst ds)) : rsv m (.ref p) = .lst ds := by simp [rsv, lstOf, h]
theorem ints_ok (ns : List Int) : eqOk (.lst (ns.map D.int)) = true := okD.eq (n := 1) (okD_lst fun d h => by
  obtain ⟨k, _, rfl⟩ := List.mem_map.mp h
  exact okD_int) (by omega)
theorem ex_max2 {i j : Int} : rcMax2 [.int i, .int j] m Q = Q (.int (if j > i then j else i)) m := by
  unfold rcMax2
  exact propext ⟨fun ⟨a, b, e, q⟩ => by injection e with e1 e2; injection e2 with e2 _; cases e1; cases e2; exact q, fun q => ⟨_, _, rfl, q⟩⟩
/-- the generator's list, its cells -/
structure Rg (ha hb : Addr) (m : Mu) : Prop where
  ne : ha ≠ hb
  ex : ∃ (a c : Int) (ns : List Int), m ha = some (.lst [.int a, .ref hb, .int c]) ∧ m hb = some (.lst (ns.map D.int))
def Ch (ha hb : Addr) (m m' : Mu) : Prop := ∀ x, x ≠ ha → x ≠ hb → m' x = m x
theorem Ch.refl {ha hb : Addr} (m : Mu) : Ch ha hb m m := fun _ _ _ => rfl
theorem Ch.trans {ha hb : Addr} {a b c : Mu} (h : Ch ha hb a b) (g : Ch ha hb b c) : Ch ha hb a c := fun x h1 h2 => (g x h1 h2).trans (h x h1 h2)
theorem Rg.put {ha hb p : Addr} {m : Mu} {c : Cell} (R : Rg ha hb m) (h : m p = none) : Rg ha hb (m.put p c) := by
  obtain ⟨a, b, ns, e1, e2⟩ := R.ex
  have n1 : ha ≠ p := fun z => by subst z; rw [h] at e1; cases e1
  have n2 : hb ≠ p := fun z => by subst z; rw [h] at e2; cases e2
  exact ⟨R.ne, a, b, ns, by rw [Mu.put_ne n1]; exact e1, by rw [Mu.put_ne n2]; exact e2⟩
theorem Rg.off {ha hb p : Addr} {m : Mu} {c c2 : Cell} (R : Rg ha hb m) (h1 : p ≠ ha) (h2 : p ≠ hb) : Rg ha hb (m.put p c) := by
  obtain ⟨a, b, ns, e1, e2⟩ := R.ex
  exact ⟨R.ne, a, b, ns, by rw [Mu.put_ne (fun z => h1 z.symm)]; exact e1, by rw [Mu.put_ne (fun z => h2 z.symm)]; exact e2⟩
theorem Rg.out {ha hb p : Addr} {m : Mu} (R : Rg ha hb m) (h : m p = none) : p ≠ ha ∧ p ≠ hb := by
  obtain ⟨a, b, ns, e1, e2⟩ := R.ex
  exact ⟨(fun z => by subst z; rw [h] at e1; cases e1), (fun z => by subst z; rw [h] at e2; cases e2)⟩
/-- what is told of the store behind: the generator's cells as they are now, all else as it was -/
def Mu.over (m m' : Mu) (ha hb : Addr) : Mu := fun x => if x = ha ∨ x = hb then m' x else m x
theorem over_ch {m m' : Mu} {ha hb : Addr} : Ch ha hb m (m.over m' ha hb) := fun x h1 h2 => by unfold Mu.over; rw [if_neg (fun z => z.elim h1 h2)]
theorem over_rg {m m' : Mu} {ha hb : Addr} (R : Rg ha hb m') : Rg ha hb (m.over m' ha hb) := by
  obtain ⟨a, b, ns, e1, e2⟩ := R.ex
  exact ⟨R.ne, a, b, ns, by unfold Mu.over; rw [if_pos (.inl rfl)]; exact e1, by unfold Mu.over; rw [if_pos (.inr rfl)]; exact e2⟩
theorem over_sub {m m' : Mu} {ha hb : Addr} (h : ∀ x c, x ≠ ha → x ≠ hb → m x = some c → m' x = some c) : Sub (m.over m' ha hb) m' := fun x c e => by
  unfold Mu.over at e
  by_cases z : x = ha ∨ x = hb
  · rw [if_pos z] at e; exact e
  · rw [if_neg z] at e; exact h x c (fun y => z (.inl y)) (fun y => z (.inr y)) e
end
end L3
namespace L3
open PySem PySem.Spec PyProof.Rows L2
section
variable {m : Mu} {Q : EK} {n0 : Int}
theorem isi_enc {b : Bd} : rcIsi [b.enc, .ty "tuple"] m Q = Q (.bl true) m := by obtain ⟨x, ds, e⟩ := b.tup; rw [e]; exact isi_tup_tuple
theorem ints_inj : ∀ {xs ys : List Int}, xs.map D.int = ys.map D.int → xs = ys
  | [], [], _ => rfl
  | [], _ :: _, h => by cases h
  | _ :: _, [], h => by cases h
  | x :: xs, y :: ys, h => by
    rw [List.map_cons, List.map_cons] at h
    injection h with h1 h2
    injection h1 with h1
    rw [h1, ints_inj h2]
theorem ex_maxd {ns : List Int} : rcMaxD n0 [.lst (ns.map D.int)] m Q = Q (.int (match ns with | [] => n0 | n :: r => r.foldl max n)) m := by
  unfold rcMaxD
  refine propext ⟨?_, fun q => ⟨_, ns, rfl, rfl, q⟩⟩
  rintro ⟨x, js, e, h, q⟩
  injection e with e _
  subst e
  rw [ints_inj (Option.some.inj h)]
  exact q
theorem ex_sum {ns : List Int} : rcSum [.lst (ns.map D.int)] m Q = Q (.int ns.sum) m := by
  unfold rcSum
  refine propext ⟨?_, fun q => ⟨_, ns, rfl, rfl, q⟩⟩
  rintro ⟨x, js, e, h, q⟩
  injection e with e _
  subst e
  rw [ints_inj (Option.some.inj h)]
  exact q
theorem ex_maxd0 : rcMaxD n0 [.lst []] m Q = Q (.int n0) m := ex_maxd (ns := [])
theorem ex_maxd1 {a : Int} : rcMaxD n0 [.lst [.int a]] m Q = Q (.int a) m := ex_maxd (ns := [a])
theorem ex_maxd2 {a b : Int} : rcMaxD n0 [.lst [.int a, .int b]] m Q = Q (.int (max a b)) m := ex_maxd (ns := [a, b])
theorem ex_maxd3 {a b c : Int} : rcMaxD n0 [.lst [.int a, .int b, .int c]] m Q = Q (.int (max (max a b) c)) m := ex_maxd (ns := [a, b, c])
theorem ex_sum0 : rcSum [.lst []] m Q = Q (.int 0) m := ex_sum (ns := [])
theorem ex_sum1 {a : Int} : rcSum [.lst [.int a]] m Q = Q (.int a) m := by rw [show D.lst [.int a] = .lst ([a].map D.int) from rfl, ex_sum]; simp
theorem ex_sum2 {a b : Int} : rcSum [.lst [.int a, .int b]] m Q = Q (.int (a + b)) m := by rw [show D.lst [.int a, .int b] = .lst ([a, b].map D.int) from rfl, ex_sum]; simp
theorem ex_sum3 {a b c : Int} : rcSum [.lst [.int a, .int b, .int c]] m Q = Q (.int (a + b + c)) m := by rw [show D.lst [.int a, .int b, .int c] = .lst ([a, b, c].map D.int) from rfl, ex_sum]; simp [Int.add_assoc]
end
end L3
/-! L9: displays run. -/
namespace L3
open PySem PySem.Spec PyProof.Rows L2
section
variable {m : Mu} {Q : EK}
def dkOf : List (D × D) → Option (List (Key × D))
  | [] => some []
  | (.int i, d) :: r => (dkOf r).map fun z => (.inl i, d) :: z
  | (.str x, d) :: r => (dkOf r).map fun z => (.inr x, d) :: z
  | _ => none
theorem dkOf_ok : ∀ kvs : List (Key × D), dkOf (kvs.map fun kv => ((match kv.1 with | .inl i => D.int i | .inr x => D.str x), kv.2)) = some kvs
  | [] => rfl
  | (.inl i, d) :: r => by
    have ih := dkOf_ok r
    simp only [List.map_cons, dkOf, ih, Option.map_some]
  | (.inr x, d) :: r => by
    have ih := dkOf_ok r
    simp only [List.map_cons, dkOf, ih, Option.map_some]
theorem dkOf_back : ∀ {ps : List (D × D)} {kvs : List (Key × D)}, dkOf ps = some kvs → dispK ps kvs
  | [], _, h => by cases h; rfl
  | (.int i, d) :: r, kvs, h => by
    simp only [dkOf] at h
    cases e : dkOf r with
    | none => rw [e] at h; cases h
    | some z =>
      rw [e] at h
      cases h
      have := dkOf_back e
      unfold dispK at this ⊢
      rw [List.map_cons, ← this]
  | (.str x, d) :: r, kvs, h => by
    simp only [dkOf] at h
    cases e : dkOf r with
    | none => rw [e] at h; cases h
    | some z =>
      rw [e] at h
      cases h
      have := dkOf_back e
      unfold dispK at this ⊢
      rw [List.map_cons, ← this]
  | (.non, d) :: r, kvs, h => by cases h
  | (.bl _, d) :: r, kvs, h => by cases h
  | (.tup _, d) :: r, kvs, h => by cases h
  | (.lst _, d) :: r, kvs, h => by cases h
  | (.dct _, d) :: r, kvs, h => by cases h
  | (.ref _, d) :: r, kvs, h => by cases h
  | (.ty _, d) :: r, kvs, h => by cases h
  | (.fl _, d) :: r, kvs, h => by cases h
theorem ex_disp {ps : List (D × D)} {F : List (Key × D) → Prop} : (∃ kvs, dispK ps kvs ∧ F kvs) = ∃ kvs, dkOf ps = some kvs ∧ F kvs := by
  refine propext ⟨fun ⟨kvs, h, f⟩ => ⟨kvs, ?_, f⟩, fun ⟨kvs, h, f⟩ => ⟨kvs, dkOf_back h, f⟩⟩
  unfold dispK at h
  rw [h]
  exact dkOf_ok kvs
/-- texts as keys: a display, a store, a merge -/
def sk (l : List (String × D)) : List (Key × D) := l.map fun p => (.inr (PySem.Str.ofString p.1), p.2)
theorem sk_nil : ([] : List (Key × D)) = sk [] := rfl
theorem getK_nil {k : Key} : getK [] k = none := rfl
theorem getK_cons {a b : Str} {d : D} {r : List (Key × D)} : getK ((.inr a, d) :: r) (.inr b) = if a = b then some d else getK r (.inr b) := by
  unfold getK
  rw [List.find?_cons]
  by_cases h : a = b
  · simp [h]
  · simp [h]
theorem putD_nil {k : Key} {d : D} : putD [] k d = [(k, d)] := rfl
theorem putD_cons {a b : Str} {d e : D} {r : List (Key × D)} : putD ((.inr a, d) :: r) (.inr b) e = if a = b then (.inr a, e) :: r.map (fun p => if p.1 = (.inr b : Key) then (p.1, e) else p) else (.inr a, d) :: putD r (.inr b) e := by
  unfold putD
  by_cases h : a = b
  · simp [h]
  · have h2 : (decide ((Sum.inr a : Key) = .inr b)) = false := by simp [h]
    rw [List.any_cons, h2, Bool.false_or]
    by_cases z : (r.any fun p => decide (p.1 = (.inr b : Key))) = true
    · simp [h, z]
    · simp only [z, h, if_false]
      simp
theorem mergeD_nil {kvs : List (Key × D)} : mergeD kvs [] = kvs := rfl
theorem mergeD_cons {kvs r : List (Key × D)} {k : Key} {d : D} : mergeD kvs ((k, d) :: r) = mergeD (putD kvs k d) r := rfl
theorem dctOf_put {p : Addr} {ds : List (Key × D)} : dctOf (m.put p (.dct ds)) (.ref p) = some ds := by simp [dctOf, Mu.put_same]
theorem dctOf_put_ne {p q : Addr} {c : Cell} (h : q ≠ p) : dctOf (m.put p c) (.ref q) = dctOf m (.ref q) := by simp [dctOf, Mu.put_ne h]
end
end L3
namespace L3
open PySem PySem.Spec PyProof.Rows L2
section
variable {m : Mu} {Q : EK}
theorem ex_update {p : Addr} {es zs : List (Key × D)} (h : m p = some (.dct es)) (hl : es.length + zs.length ≤ sizeLine) (q : Q .non (m.put p (.dct (mergeD es zs)))) : rhoUpdate (.ref p) [.dct zs] m Q :=
  ⟨p, es, .dct zs, zs, rfl, h, rfl, (fun e => D.noConfusion e), rfl, hl, q⟩
theorem ex_setK {p : Addr} {es : List (Key × D)} {x : Str} {v : D} {R : Mu → Prop} (h : m p = some (.dct es)) (hl : es.length < sizeLine) (q : R (m.put p (.dct (putD es (.inr x) v)))) : rhoSet (.ref p) (.str x) v m R :=
  ⟨p, rfl, .inr ⟨es, .inr x, h, rfl, hl, q⟩⟩
end
end L3
namespace L3
open PySem PySem.Spec PyProof.Rows L2
section
variable {m : Mu} {Q : EK}
theorem two_dicts {m : Mu} {p t : Addr} {a b : List (Key × D)} {C : Cell} (hp : m p = none) (ht : (m.put p C) t = none) :
    dctOf ((m.put p (.dct a)).put t (.dct b)) (.ref p) = some a ∧ dctOf ((m.put p (.dct a)).put t (.dct b)) (.ref t) = some b ∧ Sub m ((m.put p (.dct a)).put t (.dct b)) := by
  have ne : p ≠ t := fun z => by subst z; rw [Mu.put_same] at ht; cases ht
  have h0 : m t = none := by rwa [Mu.put_ne ne.symm] at ht
  refine ⟨by rw [dctOf_put_ne ne, dctOf_put], dctOf_put, (Sub.put hp).trans (Sub.put ?_)⟩
  rw [Mu.put_ne ne.symm]; exact h0
/-- lists of kinds -/
theorem ekl {xs ys : List D} (ks js : List Kd) (e1 : xs = ksD ks) (e2 : ys = ksD js) : rhoEq (.lst xs) (.lst ys) m Q = Q (.bl (decide (ks = js))) m := by rw [e1, e2]; exact ex_eq_ksl
end
end L3
/-! L10: statements one behind the other by what holds between; what the generator leaves. -/
namespace L3
open PySem PySem.Spec PyProof.Rows L2
section
variable {t u : ASt} {D : AEnds} {δ : Dt} {m : Mu}
/-- one statement by itself, then the rest -/
theorem seq_inv (I : Dt → Mu → Prop) (h : ∀ nx : Dt → Mu → Prop, (∀ δ' m', I δ' m' → nx δ' m') → t { D with nx := nx } δ m) (g : ∀ δ' m', I δ' m' → u D δ' m') : aSeq t u D δ m :=
  h _ fun δ' m' i => g δ' m' i
theorem ex_seq : aSeq t u D δ m = t { D with nx := u D } δ m := rfl
end
/-- all else is as it was -/
def Ext (ha hb : Addr) (m m' : Mu) : Prop := ∀ x c, x ≠ ha → x ≠ hb → m x = some c → m' x = some c
section
variable {ha hb p : Addr} {m m1 m2 m3 : Mu} {c c2 : Cell}
theorem Ext.refl : Ext ha hb m m := fun _ _ _ _ h => h
theorem Ext.trans (h : Ext ha hb m1 m2) (g : Ext ha hb m2 m3) : Ext ha hb m1 m3 := fun x c h1 h2 e => g x c h1 h2 (h x c h1 h2 e)
theorem Ch.ext (h : Ch ha hb m m1) : Ext ha hb m m1 := fun x c h1 h2 e => by rw [h x h1 h2]; exact e
theorem Ext.put (h : m p = none) : Ext ha hb m (m.put p c) := fun x d _ _ e => by
  have ne : x ≠ p := fun z => by subst z; rw [h] at e; cases e
  rw [Mu.put_ne ne]; exact e
/-- a cell of one's own, changed -/
theorem Ext.over (h : Ext ha hb m m1) (n : m p = none) : Ext ha hb m (m1.put p c) := fun x d h1 h2 e => by
  have ne : x ≠ p := fun z => by subst z; rw [n] at e; cases e
  rw [Mu.put_ne ne]; exact h x d h1 h2 e
theorem Ch.at (h : Ch ha hb m m1) (R : Rg ha hb m) (n : ∃ a, m p = some a) (ne : p ≠ ha ∧ p ≠ hb) : m1 p = m p := h p ne.1 ne.2
end
theorem fzx {Q : EK} {d : D} {m m' : Mu} {ha hb : Addr} (R : Rg ha hb m') (h : Ext ha hb m m') (q : ∀ m2, Rg ha hb m2 → Ch ha hb m m2 → Q d m2) : Fz Q d m' :=
  Fz.to (over_sub h) (q _ (over_rg R) over_ch)
/-- .. a list of one's own is handed on -/
theorem fzl {Q : EK} {ds : List D} {p : Addr} {m m' : Mu} {ha hb : Addr} (R : Rg ha hb m') (h : Ext ha hb m m') (hp : m' p = some (.lst ds)) (hn : m p = none) (h1 : p ≠ ha) (h2 : p ≠ hb) (q : ∀ m2, Rg ha hb m2 → Ch ha hb m m2 → Q (.lst ds) m2) : Fz Q (.ref p) m' := by
  refine Fz.lst (m := m.over m' ha hb) hp (over_sub h) ?_ (q _ (over_rg R) over_ch)
  unfold Mu.over
  rw [if_neg (fun z => z.elim h1 h2)]; exact hn
/-! ### environments -/
structure CvOk (cl : Cv) : Prop where
  nd : (cl.map (·.1)).Nodup
  l : cl.length ≤ 4
  c : ∀ a ∈ cl, cellC a.1
structure GvOk (gv : Gv) : Prop where
  nd : (gv.map (·.1)).Nodup
  l : gv.length ≤ 8
  c : ∀ a ∈ gv, deedC a.1
theorem lk_mem {α : Type} {l : List (Nat × α)} {d : Nat} (h : d ∈ l.map (·.1)) : ∃ a, lk l d = some a ∧ (d, a) ∈ l := by
  induction l with
  | nil => simp at h
  | cons p l ih =>
    unfold lk
    rw [List.find?_cons]
    by_cases e : p.1 = d
    · subst e
      exact ⟨p.2, by simp, by simp⟩
    · have h' : d ∈ l.map (·.1) := by
        rcases List.mem_cons.mp h with z | z
        · exact absurd z.symm e
        · exact z
      obtain ⟨a, h1, h2⟩ := ih h'
      exact ⟨a, by simpa [e, lk] using h1, List.mem_cons_of_mem _ h2⟩
theorem lk_some {α : Type} {l : List (Nat × α)} {d : Nat} {a : α} (h : lk l d = some a) : (d, a) ∈ l := by
  unfold lk at h
  cases e : l.find? (fun p => decide (p.1 = d)) with
  | none => rw [e] at h; cases h
  | some p =>
    rw [e] at h
    have h1 := List.mem_of_find?_eq_some e
    have h2 := List.find?_some e
    cases h
    simp at h2
    subst h2
    exact h1
theorem atI_get {α : Type} {l : List α} {r : Int} (h0 : 0 ≤ r) (h1 : r < l.length) : ∃ x, atI l r = some x ∧ x ∈ l := by
  obtain ⟨n, rfl⟩ := Int.eq_ofNat_of_zero_le h0
  have hn : n < l.length := by omega
  exact ⟨l[n], atI_nat (List.getElem?_eq_getElem hn), List.getElem_mem hn⟩
/-- sorted keys -/
theorem ex_sortedK {m : Mu} {Q : EK} {kvs : List (Key × D)} {cs : List Nat} (hk : kvs.map (·.1) = cs.map fun c => .inr (sg c)) (hl : cs.length < 64) (q : ∀ ds : List Nat, ds.Perm cs → ds.Pairwise (· ≤ ·) → Q (.lst (strD (ds.map sg))) m) : rcSorted [.dct kvs] m Q :=
  ⟨_, cs.map sg, rfl, .inr ⟨kvs, rfl, by rw [hk]; simp⟩, by simpa using hl, fun ys p s => by
    obtain ⟨ds, rfl, h1, h2⟩ := srt_sg p s
    exact q ds h1 h2⟩
theorem ex_sortedL {m : Mu} {Q : EK} {x : D} {cs : List Nat} (hk : lstOf m x = some (strD (cs.map sg))) (hl : cs.length < 64) (q : ∀ ds : List Nat, ds.Perm cs → ds.Pairwise (· ≤ ·) → Q (.lst (strD (ds.map sg))) m) : rcSorted [x] m Q :=
  ⟨_, cs.map sg, rfl, .inl hk, by simpa using hl, fun ys p s => by
    obtain ⟨ds, rfl, h1, h2⟩ := srt_sg p s
    exact q ds h1 h2⟩
def envE (tk : Kd) (gv : Gv) (cl : Cv) : D := .dct [(.inr "takes", .str tk.s), (.inr "deeds", .dct (gvD gv)), (.inr "cells", .dct (cvD cl))]
/-- a leaf of a kind -/
structure LeafOk (tk : Kd) (cl : Cv) (kd : Kd) (b : Bd) : Prop where
  wf : b.wf
  k : ∀ gv, b.kind tk gv cl = some kd
  d : b.dep = 1
  w : b.words = 1
def wb : Nat → Nat
  | 0 => 1
  | n + 1 => 1 + 3 * wb n
/-- a body of a kind, so deep -/
structure BodyOk (tk : Kd) (gv : Gv) (cl : Cv) (kd : Kd) (n : Nat) (b : Bd) : Prop where
  wf : b.wf
  k : b.kind tk gv cl = some kd
  d : b.dep ≤ n + 1
  w : b.words ≤ wb n
theorem wb_pos : ∀ n, 1 ≤ wb n
  | 0 => Nat.le_refl _
  | n + 1 => by simp [wb]
theorem LeafOk.body {tk : Kd} {gv : Gv} {cl : Cv} {kd : Kd} {b : Bd} {n : Nat} (h : LeafOk tk cl kd b) : BodyOk tk gv cl kd n b := ⟨h.wf, h.k gv, by rw [h.d]; omega, by rw [h.w]; exact wb_pos n⟩
end L3
namespace L3
open PySem PySem.Spec PyProof.Rows L2
section
variable {ha hb p : Addr} {m m1 m2 : Mu} {Q : EK}
theorem Ext.non (h : Ext ha hb m m1) (R : Rg ha hb m1) (e : m1 p = none) : m p = none := by
  obtain ⟨n1, n2⟩ := R.out e
  cases q : m p with
  | none => rfl
  | some c => rw [h p c n1 n2 q] at e; cases e
theorem ex_addM {a b : List D} (h : m p = some (.lst a)) (hl : a.length + b.length ≤ sizeLine) (q : ∀ p', m p' = none → Q (.ref p') (m.put p' (.lst (a ++ b)))) : rhoAddM (.ref p) (.lst b) m Q :=
  ⟨a, b, by simp [lstOf, h], rfl, hl, q⟩
theorem ex_appendM {a : List D} {d : D} (h : m p = some (.lst a)) (hl : a.length < sizeLine) (q : Q .non (m.put p (.lst (a ++ [d])))) : rhoAppend (.ref p) [d] m Q := ⟨p, a, d, rfl, h, rfl, hl, q⟩
theorem lst_ref {a : List D} (h : m p = some (.lst a)) : ∃ es, lstOf m (.ref p) = some es := ⟨a, by simp [lstOf, h]⟩
theorem szlt {n : Nat} (h : n ≤ 100000) : n < sizeLine := by rw [sizeLine_eq]; omega
/-- a list of one's own, as the generator goes on -/
structure Own (ha hb : Addr) (m m1 : Mu) (p : Addr) (ds : List D) : Prop where
  at_ : m1 p = some (.lst ds)
  n : m p = none
  a : p ≠ ha
  b : p ≠ hb
theorem Own.ch {ds : List D} (h : Own ha hb m m1 p ds) (c : Ch ha hb m1 m2) : Own ha hb m m2 p ds := ⟨by rw [c p h.a h.b]; exact h.at_, h.n, h.a, h.b⟩
theorem Own.new {ds : List D} (x : Ext ha hb m m1) (R : Rg ha hb m1) (e : m1 p = none) : Own ha hb m (m1.put p (.lst ds)) p ds :=
  have o := R.out e
  ⟨Mu.put_same, x.non R e, o.1, o.2⟩
theorem Own.put {ds es : List D} (h : Own ha hb m m1 p ds) : Own ha hb m (m1.put p (.lst es)) p es := ⟨Mu.put_same, h.n, h.a, h.b⟩
end
end L3
namespace L3
open PySem PySem.Spec PyProof.Rows L2
section
variable {tk : Kd} {gv : Gv} {cl : Cv} {kd k j : Kd} {n : Nat} {a b c : Bd} {x : Nat}
theorem BodyOk.un {wd : W1} (h : BodyOk tk gv cl k n a) (e : k = wd.takes) (e2 : kd = wd.tells) : BodyOk tk gv cl kd (n + 1) (.un wd a) :=
  ⟨h.wf, by simp [Bd.kind, h.k, e, e2], by simp only [Bd.dep]; have := h.d; omega, by simp only [Bd.words, wb]; have := h.w; have := wb_pos n; omega⟩
theorem BodyOk.bin {wd : W2} (h : BodyOk tk gv cl k n a) (g : BodyOk tk gv cl j n b) (e : wd.kind k j = some kd) : BodyOk tk gv cl kd (n + 1) (.bin wd a b) :=
  ⟨⟨h.wf, g.wf⟩, by simp [Bd.kind, h.k, g.k, e], by simp only [Bd.dep]; have := h.d; have := g.d; omega, by simp only [Bd.words, wb]; have := h.w; have := g.w; have := wb_pos n; omega⟩
theorem BodyOk.ite (h : BodyOk tk gv cl .t n a) (g : BodyOk tk gv cl kd n b) (f : BodyOk tk gv cl kd n c) : BodyOk tk gv cl kd (n + 1) (.ite a b c) :=
  ⟨⟨h.wf, g.wf, f.wf⟩, by simp [Bd.kind, h.k, g.k, f.k], by simp only [Bd.dep]; have := h.d; have := g.d; have := f.d; omega, by simp only [Bd.words, wb]; have := h.w; have := g.w; have := f.w; omega⟩
theorem BodyOk.set (hc : CvOk cl) (h : BodyOk tk gv cl kd n a) (e : lk cl x = some kd) : BodyOk tk gv cl kd (n + 1) (.set x a) :=
  ⟨⟨hc.c _ (lk_some e), h.wf⟩, by simp [Bd.kind, h.k, e], by simp only [Bd.dep]; have := h.d; omega, by simp only [Bd.words, wb]; have := h.w; have := wb_pos n; omega⟩
theorem BodyOk.cal (hg : GvOk gv) (h : BodyOk tk gv cl k n a) (e : lk gv x = some (k, kd)) : BodyOk tk gv cl kd (n + 1) (.cal x a) :=
  ⟨⟨hg.c _ (lk_some e), h.wf⟩, by simp [Bd.kind, h.k, e], by simp only [Bd.dep]; have := h.d; omega, by simp only [Bd.words, wb]; have := h.w; have := wb_pos n; omega⟩
end
theorem lt2 {r : Int} (h : 0 ≤ r) (g : r < 2) : r = 0 ∨ r = 1 := by omega
theorem lt3 {r : Int} (h : 0 ≤ r) (g : r < 3) : r = 0 ∨ r = 1 ∨ r = 2 := by omega
theorem lt4 {r : Int} (h : 0 ≤ r) (g : r < 4) : r = 0 ∨ r = 1 ∨ r = 2 ∨ r = 3 := by omega
theorem lt5 {r : Int} (h : 0 ≤ r) (g : r < 5) : r = 0 ∨ r = 1 ∨ r = 2 ∨ r = 3 ∨ r = 4 := by omega
theorem atI_4 {α : Type} {x y z u v : α} {xs : List α} : atI (x :: y :: z :: u :: v :: xs) 4 = some v := atI_nat (j := 4) rfl
theorem atI_5 {α : Type} {x y z u v w : α} {xs : List α} : atI (x :: y :: z :: u :: v :: w :: xs) 5 = some w := atI_nat (j := 5) rfl
/-- a drawn kind -/
theorem drawK {r : Int} (h0 : 0 ≤ r) (h1 : r < 3) : ∃ k : Kd, atI [D.str "number", D.str "truth", D.str "list"] r = some (.str k.s) := by
  rcases lt3 h0 h1 with e | e | e <;> subst e
  · exact ⟨.n, atI_0⟩
  · exact ⟨.t, atI_1⟩
  · exact ⟨.l, atI_2⟩
end L3
namespace L3
open PySem PySem.Spec PyProof.Rows L2
theorem Own.rg {ha hb p : Addr} {m m1 : Mu} {ds : List D} {c : Cell} (h : Own ha hb m m1 p ds) (R : Rg ha hb m1) : Rg ha hb (m1.put p c) := R.off (c2 := .lst []) h.a h.b
end L3
namespace L3
open PySem PySem.Spec PyProof.Rows L2
section
variable {g : AGt} {tt : ATt} {te : AEt} {δw : Dt} {Q : EK} {m : Mu}
def keepS (P : Nat → Bool) : D → Option D
  | .str x => if P (un x) = true then some (.str x) else none
  | _ => none
theorem keepS_map (P : Nat → Bool) : ∀ cs : List Nat, (strD (cs.map sg)).filterMap (keepS P) = strD ((cs.filter P).map sg)
  | [] => rfl
  | c :: cs => by
    show ((D.str (sg c)) :: strD (cs.map sg)).filterMap (keepS P) = _
    rw [List.filterMap_cons, keepS_map P cs, List.filter_cons]
    rw [show keepS P (.str (sg c)) = if P c = true then some (.str (sg c)) else none from rfl]
    by_cases h : P c = true
    · simp [h, strD]
    · simp [h, strD]
/-- a comprehension that keeps some of some signs -/
theorem lc_sg {keys : List Nat} (P : Nat → Bool) (hs : ∀ c ∈ keys, ∀ R : Option D → Mu → Prop, R (if P c = true then some (.str (sg c)) else none) m → lcStep g tt te δw (.str (sg c)) m R) (q : Q (.lst (strD ((keys.filter P).map sg))) m) : lcGo g tt te δw Q (strD (keys.map sg)) [] m := by
  refine lc_pure (keepS P) (fun d hd R r => ?_) ?_
  · obtain ⟨x, hx, rfl⟩ := List.mem_map.mp hd
    obtain ⟨c, hc, rfl⟩ := List.mem_map.mp hx
    exact hs c hc R r
  · rw [keepS_map, List.nil_append]; exact q
theorem strsOk {cs : List Nat} (h : ∀ c ∈ cs, c < 1114112) : eqOk (.lst (strD (cs.map sg))) = true := okD.eq (n := 1) (okD_lst fun d hd => by
  obtain ⟨x, hx, rfl⟩ := List.mem_map.mp hd
  obtain ⟨c, hc, rfl⟩ := List.mem_map.mp hx
  exact okD_sg (h c hc)) (by omega)
theorem eqD_lnil {d : D} {ds : List D} : eqD (.lst (d :: ds)) (.lst []) = false := by simp [eqD, D.pd, pds, PyData.eqv, PyData.eqvAll]
theorem eqD_nilnil : eqD (.lst []) (.lst []) = true := by simp [eqD, D.pd, pds, PyData.eqv, PyData.eqvAll]
theorem ex_ne_nil {cs : List Nat} (h : ∀ c ∈ cs, c < 1114112) : rhoNe (.lst (strD (cs.map sg))) (.lst []) m Q = Q (.bl (!decide (cs = []))) m := by
  rw [ex_ne (by exact strsOk h) (by exact okl_nil)]
  cases cs with
  | nil => rw [show eqD (rsv m (.lst (strD ([].map sg)))) (rsv m (.lst [])) = true from eqD_nilnil]; simp
  | cons c cs => rw [show eqD (rsv m (.lst (strD ((c :: cs).map sg)))) (rsv m (.lst [])) = false from eqD_lnil]; simp
theorem atI_sg {cs : List Nat} {r : Int} (h0 : 0 ≤ r) (h1 : r < (strD (cs.map sg)).length) : ∃ c, c ∈ cs ∧ atI (strD (cs.map sg)) r = some (.str (sg c)) := by
  obtain ⟨x, hx, hm⟩ := atI_get h0 h1
  obtain ⟨y, hy, rfl⟩ := List.mem_map.mp hm
  obtain ⟨c, hc, rfl⟩ := List.mem_map.mp hy
  exact ⟨c, hc, hx⟩
end
end L3
/-! L11: kinds hang on what is called and used alone; parts that the generator makes. -/
namespace L3
open PySem PySem.Spec PyProof.Rows L2
def Bd.used : Bd → List Nat
  | .cel c => [c]
  | .un _ a => a.used
  | .bin _ a b => a.used ++ b.used
  | .ite a b c => a.used ++ b.used ++ c.used
  | .set c a => c :: a.used
  | .cal _ a => a.used
  | _ => []
def Bd.calls : Bd → List Nat
  | .un _ a => a.calls
  | .bin _ a b => a.calls ++ b.calls
  | .ite a b c => a.calls ++ b.calls ++ c.calls
  | .set _ a => a.calls
  | .cal d a => d :: a.calls
  | _ => []
theorem Bd.used_len : ∀ b : Bd, b.used.length ≤ b.words
  | .num _ => by simp [Bd.used]
  | .tru _ => by simp [Bd.used]
  | .emp => by simp [Bd.used]
  | .arg => by simp [Bd.used]
  | .cel _ => by simp [Bd.used, Bd.words]
  | .un _ a => by have := a.used_len; simp [Bd.used, Bd.words]; omega
  | .bin _ a b => by have := a.used_len; have := b.used_len; simp [Bd.used, Bd.words]; omega
  | .ite a b c => by have := a.used_len; have := b.used_len; have := c.used_len; simp [Bd.used, Bd.words]; omega
  | .set _ a => by have := a.used_len; simp [Bd.used, Bd.words]; omega
  | .cal _ a => by have := a.used_len; simp [Bd.used, Bd.words]; omega
theorem Bd.kind_congr {tk : Kd} {gv gv' : Gv} {cl cl' : Cv} : ∀ b : Bd, (∀ d ∈ b.calls, lk gv d = lk gv' d) → (∀ c ∈ b.used, lk cl c = lk cl' c) → b.kind tk gv cl = b.kind tk gv' cl'
  | .num _, _, _ => rfl
  | .tru _, _, _ => rfl
  | .emp, _, _ => rfl
  | .arg, _, _ => rfl
  | .cel c, _, h => by simp only [Bd.kind]; exact h c (by simp [Bd.used])
  | .un w a, g, h => by simp only [Bd.kind]; rw [a.kind_congr (fun d hd => g d (by simpa [Bd.calls] using hd)) (fun c hc => h c (by simpa [Bd.used] using hc))]
  | .bin w a b, g, h => by
    simp only [Bd.kind]
    rw [a.kind_congr (fun d hd => g d (by simp [Bd.calls, hd])) (fun c hc => h c (by simp [Bd.used, hc])), b.kind_congr (fun d hd => g d (by simp [Bd.calls, hd])) (fun c hc => h c (by simp [Bd.used, hc]))]
  | .ite a b c, g, h => by
    simp only [Bd.kind]
    rw [a.kind_congr (fun d hd => g d (by simp [Bd.calls, hd])) (fun c hc => h c (by simp [Bd.used, hc])), b.kind_congr (fun d hd => g d (by simp [Bd.calls, hd])) (fun c hc => h c (by simp [Bd.used, hc])), c.kind_congr (fun d hd => g d (by simp [Bd.calls, hd])) (fun c hc => h c (by simp [Bd.used, hc]))]
  | .set c a, g, h => by
    simp only [Bd.kind]
    rw [a.kind_congr (fun d hd => g d (by simp [Bd.calls, hd])) (fun c hc => h c (by simp [Bd.used, hc])), h c (by simp [Bd.used])]
  | .cal c a, g, h => by
    simp only [Bd.kind]
    rw [a.kind_congr (fun d hd => g d (by simp [Bd.calls, hd])) (fun c hc => h c (by simp [Bd.used, hc])), g c (by simp [Bd.calls])]
/-- a right body's calls are given, its cells are there -/
theorem Bd.kind_calls {tk : Kd} {gv : Gv} {cl : Cv} : ∀ (b : Bd) (k : Kd), b.kind tk gv cl = some k → (∀ d ∈ b.calls, d ∈ gv.map (·.1)) ∧ ∀ c ∈ b.used, c ∈ cl.map (·.1)
  | .num _, _, _ => by simp [Bd.calls, Bd.used]
  | .tru _, _, _ => by simp [Bd.calls, Bd.used]
  | .emp, _, _ => by simp [Bd.calls, Bd.used]
  | .arg, _, _ => by simp [Bd.calls, Bd.used]
  | .cel c, k, h => by
    simp only [Bd.kind] at h
    have := lk_some h
    exact ⟨by simp [Bd.calls], fun x hx => by simp [Bd.used] at hx; subst hx; exact List.mem_map.mpr ⟨_, this, rfl⟩⟩
  | .un w a, k, h => by
    simp only [Bd.kind] at h
    cases ha : a.kind tk gv cl with
    | none => rw [ha] at h; cases h
    | some ka => exact a.kind_calls ka ha
  | .bin w a b, k, h => by
    simp only [Bd.kind] at h
    cases ha : a.kind tk gv cl with
    | none => rw [ha] at h; cases h
    | some ka =>
      cases hb : b.kind tk gv cl with
      | none => rw [ha, hb] at h; cases h
      | some kb =>
        have i1 := a.kind_calls ka ha
        have i2 := b.kind_calls kb hb
        exact ⟨fun d hd => (List.mem_append.mp hd).elim (i1.1 d) (i2.1 d), fun d hd => (List.mem_append.mp hd).elim (i1.2 d) (i2.2 d)⟩
  | .ite a b c, k, h => by
    simp only [Bd.kind] at h
    cases ha : a.kind tk gv cl with
    | none => rw [ha] at h; cases h
    | some ka =>
      cases hb : b.kind tk gv cl with
      | none => rw [ha, hb] at h; cases h
      | some kb =>
        cases hc : c.kind tk gv cl with
        | none => rw [ha, hb, hc] at h; cases h
        | some kc =>
          have i1 := a.kind_calls ka ha
          have i2 := b.kind_calls kb hb
          have i3 := c.kind_calls kc hc
          exact ⟨fun d hd => (List.mem_append.mp hd).elim (fun hd => (List.mem_append.mp hd).elim (i1.1 d) (i2.1 d)) (i3.1 d), fun d hd => (List.mem_append.mp hd).elim (fun hd => (List.mem_append.mp hd).elim (i1.2 d) (i2.2 d)) (i3.2 d)⟩
  | .set c a, k, h => by
    simp only [Bd.kind] at h
    cases ha : a.kind tk gv cl with
    | none => rw [ha] at h; cases h
    | some ka =>
      have i1 := a.kind_calls ka ha
      rw [ha] at h
      have hc : lk cl c = some ka := by
        simp only [Option.bind_some] at h
        by_cases e : lk cl c = some ka
        · exact e
        · rw [if_neg e] at h; cases h
      exact ⟨i1.1, fun d hd => (List.mem_cons.mp hd).elim (fun e => by subst e; exact List.mem_map.mpr ⟨_, lk_some hc, rfl⟩) (i1.2 d)⟩
  | .cal c a, k, h => by
    simp only [Bd.kind] at h
    cases ha : a.kind tk gv cl with
    | none => rw [ha] at h; cases h
    | some ka =>
      have i1 := a.kind_calls ka ha
      rw [ha] at h
      simp only [Option.bind_some] at h
      cases hc : lk gv c with
      | none => rw [hc] at h; cases h
      | some p =>
        exact ⟨fun d hd => (List.mem_cons.mp hd).elim (fun e => by subst e; exact List.mem_map.mpr ⟨_, lk_some hc, rfl⟩) (i1.1 d), i1.2⟩
theorem lk_of_mem {α : Type} {l : List (Nat × α)} (h : (l.map (·.1)).Nodup) {c : Nat} {a : α} (m : (c, a) ∈ l) : lk l c = some a := by
  induction l with
  | nil => cases m
  | cons p l ih =>
    rw [List.map_cons, List.nodup_cons] at h
    unfold lk
    rw [List.find?_cons]
    rcases List.mem_cons.mp m with e | m
    · subst e; simp
    · have ne : ¬ p.1 = c := fun e => h.1 (by subst e; exact List.mem_map.mpr ⟨_, m, rfl⟩)
      simpa [ne, lk] using ih h.2 m
theorem lk_none {α : Type} {l : List (Nat × α)} {c : Nat} (h : c ∉ l.map (·.1)) : lk l c = none := by
  cases e : lk l c with
  | none => rfl
  | some a => exact absurd (List.mem_map.mpr ⟨_, lk_some e, rfl⟩) h
/-- what the generator's parts are -/
structure PartOk (nm : Nat) (own others : List Nat) (sg : Gv) (cl : Cv) (p : Part) : Prop where
  ok : p.ok
  right : p.wrong = none
  nm : p.nm = nm
  own : ∀ c, c ∈ p.ds.map (·.c) ↔ c ∈ own
  ask : ∀ a ∈ p.as, a.1 ∈ others
  sig : ∀ a ∈ p.gv, lk sg a.1 = some a.2
  cel : ∀ a ∈ p.cs, lk cl a.1 = some a.2
  dep : ∀ d ∈ p.ds, d.b.dep ≤ 4 ∧ d.b.words ≤ 40
end L3
namespace L3
open PySem PySem.Spec PyProof.Rows L2
/-- the rows of some names -/
def gvOf {α : Type} (sg : List (Nat × α)) (cs : List Nat) : List (Nat × α) := cs.filterMap fun c => (lk sg c).map fun p => (c, p)
theorem gvOf_mem {α : Type} {sg : List (Nat × α)} {cs : List Nat} {a : Nat × α} : a ∈ gvOf sg cs ↔ a.1 ∈ cs ∧ lk sg a.1 = some a.2 := by
  unfold gvOf
  rw [List.mem_filterMap]
  constructor
  · rintro ⟨c, hc, h⟩
    cases e : lk sg c with
    | none => rw [e] at h; cases h
    | some p => rw [e] at h; cases h; exact ⟨hc, e⟩
  · rintro ⟨h1, h2⟩
    exact ⟨a.1, h1, by rw [h2]; rfl⟩
theorem gvOf_keys {α : Type} {sg : List (Nat × α)} : ∀ {cs : List Nat}, (∀ c ∈ cs, ∃ p, lk sg c = some p) → (gvOf sg cs).map (·.1) = cs
  | [], _ => rfl
  | c :: cs, h => by
    obtain ⟨p, hp⟩ := h c List.mem_cons_self
    have ih := gvOf_keys (cs := cs) fun x hx => h x (List.mem_cons_of_mem _ hx)
    unfold gvOf at ih ⊢
    rw [List.filterMap_cons, hp]
    simp only [Option.map_some, List.map_cons, ih]
theorem gvOf_lk {α : Type} {sg : List (Nat × α)} {cs : List Nat} (nd : cs.Nodup) (h : ∀ c ∈ cs, ∃ p, lk sg c = some p) {c : Nat} (hc : c ∈ cs) : lk (gvOf sg cs) c = lk sg c := by
  obtain ⟨p, hp⟩ := h c hc
  rw [hp]
  exact lk_of_mem (by rw [gvOf_keys h]; exact nd) (gvOf_mem.mpr ⟨hc, hp⟩)
def sigF (sg : Gv) : D → Option D
  | .str x => (lk sg (un x)).map fun p => L3.pairD (.inr x, .tup [.str p.1.s, .str p.2.s])
  | _ => none
theorem sigF_sg {sg : Gv} {c : Nat} {p : Kd × Kd} (h : lk sg c = some p) : sigF sg (.str (L3.sg c)) = some (.tup [.str (L3.sg c), .tup [.str p.1.s, .str p.2.s]]) := by
  show ((lk sg c).map fun p => L3.pairD (.inr (L3.sg c), .tup [.str p.1.s, .str p.2.s])) = _
  rw [h]; rfl
theorem sigF_map {sg : Gv} : ∀ {cs : List Nat}, (∀ c ∈ cs, ∃ p, lk sg c = some p) → (strD (cs.map L3.sg)).filterMap (sigF sg) = (gvD (gvOf sg cs)).map L3.pairD
  | [], _ => rfl
  | c :: cs, h => by
    obtain ⟨p, hp⟩ := h c List.mem_cons_self
    have ih := sigF_map (cs := cs) fun x hx => h x (List.mem_cons_of_mem _ hx)
    show ((D.str (L3.sg c)) :: strD (cs.map L3.sg)).filterMap (sigF sg) = _
    rw [List.filterMap_cons, sigF_sg hp, ih]
    unfold gvOf
    rw [List.filterMap_cons, hp]
    rfl
theorem strD_app {a b : List Nat} : strD (a.map L3.sg) ++ strD (b.map L3.sg) = strD ((a ++ b).map L3.sg) := by simp [strD]
theorem strD_len {a : List Nat} : (strD (a.map L3.sg)).length = a.length := by simp [strD]
theorem ex_dict2 {m : Mu} {Q : EK} {ps : List (Key × D)} (q : Q (.dct (mergeD [] ps)) m) : rcDict2 [.lst (ps.map L3.pairD)] m Q := ⟨_, ps, rfl, .inl rfl, q⟩
theorem ex_tuple_ref {m : Mu} {Q : EK} {p : Addr} {ds : List D} (h : m p = some (.lst ds)) : rcTuple [.ref p] m Q = Q (.tup ds) m := by
  have hl : lstOf m (.ref p) = some ds := by simp [lstOf, h]
  unfold rcTuple
  refine propext ⟨?_, fun q => ⟨_, rfl, _, hl, q⟩⟩
  rintro ⟨x, e, q⟩
  injection e with e _
  subst e
  obtain ⟨es, h, q⟩ := q
  rw [hl] at h
  cases h
  exact q
theorem rsg_of {ds own : List Nat} (p : ds.Perm own) (nd : own.Nodup) (h : ds.Pairwise (· ≤ ·)) : Rsg ds := by
  have n2 : ds.Nodup := p.nodup_iff.mpr nd
  rw [List.nodup_iff_pairwise_ne] at n2
  exact (h.and n2).imp fun ⟨a, b⟩ => by omega
/-- the parts are right -/
theorem PartOk.mk' {nm : Nat} {own others : List Nat} {sg : Gv} {cl : Cv} {es : List Deed} {as : Gv} {cs : Cv} {ds : List Nat} (hnm : partC nm) (hnd : (own ++ others).Nodup) (hlen : (own ++ others).length ≤ 8) (hk : ∀ c ∈ own ++ others, ∃ p, lk sg c = some p ∧ deedC c) (hc : CvOk cl)
    (hds : ds.Perm own) (hr : Rsg ds) (he : es.map (·.c) = ds) (hes : ∀ d ∈ es, lk sg d.c = some (d.tk, d.tl) ∧ d.b.wf ∧ d.b.kind d.tk (gvOf sg (own ++ others)) cl = some d.tl ∧ d.b.dep ≤ 4 ∧ d.b.words ≤ 40 ∧ (∀ x ∈ d.b.calls, x ∈ others → x ∈ as.map (·.1)) ∧ (∀ x ∈ d.b.used, x ∈ cs.map (·.1)))
    (ha : ∀ a ∈ as, a.1 ∈ others ∧ lk sg a.1 = some a.2) (har : Rsg (as.map (·.1))) (hcs : ∀ a ∈ cs, lk cl a.1 = some a.2) (hcr : Rsg (cs.map (·.1))) (hcl : cs.length ≤ 4) (hal : as.length ≤ 8) : PartOk nm own others sg cl ⟨nm, es, as, cs⟩ := by
  have hk' : ∀ c ∈ own ++ others, ∃ p, lk sg c = some p := fun c h => let ⟨p, h1, _⟩ := hk c h; ⟨p, h1⟩
  have memc : ∀ c, c ∈ es.map (·.c) ↔ c ∈ own := fun c => by rw [he]; exact hds.mem_iff
  have dj := (List.nodup_append.mp hnd).2.2
  have own_lk : ∀ d ∈ es, lk sg d.c = some (d.tk, d.tl) := fun d h => (hes d h).1
  have nd2 : ((es.map fun d => (d.c, (d.tk, d.tl))) ++ as).map (·.1) |>.Nodup := by
    rw [List.map_append, List.map_map]
    refine List.nodup_append.mpr ⟨?_, har.nodup, fun a h1 b h2 e => ?_⟩
    · have : List.map ((fun x => x.1) ∘ fun d : Deed => (d.c, (d.tk, d.tl))) es = ds := by rw [← he]; rfl
      rw [this]; exact hr.nodup
    · subst e
      obtain ⟨d, hd, rfl⟩ := List.mem_map.mp h1
      obtain ⟨x, hx, e⟩ := List.mem_map.mp h2
      refine dj d.c ((memc _).mp (List.mem_map.mpr ⟨d, hd, rfl⟩)) x.1 (ha x hx).1 e.symm
  have gvlk : ∀ c, (c ∈ own ∨ c ∈ as.map (·.1)) → lk ((es.map fun d => (d.c, (d.tk, d.tl))) ++ as) c = lk sg c := by
    intro c h
    rcases h with h | h
    · obtain ⟨d, hd, rfl⟩ := List.mem_map.mp ((memc c).mpr h)
      rw [own_lk d hd]
      exact lk_of_mem nd2 (List.mem_append.mpr (.inl (List.mem_map.mpr ⟨d, hd, rfl⟩)))
    · obtain ⟨x, hx, rfl⟩ := List.mem_map.mp h
      rw [(ha x hx).2]
      exact lk_of_mem nd2 (List.mem_append.mpr (.inr hx))
  have ok : Part.ok ⟨nm, es, as, cs⟩ := by
    refine ⟨hnm, ?_, hal, hcl, fun d h => ?_, fun a h => ?_, fun a h => hc.c _ (lk_some (hcs a h)), by rw [show (Part.mk nm es as cs).ds.map (·.c) = ds from he]; exact hr, har, hcr, fun a h z => ?_⟩
    · have := congrArg List.length he
      rw [List.length_map] at this
      have h2 := hds.length_eq
      rw [List.length_append] at hlen
      show es.length ≤ 8
      omega
    · obtain ⟨h1, h2, h3, h4, h5, _⟩ := hes d h
      obtain ⟨p, _, h7⟩ := hk d.c (List.mem_append.mpr (.inl ((memc _).mp (List.mem_map.mpr ⟨d, h, rfl⟩))))
      exact ⟨h7, h2, by omega, by omega⟩
    · obtain ⟨p, _, h7⟩ := hk a.1 (List.mem_append.mpr (.inr (ha a h).1))
      exact h7
    · exact dj a.1 ((memc _).mp z) a.1 (ha a h).1 rfl
  refine ⟨ok, ?_, rfl, memc, fun a h => (ha a h).1, fun a h => ?_, hcs, fun d h => let ⟨_, _, _, h4, h5, _⟩ := hes d h; ⟨h4, h5⟩⟩
  · unfold Part.wrong
    rw [Option.map_eq_none_iff, List.find?_eq_none]
    intro d h
    obtain ⟨h1, h2, h3, h4, h5, h6, h7⟩ := hes d h
    have : d.b.kind d.tk (Part.gv ⟨nm, es, as, cs⟩) cs = some d.tl := by
      rw [← h3]
      have ⟨g1, g2⟩ := d.b.kind_calls _ h3
      refine d.b.kind_congr (fun x hx => ?_) fun x hx => ?_
      · have hm : x ∈ own ++ others := by
          have := g1 x hx
          rwa [gvOf_keys hk'] at this
        rw [gvOf_lk hnd hk' hm]
        refine gvlk x ?_
        rcases List.mem_append.mp hm with z | z
        · exact .inl z
        · exact .inr (h6 x hx z)
      · obtain ⟨y, hy, e⟩ := List.mem_map.mp (h7 x hx)
        subst e
        rw [hcs y hy]
        exact lk_of_mem hcr.nodup hy
    simp [this]
  · show lk sg a.1 = some a.2
    rcases List.mem_append.mp (show a ∈ (es.map fun d => (d.c, (d.tk, d.tl))) ++ as from h) with h | h
    · obtain ⟨d, hd, rfl⟩ := List.mem_map.mp h
      exact own_lk d hd
    · exact (ha a h).2
end L3
namespace L3
open PySem PySem.Spec PyProof.Rows L2
/-- a comprehension over some signs that draws whether it keeps -/
theorem lc_gen {g : AGt} {tt : ATt} {te : AEt} {δw : Dt} {Q : EK} {ha hb : Addr} {m0 : Mu} {keys : List Nat} (row : Nat → D) (must : Nat → Prop) (R0 : Rg ha hb m0)
    (hs : ∀ c ∈ keys, ∀ m1, Rg ha hb m1 → Ch ha hb m0 m1 → ∀ R : Option D → Mu → Prop, (∀ m2, Rg ha hb m2 → Ch ha hb m1 m2 → R (some (row c)) m2) → (∀ m2, ¬ must c → Rg ha hb m2 → Ch ha hb m1 m2 → R none m2) → lcStep g tt te δw (.str (sg c)) m1 R)
    (q : ∀ (ks : List Nat) (m2 : Mu), ks.Sublist keys → (∀ c ∈ keys, must c → c ∈ ks) → Rg ha hb m2 → Ch ha hb m0 m2 → Q (.lst (ks.map row)) m2) : lcGo g tt te δw Q (strD (keys.map sg)) [] m0 := by
  refine lc_inv (fun rest acc m => ∃ (cs ks dn : List Nat), rest = strD (cs.map sg) ∧ keys = dn ++ cs ∧ acc = ks.map row ∧ ks.Sublist dn ∧ (∀ c ∈ dn, must c → c ∈ ks) ∧ Rg ha hb m ∧ Ch ha hb m0 m) ?_ ?_ ⟨keys, [], [], rfl, rfl, rfl, List.Sublist.refl _, by simp, R0, Ch.refl _⟩
  · rintro d rest acc m ⟨cs, ks, dn, e, hk, rfl, hsub, hm, R1, C1⟩ R hR
    cases cs with
    | nil => cases e
    | cons c cs =>
      simp only [strD, List.map_cons] at e
      injection e with e1 e2
      subst e1
      refine hs c (by rw [hk]; simp) m R1 C1 R (fun m2 R2 C2 => hR _ _ ⟨cs, ks ++ [c], dn ++ [c], e2, by rw [hk]; simp, by simp, hsub.append (List.Sublist.refl _), fun x hx hmx => ?_, R2, C1.trans C2⟩) (fun m2 hn R2 C2 => hR _ _ ⟨cs, ks, dn ++ [c], e2, by rw [hk]; simp, by simp, hsub.trans (List.sublist_append_left _ _), fun x hx hmx => ?_, R2, C1.trans C2⟩)
      · rcases List.mem_append.mp hx with h | h
        · exact List.mem_append.mpr (.inl (hm x h hmx))
        · exact List.mem_append.mpr (.inr h)
      · rcases List.mem_append.mp hx with h | h
        · exact hm x h hmx
        · have : x = c := by simpa using h
          subst this
          exact absurd hmx hn
  · rintro acc m ⟨cs, ks, dn, e, hk, rfl, hsub, hm, R1, C1⟩
    have : cs = [] := by cases cs with | nil => rfl | cons c cs => cases e
    subst this
    rw [List.append_nil] at hk
    subst hk
    exact q ks m hsub hm R1 C1
theorem rows_of {α : Type} {sg : List (Nat × α)} {row : Nat → D} {enc : Nat × α → D} (h : ∀ c p, lk sg c = some p → row c = enc (c, p)) : ∀ {ks : List Nat}, (∀ c ∈ ks, ∃ p, lk sg c = some p) → ks.map row = (gvOf sg ks).map enc
  | [], _ => rfl
  | c :: ks, hk => by
    obtain ⟨p, hp⟩ := hk c List.mem_cons_self
    have ih := rows_of h (ks := ks) fun x hx => hk x (List.mem_cons_of_mem _ hx)
    rw [List.map_cons, ih, h c p hp]
    unfold gvOf
    rw [List.filterMap_cons, hp]
    rfl
end L3
/-! L12: between two statements lists of the store may become data by value. -/
namespace L3
open PySem PySem.Spec PyProof.Rows L2
mutual
/-- lists of the store, told by value -/
def D.frz (F : Addr → Option (List D)) : D → D
  | .tup ds => .tup (frzs F ds)
  | .lst ds => .lst (frzs F ds)
  | .dct kvs => .dct (frzk F kvs)
  | .ref p => match F p with
    | some ds => .lst ds
    | none => .ref p
  | d => d
def frzs (F : Addr → Option (List D)) : List D → List D
  | [] => []
  | d :: ds => d.frz F :: frzs F ds
def frzk (F : Addr → Option (List D)) : List (Key × D) → List (Key × D)
  | [] => []
  | (k, d) :: ds => (k, d.frz F) :: frzk F ds
end
theorem frzs_map {F : Addr → Option (List D)} : ∀ ds : List D, frzs F ds = ds.map (D.frz F)
  | [] => by simp [frzs]
  | d :: ds => by simp [frzs, frzs_map ds]
def Mu.frz (m : Mu) (F : Addr → Option (List D)) : Mu := fun a => if (F a).isSome = true then none else m a
section
variable {K : PySem.W.Frag} {H : Hp} {N : Addr → Prop} {F : Addr → Option (List D)}
mutual
theorem Rep.frz (h : ∀ p ds, F p = some ds → Rep K H N (.lst ds) (.ref p)) : ∀ (d : D) (v : V), Rep K H N d v → Rep K H N (d.frz F) v
  | .non, v, r => by simpa only [D.frz] using r
  | .bl _, v, r => by simpa only [D.frz] using r
  | .int _, v, r => by simpa only [D.frz] using r
  | .str _, v, r => by simpa only [D.frz] using r
  | .ty _, v, r => by simpa only [D.frz] using r
  | .fl _, v, r => by simpa only [D.frz] using r
  | .ref p, v, r => by
    rw [rep_ref] at r
    subst r
    simp only [D.frz]
    split
    · rename_i ds e
      exact h p ds e
    · exact rep_ref.mpr rfl
  | .tup ds, v, r => by
    simp only [D.frz, Rep] at r ⊢
    obtain ⟨a, vs, e, t, q⟩ := r
    exact ⟨a, vs, e, t, Reps.frz h ds vs q⟩
  | .lst ds, v, r => by
    simp only [D.frz, Rep] at r ⊢
    obtain ⟨a, vs, e, t, q⟩ := r
    exact ⟨a, vs, e, t, Reps.frz h ds vs q⟩
  | .dct ds, v, r => by
    simp only [D.frz, Rep] at r ⊢
    obtain ⟨a, vs, e, t, q⟩ := r
    exact ⟨a, vs, e, t, Repk.frz h ds vs q⟩
theorem Reps.frz (h : ∀ p ds, F p = some ds → Rep K H N (.lst ds) (.ref p)) : ∀ (ds : List D) (vs : List V), Reps K H N ds vs → Reps K H N (frzs F ds) vs
  | [], vs, r => by simpa only [frzs] using r
  | d :: ds, vs, r => by
    simp only [frzs, Reps] at r ⊢
    obtain ⟨v, ws, e, r1, r2⟩ := r
    exact ⟨v, ws, e, Rep.frz h d v r1, Reps.frz h ds ws r2⟩
theorem Repk.frz (h : ∀ p ds, F p = some ds → Rep K H N (.lst ds) (.ref p)) : ∀ (ds : List (Key × D)) (vs : List (Key × V)), Repk K H N ds vs → Repk K H N (frzk F ds) vs
  | [], vs, r => by simpa only [frzk] using r
  | (k, d) :: ds, vs, r => by
    simp only [frzk, Repk] at r ⊢
    obtain ⟨v, ws, e, r1, r2⟩ := r
    exact ⟨v, ws, e, Rep.frz h d v r1, Repk.frz h ds ws r2⟩
end
end
def Dt.frz (δ : Dt) (F : Addr → Option (List D)) : Dt := List.map (Option.map (D.frz F)) δ
theorem frz_sub {m : Mu} {F : Addr → Option (List D)} : Sub (m.frz F) m := fun a c e => by
  unfold Mu.frz at e
  split at e
  · cases e
  · exact e
theorem EnvD.frz {K : PySem.W.Frag} {H : Hp} {B : Addr → Prop} {m : Mu} {σ : L2.St} {δ : Dt} {F : Addr → Option (List D)} (hF : ∀ p ds, F p = some ds → m p = some (.lst ds)) (W : Wd K H B m) (E : EnvD K H (Ban B m) σ δ) : EnvD K H (Ban B (m.frz F)) σ (δ.frz F) := by
  have E2 := E.carry (carry_sub (frz_sub (F := F)))
  refine ⟨by unfold Dt.frz; rw [E2.len, List.length_map], fun i d e => ?_⟩
  unfold Dt.frz at e
  rw [List.getElem?_map] at e
  cases q : δ[i]? with
  | none => rw [q] at e; cases e
  | some o =>
    rw [q] at e
    cases o with
    | none => cases e
    | some d0 =>
      simp only [Option.map_some, Option.some.injEq] at e
      subst e
      obtain ⟨v, hv, r⟩ := E2.at_ i d0 q
      refine ⟨v, hv, Rep.frz (fun p ds hp => ?_) _ _ r⟩
      obtain ⟨vs, hh, rr⟩ := W.cell p _ (hF p ds hp)
      refine rep_lst.mpr ⟨p, vs, rfl, ⟨hh, fun z => z.elim (fun b => ?_) fun z => z ?_⟩, Reps.carry (carry_sub frz_sub) _ _ rr⟩
      · have := (W.hid p b).2
        rw [hF p ds hp] at this
        cases this
      · unfold Mu.frz
        rw [if_pos (by rw [hp]; rfl)]
/-- ahead of a suite: some lists are told by value from here on -/
def aGh (t : ASt) : ASt := fun D δ m => ∃ F : Addr → Option (List L3.D), (∀ p ds, F p = some ds → m p = some (.lst ds)) ∧ t D (δ.frz F) (m.frz F)
theorem ass_gh {X : Cx} {st : List Stmt} {t : ASt} (h : ASs X st t) : ASs X st (aGh t) :=
  let ⟨_, p, s⟩ := h.ex
  ⟨_, p, fun B D δ m σ H W E ⟨F, hF, q⟩ De k => s B D (δ.frz F) (m.frz F) σ H (W.sub frz_sub) (E.frz hF W) q De (k.step (step_sub frz_sub))⟩
/-! ### nodup lists of letters are short -/
theorem nodup_len : ∀ {l k : List Nat}, l.Nodup → (∀ c ∈ l, c ∈ k) → l.length ≤ k.length
  | [], _, _, _ => Nat.zero_le _
  | c :: l, k, h, s => by
    obtain ⟨h1, h2⟩ := List.nodup_cons.mp h
    have hc := s c List.mem_cons_self
    have := nodup_len (l := l) (k := k.erase c) h2 fun x hx => by
      have ne : x ≠ c := fun e => h1 (by subst e; exact hx)
      exact (List.mem_erase_of_ne ne).mpr (s x (List.mem_cons_of_mem _ hx))
    rw [List.length_erase_of_mem hc] at this
    have : 0 < k.length := List.length_pos_of_mem hc
    simp only [List.length_cons]
    omega
theorem deeds_len {l : List Nat} (h : l.Nodup) (s : ∀ c ∈ l, deedC c) : l.length ≤ 8 := nodup_len (k := [97, 98, 99, 100, 101, 102, 103, 104]) h s
def lettersD : List Nat := [97, 98, 99, 100, 101, 102, 103, 104]
def lettersC : List Nat := [112, 113, 114, 115]
def lettersP : List Nat := [65, 66, 67, 68, 69, 70]
theorem cut_deeds {r : Int} (h0 : 0 ≤ r) (h1 : r < 7) : ∃ n, (cutS "abcdefgh" none (some (2 + r))).cps.toList = lettersD.take n := by
  have : r = 0 ∨ r = 1 ∨ r = 2 ∨ r = 3 ∨ r = 4 ∨ r = 5 ∨ r = 6 := by omega
  rcases this with e | e | e | e | e | e | e <;> subst e
  · exact ⟨2, by decide +kernel⟩
  · exact ⟨3, by decide +kernel⟩
  · exact ⟨4, by decide +kernel⟩
  · exact ⟨5, by decide +kernel⟩
  · exact ⟨6, by decide +kernel⟩
  · exact ⟨7, by decide +kernel⟩
  · exact ⟨8, by decide +kernel⟩
/-- a comprehension over some signs that draws a row for each -/
theorem lc_rows {α : Type} {g : AGt} {tt : ATt} {te : AEt} {δw : Dt} {Q : EK} {ha hb : Addr} {m0 : Mu} {keys : List Nat} (enc : Nat × α → D) (R0 : Rg ha hb m0)
    (hs : ∀ c ∈ keys, ∀ m1, Rg ha hb m1 → Ch ha hb m0 m1 → ∀ R : Option D → Mu → Prop, (∀ a m2, Rg ha hb m2 → Ch ha hb m1 m2 → R (some (enc (c, a))) m2) → lcStep g tt te δw (.str (sg c)) m1 R)
    (q : ∀ (rs : List (Nat × α)) (m2 : Mu), rs.map (·.1) = keys → Rg ha hb m2 → Ch ha hb m0 m2 → Q (.lst (rs.map enc)) m2) : lcGo g tt te δw Q (strD (keys.map sg)) [] m0 := by
  refine lc_inv (fun rest acc m => ∃ (cs : List Nat) (rs : List (Nat × α)), rest = strD (cs.map sg) ∧ keys = rs.map (·.1) ++ cs ∧ acc = rs.map enc ∧ Rg ha hb m ∧ Ch ha hb m0 m) ?_ ?_ ⟨keys, [], rfl, rfl, rfl, R0, Ch.refl _⟩
  · rintro d rest acc m ⟨cs, rs, e, hk, rfl, R1, C1⟩ R hR
    cases cs with
    | nil => cases e
    | cons c cs =>
      simp only [strD, List.map_cons] at e
      injection e with e1 e2
      subst e1
      exact hs c (by rw [hk]; simp) m R1 C1 R (fun a m2 R2 C2 => hR _ _ ⟨cs, rs ++ [(c, a)], e2, by rw [hk]; simp, by simp, R2, C1.trans C2⟩)
  · rintro acc m ⟨cs, rs, e, hk, rfl, R1, C1⟩
    have : cs = [] := by cases cs with | nil => rfl | cons c cs => cases e
    subst this
    exact q rs m (by rw [hk]; simp) R1 C1
/-- the shelf that the generator makes -/
structure ShelfOk (sg : Gv) (cl : Cv) (ps : List Part) : Prop where
  one : 1 ≤ ps.length
  six : ps.length ≤ 6
  nms : ps.map (·.nm) = lettersP.take ps.length
  sgk : sg.map (·.1) = lettersD
  clk : cl.map (·.1) = lettersC
  part : ∀ p ∈ ps, ∃ own others, PartOk p.nm own others sg cl p ∧ own.length ≤ 4
  gives : ∀ p ∈ ps, ∀ a ∈ p.as, ∃ q ∈ ps, a.1 ∈ q.ds.map (·.c)
theorem gvOk_of {sg : Gv} (h : sg.map (·.1) = lettersD) : GvOk sg := ⟨by rw [h]; decide, by have := congrArg List.length h; rw [List.length_map] at this; rw [this]; decide, fun a ha => by
  have : a.1 ∈ sg.map (·.1) := List.mem_map.mpr ⟨a, ha, rfl⟩
  rw [h] at this; exact this⟩
theorem cvOk_of {cl : Cv} (h : cl.map (·.1) = lettersC) : CvOk cl := ⟨by rw [h]; decide, by have := congrArg List.length h; rw [List.length_map] at this; rw [this]; decide, fun a ha => by
  have : a.1 ∈ cl.map (·.1) := List.mem_map.mpr ⟨a, ha, rfl⟩
  rw [h] at this; exact this⟩
theorem signs_D (z : Str) : (z.cps.toList.map fun c => D.str ⟨#[c]⟩) = strD (z.cps.toList.map sg) := by rw [strD, List.map_map]; rfl
end L3
namespace L3
open PySem PySem.Spec PyProof.Rows L2
/-- a comprehension over some signs that draws whether it keeps, of those that may be -/
theorem lc_may {g : AGt} {tt : ATt} {te : AEt} {δw : Dt} {Q : EK} {ha hb : Addr} {m0 : Mu} {keys : List Nat} (row : Nat → D) (may : Nat → Prop) (R0 : Rg ha hb m0)
    (hs : ∀ c ∈ keys, ∀ m1, Rg ha hb m1 → Ch ha hb m0 m1 → ∀ R : Option D → Mu → Prop, (∀ m2, may c → Rg ha hb m2 → Ch ha hb m1 m2 → R (some (row c)) m2) → (∀ m2, Rg ha hb m2 → Ch ha hb m1 m2 → R none m2) → lcStep g tt te δw (.str (sg c)) m1 R)
    (q : ∀ (ks : List Nat) (m2 : Mu), ks.Sublist keys → (∀ c ∈ ks, may c) → Rg ha hb m2 → Ch ha hb m0 m2 → Q (.lst (ks.map row)) m2) : lcGo g tt te δw Q (strD (keys.map sg)) [] m0 := by
  refine lc_inv (fun rest acc m => ∃ (cs ks dn : List Nat), rest = strD (cs.map sg) ∧ keys = dn ++ cs ∧ acc = ks.map row ∧ ks.Sublist dn ∧ (∀ c ∈ ks, may c) ∧ Rg ha hb m ∧ Ch ha hb m0 m) ?_ ?_ ⟨keys, [], [], rfl, rfl, rfl, List.Sublist.refl _, by simp, R0, Ch.refl _⟩
  · rintro d rest acc m ⟨cs, ks, dn, e, hk, rfl, hsub, hm, R1, C1⟩ R hR
    cases cs with
    | nil => cases e
    | cons c cs =>
      simp only [strD, List.map_cons] at e
      injection e with e1 e2
      subst e1
      refine hs c (by rw [hk]; simp) m R1 C1 R (fun m2 hmc R2 C2 => hR _ _ ⟨cs, ks ++ [c], dn ++ [c], e2, by rw [hk]; simp, by simp, hsub.append (List.Sublist.refl _), fun x hx => ?_, R2, C1.trans C2⟩) (fun m2 R2 C2 => hR _ _ ⟨cs, ks, dn ++ [c], e2, by rw [hk]; simp, by simp, hsub.trans (List.sublist_append_left _ _), hm, R2, C1.trans C2⟩)
      rcases List.mem_append.mp hx with h | h
      · exact hm x h
      · have : x = c := by simpa using h
        subst this; exact hmc
  · rintro acc m ⟨cs, ks, dn, e, hk, rfl, hsub, hm, R1, C1⟩
    have : cs = [] := by cases cs with | nil => rfl | cons c cs => cases e
    subst this
    rw [List.append_nil] at hk
    subst hk
    exact q ks m hsub hm R1 C1
theorem rngD_get {lo : Int} {n i : Nat} (h : i < n) : (rngD lo n).drop i = .int (lo + i) :: (rngD lo n).drop (i + 1) := by
  have hl : i < (rngD lo n).length := by simp [rngD, h]
  rw [List.drop_eq_getElem_cons hl]
  simp [rngD]
theorem for_rng {g : AGt} {tb : ASt} {Z : AEnds} {lo : Int} {n : Nat} (I : Nat → Dt → Mu → Prop) (h : ∀ i δ m, i < n → I i δ m → ∀ nx : Dt → Mu → Prop, (∀ δ' m', I (i + 1) δ' m' → nx δ' m') → g (.int (lo + i)) δ m fun δ2 m2 => tb { Z with nx := nx, ct := nx, bk := Z.nx } δ2 m2)
    (q : ∀ δ m, I n δ m → Z.nx δ m) {δ : Dt} {m : Mu} (i0 : I 0 δ m) : forGo g tb Z (rngD lo n) δ m := by
  refine for_inv (fun rest δ m => ∃ i, i ≤ n ∧ rest = (rngD lo n).drop i ∧ I i δ m) ?_ ?_ ⟨0, Nat.zero_le _, rfl, i0⟩
  · rintro d rest δ m ⟨i, hi, e, hI⟩ nx hnx
    have hlt : i < n := by
      rcases Nat.lt_or_eq_of_le hi with h | h
      · exact h
      · subst h
        rw [List.drop_eq_nil_of_le (by simp [rngD])] at e
        cases e
    rw [rngD_get hlt] at e
    injection e with e1 e2
    subst e1
    exact h i δ m hlt hI nx fun δ' m' hI' => hnx δ' m' ⟨i + 1, hlt, e2, hI'⟩
  · rintro δ m ⟨i, hi, e, hI⟩
    have : i = n := by
      rcases Nat.lt_or_eq_of_le hi with h | h
      · rw [rngD_get h] at e; cases e
      · exact h
    subst this
    exact q δ m hI
theorem lc_rng {g : AGt} {tt : ATt} {te : AEt} {δw : Dt} {Q : EK} {lo : Int} {n : Nat} (I : Nat → List D → Mu → Prop) (h : ∀ i acc m, i < n → I i acc m → ∀ R : Option D → Mu → Prop, (∀ o m', I (i + 1) (acc ++ o.toList) m' → R o m') → lcStep g tt te δw (.int (lo + i)) m R)
    (q : ∀ acc m, I n acc m → Q (.lst acc) m) {acc : List D} {m : Mu} (i0 : I 0 acc m) : lcGo g tt te δw Q (rngD lo n) acc m := by
  refine lc_inv (fun rest acc m => ∃ i, i ≤ n ∧ rest = (rngD lo n).drop i ∧ I i acc m) ?_ ?_ ⟨0, Nat.zero_le _, rfl, i0⟩
  · rintro d rest acc m ⟨i, hi, e, hI⟩ R hR
    have hlt : i < n := by
      rcases Nat.lt_or_eq_of_le hi with h | h
      · exact h
      · subst h
        rw [List.drop_eq_nil_of_le (by simp [rngD])] at e
        cases e
    rw [rngD_get hlt] at e
    injection e with e1 e2
    subst e1
    exact h i acc m hlt hI R fun o m' hI' => hR o m' ⟨i + 1, hlt, e2, hI'⟩
  · rintro acc m ⟨i, hi, e, hI⟩
    have : i = n := by
      rcases Nat.lt_or_eq_of_le hi with h | h
      · rw [rngD_get h] at e; cases e
      · exact h
    subst this
    exact q acc m hI
/-! ### lists in the store, one for each owner -/
def lsD (l : List Nat) : D := .lst (strD (l.map sg))
structure Ows (ha hb : Addr) (m m' : Mu) (ps : List Addr) (ls : List (List Nat)) : Prop where
  len : ls.length = ps.length
  nd : ps.Nodup
  at_ : ∀ (i : Nat) (p : Addr) (l : List Nat), ps[i]? = some p → ls[i]? = some l → Own ha hb m m' p (strD (l.map sg))
theorem Ows.ch {ha hb : Addr} {m m1 m2 : Mu} {ps : List Addr} {ls : List (List Nat)} (O : Ows ha hb m m1 ps ls) (C : Ch ha hb m1 m2) : Ows ha hb m m2 ps ls := ⟨O.len, O.nd, fun i p l h1 h2 => (O.at_ i p l h1 h2).ch C⟩
theorem Ows.nil {ha hb : Addr} {m m1 : Mu} : Ows ha hb m m1 [] [] := ⟨rfl, List.nodup_nil, fun i p l h => by simp at h⟩
theorem Ows.add {ha hb : Addr} {m m1 : Mu} {ps : List Addr} {ls : List (List Nat)} (O : Ows ha hb m m1 ps ls) (X : Ext ha hb m m1) (R : Rg ha hb m1) {p : Addr} (hp : m1 p = none) : Ows ha hb m (m1.put p (.lst [])) (ps ++ [p]) (ls ++ [[]]) := by
  have hnp : p ∉ ps := fun z => by
    obtain ⟨i, hi⟩ := List.getElem?_of_mem z
    have hl : i < ls.length := by rw [O.len]; exact (List.getElem?_eq_some_iff.mp hi).1
    have := (O.at_ i p _ hi (List.getElem?_eq_getElem hl)).at_
    rw [hp] at this; cases this
  refine ⟨by simp [O.len], ?_, fun i q l h1 h2 => ?_⟩
  · rw [List.nodup_append]
    exact ⟨O.nd, by simp, fun a ha b hb e => hnp (by simp at hb; subst hb; subst e; exact ha)⟩
  · by_cases hi : i < ps.length
    · rw [List.getElem?_append_left hi] at h1
      rw [List.getElem?_append_left (by rw [O.len]; exact hi)] at h2
      have o := O.at_ i q l h1 h2
      have ne : q ≠ p := fun e => hnp (by subst e; exact List.mem_of_getElem? h1)
      exact ⟨by rw [Mu.put_ne ne]; exact o.at_, o.n, o.a, o.b⟩
    · have h3 : i = ps.length := by
        have := (List.getElem?_eq_some_iff.mp h1).1
        simp at this; omega
      subst h3
      rw [List.getElem?_append_right (Nat.le_refl _)] at h1
      rw [List.getElem?_append_right (by rw [O.len]; exact Nat.le_refl _), O.len] at h2
      simp at h1 h2
      subst h1 h2
      exact Own.new X R hp
theorem Ows.set {ha hb : Addr} {m m1 : Mu} {ps : List Addr} {ls : List (List Nat)} (O : Ows ha hb m m1 ps ls) {i : Nat} {p : Addr} {l l2 : List Nat} (h1 : ps[i]? = some p) (h2 : ls[i]? = some l) : Ows ha hb m (m1.put p (.lst (strD (l2.map sg)))) ps (ls.set i l2) := by
  refine ⟨by simp [O.len], O.nd, fun j q k g1 g2 => ?_⟩
  by_cases e : j = i
  · subst e
    rw [h1] at g1
    cases g1
    have hl := (List.getElem?_eq_some_iff.mp h2).1
    rw [List.getElem?_set_self hl] at g2
    cases g2
    exact (O.at_ j p l h1 h2).put
  · rw [List.getElem?_set_ne (fun z => e z.symm)] at g2
    have o := O.at_ j q k g1 g2
    have ne : q ≠ p := fun z => by
      subst z
      obtain ⟨a1, b1⟩ := List.getElem?_eq_some_iff.mp g1
      obtain ⟨a2, b2⟩ := List.getElem?_eq_some_iff.mp h1
      have f := List.pairwise_iff_getElem.mp (List.nodup_iff_pairwise_ne.mp O.nd)
      rcases Nat.lt_trichotomy j i with z | z | z
      · exact f j i a1 a2 z (by rw [b1, b2])
      · exact e z
      · exact f i j a2 a1 z (by rw [b1, b2])
    exact ⟨by rw [Mu.put_ne ne]; exact o.at_, o.n, o.a, o.b⟩
/-- what becomes data -/
def owF (ps : List Addr) (ls : List (List Nat)) : Addr → Option (List D) := fun a => ((ps.zip ls).find? fun x => decide (x.1 = a)).map fun x => strD (x.2.map sg)
theorem ows_zip {ha hb : Addr} {m m1 : Mu} {ps : List Addr} {ls : List (List Nat)} (O : Ows ha hb m m1 ps ls) {a : Addr} {ds : List D} (h : owF ps ls a = some ds) : m1 a = some (.lst ds) ∧ m a = none ∧ a ≠ ha ∧ a ≠ hb := by
  unfold owF at h
  cases e : (ps.zip ls).find? fun x => decide (x.1 = a) with
  | none => rw [e] at h; cases h
  | some x =>
    rw [e] at h
    cases h
    have h1 := List.mem_of_find?_eq_some e
    have h2 := List.find?_some e
    simp at h2
    subst h2
    obtain ⟨i, hi⟩ := List.getElem?_of_mem h1
    rw [List.getElem?_zip_eq_some] at hi
    have o := O.at_ i x.1 x.2 hi.1 hi.2
    exact ⟨o.at_, o.n, o.a, o.b⟩
theorem ows_rg {ha hb : Addr} {m m1 : Mu} {ps : List Addr} {ls : List (List Nat)} (O : Ows ha hb m m1 ps ls) (R : Rg ha hb m1) : Rg ha hb (m1.frz (owF ps ls)) ∧ ∀ x, ((owF ps ls x).isSome = false → m1.frz (owF ps ls) x = m1 x) := by
  have off : ∀ x, (owF ps ls x).isSome = false → m1.frz (owF ps ls) x = m1 x := fun x h => by unfold Mu.frz; rw [if_neg (by rw [h]; simp)]
  have g : ∀ x, (x = ha ∨ x = hb) → (owF ps ls x).isSome = false := fun x h => by
    cases e : owF ps ls x with
    | none => rfl
    | some ds => have := ows_zip O e; rcases h with h | h <;> simp [h] at this
  obtain ⟨a, b, ns, e1, e2⟩ := R.ex
  exact ⟨⟨R.ne, a, b, ns, by rw [off ha (g ha (.inl rfl))]; exact e1, by rw [off hb (g hb (.inr rfl))]; exact e2⟩, off⟩
theorem ows_ext {ha hb : Addr} {m m1 : Mu} {ps : List Addr} {ls : List (List Nat)} (O : Ows ha hb m m1 ps ls) (R : Rg ha hb m1) (X : Ext ha hb m m1) : Ext ha hb m (m1.frz (owF ps ls)) := fun x c h1 h2 e => by
  rw [(ows_rg O R).2 x ?_]
  · exact X x c h1 h2 e
  · cases q : owF ps ls x with
    | none => rfl
    | some ds => have := (ows_zip O q).2.1; rw [e] at this; cases this
theorem ows_frz : ∀ {ps : List Addr} {ls : List (List Nat)}, ls.length = ps.length → ps.Nodup → ∀ (F : Addr → Option (List D)), (∀ (i : Nat) (p : Addr) (l : List Nat), ps[i]? = some p → ls[i]? = some l → F p = some (strD (l.map sg))) → frzs F (ps.map D.ref) = ls.map lsD
  | [], [], _, _, _, _ => by simp [frzs]
  | [], _ :: _, h, _, _, _ => by simp at h
  | _ :: _, [], h, _, _, _ => by simp at h
  | p :: ps, l :: ls, h, nd, F, k => by
    rw [List.map_cons, frzs, List.map_cons]
    have e1 : D.frz F (.ref p) = lsD l := by
      simp only [D.frz, k 0 p l rfl rfl]
      rfl
    rw [e1, ows_frz (by simpa using h) (List.nodup_cons.mp nd).2 F fun i q r a b => k (i + 1) q r (by simpa using a) (by simpa using b)]
theorem ows_at {ha hb : Addr} {m m1 : Mu} {ps : List Addr} {ls : List (List Nat)} (O : Ows ha hb m m1 ps ls) {i : Nat} {p : Addr} {l : List Nat} (h1 : ps[i]? = some p) (h2 : ls[i]? = some l) : owF ps ls p = some (strD (l.map sg)) := by
  unfold owF
  cases e : (ps.zip ls).find? fun x => decide (x.1 = p) with
  | none =>
    have := List.find?_eq_none.mp e (p, l) (List.mem_of_getElem? (List.getElem?_zip_eq_some.mpr ⟨h1, h2⟩))
    simp at this
  | some x =>
    have g1 := List.mem_of_find?_eq_some e
    have g2 := List.find?_some e
    simp at g2
    obtain ⟨j, hj⟩ := List.getElem?_of_mem g1
    rw [List.getElem?_zip_eq_some] at hj
    have o1 := (O.at_ i p l h1 h2).at_
    have o2 := (O.at_ j x.1 x.2 hj.1 hj.2).at_
    rw [g2, o1] at o2
    simp only [Option.map_some]
    injection o2 with o2
    injection o2 with o2
    rw [o2]
theorem frz_strD (F : Addr → Option (List D)) (xs : List Str) : frzs F (strD xs) = strD xs := by
  rw [frzs_map]
  unfold strD
  rw [List.map_map]
  refine List.map_congr_left fun x _ => ?_
  simp [D.frz]
theorem frz_gvD (F : Addr → Option (List D)) : ∀ g : Gv, frzk F (gvD g) = gvD g
  | [] => by simp [gvD, frzk]
  | p :: g => by
    have ih := frz_gvD F g
    unfold gvD at ih ⊢
    rw [List.map_cons, frzk, ih]
    simp [D.frz, frzs]
theorem frz_cvD (F : Addr → Option (List D)) : ∀ g : Cv, frzk F (cvD g) = cvD g
  | [] => by simp [cvD, frzk]
  | p :: g => by
    have ih := frz_cvD F g
    unfold cvD at ih ⊢
    rw [List.map_cons, frzk, ih]
    simp [D.frz, frzs]
end L3
namespace L3
open PySem PySem.Spec PyProof.Rows L2
theorem cut_lo {xs : List D} {n : Nat} (h : n ≤ xs.length) : cutD xs none (some (n : Int)) = xs.take n := by
  unfold cutD
  rw [HT.sIx_none, HT.sIx_nat, Nat.min_eq_left h]
  simp
theorem cut_hi {xs : List D} {n : Nat} (h : n ≤ xs.length) : cutD xs (some (n : Int)) none = xs.drop n := by
  unfold cutD
  rw [HT.sIx_none, HT.sIx_nat, Nat.min_eq_left h]
  exact List.take_of_length_le (by rw [List.length_drop]; exact Nat.le_refl _)
theorem strD_take {cs : List Nat} {n : Nat} : (strD (cs.map sg)).take n = strD ((cs.take n).map sg) := by simp [strD, List.map_take]
theorem strD_drop {cs : List Nat} {n : Nat} : (strD (cs.map sg)).drop n = strD ((cs.drop n).map sg) := by simp [strD, List.map_drop]
end L3
namespace L3
open PySem PySem.Spec PyProof.Rows L2
theorem rng_10 : rngD 1 0 = [] := rfl
theorem rng_11 : rngD 1 1 = [.int 1] := rfl
theorem rng_12 : rngD 1 2 = [.int 1, .int 2] := rfl
theorem rng_13 : rngD 1 3 = [.int 1, .int 2, .int 3] := rfl
/-- a body put otherwise -/
structure SpoOk (b b' : Bd) : Prop where
  wf : b'.wf
  d : b'.dep ≤ b.dep + 1
  w : b'.words ≤ b.words + 3
end L3
namespace L3
open PySem PySem.Spec PyProof.Rows L2
section
variable {x y z u : D} {xs : List D} {m : Mu} {Q : EK}
theorem cutlo1 : cutD (x :: xs) none (some 1) = [x] := cut_lo (n := 1) (by simp)
theorem cutlo2 : cutD (x :: y :: xs) none (some 2) = [x, y] := cut_lo (n := 2) (by simp)
theorem cutlo3 : cutD (x :: y :: z :: xs) none (some 3) = [x, y, z] := cut_lo (n := 3) (by simp)
theorem cuthi2 : cutD (x :: y :: xs) (some 2) none = xs := cut_hi (n := 2) (by simp)
theorem cuthi3 : cutD (x :: y :: z :: xs) (some 3) none = xs := cut_hi (n := 3) (by simp)
theorem cuthi4 : cutD (x :: y :: z :: u :: xs) (some 4) none = xs := cut_hi (n := 4) (by simp)
theorem ne_ints_nil {ns : List Int} : rhoNe (.lst (ns.map D.int)) (.lst []) m Q = Q (.bl (!decide (ns = []))) m := by
  rw [ex_ne (by exact ints_ok ns) (by exact okl_nil)]
  cases ns with
  | nil => rw [show eqD (rsv m (.lst (([] : List Int).map D.int))) (rsv m (.lst [])) = true from eqD_nilnil]; simp
  | cons c cs => rw [show eqD (rsv m (.lst ((c :: cs).map D.int))) (rsv m (.lst [])) = false from eqD_lnil]; simp
theorem ne_i0 : rhoNe (.lst []) (.lst []) m Q = Q (.bl false) m := ne_ints_nil (ns := [])
theorem ne_i1 {i : Int} : rhoNe (.lst [.int i]) (.lst []) m Q = Q (.bl true) m := ne_ints_nil (ns := [i])
theorem ne_i2 {i j : Int} : rhoNe (.lst [.int i, .int j]) (.lst []) m Q = Q (.bl true) m := ne_ints_nil (ns := [i, j])
theorem ne_i3 {i j k : Int} : rhoNe (.lst [.int i, .int j, .int k]) (.lst []) m Q = Q (.bl true) m := ne_ints_nil (ns := [i, j, k])
end
theorem get_mem {α : Type} {xs : List α} {r : Int} (h0 : 0 ≤ r) (h1 : r < xs.length) : ∃ x ∈ xs, atI xs r = some x := let ⟨x, a, b⟩ := atI_get h0 h1; ⟨x, b, a⟩
end L3
namespace L3
open PySem PySem.Spec PyProof.Rows L2
theorem Deed.okD {d : Deed} (h : d.ok) : L3.okD d.enc 11 := okD_tup (by
  simp only [List.mem_cons, List.not_mem_nil, or_false]
  rintro x (e | e | e | e) <;> subst e
  · exact okD_sg (deedC.lt h.c)
  · exact okD_str (Kd.ok _)
  · exact okD_str (Kd.ok _)
  · exact (d.b.okD h.wf).mono h.dep)
theorem deeds_okD {es : List Deed} (h : ∀ d ∈ es, d.ok) : eqOk (.tup (es.map Deed.enc)) = true := okD.eq (n := 12) (okD_tup fun x hx => by
  obtain ⟨d, hd, rfl⟩ := List.mem_map.mp hx
  exact Deed.okD (h d hd)) (by omega)
theorem eqD_tnil {d : D} {ds : List D} : eqD (.tup (d :: ds)) (.tup []) = false := by simp [eqD, D.pd, pds, PyData.eqv, PyData.eqvAll]
theorem eqD_tnn : eqD (.tup []) (.tup []) = true := by simp [eqD, D.pd, pds, PyData.eqv, PyData.eqvAll]
theorem ne_deeds {es : List Deed} {m : Mu} {Q : EK} (h : ∀ d ∈ es, d.ok) : rhoNe (.tup (es.map Deed.enc)) (.tup []) m Q = Q (.bl (!decide (es = []))) m := by
  rw [ex_ne (by exact deeds_okD h) (by exact ok_nil)]
  cases es with
  | nil => rw [show eqD (rsv m (.tup (([] : List Deed).map Deed.enc))) (rsv m (.tup [])) = true from eqD_tnn]; simp
  | cons c cs => rw [show eqD (rsv m (.tup ((c :: cs).map Deed.enc))) (rsv m (.tup [])) = false from eqD_tnil]; simp
end L3
namespace L3
open PySem PySem.Spec PyProof.Rows L2
theorem cut_hi' {xs : List D} {n : Nat} : cutD xs (some (n : Int)) none = xs.drop n := by
  by_cases h : n ≤ xs.length
  · exact cut_hi h
  · unfold cutD
    rw [HT.sIx_none, HT.sIx_nat, Nat.min_eq_right (by omega), List.drop_eq_nil_of_le (Nat.le_refl _), List.drop_eq_nil_of_le (by omega)]
    simp
/-- a part with a deed put otherwise -/
theorem part_set {p : Part} (h : p.ok) {k : Nat} {d d' : Deed} (hk : p.ds[k]? = some d) (hc : d'.c = d.c) (hd : d'.ok) (i j : Nat) : Part.ok ⟨p.nm, p.ds.set k d', p.as.drop i, p.cs.drop j⟩ := by
  have hm : (p.ds.set k d').map (·.c) = p.ds.map (·.c) := by
    rw [List.map_set, hc]
    refine List.ext_getElem? fun x => ?_
    rw [List.getElem?_set]
    by_cases e : k = x
    · subst e
      rw [if_pos rfl, List.getElem?_map, hk]
      have := (List.getElem?_eq_some_iff.mp hk).1
      simp [this]
    · rw [if_neg e]
  refine ⟨h.nm, by simpa using h.dl, Nat.le_trans (by simp) h.al, Nat.le_trans (by simp) h.cl, fun x hx => ?_, fun a ha => h.aok a (List.mem_of_mem_drop ha), fun a ha => h.cok a (List.mem_of_mem_drop ha), by rw [hm]; exact h.dr, ?_, ?_, fun a ha => by rw [hm]; exact h.dis a (List.mem_of_mem_drop ha)⟩
  · rcases List.mem_or_eq_of_mem_set hx with h2 | h2
    · exact h.dok x h2
    · subst h2; exact hd
  · exact h.ar.sublist ((List.drop_sublist _ _).map _)
  · exact h.cr.sublist ((List.drop_sublist _ _).map _)
theorem set_eq {α : Type} {xs : List α} {k : Nat} {y : α} (h : k < xs.length) : xs.set k y = xs.take k ++ [y] ++ xs.drop (k + 1) := by
  rw [List.set_eq_take_append_cons_drop, if_pos h]
  simp
end L3
namespace L3
open PySem PySem.Spec PyProof.Rows L2
theorem ex_ne_bl {m : Mu} {Q : EK} {x y : Bool} : rhoNe (.bl x) (.bl y) m Q = Q (.bl (!decide (x = y))) m := by
  rw [ex_ne_flat rfl]
  cases x <;> cases y <;> rfl
theorem ex_eq_bl {m : Mu} {Q : EK} {x y : Bool} : rhoEq (.bl x) (.bl y) m Q = Q (.bl (decide (x = y))) m := by
  rw [ex_eq_flat rfl]
  cases x <;> cases y <;> rfl
/-- data that the laws compare place by place -/
def aokD : Nat → D → Prop
  | 0, _ => False
  | _ + 1, .non => True
  | _ + 1, .bl _ => True
  | _ + 1, .int _ => True
  | _ + 1, .str _ => True
  | n + 1, .tup ds => ds.length ≤ 1000 ∧ ∀ x ∈ ds, aokD n x
  | n + 1, .lst ds => ds.length ≤ 1000 ∧ ∀ x ∈ ds, aokD n x
  | _ + 1, _ => False
theorem nil_nilD {m : Mu} {Q : EK} : rhoEq (.lst []) (.lst []) m Q = Q (.bl true) m := by
  rw [ex_eq (by exact okl_nil) (by exact okl_nil), show eqD (rsv m (.lst [])) (rsv m (.lst [])) = true from eqD_nilnil]
end L3
/-! L14: len(set(texts)); trees. -/
namespace L3
open PySem PySem.Spec PyProof.Rows L2
section
variable {X : Cx} {pos : Pos}
def aLenSet (t : AEt) : AEt := fun δ m Q => t δ m fun d m1 => ∃ xs : List Str, lstOf m1 d = some (strD xs) ∧ xs.length < 64 ∧ Q (.int ((putAllS xs []).length : Int)) m1
def tLenSet : TE → TE := fun ta σ H Q => ta σ H fun x H1 => ∃ (l : Addr) (xs : List Str), x = .ref l ∧ H1 l = some (.lst (xs.map V.str)) ∧ xs.length < 64 ∧ Q (.int ((putAllS xs []).length : Int)) H1
theorem pe_lenset {a : Expr} {ta : TE} {p p2 q : Pos} (hc : X.calm = true) (hg : Gl X "len") (hm : X.mg "len" = none) (hg2 : Gl X "set") (hm2 : X.mg "set" = none) (ha : PE X a ta)
    (na : starEach [a] X.env = (false, eval a X.env) :: starEach [] X.env := by rfl) : PE X (.Call (.Name "len" p) [.Call (.Name "set" p2) [a] [] q] [] pos) (tLenSet ta) := by
  refine ⟨fun pins s σ H Q I h => ?_⟩
  refine Call_ (ld_blt I hg hm PySem.boot_len ?_)
  refine PyProof.Rows.callWith_builtin1 (PyProof.Rows.args_cons ?_ rfl) rfl rfl
  refine Call_ (ld_blt I hg2 hm2 PyProof.Rows.boot_set ?_)
  refine PyProof.Rows.callWith_type1 (PyProof.Rows.args_cons (thn (ha.run pins s σ H _ I h) fun v s1 ⟨x, H1, I1, r1, q1⟩ => PyProof.Rows.args_nil ?_) na) na rfl
  obtain ⟨l, xs, rfl, hl, h64, q1⟩ := q1
  cases r1
  obtain ⟨its, r, pl, hz⟩ := I1.list (SqL.of hl : SqL X.K H1 l _)
  refine call_set_list xs (I1.ok.hd hc) pl.isList (by simpa using strs_vals r) (scan64 h64) fun g tk hS hk => ?_
  have I2 : L2.Inv X pins σ H1 { s1 with heap := g, toks := tk } := I1.kept hk
  refine PyProof.Rows.args_nil ?_
  obtain ⟨ob, es, ep, tb, ho, hex, hd, he, hp, hn, hb, hf, _⟩ := hS
  have hl2 : es.size = (putAllS xs []).length := by rw [← hp.length_eq, List.length_map, Array.length_toList]
  refine call_len_set ho hex hd hf (by unfold scanBound at hb; omega) ⟨.int ((putAllS xs []).length : Int), H1, I2.tok _, ⟨_, by rw [hl2]⟩, q1⟩
theorem ae_lenset {a : Expr} {t : AEt} {p p2 q : Pos} (hm : X.mg "len" = none) (hm2 : X.mg "set" = none) (h : AE X a t) (hc : X.calm = true := by rfl) (hg : Gl X "len" := by rfl) (hg2 : Gl X "set" := by rfl)
    (na : starEach [a] X.env = (false, eval a X.env) :: starEach [] X.env := by rfl) : AE X (.Call (.Name "len" p) [.Call (.Name "set" p2) [a] [] q] [] pos) (aLenSet t) :=
  let ⟨_, pa, s⟩ := h.ex
  ⟨_, pe_lenset hc hg hm hg2 hm2 pa na, fun B δ m Q σ H W E h Q' k => s B δ m _ σ H W E h _ fun d m1 v H1 s1 W1 r ⟨xs, hx, h64, q⟩ => by
    obtain ⟨l, vs, rfl, hl, rs⟩ := lst_at W1 r hx
    obtain rfl := vals_strD rs
    exact ⟨l, xs, rfl, hl, h64, (k.step s1).now W1 (rep_int.mpr rfl) q⟩⟩
end
/-! ### trees -/
inductive Tr where
  | part (p : Nat) | wth (a b : Tr) | wout (a : Tr) (d : Nat) | also (a : Tr) (d n : Nat) | ren (a : Tr) (d n : Nat) | over (a : Tr) (p : Nat)
def Tr.enc : Tr → D
  | .part p => .tup [.str "part", .str (sg p)]
  | .wth a b => .tup [.str "with", a.enc, b.enc]
  | .wout a d => .tup [.str "without", a.enc, .str (sg d)]
  | .also a d n => .tup [.str "also", a.enc, .str (sg d), .str (sg n)]
  | .ren a d n => .tup [.str "renamed", a.enc, .str (sg d), .str (sg n)]
  | .over a p => .tup [.str "over", a.enc, .str (sg p)]
def Tr.size : Tr → Nat
  | .part _ => 1
  | .wth a b => 1 + a.size + b.size
  | .wout a _ => 1 + a.size
  | .also a _ _ => 1 + a.size
  | .ren a _ _ => 1 + a.size
  | .over a _ => 1 + a.size
def Tr.dep : Tr → Nat
  | .part _ => 1
  | .wth a b => max a.dep b.dep + 1
  | .wout a _ => a.dep + 1
  | .also a _ _ => a.dep + 1
  | .ren a _ _ => a.dep + 1
  | .over a _ => a.dep + 1
def Tr.wf (ns : List Nat) : Tr → Prop
  | .part p => p ∈ ns
  | .wth a b => a.wf ns ∧ b.wf ns
  | .wout a d => a.wf ns ∧ deedC d
  | .also a d n => a.wf ns ∧ deedC d ∧ deedC n
  | .ren a d n => a.wf ns ∧ deedC d ∧ deedC n
  | .over a p => a.wf ns ∧ p ∈ ns
theorem Tr.dep_pos (t : Tr) : 1 ≤ t.dep := by cases t <;> simp [Tr.dep]
theorem Tr.size_pos (t : Tr) : 1 ≤ t.size := by cases t <;> simp [Tr.size] <;> omega
theorem Tr.tup (t : Tr) : ∃ x ds, t.enc = .tup (.str x :: ds) := by cases t <;> exact ⟨_, _, rfl⟩
theorem Tr.ne_nil (t : Tr) : eqD t.enc (.tup []) = false := by
  obtain ⟨x, ds, e⟩ := t.tup
  rw [e]
  simp [eqD, D.pd, pds, PyData.eqv, PyData.eqvAll]
theorem Tr.okD {ns : List Nat} (hn : ∀ n ∈ ns, n < 1114112) : ∀ (t : Tr), t.wf ns → L3.okD t.enc t.dep
  | .part p, h => okD_tup (by simp; exact ⟨okD_str (by decide +kernel), okD_sg (hn p h)⟩)
  | .wth a b, h => okD_tup (by simp; exact ⟨okD_str (by decide +kernel), (Tr.okD hn a h.1).mono (by omega), (Tr.okD hn b h.2).mono (by omega)⟩)
  | .wout a d, h => okD_tup (by simp; exact ⟨okD_str (by decide +kernel), Tr.okD hn a h.1, okD_sg (deedC.lt h.2)⟩)
  | .also a d n, h => okD_tup (by simp; exact ⟨okD_str (by decide +kernel), Tr.okD hn a h.1, okD_sg (deedC.lt h.2.1), okD_sg (deedC.lt h.2.2)⟩)
  | .ren a d n, h => okD_tup (by simp; exact ⟨okD_str (by decide +kernel), Tr.okD hn a h.1, okD_sg (deedC.lt h.2.1), okD_sg (deedC.lt h.2.2)⟩)
  | .over a p, h => okD_tup (by simp; exact ⟨okD_str (by decide +kernel), Tr.okD hn a h.1, okD_sg (hn p h.2)⟩)
/-- a shelf of parts -/
structure ShOk (ps : List Part) : Prop where
  ok : ∀ p ∈ ps, p.ok
  six : ps.length ≤ 6
  nd : (ps.map (·.nm)).Nodup
theorem ShelfOk.sh {sg : Gv} {cl : Cv} {ps : List Part} (h : ShelfOk sg cl ps) : ShOk ps := ⟨fun p hp => let ⟨_, _, g, _⟩ := h.part p hp; g.ok, h.six, by rw [h.nms]; exact List.Nodup.sublist (List.take_sublist _ _) (by decide)⟩
def tb : Nat → Nat
  | 0 => 1
  | n + 1 => 1 + 2 * tb n
theorem tb_pos : ∀ n, 1 ≤ tb n
  | 0 => Nat.le_refl _
  | n + 1 => by simp [tb]
end L3
namespace L3
open PySem PySem.Spec PyProof.Rows L2
section
variable {X : Cx} {pos : Pos} {a b c : Expr}
/-- a if c else b as a test -/
def tIfT (tc ta tb : TT) : TT := fun σ H Q => tc σ H fun d H1 => if d = true then ta σ H1 Q else tb σ H1 Q
theorem pt_ifExp {tc ta tb : TT} (hc : PT X c tc) (ha : PT X a ta) (hb : PT X b tb) : PT X (.IfExp c a b pos) (tIfT tc ta tb) := by
  refine ⟨fun pins s σ H Q I h => ?_⟩
  rw [arm_isTrue_IfExp]
  refine wpAny_bind (thn (hc.run pins s σ H _ I h) fun d s1 ⟨H1, I1, q1⟩ => ?_)
  cases d with
  | true => exact ha.run pins s1 σ H1 Q I1 q1
  | false => exact hb.run pins s1 σ H1 Q I1 q1
def aIfT (t ta tb : ATt) : ATt := fun δ m Q => t δ m fun c m1 => if c = true then ta δ m1 Q else tb δ m1 Q
theorem at_if {t ta tb : ATt} (hc : AT X c t) (h : AT X a ta) (g : AT X b tb) : AT X (.IfExp c a b pos) (aIfT t ta tb) :=
  let ⟨_, pc, sc⟩ := hc.ex
  let ⟨_, p, s⟩ := h.ex
  let ⟨_, p', s'⟩ := g.ex
  ⟨_, pt_ifExp pc p p', fun B δ m Q σ H W E h Q' k => sc B δ m _ σ H W E h _ fun c m1 H1 s1 W1 q => by
    cases c with
    | true => exact s B δ m1 _ σ H1 W1 (E.carry s1.carry) q _ (k.step s1)
    | false => exact s' B δ m1 _ σ H1 W1 (E.carry s1.carry) q _ (k.step s1)⟩
end
end L3
namespace L3
open PySem PySem.Spec PyProof.Rows L2
section
variable {X : Cx} {pos : Pos} {a b : Expr}
/-- a, b = x, y with plain local names -/
def aPar (i j : Nat) (t : AAt) : ASt := fun D δ m => t δ m fun ds m1 => ∃ d e, ds = [d, e] ∧ D.nx ((δ.set i (some d)).set j (some e)) m1
theorem as_par {x y : Str} {t : AAt} {px py pt : Pos} {kt k2 pt2} (i j : Nat) (hN : X.N.Nodup) (ha : AA X [a, b] t) (hc : X.calm = true := by rfl) (hi : X.N[i]? = some x := by rfl) (hj : X.N[j]? = some y := by rfl) (hij : i ≠ j := by decide)
    (hx : X.env.scope.names.lookup x = some .local := by rfl) (hy : X.env.scope.names.lookup y = some .local := by rfl)
    (hw : swappedStores [.Tuple [.Name x px, .Name y py] kt pt] (.Tuple [a, b] k2 pt2) X.env = pure (some [x, y]) := by rfl)
    (hs : swapsWithSole [.Tuple [.Name x px, .Name y py] kt pt] (.Tuple [a, b] k2 pt2) pos.line X.env = pure false := by rfl) :
    AS X (.Assign [.Tuple [.Name x px, .Name y py] kt pt] (.Tuple [a, b] k2 pt2) pos) (aPar i j t) :=
  let ⟨_, p, s⟩ := ha.ex
  ⟨_, ps_par hc hN hi hj hij hx hy p hw hs, fun B D δ m σ H W E h De k => s B δ m _ σ H W E h _ fun ds m1 vs H1 s1 W1 r ⟨d, e, eq, q⟩ => by
    subst eq
    obtain ⟨v, u, rfl, rv, ru⟩ := reps2 r
    exact ⟨v, u, rfl, k.nx _ m1 _ H1 s1 W1 (((E.carry s1.carry).set rv i).set ru j) q⟩⟩
end
/-- a shelf, maybe of two -/
structure AnyOk (ps : List Part) : Prop where
  one : 1 ≤ ps.length
  six : ps.length ≤ 6
  nms : ps.map (·.nm) = lettersP.take ps.length
  part : ∀ p ∈ ps, p.ok ∧ p.wrong = none ∧ (∀ d ∈ p.ds, d.b.dep ≤ 4 ∧ d.b.words ≤ 40) ∧ p.ds.length ≤ 4
theorem AnyOk.sh {ps : List Part} (h : AnyOk ps) : ShOk ps := ⟨fun p hp => (h.part p hp).1, h.six, by rw [h.nms]; exact List.Nodup.sublist (List.take_sublist _ _) (by decide)⟩
theorem ShelfOk.any {sg : Gv} {cl : Cv} {ps : List Part} (h : ShelfOk sg cl ps) : AnyOk ps := ⟨h.one, h.six, h.nms, fun p hp => by
  obtain ⟨own, others, g, hl⟩ := h.part p hp
  refine ⟨g.ok, g.right, g.dep, ?_⟩
  have := nodup_len (l := p.ds.map (·.c)) (k := own) g.ok.dr.nodup fun c hc => (g.own c).mp hc
  rw [List.length_map] at this
  omega⟩
/-- the first of one, the rest of another -/
theorem AnyOk.mix {ps qs : List Part} (h : AnyOk ps) (g : AnyOk qs) {k : Nat} (hk : k < ps.length) : AnyOk (ps.take k ++ qs.drop k) := by
  have l6 : lettersP.length = 6 := rfl
  have h6 := h.six
  have g6 := g.six
  have e : (ps.take k ++ qs.drop k).length = max k qs.length := by simp; omega
  refine ⟨by rw [e]; have := g.one; omega, by rw [e]; omega, ?_, fun p hp => ?_⟩
  · rw [e, List.map_append, List.map_take, List.map_drop, h.nms, g.nms, List.take_take, List.drop_take]
    by_cases c : k ≤ qs.length
    · rw [Nat.min_eq_left (by omega), Nat.max_eq_right c]
      have : List.take qs.length lettersP = List.take k lettersP ++ List.take (qs.length - k) (List.drop k lettersP) := by
        rw [← List.take_add]; congr 1; omega
      exact this.symm
    · rw [Nat.min_eq_left (by omega), Nat.max_eq_left (by omega), show qs.length - k = 0 by omega]
      simp
  · rcases List.mem_append.mp hp with z | z
    · exact h.part p (List.mem_of_mem_take z)
    · exact g.part p (List.mem_of_mem_drop z)
theorem TrSz.wth {n a b : Nat} (h : a ≤ tb n) (g : b ≤ tb n) : 1 + a + b ≤ tb (n + 1) := by simp only [tb]; omega
end L3
namespace L3
open PySem PySem.Spec PyProof.Rows L2
theorem cut_deeds2 {r : Int} (h0 : 0 ≤ r) (h1 : r < 7) : ∃ n, 2 ≤ n ∧ n ≤ 8 ∧ (cutS "abcdefgh" none (some (2 + r))).cps.toList = lettersD.take n ∧ (cutS "abcdefgh" none (some (2 + r))).length = n := by
  have : r = 0 ∨ r = 1 ∨ r = 2 ∨ r = 3 ∨ r = 4 ∨ r = 5 ∨ r = 6 := by omega
  rcases this with e | e | e | e | e | e | e <;> subst e
  · exact ⟨2, by decide, by decide, by decide +kernel, by decide +kernel⟩
  · exact ⟨3, by decide, by decide, by decide +kernel, by decide +kernel⟩
  · exact ⟨4, by decide, by decide, by decide +kernel, by decide +kernel⟩
  · exact ⟨5, by decide, by decide, by decide +kernel, by decide +kernel⟩
  · exact ⟨6, by decide, by decide, by decide +kernel, by decide +kernel⟩
  · exact ⟨7, by decide, by decide, by decide +kernel, by decide +kernel⟩
  · exact ⟨8, by decide, by decide, by decide +kernel, by decide +kernel⟩
/-- a sign of some letters -/
theorem ix_signs {z : Str} {cs : List Nat} {r : Int} {m : Mu} {Q : EK} (hz : z.cps.toList = cs) (hl : z.length ≤ sizeLine) (h0 : 0 ≤ r) (h1 : r < cs.length) (q : ∀ c, c ∈ cs → Q (.str (sg c)) m) : rhoIx (.str z) (.int r) m Q := by
  rw [ex_ix_str, hz]
  obtain ⟨c, ha, hc⟩ := atI_get h0 h1
  exact ⟨c, hl, ha, q c hc⟩
end L3
namespace L3
open PySem PySem.Spec PyProof.Rows L2
section
variable {X : Cx} {pos : Pos}
/-- a <= b <= c, as a test -/
theorem at_chain {op op' : CmpOp} {ρ ρ' : Rho2} {a b c : Expr} {ta tb tc : AEt} (ho : OpR X (compareOp op) (rOf X.K ρ)) (ho' : OpR X (compareOp op') (rOf X.K ρ')) (ha : AE X a ta) (hb : AE X b tb) (hc : AE X c tc) (hm : lastMarks [op, op'] [b, c] = false := by with_unfolding_all rfl) :
    AT X (.Compare a [op, op'] [b, c] pos) (aB (aChain ρ ρ' ta tb tc)) :=
  let ⟨_, pa, sa⟩ := ha.ex
  let ⟨_, pb, sb⟩ := hb.ex
  let ⟨_, pc, sc⟩ := hc.ex
  ⟨_, pt_chain ho ho' pa pb pc hm, fun B δ m Q σ H W E h Q' k => sa B δ m _ σ H W E h _ fun x m1 v H1 s1 W1 r1 q1 => sb B δ m1 _ σ H1 W1 (E.carry s1.carry) q1 _ fun y m2 u H2 s2 W2 r2 q2 =>
    ⟨B, m2, x, y, _, W2, Rep.carry s2.carry _ _ r1, r2, q2, fun z m3 t H3 s3 W3 r3 ⟨c, e, q3⟩ => by
      subst e
      refine ⟨c, rep_bl.mp r3, ?_⟩
      have s123 := (s1.trans s2).trans s3
      cases c with
      | true => exact sc B δ m3 _ σ H3 W3 (E.carry s123.carry) q3 _ fun w m4 t4 H4 s4 W4 r4 q4 => ⟨B, m4, y, w, _, W4, Rep.carry (s3.trans s4).carry _ _ r2, r4, q4, fun z5 m5 t5 H5 s5 W5 r5 ⟨c5, e5, q5⟩ => by
          subst e5
          exact ⟨c5, rep_bl.mp r5, k _ _ _ ((s123.trans s4).trans s5) W5 q5⟩⟩
      | false =>
        obtain ⟨c5, e5, q5⟩ := q3
        cases e5
        exact ⟨false, rfl, k _ _ _ s123 W3 q5⟩⟩⟩
end
end L3
/-! L15: objects of the program's classes, in the store. -/
namespace L3
open PySem PySem.Spec PyProof.Rows L2
section
variable {K : PySem.W.Frag} {H : Hp} {N : Addr → Prop}
theorem repf_nil {vs : List (Str × V)} : Repf K H N [] vs ↔ vs = [] := Iff.rfl
theorem repf_look {f : Str} {d : D} : ∀ {fs : List (Str × D)} {vs : List (Str × V)}, Repf K H N fs vs → fs.lookup f = some d → ∃ v, vs.lookup f = some v ∧ Rep K H N d v
  | [], _, _, h => by cases h
  | (k, e) :: fs, _, r, h => by
    obtain ⟨v, ws, rfl, r1, r2⟩ := r
    rw [List.lookup_cons] at h ⊢
    cases q : f == k with
    | true => rw [q] at h; cases h; exact ⟨v, rfl, r1⟩
    | false => rw [q] at h; exact repf_look r2 h
theorem repf_none {f : Str} : ∀ {fs : List (Str × D)} {vs : List (Str × V)}, Repf K H N fs vs → fs.lookup f = none → vs.lookup f = none
  | [], _, r, _ => by rw [repf_nil.mp r]; rfl
  | (k, e) :: fs, _, r, h => by
    obtain ⟨v, ws, rfl, r1, r2⟩ := r
    rw [List.lookup_cons] at h ⊢
    cases q : f == k with
    | true => rw [q] at h; cases h
    | false => rw [q] at h; exact repf_none r2 h
theorem repf_len : ∀ {fs : List (Str × D)} {vs : List (Str × V)}, Repf K H N fs vs → vs.length = fs.length
  | [], _, r => by rw [repf_nil.mp r]; rfl
  | (k, e) :: fs, _, r => by
    obtain ⟨v, ws, rfl, r1, r2⟩ := r
    rw [List.length_cons, List.length_cons, repf_len r2]
def putFD (f : Str) (d : D) : List (Str × D) → List (Str × D)
  | [] => [(f, d)]
  | (g, x) :: r => if g = f then (g, d) :: r else (g, x) :: putFD f d r
theorem repf_put {f : Str} {d : D} {v : V} (rd : Rep K H N d v) : ∀ {fs : List (Str × D)} {vs : List (Str × V)}, Repf K H N fs vs → Repf K H N (putFD f d fs) (putF f v vs)
  | [], _, r => by
    rw [repf_nil.mp r]
    exact ⟨v, [], rfl, rd, rfl⟩
  | (k, e) :: fs, _, r => by
    obtain ⟨u, ws, rfl, r1, r2⟩ := r
    show Repf K H N (if k = f then (k, d) :: fs else (k, e) :: putFD f d fs) (if k = f then (k, v) :: ws else (k, u) :: putF f v ws)
    by_cases q : k = f
    · rw [if_pos q, if_pos q]; exact ⟨v, ws, rfl, rd, r2⟩
    · rw [if_neg q, if_neg q]; exact ⟨u, _, rfl, r1, repf_put rd r2⟩
end
section
variable {X : Cx} {pos : Pos} {e o : Expr} {C : Addr} {f : Str}
def aFld (C : Addr) (f : Str) (to : AEt) : AEt := fun δ m Q => to δ m fun x m1 => ∃ p dx fs d, x = .ref p ∧ m1 p = some (.ins C dx fs) ∧ fs.lookup f = some d ∧ Q d m1
theorem ae_fld {to : AEt} (c : Cls X.K C) (n : NoAttr X.K C f) (h : AE X e to) (hb : attributeBase e f X.env (eval e X.env) = eval e X.env := by rfl) : AE X (.Attribute e f pos) (aFld C f to) :=
  let ⟨_, p, s⟩ := h.ex
  ⟨_, pe_fld p hb, fun B δ m Q σ H W E h Q' k => s B δ m _ σ H W E h _ fun x m1 v H1 s1 W1 r ⟨p, dx, fs, d, ex, hp, hl, q⟩ => by
    subst ex
    cases rep_ref.mp r
    obtain ⟨vs, e1, rf, _⟩ := W1.cell p _ hp
    obtain ⟨u, hu, ru⟩ := repf_look rf hl
    exact ⟨p, C, dx, vs, u, rfl, e1, c, n, hu, (k.step s1).now W1 ru q⟩⟩
theorem wd_ins {K : PySem.W.Frag} {H : Hp} {B : Addr → Prop} {m : Mu} {p dx : Addr} {fs gs : List (Str × D)} {vs : List (Str × V)} (W : Wd K H B m) (h : m p = some (.ins C dx fs)) (r : Repf K H (Ban B m) gs vs) : Step H m (upd H p (.ins C dx vs)) (m.put p (.ins C dx gs)) ∧ Wd K (upd H p (.ins C dx vs)) B (m.put p (.ins C dx gs)) := by
  obtain ⟨us, hp, q, ho, hm⟩ := W.cell p _ h
  have ne0 : dx ≠ p := fun z => by subst z; rw [hp] at ho; cases ho
  refine W.write h (fun C' dx' fs' e => by cases e; exact ⟨gs, rfl⟩) (fun x e => by rw [hp] at e; cases e) ⟨vs, upd_same, Repf.carry (fun x u e n => ?_) _ _ r, by rw [upd_ne ne0]; exact ho, by rw [Mu.put_ne ne0]; exact hm⟩
  have ne : x ≠ p := fun z => n (.inr (by rw [z, h]; exact fun z => nomatch z))
  exact ⟨by rw [upd_ne ne]; exact e, fun z => z.elim (fun b => n (.inl b)) fun z => n (.inr (by rw [Mu.put_ne ne] at z; exact z))⟩
def aSFld (C : Addr) (f : Str) (to tv : AEt) : ASt := fun D δ m => tv δ m fun y m1 => to δ m1 fun x m2 => ∃ p dx fs, x = .ref p ∧ m2 p = some (.ins C dx fs) ∧ fs.length < 1000 ∧ D.nx δ (m2.put p (.ins C dx (putFD f y fs)))
theorem as_fld {to tv : AEt} {value : Expr} {pos' : Pos} (c : Cls X.K C) (n : NoAttr X.K C f) (ho : AE X o to) (hv : AE X value tv) (hs : swapsWith value (some (.Attribute o f pos')) pos.line X.env = pure false := by rfl) : AS X (.Assign [.Attribute o f pos'] value pos) (aSFld C f to tv) :=
  let ⟨_, po, so⟩ := ho.ex
  let ⟨_, pv, sv⟩ := hv.ex
  ⟨_, ps_fld po pv hs, fun B D δ m σ H W E h De k => sv B δ m _ σ H W E h _ fun y m1 v H1 s1 W1 r q => so B δ m1 _ σ H1 W1 (E.carry s1.carry) q _ fun x m2 u H2 s2 W2 r2 ⟨p, dx, fs, ex, hp, hl, q2⟩ => by
    subst ex
    cases rep_ref.mp r2
    obtain ⟨vs, e1, rf, _⟩ := W2.cell p _ hp
    have r' := Rep.carry s2.carry _ _ r
    obtain ⟨st, W3⟩ := wd_ins W2 hp (repf_put (f := f) r' rf)
    exact ⟨p, C, dx, vs, rfl, e1, c, n, by rw [repf_len rf]; exact hl, k.nx _ _ σ _ ((s1.trans s2).trans st) W3 (((E.carry s1.carry).carry s2.carry).carry st.carry) q2⟩⟩
/-- a method that keeps a promise over data -/
structure FnM (P : Program) (w : World) (K : PySem.W.Frag) (mg : Str → Option Value) (base : Heap) (C : Addr) (mth : Str) (k : Nat) (sp : SpD) : Prop where
  ex : ∃ (f : Addr) (fd : FuncData) (ps : List Str), FnOk P w K mg base L2.CX0 k f fd ps (spD K sp) ∧ Meth K C mth f ∧ Binds K fd ps []
theorem FnM.mono {P w K mg base C x j k sp} (h : FnM P w K mg base C x j sp) (hj : j ≤ k) : FnM P w K mg base C x k sp := let ⟨f, fd, ps, F, r⟩ := h.ex; ⟨f, fd, ps, F.mono hj, r⟩
/-- a class's __init__ that does -/
structure FnI (P : Program) (w : World) (K : PySem.W.Frag) (mg : Str → Option Value) (base : Heap) (C : Addr) (k : Nat) (sp : SpD) : Prop where
  ex : ∃ (f : Addr) (fd : FuncData) (ps : List Str), FnOk P w K mg base L2.CX0 k f fd ps (spD K sp) ∧ Mk K C f ∧ Binds K fd ps []
theorem FnI.mono {P w K mg base C j k sp} (h : FnI P w K mg base C j sp) (hj : j ≤ k) : FnI P w K mg base C k sp := let ⟨f, fd, ps, F, r⟩ := h.ex; ⟨f, fd, ps, F.mono hj, r⟩
def aMeth (C : Addr) (mth : Str) (sp : SpD) (to : AEt) (t : AAt) : AEt := fun δ m Q => to δ m fun x m1 => (∃ p dx fs, x = .ref p ∧ m1 p = some (.ins C dx fs) ∧ fs.lookup mth = none) ∧ t δ m1 fun ds m2 => sp (x :: ds) m2 Q
section
variable {es : List Expr} {to : AEt} {t : AAt} {apos : Pos} {mth : Str} {k : Nat} {sp : SpD}
theorem ae_meth {pl : Sem Bool} (c : Cls X.K C) (F : FnM X.prog X.w X.K X.mg X.base C mth k sp) (hr : Room k X.A) (ho : AE X o to) (h : AA X (e :: es) t)
    (hst : starEach (e :: es) X.env = (false, eval e X.env) :: starEach es X.env := by rfl) (hpl : (backTo pos (starEach es X.env)).any (·.1) = false := by rfl)
    (ht : eval (.Call (.Attribute o mth apos) (e :: es) [] pos) X.env = (do
      let ov ← eval o X.env
      standAt apos.atName
      let (f, first) ← holding [ov] (getMethod ov mth pl)
      callWith pos f first (backTo pos (starEach (e :: es) X.env)) (backToKw pos (keywordEach [] X.env))) := by rfl) : AE X (.Call (.Attribute o mth apos) (e :: es) [] pos) (aMeth C mth sp to t) :=
  let ⟨_, po, so⟩ := ho.ex
  let ⟨_, pa, s⟩ := h.ex
  let ⟨_, _, _, F, hm, hb⟩ := F.ex
  ⟨_, pe_meth po c hm F hr hb .nil pass0 pa hst hpl ht, fun B δ m Q σ H W E h Q' k => so B δ m _ σ H W E h _ fun x m1 v H1 s1 W1 r ⟨⟨p, dx, fs, ex, hp, hl⟩, q⟩ => by
    subst ex
    cases rep_ref.mp r
    obtain ⟨vs, e1, rf, _⟩ := W1.cell p _ hp
    refine ⟨p, dx, vs, rfl, e1, repf_none rf hl, s B δ m1 _ σ H1 W1 (E.carry s1.carry) q _ fun ds m2 ws H2 s2 W2 r2 q2 => ?_⟩
    rw [List.append_nil]
    exact ⟨B, m2, _, Q, W2, reps_cons.mpr ⟨_, _, rfl, rep_ref.mpr rfl, r2⟩, q2, k.step (s1.trans s2)⟩⟩
theorem ae_meth0 {pl : Sem Bool} (c : Cls X.K C) (F : FnM X.prog X.w X.K X.mg X.base C mth k sp) (hr : Room k X.A) (ho : AE X o to)
    (ht : eval (.Call (.Attribute o mth apos) [] [] pos) X.env = (do
      let ov ← eval o X.env
      standAt apos.atName
      let (f, first) ← holding [ov] (getMethod ov mth pl)
      callWith pos f first (backTo pos (starEach [] X.env)) (backToKw pos (keywordEach [] X.env))) := by rfl) : AE X (.Call (.Attribute o mth apos) [] [] pos) (aMeth C mth sp to aNil) :=
  let ⟨_, po, so⟩ := ho.ex
  let ⟨_, _, _, F, hm, hb⟩ := F.ex
  ⟨_, pe_meth0 po c hm F hr hb .nil pass0 ht, fun B δ m Q σ H W E h Q' k => so B δ m _ σ H W E h _ fun x m1 v H1 s1 W1 r ⟨⟨p, dx, fs, ex, hp, hl⟩, q⟩ => by
    subst ex
    cases rep_ref.mp r
    obtain ⟨vs, e1, rf, _⟩ := W1.cell p _ hp
    exact ⟨p, dx, vs, rfl, e1, repf_none rf hl, ⟨B, m1, _, Q, W1, reps_cons.mpr ⟨_, _, rfl, rep_ref.mpr rfl, reps_nil.mpr rfl⟩, q, k.step s1⟩⟩⟩
/-- C(..) -/
def aMake (C : Addr) (sp : SpD) (t : AAt) : AEt := fun δ m Q => t δ m fun ds m1 => ∀ p dx, m1 p = none → m1 dx = none → dx ≠ p → sp (.ref p :: ds) (m1.put p (.ins C dx [])) fun d m2 => d = .non ∧ Q (.ref p) m2
theorem make_sound {K : PySem.W.Frag} {B : Addr → Prop} {H1 : Hp} {m1 : Mu} {C x dx : Addr} {sp : SpD} {ds : List D} {vs : List V} {Q : EK} {Q' : VK} {E : XK} (W1 : Wd K H1 B m1) (r : Reps K H1 (Ban B m1) ds vs) (hx : H1 x = none) (hdx : H1 dx = none) (hne : dx ≠ x)
    (q : ∀ p dx, m1 p = none → m1 dx = none → dx ≠ p → sp (.ref p :: ds) (m1.put p (.ins C dx [])) fun d m2 => d = .non ∧ Q (.ref p) m2) (k : PostE K B H1 m1 Q Q') :
    spD K sp (.ref x :: (vs ++ [])) (upd (upd H1 dx (.own x)) x (.ins C dx [])) (fun v H2 => v = .non ∧ Q' (.ref x) H2) E := by
  rw [List.append_nil]
  obtain ⟨f1, _⟩ := W1.free hx
  obtain ⟨f2, _⟩ := W1.free hdx
  have ⟨Wa, _⟩ := W1.new (o := .own x) hdx
  have hxa : upd H1 dx (.own x) x = none := by rw [upd_ne (fun z => hne z.symm)]; exact hx
  have ⟨stb, Wb⟩ := Wa.into (p := x) (c := .ins C dx []) (o := .ins C dx []) hxa ⟨[], upd_same, rfl, by rw [upd_ne hne]; exact upd_same, by rw [Mu.put_ne hne]; exact f2⟩
  have st : Step H1 m1 (upd (upd H1 dx (.own x)) x (.ins C dx [])) (m1.put x (.ins C dx [])) := (Step.new hdx).trans stb
  refine ⟨B, _, _, _, Wb, reps_cons.mpr ⟨_, _, rfl, rep_ref.mpr rfl, Reps.carry st.carry _ _ r⟩, q x dx f1 f2 hne, fun d m2 v H2 s2 W2 r2 ⟨e, q2⟩ => ?_⟩
  subst e
  exact ⟨rep_non.mp r2, k _ m2 _ H2 (st.trans s2) W2 (rep_ref.mpr rfl) q2⟩
theorem ae_make {x : Str} {p : Pos} (F : FnI X.prog X.w X.K X.mg X.base C k sp) (hr : Room (k + 1) X.A) (hm : X.mg x = some (.ref C)) (h : AA X (e :: es) t) (hg : Gl X x := by rfl) (hdb : (x == ("__debug__" : Str)) = false := by decide)
    (he : starEach (e :: es) X.env = (false, eval e X.env) :: starEach es X.env := by rfl) (hpl : (backTo pos (starEach es X.env)).any (·.1) = false := by rfl) : AE X (.Call (.Name x p) (e :: es) [] pos) (aMake C sp t) :=
  let ⟨_, pa, s⟩ := h.ex
  let ⟨_, _, _, F, M, hb⟩ := F.ex
  ⟨_, pe_make M F hr hg hm hb .nil pass0 pa hdb he hpl, fun B δ m Q σ H W E h Q' k => s B δ m _ σ H W E h _ fun ds m1 vs H1 s1 W1 r q => fun x dx hx hdx hne => make_sound W1 r hx hdx hne q (k.step s1)⟩
end
end
/-- a method as it stands behind the top -/
structure DefM (K : PySem.W.Frag) (C : Addr) (x qual : Str) (st : Stmt) (ps : List Str) : Prop where
  ex : ∃ (f : Addr) (fd : FuncData), FunD K x qual (defArgs st) (defBody st) (defScope st) [] [] f fd ∧ Meth K C x f ∧ Binds K fd ps []
structure DefI (K : PySem.W.Frag) (C : Addr) (qual : Str) (st : Stmt) (ps : List Str) : Prop where
  ex : ∃ (f : Addr) (fd : FuncData), FunD K "__init__" qual (defArgs st) (defBody st) (defScope st) [] [] f fd ∧ Mk K C f ∧ Binds K fd ps []
section
variable {P : Program} {w : World} {K : PySem.W.Frag} {mg : Str → Option Value} {base : Heap} {x qual : Str} {st : Stmt} {N ps : List Str} {k : Nat} {sp : SpD} {C : Addr}
theorem okQ {f : Addr} {fd : FuncData} (F : FunD K x qual (defArgs st) (defBody st) (defScope st) [] [] f fd) (S : FnScope N ps (defScope st)) (hlen : ∀ ds m Q, sp ds m Q → ds.length = ps.length)
    (hbody : ∀ (f : Addr) (cdv : Value) (A : Around) (outer : List Env) (s : Shared) (H : Hp) (E : XK), Room k (A.deeper (envOfC qual (defScope st) s.heap.objs.size f cdv)) →
      ∃ t, ASs (cxOf L2.CX0 P w K mg base N qual (defScope st) f cdv A outer s H E).nox (defBody st) t ∧ ∀ ds m Q, sp ds m Q → t (endsZ Q) (startD N ds) m) : FnOk P w K mg base L2.CX0 (k + 1) f fd ps (spD K sp) := by
  refine F.ok S (fun vs H Q E ⟨B, m, ds, Qd, W, r, q, _⟩ => by rw [r.len]; exact hlen _ _ _ q) (fun cdv A outer s H vs Q E hr ⟨B, m, ds, Qd, W, r, q, k⟩ => ?_)
  obtain ⟨t, h, hq⟩ := hbody f cdv A outer s H E hr
  obtain ⟨ts, ps', ss⟩ := h.ex
  exact ⟨ts, PSs.nox ps', ss B _ (startD N ds) m _ H W (EnvD.start N r) (hq ds m Qd q) _ ⟨fun δ' m' σ' H' st W' E' q' => k.fz _ m' _ H' st W' (rep_non.mpr rfl) q', k.fz, fun _ _ _ _ _ _ _ q' => q'.elim, fun _ _ _ _ _ _ _ q' => q'.elim⟩⟩
theorem fnm_ofZ (F : DefM K C x qual st ps) (S : FnScope N ps (defScope st)) (hlen : ∀ ds m Q, sp ds m Q → ds.length = ps.length)
    (hbody : ∀ (f : Addr) (cdv : Value) (A : Around) (outer : List Env) (s : Shared) (H : Hp) (E : XK), Room k (A.deeper (envOfC qual (defScope st) s.heap.objs.size f cdv)) →
      ∃ t, ASs (cxOf L2.CX0 P w K mg base N qual (defScope st) f cdv A outer s H E).nox (defBody st) t ∧ ∀ ds m Q, sp ds m Q → t (endsZ Q) (startD N ds) m) : FnM P w K mg base C x (k + 1) sp :=
  let ⟨f, fd, F, hm, hb⟩ := F.ex
  ⟨f, fd, ps, okQ F S hlen hbody, hm, hb⟩
theorem fni_ofZ (F : DefI K C qual st ps) (S : FnScope N ps (defScope st)) (hlen : ∀ ds m Q, sp ds m Q → ds.length = ps.length)
    (hbody : ∀ (f : Addr) (cdv : Value) (A : Around) (outer : List Env) (s : Shared) (H : Hp) (E : XK), Room k (A.deeper (envOfC qual (defScope st) s.heap.objs.size f cdv)) →
      ∃ t, ASs (cxOf L2.CX0 P w K mg base N qual (defScope st) f cdv A outer s H E).nox (defBody st) t ∧ ∀ ds m Q, sp ds m Q → t (endsZ Q) (startD N ds) m) : FnI P w K mg base C (k + 1) sp :=
  let ⟨f, fd, F, hm, hb⟩ := F.ex
  ⟨f, fd, ps, okQ F S hlen hbody, hm, hb⟩
theorem fnm_never (F : DefM K C x qual st ps) (S : FnScope N ps (defScope st)) (h : ∀ ds m Q, ¬ sp ds m Q) : FnM P w K mg base C x (k + 1) sp :=
  fnm_ofZ F S (fun ds m Q q => (h _ _ _ q).elim) fun f cdv A outer s H E hr => ⟨_, ass_never, fun ds m Q q => (h _ _ _ q).elim⟩
/-- what the head tells of a class -/
structure ClsT (K : PySem.W.Frag) (mg : Str → Option Value) (x : Str) (C : Addr) (fs : List Str) : Prop where
  c : Cls K C
  g : mg x = some (.ref C)
  n : ∀ f ∈ fs, NoAttr K C f
end
/-- a def under another name -/
structure DefN (K : PySem.W.Frag) (mg : Str → Option Value) (x nm : Str) (st : Stmt) (ps : List Str) : Prop where
  ex : ∃ (f : Addr) (fd : FuncData), FunD K nm nm (defArgs st) (defBody st) (defScope st) [] [] f fd ∧ mg x = some (.ref f) ∧ Binds K fd ps []
theorem DefN.of {K : PySem.W.Frag} {mg : Str → Option Value} {x : Str} {st : Stmt} {ps : List Str} (F : DefT K mg x st ps) : DefN K mg x x st ps := ⟨F.ex⟩
theorem fnd_ofN {P : Program} {w : World} {K : PySem.W.Frag} {mg : Str → Option Value} {base : Heap} {x nm : Str} {st : Stmt} {N ps : List Str} {k : Nat} {sp : SpD} (F : DefN K mg x nm st ps) (S : FnScope N ps (defScope st)) (hlen : ∀ ds m Q, sp ds m Q → ds.length = ps.length)
    (hbody : ∀ (f : Addr) (cdv : Value) (A : Around) (outer : List Env) (s : Shared) (H : Hp) (E : XK), Room k (A.deeper (envOfC nm (defScope st) s.heap.objs.size f cdv)) →
      ∃ t, ASs (cxOf L2.CX0 P w K mg base N nm (defScope st) f cdv A outer s H E).nox (defBody st) t ∧ ∀ ds m Q, sp ds m Q → t (endsZ Q) (startD N ds) m) : FnD P w K mg base x (k + 1) sp := by
  obtain ⟨f, fd, F, hm, hb⟩ := F.ex
  exact ⟨f, fd, ps, okQ F S hlen hbody, hm, F.kp, hb⟩
theorem defN_of {K : PySem.W.Frag} {mg : Str → Option Value} {x nm : Str} {st : Stmt} {ps : List Str} {f : Addr} {fd : FuncData} (F : FunD K nm nm (defArgs st) (defBody st) (defScope st) [] [] f fd) (hm : mg x = some (.ref f)) (hb : Binds K fd ps []) : DefN K mg x nm st ps := ⟨f, fd, F, hm, hb⟩
end L3
/-! L13: what the head tells of data of the top. -/
namespace L3
open PySem PySem.Spec PyProof.Rows L2
mutual
/-- data of the top as it is written -/
def repB (K : PySem.W.Frag) : D → Value → Bool
  | .non, .none => true
  | .bl b, .bool c => b == c
  | .int i, .int j _ => decide (i = j)
  | .str x, .str y _ => decide (x = y)
  | .tup ds, .ref a => match K.lookup a with
    | some ⟨.type t, none, .seq its _, _⟩ => decide (t = "tuple") && (Nat.ble its.size 1000 && repsB K ds its.toList)
    | _ => false
  | _, _ => false
def repsB (K : PySem.W.Frag) : List D → List Value → Bool
  | [], [] => true
  | d :: ds, u :: us => repB K d u && repsB K ds us
  | _, _ => false
end
mutual
theorem repB_ok {K : PySem.W.Frag} : ∀ (d : D) (u : Value), repB K d u = true → ∃ v, RelV v u ∧ ∀ H N, Rep K H N d v
  | .non, u, h => by
    cases u <;> first | (simp [repB] at h; done) | exact ⟨.non, rfl, fun _ _ => rep_non.mpr rfl⟩
  | .bl b, u, h => by
    cases u <;> first | (simp [repB] at h; done) | skip
    rename_i c
    have : b = c := by simpa [repB] using h
    subst this
    exact ⟨.bl b, rfl, fun _ _ => rep_bl.mpr rfl⟩
  | .int i, u, h => by
    cases u <;> first | (simp [repB] at h; done) | skip
    rename_i j t
    have : i = j := by simpa [repB] using h
    subst this
    exact ⟨.int i, ⟨t, rfl⟩, fun _ _ => rep_int.mpr rfl⟩
  | .str i, u, h => by
    cases u <;> first | (simp [repB] at h; done) | skip
    rename_i j t
    have : i = j := by simpa [repB] using h
    subst this
    exact ⟨.str i, ⟨t, rfl⟩, fun _ _ => rep_str.mpr rfl⟩
  | .tup ds, u, h => by
    cases u <;> first | (simp [repB] at h; done) | skip
    rename_i a
    simp only [repB] at h
    split at h
    · rename_i t its n sl e
      simp only [Bool.and_eq_true, decide_eq_true_eq] at h
      obtain ⟨h1, h2, h3⟩ := h
      obtain ⟨vs, r, q⟩ := repsB_ok ds its.toList h3
      refine ⟨.ref a, rfl, fun H N => rep_tup.mpr ⟨a, vs, rfl, .inr ⟨_, its, n, e, by rw [h1], rfl, rfl, ?_, r⟩, q H N⟩⟩
      have := Nat.le_of_ble_eq_true h2
      exact Nat.le_trans this (szl (by decide))
    · cases h
  | .lst _, u, h => by cases u <;> simp [repB] at h
  | .dct _, u, h => by cases u <;> simp [repB] at h
  | .ref _, u, h => by cases u <;> simp [repB] at h
  | .ty _, u, h => by cases u <;> simp [repB] at h
  | .fl _, u, h => by cases u <;> simp [repB] at h
theorem repsB_ok {K : PySem.W.Frag} : ∀ (ds : List D) (us : List Value), repsB K ds us = true → ∃ vs, Vals vs us ∧ ∀ H N, Reps K H N ds vs
  | [], [], _ => ⟨[], .nil, fun _ _ => reps_nil.mpr rfl⟩
  | [], _ :: _, h => by simp [repsB] at h
  | _ :: _, [], h => by simp [repsB] at h
  | d :: ds, u :: us, h => by
    simp only [repsB, Bool.and_eq_true] at h
    obtain ⟨v, r, q⟩ := repB_ok d u h.1
    obtain ⟨vs, rs, qs⟩ := repsB_ok ds us h.2
    exact ⟨v :: vs, .cons r rs, fun H N => reps_cons.mpr ⟨v, vs, rfl, q H N, qs H N⟩⟩
end
/-- a name of the top -/
def gloB (K : PySem.W.Frag) (x : Str) (d : D) : Bool := match PySem.W.nsIn K mainGlobals x with
  | some (some u) => repB K d u
  | _ => false
theorem gloB_ok {K : PySem.W.Frag} {h : Heap} {mg : Str → Option Value} {x : Str} {d : D} (X : K.In h) (G : h.Ns mainGlobals mg) (c : gloB K x d = true) : GloD K mg x d := by
  unfold gloB at c
  split at c
  · rename_i u e
    obtain ⟨v, r, q⟩ := repB_ok d u c
    exact ⟨u, v, PySem.W.mg_of X G e, r, q⟩
  · cases c
/-- a table's entries, in order -/
def entB (K : PySem.W.Frag) : List (Str × D) → List DictEntry → Bool
  | [], [] => true
  | (k, d) :: r, e :: es => (match e.key with | .str x _ => decide (x = k) | _ => false) && (repB K d e.val && entB K r es)
  | _, _ => false
def tabB (K : PySem.W.Frag) (a : Addr) (kvs : List (Str × D)) : Bool := match K.lookup a with
  | some ⟨_, _, .dict es _, _⟩ => entB K kvs es.toList
  | _ => false
theorem ent_find {K : PySem.W.Frag} {z : Str} : ∀ {kvs : List (Str × D)} {es : List DictEntry}, entB K kvs es = true →
    match (kvs.find? fun p => decide (p.1 = z)).map (·.2) with
      | some d => ∃ u v, (es.find? (·.key.isStr z)).map (·.val) = some u ∧ RelV v u ∧ ∀ H N, Rep K H N d v
      | none => es.find? (·.key.isStr z) = none
  | [], [], _ => rfl
  | [], _ :: _, h => by simp [entB] at h
  | _ :: _, [], h => by simp [entB] at h
  | (k, d) :: r, e :: es, h => by
    simp only [entB, Bool.and_eq_true] at h
    obtain ⟨h1, h2, h3⟩ := h
    have ih := ent_find (z := z) h3
    cases hk : e.key with
    | str x t =>
      rw [hk] at h1
      have e1 : x = k := by simpa using h1
      subst e1
      rw [List.find?_cons, List.find?_cons]
      by_cases q : x = z
      · subst q
        have : e.key.isStr x = true := by rw [hk]; simp [Value.isStr]
        rw [this]
        simp only [decide_true, Option.map_some]
        obtain ⟨v, rv, qv⟩ := repB_ok d e.val h2
        exact ⟨e.val, v, rfl, rv, qv⟩
      · have : e.key.isStr z = false := by rw [hk]; simp [Value.isStr, q]
        rw [this]
        simp only [q, decide_false]
        exact ih
    | _ => rw [hk] at h1; cases h1
theorem tabB_ok {K : PySem.W.Frag} {w : World} {mg : Str → Option Value} {x : Str} {a : Addr} {es : Array DictEntry} {n : Nat} {kvs : List (Str × D)} (hm : mg x = some (.ref a)) (D : KDict K w a es n) (c : tabB K a kvs = true) : KTab K w mg x kvs := by
  refine ⟨a, es, n, hm, D, fun z => ?_⟩
  unfold tabB at c
  rw [D.at_] at c
  have q := ent_find (z := z) c
  have nr : es.toList.any (·.refKey) = false := by
    rw [List.any_eq_false]
    intro e he
    obtain ⟨y, t, h1, _⟩ := D.lit.all e he
    simp [DictEntry.refKey, h1]
  unfold PySem.W.nsIn
  rw [D.at_]
  cases f : (kvs.find? fun p => decide (p.1 = z)).map (·.2) with
  | none =>
    rw [f] at q
    simp only [q, nr]
    rfl
  | some d =>
    rw [f] at q
    obtain ⟨u, v, h1, h2, h3⟩ := q
    refine ⟨u, v, ?_, h2, h3⟩
    cases g : es.toList.find? (·.key.isStr z) with
    | none => rw [g] at h1; cases h1
    | some e => rw [g] at h1; cases h1; simp only [g]
/-- a def of the top, by name -/
theorem defT_of {K : PySem.W.Frag} {mg : Str → Option Value} {x : Str} {st : Stmt} {ps : List Str} {f : Addr} {fd : FuncData} (F : FunD K x x (defArgs st) (defBody st) (defScope st) [] [] f fd) (hm : mg x = some (.ref f)) (hb : Binds K fd ps []) : DefT K mg x st ps := ⟨f, fd, F, hm, hb⟩
/-- the law's def: its promise for its own object -/
theorem okZ {P : Program} {w : World} {K : PySem.W.Frag} {mg : Str → Option Value} {base : Heap} {x : Str} {st : Stmt} {N ps : List Str} {k : Nat} {sp : SpD} {f : Addr} {fd : FuncData} (F : FunD K x x (defArgs st) (defBody st) (defScope st) [] [] f fd) (S : FnScope N ps (defScope st)) (hlen : ∀ ds m Q, sp ds m Q → ds.length = ps.length)
    (hbody : ∀ (f : Addr) (cdv : Value) (A : Around) (outer : List Env) (s : Shared) (H : Hp) (E : XK), Room k (A.deeper (envOfC x (defScope st) s.heap.objs.size f cdv)) →
      ∃ t, ASs (cxOf L2.CX0 P w K mg base N x (defScope st) f cdv A outer s H E).nox (defBody st) t ∧ ∀ ds m Q, sp ds m Q → t (endsZ Q) (startD N ds) m) : FnOk P w K mg base L2.CX0 (k + 1) f fd ps (spD K sp) := by
  refine F.ok S (fun vs H Q E ⟨B, m, ds, Qd, W, r, q, _⟩ => by rw [r.len]; exact hlen _ _ _ q) (fun cdv A outer s H vs Q E hr ⟨B, m, ds, Qd, W, r, q, k⟩ => ?_)
  obtain ⟨t, h, hq⟩ := hbody f cdv A outer s H E hr
  obtain ⟨ts, ps', ss⟩ := h.ex
  exact ⟨ts, PSs.nox ps', ss B _ (startD N ds) m _ H W (EnvD.start N r) (hq ds m Qd q) _ ⟨fun δ' m' σ' H' st W' E' q' => k.fz _ m' _ H' st W' (rep_non.mpr rfl) q', k.fz, fun _ _ _ _ _ _ _ q' => q'.elim, fun _ _ _ _ _ _ _ q' => q'.elim⟩⟩
def sp_law0 : SpD := fun ds m Q => ∃ ns : List Int, ds = [.fl ns] ∧ ns.length ≤ 63 ∧ ∀ m', Q (.bl true) m'
/-- the empty store -/
theorem law_asked {K : PySem.W.Frag} {H : Hp} {a : Addr} {ns : List Int} (hl : ns.length ≤ 63) (h : SqL K H a (ns.map V.int)) : spD K sp_law0 [.ref a] H (fun v _ => v = .bl true) fun _ _ _ => False := by
  refine ⟨fun _ => False, fun _ => none, [.fl ns], fun d _ => d = .bl true, ⟨fun a c e => (nomatch e), fun a b => False.elim b⟩, ?_, ⟨ns, rfl, hl, fun _ => rfl⟩, fun d m' v H' _ _ r q => by subst q; exact rep_bl.mp r⟩
  refine reps_cons.mpr ⟨_, _, rfl, rep_fl.mpr ⟨a, rfl, ?_⟩, reps_nil.mpr rfl⟩
  rcases h with h | h
  · exact .inl ⟨h, fun z => z.elim id fun z => z rfl⟩
  · exact .inr h
end L3
/-! L16: texts; enumerate; a copy of a module's table. -/
namespace L3
open PySem PySem.Spec PyProof.Rows L2
section
variable {X : Cx} {pos apos : Pos} {o e : Expr} {to te : AEt}
/-! ### texts -/
def aJoin (to te : AEt) : AEt := fun δ m Q => to δ m fun x m1 => (∃ z, x = .str z) ∧ te δ m1 fun y m2 => ∃ z ys, x = .str z ∧ (lstOf m2 y = some (strD ys) ∨ y = .tup (strD ys)) ∧ (ys.map (·.length)).sum + ys.length * z.length ≤ 16777216 ∧ Q (.str (Txt.join z ys)) m2
theorem ae_join (ho : AE X o to) (he : AE X e te) (hs : starEach [e] X.env = [(false, eval e X.env)] := by rfl) (hbase : attributeBase o "join" X.env (eval o X.env) = eval o X.env := by rfl) (hline : (apos.endLine == pos.line) = true := by rfl) :
    AE X (.Call (.Attribute o "join" apos) [e] [] pos) (aJoin to te) :=
  let ⟨_, po, so⟩ := ho.ex
  let ⟨_, pe, se⟩ := he.ex
  ⟨_, pe_join po pe hs hbase hline, fun B δ m Q σ H W E h Q' k => so B δ m _ σ H W E h _ fun x m1 v H1 s1 W1 r ⟨⟨z, ex⟩, q⟩ => by
    subst ex
    cases rep_str.mp r
    refine ⟨⟨z, rfl⟩, se B δ m1 _ σ H1 W1 (E.carry s1.carry) q _ fun y m2 u H2 s2 W2 r2 ⟨z', ys, ez, hy, hl, q2⟩ => ?_⟩
    cases ez
    rcases hy with hy | rfl
    · obtain ⟨a, vs, rfl, ha, rs⟩ := lst_at W2 r2 hy
      obtain rfl := vals_strD rs
      exact ⟨z, a, ys, rfl, rfl, .inl (SqL.of ha), hl, (k.step (s1.trans s2)).now W2 (rep_str.mpr rfl) q2⟩
    · obtain ⟨a, vs, rfl, t, rs⟩ := rep_tup.mp r2
      obtain rfl := vals_strD rs
      exact ⟨z, a, ys, rfl, rfl, .inr t.sq, hl, (k.step (s1.trans s2)).now W2 (rep_str.mpr rfl) q2⟩⟩
def aSplit (to te : AEt) : AEt := fun δ m Q => to δ m fun x m1 => (∃ z, x = .str z) ∧ te δ m1 fun y m2 => ∃ a b, x = .str a ∧ y = .str b ∧ (b.length == 0) = false ∧ a.length + 2 ≤ sizeLine ∧ Q (.lst (strD (Txt.split a b))) m2
theorem ae_split (ho : AE X o to) (he : AE X e te) (hs : starEach [e] X.env = [(false, eval e X.env)] := by rfl) (hbase : attributeBase o "split" X.env (eval o X.env) = eval o X.env := by rfl) (hline : (apos.endLine == pos.line) = true := by rfl) :
    AE X (.Call (.Attribute o "split" apos) [e] [] pos) (aSplit to te) :=
  let ⟨_, po, so⟩ := ho.ex
  let ⟨_, pe, se⟩ := he.ex
  ⟨_, pe_split po pe hs hbase hline, fun B δ m Q σ H W E h Q' k => so B δ m _ σ H W E h _ fun x m1 v H1 s1 W1 r ⟨⟨z, ex⟩, q⟩ => by
    subst ex
    cases rep_str.mp r
    refine ⟨⟨z, rfl⟩, se B δ m1 _ σ H1 W1 (E.carry s1.carry) q _ fun y m2 u H2 s2 W2 r2 ⟨a, b, ea, eb, h0, hl, q2⟩ => ?_⟩
    cases ea
    subst eb
    cases rep_str.mp r2
    exact ⟨z, b, rfl, rfl, h0, hl, fun p hp => (k.step (s1.trans s2)).lst W2 reps_strD q2 hp⟩⟩
/-- str of an int, a truth, a text -/
def rcStr : SpD := fun ds m Q => ∃ x, ds = [x] ∧ match x with
  | .int i => i.natAbs.log2 < 1920 ∧ Q (.str (toString i)) m
  | .bl b => Q (.str (if b then "True" else "False")) m
  | .str z => Q (.str z) m
  | _ => False
theorem cr_str : CallR X (.type "str") (rcOf X.K rcStr) := by
  intro pins s σ H xs us Q' I r h
  obtain ⟨B, m, ds, Q, W, rs, ⟨x, rfl, h⟩, k⟩ := h
  obtain ⟨v, rfl, r1⟩ := reps1 rs
  cases x with
  | int i => cases rep_int.mp r1; exact call_str_int pins s σ H _ us Q' I r ⟨i, rfl, h.1, k.now W (rep_str.mpr rfl) h.2⟩
  | str z => cases rep_str.mp r1; exact SkE.call_str_str pins s σ H _ us Q' I r ⟨z, rfl, k.now W (rep_str.mpr rfl) h⟩
  | bl b =>
    cases rep_bl.mp r1
    obtain ⟨u, rfl, ru⟩ := vals1 r
    cases ru
    exact PySem.P.str_of_bool ⟨.str (if b then "True" else "False"), H, I.tok _, ⟨_, by cases b <;> rfl⟩, k.now W (rep_str.mpr rfl) h⟩
  | _ => exact h.elim
/-- int of a text -/
def rcIntT : SpD := fun ds m Q => ∃ z n, ds = [.str z] ∧ PySem.intText? z = some n ∧ z.length ≤ 640 ∧ Q (.int n) m
theorem cr_intT : CallR X (.type "int") (rcOf X.K rcIntT) := by
  intro pins s σ H xs us Q' I r h
  obtain ⟨B, m, ds, Q, W, rs, ⟨z, n, rfl, h1, h2, h⟩, k⟩ := h
  obtain ⟨v, rfl, r1⟩ := reps1 rs
  cases rep_str.mp r1
  exact call_int_str pins s σ H _ us Q' I r ⟨z, n, rfl, h1, h2, k.now W (rep_int.mpr rfl) h⟩
/-- where a text stands in a module's tuple of texts -/
def aTIx (ys : List Str) (te : AEt) : AEt := fun δ m Q => te δ m fun y m2 => ∃ z j, y = .str z ∧ ys[j]? = some z ∧ (∀ k, k < j → ys[k]? ≠ some z) ∧ Q (.int (j : Nat)) m2
theorem ae_tix {x : Str} {ys : List Str} {p : Pos} (h : GloD X.K X.mg x (.tup (strD ys))) (he : AE X e te) (hg : Gl X x := by rfl) (hd : (x == ("__debug__" : Str)) = false := by decide)
    (hbase : attributeBase (.Name x p) "index" X.env (eval (.Name x p) X.env) = eval (.Name x p) X.env := by rfl)
    (hfew : ((backTo pos (starEach [e] X.env)).all (fun x => !x.1) && (backToKw pos (keywordEach [] X.env)).all (fun x => x.1.isSome)
      && decide ([e].length + ([] : List Keyword).length + (if ([] : List Keyword).isEmpty then 0 else 1) < 30)) = true := by rfl)
    (hline : (apos.endLine == pos.line) = true := by rfl) (hs : starEach [e] X.env = (false, eval e X.env) :: starEach [] X.env := by rfl) (hplain : (backTo pos (starEach [] X.env)).any (·.1) = false := by rfl) :
    AE X (.Call (.Attribute (.Name x p) "index" apos) [e] [] pos) (aTIx ys te) := by
  obtain ⟨u, v, hm, rv, q⟩ := h.ex
  obtain ⟨_, pa, sa⟩ := he.ex
  obtain ⟨a, vs, rfl, t, rs⟩ := rep_tup.mp (q E0H fun _ => False)
  obtain rfl := vals_strD rs
  have kt : ∃ (ob : Obj) (its : Array Value) (n : Nat), X.K.lookup a = some ob ∧ ob.cls = .type "tuple" ∧ ob.dict = none ∧ ob.data = .seq its n ∧ its.size ≤ sizeLine ∧ Vals (ys.map V.str) its.toList := by
    rcases t with ⟨_, h, _⟩ | h
    · cases h
    · exact h
  obtain ⟨ob, its, n, k1, k2, k3, k4, k5, k6⟩ := kt
  have sq : ∀ H, SqT X.K H a (ys.map V.str) := fun H => .inr ⟨ob, its, n, k1, k2, k4, k5, k6⟩
  refine ⟨_, pe_bm PySem.F.plainAttrs_tuple PySem.F.slot_tuple_index PySem.F.type_tuple_index mt_tup_index (pe_glob (v := .ref a) hg hm rv hd) (pa_cons pa pa_nil hs) hbase hfew hline hs hplain, fun B δ m Q σ H W E h Q' k => ⟨.inr (.inl ⟨rfl, ob, k1, k2, k3⟩), ?_⟩⟩
  refine sa B δ m _ σ H W E h _ fun y m2 w H2 s2 W2 r2 ⟨z, j, ey, h1, h2, q2⟩ => ?_
  subst ey
  cases rep_str.mp r2
  exact ⟨a, ys, z, j, rfl, rfl, sq H2, h1, h2, (k.step s2).now W2 (rep_int.mpr rfl) q2⟩
/-! ### enumerate -/
def IteF (K : PySem.W.Frag) (a : Addr) : It :=
  ⟨fun i H => ∃ (xs : List V) (x : V), SqL K H a xs ∧ xs[i]? = some x, fun i H v H' => ∃ T x o, v = .ref T ∧ H T = none ∧ o.dict = none ∧ H' = upd H T (.frz o (.tup [.int (i : Nat), x])) ∧ ∀ xs, SqL K H a xs → xs[i]? = some x, fun i H => ∃ xs : List V, SqL K H a xs ∧ xs.length ≤ i⟩
theorem turn_enumF {P : Program} {w : World} {K : PySem.W.Frag} {elts : List Expr} {kk : Nat} {tpos : Pos} (a e it : Addr) :
    Turn P w K (.Tuple elts kk tpos) (IteF K a) [e, it] e (fun i h => (∃ old, IsEnum h e it ((i : Nat) : Int) old) ∧ h.IsListIter it a i ∧ e ≠ it) where
  mem := by simp
  obj := fun i h st b hb => by
    obtain ⟨⟨old, he⟩, ⟨o, ho, hc, hd⟩, _⟩ := st
    have e' : b = e ∨ b = it := by simpa using hb
    rcases e' with z | z
    · rw [z]; exact ⟨_, he, fun v q => nomatch q⟩
    · rw [z]; exact ⟨o, ho, fun v q => by rw [hd] at q; cases q⟩
  keep := fun i h h' st k => let ⟨⟨old, he⟩, hi, hne⟩ := st; ⟨⟨old, k e (by simp) _ he⟩, hi.at fun o q => k it (by simp) o q, hne⟩
  item := by
    intro X hP hw hK hc i pins s σ H E I hf st hg
    subst hP hw hK
    obtain ⟨⟨old, he⟩, hit, hne⟩ := st
    obtain ⟨xs, x, hq, hx⟩ := hg
    obtain ⟨its, rv, p, hz⟩ := I.list hq
    obtain ⟨u, hu, ru⟩ := rv.get hx
    have hel : e < s.heap.objs.size := Heap.lt_size he
    have hil : it < s.heap.objs.size := by obtain ⟨_, q, _⟩ := hit; exact Heap.lt_size q
    refine wpAny_pyNext_enum_item he hit p.isList (x := u) (by simpa using hu) hne fun h' ho hit' hT hsz hk => ?_
    refine ⟨_, rfl, wpAny_letOwnedTupleGo_enum (s := { s with heap := h', toks := s.toks + 1 }) ho fun h'' he' sb => ?_⟩
    have hT2 : h''.get? s.heap.objs.size = some { cls := .type "tuple", data := .seq #[.int i s.toks, u] } := (sb.2 _ (Nat.ne_of_gt hel)).trans hT
    have new : ObjOk X.prog X.w (upd H s.heap.objs.size (.frz (tupO [.int i s.toks, u]) (.tup [.int (i : Nat), x]))) h'' s.heap.objs.size (.frz (tupO [.int i s.toks, u]) (.tup [.int (i : Nat), x])) :=
      ⟨hT2, by show 2 ≤ sizeLine; decide, [.int i s.toks, u], .cons ⟨_, rfl⟩ (.cons ru .nil), ⟨_, hT2, rfl, _, rfl⟩⟩
    have I1 : Inv X pins σ (upd H s.heap.objs.size (.frz (tupO [.int i s.toks, u]) (.tup [.int (i : Nat), x]))) { s with heap := h'', toks := s.toks + 1 } :=
      I.turnedNew (ch := [e, it]) (fun b ob hb q => (sb.2 b (fun z => hb (by simp [z]))).trans (hk b ob (fun z => hb (by simp [z])) (fun z => hb (by simp [z])) q)) hf (Nat.le_refl _) new
    refine ⟨.ref s.heap.objs.size, _, I1, rfl, ⟨_, x, tupO [.int i s.toks, u], rfl, I.hok.fresh (Nat.le_refl _), rfl, rfl, fun ys hy => by rw [I.list_inj hy hq]; exact hx⟩, ⟨⟨u, ?_⟩, hit'.at fun o q => (sb.2 it (Ne.symm hne)).trans q, hne⟩, fun b hb => ?_⟩
    · have e1 : ((i + 1 : Nat) : Int) = (i : Int) + 1 := by omega
      rw [e1]; exact he'
    · have hb' : b < s.heap.objs.size := by
        have e' : b = e ∨ b = it := by simpa using hb
        rcases e' with z | z
        · rw [z]; exact hel
        · rw [z]; exact hil
      rw [upd_ne (Nat.ne_of_lt hb')]
      exact (hf b hb).1
  done := by
    intro X hP hw hK hc i pins s σ H E I hf st hg
    subst hP hw hK
    obtain ⟨⟨old, he⟩, hit, hne⟩ := st
    obtain ⟨xs, hq, hx⟩ := hg
    obtain ⟨its, rv, p, hz⟩ := I.list hq
    obtain ⟨f0, f1, f2, f3, f4, f5⟩ := hf it (by simp)
    have hl := rv.length
    exact wpAny_pyNext_enum_end (I.ok.hd hc) he hit p.isList (by simp; omega) fun h' eb => ⟨rfl, I.turned (t' := s.toks) (fun b o hb q => eb b o hb q) f0 f1 f3 f4 f5⟩
  self := fun A i s Q E st h => let ⟨⟨_, he⟩, _⟩ := st; wpAny_pyIter_enum he h
def iEnumF (K : PySem.W.Frag) (ta : TA) : TI := fun σ H R => ta σ H fun vs H1 => ∃ a xs, vs = [.ref a] ∧ SqL K H1 a xs ∧ R (IteF K a) H1
theorem pi_enumF {ta : TA} {p tpos : Pos} {elts : List Expr} {kk : Nat} (hg : Gl X "enumerate") (hm : X.mg "enumerate" = none) (ha : PA X [e] ta) (hs : starEach [e] X.env = [(false, eval e X.env)] := by rfl) :
    PI X (.Tuple elts kk tpos) (.Call (.Name "enumerate" p) [e] [] pos) (iEnumF X.K ta) := by
  refine ⟨fun pins s σ H R I h => ?_⟩
  refine Call_ (ld_blt I hg hm boot_enumerate (PyProof.Rows.callWith_type1 (thn (ha.run pos pins s σ H _ I h) fun us s1 ⟨vs, H1, I1, r1, q1⟩ => ?_) hs rfl))
  obtain ⟨a, xs, ex, hq, q⟩ := q1
  subst ex
  cases r1 with
  | cons r rr =>
    cases rr
    cases r
    obtain ⟨its, rv, p', hz⟩ := I1.list hq
    refine call_enumerate_list p'.isList fun h' he hit hsz hk => wpAny_pyIter_enum he ?_
    have I2 : Inv X pins σ H1 { s1 with heap := h' } := I1.kept (t' := s1.toks) hk
    refine ⟨s1.heap.objs.size + 1, [s1.heap.objs.size + 1, s1.heap.objs.size], _, _, H1, rfl, I2, turn_enumF a (s1.heap.objs.size + 1) s1.heap.objs.size, ⟨⟨.none, he⟩, hit, Nat.succ_ne_self _⟩, fun b hb => ?_, q⟩
    have e' : b = s1.heap.objs.size + 1 ∨ b = s1.heap.objs.size := by simpa using hb
    have hle : s1.heap.objs.size ≤ b := by
      rcases e' with z | z
      · rw [z]; exact Nat.le_add_right _ _
      · rw [z]; exact Nat.le_refl _
    exact I1.fpOk hle (I1.hok.fresh hle)
def enumD (n : Nat) : List D → List D
  | [] => []
  | d :: ds => .tup [.int (n : Nat), d] :: enumD (n + 1) ds
theorem enumD_get : ∀ (ds : List D) (n i : Nat), (enumD n ds)[i]? = (ds[i]?).map fun d => .tup [.int ((n + i : Nat) : Int), d]
  | [], n, i => by simp [enumD]
  | d :: ds, n, 0 => by simp [enumD]
  | d :: ds, n, i + 1 => by
    simp only [enumD, List.getElem?_cons_succ, enumD_get ds (n + 1) i]
    rw [show n + 1 + i = n + (i + 1) by omega]
theorem enumD_len : ∀ (ds : List D) (n : Nat), (enumD n ds).length = ds.length
  | [], n => rfl
  | d :: ds, n => by simp [enumD, enumD_len ds (n + 1)]
def aEnum (t : AAt) : AIt := fun δ m Q => t δ m fun ds m1 => ∃ es, ds = [.lst es] ∧ Q (enumD 0 es) m1
theorem ai_enum {t : AAt} {p tpos : Pos} {elts : List Expr} {kk : Nat} (hm : X.mg "enumerate" = none) (h : AA X [e] t) (hg : Gl X "enumerate" := by rfl) (hs : starEach [e] X.env = [(false, eval e X.env)] := by rfl) :
    AI X (.Tuple elts kk tpos) (.Call (.Name "enumerate" p) [e] [] pos) (aEnum t) :=
  let ⟨_, pa, s⟩ := h.ex
  ⟨_, pi_enumF hg hm pa hs, fun B δ m Q σ H W E h R k => s B δ m _ σ H W E h _ fun ds m1 vs H1 s1 W1 r ⟨es, e, q⟩ => by
    subst e
    obtain ⟨v1, rfl, r1⟩ := reps1 r
    obtain ⟨a, us, rfl, t, rs⟩ := rep_lst.mp r1
    refine ⟨a, us, rfl, t.sq, k _ _ m1 H1 s1 W1 (fun B' hB i H' m' st W' => ?_) q⟩
    have t' := t.carry (st.carry2 hB)
    have r' := Reps.carry (st.carry2 hB) _ _ rs
    refine ⟨fun d hd => ?_, fun hi => ⟨us, t'.sq, by rw [r'.len, ← enumD_len es 0]; omega⟩⟩
    rw [enumD_get] at hd
    cases e : es[i]? with
    | none => rw [e] at hd; cases hd
    | some y =>
      rw [e] at hd
      cases hd
      obtain ⟨v, hv, rv⟩ := r'.get i _ e
      refine ⟨⟨us, v, t'.sq, hv⟩, fun x H'' ⟨T, x1, ob, ex, hT, hdn, eH, hx1⟩ => ?_⟩
      subst ex eH
      have := hx1 us t'.sq
      rw [hv] at this
      cases this
      have ⟨W2, nb⟩ := W'.new (o := .frz ob (.tup [.int (i : Nat), v])) hT
      refine ⟨Step.new hT, W2, rep_tup.mpr ⟨T, _, rfl, .inl ⟨ob, upd_same, hdn, nb⟩, Reps.carry (Step.new hT : Step H' m' _ m').carry _ _ (reps_cons.mpr ⟨_, _, rfl, rep_int.mpr ?_, Reps.one rv⟩)⟩⟩
      simp⟩
/-! ### a copy of a module's table -/
def entP (K : PySem.W.Frag) : List (Str × D) → List DictEntry → Prop
  | [], [] => True
  | (k, d) :: r, e :: es => (∃ t, e.key = .str k t) ∧ (∃ v, RelV v e.val ∧ ∀ H N, Rep K H N d v) ∧ entP K r es
  | _, _ => False
theorem entP_of {K : PySem.W.Frag} : ∀ {kvs : List (Str × D)} {es : List DictEntry}, entB K kvs es = true → entP K kvs es
  | [], [], _ => trivial
  | [], _ :: _, h => by simp [entB] at h
  | _ :: _, [], h => by simp [entB] at h
  | (k, d) :: r, e :: es, h => by
    simp only [entB, Bool.and_eq_true] at h
    obtain ⟨h1, h2, h3⟩ := h
    refine ⟨?_, repB_ok d e.val h2, entP_of h3⟩
    cases hk : e.key with
    | str x t =>
      rw [hk] at h1
      have e1 : x = k := by simpa using h1
      subst e1
      exact ⟨t, rfl⟩
    | _ => rw [hk] at h1; cases h1
/-- a module's table, its entries in order -/
structure KTabO (K : PySem.W.Frag) (w : World) (mg : Str → Option Value) (x : Str) (kvs : List (Str × D)) : Prop where
  ex : ∃ d es n, mg x = some (.ref d) ∧ KDict K w d es n ∧ entP K kvs es.toList
theorem tabO_ok {K : PySem.W.Frag} {w : World} {mg : Str → Option Value} {x : Str} {a : Addr} {es : Array DictEntry} {n : Nat} {kvs : List (Str × D)} (hm : mg x = some (.ref a)) (D : KDict K w a es n) (c : tabB K a kvs = true) : KTabO K w mg x kvs := by
  refine ⟨a, es, n, hm, D, ?_⟩
  unfold tabB at c
  rw [D.at_] at c
  exact entP_of c
def skD (kvs : List (Str × D)) : List (Key × D) := kvs.map fun p => (.inr p.1, p.2)
theorem ent_pairs {P : Program} {w : World} {K : PySem.W.Frag} : ∀ {kvs : List (Str × D)} {es : List DictEntry}, entP K kvs es → ∃ (vs : List (Key × V)) (us : List (Key × Value)), vs.map (·.1) = kvs.map (fun p => (Sum.inr p.1 : Key)) ∧ (∀ H N, Repk K H N (skD kvs) vs) ∧ KV vs us ∧ Pairs (mixKind P w) es us ∧ us.map (·.1) = vs.map (·.1)
  | [], [], _ => ⟨[], [], rfl, fun _ _ => by simp only [skD, List.map_nil, Repk], .nil, .nil, rfl⟩
  | (k, d) :: r, e :: es, ⟨⟨t, ht⟩, ⟨v, rv, q⟩, h⟩ => by
    obtain ⟨vs, us, e1, r1, kv, pr, e2⟩ := ent_pairs (P := P) (w := w) h
    refine ⟨(.inr k, v) :: vs, (.inr k, e.val) :: us, by simp [e1], fun H N => ?_, .cons ⟨rfl, rv⟩ kv, .cons ?_ rfl pr, by simp [e2]⟩
    · have := r1 H N
      simp only [skD, List.map_cons, Repk] at this ⊢
      exact ⟨v, vs, rfl, q H N, this⟩
    · show keyIs (.inr k) e.key = true
      rw [ht]
      simp [keyIs, Value.isStrOf]
theorem ae_dictT {x : Str} {kvs : List (Str × D)} {p q : Pos} (T : KTabO X.K X.w X.mg x kvs) (hnd : (kvs.map (·.1)).Nodup) (hl : kvs.length ≤ 1000) (hm : X.mg "dict" = none) (hg : Gl X x := by rfl) (hg2 : Gl X "dict" := by rfl) (hd : (x == ("__debug__" : Str)) = false := by decide)
    (hs : starEach [.Name x q] X.env = (false, eval (.Name x q) X.env) :: starEach [] X.env := by rfl) (hpl : (backTo pos (starEach [] X.env)).any (·.1) = false := by rfl) : AE X (.Call (.Name "dict" p) [.Name x q] [] pos) (aC (.dct (skD kvs))) := by
  obtain ⟨d, es, n, hx, KD, en⟩ := T.ex
  obtain ⟨vs, us, e1, r1, kv, pr, e2⟩ := ent_pairs (P := X.prog) (w := X.w) en
  have hvl : vs.length = kvs.length := by have := congrArg List.length e1; simpa using this
  have hul : us.length = kvs.length := by have := congrArg List.length e2; simp at this; omega
  have call : CallR X (.type "dict") (fun xs H Q => xs = [.ref d] ∧ ∀ p, H p = none → Q (.ref p) (upd H p (.dK vs))) := by
    intro pins s σ H xs us' Q I r ⟨ex, q⟩
    subst ex
    obtain ⟨u, eu, rx⟩ := vals1 r
    subst eu
    cases rx
    have dd : s.heap.DictOf (mixKind X.prog X.w) d us := by
      refine ⟨_, es, n, I.kIn d _ KD.at_, ⟨rfl, rfl, rfl⟩, rfl, fun e he => ?_, pr, ?_⟩
      · obtain ⟨y, t, h1, h2⟩ := KD.lit.all e (Array.mem_toList_iff.mpr he)
        refine ⟨.inr y, ?_, h2⟩
        show keyIs (.inr y) e.key = true
        rw [h1]
        simp [keyIs, Value.isStrOf]
      · rw [e2, e1]
        rw [List.nodup_iff_pairwise_ne] at hnd ⊢
        exact List.pairwise_map.mpr ((List.pairwise_map.mp hnd).imp fun ne e => ne (by injection e))
    refine PySem.kt_call_dict KD.low dd (by rw [hul]; exact szl (by omega)) fun h' d' hs => ?_
    have hm : (s.heap.objs.size == sysModules) = false := beq_eq_false_iff_ne.mpr (Nat.ne_of_gt I.big)
    exact ⟨.ref s.heap.objs.size, upd H s.heap.objs.size (.dK vs), I.laid (t' := s.toks) (fun b u e => (hs.2 b (Nat.ne_of_lt (Heap.lt_size e))).trans (Heap.get?_push_of_some _ e)) (Nat.le_refl _)
      (show ObjOk X.prog X.w _ _ _ (.dK vs) from ⟨by rw [hvl]; exact szl (by omega), hm, us, kv, d'⟩), rfl, q _ (I.hok.fresh (Nat.le_refl _))⟩
  refine ⟨_, pe_callTy call hg2 hm boot_dict (pa_cons (pe_glob (v := .ref d) hg hx rfl hd) pa_nil hs) (by decide) (by decide) hs hpl, fun B δ m Q σ H W E h Q' k => ⟨rfl, fun p hp => ?_⟩⟩
  exact k.dct W (r1 _ _) h hp
end
end L3
/-! the program's defs. -/
namespace K16
open PySem PySem.Spec PyProof.Rows L2 L3
def topS (i : Nat) : Stmt := PySem.Challenge.pw_partdeeds_k16_whole_what_givers_give.main.body.getD i (.Pass ⟨0, 0, 0, 0⟩)
abbrev s_is_letter : Stmt := topS 19
theorem sc_is_letter : FnScope ["part", "letters"] ["part", "letters"] (defScope s_is_letter) := ⟨rfl, rfl, rfl, by decide +kernel, rfl, by decide +kernel, by decide +kernel⟩
abbrev s_is_whole : Stmt := topS 67
theorem sc_is_whole : FnScope ["sheaf", "some"] ["sheaf"] (defScope s_is_whole) := ⟨rfl, rfl, rfl, by decide +kernel, rfl, by decide +kernel, by decide +kernel⟩
abbrev s_is_whole_kinds : Stmt := topS 20
theorem sc_is_whole_kinds : FnScope ["part"] ["part"] (defScope s_is_whole_kinds) := ⟨rfl, rfl, rfl, by decide +kernel, rfl, by decide +kernel, by decide +kernel⟩
abbrev s_kind_of : Stmt := topS 22
theorem sc_kind_of : FnScope ["worth", "one"] ["worth"] (defScope s_kind_of) := ⟨rfl, rfl, rfl, by decide +kernel, rfl, by decide +kernel, by decide +kernel⟩
abbrev s_first_worth : Stmt := topS 23
theorem sc_first_worth : FnScope ["kind"] ["kind"] (defScope s_first_worth) := ⟨rfl, rfl, rfl, by decide +kernel, rfl, by decide +kernel, by decide +kernel⟩
abbrev s_cut : Stmt := topS 24
theorem sc_cut : FnScope ["number"] ["number"] (defScope s_cut) := ⟨rfl, rfl, rfl, by decide +kernel, rfl, by decide +kernel, by decide +kernel⟩
def kt_ARMS : List (Str × D) := [("number", (.str "n")), ("truth", (.str "t")), ("empty", (.str "")), ("argument", (.str "")), ("cell", (.str "c")), ("plus", (.str "xx")), ("less", (.str "xx")), ("times", (.str "xx")), ("below", (.str "xx")), ("same", (.str "xx")), ("not", (.str "x")), ("and", (.str "xx")), ("if", (.str "xxx")), ("put", (.str "xx")), ("first", (.str "x")), ("rest", (.str "x")), ("many", (.str "x")), ("set", (.str "cx")), ("then", (.str "xx")), ("call", (.str "dx"))]
def kt_TAKES : List (Str × D) := [("plus", (.tup [(.str "number"), (.str "number")])), ("less", (.tup [(.str "number"), (.str "number")])), ("times", (.tup [(.str "number"), (.str "number")])), ("below", (.tup [(.str "number"), (.str "number")])), ("not", (.tup [(.str "truth")])), ("and", (.tup [(.str "truth"), (.str "truth")])), ("put", (.tup [(.str "number"), (.str "list")])), ("first", (.tup [(.str "list")])), ("rest", (.tup [(.str "list")])), ("many", (.tup [(.str "list")]))]
def kt_TELLS : List (Str × D) := [("number", (.str "number")), ("truth", (.str "truth")), ("empty", (.str "list")), ("plus", (.str "number")), ("less", (.str "number")), ("times", (.str "number")), ("below", (.str "truth")), ("same", (.str "truth")), ("not", (.str "truth")), ("and", (.str "truth")), ("put", (.str "list")), ("first", (.str "number")), ("rest", (.str "list")), ("many", (.str "number"))]
abbrev s_is_arm : Stmt := topS 32
theorem sc_is_arm : FnScope ["arm", "sort"] ["arm", "sort"] (defScope s_is_arm) := ⟨rfl, rfl, rfl, by decide +kernel, rfl, by decide +kernel, by decide +kernel⟩
abbrev s_words_in : Stmt := topS 33
theorem sc_words_in : FnScope ["body", "within", "arms", "many", "arm", "sort"] ["body", "within"] (defScope s_words_in) := ⟨rfl, rfl, rfl, by decide +kernel, rfl, by decide +kernel, by decide +kernel⟩
abbrev s_is_body : Stmt := topS 34
theorem sc_is_body : FnScope ["body"] ["body"] (defScope s_is_body) := ⟨rfl, rfl, rfl, by decide +kernel, rfl, by decide +kernel, by decide +kernel⟩
abbrev s_within : Stmt := topS 35
theorem sc_within : FnScope ["body", "arm", "sort"] ["body"] (defScope s_within) := ⟨rfl, rfl, rfl, by decide +kernel, rfl, by decide +kernel, by decide +kernel⟩
abbrev s_calls_in : Stmt := topS 36
theorem sc_calls_in : FnScope ["body", "found", "one", "deed"] ["body"] (defScope s_calls_in) := ⟨rfl, rfl, rfl, by decide +kernel, rfl, by decide +kernel, by decide +kernel⟩
abbrev s_renamed_body : Stmt := topS 37
theorem sc_renamed_body : FnScope ["body", "deed", "new", "found", "arm", "sort"] ["body", "deed", "new"] (defScope s_renamed_body) := ⟨rfl, rfl, rfl, by decide +kernel, rfl, by decide +kernel, by decide +kernel⟩
abbrev s_kind_in : Stmt := topS 38
theorem sc_kind_in : FnScope ["body", "takes", "given", "cells", "word", "kinds", "kind", "one"] ["body", "takes", "given", "cells"] (defScope s_kind_in) := ⟨rfl, rfl, rfl, by decide +kernel, rfl, by decide +kernel, by decide +kernel⟩
abbrev s_are_kinds : Stmt := topS 39
theorem sc_are_kinds : FnScope ["some", "one"] ["some"] (defScope s_are_kinds) := ⟨rfl, rfl, rfl, by decide +kernel, rfl, by decide +kernel, by decide +kernel⟩
abbrev s_are_rising : Stmt := topS 44
theorem sc_are_rising : FnScope ["rows", "names", "row"] ["rows"] (defScope s_are_rising) := ⟨rfl, rfl, rfl, by decide +kernel, rfl, by decide +kernel, by decide +kernel⟩
abbrev s_are_rows : Stmt := topS 45
theorem sc_are_rows : FnScope ["rows", "most", "many", "letters", "row"] ["rows", "most", "many", "letters"] (defScope s_are_rows) := ⟨rfl, rfl, rfl, by decide +kernel, rfl, by decide +kernel, by decide +kernel⟩
abbrev s_are_deeds : Stmt := topS 46
theorem sc_are_deeds : FnScope ["rows", "row"] ["rows"] (defScope s_are_deeds) := ⟨rfl, rfl, rfl, by decide +kernel, rfl, by decide +kernel, by decide +kernel⟩
abbrev s_why_none : Stmt := topS 47
theorem sc_why_none : FnScope ["part", "names", "name", "deeds", "asks", "cells", "row"] ["part"] (defScope s_why_none) := ⟨rfl, rfl, rfl, by decide +kernel, rfl, by decide +kernel, by decide +kernel⟩
abbrev s_need_part : Stmt := topS 48
theorem sc_need_part : FnScope ["part", "why"] ["part"] (defScope s_need_part) := ⟨rfl, rfl, rfl, by decide +kernel, rfl, by decide +kernel, by decide +kernel⟩
abbrev s_need_shelf : Stmt := topS 49
theorem sc_need_shelf : FnScope ["shelf", "part", "names"] ["shelf"] (defScope s_need_shelf) := ⟨rfl, rfl, rfl, by decide +kernel, rfl, by decide +kernel, by decide +kernel⟩
abbrev s_given_in : Stmt := topS 50
theorem sc_given_in : FnScope ["part", "row"] ["part"] (defScope s_given_in) := ⟨rfl, rfl, rfl, by decide +kernel, rfl, by decide +kernel, by decide +kernel⟩
abbrev s_wrong_deed : Stmt := topS 51
theorem sc_wrong_deed : FnScope ["part", "given", "cells", "deed", "takes", "tells", "body"] ["part"] (defScope s_wrong_deed) := ⟨rfl, rfl, rfl, by decide +kernel, rfl, by decide +kernel, by decide +kernel⟩
def kt_SHAPES : List (Str × D) := [("part", (.str "p")), ("with", (.str "tt")), ("without", (.str "td")), ("also", (.str "tdd")), ("renamed", (.str "tdd")), ("over", (.str "tp"))]
abbrev s_trees_in : Stmt := topS 56
theorem sc_trees_in : FnScope ["tree", "names", "within", "shape", "many", "arm", "sort"] ["tree", "names", "within"] (defScope s_trees_in) := ⟨rfl, rfl, rfl, by decide +kernel, rfl, by decide +kernel, by decide +kernel⟩
abbrev s_need_tree : Stmt := topS 57
theorem sc_need_tree : FnScope ["shelf", "tree", "part"] ["shelf", "tree"] (defScope s_need_tree) := ⟨rfl, rfl, rfl, by decide +kernel, rfl, by decide +kernel, by decide +kernel⟩
abbrev s_Sheaf_init : Stmt := inClass (topS 58) 0
theorem sc_Sheaf_init : FnScope ["self", "deeds", "cells"] ["self", "deeds", "cells"] (defScope s_Sheaf_init) := ⟨rfl, rfl, rfl, by decide +kernel, rfl, by decide +kernel, by decide +kernel⟩
abbrev s_Sheaf_with_forms : Stmt := inClass (topS 58) 1
theorem sc_Sheaf_with_forms : FnScope ["self", "deed", "forms", "some", "form"] ["self", "deed", "forms"] (defScope s_Sheaf_with_forms) := ⟨rfl, rfl, rfl, by decide +kernel, rfl, by decide +kernel, by decide +kernel⟩
abbrev s_Sheaf_with_cells : Stmt := inClass (topS 58) 2
theorem sc_Sheaf_with_cells : FnScope ["self", "cells", "cell", "some", "kind"] ["self", "cells"] (defScope s_Sheaf_with_cells) := ⟨rfl, rfl, rfl, by decide +kernel, rfl, by decide +kernel, by decide +kernel⟩
abbrev s_of_part : Stmt := topS 59
theorem sc_of_part : FnScope ["part", "given", "deeds", "deed", "takes", "tells", "body", "needs", "other", "cell", "kind"] ["part"] (defScope s_of_part) := ⟨rfl, rfl, rfl, by decide +kernel, rfl, by decide +kernel, by decide +kernel⟩
abbrev s_renamed_form : Stmt := topS 60
theorem sc_renamed_form : FnScope ["form", "deed", "new", "some", "origin", "takes", "tells", "body", "needs", "name", "other_takes", "other_tells", "row"] ["form", "deed", "new"] (defScope s_renamed_form) := ⟨rfl, rfl, rfl, by decide +kernel, rfl, by decide +kernel, by decide +kernel⟩
abbrev s_renamed_sheaf : Stmt := topS 61
theorem sc_renamed_sheaf : FnScope ["sheaf", "deed", "new", "found", "name", "form"] ["sheaf", "deed", "new"] (defScope s_renamed_sheaf) := ⟨rfl, rfl, rfl, by decide +kernel, rfl, by decide +kernel, by decide +kernel⟩
abbrev s_put : Stmt := topS 62
theorem sc_put : FnScope ["parts", "tree", "sheaf", "other", "deed"] ["parts", "tree"] (defScope s_put) := ⟨rfl, rfl, rfl, by decide +kernel, rfl, by decide +kernel, by decide +kernel⟩
abbrev s_put_together : Stmt := topS 63
theorem sc_put_together : FnScope ["shelf", "tree", "part"] ["shelf", "tree"] (defScope s_put_together) := ⟨rfl, rfl, rfl, by decide +kernel, rfl, by decide +kernel, by decide +kernel⟩
abbrev s_wanting_in : Stmt := topS 64
theorem sc_wanting_in : FnScope ["sheaf", "clashes", "lacks", "unfit", "deed", "cells", "form", "cell", "other", "takes", "tells", "one"] ["sheaf"] (defScope s_wanting_in) := ⟨rfl, rfl, rfl, by decide +kernel, rfl, by decide +kernel, by decide +kernel⟩
abbrev s_wanting : Stmt := topS 65
theorem sc_wanting : FnScope ["shelf", "tree"] ["shelf", "tree"] (defScope s_wanting) := ⟨rfl, rfl, rfl, by decide +kernel, rfl, by decide +kernel, by decide +kernel⟩
abbrev s_is_whole_flats : Stmt := topS 67
theorem sc_is_whole_flats : FnScope ["sheaf", "some"] ["sheaf"] (defScope s_is_whole_flats) := ⟨rfl, rfl, rfl, by decide +kernel, rfl, by decide +kernel, by decide +kernel⟩
abbrev s_lists_of : Stmt := topS 70
theorem sc_lists_of : FnScope ["names", "many", "found", "k", "rest"] ["names", "many"] (defScope s_lists_of) := ⟨rfl, rfl, rfl, by decide +kernel, rfl, by decide +kernel, by decide +kernel⟩
abbrev s_givers : Stmt := topS 71
theorem sc_givers : FnScope ["shelf", "tree", "names", "many", "some", "whole", "name", "part"] ["shelf", "tree"] (defScope s_givers) := ⟨rfl, rfl, rfl, by decide +kernel, rfl, by decide +kernel, by decide +kernel⟩
abbrev s_reckoned : Stmt := topS 75
theorem sc_reckoned : FnScope ["word", "arms", "kinds", "one", "other", "arm"] ["word", "arms"] (defScope s_reckoned) := ⟨rfl, rfl, rfl, by decide +kernel, rfl, by decide +kernel, by decide +kernel⟩
abbrev s_of_list : Stmt := topS 76
theorem sc_of_list : FnScope ["word", "worth"] ["word", "worth"] (defScope s_of_list) := ⟨rfl, rfl, rfl, by decide +kernel, rfl, by decide +kernel, by decide +kernel⟩
abbrev s_Runner_init : Stmt := inClass (topS 77) 0
theorem sc_Runner_init : FnScope ["self", "sheaf", "cell", "kinds", "deed"] ["self", "sheaf"] (defScope s_Runner_init) := ⟨rfl, rfl, rfl, by decide +kernel, rfl, by decide +kernel, by decide +kernel⟩
abbrev s_Runner_run : Stmt := inClass (topS 77) 1
theorem sc_Runner_run : FnScope ["self", "deed", "worth", "before"] ["self", "deed", "worth"] (defScope s_Runner_run) := ⟨rfl, rfl, rfl, by decide +kernel, rfl, by decide +kernel, by decide +kernel⟩
abbrev s_Runner_come : Stmt := inClass (topS 77) 2
theorem sc_Runner_come : FnScope ["self", "body", "worth", "deep", "word", "arms", "arm", "found"] ["self", "body", "worth", "deep"] (defScope s_Runner_come) := ⟨rfl, rfl, rfl, by decide +kernel, rfl, by decide +kernel, by decide +kernel⟩
abbrev s_Runner_put_in : Stmt := inClass (topS 77) 3
theorem sc_Runner_put_in : FnScope ["self", "cell", "worth"] ["self", "cell", "worth"] (defScope s_Runner_put_in) := ⟨rfl, rfl, rfl, by decide +kernel, rfl, by decide +kernel, by decide +kernel⟩
abbrev s_named_in : Stmt := topS 78
theorem sc_named_in : FnScope ["tree", "found", "arm", "sort"] ["tree"] (defScope s_named_in) := ⟨rfl, rfl, rfl, by decide +kernel, rfl, by decide +kernel, by decide +kernel⟩
abbrev s_Thing_init : Stmt := inClass (topS 79) 0
theorem sc_Thing_init : FnScope ["self", "shelf", "tree", "names", "part", "sheaf"] ["self", "shelf", "tree"] (defScope s_Thing_init) := ⟨rfl, rfl, rfl, by decide +kernel, rfl, by decide +kernel, by decide +kernel⟩
abbrev s_Thing_call : Stmt := inClass (topS 79) 1
theorem sc_Thing_call : FnScope ["self", "deed", "worth", "deeds"] ["self", "deed", "worth"] (defScope s_Thing_call) := ⟨rfl, rfl, rfl, by decide +kernel, rfl, by decide +kernel, by decide +kernel⟩
abbrev s_Thing_deeds : Stmt := inClass (topS 79) 2
theorem sc_Thing_deeds : FnScope ["self", "deeds", "deed"] ["self"] (defScope s_Thing_deeds) := ⟨rfl, rfl, rfl, by decide +kernel, rfl, by decide +kernel, by decide +kernel⟩
abbrev s_Thing_cells : Stmt := inClass (topS 79) 3
theorem sc_Thing_cells : FnScope ["self", "cells", "cell"] ["self"] (defScope s_Thing_cells) := ⟨rfl, rfl, rfl, by decide +kernel, rfl, by decide +kernel, by decide +kernel⟩
abbrev s__law_mix : Stmt := topS 81
theorem sc__law_mix : FnScope ["_law_script", "_law_seed", "_law_mixed", "_law_cell"] ["_law_script", "_law_seed"] (defScope s__law_mix) := ⟨rfl, rfl, rfl, by decide +kernel, rfl, by decide +kernel, by decide +kernel⟩
abbrev s__law_next : Stmt := topS 82
theorem sc__law_next : FnScope ["_law_h", "_law_many", "_law_at", "_law_cell"] ["_law_h", "_law_many"] (defScope s__law_next) := ⟨rfl, rfl, rfl, by decide +kernel, rfl, by decide +kernel, by decide +kernel⟩
abbrev s__law_alike : Stmt := topS 83
theorem sc__law_alike : FnScope ["_law_found", "_law_due", "_law_k"] ["_law_found", "_law_due"] (defScope s__law_alike) := ⟨rfl, rfl, rfl, by decide +kernel, rfl, by decide +kernel, by decide +kernel⟩
abbrev s__law_leaf : Stmt := topS 84
theorem sc__law_leaf : FnScope ["_law_h", "_law_e", "_law_kind", "_law_some", "_law_cell"] ["_law_h", "_law_e", "_law_kind"] (defScope s__law_leaf) := ⟨rfl, rfl, rfl, by decide +kernel, rfl, by decide +kernel, by decide +kernel⟩
abbrev s__law_call : Stmt := topS 85
theorem sc__law_call : FnScope ["_law_h", "_law_e", "_law_kind", "_law_deep", "_law_deeds", "_law_cells", "_law_deed", "_law_cell"] ["_law_h", "_law_e", "_law_kind", "_law_deep"] (defScope s__law_call) := ⟨rfl, rfl, rfl, by decide +kernel, rfl, by decide +kernel, by decide +kernel⟩
abbrev s__law_body : Stmt := topS 86
theorem sc__law_body : FnScope ["_law_h", "_law_e", "_law_kind", "_law_deep", "_law_turn", "_law_other", "_law_arms"] ["_law_h", "_law_e", "_law_kind", "_law_deep"] (defScope s__law_body) := ⟨rfl, rfl, rfl, by decide +kernel, rfl, by decide +kernel, by decide +kernel⟩
abbrev s__law_reckons : Stmt := topS 87
theorem sc__law_reckons : FnScope ["_law_h", "_law_e", "_law_kind", "_law_deep", "_law_word", "_law_more", "_law_other", "_law_one"] ["_law_h", "_law_e", "_law_kind", "_law_deep"] (defScope s__law_reckons) := ⟨rfl, rfl, rfl, by decide +kernel, rfl, by decide +kernel, by decide +kernel⟩
abbrev s__law_calls : Stmt := topS 88
theorem sc__law_calls : FnScope ["_law_body_here", "_law_found", "_law_arm", "_law_deed"] ["_law_body_here"] (defScope s__law_calls) := ⟨rfl, rfl, rfl, by decide +kernel, rfl, by decide +kernel, by decide +kernel⟩
abbrev s__law_used : Stmt := topS 89
theorem sc__law_used : FnScope ["_law_body_here", "_law_found", "_law_arm"] ["_law_body_here"] (defScope s__law_used) := ⟨rfl, rfl, rfl, by decide +kernel, rfl, by decide +kernel, by decide +kernel⟩
abbrev s__law_part : Stmt := topS 90
theorem sc__law_part : FnScope ["_law_h", "_law_name", "_law_own", "_law_others", "_law_sig", "_law_cells", "_law_deeds", "_law_met", "_law_used_here", "_law_given", "_law_deed", "_law_asks", "_law_some", "_law_e", "_law_body_here", "_law_cell"] ["_law_h", "_law_name", "_law_own", "_law_others", "_law_sig", "_law_cells"] (defScope s__law_part) := ⟨rfl, rfl, rfl, by decide +kernel, rfl, by decide +kernel, by decide +kernel⟩
abbrev s__law_shelf : Stmt := topS 91
theorem sc__law_shelf : FnScope ["_law_h", "_law_kinds", "_law_sig", "_law_cells", "_law_many", "_law_owners", "_law_deed", "_law_every", "_law_own", "_law_found", "_law_k", "_law_turn", "_law_others", "_law_cell"] ["_law_h"] (defScope s__law_shelf) := ⟨rfl, rfl, rfl, by decide +kernel, rfl, by decide +kernel, by decide +kernel⟩
abbrev s__law_tree : Stmt := topS 92
theorem sc__law_tree : FnScope ["_law_h", "_law_shelf_here", "_law_deep", "_law_name", "_law_turn", "_law_one", "_law_some", "_law_deed", "_law_new"] ["_law_h", "_law_shelf_here", "_law_deep"] (defScope s__law_tree) := ⟨rfl, rfl, rfl, by decide +kernel, rfl, by decide +kernel, by decide +kernel⟩
abbrev s__law_whole : Stmt := topS 93
theorem sc__law_whole : FnScope ["_law_shelf_here", "_law_met", "_law_tree_here", "_law_part_here", "_law_one", "_law_row"] ["_law_shelf_here"] (defScope s__law_whole) := ⟨rfl, rfl, rfl, by decide +kernel, rfl, by decide +kernel, by decide +kernel⟩
abbrev s__law_put_with : Stmt := topS 94
theorem sc__law_put_with : FnScope ["_law_tree_here", "_law_names", "_law_name"] ["_law_tree_here", "_law_names"] (defScope s__law_put_with) := ⟨rfl, rfl, rfl, by decide +kernel, rfl, by decide +kernel, by decide +kernel⟩
abbrev s_law : Stmt := topS 95
theorem sc_law : FnScope ["_law_script", "_law_h", "_law_none", "_law_turn", "_law_shelf_here", "_law_names", "_law_tree_here", "_law_found", "_law_k", "_law_one", "_law_part_here", "_law_other"] ["_law_script"] (defScope s_law) := ⟨rfl, rfl, rfl, by decide +kernel, rfl, by decide +kernel, by decide +kernel⟩
/-- what the head tells -/
structure Txt (K : PySem.W.Frag) (w : World) (mg : Str → Option Value) : Prop where
  c_NUMBER : GloD K mg "NUMBER" (.str "number")
  c_TRUTH : GloD K mg "TRUTH" (.str "truth")
  c_LIST : GloD K mg "LIST" (.str "list")
  c_KINDS : GloD K mg "KINDS" (.tup [(.str "number"), (.str "truth"), (.str "list")])
  c_DEEDS : GloD K mg "DEEDS" (.str "abcdefgh")
  c_CELLS : GloD K mg "CELLS" (.str "pqrs")
  c_PARTS : GloD K mg "PARTS" (.str "ABCDEF")
  c_MOST : GloD K mg "MOST" (.int (999))
  c_MOST_LIST : GloD K mg "MOST_LIST" (.int (8))
  d_is_letter : DefT K mg "is_letter" s_is_letter ["part", "letters"]
  d_is_whole : DefT K mg "is_whole" s_is_whole ["sheaf"]
  d_is_whole_kinds : DefN K mg "is_whole_kinds" "is_whole" s_is_whole_kinds ["part"]
  d_kind_of : DefT K mg "kind_of" s_kind_of ["worth"]
  d_first_worth : DefT K mg "first_worth" s_first_worth ["kind"]
  d_cut : DefT K mg "cut" s_cut ["number"]
  c_MOST_WORDS : GloD K mg "MOST_WORDS" (.int (60))
  c_MOST_WITHIN_bodies : GloD K mg "MOST_WITHIN_bodies" (.int (9))
  c_MOST_WRITTEN : GloD K mg "MOST_WRITTEN" (.int (99))
  t_ARMS : KTab K w mg "ARMS" kt_ARMS
  o_ARMS : KTabO K w mg "ARMS" kt_ARMS
  t_TAKES : KTab K w mg "TAKES" kt_TAKES
  o_TAKES : KTabO K w mg "TAKES" kt_TAKES
  t_TELLS : KTab K w mg "TELLS" kt_TELLS
  o_TELLS : KTabO K w mg "TELLS" kt_TELLS
  d_is_arm : DefT K mg "is_arm" s_is_arm ["arm", "sort"]
  d_words_in : DefT K mg "words_in" s_words_in ["body", "within"]
  d_is_body : DefT K mg "is_body" s_is_body ["body"]
  d_within : DefT K mg "within" s_within ["body"]
  d_calls_in : DefT K mg "calls_in" s_calls_in ["body"]
  d_renamed_body : DefT K mg "renamed_body" s_renamed_body ["body", "deed", "new"]
  d_kind_in : DefT K mg "kind_in" s_kind_in ["body", "takes", "given", "cells"]
  d_are_kinds : DefT K mg "are_kinds" s_are_kinds ["some"]
  c_MOST_DEEDS : GloD K mg "MOST_DEEDS" (.int (8))
  c_MOST_CELLS : GloD K mg "MOST_CELLS" (.int (4))
  c_MOST_PARTS : GloD K mg "MOST_PARTS" (.int (6))
  d_are_rising : DefT K mg "are_rising" s_are_rising ["rows"]
  d_are_rows : DefT K mg "are_rows" s_are_rows ["rows", "most", "many", "letters"]
  d_are_deeds : DefT K mg "are_deeds" s_are_deeds ["rows"]
  d_why_none : DefT K mg "why_none" s_why_none ["part"]
  d_need_part : DefT K mg "need_part" s_need_part ["part"]
  d_need_shelf : DefT K mg "need_shelf" s_need_shelf ["shelf"]
  d_given_in : DefT K mg "given_in" s_given_in ["part"]
  d_wrong_deed : DefT K mg "wrong_deed" s_wrong_deed ["part"]
  c_MOST_TREES : GloD K mg "MOST_TREES" (.int (40))
  c_MOST_WITHIN_trees : GloD K mg "MOST_WITHIN_trees" (.int (9))
  t_SHAPES : KTab K w mg "SHAPES" kt_SHAPES
  o_SHAPES : KTabO K w mg "SHAPES" kt_SHAPES
  d_trees_in : DefT K mg "trees_in" s_trees_in ["tree", "names", "within"]
  d_need_tree : DefT K mg "need_tree" s_need_tree ["shelf", "tree"]
  k_Sheaf : ClsT K mg "Sheaf" (He.ga K "Sheaf") ["by_deed", "by_cell"]
  i_Sheaf : DefI K (He.ga K "Sheaf") "Sheaf.__init__" s_Sheaf_init ["self", "deeds", "cells"]
  m_Sheaf_with_forms : DefM K (He.ga K "Sheaf") "with_forms" "Sheaf.with_forms" s_Sheaf_with_forms ["self", "deed", "forms"]
  m_Sheaf_with_cells : DefM K (He.ga K "Sheaf") "with_cells" "Sheaf.with_cells" s_Sheaf_with_cells ["self", "cells"]
  d_of_part : DefT K mg "of_part" s_of_part ["part"]
  d_renamed_form : DefT K mg "renamed_form" s_renamed_form ["form", "deed", "new"]
  d_renamed_sheaf : DefT K mg "renamed_sheaf" s_renamed_sheaf ["sheaf", "deed", "new"]
  d_put : DefT K mg "put" s_put ["parts", "tree"]
  d_put_together : DefT K mg "put_together" s_put_together ["shelf", "tree"]
  d_wanting_in : DefT K mg "wanting_in" s_wanting_in ["sheaf"]
  d_wanting : DefT K mg "wanting" s_wanting ["shelf", "tree"]
  d_is_whole_flats : DefN K mg "is_whole_flats" "is_whole" s_is_whole_flats ["sheaf"]
  d_lists_of : DefT K mg "lists_of" s_lists_of ["names", "many"]
  d_givers : DefT K mg "givers" s_givers ["shelf", "tree"]
  c_MOST_STEPS : GloD K mg "MOST_STEPS" (.int (1000))
  c_MOST_CALLS : GloD K mg "MOST_CALLS" (.int (20))
  d_reckoned : DefT K mg "reckoned" s_reckoned ["word", "arms"]
  d_of_list : DefT K mg "of_list" s_of_list ["word", "worth"]
  k_Runner : ClsT K mg "Runner" (He.ga K "Runner") ["shapes", "kinds", "holds", "steps"]
  i_Runner : DefI K (He.ga K "Runner") "Runner.__init__" s_Runner_init ["self", "sheaf"]
  m_Runner_run : DefM K (He.ga K "Runner") "run" "Runner.run" s_Runner_run ["self", "deed", "worth"]
  m_Runner_come : DefM K (He.ga K "Runner") "come" "Runner.come" s_Runner_come ["self", "body", "worth", "deep"]
  m_Runner_put_in : DefM K (He.ga K "Runner") "put_in" "Runner.put_in" s_Runner_put_in ["self", "cell", "worth"]
  d_named_in : DefT K mg "named_in" s_named_in ["tree"]
  k_Thing : ClsT K mg "Thing" (He.ga K "Thing") ["runner"]
  i_Thing : DefI K (He.ga K "Thing") "Thing.__init__" s_Thing_init ["self", "shelf", "tree"]
  m_Thing_call : DefM K (He.ga K "Thing") "call" "Thing.call" s_Thing_call ["self", "deed", "worth"]
  m_Thing_deeds : DefM K (He.ga K "Thing") "deeds" "Thing.deeds" s_Thing_deeds ["self"]
  m_Thing_cells : DefM K (He.ga K "Thing") "cells" "Thing.cells" s_Thing_cells ["self"]
  d__law_mix : DefT K mg "_law_mix" s__law_mix ["_law_script", "_law_seed"]
  d__law_next : DefT K mg "_law_next" s__law_next ["_law_h", "_law_many"]
  d__law_alike : DefT K mg "_law_alike" s__law_alike ["_law_found", "_law_due"]
  d__law_leaf : DefT K mg "_law_leaf" s__law_leaf ["_law_h", "_law_e", "_law_kind"]
  d__law_call : DefT K mg "_law_call" s__law_call ["_law_h", "_law_e", "_law_kind", "_law_deep"]
  d__law_body : DefT K mg "_law_body" s__law_body ["_law_h", "_law_e", "_law_kind", "_law_deep"]
  d__law_reckons : DefT K mg "_law_reckons" s__law_reckons ["_law_h", "_law_e", "_law_kind", "_law_deep"]
  d__law_calls : DefT K mg "_law_calls" s__law_calls ["_law_body_here"]
  d__law_used : DefT K mg "_law_used" s__law_used ["_law_body_here"]
  d__law_part : DefT K mg "_law_part" s__law_part ["_law_h", "_law_name", "_law_own", "_law_others", "_law_sig", "_law_cells"]
  d__law_shelf : DefT K mg "_law_shelf" s__law_shelf ["_law_h"]
  d__law_tree : DefT K mg "_law_tree" s__law_tree ["_law_h", "_law_shelf_here", "_law_deep"]
  d__law_whole : DefT K mg "_law_whole" s__law_whole ["_law_shelf_here"]
  d__law_put_with : DefT K mg "_law_put_with" s__law_put_with ["_law_tree_here", "_law_names"]
  d_law : DefT K mg "law" s_law ["_law_script"]
  b_bool : mg "bool" = none
  b_dict : mg "dict" = none
  b_int : mg "int" = none
  b_isinstance : mg "isinstance" = none
  b_len : mg "len" = none
  b_list : mg "list" = none
  b_max : mg "max" = none
  b_min : mg "min" = none
  b_range : mg "range" = none
  b_set : mg "set" = none
  b_sorted : mg "sorted" = none
  b_str : mg "str" = none
  b_tuple : mg "tuple" = none
  b_zip : mg "zip" = none
variable {P : Program} {w : World} {K : PySem.W.Frag} {mg : Str → Option Value} {base : Heap}
local macro_rules | `(tactic| walk_at "rd") => `(tactic| simp only [ aRet, aRetN, aDrop, aIfS, aSeq, aNext, aAsg, gNm, gTupD, gConsD, gNilD, aFor, ex_var0, ex_varS, aC, aOp, aCall, aCons, aNil, aTup, aLst, aB, aAnd, aOr, aNot, aAndV, aOrV, aNotV, aIf, aNeg, aChain, aKix, aKGet1, aKGet2, aDGet1, aDGet2, aNoPart, aPart, aSl, aList, aTupI, aStrI, aZipS, aYes, aLc, aNever, aBreak, aCont, forGo, lcGo,
  isi_str_str, isi_str_int, isi_str_bool, isi_str_tuple, isi_str_list, isi_int_str, isi_int_int, isi_int_bool, isi_int_tuple, isi_int_list, isi_bl_str, isi_bl_int, isi_bl_bool, isi_bl_tuple, isi_bl_list, isi_non_str, isi_non_int, isi_non_bool, isi_non_tuple, isi_non_list, isi_tup_str, isi_tup_int, isi_tup_bool, isi_tup_tuple, isi_tup_list, isi_lst_str, isi_lst_int, isi_lst_bool, isi_lst_tuple, isi_lst_list, isi_dct_str, isi_dct_int, isi_dct_bool, isi_dct_tuple, isi_dct_list, isi2_str, isi2_int, isi2_bl, isi2_non, isi2_tup, isi2_lst, isi2_dct, Option.getD_some, Option.getD_none, D.isNon, sz_0, sz_1, sz_2, sz_3, sz_4, sz_5, sz_6, sz_7, sz_8, sz_9, sz_10, sz_11, sz_12, sz_13, sz_14, sz_15, sz_16, sg_len, ex_in_sg, ex_len_str, ex_len_tup, ex_len_lst, ex_eq_str, ex_ne_str, ex_eq_int, ex_ne_int, ex_eq_ns, ex_eq_sn, ex_eq_nn, ex_ne_ns, ex_ne_sn, ex_ne_nn, ex_I, ex_add_int, ex_add_str, ex_add_tup, ex_add_lst, ex_sub, ex_mul, ex_mod, ex_div, ex_isN, ex_notN, ex_ix_tup, ex_ix_lst, ex_sl_tup, ex_sl_lst, ex_sl_str, ex_tuple_lst,
  ofs_inj, String.reduceEq, atI_0, atI_1, atI_2, atI_3, cut_1, cut_13, startD, wipeD, List.map_cons, List.map_nil, List.length_cons, List.length_nil, List.cons_append, List.nil_append, List.replicate_succ, List.replicate_zero, List.set_cons_zero, List.set_cons_succ, Nat.reduceAdd, Nat.reduceSub, Nat.sub_self,
  D.bl.injEq, D.int.injEq, D.str.injEq, D.tup.injEq, D.lst.injEq, D.dct.injEq, Option.some.injEq, List.cons.injEq, and_assoc, Int.cast_ofNat_Int, Int.reduceAdd, Int.reduceSub, Int.reduceMul, Int.reduceNeg, Int.reduceEq, Int.reduceLT, Int.reduceLE, Int.reduceNe, eq_self, exists_eq_left, exists_eq_left', exists_eq_right, exists_eq, exists_const, exists_false, false_and, and_false, false_or, or_false, true_and, and_true, if_true, if_false, Bool.false_eq_true, Bool.not_true, Bool.not_false, ite_true, ite_false, reduceCtorEq, decide_true, decide_false, decide_eq_true_eq, exists_and_left, Bool.not_eq_true])

/-! ### letters, arms -/
theorem cps_cells : ("pqrs" : Str).cps.toList = [112, 113, 114, 115] := by decide +kernel
theorem cps_deeds : ("abcdefgh" : Str).cps.toList = [97, 98, 99, 100, 101, 102, 103, 104] := by decide +kernel
theorem cps_parts : ("ABCDEF" : Str).cps.toList = [65, 66, 67, 68, 69, 70] := by decide +kernel
def sp_is_letter : SpD := fun ds m Q => ∃ c z, ds = [.str (sg c), .str z] ∧ Q (.bl (decide (c ∈ z.cps.toList))) m
theorem F_is_letter (T : Txt K w mg) : FnD P w K mg base "is_letter" 1 sp_is_letter := by
  have nd := sc_is_letter.nd
  refine fnd_ofZ T.d_is_letter sc_is_letter (fun ds m Q ⟨x, z, e, _⟩ => by rw [e]; rfl) fun f cdv A outer s H E hr => ⟨_, (ass_one (as_ret (ae_and (ae_callB cr_isi T.b_isinstance boot_isinstance (aa_cons (ae_var 0) (aa_cons (ae_ty T.b_str boot_str) aa_nil))) (ae_and (ae_cmp (or_eq hr.units) (ae_callB cr_len T.b_len boot_len (aa_cons (ae_var 0) aa_nil)) ae_int (nomark _)) (ae_one (ae_cmp (or_in1 hr.u65) (ae_var 0) (ae_var 1) (by rfl))))))), ?_⟩
  rintro _ m Q ⟨c, z, rfl, q⟩
  walk_at "rd"
  simpa using Fz.now q
def sp_is_whole : SpD := fun ds m Q => ∃ i, ds = [.int i] ∧ Q (.bl true) m
theorem F_is_whole_kinds (T : Txt K w mg) : FnD P w K mg base "is_whole_kinds" 1 sp_is_whole := by
  have nd := sc_is_whole_kinds.nd
  refine fnd_ofN T.d_is_whole_kinds sc_is_whole_kinds (fun ds m Q ⟨x, e, _⟩ => by rw [e]; rfl) fun f cdv A outer s H E hr => ⟨_, (ass_one (as_ret (ae_and (ae_callB cr_isi T.b_isinstance boot_isinstance (aa_cons (ae_var 0) (aa_cons (ae_ty T.b_int boot_int) aa_nil))) (ae_one (ae_not (ae_callB cr_isi T.b_isinstance boot_isinstance (aa_cons (ae_var 0) (aa_cons (ae_ty T.b_bool boot_bool) aa_nil)))))))), ?_⟩
  rintro _ m Q ⟨c, rfl, q⟩
  walk_at "rd"
  exact Fz.now q
def sp_is_arm : SpD := fun ds m Q => (∃ i, ds = [.int i, .str "n"] ∧ (-99 ≤ i ∧ i ≤ 99) ∧ Q (.bl true) m) ∨ (∃ b, ds = [.bl b, .str "t"] ∧ Q (.bl true) m) ∨ (∃ c, ds = [.str (sg c), .str "c"] ∧ cellC c ∧ Q (.bl true) m) ∨ ∃ c, ds = [.str (sg c), .str "d"] ∧ deedC c ∧ Q (.bl true) m
theorem F_is_arm (T : Txt K w mg) : FnD P w K mg base "is_arm" 2 sp_is_arm := by
  have nd := sc_is_arm.nd
  refine fnd_ofZ T.d_is_arm sc_is_arm (fun ds m Q h => by rcases h with ⟨x, e, _⟩ | ⟨x, e, _⟩ | ⟨x, e, _⟩ | ⟨x, e, _⟩ <;> rw [e] <;> rfl) fun f cdv A outer s H E hr => ⟨_, (ass_cons (as_if (at_cmp (or_eq hr.units) (ae_var 1) ae_str (nomark _)) (ass_one (as_ret (ae_and (ae_call ((F_is_whole_kinds T).mono (by omega)) hr (aa_cons (ae_var 0) aa_nil)) (ae_one (ae_chain or_le or_le (ae_neg (ae_glo T.c_MOST_WRITTEN)) (ae_var 0) (ae_glo T.c_MOST_WRITTEN)))))) ass_nil)
      (ass_cons (as_if (at_cmp (or_eq hr.units) (ae_var 1) ae_str (nomark _)) (ass_one (as_ret (ae_callB cr_isi T.b_isinstance boot_isinstance (aa_cons (ae_var 0) (aa_cons (ae_ty T.b_bool boot_bool) aa_nil))))) ass_nil)
      (ass_one (as_ret (ae_call ((F_is_letter T).mono (by omega)) hr (aa_cons (ae_var 0) (aa_cons (ae_if (at_cmp (or_eq hr.units) (ae_var 1) ae_str (nomark _)) (ae_glo T.c_CELLS) (ae_glo T.c_DEEDS)) aa_nil))))))), ?_⟩
  rintro _ m Q (⟨c, rfl, h, q⟩ | ⟨c, rfl, q⟩ | ⟨c, rfl, h, q⟩ | ⟨c, rfl, h, q⟩)
  · walk_at "rd"
    refine ⟨c, rfl, true, rfl, ?_⟩
    rw [if_pos rfl, if_pos h.1, decide_eq_true h.2]
    exact Fz.now q
  · walk_at "rd"
    exact Fz.now q
  · walk_at "rd"
    refine ⟨c, _, rfl, ?_⟩
    rw [cps_cells, decide_eq_true (show c ∈ _ from h)]
    exact Fz.now q
  · walk_at "rd"
    refine ⟨c, _, rfl, ?_⟩
    rw [cps_deeds, decide_eq_true (show c ∈ _ from h)]
    exact Fz.now q
/-! ### words -/
theorem arms_un (w : W1) : getS kt_ARMS w.s = some (.str "x") := by cases w <;> kernel_rfl
theorem arms_bin (w : W2) : getS kt_ARMS w.s = some (.str "xx") := by cases w <;> kernel_rfl
theorem arms_num : getS kt_ARMS "number" = some (.str "n") := by kernel_rfl
theorem arms_tru : getS kt_ARMS "truth" = some (.str "t") := by kernel_rfl
theorem arms_emp : getS kt_ARMS "empty" = some (.str "") := by kernel_rfl
theorem arms_arg : getS kt_ARMS "argument" = some (.str "") := by kernel_rfl
theorem arms_cel : getS kt_ARMS "cell" = some (.str "c") := by kernel_rfl
theorem arms_set : getS kt_ARMS "set" = some (.str "cx") := by kernel_rfl
theorem arms_cal : getS kt_ARMS "call" = some (.str "dx") := by kernel_rfl
theorem arms_ite : getS kt_ARMS "if" = some (.str "xxx") := by kernel_rfl
theorem zs_n {a : D} : zipS [a] "n" = [.tup [a, .str "n"]] := by kernel_rfl
theorem zs_t {a : D} : zipS [a] "t" = [.tup [a, .str "t"]] := by kernel_rfl
theorem zs_e : zipS [] "" = [] := by kernel_rfl
theorem zs_c {a : D} : zipS [a] "c" = [.tup [a, .str "c"]] := by kernel_rfl
theorem zs_x {a : D} : zipS [a] "x" = [.tup [a, .str "x"]] := by kernel_rfl
theorem zs_xx {a b : D} : zipS [a, b] "xx" = [.tup [a, .str "x"], .tup [b, .str "x"]] := by kernel_rfl
theorem zs_xxx {a b c : D} : zipS [a, b, c] "xxx" = [.tup [a, .str "x"], .tup [b, .str "x"], .tup [c, .str "x"]] := by kernel_rfl
theorem zs_cx {a b : D} : zipS [a, b] "cx" = [.tup [a, .str "c"], .tup [b, .str "x"]] := by kernel_rfl
theorem zs_dx {a b : D} : zipS [a, b] "dx" = [.tup [a, .str "d"], .tup [b, .str "x"]] := by kernel_rfl
theorem len_n : ("n" : Str).length = 1 := by kernel_rfl
theorem len_t : ("t" : Str).length = 1 := by kernel_rfl
theorem len_e : ("" : Str).length = 0 := by kernel_rfl
theorem len_c : ("c" : Str).length = 1 := by kernel_rfl
theorem len_x : ("x" : Str).length = 1 := by kernel_rfl
theorem len_xx : ("xx" : Str).length = 2 := by kernel_rfl
theorem len_xxx : ("xxx" : Str).length = 3 := by kernel_rfl
theorem len_cx : ("cx" : Str).length = 2 := by kernel_rfl
theorem len_dx : ("dx" : Str).length = 2 := by kernel_rfl
local macro_rules | `(tactic| walk_at "rw") => `(tactic| simp only [ arms_un, arms_bin, arms_num, arms_tru, arms_emp, arms_arg, arms_cel, arms_set, arms_cal, arms_ite, zs_n, zs_t, zs_e, zs_c, zs_x, zs_xx, zs_xxx, zs_cx, zs_dx, len_n, len_t, len_e, len_c, len_x, len_xx, len_xxx, len_cx, len_dx, aRet, aRetN, aDrop, aIfS, aSeq, aNext, aAsg, gNm, gTupD, gConsD, gNilD, aFor, ex_var0, ex_varS, aC, aOp, aCall, aCons, aNil, aTup, aLst, aB, aAnd, aOr, aNot, aAndV, aOrV, aNotV, aIf, aNeg, aChain, aKix, aKGet1, aKGet2, aDGet1, aDGet2, aNoPart, aPart, aSl, aList, aTupI, aStrI, aZipS, aYes, aLc, aNever, aBreak, aCont, forGo, lcGo,
  isi_str_str, isi_str_int, isi_str_bool, isi_str_tuple, isi_str_list, isi_int_str, isi_int_int, isi_int_bool, isi_int_tuple, isi_int_list, isi_bl_str, isi_bl_int, isi_bl_bool, isi_bl_tuple, isi_bl_list, isi_non_str, isi_non_int, isi_non_bool, isi_non_tuple, isi_non_list, isi_tup_str, isi_tup_int, isi_tup_bool, isi_tup_tuple, isi_tup_list, isi_lst_str, isi_lst_int, isi_lst_bool, isi_lst_tuple, isi_lst_list, isi_dct_str, isi_dct_int, isi_dct_bool, isi_dct_tuple, isi_dct_list, isi2_str, isi2_int, isi2_bl, isi2_non, isi2_tup, isi2_lst, isi2_dct, Option.getD_some, Option.getD_none, D.isNon, sz_0, sz_1, sz_2, sz_3, sz_4, sz_5, sz_6, sz_7, sz_8, sz_9, sz_10, sz_11, sz_12, sz_13, sz_14, sz_15, sz_16, sg_len, ex_in_sg, ex_len_str, ex_len_tup, ex_len_lst, ex_eq_str, ex_ne_str, ex_eq_int, ex_ne_int, ex_eq_ns, ex_eq_sn, ex_eq_nn, ex_ne_ns, ex_ne_sn, ex_ne_nn, ex_I, ex_add_int, ex_add_str, ex_add_tup, ex_add_lst, ex_sub, ex_mul, ex_mod, ex_div, ex_isN, ex_notN, ex_ix_tup, ex_ix_lst, ex_sl_tup, ex_sl_lst, ex_sl_str, ex_tuple_lst,
  ofs_inj, String.reduceEq, atI_0, atI_1, atI_2, atI_3, cut_1, cut_13, startD, wipeD, List.map_cons, List.map_nil, List.length_cons, List.length_nil, List.cons_append, List.nil_append, List.replicate_succ, List.replicate_zero, List.set_cons_zero, List.set_cons_succ, Nat.reduceAdd, Nat.reduceSub, Nat.sub_self,
  D.bl.injEq, D.int.injEq, D.str.injEq, D.tup.injEq, D.lst.injEq, D.dct.injEq, Option.some.injEq, List.cons.injEq, and_assoc, Int.cast_ofNat_Int, Int.reduceAdd, Int.reduceSub, Int.reduceMul, Int.reduceNeg, Int.reduceEq, Int.reduceLT, Int.reduceLE, Int.reduceNe, eq_self, exists_eq_left, exists_eq_left', exists_eq_right, exists_eq, exists_const, exists_false, false_and, and_false, false_or, or_false, true_and, and_true, if_true, if_false, Bool.false_eq_true, Bool.not_true, Bool.not_false, ite_true, ite_false, reduceCtorEq, decide_true, decide_false, decide_eq_true_eq, exists_and_left, Bool.not_eq_true])

def sp_words (n : Nat) : SpD := fun ds m Q => ∃ (b : Bd) (k : Int), ds = [b.enc, .int k] ∧ b.wf ∧ b.dep ≤ n ∧ 0 ≤ k ∧ k + b.dep ≤ 10 ∧ Q (.int b.words) m
theorem F_words_in (T : Txt K w mg) : ∀ n : Nat, FnD P w K mg base "words_in" (n + 3) (sp_words n)
  | 0 => fnd_never T.d_words_in sc_words_in fun ds m Q ⟨b, k, _, _, h, _⟩ => by have := b.dep_pos; omega
  | n + 1 => by
    have nd := sc_words_in.nd
    have F := F_words_in T n
    refine fnd_ofZ T.d_words_in sc_words_in (fun ds m Q ⟨x, z, e, _⟩ => by rw [e]; rfl) fun f cdv A outer s H E hr => ⟨_, (ass_cons (as_if (AW.t (aw_or (at_not (at_val (ae_callB cr_isi T.b_isinstance boot_isinstance (aa_cons (ae_var 0) (aa_cons (ae_ty T.b_tuple boot_tuple) aa_nil))))) (aw_or (at_cmp (or_eq hr.units) (ae_var 0) (ae_tup aa_nil) (nomark _)) (aw_or (at_not (at_val (ae_callB cr_isi T.b_isinstance boot_isinstance (aa_cons (ae_ix hr.u1 (ae_var 0) ae_int) (aa_cons (ae_ty T.b_str boot_str) aa_nil))))) (aw_or1 (at_cmp or_gt (ae_var 1) (ae_glo T.c_MOST_WITHIN_bodies) (nomark _))))))) (ass_one (as_ret (ae_op or_add (ae_glo T.c_MOST_WORDS) ae_int))) ass_nil)
      (ass_cons (as_asg (ae_kget1 hr.u1 T.t_ARMS (ae_ix hr.u1 (ae_var 0) ae_int)) (ag_name 2 nd))
      (ass_cons (as_if (AW.t (aw_or (at_cmp or_isN (ae_var 2) ae_non (nomark _)) (aw_or1 (at_cmp (or_ne hr.units) (ae_callB cr_len T.b_len boot_len (aa_cons (ae_var 0) aa_nil)) (ae_op or_add (ae_callB cr_len T.b_len boot_len (aa_cons (ae_var 2) aa_nil)) ae_int) (nomark _))))) (ass_one (as_ret (ae_op or_add (ae_glo T.c_MOST_WORDS) ae_int))) ass_nil)
      (ass_cons (as_asg ae_int (ag_name 3 nd))
      (ass_cons (as_for PassesOwn.never rfl (ai_zipTS T.b_zip (aa_cons (ae_sl (ae_var 0) (ao_some ae_int) ao_none) (aa_cons (ae_var 2) aa_nil))) (ag_tup (n := 2) rfl (ags_cons (ag_name 4 nd) (ags_cons (ag_name 5 nd) ags_nil)))
      (ass_one (as_if (at_cmp (or_eq hr.units) (ae_var 5) ae_str (nomark _)) (ass_one (as_asg (ae_op or_add (ae_var 3) (ae_call (F.mono (by omega)) hr (aa_cons (ae_var 4) (aa_cons (ae_op or_add (ae_var 1) ae_int) aa_nil)))) (ag_name 3 nd))) (ass_one (as_if (at_not (at_val (ae_call ((F_is_arm T).mono (by omega)) hr (aa_cons (ae_var 4) (aa_cons (ae_var 5) aa_nil))))) (ass_one (as_ret (ae_op or_add (ae_glo T.c_MOST_WORDS) ae_int))) ass_nil)))))
      (ass_one (as_ret (ae_var 3)))))))), ?_⟩
    rintro _ m Q ⟨b, k, rfl, hw, hd, hk, hk2, q⟩
    have e1 : ∀ R, rhoEq b.enc (.tup []) m R = R (.bl false) m := by
      have ob := (b.okD hw).eq (by have := b.dep_pos; omega)
      obtain ⟨x, ds, e⟩ := b.tup
      intro R
      have r : rsv m b.enc = b.enc := by rw [e]; rfl
      exact ex_eq_of (by rw [r]; exact ob) ok_nil (by rw [r]; exact b.ne_nil)
    have k9 : (9 < k) = False := eq_false (by have := b.dep_pos; omega)
    have call : ∀ (a : Bd) (R : EK), a.wf → a.dep + 1 ≤ b.dep → R (.int a.words) m → sp_words n [a.enc, .int (k + 1)] m R := fun a R h1 h2 q => ⟨a, k + 1, rfl, h1, by omega, by omega, by omega, q⟩
    cases b with
    | num i =>
      simp only [Bd.enc] at e1 ⊢
      walk_at "rw"
      simp only [e1, k9]
      walk_at "rw"
      exact .inl ⟨i, rfl, hw, true, rfl, Fz.now q⟩
    | tru i =>
      simp only [Bd.enc] at e1 ⊢
      walk_at "rw"
      simp only [e1, k9]
      walk_at "rw"
      exact .inr (.inl ⟨i, rfl, true, rfl, Fz.now q⟩)
    | emp =>
      simp only [Bd.enc] at e1 ⊢
      walk_at "rw"
      simp only [e1, k9]
      walk_at "rw"
      exact Fz.now q
    | arg =>
      simp only [Bd.enc] at e1 ⊢
      walk_at "rw"
      simp only [e1, k9]
      walk_at "rw"
      exact Fz.now q
    | cel c =>
      simp only [Bd.enc] at e1 ⊢
      walk_at "rw"
      simp only [e1, k9]
      walk_at "rw"
      exact .inr (.inr (.inl ⟨c, rfl, hw, true, rfl, Fz.now q⟩))
    | un wd a =>
      simp only [Bd.enc] at e1 ⊢
      walk_at "rw"
      simp only [e1, k9]
      walk_at "rw"
      refine call a _ hw (by simp [Bd.dep]) ?_
      walk_at "rw"
      exact Fz.now (by simpa [Bd.words] using q)
    | bin wd a b =>
      simp only [Bd.enc] at e1 ⊢
      walk_at "rw"
      simp only [e1, k9]
      walk_at "rw"
      refine call a _ hw.1 (by simp [Bd.dep]; omega) ?_
      walk_at "rw"
      refine call b _ hw.2 (by simp [Bd.dep]; omega) ?_
      walk_at "rw"
      exact Fz.now (by simpa [Bd.words] using q)
    | ite a b c =>
      simp only [Bd.enc] at e1 ⊢
      walk_at "rw"
      simp only [e1, k9]
      walk_at "rw"
      refine call a _ hw.1 (by simp [Bd.dep]; omega) ?_
      walk_at "rw"
      refine call b _ hw.2.1 (by simp [Bd.dep]; omega) ?_
      walk_at "rw"
      refine call c _ hw.2.2 (by simp [Bd.dep]; omega) ?_
      walk_at "rw"
      exact Fz.now (by simpa [Bd.words] using q)
    | set c a =>
      simp only [Bd.enc] at e1 ⊢
      walk_at "rw"
      simp only [e1, k9]
      walk_at "rw"
      refine .inr (.inr (.inl ⟨c, rfl, hw.1, true, rfl, ?_⟩))
      walk_at "rw"
      refine call a _ hw.2 (by simp [Bd.dep]) ?_
      walk_at "rw"
      exact Fz.now (by simpa [Bd.words] using q)
    | cal c a =>
      simp only [Bd.enc] at e1 ⊢
      walk_at "rw"
      simp only [e1, k9]
      walk_at "rw"
      refine .inr (.inr (.inr ⟨c, rfl, hw.1, true, rfl, ?_⟩))
      walk_at "rw"
      refine call a _ hw.2 (by simp [Bd.dep]) ?_
      walk_at "rw"
      exact Fz.now (by simpa [Bd.words] using q)
end K16
/-! L17: words, texts of words. -/
namespace L3
open PySem PySem.Spec PyProof.Rows L2
theorem str_ext {a b : Str} (h : a.cps.toList = b.cps.toList) : a = b := TL.ext_tl h
theorem tl_app (a b : Str) : (a ++ b).cps.toList = a.cps.toList ++ b.cps.toList := TL.tl_append a b
theorem len_tl (a : Str) : a.length = a.cps.toList.length := by simp [Str.length]
theorem len_app (a b : Str) : (a ++ b).length = a.length + b.length := by simp only [len_tl, tl_app, List.length_append]
theorem app_assoc (a b c : Str) : a ++ b ++ c = a ++ (b ++ c) := str_ext (by simp only [tl_app, List.append_assoc])
/-- joined by blanks, by ends of rows -/
def J (ys : List Str) : Str := Txt.join " " ys
def JN (ys : List Str) : Str := Txt.join "\n" ys
theorem joinTxt_cons {s z : Str} {xs : List Str} (h : xs ≠ []) : Txt.join s (z :: xs) = z ++ (s ++ Txt.join s xs) := by
  cases xs with
  | nil => exact absurd rfl h
  | cons y r =>
    apply str_ext
    have e1 := TL.tl_join s (z :: y :: r)
    have e2 := TL.tl_join s (y :: r)
    rw [← TL.join_eq] at e1 e2
    show TL.tl _ = _
    rw [e1, tl_app, tl_app]
    show _ = _ ++ (_ ++ TL.tl _)
    rw [e2]
    rfl
theorem joinTxt_one {s z : Str} : Txt.join s [z] = z := by rw [TL.join_eq]; rfl
theorem joinTxt_nil {s : Str} : Txt.join s [] = Str.empty := by rw [TL.join_eq]; rfl
theorem J_one {z : Str} : J [z] = z := joinTxt_one
theorem J_cons {z : Str} {xs : List Str} (h : xs ≠ []) : J (z :: xs) = z ++ (" " ++ J xs) := joinTxt_cons h
theorem J_app {ys : List Str} (hy : ys ≠ []) : ∀ {xs : List Str}, xs ≠ [] → J (xs ++ ys) = J xs ++ (" " ++ J ys)
  | [], h => absurd rfl h
  | [x], _ => by rw [J_one]; exact J_cons hy
  | x :: y :: r, _ => by
    rw [List.cons_append, J_cons (by simp), J_app hy (xs := y :: r) (by simp), J_cons (xs := y :: r) (by simp), app_assoc, app_assoc]
/-- the length of some words with a blank behind each -/
def tw (ys : List Str) : Nat := (ys.map (·.length)).sum + ys.length
theorem tw_nil : tw [] = 0 := rfl
theorem tw_cons {y : Str} {ys : List Str} : tw (y :: ys) = y.length + 1 + tw ys := by simp only [tw, List.map_cons, List.sum_cons, List.length_cons]; omega
theorem tw_app (xs : List Str) {ys : List Str} : tw (xs ++ ys) = tw xs + tw ys := by simp only [tw, List.map_append, List.sum_append_nat, List.length_append]; omega
theorem join_len {s : Str} (h1 : s.length = 1) : ∀ ys : List Str, (Txt.join s ys).length ≤ tw ys
  | [] => by rw [joinTxt_nil]; exact Nat.zero_le _
  | [z] => by rw [joinTxt_one, tw_cons]; omega
  | z :: y :: r => by
    rw [joinTxt_cons (by simp), len_app, len_app, tw_cons]
    have := join_len h1 (y :: r)
    omega
theorem J_len (ys : List Str) : (J ys).length ≤ tw ys := join_len (by decide +kernel) ys
theorem JN_len (ys : List Str) : (JN ys).length ≤ tw ys := join_len (by decide +kernel) ys
/-- no blank, no end of a row -/
def isW (z : Str) : Prop := 32 ∉ z.cps.toList ∧ 10 ∉ z.cps.toList
instance (z : Str) : Decidable (isW z) := by unfold isW; infer_instance
theorem isW_sg {c : Nat} (h : 32 < c) : isW (sg c) := ⟨by simp [sg]; omega, by simp [sg]; omega⟩
theorem J_split {ys : List Str} (h : ys ≠ []) (hw : ∀ y ∈ ys, isW y) : Txt.split (J ys) " " = ys := TL.split_join (s := 32) (S := []) (by decide +kernel) (by decide +kernel) h fun p hp => (hw p hp).1
theorem JN_split {ys : List Str} (h : ys ≠ []) (hw : ∀ y ∈ ys, 10 ∉ y.cps.toList) : Txt.split (JN ys) "\n" = ys := TL.split_join (s := 10) (S := []) (by decide +kernel) (by decide +kernel) h fun p hp => hw p hp
theorem J_no10 : ∀ {ys : List Str}, (∀ y ∈ ys, isW y) → 10 ∉ (J ys).cps.toList
  | [], _ => by rw [show J [] = Str.empty from joinTxt_nil]; simp [Str.empty]
  | [z], h => by rw [J_one]; exact (h z (by simp)).2
  | z :: y :: r, h => by
    rw [J_cons (by simp), tl_app, tl_app]
    simp only [List.mem_append, not_or]
    exact ⟨(h z (by simp)).2, by decide +kernel, J_no10 fun x hx => h x (by simp [hx])⟩
/-! ### the words of a body -/
/-- a whole number's text -/
def ist (i : Int) : Str := (toString i : String)
def Bd.ws : Bd → List Str
  | .num i => ["number", ist i]
  | .tru b => ["truth", if b then "True" else "False"]
  | .emp => ["empty"]
  | .arg => ["argument"]
  | .cel c => ["cell", sg c]
  | .un w a => w.s :: a.ws
  | .bin w a b => w.s :: (a.ws ++ b.ws)
  | .ite a b c => "if" :: (a.ws ++ (b.ws ++ c.ws))
  | .set c a => "set" :: sg c :: a.ws
  | .cal d a => "call" :: sg d :: a.ws
theorem Bd.ws_ne (b : Bd) : b.ws ≠ [] := by cases b <;> simp [Bd.ws]
/-- numbers told -/
def numB (i : Int) : Bool :=
  let z := ist i
  let f : Str := if cutS z none (some 1) = ("-" : Str) then cutS z (some 1) none else z
  decide (isW z) && decide (z.length ≤ 3) && decide (1 ≤ f.length) && decide (f.length ≤ 3) && f.cps.toList.all (fun c => decide (c ∈ ("0123456789" : Str).cps.toList)) &&
    decide (f.cps.toList[0]? = some 48 → z = ("0" : Str)) && decide (PySem.intText? z = some i)
theorem numB_ok {i : Int} (h : -99 ≤ i) (h2 : i ≤ 99) : numB i = true := by
  have k : ∀ n : Nat, n < 199 → numB ((n : Int) - 99) = true := by decide +kernel
  have := k (i + 99).toNat (by omega)
  rwa [show (((i + 99).toNat : Nat) : Int) - 99 = i by omega] at this
structure NumOk (i : Int) (f : Str) : Prop where
  w : isW (ist i)
  l : (ist i).length ≤ 3
  fe : f = if cutS (ist i) none (some 1) = ("-" : Str) then cutS (ist i) (some 1) none else ist i
  l1 : 1 ≤ f.length
  l3 : f.length ≤ 3
  d : ∀ c ∈ f.cps.toList, c ∈ ("0123456789" : Str).cps.toList
  z : f.cps.toList[0]? = some 48 → ist i = ("0" : Str)
  t : PySem.intText? (ist i) = some i
theorem num_ok {i : Int} (h : -99 ≤ i) (h2 : i ≤ 99) : ∃ f, NumOk i f := by
  have := numB_ok h h2
  simp only [numB, Bool.and_eq_true, decide_eq_true_eq, List.all_eq_true] at this
  obtain ⟨⟨⟨⟨⟨⟨a, b⟩, c⟩, d⟩, e⟩, f⟩, g⟩ := this
  exact ⟨_, a, b, rfl, c, d, fun x hx => by have := e x hx; simpa using this, f, g⟩
theorem W1.isW (w : W1) : L3.isW w.s := by cases w <;> decide +kernel
theorem W2.isW (w : W2) : L3.isW w.s := by cases w <;> decide +kernel
theorem W1.len (w : W1) : w.s.length ≤ 5 := by cases w <;> decide +kernel
theorem W2.len (w : W2) : w.s.length ≤ 5 := by cases w <;> decide +kernel
theorem cellC.isW {c : Nat} (h : cellC c) : isW (sg c) := isW_sg (by unfold cellC at h; simp at h; omega)
theorem deedC.isW {c : Nat} (h : deedC c) : isW (sg c) := isW_sg (by unfold deedC at h; simp at h; omega)
theorem partC.isW {c : Nat} (h : partC c) : isW (sg c) := isW_sg (by unfold partC at h; simp at h; omega)
theorem Bd.ws_isW : ∀ {b : Bd}, b.wf → ∀ y ∈ b.ws, isW y
  | .num i, h, y, hy => by
    simp only [Bd.ws, List.mem_cons, List.not_mem_nil, or_false] at hy
    rcases hy with rfl | rfl
    · decide +kernel
    · obtain ⟨f, hf⟩ := num_ok h.1 h.2
      exact hf.w
  | .tru b, h, y, hy => by
    simp only [Bd.ws, List.mem_cons, List.not_mem_nil, or_false] at hy
    rcases hy with rfl | rfl
    · decide +kernel
    · cases b <;> decide +kernel
  | .emp, h, y, hy => by
    simp only [Bd.ws, List.mem_cons, List.not_mem_nil, or_false] at hy
    subst hy
    decide +kernel
  | .arg, h, y, hy => by
    simp only [Bd.ws, List.mem_cons, List.not_mem_nil, or_false] at hy
    subst hy
    decide +kernel
  | .cel c, h, y, hy => by
    simp only [Bd.ws, List.mem_cons, List.not_mem_nil, or_false] at hy
    rcases hy with rfl | rfl
    · decide +kernel
    · exact cellC.isW h
  | .un w a, h, y, hy => by
    rcases List.mem_cons.mp hy with rfl | hy
    · exact w.isW
    · exact Bd.ws_isW (b := a) h y hy
  | .bin w a b, h, y, hy => by
    rcases List.mem_cons.mp hy with rfl | hy
    · exact w.isW
    rcases List.mem_append.mp hy with hy | hy
    · exact Bd.ws_isW (b := a) h.1 y hy
    · exact Bd.ws_isW (b := b) h.2 y hy
  | .ite a b c, h, y, hy => by
    rcases List.mem_cons.mp hy with rfl | hy
    · decide +kernel
    rcases List.mem_append.mp hy with hy | hy
    · exact Bd.ws_isW (b := a) h.1 y hy
    rcases List.mem_append.mp hy with hy | hy
    · exact Bd.ws_isW (b := b) h.2.1 y hy
    · exact Bd.ws_isW (b := c) h.2.2 y hy
  | .set c a, h, y, hy => by
    rcases List.mem_cons.mp hy with rfl | hy
    · decide +kernel
    rcases List.mem_cons.mp hy with rfl | hy
    · exact cellC.isW h.1
    · exact Bd.ws_isW (b := a) h.2 y hy
  | .cal c a, h, y, hy => by
    rcases List.mem_cons.mp hy with rfl | hy
    · decide +kernel
    rcases List.mem_cons.mp hy with rfl | hy
    · exact deedC.isW h.1
    · exact Bd.ws_isW (b := a) h.2 y hy
theorem sg_len1 {c : Nat} : (sg c).length = 1 := rfl
theorem Bd.tw_ws : ∀ {b : Bd}, b.wf → tw b.ws ≤ 20 * b.words
  | .num i, h => by
    obtain ⟨f, hf⟩ := num_ok h.1 h.2
    have := hf.l
    simp only [Bd.ws, tw_cons, tw_nil, Bd.words, show ("number" : Str).length = 6 by decide +kernel]
    omega
  | .tru b, h => by cases b <;> decide +kernel
  | .emp, h => by decide +kernel
  | .arg, h => by decide +kernel
  | .cel c, h => by
    simp only [Bd.ws, tw_cons, tw_nil, Bd.words, sg_len1, show ("cell" : Str).length = 4 by decide +kernel]
    omega
  | .un w a, h => by
    have := w.len
    have := Bd.tw_ws (b := a) h
    simp only [Bd.ws, tw_cons, tw_nil, Bd.words]
    omega
  | .bin w a b, h => by
    have := w.len
    have := Bd.tw_ws (b := a) h.1
    have := Bd.tw_ws (b := b) h.2
    simp only [Bd.ws, tw_cons, tw_app, tw_nil, Bd.words]
    omega
  | .ite a b c, h => by
    have := Bd.tw_ws (b := a) h.1
    have := Bd.tw_ws (b := b) h.2.1
    have := Bd.tw_ws (b := c) h.2.2
    simp only [Bd.ws, tw_cons, tw_app, tw_nil, Bd.words, show ("if" : Str).length = 2 by decide +kernel]
    omega
  | .set c a, h => by
    have := Bd.tw_ws (b := a) h.2
    simp only [Bd.ws, tw_cons, tw_app, tw_nil, Bd.words, sg_len1, show ("set" : Str).length = 3 by decide +kernel]
    omega
  | .cal c a, h => by
    have := Bd.tw_ws (b := a) h.2
    simp only [Bd.ws, tw_cons, tw_app, tw_nil, Bd.words, sg_len1, show ("call" : Str).length = 4 by decide +kernel]
    omega
theorem Bd.ws_len : ∀ (b : Bd), b.ws.length ≤ 2 * b.words
  | .num i => by simp [Bd.ws, Bd.words]
  | .tru b => by simp [Bd.ws, Bd.words]
  | .emp => by simp [Bd.ws, Bd.words]
  | .arg => by simp [Bd.ws, Bd.words]
  | .cel c => by simp [Bd.ws, Bd.words]
  | .un w a => by have := Bd.ws_len a; simp [Bd.ws, Bd.words]; omega
  | .bin w a b => by have := Bd.ws_len a; have := Bd.ws_len b; simp [Bd.ws, Bd.words]; omega
  | .ite a b c => by have := Bd.ws_len a; have := Bd.ws_len b; have := Bd.ws_len c; simp [Bd.ws, Bd.words]; omega
  | .set c a => by have := Bd.ws_len a; simp [Bd.ws, Bd.words]; omega
  | .cal c a => by have := Bd.ws_len a; simp [Bd.ws, Bd.words]; omega
/-! ### the words of a tree -/
def Tr.ws : Tr → List Str
  | .part p => ["part", sg p]
  | .wth a b => "with" :: (a.ws ++ b.ws)
  | .wout a d => "without" :: (a.ws ++ [sg d])
  | .also a d n => "also" :: (a.ws ++ [sg d, sg n])
  | .ren a d n => "renamed" :: (a.ws ++ [sg d, sg n])
  | .over a p => "over" :: (a.ws ++ [sg p])
theorem Tr.ws_ne (b : Tr) : b.ws ≠ [] := by cases b <;> simp [Tr.ws]
theorem Tr.ws_isW {ns : List Nat} (hn : ∀ n ∈ ns, 32 < n) : ∀ {b : Tr}, b.wf ns → ∀ y ∈ b.ws, isW y
  | .part p, h, y, hy => by
    simp only [Tr.ws, List.mem_cons, List.not_mem_nil, or_false] at hy
    rcases hy with rfl | rfl
    · decide +kernel
    · exact isW_sg (hn _ h)
  | .wth a b, h, y, hy => by
    rcases List.mem_cons.mp hy with rfl | hy
    · decide +kernel
    rcases List.mem_append.mp hy with hy | hy
    · exact Tr.ws_isW hn (b := a) h.1 y hy
    · exact Tr.ws_isW hn (b := b) h.2 y hy
  | .wout a d, h, y, hy => by
    simp only [Tr.ws, List.mem_cons, List.mem_append, List.not_mem_nil, or_false] at hy
    rcases hy with rfl | hy | rfl
    · decide +kernel
    · exact Tr.ws_isW hn (b := a) h.1 y hy
    · exact deedC.isW h.2
  | .also a d n, h, y, hy => by
    simp only [Tr.ws, List.mem_cons, List.mem_append, List.not_mem_nil, or_false] at hy
    rcases hy with rfl | hy | rfl | rfl
    · decide +kernel
    · exact Tr.ws_isW hn (b := a) h.1 y hy
    · exact deedC.isW h.2.1
    · exact deedC.isW h.2.2
  | .ren a d n, h, y, hy => by
    simp only [Tr.ws, List.mem_cons, List.mem_append, List.not_mem_nil, or_false] at hy
    rcases hy with rfl | hy | rfl | rfl
    · decide +kernel
    · exact Tr.ws_isW hn (b := a) h.1 y hy
    · exact deedC.isW h.2.1
    · exact deedC.isW h.2.2
  | .over a p, h, y, hy => by
    simp only [Tr.ws, List.mem_cons, List.mem_append, List.not_mem_nil, or_false] at hy
    rcases hy with rfl | hy | rfl
    · decide +kernel
    · exact Tr.ws_isW hn (b := a) h.1 y hy
    · exact isW_sg (hn _ h.2)
theorem Tr.tw_ws : ∀ (b : Tr), tw b.ws ≤ 20 * b.size
  | .part p => by simp only [Tr.ws, tw_cons, tw_nil, Tr.size, sg_len1, show ("part" : Str).length = 4 by decide +kernel]; omega
  | .wth a b => by have := Tr.tw_ws a; have := Tr.tw_ws b; simp only [Tr.ws, tw_cons, tw_app, tw_nil, Tr.size, sg_len1, show ("with" : Str).length = 4 by decide +kernel]; omega
  | .wout a d => by have := Tr.tw_ws a; simp only [Tr.ws, tw_cons, tw_app, tw_nil, Tr.size, sg_len1, show ("without" : Str).length = 7 by decide +kernel]; omega
  | .also a d n => by have := Tr.tw_ws a; simp only [Tr.ws, tw_cons, tw_app, tw_nil, Tr.size, sg_len1, show ("also" : Str).length = 4 by decide +kernel]; omega
  | .ren a d n => by have := Tr.tw_ws a; simp only [Tr.ws, tw_cons, tw_app, tw_nil, Tr.size, sg_len1, show ("renamed" : Str).length = 7 by decide +kernel]; omega
  | .over a p => by have := Tr.tw_ws a; simp only [Tr.ws, tw_cons, tw_app, tw_nil, Tr.size, sg_len1, show ("over" : Str).length = 4 by decide +kernel]; omega
theorem Tr.ws_len : ∀ (b : Tr), b.ws.length ≤ 4 * b.size
  | .part p => by simp [Tr.ws, Tr.size]
  | .wth a b => by have := Tr.ws_len a; have := Tr.ws_len b; simp [Tr.ws, Tr.size]; omega
  | .wout a d => by have := Tr.ws_len a; simp [Tr.ws, Tr.size]; omega
  | .also a d n => by have := Tr.ws_len a; simp [Tr.ws, Tr.size]; omega
  | .ren a d n => by have := Tr.ws_len a; simp [Tr.ws, Tr.size]; omega
  | .over a p => by have := Tr.ws_len a; simp [Tr.ws, Tr.size]; omega
/-! ### the rows of a part -/
def dedW (d : Deed) : List Str := "deed" :: sg d.c :: d.tk.s :: d.tl.s :: d.b.ws
def askW (a : Nat × Kd × Kd) : List Str := ["ask", sg a.1, a.2.1.s, a.2.2.s]
def celW (a : Nat × Kd) : List Str := ["cell", sg a.1, a.2.s]
def Part.rows (p : Part) : List Str := J ["part", sg p.nm] :: (p.ds.map (fun d => J (dedW d)) ++ p.as.map (fun a => J (askW a)) ++ p.cs.map fun c => J (celW c))
theorem lc_map {α : Type} (enc h : α → D) {g : AGt} {tt : ATt} {te : AEt} {δw : Dt} {Q : EK} {m : Mu} : ∀ {xs : List α} {acc : List D}, (∀ x ∈ xs, ∀ R : Option D → Mu → Prop, R (some (h x)) m → lcStep g tt te δw (enc x) m R) → Q (.lst (acc ++ xs.map h)) m → lcGo g tt te δw Q (xs.map enc) acc m
  | [], acc, _, q => by
    show Q (.lst acc) m
    simpa using q
  | x :: xs, acc, hs, q => by
    rw [List.map_cons, lcGo_cons]
    refine hs x List.mem_cons_self _ ?_
    refine lc_map enc h (xs := xs) (fun y hy => hs y (List.mem_cons_of_mem _ hy)) ?_
    simpa using q
theorem cut_03 {x y z : D} {xs : List D} : cutD (x :: y :: z :: xs) none (some 3) = [x, y, z] := by
  unfold cutD HT.sIx
  simp
theorem cut_02 {x y : D} : cutD [x, y] none (some 3) = [x, y] := by
  unfold cutD HT.sIx
  simp
/-! ### sizes -/
structure RowOk (z : Str) (n : Nat) : Prop where
  l : z.length ≤ n
  n : 10 ∉ z.cps.toList
theorem Kd.isW (k : Kd) : L3.isW k.s := by cases k <;> decide +kernel
theorem Kd.len (k : Kd) : k.s.length ≤ 6 := by cases k <;> decide +kernel
theorem dedW_isW {d : Deed} (h : deedC d.c) (hw : d.b.wf) : ∀ y ∈ dedW d, isW y := fun y hy => by
  simp only [dedW, List.mem_cons] at hy
  rcases hy with rfl | rfl | rfl | rfl | hy
  · decide +kernel
  · exact deedC.isW h
  · exact d.tk.isW
  · exact d.tl.isW
  · exact Bd.ws_isW hw y hy
theorem askW_isW {a : Nat × Kd × Kd} (h : deedC a.1) : ∀ y ∈ askW a, isW y := fun y hy => by
  simp only [askW, List.mem_cons, List.not_mem_nil, or_false] at hy
  rcases hy with rfl | rfl | rfl | rfl
  · decide +kernel
  · exact deedC.isW h
  · exact Kd.isW _
  · exact Kd.isW _
theorem celW_isW {a : Nat × Kd} (h : cellC a.1) : ∀ y ∈ celW a, isW y := fun y hy => by
  simp only [celW, List.mem_cons, List.not_mem_nil, or_false] at hy
  rcases hy with rfl | rfl | rfl
  · decide +kernel
  · exact cellC.isW h
  · exact Kd.isW _
theorem dedW_tw {d : Deed} (hw : d.b.wf) : tw (dedW d) ≤ 21 + 20 * d.b.words := by
  have := Bd.tw_ws hw
  have := d.tk.len
  have := d.tl.len
  simp only [dedW, tw_cons, sg_len1, show ("deed" : Str).length = 4 by decide +kernel]
  omega
theorem askW_tw {a : Nat × Kd × Kd} : tw (askW a) ≤ 30 := by
  have := a.2.1.len
  have := a.2.2.len
  simp only [askW, tw_cons, tw_nil, sg_len1, show ("ask" : Str).length = 3 by decide +kernel]
  omega
theorem celW_tw {a : Nat × Kd} : tw (celW a) ≤ 30 := by
  have := a.2.len
  simp only [celW, tw_cons, tw_nil, sg_len1, show ("cell" : Str).length = 4 by decide +kernel]
  omega
theorem tw_le {n : Nat} : ∀ {ys : List Str}, (∀ y ∈ ys, y.length ≤ n) → tw ys ≤ ys.length * (n + 1)
  | [], _ => by rw [tw_nil]; omega
  | y :: ys, h => by
    have := h y List.mem_cons_self
    have := tw_le (ys := ys) fun z hz => h z (List.mem_cons_of_mem _ hz)
    rw [tw_cons, List.length_cons, Nat.add_mul]
    omega
/-- all the rows of a right part -/
theorem Part.rows_ok {p : Part} (h : p.ok) : p.rows.length ≤ 30 ∧ ∀ y ∈ p.rows, y.length ≤ 2000 ∧ 10 ∉ y.cps.toList := by
  have h1 := h.dl
  have h2 := h.al
  have h3 := h.cl
  refine ⟨by simp only [Part.rows, List.length_cons, List.length_append, List.length_map]; omega, fun y hy => ?_⟩
  simp only [Part.rows, List.mem_cons, List.mem_append, List.mem_map] at hy
  rcases hy with rfl | (⟨d, hd, rfl⟩ | ⟨a, ha, rfl⟩) | ⟨c, hc, rfl⟩
  · refine ⟨?_, J_no10 fun y hy => ?_⟩
    · have := J_len ["part", sg p.nm]
      simp only [tw_cons, tw_nil, sg_len1, show ("part" : Str).length = 4 by decide +kernel] at this
      omega
    · simp only [List.mem_cons, List.not_mem_nil, or_false] at hy
      rcases hy with rfl | rfl
      · decide +kernel
      · exact partC.isW h.nm
  · have hd := h.dok d hd
    have := J_len (dedW d)
    have := dedW_tw hd.wf
    have := hd.words
    exact ⟨by omega, J_no10 (dedW_isW hd.c hd.wf)⟩
  · have := J_len (askW a)
    have := askW_tw (a := a)
    exact ⟨by omega, J_no10 (askW_isW (h.aok a ha))⟩
  · have := J_len (celW c)
    have := celW_tw (a := c)
    exact ⟨by omega, J_no10 (celW_isW (h.cok c hc))⟩
theorem Part.rows_tw {p : Part} (h : p.ok) : tw p.rows ≤ 100000 := by
  obtain ⟨h1, h2⟩ := Part.rows_ok h
  have := tw_le (n := 2000) fun y hy => (h2 y hy).1
  have := Nat.mul_le_mul_right 2001 h1
  omega
theorem putFD_len {f : Str} {d : D} : ∀ {fs : List (Str × D)}, (putFD f d fs).length ≤ fs.length + 1
  | [] => by simp [putFD]
  | (g, x) :: r => by
    unfold putFD
    by_cases h : g = f
    · rw [if_pos h]; simp
    · rw [if_neg h]
      have := putFD_len (f := f) (d := d) (fs := r)
      simp only [List.length_cons]
      omega
theorem put_place {a b c y : D} : putFD "place" y [((("words" : Str), a) : Str × D), ("place", b), ("arms_by", c)] = [((("words" : Str), a) : Str × D), ("place", y), ("arms_by", c)] := by simp [putFD, ofs_inj]
theorem getK_sk {z : Str} : ∀ {kvs : List (Str × D)}, getK (skD kvs) (.inr z) = getS kvs z
  | [] => rfl
  | (k, d) :: r => by
    show getK ((.inr k, d) :: skD r) (.inr z) = _
    rw [getK_cons, getK_sk]
    unfold getS
    rw [List.find?_cons]
    by_cases h : k = z
    · simp [h]
    · simp [h]
theorem Mu.put_comm {m : Mu} {p q : Addr} {a b : Cell} (h : p ≠ q) : (m.put p a).put q b = (m.put q b).put p a := by
  funext x
  by_cases h1 : x = p
  · subst h1
    rw [Mu.put_ne h, Mu.put_same, Mu.put_same]
  · by_cases h2 : x = q
    · subst h2
      rw [Mu.put_same, Mu.put_ne h1, Mu.put_same]
    · rw [Mu.put_ne h2, Mu.put_ne h1, Mu.put_ne h1, Mu.put_ne h2]
theorem cut_4 {a b c d : D} {xs : List D} : cutD (a :: b :: c :: d :: xs) (some 4) none = xs := by
  unfold cutD HT.sIx
  simp
theorem cut_14 {a x y z : D} {xs : List D} : cutD (a :: x :: y :: z :: xs) (some 1) (some 4) = [x, y, z] := by
  unfold cutD HT.sIx
  simp
theorem Tr.wf.mono {ns ms : List Nat} (h : ∀ n ∈ ns, n ∈ ms) : ∀ {t : Tr}, t.wf ns → t.wf ms
  | .part p, g => h _ g
  | .wth a b, g => ⟨Tr.wf.mono h g.1, Tr.wf.mono h g.2⟩
  | .wout a d, g => ⟨Tr.wf.mono h g.1, g.2⟩
  | .also a d n, g => ⟨Tr.wf.mono h g.1, g.2⟩
  | .ren a d n, g => ⟨Tr.wf.mono h g.1, g.2⟩
  | .over a p, g => ⟨Tr.wf.mono h g.1, h _ g.2⟩
theorem J_pos {z : Str} {xs : List Str} (h : 1 ≤ z.length) : 1 ≤ (J (z :: xs)).length := by
  cases xs with
  | nil => rw [J_one]; exact h
  | cons y r => rw [J_cons (by simp), len_app]; omega
theorem Tr.J_ne (t : Tr) : ¬ (J t.ws = Str.ofString "") := fun e => by
  have h : 1 ≤ (J t.ws).length := by cases t <;> exact J_pos (by decide +kernel)
  rw [e] at h
  exact absurd h (by decide +kernel)
theorem aok_str {n : Nat} {z : Str} : aokD (n + 1) (.str z) := trivial
theorem aok_tup {n : Nat} {ds : List D} (h : ds.length ≤ 1000) (g : ∀ x ∈ ds, aokD n x) : aokD (n + 1) (.tup ds) := ⟨h, g⟩
theorem Bd.aok : ∀ (b : Bd) (n : Nat), b.dep + 1 ≤ n → aokD n b.enc
  | b, 0, h => by omega
  | b, 1, h => by have := b.dep_pos; omega
  | .num i, n + 2, _ => aok_tup (by simp) (by intro x hx; simp only [List.mem_cons, List.not_mem_nil, or_false] at hx; rcases hx with rfl | rfl <;> trivial)
  | .tru i, n + 2, _ => aok_tup (by simp) (by intro x hx; simp only [List.mem_cons, List.not_mem_nil, or_false] at hx; rcases hx with rfl | rfl <;> trivial)
  | .emp, n + 2, _ => aok_tup (by simp) (by intro x hx; simp only [List.mem_cons, List.not_mem_nil, or_false] at hx; subst hx; trivial)
  | .arg, n + 2, _ => aok_tup (by simp) (by intro x hx; simp only [List.mem_cons, List.not_mem_nil, or_false] at hx; subst hx; trivial)
  | .cel c, n + 2, _ => aok_tup (by simp) (by intro x hx; simp only [List.mem_cons, List.not_mem_nil, or_false] at hx; rcases hx with rfl | rfl <;> trivial)
  | .un w a, n + 2, h => aok_tup (by simp) (by
      intro x hx; simp only [List.mem_cons, List.not_mem_nil, or_false] at hx; simp only [Bd.dep] at h
      rcases hx with rfl | rfl
      · trivial
      · exact Bd.aok a (n + 1) (by omega))
  | .bin w a b, n + 2, h => aok_tup (by simp) (by
      intro x hx; simp only [List.mem_cons, List.not_mem_nil, or_false] at hx; simp only [Bd.dep] at h
      rcases hx with rfl | rfl | rfl
      · trivial
      · exact Bd.aok a (n + 1) (by omega)
      · exact Bd.aok b (n + 1) (by omega))
  | .ite a b c, n + 2, h => aok_tup (by simp) (by
      intro x hx; simp only [List.mem_cons, List.not_mem_nil, or_false] at hx; simp only [Bd.dep] at h
      rcases hx with rfl | rfl | rfl | rfl
      · trivial
      · exact Bd.aok a (n + 1) (by omega)
      · exact Bd.aok b (n + 1) (by omega)
      · exact Bd.aok c (n + 1) (by omega))
  | .set c a, n + 2, h => aok_tup (by simp) (by
      intro x hx; simp only [List.mem_cons, List.not_mem_nil, or_false] at hx; simp only [Bd.dep] at h
      rcases hx with rfl | rfl | rfl
      · trivial
      · trivial
      · exact Bd.aok a (n + 1) (by omega))
  | .cal c a, n + 2, h => aok_tup (by simp) (by
      intro x hx; simp only [List.mem_cons, List.not_mem_nil, or_false] at hx; simp only [Bd.dep] at h
      rcases hx with rfl | rfl | rfl
      · trivial
      · trivial
      · exact Bd.aok a (n + 1) (by omega))
theorem Tr.aok : ∀ (b : Tr) (n : Nat), b.dep + 1 ≤ n → aokD n b.enc
  | b, 0, h => by omega
  | b, 1, h => by have := b.dep_pos; omega
  | .part p, n + 2, _ => aok_tup (by simp) (by intro x hx; simp only [List.mem_cons, List.not_mem_nil, or_false] at hx; rcases hx with rfl | rfl <;> trivial)
  | .wth a b, n + 2, h => aok_tup (by simp) (by
      intro x hx; simp only [List.mem_cons, List.not_mem_nil, or_false] at hx; simp only [Tr.dep] at h
      rcases hx with rfl | rfl | rfl
      · trivial
      · exact Tr.aok a (n + 1) (by omega)
      · exact Tr.aok b (n + 1) (by omega))
  | .wout a d, n + 2, h => aok_tup (by simp) (by
      intro x hx; simp only [List.mem_cons, List.not_mem_nil, or_false] at hx; simp only [Tr.dep] at h
      rcases hx with rfl | rfl | rfl
      · trivial
      · exact Tr.aok a (n + 1) (by omega)
      · trivial)
  | .also a d e, n + 2, h => aok_tup (by simp) (by
      intro x hx; simp only [List.mem_cons, List.not_mem_nil, or_false] at hx; simp only [Tr.dep] at h
      rcases hx with rfl | rfl | rfl | rfl
      · trivial
      · exact Tr.aok a (n + 1) (by omega)
      · trivial
      · trivial)
  | .ren a d e, n + 2, h => aok_tup (by simp) (by
      intro x hx; simp only [List.mem_cons, List.not_mem_nil, or_false] at hx; simp only [Tr.dep] at h
      rcases hx with rfl | rfl | rfl | rfl
      · trivial
      · exact Tr.aok a (n + 1) (by omega)
      · trivial
      · trivial)
  | .over a d, n + 2, h => aok_tup (by simp) (by
      intro x hx; simp only [List.mem_cons, List.not_mem_nil, or_false] at hx; simp only [Tr.dep] at h
      rcases hx with rfl | rfl | rfl
      · trivial
      · exact Tr.aok a (n + 1) (by omega)
      · trivial)
theorem Deed.aok {d : Deed} {n : Nat} (h : d.b.dep + 2 ≤ n) : aokD n d.enc := by
  obtain ⟨k, rfl⟩ : ∃ k, n = k + 2 := ⟨n - 2, by omega⟩
  refine aok_tup (by simp) fun x hx => ?_
  simp only [List.mem_cons, List.not_mem_nil, or_false] at hx
  rcases hx with rfl | rfl | rfl | rfl
  · trivial
  · trivial
  · trivial
  · exact d.b.aok _ (by omega)
theorem askD_aok {a : Nat × Kd × Kd} {n : Nat} : aokD (n + 2) (askD a) := by
  refine aok_tup (by simp) fun x hx => ?_
  simp only [List.mem_cons, List.not_mem_nil, or_false] at hx
  rcases hx with rfl | rfl | rfl <;> trivial
theorem celD_aok {a : Nat × Kd} {n : Nat} : aokD (n + 2) (celD a) := by
  refine aok_tup (by simp) fun x hx => ?_
  simp only [List.mem_cons, List.not_mem_nil, or_false] at hx
  rcases hx with rfl | rfl <;> trivial
theorem Part.aok {p : Part} (h : p.ok) : aokD 16 p.enc := by
  have h1 := h.dl
  have h2 := h.al
  have h3 := h.cl
  refine aok_tup (by simp) fun x hx => ?_
  simp only [List.mem_cons, List.not_mem_nil, or_false] at hx
  rcases hx with rfl | rfl | rfl | rfl
  · trivial
  · refine aok_tup (by simp; omega) fun x hx => ?_
    obtain ⟨d, hd, rfl⟩ := List.mem_map.mp hx
    exact Deed.aok (by have := (h.dok d hd).dep; omega)
  · refine aok_tup (by simp; omega) fun x hx => ?_
    obtain ⟨d, hd, rfl⟩ := List.mem_map.mp hx
    exact askD_aok
  · refine aok_tup (by simp; omega) fun x hx => ?_
    obtain ⟨d, hd, rfl⟩ := List.mem_map.mp hx
    exact celD_aok
end L3
/-! L18: dicts walked over, popped from. -/
namespace L3
open PySem PySem.Spec PyProof.Rows L2
/-! ### a dict is locked while a statement, an expression runs -/
section
variable {K : PySem.W.Frag} {H : Hp} {B : Addr → Prop} {m : Mu}
theorem wd_lock {p : Addr} {ds : List (Key × D)} {vs : List (Key × V)} (od : Obj) (W : Wd K H B m) (h : m p = some (.dct ds)) (hp : H p = some (.dK vs)) (r : Repk K H (Ban B m) ds vs) : Step H m (upd H p (.frz od (.dK vs))) (m.put p (.dfz od vs ds)) ∧ Wd K (upd H p (.frz od (.dK vs))) B (m.put p (.dfz od vs ds)) := by
  refine W.write h (fun C dx fs e => nomatch e) (fun x e => by rw [hp] at e; cases e) ⟨upd_same, Repk.carry (fun x u e n => ?_) _ _ r⟩
  have ne : x ≠ p := fun z => n (.inr (by rw [z, h]; exact fun z => nomatch z))
  exact ⟨by rw [upd_ne ne]; exact e, fun z => z.elim (fun b => n (.inl b)) fun z => n (.inr (by rw [Mu.put_ne ne] at z; exact z))⟩
theorem wd_unlock {p : Addr} {ds : List (Key × D)} {vs : List (Key × V)} {od : Obj} (W : Wd K H B m) (h : m p = some (.dfz od vs ds)) : H p = some (.frz od (.dK vs)) ∧ Step H m (upd H p (.dK vs)) (m.put p (.dct ds)) ∧ Wd K (upd H p (.dK vs)) B (m.put p (.dct ds)) := by
  obtain ⟨hp, r⟩ := W.cell p _ h
  refine ⟨hp, W.write h (fun C dx fs e => nomatch e) (fun x e => by rw [hp] at e; cases e) ⟨vs, upd_same, Repk.carry (fun x u e n => ?_) _ _ r⟩⟩
  have ne : x ≠ p := fun z => n (.inr (by rw [z, h]; exact fun z => nomatch z))
  exact ⟨by rw [upd_ne ne]; exact e, fun z => z.elim (fun b => n (.inl b)) fun z => n (.inr (by rw [Mu.put_ne ne] at z; exact z))⟩
/-- ahead: locked; behind: unlocked -/
def unN (p : Addr) (od : Obj) (vs : List (Key × V)) (ds : List (Key × D)) (Q : Dt → Mu → Prop) : Dt → Mu → Prop := fun δ m => m p = some (.dfz od vs ds) ∧ Q δ (m.put p (.dct ds))
def unE (p : Addr) (od : Obj) (vs : List (Key × V)) (ds : List (Key × D)) (Q : EK) : EK := fun d m => m p = some (.dfz od vs ds) ∧ Q d (m.put p (.dct ds))
def aLock (t : ASt) : ASt := fun D δ m => ∃ p ds, m p = some (.dct ds) ∧ ∀ od vs, t { nx := unN p od vs ds D.nx, rt := unE p od vs ds D.rt, bk := unN p od vs ds D.bk, ct := unN p od vs ds D.ct } δ (m.put p (.dfz od vs ds))
def aLockE (t : AEt) : AEt := fun δ m Q => ∃ p ds, m p = some (.dct ds) ∧ ∀ od vs, t δ (m.put p (.dfz od vs ds)) (unE p od vs ds Q)
theorem un_n {p : Addr} {od : Obj} {vs : List (Key × V)} {ds : List (Key × D)} {H1 : Hp} {m1 : Mu} {Q : Dt → Mu → Prop} {Q' : L2.St → Hp → Prop} (k : PostN K B H m Q Q') (st : Step H m H1 m1) : PostN K B H1 m1 (unN p od vs ds Q) fun σ' H' => H' p = some (.frz od (.dK vs)) ∧ Q' σ' (upd H' p (.dK vs)) := fun δ2 m2 σ2 H2 s2 W2 E2 ⟨h, q⟩ => by
  obtain ⟨hp, s3, W3⟩ := wd_unlock W2 h
  exact ⟨hp, k δ2 _ σ2 _ ((st.trans s2).trans s3) W3 (E2.carry s3.carry) q⟩
theorem un_e {p : Addr} {od : Obj} {vs : List (Key × V)} {ds : List (Key × D)} {H1 : Hp} {m1 : Mu} {Q : EK} {Q' : VK} (k : PostE K B H m Q Q') (st : Step H m H1 m1) : PostE K B H1 m1 (unE p od vs ds Q) fun v H' => H' p = some (.frz od (.dK vs)) ∧ Q' v (upd H' p (.dK vs)) := fun d2 m2 v2 H2 s2 W2 r2 ⟨h, q⟩ => by
  obtain ⟨hp, s3, W3⟩ := wd_unlock W2 h
  exact ⟨hp, k d2 _ v2 _ ((st.trans s2).trans s3) W3 (Rep.carry s3.carry _ _ r2) q⟩
end
section
variable {X : Cx} {pos : Pos}
theorem as_lock {st : Stmt} {t : ASt} (h : AS X st t) : AS X st (aLock t) :=
  let ⟨_, p, s⟩ := h.ex
  ⟨_, ps_lock p, fun B D δ m σ H W E ⟨a, ds, hm, q⟩ De k => by
    obtain ⟨vs, hp, r⟩ := W.cell a _ hm
    refine ⟨a, .dK vs, hp, trivial, fun od => ?_⟩
    obtain ⟨s1, W1⟩ := wd_lock od W hm hp r
    exact s B _ δ _ σ _ W1 (E.carry s1.carry) (q od vs) _ ⟨un_n k.nx s1, un_e k.rt s1, un_n k.bk s1, un_n k.ct s1⟩⟩
theorem ae_lock {e : Expr} {t : AEt} (h : AE X e t) : AE X e (aLockE t) :=
  let ⟨_, p, s⟩ := h.ex
  ⟨_, pe_lock p, fun B δ m Q σ H W E ⟨a, ds, hm, q⟩ Q' k => by
    obtain ⟨vs, hp, r⟩ := W.cell a _ hm
    refine ⟨a, .dK vs, hp, trivial, fun od => ?_⟩
    obtain ⟨s1, W1⟩ := wd_lock od W hm hp r
    exact s B δ _ _ σ _ W1 (E.carry s1.carry) (q od vs) _ (un_e k s1)⟩
/-! ### for k in d -/
def kD : Key → D
  | .inl i => .int i
  | .inr x => .str x
def keysD (ds : List (Key × D)) : List D := ds.map fun p => kD p.1
theorem rep_kD {K : PySem.W.Frag} {H : Hp} {N : Addr → Prop} {k : Key} : Rep K H N (kD k) (kV k) := by
  cases k <;> simp [kD, kV, Rep]
def gGate (G : Mu → Prop) (g : AGt) : AGt := fun d δ m Q => G m ∧ g d δ m Q
theorem GoodG.gate {K : PySem.W.Frag} {vs : List Nat} {tg : TG} {g : AGt} {G : Mu → Prop} (h : GoodG K vs tg g) : GoodG K vs tg (gGate G g) := ⟨fun B d v δ m Q σ H W E r q Q' k => h.s B d v δ m Q σ H W E r q.2 Q' k, h.w, h.m⟩
/-- at turn i the i-th of ds comes, while G holds -/
def YieldsG (K : PySem.W.Frag) (B : Addr → Prop) (H1 : Hp) (m1 : Mu) (J : It) (G : Mu → Prop) (ds : List D) : Prop := ∀ (B' : Addr → Prop), (∀ a, B' a → B a ∨ H1 a = none) → ∀ (i : Nat) (H' : Hp) (m' : Mu), Step H1 m1 H' m' → Wd K H' B' m' → G m' →
  (∀ d, ds[i]? = some d → J.go i H' ∧ ∀ x H'', J.yld i H' x H'' → Step H' m' H'' m' ∧ Wd K H'' B' m' ∧ Rep K H'' (Ban B' m') d x) ∧ (i = ds.length → J.stop i H')
abbrev AItG := Dt → Mu → ((Mu → Prop) → List D → Mu → Prop) → Prop
def SIG (K : PySem.W.Frag) (wi : TI) (t : AItG) : Prop := ∀ (B : Addr → Prop) (δ : Dt) (m : Mu) (Q : (Mu → Prop) → List D → Mu → Prop) (σ : L2.St) (H : Hp), Wd K H B m → EnvD K H (Ban B m) σ δ → t δ m Q → ∀ R : It → Hp → Prop,
  (∀ J G ds m1 H1, Step H m H1 m1 → Wd K H1 B m1 → YieldsG K B H1 m1 J G ds → Q G ds m1 → R J H1) → wi σ H R
structure AIG (X : Cx) (tg iter : Expr) (t : AItG) : Prop where
  ex : ∃ wi, PI X tg iter wi ∧ SIG X.K wi t
def aKeys (te : AEt) : AItG := fun δ m Q => te δ m fun x m1 => ∃ p od vs ds, x = .ref p ∧ m1 p = some (.dfz od vs ds) ∧ Q (fun m' => m' p = some (.dfz od vs ds)) (keysD ds) m1
theorem repk_at {K : PySem.W.Frag} {H : Hp} {N : Addr → Prop} {i : Nat} : ∀ {ds : List (Key × D)} {vs : List (Key × V)}, Repk K H N ds vs → ((ds[i]?).map fun p => p.1) = (vs[i]?).map fun p => p.1 := fun {ds vs} r => by
  have h := repk_keys r
  have := congrArg (fun l : List Key => l[i]?) h
  simp only [List.getElem?_map] at this
  exact this.symm
theorem ai_keys {tg e : Expr} {t : AEt} (h : AE X e t) : AIG X tg e (aKeys t) :=
  let ⟨_, p, s⟩ := h.ex
  ⟨_, pi_keys p, fun B δ m Q σ H W E h R k => s B δ m _ σ H W E h _ fun d m1 v H1 s1 W1 r ⟨p, od, vs, ds, e, hp, q⟩ => by
    subst e
    cases rep_ref.mp r
    obtain ⟨hH, rk⟩ := W1.cell p _ hp
    refine ⟨p, od, rfl, .inl ⟨vs, hH, k _ _ _ m1 H1 s1 W1 (fun B' hB i H' m' st W' hg => ?_) q⟩⟩
    obtain ⟨hH', rk'⟩ := W'.cell p _ hg
    have hl : vs.length = ds.length := repk_len rk'
    refine ⟨fun d hd => ?_, fun hi => ⟨hH', by rw [hl]; rw [hi]; simp [keysD]⟩⟩
    unfold keysD at hd
    rw [List.getElem?_map] at hd
    cases e : ds[i]? with
    | none => rw [e] at hd; cases hd
    | some kd =>
      rw [e] at hd
      cases hd
      have hi : i < vs.length := by rw [hl]; exact (List.getElem?_eq_some_iff.mp e).1
      refine ⟨⟨hH', hi⟩, fun x H'' ⟨eH, key, w, hw, hx⟩ => ?_⟩
      subst eH hx
      have := repk_at (i := i) rk'
      rw [e, hw] at this
      have e3 : kd.1 = key := by simpa using this
      subst e3
      exact ⟨Step.refl _ _, W', rep_kD⟩⟩
def aForG (ai : AItG) (g : AGt) (tb : ASt) : ASt := fun D δ m => ai δ m fun G ds m1 => forGo (gGate G g) tb { D with nx := fun δ' m' => G m' ∧ D.nx δ' m' } ds δ m1
theorem as_forG {iter tg : Expr} {body : List Stmt} {ai : AItG} {g : AGt} {tb : ASt} (hp : PassesOwn (model X.prog X.w) X.A X.env X.xe) (hc : X.calm = true) (hi : AIG X tg iter ai) (hg : AG X tg g) (hb : ASs X body tb)
    (hs : ∀ x, foldedSetIterable iter X.env x = pure x := by intro _; rfl) : AS X (.For tg iter body [] pos) (aForG ai g tb) := by
  obtain ⟨wi, pi, si⟩ := hi.ex
  obtain ⟨tg', pg, sg⟩ := hg.ex
  obtain ⟨ts, ps, ss⟩ := hb.ex
  refine ⟨_, ps_for hp hc pi pg ps hs, fun B D δ m σ H W E h De k => ?_⟩
  refine si B δ m _ σ H W E h _ fun J G ds m1 H1 s1 W1 Y q => ?_
  have k1 := k.step s1
  refine ⟨fun i n σ' H' => ∃ δ' m', Step H1 m1 H' m' ∧ Wd X.K H' B m' ∧ EnvD X.K H' (Ban B m') σ' δ' ∧ n + i = ds.length ∧ forGo (gGate G g) tb { D with nx := fun δ' m' => G m' ∧ D.nx δ' m' } (ds.drop i) δ' m', ⟨ds.length, δ, m1, Step.refl _ _, W1, E.carry s1.carry, rfl, q⟩, ?_⟩
  rintro i n σ' H' ⟨δ', m', st, W', E', hn, hq⟩
  by_cases hlt : i < ds.length
  · have hd : ds[i]? = some ds[i] := List.getElem?_eq_getElem hlt
    rw [List.drop_eq_getElem_cons hlt] at hq
    obtain ⟨hG, hq⟩ := hq
    have Yi := Y B (fun a b => .inl b) i H' m' st W' hG
    obtain ⟨hgo, hy⟩ := Yi.1 _ hd
    refine .inr ⟨hgo, fun σ2 H2 => ∃ δ2 m2, Step H1 m1 H2 m2 ∧ Wd X.K H2 B m2 ∧ EnvD X.K H2 (Ban B m2) σ2 δ2 ∧ forGo (gGate G g) tb { D with nx := fun δ' m' => G m' ∧ D.nx δ' m' } (ds.drop (i + 1)) δ2 m2, ?_, ?_⟩
    · rintro σ2 H2 ⟨δ2, m2, st2, W2, E2, q2⟩
      exact ⟨n - 1, by omega, δ2, m2, st2, W2, E2, by omega, q2⟩
    · intro x H'' y
      obtain ⟨st2, W2, r2⟩ := hy x H'' y
      refine sg B _ x δ' m' _ σ' H'' W2 (E'.carry st2.carry) r2 hq _ fun δ3 m3 σ3 H3 st3 W3 E3 q3 => ?_
      refine ss B _ δ3 m3 σ3 H3 W3 E3 q3 _ ?_
      have sall := (st.trans st2).trans st3
      refine ⟨fun δ4 m4 σ4 H4 st4 W4 E4 q4 => ⟨δ4, m4, sall.trans st4, W4, E4, q4⟩, k1.rt.step sall, fun δ4 m4 σ4 H4 st4 W4 E4 q4 => k1.nx δ4 m4 σ4 H4 (sall.trans st4) W4 E4 q4.2, fun δ4 m4 σ4 H4 st4 W4 E4 q4 => ⟨δ4, m4, sall.trans st4, W4, E4, q4⟩⟩
  · rw [List.drop_eq_nil_of_le (by omega)] at hq
    obtain ⟨hG, hq⟩ := hq
    have Yi := Y B (fun a b => .inl b) i H' m' st W' hG
    refine .inl ⟨Yi.2 (by omega), ?_⟩
    exact k1.nx δ' m' σ' H' st W' E' hq
/-- for k in d: the dict is locked -/
theorem as_forK {iter tg : Expr} {body : List Stmt} {te : AEt} {g : AGt} {tb : ASt} (hp : PassesOwn (model X.prog X.w) X.A X.env X.xe) (hc : X.calm = true) (hi : AE X iter te) (hg : AG X tg g) (hb : ASs X body tb)
    (hs : ∀ x, foldedSetIterable iter X.env x = pure x := by intro _; rfl) : AS X (.For tg iter body [] pos) (aLock (aForG (aKeys te) g tb)) := as_lock (as_forG hp hc (ai_keys hi) hg hb hs)
end
def aLcG (ai : AItG) (g : AGt) (tt : ATt) (te : AEt) (vs : List Nat) : AEt := fun δ m Q => ai δ m fun G ds m1 => ds.length ≤ sizeLine ∧ lcGo (gGate G g) tt te (wipeD δ vs) (fun d m2 => G m2 ∧ Q d m2) ds [] m1
theorem lc_soundG {K : PySem.W.Frag} {wi : TI} {tg : TG} {ai : AItG} {g : AGt} {tt : ATt} {te : AEt} {vs : List Nat} (si : SIG K wi ai) (gg : GoodG K vs tg g) : SE K (tLc wi tg (ttOf K tt) (teOf K te) vs) (aLcG ai g tt te vs) := by
  intro B δ m Q0 σ H W E h Q' k0
  refine si B δ m _ σ H W E h _ fun J G ds m1 H1 s1 W1 Y ⟨hz, q⟩ => ?_
  obtain ⟨Q, hQ⟩ : ∃ Q : EK, Q = fun d m2 => G m2 ∧ Q0 d m2 := ⟨_, rfl⟩
  rw [← hQ] at q
  have k1 : PostE K B H1 m1 Q Q' := fun d m2 v H2 s2 W2 r2 q2 => by
    rw [hQ] at q2
    exact k0 d m2 v H2 (s1.trans s2) W2 r2 q2.2
  have gend : ∀ d m2, Q d m2 → G m2 := fun d m2 q2 => by rw [hQ] at q2; exact q2.1
  intro p hp
  obtain ⟨Wn, cn⟩ := W1.hideNew (o := .lst []) hp
  have stn : Step H1 m1 (upd H1 p (.lst [])) m1 := Step.new hp
  have hB : ∀ a, Hid B p a → B a ∨ H1 a = none := fun a b => b.elim .inl fun e => .inr (by rw [e]; exact hp)
  have E1 : EnvD K H1 (Ban B m1) (wipe σ vs) (wipeD δ vs) := (E.carry s1.carry).wipe vs
  refine ⟨fun i n H' => ∃ m' acc av, Step H1 m1 H' m' ∧ Wd K H' (Hid B p) m' ∧ H' p = some (.lst av) ∧ Reps K H' (Ban (Hid B p) m') acc av ∧ EnvD K H' (Ban (Hid B p) m') (wipe σ vs) (wipeD δ vs) ∧ n + i = ds.length ∧ acc.length ≤ i ∧ lcGo (gGate G g) tt te (wipeD δ vs) Q (ds.drop i) acc m',
    ⟨ds.length, m1, [], [], stn, Wn, upd_same, reps_nil.mpr rfl, E1.carry cn, rfl, Nat.le_refl _, q⟩, ?_⟩
  rintro i n H' ⟨m', acc, av, st, W', hp', rv, E', hn, hacc, hq⟩
  by_cases hlt : i < ds.length
  · have hd : ds[i]? = some ds[i] := List.getElem?_eq_getElem hlt
    rw [List.drop_eq_getElem_cons hlt] at hq
    obtain ⟨hG, hq⟩ := hq
    have Yi := Y (Hid B p) hB i H' m' st W' hG
    obtain ⟨hgo, hy⟩ := Yi.1 _ hd
    refine .inr ⟨hgo, fun H2 => ∃ m2 acc2 av2, Step H1 m1 H2 m2 ∧ Wd K H2 (Hid B p) m2 ∧ H2 p = some (.lst av2) ∧ Reps K H2 (Ban (Hid B p) m2) acc2 av2 ∧ EnvD K H2 (Ban (Hid B p) m2) (wipe σ vs) (wipeD δ vs) ∧ acc2.length ≤ i + 1 ∧ lcGo (gGate G g) tt te (wipeD δ vs) Q (ds.drop (i + 1)) acc2 m2, ?_, ?_⟩
    · rintro H2 ⟨m2, acc2, av2, a1, a2, a3, a4, a5, a6, a7⟩
      exact ⟨n - 1, by omega, m2, acc2, av2, a1, a2, a3, a4, a5, by omega, a6, a7⟩
    · intro x H'' y
      obtain ⟨st2, W2, r2⟩ := hy x H'' y
      refine gg.m x _ H'' _ _ (fun σ2 H2 ⟨e, q⟩ => ⟨e.trans wipe_wipe, q⟩) (gg.w x _ H'' _ ?_)
      refine gg.s (Hid B p) _ x _ m' _ _ H'' W2 (E'.carry st2.carry) r2 hq _ fun δ3 m3 σ3 H3 st3 W3 E3 q3 => ?_
      refine ⟨Hid B p, δ3, m3, _, W3, E3, q3, fun b m4 H4 st4 W4 q4 => ?_⟩
      have s34 := (st2.trans st3).trans st4
      have keep : H' p = some (.lst av) := hp'
      have hm' : m' p = none := (W'.hid p (.inr rfl)).2
      cases b with
      | true =>
        refine ⟨Hid B p, δ3, m4, _, W4, E3.carry st4.carry, q4, fun d m5 v H5 st5 W5 r5 q5 => ?_⟩
        have s35 := s34.trans st5
        have h5 : H5 p = some (.lst av) := (s35 p _ keep hm').1
        refine ⟨av, h5, ?_, m5, acc ++ [d], av ++ [v], ?_, W5.hidden (fun x e => by rw [h5] at e; cases e), upd_same, ?_, ?_, by rw [List.length_append]; simp; omega, q5⟩
        · have := rv.len; omega
        · intro a o ha hm
          have ne : a ≠ p := ne_of_none ha hp
          have := (st.trans s35) a o ha hm
          rw [upd_ne ne]; exact this
        · exact Reps.carry carry_hidden _ _ ((Reps.carry s35.carry _ _ rv).app (Reps.one r5))
        · exact (E'.carry s35.carry).carry carry_hidden
      | false =>
        exact ⟨m4, acc, av, st.trans s34, W4, (s34 p _ keep hm').1, Reps.carry s34.carry _ _ rv, E'.carry s34.carry, by omega, q4⟩
  · rw [List.drop_eq_nil_of_le (by omega)] at hq
    have Yi := Y (Hid B p) hB i H' m' st W' (gend _ _ hq)
    refine .inl ⟨Yi.2 (by omega), ?_⟩
    have hm' : m' p = none := (W'.hid p (.inr rfl)).2
    refine k1 _ m' _ H' st W'.unhide (rep_lst.mpr ⟨p, av, rfl, ⟨hp', fun z => z.elim (fun b => (W1.hid p b).1 hp) fun z => z hm'⟩, Reps.carry carry_unhide _ _ rv⟩) hq
section
variable {X : Cx} {pos : Pos} {elt tg iter : Expr} {ifs : List Expr} {scope : Scope} {own : List (Str × Nat)} {g : AGt} {tt : ATt} {te ti : AEt} {gt : TG}
/-- [.. for k in d ..]: the dict is locked -/
theorem ae_lcK (hc : X.calm = true) (hN : X.N.Nodup) (hi : AE X iter ti) (ok : BlkOk X.N X.env.scope scope own) (gg : GoodG X.K (own.map (·.2)) gt g)
    (hg : ∀ (s : Shared) (H : Hp) (C : Addr) (cl : List (Str × Addr)) (fp : List Addr), PG (X.blk s H scope (compEnvC scope cl C X.env) fp) tg gt)
    (ht : ∀ (s : Shared) (H : Hp) (C : Addr) (cl : List (Str × Addr)) (fp : List Addr), ATs (X.blk s H scope (compEnvC scope cl C X.env) fp) ifs tt)
    (he : ∀ (s : Shared) (H : Hp) (C : Addr) (cl : List (Str × Addr)) (fp : List Addr), AE (X.blk s H scope (compEnvC scope cl C X.env) fp) elt te)
    (hs : ∀ x, foldedSetIterable iter X.env x = pure x := by intro _; rfl) : AE X (.ListComp elt [⟨tg, iter, ifs, 0⟩] scope pos) (aLockE (aLcG (aKeys ti) g tt te (own.map (·.2)))) :=
  let ⟨_, pi, si⟩ := (ai_keys (tg := tg) hi).ex
  ae_lock ⟨_, pe_lc hc hN pi ok hg (fun s H C cl fp => (ht s H C cl fp).p) (fun s H C cl fp => (he s H C cl fp).canon) hs, lc_soundG si gg⟩
/-! ### d.pop(k, e) -/
def dropD (ds : List (Key × D)) (k : Key) : List (Key × D) := ds.filter fun p => decide (p.1 ≠ k)
theorem repk_drop {K : PySem.W.Frag} {H : Hp} {N : Addr → Prop} (k : Key) : ∀ {ds : List (Key × D)} {vs : List (Key × V)}, Repk K H N ds vs → Repk K H N (dropD ds k) (dropK vs k)
  | [], _, r => by rw [repk_nil.mp r]; exact repk_nil.mpr rfl
  | (j, d) :: ds, _, r => by
    obtain ⟨v, ws, rfl, r1, r2⟩ := repk_cons.mp r
    have ih := repk_drop k r2
    unfold dropD dropK at ih ⊢
    rw [List.filter_cons, List.filter_cons]
    by_cases h : j = k
    · simpa [h] using ih
    · simp only [h, ne_eq, not_false_eq_true, decide_true, if_true]
      exact repk_cons.mpr ⟨v, _, rfl, r1, ih⟩
variable {o e f : Expr} {to te' tf : AEt} {apos : Pos}
def aDPop2 (to te tf : AEt) : AEt := fun δ m Q => to δ m fun x m1 => ∃ p, x = .ref p ∧ (∃ ds, m1 p = some (.dct ds)) ∧ te δ m1 fun y m2 => tf δ m2 fun z m3 => ∃ ds k, m3 p = some (.dct ds) ∧ keyD y = some k ∧ (∀ d, getK ds k = some d → Q d (m3.put p (.dct (dropD ds k)))) ∧ (getK ds k = none → Q z m3)
theorem ae_dpop2 (ho : AE X o to) (he : AE X e te') (hf : AE X f tf) (h1 : attributeBase o "pop" X.env (eval o X.env) = eval o X.env := by rfl)
    (h2 : ((backTo pos (starEach [e, f] X.env)).all (fun x => !x.1) && (backToKw pos (keywordEach [] X.env)).all (fun x => x.1.isSome) && decide (([e, f] : List Expr).length + ([] : List Keyword).length + (if ([] : List Keyword).isEmpty then 0 else 1) < 30)) = true := by rfl)
    (h3 : (apos.endLine == pos.line) = true := by rfl) (h4 : backTo pos (starEach [e, f] X.env) = [(false, eval e X.env), (false, eval f X.env)] := by rfl) : AE X (.Call (.Attribute o "pop" apos) [e, f] [] pos) (aDPop2 to te' tf) :=
  let ⟨_, po, so⟩ := ho.ex
  let ⟨_, pe, se⟩ := he.ex
  let ⟨_, pf, sf⟩ := hf.ex
  ⟨_, pe_dpop2 po pe pf ⟨h1, h2, h3, h4⟩, fun B δ m Q σ H W E h Q' k => so B δ m _ σ H W E h _ fun x m1 v H1 s1 W1 r ⟨p, ex, ⟨ds, hd⟩, q⟩ => by
    subst ex
    cases rep_ref.mp r
    obtain ⟨vs, hp, rs⟩ := W1.cell p _ hd
    refine ⟨p, rfl, .inl ⟨vs, .inl hp⟩, se B δ m1 _ σ H1 W1 (E.carry s1.carry) q _ fun y m2 u H2 s2 W2 r2 q => sf B δ m2 _ σ H2 W2 (E.carry (s1.trans s2).carry) q _ fun z m3 u3 H3 s3 W3 r3 ⟨ds2, key, hd2, hk, q1, q2⟩ => ?_⟩
    obtain ⟨vs2, hp2, rs2⟩ := W3.cell p _ hd2
    obtain rfl := keyD_v hk (Rep.carry s3.carry _ _ r2)
    have k3 := k.step ((s1.trans s2).trans s3)
    refine ⟨vs2, key, hp2, rfl, fun v hv => ?_, fun hv => ?_⟩
    · rcases getK_val rs2 key with ⟨e1, e2⟩ | ⟨d, w, e1, e2, rd⟩
      · rw [hv] at e1; cases e1
      · rw [hv] at e2
        cases e2
        obtain ⟨st, W4⟩ := wd_dct W3 hd2 (repk_drop key rs2)
        exact k3 d _ v _ st W4 (Rep.carry st.carry _ _ rd) (q1 d e1)
    · rcases getK_val rs2 key with ⟨e1, e2⟩ | ⟨d, w, e1, e2, rd⟩
      · exact k3.now W3 r3 (q2 e2)
      · rw [hv] at e2; cases e2⟩
/-- dict(pairs), into the store -/
def rcDictM : SpD := fun ds m Q => ∃ x ps, ds = [x] ∧ lstOf m x = some (ps.map pairD) ∧ ∀ p, m p = none → Q (.ref p) (m.put p (.dct (mergeD [] ps)))
theorem cr_dictM (hc : X.calm = true := by rfl) : CallR X (.type "dict") (rcOf X.K rcDictM) := by
  intro pins s σ H xs us Q' I r h
  obtain ⟨B, m, ds, Q, W, rs, ⟨x, ps, rfl, h, q⟩, k⟩ := h
  obtain ⟨v, rfl, r1⟩ := reps1 rs
  obtain ⟨l, vs, rfl, hl, rz⟩ := lst_at W r1 h
  obtain ⟨as, kvs, rfl, r3, r4⟩ := pairs_D rz
  exact call_dictP hc pins s σ H _ us Q' I r ⟨l, as, kvs, rfl, SqL.of hl, r4, fun p hp => k.dctM W (repk_merge r3 (repk_nil.mpr rfl)) q hp⟩
end
end L3
/-! L19: sets of keys that stand in the heap (tuples of texts); sorted of them. -/
namespace L3
open PySem PySem.Spec PyProof.Rows L2
section
variable {P : Program} {w : World} {κ : Type} [DecidableEq κ] {kd : HeapKind P w κ}
/-- what a set asks of such keys besides -/
structure Qk (kd : HeapKind P w κ) : Prop where
  seq : ∀ {h : Heap} {k : κ} {b : Addr}, kd.is h k b → ∃ o its n, h.get? b = some o ∧ o.data = .seq its n
  keep : ∀ {h h' : Heap} {k : κ} {b : Addr}, kd.is h k b → (∀ o, h.get? b = some o → h'.get? b = some o) → kd.is h' k b
  cls : ∀ {A : Around} {E : Value → Shared → Prop} {s : Shared} {k : κ} {b : Addr} {Q : Bool → Shared → Prop}, kd.is s.heap k b → Q false s → wpAny (model P w) A (ofAClassStatement 8 (.ref b)) Q E s
  val : ∀ {A : Around} {E : Value → Shared → Prop} {s : Shared} {k : κ} {b : Addr} {Q : Bool → Shared → Prop}, kd.is s.heap k b → (∀ v, Q v s) → wpAny (model P w) A (hashByValue 8 (.ref b)) Q E s
theorem Qk.same (q : Qk kd) {h h' : Heap} {k : κ} {a b : Addr} {o : Obj} {es : Array (Int × Value)} {ep : Nat} {t : SetTable} (x : kd.is h k b) (ho : h.get? a = some o) (hd : o.data = .set es ep t) (hs : Heap.SameBut a h h') : kd.is h' k b :=
  q.keep x fun u e => (hs.2 b (fun z => by
    obtain ⟨o', its, n, e1, e2⟩ := q.seq x
    rw [z, ho] at e1
    cases e1
    rw [hd] at e2
    cases e2)).trans e
def rowsK (kd : HeapKind P w κ) (L : List (Addr × κ)) : List (Int × Value) := L.map fun p => (kd.hash p.2, Value.ref p.1)
/-- the set at a holds the keys of L, in the table's turn -/
structure SetK (kd : HeapKind P w κ) (h : Heap) (a : Addr) (L : List (Addr × κ)) (es : Array (Int × Value)) (ep : Nat) (t : SetTable) : Prop where
  ob : ∃ o, h.get? a = some o ∧ o.ExactSet ∧ o.data = .set es ep t
  rows : es.toList = rowsK kd L
  tab : TabOk t (L.map fun p => kd.hash p.2)
  nd : (L.map (·.2)).Nodup
  key : ∀ p ∈ L, kd.is h p.2 p.1
  led : w.params.followText "set-order" = true ∨ t.led = true
  room : L.length * 5 < t.mask * 3
variable {A : Around} {E : Value → Shared → Prop} {s : Shared} {a x : Addr} {k : κ} {L : List (Addr × κ)} {es : Array (Int × Value)} {ep : Nat} {t : SetTable}
theorem rowsK_size {es : Array (Int × Value)} {L : List (Addr × κ)} (h : es.toList = rowsK kd L) : es.size = L.length := by
  have z := congrArg List.length h
  rw [rowsK, List.length_map, Array.length_toList] at z
  exact z
theorem rowsK_at {es : Array (Int × Value)} {L : List (Addr × κ)} (h : es.toList = rowsK kd L) {i : Nat} {p : Addr × κ} (e : L[i]? = some p) : es[i]? = some (kd.hash p.2, Value.ref p.1) := by
  rw [← Array.getElem?_toList, h, rowsK, List.getElem?_map, e]; rfl
theorem SetK.few (R : SetK kd s.heap a L es ep t) : L.length ≤ 76 := by
  have h := R.room
  rcases R.tab.mok with e | e | e <;> rw [e] at h <;> omega
theorem SetK.fit (R : SetK kd s.heap a L es ep t) : t.fits es.size = true := by
  have h1 := R.tab.sz
  have h2 := R.room
  rw [List.length_map] at h1
  unfold SetTable.fits SetTable.fill
  rw [R.tab.dm, rowsK_size R.rows, h1, Bool.and_eq_true, beq_iff_eq, decide_eq_true_eq]
  exact ⟨rfl, by show L.length + 0 ≤ _; omega⟩
theorem dummy_none (m : Nat) : ∀ (n : Nat) (p : SetTable.Probe), p.dummy = none → (nth m p n).dummy = none
  | 0, _, h => h
  | n + 1, p, h => dummy_none m n (adv m p) (by unfold adv; split <;> exact h)
/-- one look into the table: a member's slot of the same hash, or the end of the way -/
theorem probeK (T : TabOk t (L.map fun p => kd.hash p.2)) (hr : es.toList = rowsK kd L) {h : Int} {K c : Nat} (hc : c ≤ K) (hf : K < 10 * SetTable.turns t.mask) (hK : way t.mask h K ∉ t.place.toList) (hb : ∀ j, j < K → way t.mask h j ∈ t.place.toList) :
    (∃ (j i : Nat) (p : Addr × κ), c ≤ j ∧ j < K ∧ t.place.toList[i]? = some (way t.mask h j) ∧ L[i]? = some p ∧ kd.hash p.2 = h ∧ (∀ (j' i' : Nat) (p' : Addr × κ), c ≤ j' → j' < j → t.place.toList[i']? = some (way t.mask h j') → L[i']? = some p' → kd.hash p'.2 ≠ h) ∧
      t.probe (fun i => (es[i]?.map (·.1)).getD 0) h (nth t.mask (runAt t.mask (SetTable.bits h % (t.mask + 1)) (SetTable.bits h)) c) = some (.candidate (way t.mask h j) i (nth t.mask (runAt t.mask (SetTable.bits h % (t.mask + 1)) (SetTable.bits h)) (j + 1)))) ∨
    ((∀ (j' i' : Nat) (p' : Addr × κ), c ≤ j' → j' < K → t.place.toList[i']? = some (way t.mask h j') → L[i']? = some p' → kd.hash p'.2 ≠ h) ∧
      t.probe (fun i => (es[i]?.map (·.1)).getD 0) h (nth t.mask (runAt t.mask (SetTable.bits h % (t.mask + 1)) (SetTable.bits h)) c) = some (.empty (way t.mask h K) none)) := by
  obtain ⟨p0, hp0⟩ : ∃ p0, p0 = runAt t.mask (SetTable.bits h % (t.mask + 1)) (SetTable.bits h) := ⟨_, rfl⟩
  have wy : ∀ j, way t.mask h j = (nth t.mask p0 j).j := fun j => by rw [hp0]
  rw [← hp0]
  simp only [wy] at hK hb ⊢
  have sh : ∀ j, nth t.mask (nth t.mask p0 c) j = nth t.mask p0 (c + j) := fun j => (nth_add t.mask c p0 j).symm
  have hat : ∀ (i : Nat) (p : Addr × κ), L[i]? = some p → (es[i]?.map (·.1)).getD 0 = kd.hash p.2 := fun i p e => by rw [rowsK_at hr e]; rfl
  have sp := go_spec t T.ris T.dm (fun i => (es[i]?.map (·.1)).getD 0) h (10 * SetTable.turns t.mask) (K - c) (nth t.mask p0 c) (dummy_none _ _ _ (by rw [hp0]; rfl)) (by omega)
    (fun j hj => by rw [sh]; exact hb _ (by omega)) (by rw [sh, show c + (K - c) = K by omega]; exact hK)
  simp only [sh] at sp
  rcases sp with ⟨j, i, hj, hi, hh, hno, hg⟩ | ⟨hno, hg⟩
  · refine .inl ⟨c + j, i, ?_⟩
    have hl : i < L.length := by
      have h1 := (List.getElem?_eq_some_iff.mp hi).1
      have h2 := T.sz
      rw [List.length_map] at h2
      rw [Array.length_toList, h2] at h1
      exact h1
    have hp : L[i]? = some L[i] := List.getElem?_eq_getElem hl
    refine ⟨L[i], by omega, by omega, hi, hp, ?_, fun j' i' p' h1 h2 h3 h4 => ?_, by rw [show c + j + 1 = c + (j + 1) by omega]; exact hg⟩
    · rw [← hat i _ hp]; exact hh
    · rw [← hat i' _ h4]
      exact hno (j' - c) i' (by omega) (by rw [show c + (j' - c) = j' by omega]; exact h3)
  · refine .inr ⟨fun j' i' p' h1 h2 h3 h4 => ?_, ?_⟩
    · rw [← hat i' _ h4]
      exact hno (j' - c) i' (by omega) (by rw [show c + (j' - c) = j' by omega]; exact h3)
    · rw [show c + (K - c) = K by omega] at hg
      exact hg
/-- nobody sees the search -/
theorem unseenK (q : Qk kd) {b : Addr} {Q : Bool → Shared → Prop} (hx : kd.is s.heap k b) {ys : List Value} (hy : ∀ y ∈ ys, ∃ k' c, y = Value.ref c ∧ kd.is s.heap k' c) (h : Q false s) : wpAny (model P w) A (searchCouldBeSeen (.ref b) ys) Q E s := by
  unfold searchCouldBeSeen
  refine wpAny_bind (wpAny_forIn_list _ (fun rest r s' => r.1 = none ∧ s' = s ∧ ∀ y ∈ rest, ∃ k' c, y = Value.ref c ∧ kd.is s.heap k' c) _ ?_ ?_ _ _ ⟨rfl, rfl, hy⟩)
  · rintro v rest r s' ⟨_, rfl, all⟩
    obtain ⟨k', c, rfl, hc⟩ := all v List.mem_cons_self
    have more := fun y (hy : y ∈ rest) => all y (List.mem_cons_of_mem _ hy)
    dsimp only
    by_cases e : (b == c || (carriedByValue (.ref b) && carriedByValue (.ref c))) = true
    · exact wp_if_pos e (wpAny_pure ⟨rfl, rfl, more⟩)
    · refine wp_if_neg e (wpAny_bind (kd.quiet hx ?_))
      simp only [Bool.not_true, Bool.false_eq_true, if_false]
      refine wpAny_bind (kd.quiet hc ?_)
      simp only [Bool.not_true, Bool.false_eq_true, if_false]
      refine wpAny_bind (q.cls hx ?_)
      simp only [Bool.false_eq_true, if_false]
      refine wpAny_bind (q.cls hc ?_)
      simp only [Bool.false_eq_true, if_false]
      exact wpAny_pure ⟨rfl, rfl, more⟩
  · rintro ⟨r1, r2⟩ s' ⟨e, rfl, _⟩
    simp only at e
    subst e
    exact wpAny_pure h
/-- the way of a search, from its c-th step on -/
theorem wayK (q : Qk kd) (R : SetK kd s.heap a L es ep t) (hx : kd.is s.heap k x) (hr : kd.room A) {K : Nat} (hf : K < 10 * SetTable.turns t.mask) (hK : way t.mask (kd.hash k) K ∉ t.place.toList) (hb : ∀ j, j < K → way t.mask (kd.hash k) j ∈ t.place.toList)
    {Q : SetFound → Shared → Prop} (yes : k ∈ L.map (·.2) → Q (.there none) s) (no : k ∉ L.map (·.2) → Q (.free (way t.mask (kd.hash k) K) false) s) :
    ∀ (f c : Nat) (st : Option SetTable.Probe), st.getD (t.probeStart (kd.hash k)) = nth t.mask (runAt t.mask (SetTable.bits (kd.hash k) % (t.mask + 1)) (SetTable.bits (kd.hash k))) c → c ≤ K → K - c < f →
      (∀ (i : Nat) (p : Addr × κ), L[i]? = some p → p.2 = k → ∃ c', c ≤ c' ∧ c' < K ∧ t.place.toList[i]? = some (way t.mask (kd.hash k) c')) → wpAny (model P w) A (setSearchFrom a (.ref x) (kd.hash k) true f st) Q E s
  | 0, _, _, _, _, z, _ => absurd z (Nat.not_lt_zero _)
  | f + 1, c, st, hst, hc, hfu, ahead => by
    obtain ⟨o, ho, hex, hd⟩ := R.ob
    have gw : ¬ t.gaveWay = true := by
      unfold SetTable.gaveWay
      rw [mask_odd R.tab.mok]; decide
    rw [setSearchFrom_succ]
    refine wpAny_bind (wpAny_setState_of ho hd R.fit ?_)
    refine wp_if_neg gw ?_
    try refine wpAny_bind (wpAny_pure ?_)
    rw [hst]
    rcases probeK R.tab R.rows hc hf hK hb with ⟨j, i, p, hj1, hj2, hi, hp, hh, before, e⟩ | ⟨before, e⟩
    · rw [e]
      dsimp only
      have hpm : p ∈ L := List.mem_of_getElem? hp
      have hsl : t.slot (way t.mask (kd.hash k) j) = .live i := slot_live R.tab.ris hi
      have go : wpAny (model P w) A (searchRest a (.ref x) (kd.hash k) true f es t (way t.mask (kd.hash k) j) i (nth t.mask (runAt t.mask (SetTable.bits (kd.hash k) % (t.mask + 1)) (SetTable.bits (kd.hash k))) (j + 1))) Q E s := by
        unfold searchRest
        rw [rowsK_at R.rows hp]
        refine wpAny_bind (wpAny_holding (kd.eqBool hr (R.key p hpm) hx ?_))
        refine wpAny_bind (wpAny_setState_of ho hd R.fit ?_)
        dsimp only
        by_cases hkk : p.2 = k
        · exact wp_if_pos (by simp [hkk]) (wpAny_pure (yes (List.mem_map.mpr ⟨p, hpm, hkk⟩)))
        · refine wp_if_neg (by simp [hkk]) ?_
          try refine wpAny_bind (wpAny_pure ?_)
          rw [sameMem]
          dsimp only
          simp only [if_true, hsl, rowsK_at R.rows hp]
          refine wpAny_bind (wpAny_isSame_ref_self (wpAny_bind (wpAny_pure ?_)))
          simp only [if_true]
          refine wp_if_neg (by simp [hkk]) (wayK q R hx hr hf hK hb yes no f (j + 1) _ rfl (by omega) (by omega) fun i0 p0 h0 k0 => ?_)
          obtain ⟨c', a1, a2, a3⟩ := ahead i0 p0 h0 k0
          refine ⟨c', ?_, a2, a3⟩
          rcases Nat.lt_trichotomy c' j with z | z | z
          · exact absurd (by rw [k0]) (before c' i0 p0 a1 z a3 h0)
          · rw [z] at a3
            have s0 := slot_live R.tab.ris a3
            rw [hsl] at s0
            injection s0 with s0
            rw [← s0, hp] at h0
            cases h0
            exact absurd k0 hkk
          · exact z
      by_cases hl : t.led = true
      · refine wp_if_neg (by simp [hl]) ?_
        try refine wpAny_bind (wpAny_pure ?_)
        exact go
      · refine wp_if_pos (by simp [hl]) (wpAny_bind (unseenK q hx (fun y hy => ?_) ?_))
        · obtain ⟨u, hu, rfl⟩ := List.mem_map.mp hy
          have hu2 : u ∈ es.toList := by
            have : u ∈ es ∧ u.1 = kd.hash k := by simpa using hu
            simpa using this.1
          rw [R.rows] at hu2
          obtain ⟨p2, hp2, rfl⟩ := List.mem_map.mp hu2
          exact ⟨p2.2, p2.1, rfl, R.key p2 hp2⟩
        · refine wp_if_neg (by decide) ?_
          try refine wpAny_bind (wpAny_pure ?_)
          exact go
    · rw [e]
      refine wpAny_pure (no fun hm => ?_)
      obtain ⟨p0, h0, k0⟩ := List.mem_map.mp hm
      obtain ⟨i0, hi0⟩ := List.getElem?_of_mem h0
      obtain ⟨c', a1, a2, a3⟩ := ahead i0 p0 hi0 k0
      exact before c' i0 p0 a1 a2 a3 hi0 (by rw [k0])
theorem searchK (q : Qk kd) (R : SetK kd s.heap a L es ep t) (hx : kd.is s.heap k x) (hr : kd.room A) {Q : SetFound → Shared → Prop} (yes : k ∈ L.map (·.2) → Q (.there none) s)
    (no : ∀ K, k ∉ L.map (·.2) → way t.mask (kd.hash k) K ∉ t.place.toList → (∀ c, c < K → way t.mask (kd.hash k) c ∈ t.place.toList) → Q (.free (way t.mask (kd.hash k) K) false) s) :
    wpAny (model P w) A (setSearch a (.ref x) (kd.hash k) true) Q E s := by
  have hroom := R.room
  obtain ⟨K, hf, hK, hb⟩ := R.tab.first (by rw [List.length_map]; omega) (kd.hash k)
  have big : K < 100000 := by
    have : 10 * SetTable.turns t.mask ≤ 1420 := by
      unfold SetTable.turns
      rcases R.tab.mok with e | e | e <;> omega
    omega
  refine wayK q R hx hr hf hK hb yes (fun z => no K z hK hb) 100000 0 none rfl (Nat.zero_le _) (by omega) fun i p hp hk => ?_
  have hh : (L.map fun p => kd.hash p.2)[i]? = some (kd.hash k) := by rw [List.getElem?_map, hp, ← hk]; rfl
  have hl : i < t.place.toList.length := by
    have h2 := R.tab.sz
    rw [List.length_map] at h2
    rw [Array.length_toList, h2]
    exact (List.getElem?_eq_some_iff.mp hp).1
  have hj := List.getElem?_eq_getElem hl
  obtain ⟨c, hc, e⟩ := R.tab.before hK hh hj
  exact ⟨c, Nat.zero_le _, hc, by rw [hj, e]⟩
theorem filterMap_some {α β : Type} {F : α → Option β} {g : α → β} : ∀ {l : List α}, (∀ i ∈ l, F i = some (g i)) → l.filterMap F = l.map g
  | [], _ => rfl
  | i :: l, h => by
    rw [List.filterMap_cons, h i List.mem_cons_self, List.map_cons, filterMap_some fun j hj => h j (List.mem_cons_of_mem _ hj)]
theorem orderK (hr : es.toList = rowsK kd L) (order : Array Nat) (hp : order.toList.Perm (List.range L.length)) :
    ∃ L2, (order.filterMap (es[·]?)).toList = rowsK kd L2 ∧ L2.Perm L ∧ (L2.map fun p => kd.hash p.2) = order.toList.map fun i => (es.map (·.1)).getD i 0 := by
  have at_ : ∀ i, es[i]? = (L[i]?).map fun p : Addr × κ => (kd.hash p.2, Value.ref p.1) := fun i => by
    rw [← Array.getElem?_toList, hr, rowsK, List.getElem?_map]
  refine ⟨order.toList.filterMap (L[·]?), ?_, ?_, ?_⟩
  · rw [Array.toList_filterMap, rowsK, List.map_filterMap]
    exact congrArg (fun f => List.filterMap f order.toList) (funext at_)
  · have h := hp.filterMap (L[·]?)
    rwa [List.filterMap_getElem?_range_length] at h
  · rw [List.map_filterMap]
    refine filterMap_some fun i hi => ?_
    have hl : i < L.length := List.mem_range.mp (hp.mem_iff.mp hi)
    have e := at_ i
    rw [List.getElem?_eq_getElem hl] at e ⊢
    rw [Array.getD_eq_getD_getElem?, Array.getElem?_map, e]; rfl
theorem tab_plain {t : SetTable} {hs : List Int} (T : TabOk t hs) (b : Bool) : TabOk (if b = true then t else { t with plain := false }) hs := by
  cases b with
  | true => exact T
  | false => exact ⟨T.ris, T.dm, T.sz, T.mok, T.bd, T.reach⟩
/-- the table laid anew -/
theorem relayK (q : Qk kd) {o : Obj} (ho : s.heap.get? a = some o) (hex : o.ExactSet) (hd : o.data = .set es ep t) (hr : es.toList = rowsK kd L) (T : TabOk t (L.map fun p => kd.hash p.2)) (hle : L.length ≤ t.mask)
    (nd : (L.map (·.2)).Nodup) (key : ∀ p ∈ L, kd.is s.heap p.2 p.1) (ld : w.params.followText "set-order" = true ∨ t.led = true) {wanted M : Nat} (hw : SetTable.sizeAbove wanted - 1 = M) (hM : MaskOk M) (hw2 : SetTable.sizeAbove wanted ≤ 128) (hn : L.length * 5 < M * 3) {Q : Unit → Shared → Prop}
    (hQ : ∀ h' L' es' ep' t', Heap.SameBut a s.heap h' → SetK kd h' a L' es' ep' t' → L'.Perm L → Q () { s with heap := h' }) : wpAny (model P w) A (setRelay a wanted) Q E s := by
  have hs := rowsK_size hr
  have hsz : t.place.size = L.length := by rw [T.sz, List.length_map]
  have hf : t.fits es.size = true := by
    unfold SetTable.fits SetTable.fill
    rw [T.dm, hs, hsz, Bool.and_eq_true, beq_iff_eq, decide_eq_true_eq]
    exact ⟨rfl, by show L.length + 0 ≤ _; omega⟩
  obtain ⟨t', order, e, hp, T', em, el, _, _⟩ := relaid_ok t (hs := es.map (·.1)) (wanted := wanted) hw hM (by rw [Array.size_map, hs]; omega)
  rw [Array.size_map, hs] at hp
  obtain ⟨L2, r1, r2, r3⟩ := orderK hr order hp
  rw [← r3] at T'
  have hs2 : (order.filterMap (es[·]?)).size = L.length := by rw [rowsK_size r1, r2.length_eq]
  rw [setRelay_eq]
  refine wpAny_bind (wpAny_setState_of ho hd hf ?_)
  refine wp_if_neg (by rw [sizeLine_eq]; omega) ?_
  try refine wpAny_bind (wpAny_pure ?_)
  rw [e]
  refine wpAny_bind (wp_if_neg (by rw [hs2, hs]; simp) ?_)
  try refine wpAny_bind (wpAny_pure ?_)
  refine wpAny_pure ?_
  refine wpAny_storeSet_of ho hd ?_ (by rw [hs2, sizeLine_eq]; omega)
  have sb : Heap.SameBut a s.heap (s.heap.update a (Obj.putSet (order.filterMap (es[·]?)) t')) := Heap.SameBut.update ..
  exact hQ _ L2 _ (ep + 1) t' sb ⟨⟨_, store_at ho hd, hex, rfl⟩, r1, T', (r2.map (·.2)).nodup_iff.mpr nd, fun p hpm => q.same (key p (r2.mem_iff.mp hpm)) ho hd sb, by rw [el]; exact ld, by rw [r2.length_eq, em]; exact hn⟩ r2
/-- one key more, or as it is -/
theorem addK (q : Qk kd) (R : SetK kd s.heap a L es ep t) (hx : kd.is s.heap k x) (hr : kd.room A) (hfew : k ∉ L.map (·.2) → L.length + 1 ≤ 76) {Q : Bool → Shared → Prop}
    (hQ : ∀ b h' L' es' ep' t', Heap.SameBut a s.heap h' → SetK kd h' a L' es' ep' t' → (k ∈ L.map (·.2) → L' = L) → (k ∉ L.map (·.2) → L'.Perm ((x, k) :: L)) → Q b { s with heap := h' }) :
    wpAny (model P w) A (setAddHashed a (.ref x) (kd.hash k)) Q E s := by
  obtain ⟨o, ho, hex, hd⟩ := R.ob
  have hroom := R.room
  unfold setAddHashed
  refine wpAny_holding ?_
  rw [show (100000 : Nat) = 99999 + 1 from rfl, setAddHashedIn_succ]
  refine wpAny_bind (wpAny_setState_of ho hd R.fit ?_)
  refine wp_if_neg (by simp [byScan, Value.scannable]) ?_
  try refine wpAny_bind (wpAny_pure ?_)
  refine wpAny_bind (searchK q R hx hr (fun hm => ?_) fun K hm hK hb => ?_)
  · exact wpAny_pure (hQ false s.heap L es ep t (Heap.SameBut.refl a s.heap) R (fun _ => rfl) fun z => absurd hm z)
  · have h76 := hfew hm
    refine wpAny_bind (wpAny_setState_of ho hd R.fit ?_)
    dsimp only
    obtain ⟨q1, q2, q3, q4, q5, q6, q7, q8, q9⟩ := R.tab.put hK hb
    generalize t.put (way t.mask (kd.hash k) K) = pt at q1 q3 q4 q5 q6 q7 q8 q9 ⊢
    obtain ⟨t1, j⟩ := pt
    dsimp only at q1 q3 q4 q5 q6 q7 q8 q9 ⊢
    rw [← q1] at q2 q3
    have pm : (L.take j ++ (x, k) :: L.drop j).Perm ((x, k) :: L) := put_perm L j (x, k)
    have er : (SetTable.insertAt es j (kd.hash k, Value.ref x)).toList = rowsK kd (L.take j ++ (x, k) :: L.drop j) := by
      rw [SetTable.toList_insertAt, R.rows]
      simp only [rowsK, List.map_append, List.map_cons, List.map_take, List.map_drop]
    have eh : (L.take j ++ (x, k) :: L.drop j).map (fun p => kd.hash p.2) = (L.map fun p => kd.hash p.2).take j ++ kd.hash k :: (L.map fun p => kd.hash p.2).drop j := by
      simp only [List.map_append, List.map_cons, List.map_take, List.map_drop]
    rw [← eh] at q3
    generalize L.take j ++ (x, k) :: L.drop j = L1 at pm er q3
    generalize SetTable.insertAt es j (kd.hash k, Value.ref x) = es1 at er ⊢
    have hs1 := rowsK_size er
    have hl1 : L1.length = L.length + 1 := pm.length_eq
    have hL := rowsK_size R.rows
    have rest : ∀ bv : Bool, wpAny (model P w) A (do
        storeSet a es1 (if bv = true then t1 else { t1 with plain := false })
        if (!false && (if bv = true then t1 else { t1 with plain := false }).tooFull) = true then do
          setRelay a (SetTable.grown (es.size + 1))
          pure true
        else pure true) Q E s := fun bv => by
      have T2 := tab_plain q3 bv
      have e2 : (if bv = true then t1 else { t1 with plain := false }).mask = t.mask := by cases bv <;> exact q4
      have e3 : (if bv = true then t1 else { t1 with plain := false }).led = t.led := by cases bv <;> exact q5
      have e4 : (if bv = true then t1 else { t1 with plain := false }).fill = (L.map fun p => kd.hash p.2).length + 1 := by cases bv <;> exact q9
      generalize (if bv = true then t1 else { t1 with plain := false }) = t2 at T2 e2 e3 e4 ⊢
      refine wpAny_bind (wpAny_storeSet_of ho hd ?_ (by rw [hs1, hl1, sizeLine_eq]; omega))
      have sb : Heap.SameBut a s.heap (s.heap.update a (Obj.putSet es1 t2)) := Heap.SameBut.update ..
      have ho1 := store_at (es' := es1) (t' := t2) ho hd
      generalize s.heap.update a (Obj.putSet es1 t2) = h1 at sb ho1 ⊢
      have key1 : ∀ p ∈ L1, kd.is h1 p.2 p.1 := fun p hp => by
        rcases List.mem_cons.mp (pm.mem_iff.mp hp) with e | z
        · rw [e]; exact q.same hx ho hd sb
        · exact q.same (R.key p z) ho hd sb
      have nd1 : (L1.map (·.2)).Nodup := (pm.map (·.2)).nodup_iff.mpr (by rw [List.map_cons]; exact List.nodup_cons.mpr ⟨hm, R.nd⟩)
      have ld1 : w.params.followText "set-order" = true ∨ t2.led = true := by rw [e3]; exact R.led
      have full : t2.tooFull = decide ((L.length + 1) * 5 ≥ t.mask * 3) := by
        unfold SetTable.tooFull
        rw [e4, e2, List.length_map]
      by_cases hf : t2.tooFull = true
      · refine wp_if_pos (by simp [hf]) (wpAny_bind ?_)
        rw [full, decide_eq_true_eq] at hf
        rw [hL]
        have go : ∀ M, SetTable.sizeAbove (SetTable.grown (L.length + 1)) - 1 = M → MaskOk M → SetTable.sizeAbove (SetTable.grown (L.length + 1)) ≤ 128 → (L.length + 1) * 5 < M * 3 → L.length + 1 ≤ t.mask →
            wpAny (model P w) A (setRelay a (SetTable.grown (L.length + 1))) (fun _ s' => wpAny (model P w) A (pure true) Q E s') E { s with heap := h1 } := fun M g1 g2 g3 g4 g5 =>
          relayK (s := { s with heap := h1 }) q ho1 hex rfl er T2 (by rw [hl1, e2]; exact g5) nd1 key1 ld1 g1 g2 g3 (by rw [hl1]; exact g4) fun h2 L2 es2 ep2 t3 sb2 R2 pm2 =>
            wpAny_pure (hQ true h2 L2 es2 ep2 t3 (sb.trans sb2) R2 (fun z => absurd z hm) fun _ => pm2.trans pm)
        rcases R.tab.mok with e | e | e
        · have z : L.length = 4 := by rw [e] at hf hroom; omega
          exact go 31 (by rw [z, size_20]) (.inr (.inl rfl)) (by rw [z, size_20]; decide) (by omega) (by omega)
        · have z : L.length = 18 := by rw [e] at hf hroom; omega
          exact go 127 (by rw [z, size_76]) (.inr (.inr rfl)) (by rw [z, size_76]; decide) (by omega) (by omega)
        · rw [e] at hf
          omega
      · refine wp_if_neg (by simp [hf]) ?_
        rw [full, decide_eq_true_eq] at hf
        exact wpAny_pure (hQ true h1 L1 es1 (ep + 1) t2 sb ⟨⟨_, ho1, hex, rfl⟩, er, T2, nd1, key1, ld1, by rw [hl1, e2]; omega⟩ (fun z => absurd z hm) fun _ => pm)
    by_cases hp1 : t1.plain = true
    · exact wp_if_pos hp1 (wpAny_bind (q.val hx fun v => rest v))
    · exact wp_if_neg hp1 (wpAny_bind (wpAny_pure (rest true)))
/-- what the set has of the first i items -/
structure GotK (ks : List (Addr × κ)) (i : Nat) (L : List (Addr × κ)) : Prop where
  sub : ∀ p ∈ L, p ∈ ks.take i
  all : ∀ p ∈ ks.take i, p.2 ∈ L.map (·.2)
theorem GotK.zero (ks : List (Addr × κ)) : GotK ks 0 [] := ⟨fun _ h => (nomatch h), fun _ h => by simp at h⟩
theorem GotK.next {ks L L' : List (Addr × κ)} {i : Nat} {u : Addr × κ} (g : GotK ks i L) (h : ks[i]? = some u) (c1 : u.2 ∈ L.map (·.2) → L' = L) (c2 : u.2 ∉ L.map (·.2) → L'.Perm (u :: L)) : GotK ks (i + 1) L' := by
  have e : ks.take (i + 1) = ks.take i ++ [u] := by rw [List.take_add_one, h]; rfl
  have both : (∀ p ∈ L', p = u ∨ p ∈ L) ∧ ∀ z, z = u.2 ∨ z ∈ L.map (·.2) → z ∈ L'.map (·.2) := by
    by_cases hm : u.2 ∈ L.map (·.2)
    · rw [c1 hm]
      exact ⟨fun p hp => .inr hp, fun z hz => hz.elim (fun q => by rw [q]; exact hm) id⟩
    · have pm := c2 hm
      refine ⟨fun p hp => List.mem_cons.mp (pm.mem_iff.mp hp), fun z hz => ?_⟩
      rw [(pm.map (·.2)).mem_iff, List.map_cons, List.mem_cons]
      exact hz
  refine ⟨fun p hp => ?_, fun p hp => both.2 _ ?_⟩
  · rw [e, List.mem_append, List.mem_singleton]
    exact (both.1 p hp).elim .inr fun z => .inl (g.sub p z)
  · rw [e, List.mem_append, List.mem_singleton] at hp
    exact hp.elim (fun z => .inr (g.all p z)) fun z => .inl (by rw [z])
theorem SetK.keep (q : Qk kd) {h h' : Heap} (R : SetK kd h a L es ep t) (ha : ∀ o, h.get? a = some o → h'.get? a = some o) (hk : ∀ p ∈ L, kd.is h' p.2 p.1) : SetK kd h' a L es ep t :=
  let ⟨o, ho, r⟩ := R.ob
  ⟨⟨o, ha o ho, r⟩, R.rows, R.tab, R.nd, hk, R.led, R.room⟩
theorem setK_empty {h : Heap} (ho : h.get? a = some (newSet w)) : SetK kd h a [] #[] 0 (.fresh 0 0 (!w.params.followText "set-order")) :=
  ⟨⟨_, ho, ⟨rfl, rfl, rfl⟩, rfl⟩, rfl, ⟨List.Pairwise.nil, rfl, rfl, .inl rfl, fun _ z => (nomatch z), fun _ _ _ z => by simp at z⟩, List.nodup_nil, fun _ z => (nomatch z), by
    show _ ∨ (!w.params.followText "set-order") = true
    cases w.params.followText "set-order" with
    | true => exact .inl rfl
    | false => exact .inr rfl, by show 0 * 5 < 7 * 3; decide⟩
/-- set.update's loop over such keys -/
theorem updK (q : Qk kd) {I : Addr} {fp wr : List Addr} {G : Array GenState → Array GenState → Prop} {n : Nat} {Pv : Nat → Value → Prop} {St : Nat → Shared → Prop} {R : Result → Shared → Prop}
    (W : WalksS P w A.in1 I fp wr G n Pv St) (p : Addr) (hpf : p ∉ fp) (ks : List (Addr × κ)) (hn : n = ks.length) (hval : ∀ i v, Pv i v → ∃ u, ks[i]? = some u ∧ v = .ref u.1)
    (hd : ∀ D : List κ, D.Nodup → (∀ k ∈ D, k ∈ ks.map (·.2)) → D.length ≤ 76) (h0 : Heap) (hk : ∀ u ∈ ks, kd.is h0 u.2 u.1) (hp0 : h0.get? p = none) (hw0 : ∀ b ∈ wr, h0.get? b = none) (hr : kd.room A.in1) :
    ∀ (k i : Nat) (s : Shared), n - i = k → i ≤ n → St i s → (∀ b o, h0.get? b = some o → s.heap.get? b = some o) → (∃ L es ep t, SetK kd s.heap p L es ep t ∧ GotK ks i L) →
      (∀ s' L es ep t, Moved (p :: wr) G s s' → SetK kd s'.heap p L es ep t → GotK ks n L → R (.ok (.ret .none)) s') →
      codeAny (model P w) A (.builtin "set.update.loop" ⟨[.ref p, .ref I], []⟩) R s := by
  have hpw : p ∉ wr := fun h => hpf (W.sub _ h)
  have hsub : ∀ b ∈ wr, b ∈ p :: wr := fun b hb => List.mem_cons_of_mem _ hb
  have up : ∀ {s s' : Shared}, Moved wr G s s' → (∀ b o, h0.get? b = some o → s.heap.get? b = some o) → ∀ b o, h0.get? b = some o → s'.heap.get? b = some o := fun hm h b o e =>
    hm.heap b o (fun hb => by rw [hw0 b hb] at e; cases e) (h b o e)
  have keys : ∀ {L : List (Addr × κ)} {i : Nat} {h : Heap}, GotK ks i L → (∀ b o, h0.get? b = some o → h.get? b = some o) → ∀ u ∈ L, kd.is h u.2 u.1 := fun g h u hu =>
    q.keep (hk u (List.mem_of_mem_take (g.sub u hu))) fun o e => h _ _ e
  intro k
  induction k with
  | zero =>
    intro i s hki hi hst hs ⟨L, es, ep, t, hS, g⟩ hR
    obtain rfl : i = n := by omega
    refine codeAny_builtin F.entry_set_update_loop ?_
    rw [Around.under_plainId F.plain_set_update_loop _]
    show wpAny _ A.in1 (pyNext (.ref I) >>= _) _ _ s
    refine wpAny_bind (W.done s _ _ hst fun s' hm => ?_)
    show wpAny _ A.in1 (ret Value.none) _ _ s'
    exact wpAny_pure (hR s' L es ep t (hm.mono hsub) (hS.keep q (fun o e => hm.heap p o hpw e) (keys g (up hm hs))) g)
  | succ k ih =>
    intro i s hki hi hst hs ⟨L, es, ep, t, hS, g⟩ hR
    have hlt : i < n := by omega
    refine codeAny_builtin F.entry_set_update_loop ?_
    rw [Around.under_plainId F.plain_set_update_loop _]
    show wpAny _ A.in1 (pyNext (.ref I) >>= _) _ _ s
    refine wpAny_bind (W.item i s _ _ hlt hst fun v s' hP hst' hm => ?_)
    obtain ⟨u, hu, rfl⟩ := hval i v hP
    have hs1 := up hm hs
    have hS1 : SetK kd s'.heap p L es ep t := hS.keep q (fun o e => hm.heap p o hpw e) (keys g hs1)
    have hx : kd.is s'.heap u.2 u.1 := q.keep (hk u (List.mem_of_getElem? hu)) fun o e => hs1 _ _ e
    show wpAny _ A.in1 (holding [Value.ref u.1] (setAdd p (.ref u.1)) >>= _) _ _ s'
    refine wpAny_bind (wpAny_holding ?_)
    unfold setAdd
    refine wpAny_holding (wpAny_bind (kd.pyHash hr hx ?_))
    refine addK (s := { s' with toks := s'.toks + kd.draws u.2 }) q hS1 hx hr (fun hm' => ?_) fun b h' L' es' ep' t' hsb hS2 c1 c2 => ?_
    · have z := hd (u.2 :: L.map (·.2)) (List.nodup_cons.mpr ⟨hm', hS1.nd⟩) fun y hy => ?_
      · rw [List.length_cons, List.length_map] at z
        exact z
      · rcases List.mem_cons.mp hy with rfl | hy
        · exact List.mem_map.mpr ⟨u, List.mem_of_getElem? hu, rfl⟩
        · obtain ⟨p', hp', rfl⟩ := List.mem_map.mp hy
          exact List.mem_map.mpr ⟨p', List.mem_of_mem_take (g.sub p' hp'), rfl⟩
    · have hs2 : ∀ b o, h0.get? b = some o → h'.get? b = some o := fun b o e => (hsb.2 b (fun z => by rw [z, hp0] at e; cases e)).trans (hs1 b o e)
      refine wpAny_pure ⟨plainId_quiet F.plain_set_update_loop _, ih (i + 1) _ (by omega) hlt (W.frame _ s' _ _ hst' (Nat.le_add_right _ _) fun c hc o e => ?_) hs2 ⟨L', es', ep', t', hS2, g.next hu c1 c2⟩ fun s'' L2 es2 ep2 t2 hm2 hS3 g2 => ?_⟩
      · rw [hsb.2 c (fun h : c = p => hpf (by rw [← h]; exact hc))]; exact e
      · refine hR s'' L2 es2 ep2 t2 (Moved.trans W.gtrans ((hm.mono hsub).then_heap (Nat.le_add_right _ _) fun c o hc e => ?_) hm2) hS3 g2
        rw [hsb.2 c (fun h : c = p => hc (by rw [h]; exact List.mem_cons_self))]; exact e
/-- set(a list of such keys) -/
theorem call_setK (q : Qk kd) {l : Addr} {items : Array Value} (ks : List (Addr × κ)) {Q : Value → Shared → Prop} (hh : A.handled = none) (hl : s.heap.IsList l items) (hit : items.toList = ks.map fun u => Value.ref u.1) (hk : ∀ u ∈ ks, kd.is s.heap u.2 u.1)
    (hd : ∀ D : List κ, D.Nodup → (∀ k ∈ D, k ∈ ks.map (·.2)) → D.length ≤ 76) (hr : kd.room A.in1.in1.in1)
    (h : ∀ (g : Heap) (tk : Nat) L es ep t, SetK kd g s.heap.objs.size L es ep t → GotK ks ks.length L → (∀ b o, s.heap.get? b = some o → g.get? b = some o) → Q (.ref s.heap.objs.size) { s with heap := g, toks := tk }) :
    wpAny (model P w) A (call (.type "set") [.ref l]) Q E s := by
  have hisz : items.size = ks.length := by
    have z := congrArg List.length hit
    rw [Array.length_toList, List.length_map] at z
    exact z
  have free : ∀ b, s.heap.objs.size ≤ b → s.heap.get? b = none := fun b hb => Heap.get?_none_of_le hb
  refine call_set_gen (fun s' => ∃ L es ep t, SetK kd s'.heap s.heap.objs.size L es ep t ∧ GotK ks ks.length L) hh hl (fun s1 W hv hSf hw hst hS hk1 hR => ?_) fun g tk ⟨L, es, ep, t, hS, g'⟩ hk => h g tk L es ep t hS g' hk
  refine updK q W s.heap.objs.size hSf ks hisz (fun i v e => ?_) hd s.heap hk (free _ (Nat.le_refl _)) hw hr (items.size - 0) 0 _ (by omega) (Nat.zero_le _) hst hk1 ⟨[], #[], 0, _, setK_empty hS, GotK.zero ks⟩ fun s' L es ep t hm hS' g' => hR s' hm ⟨L, es, ep, t, hS', by rw [← hisz]; exact g'⟩
  have z : items.toList[i]? = some v := by rw [Array.getElem?_toList]; exact hv i v e
  rw [hit, List.getElem?_map] at z
  cases e : ks[i]? with
  | none => rw [e] at z; cases z
  | some u => rw [e] at z; cases z; exact ⟨u, rfl, rfl⟩
end
end L3
namespace L3
open PySem PySem.Spec PyProof.Rows L2
/-! ### rows of texts: their order -/
def rowP (r : List Str) : PyData := .tuple (r.map .str)
def rle : List Str → List Str → Bool := PySem.W.dataLe false rowP
theorem rle_total : PySem.W.TotalLe rle := PySem.W.sortLe_total (PyProof.Rows.listOrd PyProof.Rows.itemOrd) false fun r => PySem.W.keyToks (rowP r)
theorem toks_row : ∀ (xs ys : List Str), PySem.W.keyToksAll (xs.map .str) = PySem.W.keyToksAll (ys.map .str) → xs = ys
  | [], [], _ => rfl
  | [], y :: ys, h => by
    rw [List.map_nil, List.map_cons, PySem.W.toks_all_cons, PySem.W.keyToksAll] at h
    injection h with h1 h2
    injection h1 with h1
    exact absurd h1 (by decide)
  | x :: xs, [], h => by
    rw [List.map_nil, List.map_cons, PySem.W.toks_all_cons, PySem.W.keyToksAll] at h
    injection h with h1 h2
    injection h1 with h1
    exact absurd h1 (by decide)
  | x :: xs, y :: ys, h => by
    rw [List.map_cons, List.map_cons, PySem.W.toks_all_cons, PySem.W.toks_all_cons, PySem.W.keyToks, PySem.W.keyToks] at h
    injection h with _ h
    injection h with h1 h2
    injection h1 with h1
    rw [PySem.W.str_of_cps h1, toks_row xs ys h2]
theorem rle_anti {a b : List Str} (h1 : rle a b = true) (h2 : rle b a = true) : a = b := by
  have e1 : (!PyProof.Rows.lexLt PyProof.Rows.itemOrd (PySem.W.keyToks (rowP b)) (PySem.W.keyToks (rowP a))) = true := h1
  have e2 : (!PyProof.Rows.lexLt PyProof.Rows.itemOrd (PySem.W.keyToks (rowP a)) (PySem.W.keyToks (rowP b))) = true := h2
  rw [Bool.not_eq_true'] at e1 e2
  have e := (PyProof.Rows.listOrd PyProof.Rows.itemOrd).total _ _ e2 e1
  exact toks_row a b (by simpa only [rowP, PySem.W.keyToks] using e)
def rsort (l : List (List Str)) : List (List Str) := l.mergeSort rle
theorem rsort_perm (l : List (List Str)) : (rsort l).Perm l := List.mergeSort_perm _ _
theorem rsort_pw (l : List (List Str)) : (rsort l).Pairwise (fun a b => rle a b = true) := PySem.W.sort_pairwise rle_total l
theorem pw_eq {α : Type} {r : α → α → Prop} (anti : ∀ a b, r a b → r b a → a = b) : ∀ {l m : List α}, l.Perm m → l.Pairwise r → m.Pairwise r → l = m
  | [], m, p, _, _ => (List.nil_perm.mp p).symm
  | x :: l, [], p, _, _ => absurd p.length_eq (by simp)
  | x :: l, y :: m, p, h1, h2 => by
    have e : x = y := by
      rcases List.mem_cons.mp (p.mem_iff.mp List.mem_cons_self) with h | h
      · exact h
      · rcases List.mem_cons.mp (p.mem_iff.mpr (List.mem_cons_self (a := y) (l := m))) with z | z
        · exact z.symm
        · exact anti _ _ ((List.pairwise_cons.mp h1).1 y z) ((List.pairwise_cons.mp h2).1 x h)
    subst e
    rw [pw_eq anti (List.Perm.cons_inv p) (List.pairwise_cons.mp h1).2 (List.pairwise_cons.mp h2).2]
theorem rsort_eq {l m : List (List Str)} (p : l.Perm m) : rsort l = rsort m :=
  pw_eq (fun _ _ => rle_anti) ((rsort_perm l).trans (p.trans (rsort_perm m).symm)) (rsort_pw l) (rsort_pw m)
/-- each once -/
def dd {α : Type} [DecidableEq α] (l : List α) : List α := l.foldl (fun acc x => if x ∈ acc then acc else acc ++ [x]) []
theorem dd_go {α : Type} [DecidableEq α] : ∀ (l acc : List α), acc.Nodup → (l.foldl (fun acc x => if x ∈ acc then acc else acc ++ [x]) acc).Nodup ∧ ∀ z, z ∈ l.foldl (fun acc x => if x ∈ acc then acc else acc ++ [x]) acc ↔ z ∈ acc ∨ z ∈ l
  | [], acc, h => ⟨h, fun z => by simp⟩
  | x :: l, acc, h => by
    rw [List.foldl_cons]
    by_cases e : x ∈ acc
    · rw [if_pos e]
      obtain ⟨h1, h2⟩ := dd_go l acc h
      refine ⟨h1, fun z => ?_⟩
      rw [h2, List.mem_cons]
      exact ⟨fun q => q.elim .inl fun q => .inr (.inr q), fun q => q.elim .inl fun q => q.elim (fun q => .inl (by rw [q]; exact e)) .inr⟩
    · rw [if_neg e]
      obtain ⟨h1, h2⟩ := dd_go l (acc ++ [x]) (by
        rw [List.nodup_append]
        exact ⟨h, by simp, fun a ha b hb => by rw [List.mem_singleton.mp hb]; exact fun q => e (by rw [← q]; exact ha)⟩)
      refine ⟨h1, fun z => ?_⟩
      rw [h2, List.mem_append, List.mem_singleton, List.mem_cons, or_assoc]
theorem dd_nodup {α : Type} [DecidableEq α] (l : List α) : (dd l).Nodup := (dd_go l [] List.nodup_nil).1
theorem dd_mem {α : Type} [DecidableEq α] {l : List α} {z : α} : z ∈ dd l ↔ z ∈ l := by
  have h := (dd_go l [] List.nodup_nil).2 z
  rw [show z ∈ dd l ↔ _ from h]; simp
theorem dd_snoc {α : Type} [DecidableEq α] {l : List α} {x : α} [Decidable (x ∈ dd l)] : dd (l ++ [x]) = if x ∈ dd l then dd l else dd l ++ [x] := by
  rw [dd, List.foldl_append, List.foldl_cons, List.foldl_nil]
  by_cases h : x ∈ dd l
  · rw [if_pos h, if_pos (show x ∈ List.foldl _ [] l from h)]; rfl
  · rw [if_neg h, if_neg (show x ∉ List.foldl _ [] l from h)]; rfl
theorem dd_perm {α : Type} [DecidableEq α] {l m : List α} (h : m.Nodup) (e : ∀ z, z ∈ m ↔ z ∈ l) : m.Perm (dd l) :=
  (List.perm_ext_iff_of_nodup h (dd_nodup l)).mpr fun z => (e z).trans dd_mem.symm
theorem row_alike : ∀ (xs ys : List Str), PySem.W.alikeAll (xs.map .str) (ys.map .str) = true
  | [], _ => by rw [List.map_nil, PySem.W.alikeAll]
  | _ :: _, [] => by rw [List.map_cons, List.map_nil, PySem.W.alikeAll]
  | x :: xs, y :: ys => by
    rw [List.map_cons, List.map_cons, PySem.W.alikeAll, row_alike xs ys, PySem.W.alike]; rfl
theorem rows_alike (l : List (List Str)) : PySem.W.AllAlike (l.map rowP) := PySem.W.AllAlike.of fun a b => by rw [rowP, rowP, PySem.W.alike]; exact row_alike a b
theorem depth_strs : ∀ r : List Str, PyData.depthAll (r.map .str) = 0
  | [] => by rw [List.map_nil, PyData.depthAll]
  | x :: r => by rw [List.map_cons, PyData.depthAll, depth_strs r, PyData.depth]; rfl
theorem row_depth (r : List Str) : (rowP r).depth ≤ 1 := by rw [rowP, PyData.depth, depth_strs]; omega
/-! ### tuples of texts as keys -/
section
variable {P : Program} {w : World}
abbrev kT (P : Program) (w : World) : HeapKind P w (List Str) := tupleKind (PySem.strKind P w)
theorem items_strs {k : List Str} {vs : List Value} (h : ItemsAre (PySem.strKind P w) k vs) : StrsAre vs k := by
  induction h with
  | nil => exact .nil
  | @cons k0 v ks vs h1 _ ih =>
    obtain ⟨t, rfl⟩ := Value.isStrOf_shape h1
    exact .cons k0 t ih
theorem strs_items {k : List Str} {vs : List Value} (h : StrsAre vs k) : ItemsAre (PySem.strKind P w) k vs := by
  induction h with
  | nil => exact .nil
  | cons x t _ ih => exact .cons (PySem.strKind_is P w x t) ih
theorem strs_mem {k : List Str} {vs : List Value} (h : StrsAre vs k) : ∀ v ∈ vs, ∃ x t, v = Value.str x t := by
  induction h with
  | nil => intro v hv; cases hv
  | cons x t _ ih =>
    intro v hv
    rcases List.mem_cons.mp hv with rfl | hv
    · exact ⟨x, t, rfl⟩
    · exact ih v hv
theorem qkT : Qk (kT P w) where
  seq h := let ⟨o, its, n, h1, _, h3, _⟩ := h; ⟨o, its, n, h1, h3⟩
  keep h k := let ⟨o, its, n, h1, r⟩ := h; ⟨o, its, n, k o h1, r⟩
  cls {A E s k b Q} h q := by
    have hT := h.typeIs
    obtain ⟨o, items, n, ho, _, hd, hi⟩ := h
    unfold ofAClassStatement
    refine wpAny_bind (wpAny_typeOf hT ?_)
    dsimp only
    simp only [show (("tuple" : String) == "tuple") = true by decide, if_true, Bool.not_true, Bool.false_eq_true, if_false]
    try refine wpAny_bind (wpAny_pure ?_)
    try simp only [Bool.not_true, Bool.false_eq_true, if_false]
    show wpAny _ _ (seqItems? (.ref b) >>= _) _ _ s
    refine wpAny_bind (wpAny_seqItems ho hd ?_)
    dsimp only
    refine wpAny_bind ?_
    show wpAny _ _ (forIn items _ _) _ _ s
    rw [← Array.forIn_toList]
    refine wpAny_forIn_list _ (fun rest r s' => r.1 = none ∧ s' = s ∧ ∀ v ∈ rest, ∃ x t, v = Value.str x t) _ ?_ ?_ _ _ ⟨rfl, rfl, strs_mem (items_strs hi)⟩
    · rintro v rest r s' ⟨_, rfl, all⟩
      obtain ⟨x, t, rfl⟩ := all v List.mem_cons_self
      refine wpAny_bind (show wpAny _ _ (ofAClassStatement 7 (.str x t)) _ _ _ from wpAny_pure ?_)
      simp only [Bool.false_eq_true, if_false]
      exact wpAny_pure ⟨rfl, rfl, fun u hu => all u (List.mem_cons_of_mem _ hu)⟩
    · rintro ⟨r1, r2⟩ s' ⟨e, rfl, _⟩
      simp only at e
      subst e
      exact wpAny_pure q
  val {A E s k b Q} h q := by
    have hT := h.typeIs
    obtain ⟨o, items, n, ho, _, hd, hi⟩ := h
    unfold hashByValue
    refine wpAny_bind (wpAny_specialOf hT F.slot_tuple_hash.lookup ?_)
    show wpAny _ _ (seqItems? (.ref b) >>= _) _ _ s
    refine wpAny_bind (wpAny_seqItems ho hd ?_)
    refine wpAny_bind ?_
    show wpAny _ _ (forIn items _ _) _ _ s
    rw [← Array.forIn_toList]
    refine wpAny_forIn_list _ (fun rest r s' => r.1 = none ∧ s' = s ∧ ∀ v ∈ rest, ∃ x t, v = Value.str x t) _ ?_ ?_ _ _ ⟨rfl, rfl, strs_mem (items_strs hi)⟩
    · rintro v rest r s' ⟨_, rfl, all⟩
      obtain ⟨x, t, rfl⟩ := all v List.mem_cons_self
      refine wpAny_bind (show wpAny _ _ (hashByValue 7 (.str x t)) _ _ _ from wpAny_pure ?_)
      simp only [Bool.not_false, if_true]
      exact wpAny_pure (wpAny_pure (q false))
    · rintro ⟨r1, r2⟩ s' ⟨e, rfl, _⟩
      simp only at e
      subst e
      exact wpAny_pure (q true)
end
end L3
namespace L3
open PySem PySem.Spec PyProof.Rows L2
theorem nodup_lenG {α : Type} [DecidableEq α] : ∀ {l k : List α}, l.Nodup → (∀ c ∈ l, c ∈ k) → l.length ≤ k.length
  | [], _, _, _ => Nat.zero_le _
  | c :: l, k, h, s => by
    obtain ⟨h1, h2⟩ := List.nodup_cons.mp h
    have ih := nodup_lenG (l := l) (k := k.erase c) h2 fun y hy => (List.mem_erase_of_ne (fun e => h1 (by rw [← e]; exact hy))).mpr (s y (List.mem_cons_of_mem _ hy))
    have e := List.length_erase_of_mem (s c List.mem_cons_self)
    have hp := List.length_pos_of_mem (s c List.mem_cons_self)
    rw [List.length_cons]
    omega
theorem perm_map_inv {α β : Type} {f : α → β} {l1 l2 : List β} (h : l1.Perm l2) : ∀ L : List α, l2 = L.map f → ∃ L1 : List α, L1.Perm L ∧ l1 = L1.map f := by
  induction h with
  | nil => intro L e; exact ⟨L, List.Perm.refl _, e⟩
  | @cons x l1 l2 p ih =>
    intro L e
    cases L with
    | nil => cases e
    | cons y L =>
      rw [List.map_cons] at e
      injection e with e1 e2
      obtain ⟨L1, p1, e3⟩ := ih L e2
      exact ⟨y :: L1, p1.cons y, by rw [List.map_cons, ← e1, e3]⟩
  | swap x y l =>
    intro L e
    match L, e with
    | [], e => cases e
    | [_], e => cases e
    | a :: b :: L, e =>
      rw [List.map_cons, List.map_cons] at e
      injection e with e1 e2
      injection e2 with e2 e3
      exact ⟨b :: a :: L, List.Perm.swap .., by rw [List.map_cons, List.map_cons, ← e1, ← e2, ← e3]⟩
  | trans _ _ ih1 ih2 =>
    intro L e
    obtain ⟨L2, p2, e2⟩ := ih2 L e
    obtain ⟨L1, p1, e1⟩ := ih1 L2 e2
    exact ⟨L1, p1.trans p2, e1⟩
theorem each_ref {β : Type} {g : β → Addr} : ∀ L : List β, PySem.W.EachIs (fun v p => v = Value.ref (g p)) (L.map fun p => Value.ref (g p)) L
  | [] => .nil
  | p :: L => .cons rfl (each_ref L)
theorem each_ref_inv {β : Type} {g : β → Addr} : ∀ {out : List Value} {L : List β}, PySem.W.EachIs (fun v p => v = Value.ref (g p)) out L → out = L.map fun p => Value.ref (g p)
  | _, _, .nil => rfl
  | _, _, .cons h t => by rw [h, each_ref_inv t]; rfl
theorem each_of {α β : Type} {R R' : α → β → Prop} : ∀ {as : List α} {bs : List β}, PySem.W.EachIs R as bs → (∀ a b, b ∈ bs → R a b → R' a b) → PySem.W.EachIs R' as bs
  | _, _, .nil, _ => .nil
  | _, _, .cons h t, k => .cons (k _ _ List.mem_cons_self h) (each_of t fun a b hb => k a b (List.mem_cons_of_mem _ hb))
section
variable {P : Program} {w : World} {A : Around} {E : Value → Shared → Prop} {s : Shared}
theorem reads_strs {h : Heap} : ∀ {vs : List Value} {k : List Str}, StrsAre vs k → ReadsAll h vs (k.map .str) []
  | _, _, .nil => .nil
  | _, _, .cons x t r => by
    have := ReadsAll.cons (Reads.str (h := h) x t) (reads_strs (h := h) r)
    simpa using this
theorem reads_row {h : Heap} {k : List Str} {b : Addr} (x : (kT P w).is h k b) : Reads h (.ref b) (rowP k) [] := by
  obtain ⟨o, its, n, h1, h2, h3, h4⟩ := x
  exact .tuple h1 h2 h3 (reads_strs (items_strs h4))
theorem sorted_setK {a : Addr} {L : List (Addr × List Str)} {es : Array (Int × Value)} {ep : Nat} {t : SetTable} {Q : Value → Shared → Prop} (R : SetK (kT P w) s.heap a L es ep t) (hh : A.handled = none) (ne : ∀ p ∈ L, p.2 ≠ []) (hu : A.units + 64 < cLine)
    (hQ : ∀ s' q (out : Array Value) (c : Nat) (L' : List (Addr × List Str)), (∀ b o, s.heap.get? b = some o → s'.heap.get? b = some o) → s'.gens = s.gens → s'.os = s.os → s.heap.objs.size ≤ q →
      s'.heap.get? q = some (seqObj "list" out c) → out.toList = L'.map (fun p => Value.ref p.1) → L'.Perm L → L'.map (·.2) = rsort (L.map (·.2)) → Q (.ref q) s') :
    wpAny (model P w) A (call (.builtin "sorted") [.ref a]) Q E s := by
  have hfew := R.few
  obtain ⟨o, ho, hex, hd⟩ := R.ob
  refine Calls.call_function_entry kind_sorted plain_sorted entry_sorted (args_sorted1 _) ?_
  unfold Builtin.«sorted»
  refine wpAny_bind (m := checkCount "sorted" 1 1 _) (wpAny_pure ?_)
  refine wpAny_bind (collect_set (A := A.in1) hh ⟨o, ho, hex.1, hd⟩ R.fit (by rw [rowsK_size R.rows]; unfold scanBound; omega) R.tab.ris R.led fun s1 vs k1 hz g1 o1 pm => ?_)
  have hes : es.toList.map (·.2) = L.map fun p => Value.ref p.1 := by
    rw [R.rows, rowsK, List.map_map]; rfl
  rw [hes] at pm
  obtain ⟨L1, pL, rfl⟩ := perm_map_inv pm L rfl
  have hl1 : L1.length ≤ 76 := by rw [pL.length_eq]; exact hfew
  refine wpAny_bind (wpAny_newList ?_ (by rw [List.length_map, sizeLine_eq]; omega))
  have hoL : (s1.heap.push (seqObj "list" (L1.map fun p => Value.ref p.1).toArray 0)).get? s1.heap.objs.size = some (seqObj "list" (L1.map fun p => Value.ref p.1).toArray 0) := Heap.get?_push_size _ rfl
  refine wpAny_bind (wpAny_holding (PySem.W.list_sort_data (s := { s1 with heap := s1.heap.push (seqObj "list" (L1.map fun p => Value.ref p.1).toArray 0) }) (bs := L1) (enc := fun p : Addr × List Str => rowP p.2) (R := fun v p => v = Value.ref p.1) hoL (each_ref L1)
    (each_of (each_ref L1) fun v p hp e => ⟨[], by
      rw [e]
      exact reads_row (P := P) (w := w) (qkT.keep (R.key p (pL.mem_iff.mp hp)) fun o e => Heap.get?_push_of_some _ (k1 _ _ e)), by simp⟩)
    (PySem.W.AllAlike.of fun a b => by rw [rowP, rowP, PySem.W.alike]; exact row_alike _ _) (.inl fun d hd => ?_) (by rw [sizeLine_eq]; omega) (fun b hb => ?_) fun out hl he => ?_))
  · obtain ⟨p, hp, rfl⟩ := List.mem_map.mp hd
    have := ne p (pL.mem_iff.mp hp)
    cases e : p.2 with
    | nil => exact absurd e this
    | cons x r => exact ⟨.str x, r.map .str, by rw [rowP, List.map_cons]⟩
  · have := row_depth b.2
    show A.units + 1 + 1 + (rowP b.2).depth < cLine
    omega
  · have e1 := each_ref_inv he
    subst e1
    obtain ⟨c, hc⟩ := sortedHeap_at (vs := L1.map fun p => Value.ref p.1) (out := (List.map (fun p => Value.ref p.1) (L1.mergeSort (PySem.W.dataLe false fun p => rowP p.2))).toArray) hoL
    refine wpAny_pure ⟨_, rfl, hQ _ s1.heap.objs.size _ c (L1.mergeSort (PySem.W.dataLe false fun p => rowP p.2)) (fun b u e => ?_) g1 o1 hz hc (by simp) ((List.mergeSort_perm _ _).trans pL) ?_⟩
    · have q := k1 b u e
      have hlt := Heap.lt_size q
      show (sortedHeap (s1.heap.push _) s1.heap.objs.size _ _).get? b = some u
      rw [sortedHeap_old (Nat.ne_of_lt hlt) (by rw [size_push']; exact Nat.lt_succ_of_lt hlt)]
      exact Heap.get?_push_of_some _ q
    · rw [PySem.W.sort_maps (r := PySem.W.dataLe false fun p : Addr × List Str => rowP p.2) (s := rle) (fun p : Addr × List Str => p.2) fun _ _ _ _ => rfl]
      exact rsort_eq (pL.map _)
end
end L3
namespace L3
open PySem PySem.Spec PyProof.Rows L2
/-! ### sorted(set(rows)), sorted(rows) -/
def rowT (r : List Str) : D := .tup (r.map D.str)
section
variable {K : PySem.W.Frag} {H : Hp} {N : Addr → Prop}
theorem rows_ks : ∀ {rows : List (List Str)} {vs : List V}, Reps K H N (rows.map rowT) vs → ∃ ks : List (Addr × List Str), vs = ks.map (fun p => V.ref p.1) ∧ ks.map (·.2) = rows ∧ ∀ p ∈ ks, TupAt K H N p.1 (p.2.map V.str)
  | [], _, r => by
    rw [List.map_nil] at r
    rw [reps_nil.mp r]
    exact ⟨[], rfl, rfl, fun _ h => nomatch h⟩
  | x :: rows, _, r => by
    rw [List.map_cons] at r
    obtain ⟨v, ws, rfl, r1, r2⟩ := reps_cons.mp r
    obtain ⟨a, us, rfl, t, q⟩ := rep_tup.mp r1
    obtain rfl := vals_strD (xs := x) q
    obtain ⟨ks, rfl, rfl, h⟩ := rows_ks r2
    exact ⟨(a, x) :: ks, rfl, rfl, fun p hp => (List.mem_cons.mp hp).elim (fun e => by rw [e]; exact t) (h p)⟩
theorem ks_rows : ∀ {ks : List (Addr × List Str)}, (∀ p ∈ ks, TupAt K H N p.1 (p.2.map V.str)) → Reps K H N ((ks.map (·.2)).map rowT) (ks.map fun p => V.ref p.1)
  | [], _ => reps_nil.mpr rfl
  | p :: ks, h => by
    rw [List.map_cons, List.map_cons, List.map_cons]
    exact reps_cons.mpr ⟨_, _, rfl, rep_tup.mpr ⟨p.1, _, rfl, h p List.mem_cons_self, reps_strD⟩, ks_rows fun q hq => h q (List.mem_cons_of_mem _ hq)⟩
theorem ref_vals : ∀ {ks : List (Addr × List Str)} {us : List Value}, Vals (ks.map fun p => V.ref p.1) us → us = ks.map fun p => Value.ref p.1
  | [], _, .nil => rfl
  | p :: ks, _, .cons r t => by
    cases r
    rw [ref_vals t]; rfl
theorem vals_ref : ∀ ks : List (Addr × List Str), Vals (ks.map fun p => V.ref p.1) (ks.map fun p => Value.ref p.1)
  | [] => .nil
  | p :: ks => .cons rfl (vals_ref ks)
end
section
variable {X : Cx} {pos : Pos}
theorem inv_row {pins : List (Addr × Obj)} {σ : L2.St} {H : Hp} {s : Shared} {b : Addr} {k : List Str} (I : Inv X pins σ H s) (h : SqT X.K H b (k.map V.str)) : (kT X.prog X.w).is s.heap k b := by
  obtain ⟨its, r, ⟨o, ho, hc, n, hd⟩, _⟩ := I.tuple h
  exact ⟨o, its.toArray, n, ho, hc, hd, by simpa using strs_items (strs_vals r)⟩
def tSsetT (K : PySem.W.Frag) (ta : TE) : TE := fun σ H Q => ta σ H fun x H1 => ∃ (l : Addr) (ks : List (Addr × List Str)), x = .ref l ∧ H1 l = some (.lst (ks.map fun p => V.ref p.1)) ∧ (∀ p ∈ ks, SqT K H1 p.1 (p.2.map V.str)) ∧ (dd (ks.map (·.2))).length ≤ 76 ∧ (∀ p ∈ ks, p.2 ≠ []) ∧
  ∀ (L : List (Addr × List Str)) (p : Addr), (∀ q ∈ L, q ∈ ks) → L.map (·.2) = rsort (dd (ks.map (·.2))) → H1 p = none → Q (.ref p) (upd H1 p (.lst (L.map fun p => V.ref p.1)))
theorem pe_ssetT {a : Expr} {ta : TE} {p p2 q : Pos} (hu : X.A.units + 65 < cLine) (hc : X.calm = true) (hg : Gl X "sorted") (hm : X.mg "sorted" = none) (hg2 : Gl X "set") (hm2 : X.mg "set" = none) (ha : PE X a ta)
    (na : starEach [a] X.env = (false, eval a X.env) :: starEach [] X.env := by rfl) : PE X (.Call (.Name "sorted" p) [.Call (.Name "set" p2) [a] [] q] [] pos) (tSsetT X.K ta) := by
  refine ⟨fun pins s σ H Q I h => ?_⟩
  refine Call_ (ld_blt I hg hm boot_sorted ?_)
  refine PyProof.Rows.callWith_builtin1 (PyProof.Rows.args_cons ?_ rfl) rfl rfl
  refine Call_ (ld_blt I hg2 hm2 boot_set ?_)
  refine PyProof.Rows.callWith_type1 (PyProof.Rows.args_cons (thn (ha.run pins s σ H _ I h) fun v s1 ⟨x, H1, I1, r1, q1⟩ => PyProof.Rows.args_nil ?_) na) na rfl
  obtain ⟨l, ks, rfl, hl, hk, h76, ne, q1⟩ := q1
  cases r1
  obtain ⟨its, r, pl, hz⟩ := I1.list (SqL.of hl : SqL X.K H1 l _)
  refine call_setK qkT ks (I1.ok.hd hc) pl.isList (by simpa using ref_vals r) (fun p hp => inv_row I1 (hk p hp)) (fun D nd hD => ?_) (show X.A.units + 1 + 1 + 1 < cLine by omega) fun g tk L es ep t hS hG hk1 => ?_
  · refine Nat.le_trans ?_ h76
    have hs : ∀ z ∈ D, z ∈ dd (ks.map (·.2)) := fun z hz => dd_mem.mpr (hD z hz)
    exact nodup_lenG nd hs
  have I2 : L2.Inv X pins σ H1 { s1 with heap := g, toks := tk } := I1.kept hk1
  refine PyProof.Rows.args_nil ?_
  have sub : ∀ p ∈ L, p ∈ ks := fun p hp => List.mem_of_mem_take (hG.sub p hp)
  refine sorted_setK hS (I2.ok.hd hc) (fun p hp => ne p (sub p hp)) (by omega) fun s' p out c L' k hgen ho hp hg' ho' hperm he => ?_
  have hlen : (L'.map fun p => V.ref p.1).length ≤ sizeLine := by
    have := SetK.few (s := { s1 with heap := g, toks := tk }) hS
    rw [List.length_map, hperm.length_eq, sizeLine_eq]; omega
  have hn : H1 p = none := I2.hok.fresh hp
  have hsame : rsort (L.map (·.2)) = rsort (dd (ks.map (·.2))) := rsort_eq (dd_perm hS.nd fun z => ⟨fun hz => by
      obtain ⟨p', hp', rfl⟩ := List.mem_map.mp hz
      exact List.mem_map.mpr ⟨p', sub p' hp', rfl⟩, fun hz => by
      obtain ⟨p', hp', rfl⟩ := List.mem_map.mp hz
      exact hG.all p' (by rw [List.take_length]; exact hp')⟩)
  refine ⟨.ref p, upd H1 p (.lst (L'.map fun p => V.ref p.1)), ?_, rfl, q1 L' p (fun q hq => sub q (hperm.mem_iff.mp hq)) (he.trans hsame) hn⟩
  exact I2.call' (ch := []) ho (Un.laid k hp hn) (I2.hok.laid k hp ⟨hlen, out.toList, c, by rw [ho']; exact vals_ref L', hg'⟩) (by rw [hgen]; exact I2.bare) (fun _ z => nomatch z)
def aSsetT (t : AEt) : AEt := fun δ m Q => t δ m fun d m1 => ∃ rows : List (List Str), lstOf m1 d = some (rows.map rowT) ∧ (dd rows).length ≤ 76 ∧ (∀ r ∈ rows, r ≠ []) ∧ Q (.lst ((rsort (dd rows)).map rowT)) m1
theorem ae_ssetT {a : Expr} {t : AEt} {p p2 q : Pos} (hu : X.A.units + 65 < cLine) (hm : X.mg "sorted" = none) (hm2 : X.mg "set" = none) (h : AE X a t) (hc : X.calm = true := by rfl) (hg : Gl X "sorted" := by rfl) (hg2 : Gl X "set" := by rfl)
    (na : starEach [a] X.env = (false, eval a X.env) :: starEach [] X.env := by rfl) : AE X (.Call (.Name "sorted" p) [.Call (.Name "set" p2) [a] [] q] [] pos) (aSsetT t) :=
  let ⟨_, pa, s⟩ := h.ex
  ⟨_, pe_ssetT hu hc hg hm hg2 hm2 pa na, fun B δ m Q σ H W E h Q' k => s B δ m _ σ H W E h _ fun d m1 v H1 s1 W1 r ⟨rows, hx, h76, ne, q⟩ => by
    obtain ⟨l, vs, rfl, hl, rs⟩ := lst_at W1 r hx
    obtain ⟨ks, rfl, rfl, hk⟩ := rows_ks rs
    refine ⟨l, ks, rfl, hl, fun p hp => (hk p hp).sq, h76, fun p hp => ne _ (List.mem_map.mpr ⟨p, hp, rfl⟩), fun L p hL he hp => ?_⟩
    rw [← he] at q
    exact (k.step s1).lst W1 (ks_rows fun q hq => hk q (hL q hq)) q hp⟩
/-- sorted of a list of rows -/
def rcSortR : SpD := fun ds m Q => ∃ x rows, ds = [x] ∧ lstOf m x = some (rows.map rowT) ∧ (∀ r ∈ rows, r ≠ []) ∧ Q (.lst ((rsort rows).map rowT)) m
theorem cr_sortR (hc : X.calm = true) (hu : X.A.units + 65 < cLine) : CallR X (.builtin "sorted") (rcOf X.K rcSortR) := by
  intro pins s σ H xs us Q' I r h
  obtain ⟨B, m, ds, Q, W, rs, ⟨x, rows, rfl, hx, ne, q⟩, k⟩ := h
  obtain ⟨v, rfl, r1⟩ := reps1 rs
  obtain ⟨l, vs, rfl, hl, rz⟩ := lst_at W r1 hx
  obtain ⟨ks, rfl, rfl, hk⟩ := rows_ks rz
  obtain ⟨u, rfl, ru⟩ := vals1 r
  cases ru
  obtain ⟨its, rv, pl, hz⟩ := I.list (SqL.of hl : SqL X.K H l _)
  rw [List.length_map] at hz
  obtain rfl := ref_vals rv
  have hk2 : ∀ p ∈ ks, (kT X.prog X.w).is s.heap p.2 p.1 := fun p hp => inv_row I (hk p hp).sq
  refine PySem.W.sorted_data (bs := ks) (enc := fun p : Addr × List Str => rowP p.2) (R := fun v p => v = Value.ref p.1) pl.isList (each_ref ks) (each_of (each_ref ks) fun v p hp e => ⟨[], by rw [e]; exact reads_row (hk2 p hp)⟩)
    (PySem.W.AllAlike.of fun a b => by rw [rowP, rowP, PySem.W.alike]; exact row_alike _ _) (.inl fun d hd => ?_) hz (fun b hb => ?_) fun out ho he => ?_
  · obtain ⟨p, hp, rfl⟩ := List.mem_map.mp hd
    have := ne p.2 (List.mem_map.mpr ⟨p, hp, rfl⟩)
    cases e : p.2 with
    | nil => exact absurd e this
    | cons x r => exact ⟨.str x, r.map .str, by rw [rowP, List.map_cons]⟩
  · have := row_depth b.2
    omega
  · obtain rfl := each_ref_inv he
    have hp : H (s.heap.objs.size + 1) = none := I.hok.fresh (Nat.le_succ _)
    have e : rsort (ks.map (·.2)) = (ks.mergeSort (PySem.W.dataLe false fun p : Addr × List Str => rowP p.2)).map (·.2) := (PySem.W.sort_maps (r := PySem.W.dataLe false fun p : Addr × List Str => rowP p.2) (s := rle) (fun p : Addr × List Str => p.2) fun _ _ _ _ => rfl).symm
    rw [e] at q
    have q2 := k.lst W (ks_rows (ks := ks.mergeSort (PySem.W.dataLe false fun p : Addr × List Str => rowP p.2)) fun p hp => hk p (List.mem_mergeSort.mp hp)) q hp
    obtain ⟨c, hc⟩ := sortedAll_at s.heap (ks.map fun p => Value.ref p.1) ((ks.mergeSort (PySem.W.dataLe false fun p : Addr × List Str => rowP p.2)).map fun p => Value.ref p.1).toArray
    exact ⟨.ref (s.heap.objs.size + 1), _, I.laid (t' := s.toks) (o := .lst ((ks.mergeSort (PySem.W.dataLe false fun p : Addr × List Str => rowP p.2)).map fun p => V.ref p.1)) (fun _ _ => sortedAll_old) (Nat.le_succ _) ⟨by rw [List.length_map, List.length_mergeSort]; exact hz, _, c, vals_ref _, by simpa using hc⟩, rfl, q2⟩
end
end L3
/-! L20: what is put together: forms, sheaves. -/
namespace L3
open PySem PySem.Spec PyProof.Rows L2
/-! ### lists of pairs as dicts -/
section
variable {α : Type}
def putA (l : List (Nat × α)) (c : Nat) (x : α) : List (Nat × α) := if (l.any fun p => decide (p.1 = c)) = true then l.map (fun p => if p.1 = c then (p.1, x) else p) else l ++ [(c, x)]
theorem putA_keys (l : List (Nat × α)) (c : Nat) (x : α) : (putA l c x).map (·.1) = if c ∈ l.map (·.1) then l.map (·.1) else l.map (·.1) ++ [c] := by
  unfold putA
  have e : (l.any fun p => decide (p.1 = c)) = true ↔ c ∈ l.map (·.1) := by
    rw [List.any_eq_true, List.mem_map]
    exact ⟨fun ⟨p, h, q⟩ => ⟨p, h, of_decide_eq_true q⟩, fun ⟨p, h, q⟩ => ⟨p, h, decide_eq_true q⟩⟩
  by_cases h : c ∈ l.map (·.1)
  · rw [if_pos (e.mpr h), if_pos h, List.map_map]
    exact List.map_congr_left fun p _ => by
      show (if p.1 = c then (p.1, x) else p).1 = p.1
      split <;> rfl
  · rw [if_neg (fun z => h (e.mp z)), if_neg h, List.map_append]; rfl
theorem putA_nodup {l : List (Nat × α)} {c : Nat} {x : α} (h : (l.map (·.1)).Nodup) : ((putA l c x).map (·.1)).Nodup := by
  rw [putA_keys]
  split
  · exact h
  · rename_i n
    rw [List.nodup_append]
    exact ⟨h, by simp, fun a ha b hb => by rw [List.mem_singleton.mp hb]; exact fun e => n (by rw [← e]; exact ha)⟩
theorem putA_mem {l : List (Nat × α)} {c : Nat} {x : α} {p : Nat × α} (h : p ∈ putA l c x) : p = (c, x) ∨ p ∈ l ∧ p.1 ≠ c := by
  unfold putA at h
  split at h
  · obtain ⟨q, hq, e⟩ := List.mem_map.mp h
    split at e
    · rename_i e2
      exact .inl (by rw [← e, e2])
    · rename_i e2
      exact .inr ⟨by rw [← e]; exact hq, by rw [← e]; exact e2⟩
  · rename_i n
    rcases List.mem_append.mp h with h | h
    · refine .inr ⟨h, fun e => n ?_⟩
      exact List.any_eq_true.mpr ⟨p, h, decide_eq_true e⟩
    · exact .inl (List.mem_singleton.mp h)
theorem lk_cons {a : Nat} {x : α} {l : List (Nat × α)} {c : Nat} : lk ((a, x) :: l) c = if a = c then some x else lk l c := by
  unfold lk
  rw [List.find?_cons]
  by_cases h : a = c
  · simp [h]
  · simp [h]
theorem lk_app {l r : List (Nat × α)} {c : Nat} : lk (l ++ r) c = (lk l c).or (lk r c) := by
  unfold lk
  rw [List.find?_append]
  cases l.find? (fun p => decide (p.1 = c)) <;> rfl
theorem lk_put (c d : Nat) (x : α) : ∀ l : List (Nat × α), lk (putA l c x) d = if d = c then some x else lk l d
  | [] => by
    show lk [(c, x)] d = _
    rw [lk_cons]
    by_cases h : c = d
    · subst h; simp
    · rw [if_neg h, if_neg (fun e => h e.symm)]
  | (a, y) :: l => by
    unfold putA
    by_cases h : a = c
    · subst h
      rw [if_pos (by simp)]
      rw [List.map_cons, if_pos rfl, lk_cons, lk_cons]
      by_cases e : a = d
      · subst e; simp
      · rw [if_neg e, if_neg e, if_neg (fun z => e z.symm)]
        have : ∀ l : List (Nat × α), lk (l.map fun p => if p.1 = a then (p.1, x) else p) d = lk l d := fun l => by
          induction l with
          | nil => rfl
          | cons p l ih =>
            obtain ⟨b, z⟩ := p
            rw [List.map_cons]
            by_cases q : b = a
            · rw [if_pos q, lk_cons, lk_cons, ih, if_neg (by rw [q]; exact e), if_neg (by rw [q]; exact e)]
            · rw [if_neg q, lk_cons, lk_cons, ih]
        exact this l
    · have ih := lk_put c d x l
      unfold putA at ih
      by_cases q : (l.any fun p => decide (p.1 = c)) = true
      · rw [if_pos q] at ih
        rw [if_pos (by rw [List.any_cons, q, Bool.or_true]), List.map_cons, if_neg h, lk_cons, lk_cons, ih]
        by_cases e : a = d
        · rw [if_pos e, if_pos e, if_neg (fun z => h (by rw [e, z]))]
        · rw [if_neg e, if_neg e]
      · rw [if_neg q] at ih
        rw [if_neg (by rw [List.any_cons, decide_eq_false h, Bool.false_or]; exact q), List.cons_append, lk_cons, lk_cons, ih]
        by_cases e : a = d
        · rw [if_pos e, if_pos e, if_neg (fun z => h (by rw [e, z]))]
        · rw [if_neg e, if_neg e]
def dropA (l : List (Nat × α)) (c : Nat) : List (Nat × α) := l.filter fun p => decide (p.1 ≠ c)
def mergeA (l r : List (Nat × α)) : List (Nat × α) := r.foldl (fun acc p => putA acc p.1 p.2) l
def addF [DecidableEq α] (xs ys : List α) : List α := xs ++ ys.filter fun y => decide (y ∉ xs)
/-- some forms of a name more -/
def addA [DecidableEq α] (l : List (Nat × List α)) (c : Nat) (ys : List α) : List (Nat × List α) := putA l c (addF ((lk l c).getD []) ys)
def bothA [DecidableEq α] (l r : List (Nat × List α)) : List (Nat × List α) := r.foldl (fun acc p => addA acc p.1 p.2) l
end
section
variable {α : Type} [DecidableEq α]
theorem bothA_snoc {l r : List (Nat × List α)} {a : Nat × List α} : bothA l (r ++ [a]) = addA (bothA l r) a.1 a.2 := by
  rw [bothA, List.foldl_append]; rfl
theorem putA_len {β : Type} {l : List (Nat × β)} {c : Nat} {x : β} : (putA l c x).length ≤ l.length + 1 := by
  unfold putA
  split
  · rw [List.length_map]; omega
  · rw [List.length_append]; exact Nat.le_refl _
theorem bothA_len {l : List (Nat × List α)} : ∀ {r : List (Nat × List α)}, (bothA l r).length ≤ l.length + r.length := by
  intro r
  induction r generalizing l with
  | nil => exact Nat.le_refl _
  | cons a r ih =>
    show (bothA (addA l a.1 a.2) r).length ≤ _
    have h1 := ih (l := addA l a.1 a.2)
    have h2 : (addA l a.1 a.2).length ≤ l.length + 1 := putA_len
    rw [List.length_cons]
    omega
theorem addA_nodup {l : List (Nat × List α)} {c : Nat} {x : List α} (h : (l.map (·.1)).Nodup) : ((addA l c x).map (·.1)).Nodup := putA_nodup h
theorem bothA_nodup {l : List (Nat × List α)} (h : (l.map (·.1)).Nodup) : ∀ {r : List (Nat × List α)}, ((bothA l r).map (·.1)).Nodup := by
  intro r
  induction r generalizing l with
  | nil => exact h
  | cons a r ih => exact ih (l := addA l a.1 a.2) (addA_nodup h)
end
/-! ### bodies -/
def Bd.ren (d n : Nat) : Bd → Bd
  | .un w a => .un w (a.ren d n)
  | .bin w a b => .bin w (a.ren d n) (b.ren d n)
  | .ite a b c => .ite (a.ren d n) (b.ren d n) (c.ren d n)
  | .set c a => .set c (a.ren d n)
  | .cal c a => .cal (if c = d then n else c) (a.ren d n)
  | b => b
/-- the names of all deeds that a body calls, each once -/
def Bd.cin : Bd → List Nat
  | .un _ a => addF [] a.cin
  | .bin _ a b => addF (addF [] a.cin) b.cin
  | .ite a b c => addF (addF (addF [] a.cin) b.cin) c.cin
  | .set _ a => addF [] a.cin
  | .cal d a => addF [d] a.cin
  | _ => []
theorem addF_nil {α : Type} [DecidableEq α] (ys : List α) : addF [] ys = ys := by
  unfold addF
  rw [List.nil_append, List.filter_eq_self]
  exact fun y _ => by simp
theorem addF_mem {α : Type} [DecidableEq α] {xs ys : List α} {z : α} : z ∈ addF xs ys ↔ z ∈ xs ∨ z ∈ ys := by
  unfold addF
  rw [List.mem_append, List.mem_filter, decide_eq_true_eq]
  exact ⟨fun h => h.imp id (·.1), fun h => by
    by_cases q : z ∈ xs
    · exact .inl q
    · exact h.elim (fun z => absurd z q) fun h => .inr ⟨h, q⟩⟩
theorem addF_nodup {α : Type} [DecidableEq α] {xs ys : List α} (h : xs.Nodup) (g : ys.Nodup) : (addF xs ys).Nodup := by
  unfold addF
  rw [List.nodup_append]
  refine ⟨h, g.filter _, fun a ha b hb e => ?_⟩
  rw [List.mem_filter, decide_eq_true_eq] at hb
  exact hb.2 (by rw [← e]; exact ha)
theorem addF_len {α : Type} [DecidableEq α] (xs ys : List α) : (addF xs ys).length ≤ xs.length + ys.length := by
  unfold addF
  rw [List.length_append]
  exact Nat.add_le_add_left (List.length_filter_le _ _) _
theorem Bd.cin_nodup : ∀ b : Bd, b.cin.Nodup
  | .num _ => List.nodup_nil
  | .tru _ => List.nodup_nil
  | .emp => List.nodup_nil
  | .arg => List.nodup_nil
  | .cel _ => List.nodup_nil
  | .un _ a => addF_nodup List.nodup_nil a.cin_nodup
  | .bin _ a b => addF_nodup (addF_nodup List.nodup_nil a.cin_nodup) b.cin_nodup
  | .ite a b c => addF_nodup (addF_nodup (addF_nodup List.nodup_nil a.cin_nodup) b.cin_nodup) c.cin_nodup
  | .set _ a => addF_nodup List.nodup_nil a.cin_nodup
  | .cal d a => addF_nodup (by simp) a.cin_nodup
theorem Bd.cin_calls : ∀ (b : Bd) (d : Nat), d ∈ b.cin ↔ d ∈ b.calls
  | .num _, d => Iff.rfl
  | .tru _, d => Iff.rfl
  | .emp, d => Iff.rfl
  | .arg, d => Iff.rfl
  | .cel _, d => Iff.rfl
  | .un _ a, d => by simp only [Bd.cin, Bd.calls, addF_nil]; exact a.cin_calls d
  | .bin _ a b, d => by simp only [Bd.cin, Bd.calls, addF_nil, addF_mem, List.mem_append, a.cin_calls d, b.cin_calls d]
  | .ite a b c, d => by simp only [Bd.cin, Bd.calls, addF_nil, addF_mem, List.mem_append, a.cin_calls d, b.cin_calls d, c.cin_calls d]
  | .set _ a, d => by simp only [Bd.cin, Bd.calls, addF_nil]; exact a.cin_calls d
  | .cal e a, d => by simp only [Bd.cin, Bd.calls, addF_mem, List.mem_cons, List.not_mem_nil, or_false, a.cin_calls d]
theorem Bd.wf_calls : ∀ (b : Bd), b.wf → ∀ d ∈ b.calls, deedC d
  | .num _, _, d, h => by simp [Bd.calls] at h
  | .tru _, _, d, h => by simp [Bd.calls] at h
  | .emp, _, d, h => by simp [Bd.calls] at h
  | .arg, _, d, h => by simp [Bd.calls] at h
  | .cel _, _, d, h => by simp [Bd.calls] at h
  | .un _ a, w, d, h => a.wf_calls w d h
  | .bin _ a b, w, d, h => (List.mem_append.mp h).elim (a.wf_calls w.1 d) (b.wf_calls w.2 d)
  | .ite a b c, w, d, h => (List.mem_append.mp h).elim (fun h => (List.mem_append.mp h).elim (a.wf_calls w.1 d) (b.wf_calls w.2.1 d)) (c.wf_calls w.2.2 d)
  | .set _ a, w, d, h => a.wf_calls w.2 d h
  | .cal e a, w, d, h => (List.mem_cons.mp h).elim (fun z => by rw [z]; exact w.1) (a.wf_calls w.2 d)
theorem Bd.ren_wf {d n : Nat} (hn : deedC n) : ∀ {b : Bd}, b.wf → (b.ren d n).wf
  | .num _, h => h
  | .tru _, h => h
  | .emp, h => h
  | .arg, h => h
  | .cel _, h => h
  | .un _ a, h => Bd.ren_wf hn (b := a) h
  | .bin _ a b, h => ⟨Bd.ren_wf hn h.1, Bd.ren_wf hn h.2⟩
  | .ite a b c, h => ⟨Bd.ren_wf hn h.1, Bd.ren_wf hn h.2.1, Bd.ren_wf hn h.2.2⟩
  | .set _ a, h => ⟨h.1, Bd.ren_wf hn h.2⟩
  | .cal e a, h => ⟨by show deedC (if e = d then n else e); split; exact hn; exact h.1, Bd.ren_wf hn h.2⟩
theorem Bd.ren_dep (d n : Nat) : ∀ b : Bd, (b.ren d n).dep = b.dep
  | .num _ => rfl
  | .tru _ => rfl
  | .emp => rfl
  | .arg => rfl
  | .cel _ => rfl
  | .un _ a => by simp only [Bd.ren, Bd.dep, a.ren_dep d n]
  | .bin _ a b => by simp only [Bd.ren, Bd.dep, a.ren_dep d n, b.ren_dep d n]
  | .ite a b c => by simp only [Bd.ren, Bd.dep, a.ren_dep d n, b.ren_dep d n, c.ren_dep d n]
  | .set _ a => by simp only [Bd.ren, Bd.dep, a.ren_dep d n]
  | .cal _ a => by simp only [Bd.ren, Bd.dep, a.ren_dep d n]
theorem Bd.ren_words (d n : Nat) : ∀ b : Bd, (b.ren d n).words = b.words
  | .num _ => rfl
  | .tru _ => rfl
  | .emp => rfl
  | .arg => rfl
  | .cel _ => rfl
  | .un _ a => by simp only [Bd.ren, Bd.words, a.ren_words d n]
  | .bin _ a b => by simp only [Bd.ren, Bd.words, a.ren_words d n, b.ren_words d n]
  | .ite a b c => by simp only [Bd.ren, Bd.words, a.ren_words d n, b.ren_words d n, c.ren_words d n]
  | .set _ a => by simp only [Bd.ren, Bd.words, a.ren_words d n]
  | .cal _ a => by simp only [Bd.ren, Bd.words, a.ren_words d n]
theorem addA_nd {α : Type} [DecidableEq α] {l : List (Nat × List α)} {c : Nat} {ys : List α} (h : ∀ a ∈ l, a.2.Nodup) (g : ys.Nodup) : ∀ a ∈ addA l c ys, a.2.Nodup := fun a ha => by
  rcases putA_mem ha with rfl | ⟨z, _⟩
  · refine addF_nodup ?_ g
    show ((lk l c).getD []).Nodup
    cases e : lk l c with
    | none => exact List.nodup_nil
    | some xs =>
      have : (c, xs) ∈ l := by
        unfold lk at e
        cases q : l.find? (fun p => decide (p.1 = c)) with
        | none => rw [q] at e; cases e
        | some p =>
          rw [q] at e
          have h1 := List.find?_some q
          have h2 := List.mem_of_find?_eq_some q
          have h3 : p.1 = c := of_decide_eq_true h1
          cases e
          rw [← h3]; exact h2
      exact h (c, xs) this
  · exact h a z
theorem bothA_nd {α : Type} [DecidableEq α] : ∀ {r l : List (Nat × List α)}, (∀ a ∈ l, a.2.Nodup) → (∀ a ∈ r, a.2.Nodup) → ∀ a ∈ bothA l r, a.2.Nodup
  | [], _, h, _ => h
  | a :: r, l, h, g => bothA_nd (r := r) (l := addA l a.1 a.2) (addA_nd h (g a List.mem_cons_self)) fun x hx => g x (List.mem_cons_of_mem _ hx)
/-- kinds, each once, are three at most -/
theorem kds_len {ks : List Kd} (h : ks.Nodup) : ks.length ≤ 3 := by
  have : ∀ l k : List Kd, l.Nodup → (∀ c ∈ l, c ∈ k) → l.length ≤ k.length := fun l k => nodup_lenG
  exact this ks [.n, .t, .l] h fun c _ => by cases c <;> simp
theorem addF_kds {xs ys : List Kd} (h : xs.Nodup) (g : ys.Nodup) : (addF xs ys).length ≤ 3 := kds_len (addF_nodup h g)
/-! ### forms -/
structure Fm where
  pn : Nat
  dn : Nat
  tk : Kd
  tl : Kd
  b : Bd
  ns : Gv
  deriving DecidableEq
def Fm.enc (f : Fm) : D := .tup [.tup [.str (sg f.pn), .str (sg f.dn)], .str f.tk.s, .str f.tl.s, f.b.enc, .tup (f.ns.map askD)]
abbrev Fms := List (Nat × List Fm)
abbrev Cks := List (Nat × List Kd)
structure Sh where
  ds : Fms
  cs : Cks
def shD (s : Fms) : List (Key × D) := s.map fun p => (.inr (sg p.1), .lst (p.2.map Fm.enc))
def csD (s : Cks) : List (Key × D) := s.map fun p => (.inr (sg p.1), .lst (ksD p.2))
/-- rising -/
def srt (l : List Nat) : List Nat := l.mergeSort fun a b => decide (a ≤ b)
theorem srt_perm (l : List Nat) : (srt l).Perm l := List.mergeSort_perm _ _
theorem srt_le (l : List Nat) : (srt l).Pairwise (· ≤ ·) := by
  have h := List.pairwise_mergeSort (le := fun a b : Nat => decide (a ≤ b)) (fun a b c h1 h2 => by simp at *; omega) (fun a b => by simp; omega) l
  exact h.imp fun z => of_decide_eq_true z
theorem srt_eq {l m : List Nat} (p : m.Perm l) (h : m.Pairwise (· ≤ ·)) : m = srt l := perm_le (p.trans (srt_perm l).symm) h (srt_le l)
theorem srt_ris {l : List Nat} (h : l.Nodup) : Rsg (srt l) := by
  have nd : (srt l).Nodup := (srt_perm l).nodup_iff.mpr h
  have := (srt_le l).and nd
  exact this.imp fun z => by omega
def askS (a : Nat × Kd × Kd) : List Str := [sg a.1, a.2.1.s, a.2.2.s]
theorem askS_inj {a b : Nat × Kd × Kd} (h : askS a = askS b) : a = b := by
  obtain ⟨a1, a2, a3⟩ := a
  obtain ⟨b1, b2, b3⟩ := b
  simp only [askS, List.cons.injEq, and_true, sg_inj, Kd.s_inj] at h
  obtain ⟨rfl, rfl, rfl⟩ := h
  rfl
theorem askD_row (a : Nat × Kd × Kd) : askD a = rowT (askS a) := rfl
def nsort (l : Gv) : Gv := l.mergeSort fun a b => rle (askS a) (askS b)
theorem nsort_rows (l : Gv) : (nsort l).map askS = rsort (l.map askS) := PySem.W.sort_maps (r := fun a b => rle (askS a) (askS b)) (s := rle) askS fun _ _ _ _ => rfl
theorem nsort_perm (l : Gv) : (nsort l).Perm l := List.mergeSort_perm _ _
theorem nsort_pw (l : Gv) : (nsort l).Pairwise fun a b => rle (askS a) (askS b) = true := by
  have h := rsort_pw (l.map askS)
  rw [← nsort_rows, List.pairwise_map] at h
  exact h
theorem nsort_eq {l m : Gv} (p : l.Perm m) : nsort l = nsort m := pw_eq (fun _ _ h1 h2 => askS_inj (rle_anti h1 h2)) ((nsort_perm l).trans (p.trans (nsort_perm m).symm)) (nsort_pw l) (nsort_pw m)
theorem nsort_of {l m : Gv} (p : m.Perm l) (h : m.Pairwise fun a b => rle (askS a) (askS b) = true) : m = nsort l := pw_eq (fun _ _ h1 h2 => askS_inj (rle_anti h1 h2)) (p.trans (nsort_perm l).symm) h (nsort_pw l)
def ren1 (d n : Nat) (a : Nat × Kd × Kd) : Nat × Kd × Kd := (if a.1 = d then n else a.1, a.2)
def Fm.ren (d n : Nat) (f : Fm) : Fm := ⟨f.pn, f.dn, f.tk, f.tl, f.b.ren d n, nsort (dd (f.ns.map (ren1 d n)))⟩
/-! ### put together -/
def shOf (p : Part) : Sh := ⟨p.ds.map fun d => (d.c, [⟨p.nm, d.c, d.tk, d.tl, d.b, gvOf p.gv (srt d.b.cin)⟩]), p.cs.map fun c => (c.1, [c.2])⟩
/-- a deed renamed in it -/
def renD (d n : Nat) (s : Fms) : Fms := s.foldl (fun acc p => p.2.foldl (fun acc f => addA acc (if p.1 = d then n else p.1) [f.ren d n]) acc) []
def putT (sh : Nat → Sh) : Tr → Sh
  | .part p => sh p
  | .wth a b => ⟨bothA (putT sh a).ds (putT sh b).ds, bothA (putT sh a).cs (putT sh b).cs⟩
  | .wout a d => ⟨dropA (putT sh a).ds d, (putT sh a).cs⟩
  | .also a d n => ⟨match lk (putT sh a).ds d with | some fs => addA (putT sh a).ds n fs | none => (putT sh a).ds, (putT sh a).cs⟩
  | .ren a d n => if d = n then putT sh a else ⟨renD d n (putT sh a).ds, bothA [] (putT sh a).cs⟩
  | .over a p => ⟨mergeA (putT sh a).ds (sh p).ds, bothA (putT sh a).cs (sh p).cs⟩
/-! ### what is wanted -/
def clashes (s : Fms) : List Nat := (s.filter fun p => decide (1 < p.2.length)).map (·.1)
def lacks (s : Fms) : List Nat := s.flatMap fun p => p.2.flatMap fun f => (f.ns.filter fun a => (lk s a.1).isNone).map (·.1)
def unfits (s : Fms) : List (Nat × Nat) := s.flatMap fun p => p.2.flatMap fun f => (f.ns.filter fun a => match lk s a.1 with
  | some gs => gs.any fun g => decide ((g.tk, g.tl) ≠ a.2)
  | none => false).map fun a => (p.1, a.1)
def twos (s : Cks) : List Nat := (s.filter fun p => decide (1 < p.2.length)).map (·.1)
def prS (p : Nat × Nat) : List Str := [sg p.1, sg p.2]
/-- pairs, rising -/
def psort (l : List (Nat × Nat)) : List (Nat × Nat) := l.mergeSort fun a b => rle (prS a) (prS b)
structure Wt where
  cl : List Nat
  la : List Nat
  un : List (Nat × Nat)
  tw : List Nat
  deriving DecidableEq
def wants (s : Sh) : Wt := ⟨srt (clashes s.ds), srt (dd (lacks s.ds)), psort (dd (unfits s.ds)), srt (twos s.cs)⟩
def Wt.enc (w : Wt) : D := .tup [.lst (strD (w.cl.map sg)), .lst (strD (w.la.map sg)), .lst ((w.un.map prS).map rowT), .lst (strD (w.tw.map sg))]
end L3
/-! L21: forms, sheaves as data. -/
namespace L3
open PySem PySem.Spec PyProof.Rows L2
theorem W1.s_inj {a b : W1} : (a.s = b.s) = (a = b) := by cases a <;> cases b <;> simp [W1.s, ofs_inj]
theorem W2.s_inj {a b : W2} : (a.s = b.s) = (a = b) := by cases a <;> cases b <;> simp [W2.s, ofs_inj]
/-- the word of a body -/
def Bd.hd : Bd → Str
  | .num _ => "number"
  | .tru _ => "truth"
  | .emp => "empty"
  | .arg => "argument"
  | .cel _ => "cell"
  | .un w _ => w.s
  | .bin w _ _ => w.s
  | .ite _ _ _ => "if"
  | .set _ _ => "set"
  | .cal _ _ => "call"
def Bd.sort : Bd → Nat
  | .num _ => 0
  | .tru _ => 1
  | .emp => 2
  | .arg => 3
  | .cel _ => 4
  | .un _ _ => 5
  | .bin _ _ _ => 6
  | .ite _ _ _ => 7
  | .set _ _ => 8
  | .cal _ _ => 9
def hdSort (z : Str) : Nat := if z = "number" then 0 else if z = "truth" then 1 else if z = "empty" then 2 else if z = "argument" then 3 else if z = "cell" then 4 else if z = "if" then 7 else if z = "set" then 8 else if z = "call" then 9 else if z = "not" ∨ z = "first" ∨ z = "rest" ∨ z = "many" then 5 else 6
theorem hdSort1 (w : W1) : hdSort w.s = 5 := by cases w <;> decide +kernel
theorem hdSort2 (w : W2) : hdSort w.s = 6 := by cases w <;> decide +kernel
theorem hd_sort (b : Bd) : hdSort b.hd = b.sort := by
  cases b with
  | un w a => exact hdSort1 w
  | bin w a c => exact hdSort2 w
  | num i => show hdSort "number" = 0; decide +kernel
  | tru i => show hdSort "truth" = 1; decide +kernel
  | emp => show hdSort "empty" = 2; decide +kernel
  | arg => show hdSort "argument" = 3; decide +kernel
  | cel c => show hdSort "cell" = 4; decide +kernel
  | ite a b c => show hdSort "if" = 7; decide +kernel
  | set c a => show hdSort "set" = 8; decide +kernel
  | cal c a => show hdSort "call" = 9; decide +kernel
theorem enc_hd (b : Bd) : ∃ r, b.enc.pd = .tuple (.str b.hd :: r) := by
  cases b <;> exact ⟨_, by simp only [Bd.enc, D.pd, pds]; rfl⟩
theorem Bd.eqv : ∀ a b : Bd, PyData.eqv a.enc.pd b.enc.pd = decide (a = b) := by
  have ne : ∀ a b : Bd, a.sort ≠ b.sort → PyData.eqv a.enc.pd b.enc.pd = decide (a = b) := fun a b h => by
    obtain ⟨r, e⟩ := enc_hd a
    obtain ⟨r2, e2⟩ := enc_hd b
    rw [e, e2, decide_eq_false (fun z => h (by rw [z]))]
    have : ¬ a.hd = b.hd := fun z => h (by rw [← hd_sort, ← hd_sort, z])
    simp [PyData.eqv, PyData.eqvAll, this]
  intro a
  induction a with
  | num i => intro b; cases b <;> first | exact ne _ _ (Nat.ne_of_beq_eq_false rfl) | (rw [Bool.eq_iff_iff]; simp [Bd.enc, D.pd, pds, PyData.eqv, PyData.eqvAll])
  | tru i => intro b; cases b <;> first | exact ne _ _ (Nat.ne_of_beq_eq_false rfl) | (rename_i j; cases i <;> cases j <;> simp [Bd.enc, D.pd, pds, PyData.eqv, PyData.eqvAll])
  | emp => intro b; cases b <;> first | exact ne _ _ (Nat.ne_of_beq_eq_false rfl) | simp [Bd.enc, D.pd, pds, PyData.eqv, PyData.eqvAll]
  | arg => intro b; cases b <;> first | exact ne _ _ (Nat.ne_of_beq_eq_false rfl) | simp [Bd.enc, D.pd, pds, PyData.eqv, PyData.eqvAll]
  | cel c => intro b; cases b <;> first | exact ne _ _ (Nat.ne_of_beq_eq_false rfl) | (rw [Bool.eq_iff_iff]; simp [Bd.enc, D.pd, pds, PyData.eqv, PyData.eqvAll, sg_inj])
  | un w a ih => intro b; cases b <;> first | exact ne _ _ (Nat.ne_of_beq_eq_false rfl) | (rw [Bool.eq_iff_iff]; simp [Bd.enc, D.pd, pds, PyData.eqv, PyData.eqvAll, ih, W1.s_inj])
  | bin w a b ih1 ih2 => intro b; cases b <;> first | exact ne _ _ (Nat.ne_of_beq_eq_false rfl) | (rw [Bool.eq_iff_iff]; simp [Bd.enc, D.pd, pds, PyData.eqv, PyData.eqvAll, ih1, ih2, W2.s_inj])
  | ite a b c ih1 ih2 ih3 => intro b; cases b <;> first | exact ne _ _ (Nat.ne_of_beq_eq_false rfl) | simp [Bd.enc, D.pd, pds, PyData.eqv, PyData.eqvAll, ih1, ih2, ih3]
  | set c a ih => intro b; cases b <;> first | exact ne _ _ (Nat.ne_of_beq_eq_false rfl) | (rw [Bool.eq_iff_iff]; simp [Bd.enc, D.pd, pds, PyData.eqv, PyData.eqvAll, ih, sg_inj])
  | cal c a ih => intro b; cases b <;> first | exact ne _ _ (Nat.ne_of_beq_eq_false rfl) | (rw [Bool.eq_iff_iff]; simp [Bd.enc, D.pd, pds, PyData.eqv, PyData.eqvAll, ih, sg_inj])
theorem eqv_map {α : Type} [DecidableEq α] {f : α → D} (h : ∀ x y, PyData.eqv (f x).pd (f y).pd = decide (x = y)) : ∀ xs ys : List α, PyData.eqvAll (pds (xs.map f)) (pds (ys.map f)) = decide (xs = ys)
  | [], [] => by simp [pds, PyData.eqvAll]
  | [], _ :: _ => by simp [pds, PyData.eqvAll]
  | _ :: _, [] => by simp [pds, PyData.eqvAll]
  | x :: xs, y :: ys => by
    rw [List.map_cons, List.map_cons, pds, pds, PyData.eqvAll, h, eqv_map h xs ys, Bool.eq_iff_iff]
    simp
theorem askD_eqv (a b : Nat × Kd × Kd) : PyData.eqv (askD a).pd (askD b).pd = decide (a = b) := by
  obtain ⟨a1, a2, a3⟩ := a
  obtain ⟨b1, b2, b3⟩ := b
  rw [Bool.eq_iff_iff]
  simp [askD, D.pd, pds, PyData.eqv, PyData.eqvAll, sg_inj, Kd.s_inj]
theorem Fm.eqv (f g : Fm) : PyData.eqv f.enc.pd g.enc.pd = decide (f = g) := by
  obtain ⟨f1, f2, f3, f4, f5, f6⟩ := f
  obtain ⟨g1, g2, g3, g4, g5, g6⟩ := g
  rw [Bool.eq_iff_iff]
  simp only [Fm.enc, D.pd, pds, PyData.eqv, PyData.eqvAll, Bd.eqv, eqv_map askD_eqv]
  simp [sg_inj, Kd.s_inj, and_assoc]
theorem kd_eqv (a b : Kd) : PyData.eqv (D.str a.s).pd (D.str b.s).pd = decide (a = b) := by
  rw [Bool.eq_iff_iff]
  simp [D.pd, PyData.eqv, Kd.s_inj]
theorem inD_map {α : Type} [DecidableEq α] {f : α → D} (h : ∀ x y, PyData.eqv (f x).pd (f y).pd = decide (x = y)) (x : α) (ys : List α) [Decidable (x ∈ ys)] : inD (f x) (ys.map f) = decide (x ∈ ys) := by
  unfold inD
  rw [List.any_map, Bool.eq_iff_iff, List.any_eq_true, decide_eq_true_eq]
  simp only [Function.comp_apply, h, decide_eq_true_eq]
  exact ⟨fun ⟨y, hy, e⟩ => by rw [← e]; exact hy, fun hx => ⟨x, hx, rfl⟩⟩
theorem inD_fm (f : Fm) (fs : List Fm) [Decidable (f ∈ fs)] : inD f.enc (fs.map Fm.enc) = decide (f ∈ fs) := inD_map Fm.eqv f fs
theorem inD_ask (f : Nat × Kd × Kd) (fs : Gv) [Decidable (f ∈ fs)] : inD (askD f) (fs.map askD) = decide (f ∈ fs) := inD_map askD_eqv f fs
theorem inD_kd (k : Kd) (ks : List Kd) [Decidable (k ∈ ks)] : inD (.str k.s) (ksD ks) = decide (k ∈ ks) := inD_map (f := fun k : Kd => D.str k.s) kd_eqv k ks
/-! ### forms are fine data -/
structure Fm.ok (f : Fm) : Prop where
  pn : partC f.pn
  dn : deedC f.dn
  wf : f.b.wf
  dep : f.b.dep ≤ 10
  words : f.b.words ≤ 60
  ns : ∀ a ∈ f.ns, deedC a.1
  nl : f.ns.length ≤ 8
theorem ask_okD {a : Nat × Kd × Kd} (h : deedC a.1) {n : Nat} : L3.okD (askD a) (n + 1) := okD_tup (by simp; exact ⟨okD_sg (deedC.lt h), okD_str (Kd.ok _), okD_str (Kd.ok _)⟩)
theorem Fm.okD {f : Fm} (h : f.ok) : L3.okD f.enc 12 := okD_tup (by
  simp only [List.mem_cons, List.not_mem_nil, or_false, forall_eq_or_imp, forall_eq]
  refine ⟨okD_tup (by simp; exact ⟨okD_sg (partC.lt h.pn), okD_sg (deedC.lt h.dn)⟩), okD_str (Kd.ok _), okD_str (Kd.ok _), (Bd.okD f.b h.wf).mono (by have := h.dep; omega), okD_tup fun d hd => ?_⟩
  obtain ⟨a, ha, rfl⟩ := List.mem_map.mp hd
  exact ask_okD (h.ns a ha))
theorem fms_ok {fs : List Fm} (h : ∀ f ∈ fs, f.ok) : eqOk (.lst (fs.map Fm.enc)) = true := okD.eq (n := 13) (okD_lst fun d hd => by
  obtain ⟨f, hf, rfl⟩ := List.mem_map.mp hd
  exact Fm.okD (h f hf)) (by omega)
theorem asks_ok {fs : Gv} (h : ∀ f ∈ fs, deedC f.1) : eqOk (.lst (fs.map askD)) = true := okD.eq (n := 2) (okD_lst fun d hd => by
  obtain ⟨f, hf, rfl⟩ := List.mem_map.mp hd
  exact ask_okD (h f hf)) (by omega)
/-! ### dicts by names -/
section
variable {α : Type} (e : α → D)
def asD (s : List (Nat × α)) : List (Key × D) := s.map fun p => (.inr (sg p.1), e p.2)
theorem key_inj {c d : Nat} : ((.inr (sg c) : Key) = .inr (sg d)) = (c = d) := by rw [Sum.inr.injEq, sg_inj]
theorem getK_as (c : Nat) : ∀ s : List (Nat × α), getK (asD e s) (.inr (sg c)) = (lk s c).map e
  | [] => rfl
  | (a, x) :: s => by
    show getK ((.inr (sg a), e x) :: asD e s) _ = _
    rw [getK_cons, lk_cons, getK_as c s]
    simp only [sg_inj]
    split <;> rfl
theorem putD_as (s : List (Nat × α)) (c : Nat) (x : α) : putD (asD e s) (.inr (sg c)) (e x) = asD e (putA s c x) := by
  unfold putD putA
  have h : ((asD e s).any fun p => decide (p.1 = (.inr (sg c) : Key))) = s.any fun p => decide (p.1 = c) := by
    rw [asD, List.any_map]
    exact congrArg (fun f => List.any s f) (funext fun p => by simp only [Function.comp_apply, key_inj])
  rw [h]
  split
  · rw [asD, asD, List.map_map, List.map_map]
    exact List.map_congr_left fun p _ => by
      simp only [Function.comp_apply, key_inj]
      split <;> rfl
  · rw [asD, asD, List.map_append]; rfl
theorem dropD_as (s : List (Nat × α)) (c : Nat) : dropD (asD e s) (.inr (sg c)) = asD e (dropA s c) := by
  unfold dropD dropA asD
  rw [List.filter_map]
  refine congrArg (List.map _) (congrArg (fun f => List.filter f s) (funext fun p => ?_))
  simp only [Function.comp_apply, ne_eq, key_inj]
theorem mergeD_as : ∀ (r s : List (Nat × α)), mergeD (asD e s) (asD e r) = asD e (mergeA s r)
  | [], s => rfl
  | (c, x) :: r, s => by
    show mergeD (asD e s) ((.inr (sg c), e x) :: asD e r) = _
    rw [mergeD_cons, putD_as, mergeD_as r]; rfl
theorem keysD_as (s : List (Nat × α)) : keysD (asD e s) = strD ((s.map (·.1)).map sg) := by
  unfold keysD asD strD
  rw [List.map_map, List.map_map, List.map_map]; rfl
theorem asD_keys (s : List (Nat × α)) : (asD e s).map (·.1) = (s.map (·.1)).map fun c => .inr (sg c) := by
  unfold asD
  rw [List.map_map, List.map_map]; rfl
theorem asD_len (s : List (Nat × α)) : (asD e s).length = s.length := by unfold asD; rw [List.length_map]
end
def fmsD (fs : List Fm) : D := .lst (fs.map Fm.enc)
def kdsD (ks : List Kd) : D := .lst (ksD ks)
theorem shD_as (s : Fms) : shD s = asD fmsD s := rfl
theorem csD_as (s : Cks) : csD s = asD kdsD s := rfl
end L3
/-! L22: new dicts; loops over dicts of the store by an invariant; what stands in the store, read. -/
namespace L3
open PySem PySem.Spec PyProof.Rows L2
section
variable {X : Cx} {pos : Pos}
def aDNew : AEt := fun _ m Q => Q (.dct []) m
def aDNewM : AEt := fun _ m Q => ∀ p, m p = none → Q (.ref p) (m.put p (.dct []))
theorem ae_dnew : AE X (.Dict [] [] pos) aDNew := ⟨_, pe_dnewK, fun B δ m Q σ H W E q Q' k a ha => k.dct W (repk_nil.mpr rfl) q ha⟩
theorem ae_dnewM : AE X (.Dict [] [] pos) aDNewM := ⟨_, pe_dnewK, fun B δ m Q σ H W E q Q' k a ha => k.dctM W (repk_nil.mpr rfl) q ha⟩
end
theorem put_self {m : Mu} {p : Addr} {c : Cell} (h : m p = some c) : m.put p c = m := by
  funext a
  unfold Mu.put
  split
  · rename_i e; rw [e, h]
  · rfl
section
variable {te : AEt} {g : AGt} {tb : ASt} {Z : AEnds} {δ : Dt} {m : Mu} {p : Addr} {ds : List (Key × D)}
/-- the lock -/
abbrev lkd (m : Mu) (p : Addr) (od : Obj) (vs : List (Key × V)) (ds : List (Key × D)) : Mu := m.put p (.dfz od vs ds)
theorem lkd_ne {a : Addr} {od : Obj} {vs : List (Key × V)} (h : a ≠ p) : lkd m p od vs ds a = m a := Mu.put_ne h
theorem lkd_same {od : Obj} {vs : List (Key × V)} : lkd m p od vs ds p = some (.dfz od vs ds) := Mu.put_same
theorem forK (hp : m p = some (.dct ds)) (I : List D → Dt → Mu → Prop) (hl : ∀ rest δ' m', I rest δ' m' → m' p = some (.dct ds))
    (hte : ∀ od vs Q, Q (.ref p) (lkd m p od vs ds) → te δ (lkd m p od vs ds) Q) (h0 : I (keysD ds) δ m)
    (turn : ∀ od vs d rest δ' m', I (d :: rest) δ' m' → ∀ nx : Dt → Mu → Prop, (∀ δ'' m'', I rest δ'' m'' → nx δ'' (lkd m'' p od vs ds)) →
      g d δ' (lkd m' p od vs ds) fun δ2 m2 => tb { nx := nx, rt := unE p od vs ds Z.rt, bk := fun δ3 m3 => m3 p = some (.dfz od vs ds) ∧ unN p od vs ds Z.nx δ3 m3, ct := nx } δ2 m2)
    (fin : ∀ δ' m', I [] δ' m' → Z.nx δ' m') : aLock (aForG (aKeys te) g tb) Z δ m := by
  refine ⟨p, ds, hp, fun od vs => hte od vs _ ⟨p, od, vs, ds, rfl, Mu.put_same, ?_⟩⟩
  have key : ∀ (rest : List D) (δ' : Dt) (m' : Mu), I rest δ' m' → forGo (gGate (fun m' => m' p = some (.dfz od vs ds)) g) tb { nx := fun δ' m' => m' p = some (.dfz od vs ds) ∧ unN p od vs ds Z.nx δ' m', rt := unE p od vs ds Z.rt, bk := unN p od vs ds Z.bk, ct := unN p od vs ds Z.ct } rest δ' (lkd m' p od vs ds) := by
    intro rest
    induction rest with
    | nil =>
      intro δ' m' i
      refine ⟨Mu.put_same, Mu.put_same, ?_⟩
      rw [Mu.put_put, put_self (hl _ _ _ i)]
      exact fin δ' m' i
    | cons d rest ih =>
      intro δ' m' i
      exact ⟨Mu.put_same, turn od vs d rest δ' m' i _ fun δ'' m'' i' => ih δ'' m'' i'⟩
  exact key _ _ _ h0
variable {ti : AEt} {tt : ATt} {vs' : List Nat} {Q : EK}
theorem lcK_pure (hp : m p = some (.dct ds)) (f : D → Option D) (hte : ∀ od vs Q, Q (.ref p) (lkd m p od vs ds) → ti δ (lkd m p od vs ds) Q) (hz : ds.length ≤ sizeLine)
    (hs : ∀ od vs, ∀ d ∈ keysD ds, ∀ R : Option D → Mu → Prop, R (f d) (lkd m p od vs ds) → lcStep g tt te (wipeD δ vs') d (lkd m p od vs ds) R) (q : Q (.lst ((keysD ds).filterMap f)) m) :
    aLockE (aLcG (aKeys ti) g tt te vs') δ m Q := by
  refine ⟨p, ds, hp, fun od vs => hte od vs _ ⟨p, od, vs, ds, rfl, Mu.put_same, by unfold keysD; rw [List.length_map]; exact hz, ?_⟩⟩
  refine lc_pure f (fun d hd R r => ?_) ⟨Mu.put_same, Mu.put_same, by rw [Mu.put_put, put_self hp, List.nil_append]; exact q⟩
  exact ⟨Mu.put_same, hs od vs d hd R r⟩
end
section
variable {m : Mu} {Q : EK} {p q : Addr} {c : Cell} {z : Str} {d : D} {ds : List (Key × D)} {es : List D}
theorem dct_dct (h : m p = some (.dct ds)) : dctOf m (.ref p) = some ds := by simp only [dctOf, h]
theorem dct_dfz {od : Obj} {vs : List (Key × V)} (h : m p = some (.dfz od vs ds)) : dctOf m (.ref p) = some ds := by simp only [dctOf, h]
theorem lst_lst (h : m p = some (.lst es)) : lstOf m (.ref p) = some es := by simp only [lstOf, h]
theorem ix_dref (h : dctOf m (.ref p) = some ds) (g : getK ds (.inr z) = some d) (r : Q d m) : rhoIx (.ref p) (.str z) m Q := .inr ⟨ds, .inr z, d, h, rfl, g, r⟩
theorem in_dref {b : Bool} (h : dctOf m (.ref p) = some ds) (r : Q (.bl (b ^^ (getK ds (.inr z)).isSome)) m) : rhoIn b (.str z) (.ref p) m Q := .inr ⟨ds, .inr z, h, rfl, r⟩
end
end L3
/-! L23: what holds of all that is put together. -/
namespace L3
open PySem PySem.Spec PyProof.Rows L2
section
variable {α : Type}
theorem putA_cons {a : Nat} {y : α} {l : List (Nat × α)} {c : Nat} {x : α} : putA ((a, y) :: l) c x = if a = c then (a, x) :: l.map (fun p => if p.1 = c then (p.1, x) else p) else (a, y) :: putA l c x := by
  unfold putA
  by_cases h : a = c
  · rw [if_pos h, if_pos (by simp [h]), List.map_cons, if_pos h]
  · rw [if_neg h]
    by_cases q : (l.any fun p => decide (p.1 = c)) = true
    · rw [if_pos (by rw [List.any_cons, q, Bool.or_true]), if_pos q, List.map_cons, if_neg h]
    · rw [if_neg (by rw [List.any_cons, decide_eq_false h, Bool.false_or]; exact q), if_neg q, List.cons_append]
theorem map_put_id {l : List (Nat × α)} {c : Nat} {x : α} (h : c ∉ l.map (·.1)) : l.map (fun p => if p.1 = c then (p.1, x) else p) = l := by
  have : ∀ p ∈ l, (if p.1 = c then (p.1, x) else p) = p := fun p hp => if_neg fun e => h (List.mem_map.mpr ⟨p, hp, e⟩)
  rw [List.map_congr_left this, List.map_id']
theorem lk_nd {l : List (Nat × α)} (h : (l.map (·.1)).Nodup) {c : Nat} {x : α} : lk l c = some x ↔ (c, x) ∈ l := ⟨lk_some, lk_of_mem h⟩
theorem lk_isNone {l : List (Nat × α)} {c : Nat} : lk l c = none ↔ c ∉ l.map (·.1) := by
  refine ⟨fun h z => ?_, lk_none⟩
  obtain ⟨x, e, _⟩ := lk_mem z
  rw [h] at e; cases e
end
section
variable {α : Type} {Pk : Nat → Prop} {Pf : α → Prop}
structure AOk (Pk : Nat → Prop) (Pf : α → Prop) (s : List (Nat × List α)) : Prop where
  nd : (s.map (·.1)).Nodup
  k : ∀ a ∈ s, Pk a.1
  f : ∀ a ∈ s, ∀ y ∈ a.2, Pf y
  ne : ∀ a ∈ s, a.2 ≠ []
  nf : ∀ a ∈ s, a.2.Nodup
theorem AOk.nil : AOk Pk Pf ([] : List (Nat × List α)) := ⟨List.nodup_nil, fun _ h => (nomatch h), fun _ h => (nomatch h), fun _ h => (nomatch h), fun _ h => (nomatch h)⟩
variable [DecidableEq α]
theorem AOk.put {s : List (Nat × List α)} (h : AOk Pk Pf s) {c : Nat} {ys : List α} (hk : Pk c) (hf : ∀ y ∈ ys, Pf y) (hn : ys.Nodup) (he : ys ≠ []) : AOk Pk Pf (putA s c ys) := by
  refine ⟨putA_nodup h.nd, fun a ha => ?_, fun a ha => ?_, fun a ha => ?_, fun a ha => ?_⟩
  all_goals rcases putA_mem ha with rfl | ⟨z, _⟩
  · exact hk
  · exact h.k a z
  · exact hf
  · exact h.f a z
  · exact he
  · exact h.ne a z
  · exact hn
  · exact h.nf a z
theorem AOk.at {s : List (Nat × List α)} (h : AOk Pk Pf s) (c : Nat) : (∀ y ∈ (lk s c).getD [], Pf y) ∧ ((lk s c).getD []).Nodup := by
  cases e : lk s c with
  | none => exact ⟨fun _ z => (nomatch z), List.nodup_nil⟩
  | some ys => exact ⟨h.f _ (lk_some e), h.nf _ (lk_some e)⟩
theorem AOk.add {s : List (Nat × List α)} (h : AOk Pk Pf s) {c : Nat} {ys : List α} (hk : Pk c) (hf : ∀ y ∈ ys, Pf y) (hn : ys.Nodup) (he : ys ≠ []) : AOk Pk Pf (addA s c ys) := by
  obtain ⟨h1, h2⟩ := h.at c
  refine h.put hk (fun y hy => (addF_mem.mp hy).elim (h1 y) (hf y)) (addF_nodup h2 hn) fun z => he ?_
  refine List.eq_nil_iff_forall_not_mem.mpr fun y hy => ?_
  have : y ∈ addF ((lk s c).getD []) ys := addF_mem.mpr (.inr hy)
  rw [z] at this
  exact nomatch this
theorem AOk.both {r s : List (Nat × List α)} (h : AOk Pk Pf s) (g : AOk Pk Pf r) : AOk Pk Pf (bothA s r) := by
  have key : ∀ (r s : List (Nat × List α)), AOk Pk Pf s → (∀ a ∈ r, Pk a.1) → (∀ a ∈ r, ∀ y ∈ a.2, Pf y) → (∀ a ∈ r, a.2 ≠ []) → (∀ a ∈ r, a.2.Nodup) → AOk Pk Pf (bothA s r) := by
    intro r
    induction r with
    | nil => intro s h _ _ _ _; exact h
    | cons a r ih =>
      intro s h h1 h2 h3 h4
      exact ih (addA s a.1 a.2) (h.add (h1 a List.mem_cons_self) (h2 a List.mem_cons_self) (h4 a List.mem_cons_self) (h3 a List.mem_cons_self)) (fun x hx => h1 x (List.mem_cons_of_mem _ hx)) (fun x hx => h2 x (List.mem_cons_of_mem _ hx)) (fun x hx => h3 x (List.mem_cons_of_mem _ hx)) fun x hx => h4 x (List.mem_cons_of_mem _ hx)
  exact key r s h g.k g.f g.ne g.nf
theorem AOk.merge {r s : List (Nat × List α)} (h : AOk Pk Pf s) (g : AOk Pk Pf r) : AOk Pk Pf (mergeA s r) := by
  have key : ∀ (r s : List (Nat × List α)), AOk Pk Pf s → (∀ a ∈ r, Pk a.1) → (∀ a ∈ r, ∀ y ∈ a.2, Pf y) → (∀ a ∈ r, a.2 ≠ []) → (∀ a ∈ r, a.2.Nodup) → AOk Pk Pf (mergeA s r) := by
    intro r
    induction r with
    | nil => intro s h _ _ _ _; exact h
    | cons a r ih =>
      intro s h h1 h2 h3 h4
      exact ih (putA s a.1 a.2) (h.put (h1 a List.mem_cons_self) (h2 a List.mem_cons_self) (h4 a List.mem_cons_self) (h3 a List.mem_cons_self)) (fun x hx => h1 x (List.mem_cons_of_mem _ hx)) (fun x hx => h2 x (List.mem_cons_of_mem _ hx)) (fun x hx => h3 x (List.mem_cons_of_mem _ hx)) fun x hx => h4 x (List.mem_cons_of_mem _ hx)
  exact key r s h g.k g.f g.ne g.nf
theorem AOk.drop {s : List (Nat × List α)} (h : AOk Pk Pf s) (c : Nat) : AOk Pk Pf (dropA s c) := by
  have sub : ∀ a ∈ dropA s c, a ∈ s := fun a ha => (List.mem_filter.mp ha).1
  refine ⟨?_, fun a ha => h.k a (sub a ha), fun a ha => h.f a (sub a ha), fun a ha => h.ne a (sub a ha), fun a ha => h.nf a (sub a ha)⟩
  exact h.nd.sublist (List.filter_sublist.map _)
/-! ### how many -/
def cnt {β : Type} (s : List (Nat × List β)) : Nat := (s.map fun p => p.2.length).sum
theorem cnt_cons {β : Type} {a : Nat × List β} {s : List (Nat × List β)} : cnt (a :: s) = a.2.length + cnt s := rfl
theorem cnt_at {β : Type} : ∀ {s : List (Nat × List β)} {c : Nat}, ((lk s c).getD []).length ≤ cnt s
  | [], c => Nat.zero_le _
  | (a, y) :: s, c => by
    rw [lk_cons, cnt_cons]
    split
    · exact Nat.le_add_right _ _
    · exact Nat.le_trans cnt_at (Nat.le_add_left _ _)
theorem cnt_put {β : Type} : ∀ {s : List (Nat × List β)}, (s.map (·.1)).Nodup → ∀ {c : Nat} {x : List β}, cnt (putA s c x) + ((lk s c).getD []).length = cnt s + x.length
  | [], _, c, x => by
    show cnt [(c, x)] + 0 = 0 + x.length
    rw [cnt_cons]
    show x.length + 0 + 0 = _
    omega
  | (a, y) :: s, h, c, x => by
    rw [List.map_cons, List.nodup_cons] at h
    rw [putA_cons, lk_cons]
    by_cases e : a = c
    · subst e
      rw [if_pos rfl, if_pos rfl, map_put_id h.1, cnt_cons, cnt_cons]
      show x.length + cnt s + y.length = y.length + cnt s + x.length
      omega
    · rw [if_neg e, if_neg e, cnt_cons, cnt_cons]
      have := cnt_put h.2 (c := c) (x := x)
      show y.length + cnt (putA s c x) + _ = y.length + cnt s + _
      omega
theorem cnt_add {s : List (Nat × List α)} (h : (s.map (·.1)).Nodup) {c : Nat} {ys : List α} : cnt (addA s c ys) ≤ cnt s + ys.length := by
  have h1 := cnt_put h (c := c) (x := addF ((lk s c).getD []) ys)
  have h2 := addF_len ((lk s c).getD []) ys
  show cnt (putA s c _) ≤ _
  omega
theorem cnt_both : ∀ {r s : List (Nat × List α)}, (s.map (·.1)).Nodup → cnt (bothA s r) ≤ cnt s + cnt r
  | [], s, _ => Nat.le_refl _
  | a :: r, s, h => by
    have h1 := cnt_both (r := r) (s := addA s a.1 a.2) (addA_nodup h)
    have h2 := cnt_add h (c := a.1) (ys := a.2)
    show cnt (bothA (addA s a.1 a.2) r) ≤ _
    rw [cnt_cons]
    omega
theorem cnt_merge : ∀ {r s : List (Nat × List α)}, (s.map (·.1)).Nodup → cnt (mergeA s r) ≤ cnt s + cnt r
  | [], s, _ => Nat.le_refl _
  | a :: r, s, h => by
    have h1 := cnt_merge (r := r) (s := putA s a.1 a.2) (putA_nodup h)
    have h2 := cnt_put h (c := a.1) (x := a.2)
    show cnt (mergeA (putA s a.1 a.2) r) ≤ _
    rw [cnt_cons]
    omega
theorem cnt_drop {β : Type} (c : Nat) : ∀ {s : List (Nat × List β)}, cnt (dropA s c) ≤ cnt s
  | [] => Nat.le_refl _
  | a :: s => by
    have ih := cnt_drop c (s := s)
    unfold dropA at ih ⊢
    rw [List.filter_cons]
    split
    · rw [cnt_cons, cnt_cons]; omega
    · rw [cnt_cons]; omega
theorem cnt_len {s : List (Nat × List α)} (h : AOk Pk Pf s) : s.length ≤ cnt s := by
  have : ∀ s : List (Nat × List α), (∀ a ∈ s, a.2 ≠ []) → s.length ≤ cnt s := by
    intro s
    induction s with
    | nil => intro _; exact Nat.le_refl _
    | cons a s ih =>
      intro h
      have h1 := ih fun x hx => h x (List.mem_cons_of_mem _ hx)
      have h2 := List.length_pos_iff.mpr (h a List.mem_cons_self)
      rw [cnt_cons, List.length_cons]
      omega
  exact this s h.ne
end
abbrev FOk : Fms → Prop := AOk deedC Fm.ok
abbrev COk : Cks → Prop := AOk cellC fun _ => True
theorem FOk.len {s : Fms} (h : FOk s) : s.length ≤ 8 := by
  have := deeds_len h.nd fun c hc => by
    obtain ⟨a, ha, rfl⟩ := List.mem_map.mp hc
    exact h.k a ha
  rwa [List.length_map] at this
theorem COk.len {s : Cks} (h : COk s) : s.length ≤ 4 := by
  have := nodup_len (k := lettersC) h.nd fun c hc => by
    obtain ⟨a, ha, rfl⟩ := List.mem_map.mp hc
    exact h.k a ha
  rwa [List.length_map] at this
/-! ### a form renamed -/
theorem ren1_deed {d n : Nat} (hn : deedC n) {a : Nat × Kd × Kd} (h : deedC a.1) : deedC (ren1 d n a).1 := by
  show deedC (if a.1 = d then n else a.1)
  split
  · exact hn
  · exact h
theorem dd_len {α : Type} [DecidableEq α] (l : List α) : (dd l).length ≤ l.length := nodup_lenG (dd_nodup l) fun _ h => dd_mem.mp h
theorem ren_ns {d n : Nat} {f : Fm} {a : Nat × Kd × Kd} : a ∈ (f.ren d n).ns ↔ ∃ b ∈ f.ns, a = ren1 d n b := by
  show a ∈ nsort _ ↔ _
  rw [(nsort_perm _).mem_iff, dd_mem, List.mem_map]
  exact ⟨fun ⟨b, h, e⟩ => ⟨b, h, e.symm⟩, fun ⟨b, h, e⟩ => ⟨b, h, e.symm⟩⟩
theorem Fm.ren_ok {d n : Nat} (hn : deedC n) {f : Fm} (h : f.ok) : (f.ren d n).ok := by
  refine ⟨h.pn, h.dn, Bd.ren_wf hn h.wf, by show (f.b.ren d n).dep ≤ 10; rw [Bd.ren_dep]; exact h.dep, by show (f.b.ren d n).words ≤ 60; rw [Bd.ren_words]; exact h.words, fun a ha => ?_, ?_⟩
  · obtain ⟨b, hb, rfl⟩ := ren_ns.mp ha
    exact ren1_deed hn (h.ns b hb)
  · show (nsort _).length ≤ 8
    rw [(nsort_perm _).length_eq]
    have := dd_len (f.ns.map (ren1 d n))
    rw [List.length_map] at this
    exact Nat.le_trans this h.nl
/-- all forms of a deed, renamed, to some -/
def renF (d n c : Nat) (acc : Fms) (fs : List Fm) : Fms := fs.foldl (fun acc f => addA acc c [f.ren d n]) acc
def rnm (d n c : Nat) : Nat := if c = d then n else c
theorem renD_go (d n : Nat) (s : Fms) : renD d n s = s.foldl (fun acc p => renF d n (rnm d n p.1) acc p.2) [] := rfl
theorem renF_ok {d n c : Nat} (hn : deedC n) (hc : deedC c) : ∀ {fs : List Fm} {acc : Fms}, FOk acc → (∀ f ∈ fs, f.ok) → FOk (renF d n c acc fs) ∧ cnt (renF d n c acc fs) ≤ cnt acc + fs.length
  | [], acc, h, _ => ⟨h, Nat.le_refl _⟩
  | f :: fs, acc, h, g => by
    have h1 : FOk (addA acc c [f.ren d n]) := h.add hc (fun y hy => by rw [List.mem_singleton.mp hy]; exact Fm.ren_ok hn (g f List.mem_cons_self)) (by simp) (by simp)
    obtain ⟨i1, i2⟩ := renF_ok hn hc (fs := fs) h1 fun x hx => g x (List.mem_cons_of_mem _ hx)
    refine ⟨i1, Nat.le_trans i2 ?_⟩
    have := cnt_add h.nd (c := c) (ys := [f.ren d n])
    simp only [List.length_cons, List.length_nil] at this ⊢
    omega
theorem rnm_deed {d n c : Nat} (hn : deedC n) (hc : deedC c) : deedC (rnm d n c) := by unfold rnm; split; exact hn; exact hc
theorem renG_ok {d n : Nat} (hn : deedC n) : ∀ {s acc : Fms}, FOk acc → (∀ a ∈ s, deedC a.1) → (∀ a ∈ s, ∀ f ∈ a.2, f.ok) → FOk (s.foldl (fun acc p => renF d n (rnm d n p.1) acc p.2) acc) ∧ cnt (s.foldl (fun acc p => renF d n (rnm d n p.1) acc p.2) acc) ≤ cnt acc + cnt s
  | [], acc, h, _, _ => ⟨h, Nat.le_refl _⟩
  | a :: s, acc, h, g1, g2 => by
    obtain ⟨i1, i2⟩ := renF_ok hn (rnm_deed (d := d) hn (g1 a List.mem_cons_self)) h (g2 a List.mem_cons_self)
    obtain ⟨j1, j2⟩ := renG_ok hn (s := s) i1 (fun x hx => g1 x (List.mem_cons_of_mem _ hx)) fun x hx => g2 x (List.mem_cons_of_mem _ hx)
    refine ⟨j1, Nat.le_trans j2 ?_⟩
    rw [cnt_cons]
    omega
theorem renD_ok {d n : Nat} (hn : deedC n) {s : Fms} (h : FOk s) : FOk (renD d n s) ∧ cnt (renD d n s) ≤ cnt s := by
  have := renG_ok (d := d) hn (s := s) AOk.nil h.k h.f
  rw [renD_go]
  exact ⟨this.1, by have := this.2; simpa [cnt] using this⟩
/-! ### a part, a tree -/
structure Sh.ok (s : Sh) : Prop where
  d : FOk s.ds
  c : COk s.cs
theorem shOf_ok {p : Part} (h : p.ok) : (shOf p).ok ∧ cnt (shOf p).ds ≤ 8 := by
  have hd : (shOf p).ds.map (·.1) = p.ds.map (·.c) := by show (List.map _ p.ds).map _ = _; rw [List.map_map]; rfl
  have hc : (shOf p).cs.map (·.1) = p.cs.map (·.1) := by show (List.map _ p.cs).map _ = _; rw [List.map_map]; rfl
  refine ⟨⟨⟨by rw [hd]; exact h.dr.nodup, fun a ha => ?_, fun a ha y hy => ?_, fun a ha => ?_, fun a ha => ?_⟩, ⟨by rw [hc]; exact h.cr.nodup, fun a ha => ?_, fun _ _ _ _ => trivial, fun a ha => ?_, fun a ha => ?_⟩⟩, ?_⟩
  · obtain ⟨d, hd, rfl⟩ := List.mem_map.mp ha
    exact (h.dok d hd).c
  · obtain ⟨d, hd, rfl⟩ := List.mem_map.mp ha
    obtain rfl := List.mem_singleton.mp hy
    have dk := h.dok d hd
    have hcl : d.b.cin.length ≤ 8 := deeds_len d.b.cin_nodup fun c hc => d.b.wf_calls dk.wf c ((d.b.cin_calls c).mp hc)
    refine ⟨h.nm, dk.c, dk.wf, dk.dep, dk.words, fun a ha => ?_, ?_⟩
    · have := (gvOf_mem.mp ha).1
      exact d.b.wf_calls dk.wf a.1 ((d.b.cin_calls a.1).mp ((srt_perm _).mem_iff.mp this))
    · refine Nat.le_trans (List.length_filterMap_le _ _) ?_
      rw [(srt_perm _).length_eq]; exact hcl
  · obtain ⟨d, hd, rfl⟩ := List.mem_map.mp ha
    simp
  · obtain ⟨d, hd, rfl⟩ := List.mem_map.mp ha
    simp
  · obtain ⟨d, hd, rfl⟩ := List.mem_map.mp ha
    exact h.cok d hd
  · obtain ⟨d, hd, rfl⟩ := List.mem_map.mp ha
    simp
  · obtain ⟨d, hd, rfl⟩ := List.mem_map.mp ha
    simp
  · have : cnt (shOf p).ds = p.ds.length := by
      show ((List.map _ p.ds).map _).sum = _
      rw [List.map_map]
      have : ∀ l : List Deed, (l.map fun d => 1).sum = l.length := fun l => by
        induction l with
        | nil => rfl
        | cons a l ih => rw [List.map_cons, List.sum_cons, ih, List.length_cons]; omega
      exact this p.ds
    rw [this]; exact h.dl
/-- a bound of how many forms a tree comes to -/
def Tr.nb : Tr → Nat
  | .part _ => 8
  | .wth a b => a.nb + b.nb
  | .wout a _ => a.nb
  | .also a _ _ => 2 * a.nb
  | .ren a _ _ => a.nb
  | .over a _ => a.nb + 8
theorem putT_ok {sh : Nat → Sh} {ns : List Nat} (h : ∀ p ∈ ns, (sh p).ok ∧ cnt (sh p).ds ≤ 8) : ∀ t : Tr, t.wf ns → (putT sh t).ok ∧ cnt (putT sh t).ds ≤ t.nb
  | .part p, w => h p w
  | .wth a b, w => by
    obtain ⟨h1, c1⟩ := putT_ok h a w.1
    obtain ⟨h2, c2⟩ := putT_ok h b w.2
    refine ⟨⟨h1.d.both h2.d, h1.c.both h2.c⟩, ?_⟩
    have := cnt_both (r := (putT sh b).ds) h1.d.nd
    show cnt (bothA _ _) ≤ a.nb + b.nb
    omega
  | .wout a d, w => by
    obtain ⟨h1, c1⟩ := putT_ok h a w.1
    refine ⟨⟨h1.d.drop d, h1.c⟩, ?_⟩
    exact Nat.le_trans (cnt_drop d) c1
  | .also a d n, w => by
    obtain ⟨h1, c1⟩ := putT_ok h a w.1
    cases e : lk (putT sh a).ds d with
    | none =>
      simp only [putT, e]
      exact ⟨⟨h1.d, h1.c⟩, by show cnt _ ≤ 2 * a.nb; omega⟩
    | some fs =>
      simp only [putT, e]
      have hm := lk_some e
      refine ⟨⟨h1.d.add w.2.2 (h1.d.f _ hm) (h1.d.nf _ hm) (h1.d.ne _ hm), h1.c⟩, ?_⟩
      have h3 := cnt_add h1.d.nd (c := n) (ys := fs)
      have h4 := cnt_at (s := (putT sh a).ds) (c := d)
      rw [e] at h4
      show cnt (addA _ _ _) ≤ 2 * a.nb
      simp only [Option.getD_some] at h4
      omega
  | .ren a d n, w => by
    obtain ⟨h1, c1⟩ := putT_ok h a w.1
    by_cases e : d = n
    · simp only [putT, if_pos e]
      exact ⟨h1, c1⟩
    · simp only [putT, if_neg e]
      obtain ⟨i1, i2⟩ := renD_ok (d := d) w.2.2 h1.d
      exact ⟨⟨i1, AOk.nil.both h1.c⟩, Nat.le_trans i2 c1⟩
  | .over a p, w => by
    obtain ⟨h1, c1⟩ := putT_ok h a w.1
    obtain ⟨h2, c2⟩ := h p w.2
    refine ⟨⟨h1.d.merge h2.d, h1.c.both h2.c⟩, ?_⟩
    have := cnt_merge (r := (sh p).ds) h1.d.nd
    show cnt (mergeA _ _) ≤ a.nb + 8
    omega
end L3
/-! L24: what is wanted, read; when a sheaf is whole. -/
namespace L3
open PySem PySem.Spec PyProof.Rows L2
theorem dd_map {α β : Type} [DecidableEq α] [DecidableEq β] {f : α → β} (inj : ∀ a b, f a = f b → a = b) (l : List α) : (dd (l.map f)).Perm ((dd l).map f) := by
  refine (List.perm_ext_iff_of_nodup (dd_nodup _) ?_).mpr fun z => ?_
  · rw [List.nodup_iff_pairwise_ne, List.pairwise_map]
    exact (List.nodup_iff_pairwise_ne.mp (dd_nodup l)).imp fun h e => h (inj _ _ e)
  · rw [dd_mem, List.mem_map, List.mem_map]
    exact ⟨fun ⟨a, h, e⟩ => ⟨a, dd_mem.mpr h, e⟩, fun ⟨a, h, e⟩ => ⟨a, dd_mem.mp h, e⟩⟩
theorem put_dd (cs : List Nat) : (putAllS (cs.map sg) []).Perm ((dd cs).map sg) := by
  refine (List.perm_ext_iff_of_nodup (putAllS_nodup _ [] List.nodup_nil) (sg_nodup (dd_nodup cs))).mpr fun z => ?_
  rw [putAllS_mem, List.mem_map, List.mem_map]
  simp only [List.not_mem_nil, or_false]
  exact ⟨fun ⟨a, h, e⟩ => ⟨a, dd_mem.mpr h, e⟩, fun ⟨a, h, e⟩ => ⟨a, dd_mem.mp h, e⟩⟩
theorem sset_srt {cs : List Nat} {ys : List Str} (p : ys.Perm (putAllS (cs.map sg) [])) (s : sortedS ys = true) : ys = (srt (dd cs)).map sg := by
  obtain ⟨ds, rfl, h1, h2⟩ := srt_sg (p.trans (put_dd cs)) s
  rw [srt_eq h1 h2]
theorem put_dd_len (cs : List Nat) : (putAllS (cs.map sg) []).length = (dd cs).length := by rw [(put_dd cs).length_eq, List.length_map]
theorem prS_inj {a b : Nat × Nat} (h : prS a = prS b) : a = b := by
  obtain ⟨a1, a2⟩ := a
  obtain ⟨b1, b2⟩ := b
  simp only [prS, List.cons.injEq, and_true, sg_inj] at h
  obtain ⟨rfl, rfl⟩ := h
  rfl
theorem psort_rows (l : List (Nat × Nat)) : (psort l).map prS = rsort (l.map prS) := PySem.W.sort_maps (r := fun a b => rle (prS a) (prS b)) (s := rle) prS fun _ _ _ _ => rfl
theorem unf_rows (l : List (Nat × Nat)) : rsort (dd (l.map prS)) = (psort (dd l)).map prS := by
  rw [psort_rows]
  exact rsort_eq (dd_map (fun _ _ => prS_inj) l)
theorem psort_perm (l : List (Nat × Nat)) : (psort l).Perm l := List.mergeSort_perm _ _
section
variable {m : Mu} {Q : EK}
theorem ne_fms {fs : List Fm} (h : ∀ f ∈ fs, f.ok) : rhoNe (.lst (fs.map Fm.enc)) (.lst []) m Q = Q (.bl (!decide (fs = []))) m := by
  rw [ex_ne (by exact fms_ok h) (by exact okl_nil)]
  have : eqD (rsv m (.lst (fs.map Fm.enc))) (rsv m (.lst [])) = decide (fs = []) := by cases fs <;> rfl
  rw [this]
theorem kk_okD (a b : Kd) : okD (.tup [.str a.s, .str b.s]) 1 := by cases a <;> cases b <;> exact ⟨by decide +kernel, by decide +kernel, by decide +kernel⟩
theorem ne_kk {a b c d : Kd} : rhoNe (.tup [.str a.s, .str b.s]) (.tup [.str c.s, .str d.s]) m Q = Q (.bl (decide ((a, b) ≠ (c, d)))) m := by
  rw [ex_ne (by exact (kk_okD a b).eq (by omega)) (by exact (kk_okD c d).eq (by omega))]
  have : (!eqD (rsv m (.tup [.str a.s, .str b.s])) (rsv m (.tup [.str c.s, .str d.s]))) = decide ((a, b) ≠ (c, d)) := by
    show (!eqD (.tup [.str a.s, .str b.s]) (.tup [.str c.s, .str d.s])) = _
    cases a <;> cases b <;> cases c <;> cases d <;> decide +kernel
  rw [this]
end
section
variable {X : Cx} {pos : Pos} {elt tg iter : Expr} {ifs : List Expr} {scope : Scope} {own : List (Str × Nat)} {g : AGt} {tt : ATt} {te ti : AEt} {gt : TG}
/-- y = [.. for k in d ..]: the dict is locked -/
theorem as_setLcK {i : Nat} {y : Str} {py spos : Pos} (hc : X.calm = true) (hN : X.N.Nodup) (hy : X.N[i]? = some y) (hyl : X.env.scope.names.lookup y = some .local)
    (hsw : swapsWith (.ListComp elt [⟨tg, iter, ifs, 0⟩] scope pos) (some (.Name y py)) spos.line X.env = pure true) (hi : AE X iter ti) (ok : BlkOk X.N X.env.scope scope own) (gg : GoodG X.K (own.map (·.2)) gt g)
    (hg : ∀ (s : Shared) (H : Hp) (C : Addr) (cl : List (Str × Addr)) (fp : List Addr), PG (X.blk s H scope (compEnvC scope cl C X.env) fp) tg gt)
    (ht : ∀ (s : Shared) (H : Hp) (C : Addr) (cl : List (Str × Addr)) (fp : List Addr), ATs (X.blk s H scope (compEnvC scope cl C X.env) fp) ifs tt)
    (he : ∀ (s : Shared) (H : Hp) (C : Addr) (cl : List (Str × Addr)) (fp : List Addr), AE (X.blk s H scope (compEnvC scope cl C X.env) fp) elt te)
    (hs : ∀ x, foldedSetIterable iter X.env x = pure x := by intro _; rfl) : AS X (.Assign [.Name y py] (.ListComp elt [⟨tg, iter, ifs, 0⟩] scope pos) spos) (aLock (aAsg (aLcG (aKeys ti) g tt te (own.map (·.2))) (gNm i))) :=
  let ⟨_, pi, si⟩ := (ai_keys (tg := tg) hi).ex
  as_lock ⟨_, ps_setLc hc hN hy hyl hsw pi ok hg (fun s H C cl fp => (ht s H C cl fp).p) (fun s H C cl fp => (he s H C cl fp).canon) hs, fun B D δ m σ H W E h De k =>
    lc_soundG si gg B δ m _ σ H W E h _ fun d m1 v H1 s1 W1 r q => k.nx _ m1 _ H1 s1 W1 ((E.carry s1.carry).set r i) q⟩
end
section
variable {te ti : AEt} {g : AGt} {tt : ATt} {Z : AEnds} {δ : Dt} {m : Mu} {p : Addr} {ds : List (Key × D)} {vs' : List Nat} {i : Nat}
theorem setK_pure (hp : m p = some (.dct ds)) (f : D → Option D) (hte : ∀ od vs Q, Q (.ref p) (lkd m p od vs ds) → ti δ (lkd m p od vs ds) Q) (hz : ds.length ≤ sizeLine)
    (hs : ∀ od vs, ∀ d ∈ keysD ds, ∀ R : Option D → Mu → Prop, R (f d) (lkd m p od vs ds) → lcStep g tt te (wipeD δ vs') d (lkd m p od vs ds) R) (q : Z.nx (δ.set i (some (.lst ((keysD ds).filterMap f)))) m) :
    aLock (aAsg (aLcG (aKeys ti) g tt te vs') (gNm i)) Z δ m := by
  refine ⟨p, ds, hp, fun od vs => hte od vs _ ⟨p, od, vs, ds, rfl, Mu.put_same, by unfold keysD; rw [List.length_map]; exact hz, ?_⟩⟩
  refine lc_pure f (fun d hd R r => ?_) ⟨Mu.put_same, Mu.put_same, by rw [Mu.put_put, put_self hp, List.nil_append]; exact q⟩
  exact ⟨Mu.put_same, hs od vs d hd R r⟩
end
/-! ### the parts of a shelf, by their names -/
def ptsD (ps : List Part) : List (Key × D) := ps.map fun p => (.inr (sg p.nm), p.enc)
/-- nothing is wanted -/
structure Sh.Whole (s : Sh) : Prop where
  cl : clashes s.ds = []
  la : lacks s.ds = []
  un : unfits s.ds = []
  tw : twos s.cs = []
instance (s : Sh) : Decidable s.Whole := decidable_of_iff (clashes s.ds = [] ∧ lacks s.ds = [] ∧ unfits s.ds = [] ∧ twos s.cs = []) ⟨fun h => ⟨h.1, h.2.1, h.2.2.1, h.2.2.2⟩, fun h => ⟨h.1, h.2, h.3, h.4⟩⟩
theorem srt_nil {l : List Nat} : srt l = [] ↔ l = [] := ⟨fun h => by have := (srt_perm l).length_eq; rw [h] at this; exact List.eq_nil_of_length_eq_zero this.symm, fun h => by rw [h, srt, List.mergeSort_nil]⟩
theorem psort_nil {l : List (Nat × Nat)} : psort l = [] ↔ l = [] := ⟨fun h => by have := (psort_perm l).length_eq; rw [h] at this; exact List.eq_nil_of_length_eq_zero this.symm, fun h => by rw [h, psort, List.mergeSort_nil]⟩
theorem dd_nil {α : Type} [DecidableEq α] {l : List α} : dd l = [] ↔ l = [] := ⟨fun h => by
  cases l with
  | nil => rfl
  | cons x l => exact absurd (dd_mem.mpr (List.mem_cons_self (a := x) (l := l))) (by rw [h]; simp), fun h => by rw [h]; rfl⟩
theorem wants_whole {s : Sh} : wants s = ⟨[], [], [], []⟩ ↔ s.Whole := by
  unfold wants
  rw [Wt.mk.injEq, srt_nil, srt_nil, psort_nil, srt_nil, dd_nil, dd_nil]
  exact ⟨fun h => ⟨h.1, h.2.1, h.2.2.1, h.2.2.2⟩, fun h => ⟨h.1, h.2, h.3, h.4⟩⟩
/-! ### wholeness by members -/
/-- a form of a deed -/
def Sh.fm (s : Sh) (d : Nat) (f : Fm) : Prop := ∃ fs, (d, fs) ∈ s.ds ∧ f ∈ fs
def Sh.ck (s : Sh) (c : Nat) (k : Kd) : Prop := ∃ ks, (c, ks) ∈ s.cs ∧ k ∈ ks
theorem one_of {α : Type} {l : List α} (h : l.Nodup) : l.length ≤ 1 ↔ ∀ a ∈ l, ∀ b ∈ l, a = b := by
  cases l with
  | nil => simp
  | cons x l =>
    cases l with
    | nil => simp
    | cons y l =>
      rw [List.nodup_cons] at h
      constructor
      · intro z; simp at z
      · intro z
        exact absurd (z x (by simp) y (by simp)) fun e => h.1 (by rw [e]; simp)
theorem filter_nil {α β : Type} {l : List α} {p : α → Bool} {f : α → β} : (l.filter p).map f = [] ↔ ∀ a ∈ l, p a = false := by
  rw [List.map_eq_nil_iff, List.filter_eq_nil_iff]
  exact ⟨fun h a ha => by simpa using h a ha, fun h a ha => by simp [h a ha]⟩
theorem many_one {α : Type} [DecidableEq α] {Pk : Nat → Prop} {Pf : α → Prop} {s : List (Nat × List α)} (h : AOk Pk Pf s) : (s.filter fun p => decide (1 < p.2.length)).map (·.1) = [] ↔ ∀ d x y, (∃ xs, (d, xs) ∈ s ∧ x ∈ xs) → (∃ xs, (d, xs) ∈ s ∧ y ∈ xs) → x = y := by
  rw [filter_nil]
  constructor
  · rintro g d x y ⟨xs, h1, h2⟩ ⟨ys, h3, h4⟩
    have e : xs = ys := Option.some.inj ((lk_of_mem h.nd h1).symm.trans (lk_of_mem h.nd h3))
    subst e
    have := g _ h1
    exact (one_of (h.nf _ h1)).mp (by simpa using this) x h2 y h4
  · rintro g ⟨d, xs⟩ ha
    have := (one_of (h.nf _ ha)).mpr fun x hx y hy => g d x y ⟨xs, ha, hx⟩ ⟨xs, ha, hy⟩
    simpa using this
theorem has_deed {s : Sh} (h : s.ok) {d : Nat} : (lk s.ds d).isNone = false ↔ ∃ f, s.fm d f := by
  constructor
  · intro z
    cases e : lk s.ds d with
    | none => rw [e] at z; cases z
    | some fs =>
      have hm := lk_some e
      have ne := h.d.ne _ hm
      cases fs with
      | nil => exact absurd rfl ne
      | cons f fs => exact ⟨f, _, hm, by simp⟩
  · rintro ⟨f, fs, h1, h2⟩
    rw [lk_of_mem h.d.nd h1]; rfl
theorem lacks_nil {s : Sh} (h : s.ok) : lacks s.ds = [] ↔ ∀ d f, s.fm d f → ∀ a ∈ f.ns, ∃ g, s.fm a.1 g := by
  unfold lacks
  rw [List.flatMap_eq_nil_iff]
  constructor
  · rintro g d f ⟨fs, h1, h2⟩ a ha
    have := List.flatMap_eq_nil_iff.mp (g _ h1) f h2
    exact (has_deed h).mp (filter_nil.mp this a ha)
  · rintro g ⟨d, fs⟩ h1
    rw [List.flatMap_eq_nil_iff]
    intro f hf
    rw [filter_nil]
    exact fun a ha => (has_deed h).mpr (g d f ⟨fs, h1, hf⟩ a ha)
theorem unfits_nil {s : Sh} (h : s.ok) : unfits s.ds = [] ↔ ∀ d f, s.fm d f → ∀ a ∈ f.ns, ∀ g, s.fm a.1 g → (g.tk, g.tl) = a.2 := by
  unfold unfits
  rw [List.flatMap_eq_nil_iff]
  constructor
  · rintro g d f ⟨fs, h1, h2⟩ a ha gg ⟨gs, h3, h4⟩
    have := filter_nil.mp (List.flatMap_eq_nil_iff.mp (g _ h1) f h2) a ha
    simp only [lk_of_mem h.d.nd h3] at this
    rw [List.any_eq_false] at this
    have := this gg h4
    simpa using this
  · rintro g ⟨d, fs⟩ h1
    rw [List.flatMap_eq_nil_iff]
    intro f hf
    rw [filter_nil]
    intro a ha
    cases e : lk s.ds a.1 with
    | none => rfl
    | some gs =>
      simp only
      rw [List.any_eq_false]
      intro gg hg
      have := g d f ⟨fs, h1, hf⟩ a ha gg ⟨gs, lk_some e, hg⟩
      simpa using this
/-- wholeness, told by the forms and the cells' kinds alone -/
structure WholeP (F : Nat → Fm → Prop) (C : Nat → Kd → Prop) : Prop where
  cl : ∀ d x y, F d x → F d y → x = y
  la : ∀ d f, F d f → ∀ a ∈ f.ns, ∃ g, F a.1 g
  un : ∀ d f, F d f → ∀ a ∈ f.ns, ∀ g, F a.1 g → (g.tk, g.tl) = a.2
  tw : ∀ d x y, C d x → C d y → x = y
theorem whole_iff {s : Sh} (h : s.ok) : s.Whole ↔ WholeP s.fm s.ck := by
  constructor
  · exact fun w => ⟨fun d x y => (many_one h.d).mp w.cl d x y, (lacks_nil h).mp w.la, (unfits_nil h).mp w.un, fun d x y => (many_one h.c).mp w.tw d x y⟩
  · exact fun w => ⟨(many_one h.d).mpr w.cl, (lacks_nil h).mpr w.la, (unfits_nil h).mpr w.un, (many_one h.c).mpr w.tw⟩
theorem whole_same {s t : Sh} (h : s.ok) (g : t.ok) (e1 : ∀ d f, s.fm d f ↔ t.fm d f) (e2 : ∀ d f, s.ck d f ↔ t.ck d f) : s.Whole ↔ t.Whole := by
  rw [whole_iff h, whole_iff g]
  have : s.fm = t.fm := by funext d f; exact propext (e1 d f)
  have e : s.ck = t.ck := by funext d f; exact propext (e2 d f)
  rw [this, e]
/-! ### what is wanted of right shelves is short -/
theorem clashes_sub (s : Fms) : (clashes s).length ≤ s.length := by rw [clashes, List.length_map]; exact List.length_filter_le _ _
theorem twos_sub (s : Cks) : (twos s).length ≤ s.length := by rw [twos, List.length_map]; exact List.length_filter_le _ _
theorem lacks_mem {s : Fms} (h : FOk s) {c : Nat} (hc : c ∈ lacks s) : deedC c := by
  obtain ⟨p, hp, h1⟩ := List.mem_flatMap.mp hc
  obtain ⟨f, hf, h2⟩ := List.mem_flatMap.mp h1
  obtain ⟨a, ha, rfl⟩ := List.mem_map.mp h2
  exact (h.f p hp f hf).ns a ((List.mem_filter.mp ha).1)
theorem unfits_mem {s : Fms} (h : FOk s) {c : Nat × Nat} (hc : c ∈ unfits s) : deedC c.1 ∧ deedC c.2 := by
  obtain ⟨p, hp, h1⟩ := List.mem_flatMap.mp hc
  obtain ⟨f, hf, h2⟩ := List.mem_flatMap.mp h1
  obtain ⟨a, ha, rfl⟩ := List.mem_map.mp h2
  exact ⟨h.k p hp, (h.f p hp f hf).ns a ((List.mem_filter.mp ha).1)⟩
theorem flat_len {α β : Type} {f : α → List β} {n : Nat} : ∀ {l : List α}, (∀ a ∈ l, (f a).length ≤ n) → (l.flatMap f).length ≤ n * l.length
  | [], _ => by simp
  | a :: l, h => by
    rw [List.flatMap_cons, List.length_append, List.length_cons, Nat.mul_add]
    have h1 := h a List.mem_cons_self
    have h2 := flat_len (l := l) fun x hx => h x (List.mem_cons_of_mem _ hx)
    omega
theorem flat_cnt {β γ : Type} {f : Nat → β → List γ} {n : Nat} : ∀ {s : List (Nat × List β)}, (∀ p ∈ s, ∀ a ∈ p.2, (f p.1 a).length ≤ n) → (s.flatMap fun p => p.2.flatMap (f p.1)).length ≤ n * L3.cnt s
  | [], _ => by simp [cnt]
  | p :: s, h => by
    rw [List.flatMap_cons, List.length_append, L3.cnt_cons, Nat.mul_add]
    have h1 := flat_len (l := p.2) (h p List.mem_cons_self)
    have h2 := flat_cnt (s := s) fun x hx => h x (List.mem_cons_of_mem _ hx)
    omega
theorem lacks_len {s : Fms} (h : FOk s) : (lacks s).length ≤ 8 * L3.cnt s := by
  unfold lacks
  refine flat_cnt (n := 8) (s := s) (f := fun (_ : Nat) (f : Fm) => (f.ns.filter fun (a : Nat × Kd × Kd) => (lk s a.1).isNone).map fun (a : Nat × Kd × Kd) => a.1) fun p hp f hf => ?_
  rw [List.length_map]; exact Nat.le_trans (List.length_filter_le _ _) (h.f p hp f hf).nl
theorem unfits_len {s : Fms} (h : FOk s) : (unfits s).length ≤ 8 * L3.cnt s := by
  unfold unfits
  refine flat_cnt (n := 8) (s := s) (f := fun (d : Nat) (f : Fm) => (f.ns.filter fun (a : Nat × Kd × Kd) => match lk s a.1 with
  | some gs => gs.any fun (g : Fm) => decide ((g.tk, g.tl) ≠ a.2)
  | none => false).map fun (a : Nat × Kd × Kd) => (d, a.1)) fun p hp f hf => ?_
  rw [List.length_map]; exact Nat.le_trans (List.length_filter_le _ _) (h.f p hp f hf).nl
theorem lacks_dd {s : Fms} (h : FOk s) : (dd (lacks s)).length ≤ 8 := deeds_len (dd_nodup _) fun c hc => lacks_mem h (dd_mem.mp hc)
theorem unfits_dd {s : Fms} (h : FOk s) : (dd (unfits s)).length ≤ 64 := by
  have e : ((lettersD.flatMap fun a => lettersD.map fun b => (a, b)) : List (Nat × Nat)).length = 64 := by decide +kernel
  rw [← e]
  refine nodup_lenG (dd_nodup _) fun c hc => ?_
  obtain ⟨h1, h2⟩ := unfits_mem h (dd_mem.mp hc)
  exact List.mem_flatMap.mpr ⟨c.1, h1, List.mem_map.mpr ⟨c.2, h2, rfl⟩⟩
/-! ### what is wanted, met step by step -/
def keepN (p : Nat → Bool) : D → Option D
  | .str x => if p (un x) = true then some (.str x) else none
  | _ => none
theorem keepN_map (p : Nat → Bool) : ∀ cs : List Nat, (strD (cs.map sg)).filterMap (keepN p) = strD ((cs.filter p).map sg)
  | [] => rfl
  | c :: cs => by
    rw [show strD ((c :: cs).map sg) = .str (sg c) :: strD (cs.map sg) from rfl, List.filterMap_cons, keepN_map p cs, List.filter_cons]
    have e : keepN p (.str (sg c)) = if p c = true then some (.str (sg c)) else none := rfl
    rw [e]
    by_cases h : p c = true
    · rw [if_pos h, if_pos h]; rfl
    · rw [if_neg h, if_neg h]
theorem many_keys {α : Type} {s : List (Nat × List α)} (h : (s.map (·.1)).Nodup) : (s.map (·.1)).filter (fun c => decide (1 < ((lk s c).getD []).length)) = (s.filter fun p => decide (1 < p.2.length)).map (·.1) := by
  rw [List.filter_map]
  refine congrArg _ (List.filter_congr fun p hp => ?_)
  show decide (1 < ((lk s p.1).getD []).length) = _
  rw [lk_of_mem h (hp : (p.1, p.2) ∈ s)]; rfl
theorem keepN_sg {p : Nat → Bool} {c : Nat} : keepN p (.str (sg c)) = if p c = true then some (.str (sg c)) else none := rfl
def isLa (s : Fms) (a : Nat × Kd × Kd) : Bool := (lk s a.1).isNone
def isUn (s : Fms) (a : Nat × Kd × Kd) : Bool := match lk s a.1 with
  | some gs => gs.any fun g => decide ((g.tk, g.tl) ≠ a.2)
  | none => false
def la1 (s : Fms) (f : Fm) : List Nat := (f.ns.filter (isLa s)).map (·.1)
def un1 (s : Fms) (d : Nat) (f : Fm) : List (Nat × Nat) := (f.ns.filter (isUn s)).map fun a => (d, a.1)
def laO (s dn : Fms) : List Nat := dn.flatMap fun p => p.2.flatMap (la1 s)
def unO (s dn : Fms) : List (Nat × Nat) := dn.flatMap fun p => p.2.flatMap (un1 s p.1)
theorem laO_all (s : Fms) : laO s s = lacks s := rfl
theorem unO_all (s : Fms) : unO s s = unfits s := rfl
theorem laO_snoc {s dn : Fms} {p : Nat × List Fm} : laO s (dn ++ [p]) = laO s dn ++ p.2.flatMap (la1 s) := by
  unfold laO; rw [List.flatMap_append, List.flatMap_cons, List.flatMap_nil, List.append_nil]
theorem unO_snoc {s dn : Fms} {p : Nat × List Fm} : unO s (dn ++ [p]) = unO s dn ++ p.2.flatMap (un1 s p.1) := by
  unfold unO; rw [List.flatMap_append, List.flatMap_cons, List.flatMap_nil, List.append_nil]
theorem fl_snoc {α β : Type} {f : α → List β} {l : List α} {x : α} : (l ++ [x]).flatMap f = l.flatMap f ++ f x := by
  rw [List.flatMap_append, List.flatMap_cons, List.flatMap_nil, List.append_nil]
theorem laO_len {s dn : Fms} (h : FOk s) (g : ∀ p ∈ dn, p ∈ s) : (laO s dn).length ≤ 8 * L3.cnt dn := by
  unfold laO
  refine flat_cnt (n := 8) (s := dn) (f := fun (_ : Nat) (f : Fm) => la1 s f) fun p hp f hf => ?_
  unfold la1
  rw [List.length_map]; exact Nat.le_trans (List.length_filter_le _ _) (h.f p (g p hp) f hf).nl
theorem unO_len {s dn : Fms} (h : FOk s) (g : ∀ p ∈ dn, p ∈ s) : (unO s dn).length ≤ 8 * L3.cnt dn := by
  unfold unO
  refine flat_cnt (n := 8) (s := dn) (f := fun (d : Nat) (f : Fm) => un1 s d f) fun p hp f hf => ?_
  unfold un1
  rw [List.length_map]; exact Nat.le_trans (List.length_filter_le _ _) (h.f p (g p hp) f hf).nl
/-- forms of other kinds -/
def unlikeD (k : Kd × Kd) : D → Option D
  | .tup [a, .str x, .str y, b, c] => if x = k.1.s ∧ y = k.2.s then none else some (.tup [a, .str x, .str y, b, c])
  | _ => none
theorem unlike_map (k : Kd × Kd) : ∀ fs : List Fm, (fs.map Fm.enc).filterMap (unlikeD k) = (fs.filter fun g => decide ((g.tk, g.tl) ≠ k)).map Fm.enc
  | [] => rfl
  | f :: fs => by
    obtain ⟨k1, k2⟩ := k
    have e : unlikeD (k1, k2) f.enc = if f.tk.s = k1.s ∧ f.tl.s = k2.s then none else some f.enc := rfl
    rw [List.map_cons, List.filterMap_cons, unlike_map (k1, k2) fs, e, List.filter_cons]
    by_cases h : f.tk = k1 ∧ f.tl = k2
    · rw [if_pos (by rw [Kd.s_inj, Kd.s_inj]; exact h), if_neg (by simp [h.1, h.2])]
    · rw [if_neg (by rw [Kd.s_inj, Kd.s_inj]; exact h), if_pos (by simp; exact Classical.not_and_iff_not_or_not.mp h)]; rfl
theorem any_filter {α : Type} {l : List α} {p : α → Bool} : (!decide (l.filter p = [])) = l.any p := by
  rw [Bool.eq_iff_iff, List.any_eq_true]
  simp [List.filter_eq_nil_iff]
end L3
/-! L25: parts put with a tree; lists of names; givers. -/
namespace L3
open PySem PySem.Spec PyProof.Rows L2
section
variable {α : Type} [DecidableEq α]
def hasA (s : List (Nat × List α)) (d : Nat) (f : α) : Prop := ∃ fs, (d, fs) ∈ s ∧ f ∈ fs
theorem hasA_lk {s : List (Nat × List α)} (h : (s.map (·.1)).Nodup) {d : Nat} {f : α} : hasA s d f ↔ f ∈ (lk s d).getD [] := by
  constructor
  · rintro ⟨fs, h1, h2⟩
    rw [lk_of_mem h h1]; exact h2
  · intro z
    cases e : lk s d with
    | none => rw [e] at z; cases z
    | some fs => rw [e] at z; exact ⟨fs, lk_some e, z⟩
theorem hasA_add {s : List (Nat × List α)} (h : (s.map (·.1)).Nodup) {c d : Nat} {ys : List α} {f : α} : hasA (addA s c ys) d f ↔ hasA s d f ∨ d = c ∧ f ∈ ys := by
  rw [hasA_lk (addA_nodup h), hasA_lk h]
  unfold addA
  rw [lk_put]
  by_cases e : d = c
  · subst e
    rw [if_pos rfl, Option.getD_some, addF_mem]; simp
  · rw [if_neg e]; simp [e]
theorem hasA_cons {r : List (Nat × List α)} {a : Nat × List α} {d : Nat} {f : α} : hasA (a :: r) d f ↔ (d = a.1 ∧ f ∈ a.2) ∨ hasA r d f := by
  unfold hasA
  constructor
  · rintro ⟨fs, h1, h2⟩
    rcases List.mem_cons.mp h1 with e | h
    · subst e; exact .inl ⟨rfl, h2⟩
    · exact .inr ⟨fs, h, h2⟩
  · rintro (⟨rfl, h⟩ | ⟨fs, h1, h2⟩)
    · exact ⟨a.2, List.mem_cons_self, h⟩
    · exact ⟨fs, List.mem_cons_of_mem _ h1, h2⟩
theorem hasA_both : ∀ {r s : List (Nat × List α)}, (s.map (·.1)).Nodup → ∀ {d : Nat} {f : α}, hasA (bothA s r) d f ↔ hasA s d f ∨ hasA r d f
  | [], s, h, d, f => by
    show hasA s d f ↔ _
    have : ¬ hasA ([] : List (Nat × List α)) d f := fun ⟨_, z, _⟩ => nomatch z
    simp [this]
  | a :: r, s, h, d, f => by
    show hasA (bothA (addA s a.1 a.2) r) d f ↔ _
    rw [hasA_both (addA_nodup h), hasA_add h, hasA_cons, or_assoc]
end
/-- a tree with some parts -/
def putWith (t : Tr) (l : List Nat) : Tr := l.foldl (fun t n => .wth t (.part n)) t
theorem putWith_snoc {t : Tr} {l : List Nat} {n : Nat} : putWith t (l ++ [n]) = .wth (putWith t l) (.part n) := by unfold putWith; rw [List.foldl_append]; rfl
theorem putWith_wf {ns : List Nat} : ∀ {l : List Nat} {t : Tr}, t.wf ns → (∀ n ∈ l, n ∈ ns) → (putWith t l).wf ns
  | [], _, h, _ => h
  | n :: l, t, h, g => putWith_wf (l := l) (t := .wth t (.part n)) ⟨h, g n List.mem_cons_self⟩ fun x hx => g x (List.mem_cons_of_mem _ hx)
theorem putWith_dep : ∀ {l : List Nat} {t : Tr}, (putWith t l).dep ≤ t.dep + l.length
  | [], _ => Nat.le_refl _
  | n :: l, t => by
    have := putWith_dep (l := l) (t := .wth t (.part n))
    have h := t.dep_pos
    show (putWith (.wth t (.part n)) l).dep ≤ _
    simp only [Tr.dep] at this
    rw [List.length_cons]
    omega
theorem putWith_size : ∀ {l : List Nat} {t : Tr}, (putWith t l).size = t.size + 2 * l.length
  | [], _ => rfl
  | n :: l, t => by
    have := putWith_size (l := l) (t := .wth t (.part n))
    show (putWith (.wth t (.part n)) l).size = _
    rw [this]
    simp only [Tr.size]
    rw [List.length_cons]
    omega
theorem putWith_nb : ∀ {l : List Nat} {t : Tr}, (putWith t l).nb = t.nb + 8 * l.length
  | [], _ => rfl
  | n :: l, t => by
    have := putWith_nb (l := l) (t := .wth t (.part n))
    show (putWith (.wth t (.part n)) l).nb = _
    rw [this]
    simp only [Tr.nb]
    rw [List.length_cons]
    omega
section
variable {sh : Nat → Sh} {ns : List Nat}
theorem with_fm (h : ∀ p ∈ ns, (sh p).ok ∧ cnt (sh p).ds ≤ 8) : ∀ {l : List Nat} {t : Tr}, t.wf ns → (∀ n ∈ l, n ∈ ns) → ∀ d f, (putT sh (putWith t l)).fm d f ↔ (putT sh t).fm d f ∨ ∃ n ∈ l, (sh n).fm d f
  | [], t, hw, _, d, f => by simp [putWith]
  | n :: l, t, hw, g, d, f => by
    have := with_fm h (l := l) (t := .wth t (.part n)) ⟨hw, g n List.mem_cons_self⟩ (fun x hx => g x (List.mem_cons_of_mem _ hx)) d f
    rw [show putWith t (n :: l) = putWith (.wth t (.part n)) l from rfl, this]
    have e : (putT sh (.wth t (.part n))).fm d f ↔ (putT sh t).fm d f ∨ (sh n).fm d f := hasA_both (putT_ok h t hw).1.d.nd
    rw [e]
    simp [or_assoc]
theorem with_ck (h : ∀ p ∈ ns, (sh p).ok ∧ cnt (sh p).ds ≤ 8) : ∀ {l : List Nat} {t : Tr}, t.wf ns → (∀ n ∈ l, n ∈ ns) → ∀ d f, (putT sh (putWith t l)).ck d f ↔ (putT sh t).ck d f ∨ ∃ n ∈ l, (sh n).ck d f
  | [], t, hw, _, d, f => by simp [putWith]
  | n :: l, t, hw, g, d, f => by
    have := with_ck h (l := l) (t := .wth t (.part n)) ⟨hw, g n List.mem_cons_self⟩ (fun x hx => g x (List.mem_cons_of_mem _ hx)) d f
    rw [show putWith t (n :: l) = putWith (.wth t (.part n)) l from rfl, this]
    have e : (putT sh (.wth t (.part n))).ck d f ↔ (putT sh t).ck d f ∨ (sh n).ck d f := hasA_both (putT_ok h t hw).1.c.nd
    rw [e]
    simp [or_assoc]
/-- what is whole by some names is whole by the same names otherwise told -/
theorem with_same (h : ∀ p ∈ ns, (sh p).ok ∧ cnt (sh p).ds ≤ 8) {t : Tr} {l k : List Nat} (hw : t.wf ns) (g1 : ∀ n ∈ l, n ∈ ns) (e : ∀ n, n ∈ l ↔ n ∈ k) : (putT sh (putWith t l)).Whole ↔ (putT sh (putWith t k)).Whole := by
  have g2 : ∀ n ∈ k, n ∈ ns := fun n hn => g1 n ((e n).mpr hn)
  refine whole_same (putT_ok h _ (putWith_wf hw g1)).1 (putT_ok h _ (putWith_wf hw g2)).1 (fun d f => ?_) fun d f => ?_
  · rw [with_fm h hw g1, with_fm h hw g2]; simp only [e]
  · rw [with_ck h hw g1, with_ck h hw g2]; simp only [e]
/-- without deeds nothing is wanted but cells -/
theorem with_none (h : ∀ p ∈ ns, (sh p).ok ∧ cnt (sh p).ds ≤ 8) {t : Tr} {l : List Nat} (hw : t.wf ns) (g : ∀ n ∈ l, n ∈ ns) (w : (putT sh (putWith t l)).Whole) (e : (putT sh (putWith t l)).ds = []) : (putT sh t).Whole := by
  have no : ∀ d f, ¬ (putT sh t).fm d f := fun d f z => by
    obtain ⟨fs, h1, _⟩ := (with_fm h hw g d f).mpr (.inl z)
    rw [e] at h1; cases h1
  have w2 := (whole_iff (putT_ok h _ (putWith_wf hw g)).1).mp w
  exact (whole_iff (putT_ok h t hw).1).mpr ⟨fun d x y hx => absurd hx (no d x), fun d f hx => absurd hx (no d f), fun d f hx => absurd hx (no d f), fun d x y hx hy => w2.tw d x y ((with_ck h hw g d x).mpr (.inl hx)) ((with_ck h hw g d y).mpr (.inl hy))⟩
end
/-- all rising lists of so many names -/
def listsOf : Nat → List Nat → List (List Nat)
  | 0, _ => [[]]
  | _ + 1, [] => []
  | n + 1, c :: cs => (listsOf n cs).map (c :: ·) ++ listsOf (n + 1) cs
theorem mem_listsOf : ∀ {n : Nat} {ns l : List Nat}, l ∈ listsOf n ns ↔ l.Sublist ns ∧ l.length = n
  | 0, ns, l => by
    rw [listsOf, List.mem_singleton]
    exact ⟨fun h => by rw [h]; exact ⟨List.nil_sublist _, rfl⟩, fun h => List.eq_nil_of_length_eq_zero h.2⟩
  | n + 1, [], l => by
    rw [listsOf]
    refine ⟨fun h => (nomatch h), fun ⟨h1, h2⟩ => ?_⟩
    rw [List.sublist_nil.mp h1] at h2; cases h2
  | n + 1, c :: cs, l => by
    rw [listsOf, List.mem_append, List.mem_map, mem_listsOf (ns := cs)]
    constructor
    · rintro (⟨k, h1, rfl⟩ | ⟨h1, h2⟩)
      · obtain ⟨h1, h2⟩ := mem_listsOf.mp h1
        exact ⟨h1.cons_cons c, by rw [List.length_cons, h2]⟩
      · exact ⟨h1.cons c, h2⟩
    · rintro ⟨h1, h2⟩
      cases h1 with
      | cons _ h => exact .inr ⟨h, h2⟩
      | cons_cons _ h => exact .inl ⟨_, mem_listsOf.mpr ⟨h, by simpa using h2⟩, rfl⟩
theorem listsOf_len : ∀ (n : Nat) (ns : List Nat), (listsOf n ns).length ≤ 2 ^ ns.length
  | 0, ns => by
    rw [listsOf]
    exact Nat.one_le_two_pow
  | n + 1, [] => by rw [listsOf]; exact Nat.zero_le _
  | n + 1, c :: cs => by
    rw [listsOf, List.length_append, List.length_map, List.length_cons, Nat.pow_succ]
    have h1 := listsOf_len n cs
    have h2 := listsOf_len (n + 1) cs
    omega
theorem pow6 {n : Nat} (h : n ≤ 6) : 2 ^ n ≤ 64 := Nat.le_trans (Nat.pow_le_pow_right (by omega) h) (by decide)
/-- from the k-th name on -/
theorem listsOf_drop {n : Nat} {ns : List Nat} {k : Nat} {c : Nat} (h : ns[k]? = some c) : listsOf (n + 1) (ns.drop k) = (listsOf n (ns.drop (k + 1))).map (c :: ·) ++ listsOf (n + 1) (ns.drop (k + 1)) := by
  have hk : k < ns.length := by
    rcases Nat.lt_or_ge k ns.length with q | q
    · exact q
    · rw [List.getElem?_eq_none q] at h; cases h
  rw [List.drop_eq_getElem_cons hk, listsOf]
  rw [List.getElem?_eq_getElem hk] at h
  cases h
  rfl
/-! ### the law of givers -/
structure Found (W : List Nat → Prop) (ns l : List Nat) : Prop where
  sub : l.Sublist ns
  w : W l
  least : ∀ k : List Nat, k.Sublist ns → k.length < l.length → ¬ W k
theorem Found.less {W : List Nat → Prop} {ns l : List Nat} (h : Found W ns l) {k : Nat} (hk : k < l.length) : ¬ W (l.take k ++ l.drop (k + 1)) := by
  refine h.least _ ?_ ?_
  · rw [← List.eraseIdx_eq_take_drop_succ]
    exact (List.eraseIdx_sublist l k).trans h.sub
  · rw [List.length_append, List.length_take, List.length_drop]; omega
theorem rise_dd {l : List Nat} (h : Rsg l) : srt (dd l) = l := by
  have nd := h.nodup
  have p : l.Perm (dd l) := (List.perm_ext_iff_of_nodup nd (dd_nodup l)).mpr fun z => dd_mem.symm
  exact (srt_eq p h.le).symm
theorem two_sub {ns : List Nat} {a b : Nat} (h1 : a ∈ ns) (h2 : b ∈ ns) : ∃ k : List Nat, k.Sublist ns ∧ ∀ n, n ∈ [a, b] ↔ n ∈ k := by
  refine ⟨ns.filter fun n => decide (n = a ∨ n = b), List.filter_sublist, fun n => ?_⟩
  rw [List.mem_filter, decide_eq_true_eq]
  simp only [List.mem_cons, List.not_mem_nil, or_false]
  exact ⟨fun h => ⟨h.elim (fun e => by rw [e]; exact h1) fun e => by rw [e]; exact h2, h⟩, fun h => h.2⟩
/-! ### read -/
theorem ne_lstE {m : Mu} {Q : EK} {ds : List D} (h : eqOk (.lst ds) = true) : rhoNe (.lst ds) (.lst []) m Q = Q (.bl (!ds.isEmpty)) m := by
  rw [ex_ne (by exact h) (by exact okl_nil)]
  have : eqD (rsv m (.lst ds)) (rsv m (.lst [])) = ds.isEmpty := by
    show eqD (.lst ds) (.lst []) = _
    cases ds <;> simp [eqD, D.pd, pds, PyData.eqv, PyData.eqvAll]
  rw [this]
theorem eq_lstE {m : Mu} {Q : EK} {ds : List D} (h : eqOk (.lst ds) = true) : rhoEq (.lst ds) (.lst []) m Q = Q (.bl ds.isEmpty) m := by
  rw [ex_eq (by exact h) (by exact okl_nil)]
  have : eqD (rsv m (.lst ds)) (rsv m (.lst [])) = ds.isEmpty := by
    show eqD (.lst ds) (.lst []) = _
    cases ds <;> simp [eqD, D.pd, pds, PyData.eqv, PyData.eqvAll]
  rw [this]
def notNil : D → Option D
  | .lst [] => none
  | d => some d
theorem strD_okD {cs : List Nat} (h : ∀ c ∈ cs, c < 1114112) : okD (.lst (strD (cs.map sg))) 2 := okD_lst fun d hd => by
  obtain ⟨x, hx, rfl⟩ := List.mem_map.mp hd
  obtain ⟨c, hc, rfl⟩ := List.mem_map.mp hx
  exact okD_sg (h c hc)
theorem prs_okD {cs : List (Nat × Nat)} (h : ∀ c ∈ cs, c.1 < 1114112 ∧ c.2 < 1114112) : okD (.lst ((cs.map prS).map rowT)) 2 := okD_lst fun d hd => by
  obtain ⟨x, hx, rfl⟩ := List.mem_map.mp hd
  obtain ⟨c, hc, rfl⟩ := List.mem_map.mp hx
  exact okD_tup (n := 0) (by simp only [prS, List.map_cons, List.map_nil, List.mem_cons, List.not_mem_nil, or_false, forall_eq_or_imp, forall_eq]; exact ⟨okD_sg (h c hc).1, okD_sg (h c hc).2⟩)
theorem wants_lists {s : Sh} (h : s.ok) : okD (.lst (strD ((wants s).cl.map sg))) 2 ∧ okD (.lst (strD ((wants s).la.map sg))) 2 ∧ okD (.lst (((wants s).un.map prS).map rowT)) 2 ∧ okD (.lst (strD ((wants s).tw.map sg))) 2 := by
  refine ⟨strD_okD fun c hc => ?_, strD_okD fun c hc => ?_, prs_okD fun c hc => ?_, strD_okD fun c hc => ?_⟩
  · obtain ⟨a, ha, rfl⟩ := List.mem_map.mp ((srt_perm _).mem_iff.mp hc)
    exact deedC.lt (h.d.k a (List.mem_filter.mp ha).1)
  · exact deedC.lt (lacks_mem h.d (dd_mem.mp ((srt_perm _).mem_iff.mp hc)))
  · obtain ⟨h1, h2⟩ := unfits_mem h.d (dd_mem.mp ((psort_perm _).mem_iff.mp hc))
    exact ⟨deedC.lt h1, deedC.lt h2⟩
  · obtain ⟨a, ha, rfl⟩ := List.mem_map.mp ((srt_perm _).mem_iff.mp hc)
    exact cellC.lt (h.c.k a (List.mem_filter.mp ha).1)
theorem wants_okD {s : Sh} (h : s.ok) : okD (wants s).enc 3 := by
  obtain ⟨h1, h2, h3, h4⟩ := wants_lists h
  exact okD_tup (by simp only [List.mem_cons, List.not_mem_nil, or_false, forall_eq_or_imp, forall_eq]; exact ⟨h1, h2, h3, h4⟩)
end L3
/-! L26: what is wanted, compared. -/
namespace L3
open PySem PySem.Spec PyProof.Rows L2
theorem sg_eqv (a b : Nat) : PyData.eqv (D.str (sg a)).pd (D.str (sg b)).pd = decide (a = b) := by
  rw [Bool.eq_iff_iff]
  simp [D.pd, PyData.eqv, sg_inj]
theorem strD_map (l : List Nat) : strD (l.map sg) = l.map fun c => D.str (sg c) := by unfold strD; rw [List.map_map]; rfl
theorem eqD_sgs (a b : List Nat) : eqD (.lst (strD (a.map sg))) (.lst (strD (b.map sg))) = decide (a = b) := by
  rw [strD_map, strD_map]
  unfold eqD
  rw [D.pd, D.pd, PyData.eqv, eqv_map sg_eqv]
def noneW : D := .tup [.lst [], .lst [], .lst [], .lst []]
theorem noneW_ok : eqOk noneW = true := by decide +kernel
theorem eqD_wants (s : Sh) : eqD (wants s).enc noneW = decide s.Whole := by
  rw [Bool.eq_iff_iff, decide_eq_true_eq, ← wants_whole]
  cases wants s with
  | mk a b c d => cases a <;> cases b <;> cases c <;> cases d <;> simp [noneW, Wt.enc, strD, eqD, D.pd, pds, PyData.eqv, PyData.eqvAll]
section
variable {m : Mu} {Q : EK}
theorem eq_wants {s : Sh} (h : s.ok) : rhoEq (wants s).enc noneW m Q = Q (.bl (decide s.Whole)) m := by
  rw [ex_eq (by exact (wants_okD h).eq (by omega)) (by exact noneW_ok)]
  rw [show eqD (rsv m (wants s).enc) (rsv m noneW) = decide s.Whole from eqD_wants s]
theorem ne_wants {s : Sh} (h : s.ok) : rhoNe (wants s).enc noneW m Q = Q (.bl (!decide s.Whole)) m := by
  rw [ex_ne (by exact (wants_okD h).eq (by omega)) (by exact noneW_ok)]
  rw [show eqD (rsv m (wants s).enc) (rsv m noneW) = decide s.Whole from eqD_wants s]
theorem ne_sgs {a b : List Nat} (h : ∀ c ∈ a, c < 1114112) (g : ∀ c ∈ b, c < 1114112) : rhoNe (.lst (strD (a.map sg))) (.lst (strD (b.map sg))) m Q = Q (.bl (!decide (a = b))) m := by
  rw [ex_ne (by exact strsOk h) (by exact strsOk g)]
  rw [show eqD (rsv m (.lst (strD (a.map sg)))) (rsv m (.lst (strD (b.map sg)))) = decide (a = b) from eqD_sgs a b]
end
theorem nb_le : ∀ t : Tr, t.nb ≤ 4 * 2 ^ t.dep
  | .part _ => by simp [Tr.nb, Tr.dep]
  | .wth a b => by
    have h1 := nb_le a
    have h2 := nb_le b
    have h3 : 2 ^ a.dep ≤ 2 ^ (max a.dep b.dep) := Nat.pow_le_pow_right (by omega) (by omega)
    have h4 : 2 ^ b.dep ≤ 2 ^ (max a.dep b.dep) := Nat.pow_le_pow_right (by omega) (by omega)
    simp only [Tr.nb, Tr.dep, Nat.pow_add, Nat.pow_one]
    omega
  | .wout a _ => by
    have h1 := nb_le a
    simp only [Tr.nb, Tr.dep, Nat.pow_add, Nat.pow_one]
    omega
  | .also a _ _ => by
    have h1 := nb_le a
    simp only [Tr.nb, Tr.dep, Nat.pow_add, Nat.pow_one]
    omega
  | .ren a _ _ => by
    have h1 := nb_le a
    simp only [Tr.nb, Tr.dep, Nat.pow_add, Nat.pow_one]
    omega
  | .over a _ => by
    have h1 := nb_le a
    have h2 := Nat.pow_le_pow_right (n := 2) (by omega) a.dep_pos
    simp only [Tr.nb, Tr.dep, Nat.pow_add, Nat.pow_one]
    omega
/-- rising -/
theorem srt_rsg {l : List Nat} (h : l.Nodup) : Rsg (srt l) := srt_ris h
theorem found_ris {W : List Nat → Prop} {l ns : List Nat} (h : Found W (srt ns) l) (g : ns.Nodup) : Rsg l := (srt_ris g).sublist h.sub
theorem Rg.keep {ha hb : Addr} {m m' : Mu} (R : Rg ha hb m) (h : ∀ b c, m b = some c → m' b = some c) : Rg ha hb m' := by
  obtain ⟨a, b, ns, e1, e2⟩ := R.ex
  exact ⟨R.ne, a, b, ns, h _ _ e1, h _ _ e2⟩
end L3
/-! L33: what one run tells, told in parts. -/
namespace L3
theorem join_parts {σ α γ β2 β3 β4 : Type} {o : Option σ} {f : σ → α} {g : σ → γ} {ob : σ → ((Bool × β2) × β3) × β4} {p q : σ → Bool} {a : α} {c : γ} {b2 : β2} {b3 : β3} {b4 : β4}
    (h : ∀ s, (ob s).1.1.1 = (p s && q s)) (h1 : o.map (fun s => (f s, g s, p s)) = some (a, c, true)) (h0 : o.map (fun s => (f s, g s, q s)) = some (a, c, true))
    (h2 : o.map (fun s => (f s, g s, ((ob s).1.1.2, (ob s).1.2))) = some (a, c, (b2, b3))) (h3 : o.map (fun s => (f s, g s, (ob s).2)) = some (a, c, b4)) :
    o.map (fun s => (f s, g s, ob s)) = some (a, c, (((true, b2), b3), b4)) := by
  cases o with
  | none => cases h1
  | some s =>
    simp only [Option.map_some, Option.some.injEq, Prod.mk.injEq] at h1 h0 h2 h3 ⊢
    obtain ⟨e1, e2, e3⟩ := h1
    obtain ⟨_, _, e0⟩ := h0
    obtain ⟨_, _, e4, e5⟩ := h2
    obtain ⟨_, _, e6⟩ := h3
    have e7 : (ob s).1.1.1 = true := by rw [h, e3, e0]; rfl
    refine ⟨e1, e2, ?_⟩
    rw [← e7, ← e4, ← e5, ← e6]
end L3
set_option maxHeartbeats 0
/-! the head's run. -/
namespace K16
open PySem PySem.Spec PyProof.Rows L2 L3
def dd_is_letter : He.DefD := ⟨("is_letter", none), "is_letter", "is_letter", defArgs s_is_letter, defBody s_is_letter, defScope s_is_letter, [], []⟩
def dd_is_whole : He.DefD := ⟨("is_whole", none), "is_whole", "is_whole", defArgs s_is_whole, defBody s_is_whole, defScope s_is_whole, [], []⟩
def dd_is_whole_kinds : He.DefD := ⟨("is_whole_kinds", none), "is_whole", "is_whole", defArgs s_is_whole_kinds, defBody s_is_whole_kinds, defScope s_is_whole_kinds, [], []⟩
def dd_kind_of : He.DefD := ⟨("kind_of", none), "kind_of", "kind_of", defArgs s_kind_of, defBody s_kind_of, defScope s_kind_of, [], []⟩
def dd_first_worth : He.DefD := ⟨("first_worth", none), "first_worth", "first_worth", defArgs s_first_worth, defBody s_first_worth, defScope s_first_worth, [], []⟩
def dd_cut : He.DefD := ⟨("cut", none), "cut", "cut", defArgs s_cut, defBody s_cut, defScope s_cut, [], []⟩
def dd_is_arm : He.DefD := ⟨("is_arm", none), "is_arm", "is_arm", defArgs s_is_arm, defBody s_is_arm, defScope s_is_arm, [], []⟩
def dd_words_in : He.DefD := ⟨("words_in", none), "words_in", "words_in", defArgs s_words_in, defBody s_words_in, defScope s_words_in, [], []⟩
def dd_is_body : He.DefD := ⟨("is_body", none), "is_body", "is_body", defArgs s_is_body, defBody s_is_body, defScope s_is_body, [], []⟩
def dd_within : He.DefD := ⟨("within", none), "within", "within", defArgs s_within, defBody s_within, defScope s_within, [], []⟩
def dd_calls_in : He.DefD := ⟨("calls_in", none), "calls_in", "calls_in", defArgs s_calls_in, defBody s_calls_in, defScope s_calls_in, [], []⟩
def dd_renamed_body : He.DefD := ⟨("renamed_body", none), "renamed_body", "renamed_body", defArgs s_renamed_body, defBody s_renamed_body, defScope s_renamed_body, [], []⟩
def dd_kind_in : He.DefD := ⟨("kind_in", none), "kind_in", "kind_in", defArgs s_kind_in, defBody s_kind_in, defScope s_kind_in, [], []⟩
def dd_are_kinds : He.DefD := ⟨("are_kinds", none), "are_kinds", "are_kinds", defArgs s_are_kinds, defBody s_are_kinds, defScope s_are_kinds, [], []⟩
def dd_are_rising : He.DefD := ⟨("are_rising", none), "are_rising", "are_rising", defArgs s_are_rising, defBody s_are_rising, defScope s_are_rising, [], []⟩
def dd_are_rows : He.DefD := ⟨("are_rows", none), "are_rows", "are_rows", defArgs s_are_rows, defBody s_are_rows, defScope s_are_rows, [], []⟩
def dd_are_deeds : He.DefD := ⟨("are_deeds", none), "are_deeds", "are_deeds", defArgs s_are_deeds, defBody s_are_deeds, defScope s_are_deeds, [], []⟩
def dd_why_none : He.DefD := ⟨("why_none", none), "why_none", "why_none", defArgs s_why_none, defBody s_why_none, defScope s_why_none, [], []⟩
def dd_need_part : He.DefD := ⟨("need_part", none), "need_part", "need_part", defArgs s_need_part, defBody s_need_part, defScope s_need_part, [], []⟩
def dd_need_shelf : He.DefD := ⟨("need_shelf", none), "need_shelf", "need_shelf", defArgs s_need_shelf, defBody s_need_shelf, defScope s_need_shelf, [], []⟩
def dd_given_in : He.DefD := ⟨("given_in", none), "given_in", "given_in", defArgs s_given_in, defBody s_given_in, defScope s_given_in, [], []⟩
def dd_wrong_deed : He.DefD := ⟨("wrong_deed", none), "wrong_deed", "wrong_deed", defArgs s_wrong_deed, defBody s_wrong_deed, defScope s_wrong_deed, [], []⟩
def dd_trees_in : He.DefD := ⟨("trees_in", none), "trees_in", "trees_in", defArgs s_trees_in, defBody s_trees_in, defScope s_trees_in, [], []⟩
def dd_need_tree : He.DefD := ⟨("need_tree", none), "need_tree", "need_tree", defArgs s_need_tree, defBody s_need_tree, defScope s_need_tree, [], []⟩
def dd_of_part : He.DefD := ⟨("of_part", none), "of_part", "of_part", defArgs s_of_part, defBody s_of_part, defScope s_of_part, [], []⟩
def dd_renamed_form : He.DefD := ⟨("renamed_form", none), "renamed_form", "renamed_form", defArgs s_renamed_form, defBody s_renamed_form, defScope s_renamed_form, [], []⟩
def dd_renamed_sheaf : He.DefD := ⟨("renamed_sheaf", none), "renamed_sheaf", "renamed_sheaf", defArgs s_renamed_sheaf, defBody s_renamed_sheaf, defScope s_renamed_sheaf, [], []⟩
def dd_put : He.DefD := ⟨("put", none), "put", "put", defArgs s_put, defBody s_put, defScope s_put, [], []⟩
def dd_put_together : He.DefD := ⟨("put_together", none), "put_together", "put_together", defArgs s_put_together, defBody s_put_together, defScope s_put_together, [], []⟩
def dd_wanting_in : He.DefD := ⟨("wanting_in", none), "wanting_in", "wanting_in", defArgs s_wanting_in, defBody s_wanting_in, defScope s_wanting_in, [], []⟩
def dd_wanting : He.DefD := ⟨("wanting", none), "wanting", "wanting", defArgs s_wanting, defBody s_wanting, defScope s_wanting, [], []⟩
def dd_is_whole_flats : He.DefD := ⟨("is_whole_flats", none), "is_whole", "is_whole", defArgs s_is_whole_flats, defBody s_is_whole_flats, defScope s_is_whole_flats, [], []⟩
def dd_lists_of : He.DefD := ⟨("lists_of", none), "lists_of", "lists_of", defArgs s_lists_of, defBody s_lists_of, defScope s_lists_of, [], []⟩
def dd_givers : He.DefD := ⟨("givers", none), "givers", "givers", defArgs s_givers, defBody s_givers, defScope s_givers, [], []⟩
def dd_reckoned : He.DefD := ⟨("reckoned", none), "reckoned", "reckoned", defArgs s_reckoned, defBody s_reckoned, defScope s_reckoned, [], []⟩
def dd_of_list : He.DefD := ⟨("of_list", none), "of_list", "of_list", defArgs s_of_list, defBody s_of_list, defScope s_of_list, [], []⟩
def dd_named_in : He.DefD := ⟨("named_in", none), "named_in", "named_in", defArgs s_named_in, defBody s_named_in, defScope s_named_in, [], []⟩
def dd__law_mix : He.DefD := ⟨("_law_mix", none), "_law_mix", "_law_mix", defArgs s__law_mix, defBody s__law_mix, defScope s__law_mix, [], []⟩
def dd__law_next : He.DefD := ⟨("_law_next", none), "_law_next", "_law_next", defArgs s__law_next, defBody s__law_next, defScope s__law_next, [], []⟩
def dd__law_alike : He.DefD := ⟨("_law_alike", none), "_law_alike", "_law_alike", defArgs s__law_alike, defBody s__law_alike, defScope s__law_alike, [], []⟩
def dd__law_leaf : He.DefD := ⟨("_law_leaf", none), "_law_leaf", "_law_leaf", defArgs s__law_leaf, defBody s__law_leaf, defScope s__law_leaf, [], []⟩
def dd__law_call : He.DefD := ⟨("_law_call", none), "_law_call", "_law_call", defArgs s__law_call, defBody s__law_call, defScope s__law_call, [], []⟩
def dd__law_body : He.DefD := ⟨("_law_body", none), "_law_body", "_law_body", defArgs s__law_body, defBody s__law_body, defScope s__law_body, [], []⟩
def dd__law_reckons : He.DefD := ⟨("_law_reckons", none), "_law_reckons", "_law_reckons", defArgs s__law_reckons, defBody s__law_reckons, defScope s__law_reckons, [], []⟩
def dd__law_calls : He.DefD := ⟨("_law_calls", none), "_law_calls", "_law_calls", defArgs s__law_calls, defBody s__law_calls, defScope s__law_calls, [], []⟩
def dd__law_used : He.DefD := ⟨("_law_used", none), "_law_used", "_law_used", defArgs s__law_used, defBody s__law_used, defScope s__law_used, [], []⟩
def dd__law_part : He.DefD := ⟨("_law_part", none), "_law_part", "_law_part", defArgs s__law_part, defBody s__law_part, defScope s__law_part, [], []⟩
def dd__law_shelf : He.DefD := ⟨("_law_shelf", none), "_law_shelf", "_law_shelf", defArgs s__law_shelf, defBody s__law_shelf, defScope s__law_shelf, [], []⟩
def dd__law_tree : He.DefD := ⟨("_law_tree", none), "_law_tree", "_law_tree", defArgs s__law_tree, defBody s__law_tree, defScope s__law_tree, [], []⟩
def dd__law_whole : He.DefD := ⟨("_law_whole", none), "_law_whole", "_law_whole", defArgs s__law_whole, defBody s__law_whole, defScope s__law_whole, [], []⟩
def dd__law_put_with : He.DefD := ⟨("_law_put_with", none), "_law_put_with", "_law_put_with", defArgs s__law_put_with, defBody s__law_put_with, defScope s__law_put_with, [], []⟩
def dd_law : He.DefD := ⟨("law", none), "law", "law", defArgs s_law, defBody s_law, defScope s_law, [], []⟩
def dd_Sheaf_init : He.DefD := ⟨("Sheaf", some "__init__"), "__init__", "Sheaf.__init__", defArgs s_Sheaf_init, defBody s_Sheaf_init, defScope s_Sheaf_init, [], []⟩
def dd_Sheaf_with_forms : He.DefD := ⟨("Sheaf", some "with_forms"), "with_forms", "Sheaf.with_forms", defArgs s_Sheaf_with_forms, defBody s_Sheaf_with_forms, defScope s_Sheaf_with_forms, [], []⟩
def dd_Sheaf_with_cells : He.DefD := ⟨("Sheaf", some "with_cells"), "with_cells", "Sheaf.with_cells", defArgs s_Sheaf_with_cells, defBody s_Sheaf_with_cells, defScope s_Sheaf_with_cells, [], []⟩
def dd_Runner_init : He.DefD := ⟨("Runner", some "__init__"), "__init__", "Runner.__init__", defArgs s_Runner_init, defBody s_Runner_init, defScope s_Runner_init, [], []⟩
def dd_Runner_run : He.DefD := ⟨("Runner", some "run"), "run", "Runner.run", defArgs s_Runner_run, defBody s_Runner_run, defScope s_Runner_run, [], []⟩
def dd_Runner_come : He.DefD := ⟨("Runner", some "come"), "come", "Runner.come", defArgs s_Runner_come, defBody s_Runner_come, defScope s_Runner_come, [], []⟩
def dd_Runner_put_in : He.DefD := ⟨("Runner", some "put_in"), "put_in", "Runner.put_in", defArgs s_Runner_put_in, defBody s_Runner_put_in, defScope s_Runner_put_in, [], []⟩
def dd_Thing_init : He.DefD := ⟨("Thing", some "__init__"), "__init__", "Thing.__init__", defArgs s_Thing_init, defBody s_Thing_init, defScope s_Thing_init, [], []⟩
def dd_Thing_call : He.DefD := ⟨("Thing", some "call"), "call", "Thing.call", defArgs s_Thing_call, defBody s_Thing_call, defScope s_Thing_call, [], []⟩
def dd_Thing_deeds : He.DefD := ⟨("Thing", some "deeds"), "deeds", "Thing.deeds", defArgs s_Thing_deeds, defBody s_Thing_deeds, defScope s_Thing_deeds, [], []⟩
def dd_Thing_cells : He.DefD := ⟨("Thing", some "cells"), "cells", "Thing.cells", defArgs s_Thing_cells, defBody s_Thing_cells, defScope s_Thing_cells, [], []⟩
def fn : List He.DefD := [dd_is_letter, dd_is_whole, dd_is_whole_kinds, dd_kind_of, dd_first_worth, dd_cut, dd_is_arm, dd_words_in, dd_is_body, dd_within, dd_calls_in, dd_renamed_body, dd_kind_in, dd_are_kinds, dd_are_rising, dd_are_rows, dd_are_deeds, dd_why_none, dd_need_part, dd_need_shelf, dd_given_in, dd_wrong_deed, dd_trees_in, dd_need_tree, dd_of_part, dd_renamed_form, dd_renamed_sheaf, dd_put, dd_put_together, dd_wanting_in, dd_wanting, dd_is_whole_flats, dd_lists_of, dd_givers, dd_reckoned, dd_of_list, dd_named_in, dd__law_mix, dd__law_next, dd__law_alike, dd__law_leaf, dd__law_call, dd__law_body, dd__law_reckons, dd__law_calls, dd__law_used, dd__law_part, dd__law_shelf, dd__law_tree, dd__law_whole, dd__law_put_with, dd_law, dd_Sheaf_init, dd_Sheaf_with_forms, dd_Sheaf_with_cells, dd_Runner_init, dd_Runner_run, dd_Runner_come, dd_Runner_put_in, dd_Thing_init, dd_Thing_call, dd_Thing_deeds, dd_Thing_cells]
def fa : List He.Fa := ([.glo "is_letter", .glo "is_whole", .glo "is_whole_kinds", .glo "kind_of", .glo "first_worth", .glo "cut", .glo "is_arm", .glo "words_in", .glo "is_body", .glo "within", .glo "calls_in", .glo "renamed_body", .glo "kind_in", .glo "are_kinds", .glo "are_rising", .glo "are_rows", .glo "are_deeds", .glo "why_none", .glo "need_part", .glo "need_shelf", .glo "given_in", .glo "wrong_deed", .glo "trees_in", .glo "need_tree", .glo "of_part", .glo "renamed_form", .glo "renamed_sheaf", .glo "put", .glo "put_together", .glo "wanting_in"] : List He.Fa) ++ ([.glo "wanting", .glo "is_whole_flats", .glo "lists_of", .glo "givers", .glo "reckoned", .glo "of_list", .glo "named_in", .glo "_law_mix", .glo "_law_next", .glo "_law_alike", .glo "_law_leaf", .glo "_law_call", .glo "_law_body", .glo "_law_reckons", .glo "_law_calls", .glo "_law_used", .glo "_law_part", .glo "_law_shelf", .glo "_law_tree", .glo "_law_whole", .glo "_law_put_with", .glo "law", .glo "ARMS", .glo "TAKES", .glo "TELLS", .glo "SHAPES", .free "bool", .free "dict", .free "int", .free "isinstance"] : List He.Fa) ++ ([.free "len", .free "list", .free "max", .free "min", .free "range", .free "set", .free "sorted", .free "str", .free "tuple", .free "zip", .glo "Sheaf", .cls "Sheaf", .mkr "Sheaf", .noat "Sheaf" "by_deed", .noat "Sheaf" "by_cell", .glo "Runner", .cls "Runner", .mkr "Runner", .noat "Runner" "shapes", .noat "Runner" "kinds", .noat "Runner" "holds", .noat "Runner" "steps", .glo "Thing", .cls "Thing", .mkr "Thing", .noat "Thing" "runner", .meth "Sheaf" "with_forms", .meth "Sheaf" "with_cells", .meth "Runner" "run", .meth "Runner" "come"] : List He.Fa) ++ ([.meth "Runner" "put_in", .meth "Thing" "call", .meth "Thing" "deeds", .meth "Thing" "cells"] : List He.Fa)
def ts : List He.Tab := [(fun K => He.ga K "ARMS", ["number", "truth", "empty", "argument", "cell", "plus", "less", "times", "below", "same", "not", "and", "if", "put", "first", "rest", "many", "set", "then", "call"]), (fun K => He.ga K "TAKES", ["plus", "less", "times", "below", "not", "and", "put", "first", "rest", "many"]), (fun K => He.ga K "TELLS", ["number", "truth", "empty", "plus", "less", "times", "below", "same", "not", "and", "put", "first", "rest", "many"]), (fun K => He.ga K "SHAPES", ["part", "with", "without", "also", "renamed", "over"])]
def exs : List (PySem.W.Frag → Bool) := ([(fun K => gloB K "NUMBER" (.str "number")), (fun K => gloB K "TRUTH" (.str "truth")), (fun K => gloB K "LIST" (.str "list")), (fun K => gloB K "KINDS" (.tup [(.str "number"), (.str "truth"), (.str "list")])), (fun K => gloB K "DEEDS" (.str "abcdefgh")), (fun K => gloB K "CELLS" (.str "pqrs")), (fun K => gloB K "PARTS" (.str "ABCDEF")), (fun K => gloB K "MOST" (.int (999))), (fun K => gloB K "MOST_LIST" (.int (8))), (fun K => gloB K "MOST_WORDS" (.int (60))), (fun K => gloB K "MOST_WITHIN_bodies" (.int (9))), (fun K => gloB K "MOST_WRITTEN" (.int (99))), (fun K => gloB K "MOST_DEEDS" (.int (8))), (fun K => gloB K "MOST_CELLS" (.int (4))), (fun K => gloB K "MOST_PARTS" (.int (6))), (fun K => gloB K "MOST_TREES" (.int (40))), (fun K => gloB K "MOST_WITHIN_trees" (.int (9))), (fun K => gloB K "MOST_STEPS" (.int (1000))), (fun K => gloB K "MOST_CALLS" (.int (20))), (fun K => tabB K (He.ga K "ARMS") kt_ARMS), (fun K => tabB K (He.ga K "TAKES") kt_TAKES), (fun K => tabB K (He.ga K "TELLS") kt_TELLS), (fun K => tabB K (He.ga K "SHAPES") kt_SHAPES)] : List (PySem.W.Frag → Bool))
def ex : PySem.W.Frag → Bool := fun K => exs.all fun f => f K
theorem ex_at {K : PySem.W.Frag} (h : ex K = true) (i : Nat) {f : PySem.W.Frag → Bool} (e : exs[i]? = some f := by rfl) : f K = true := List.all_eq_true.mp h f (List.mem_of_getElem? e)
abbrev R : PySem.W.OpenRow := PySem.W.OpenLaw.row PySem.Challenge.rw_partdeeds_k16_whole_what_givers_give
abbrev hk : PySem.W.Hook := He.hookX 4 fa fn ts [] ex
def loose : List PySem.Str := (["__name__", "PartError", "BadPart", "BadShelf", "BadTree", "NotRight", "NotWhole", "BadCall", "Long", "NUMBER", "TRUTH", "LIST", "KINDS", "DEEDS", "CELLS", "PARTS", "MOST", "MOST_LIST", "is_letter", "is_whole", "is_whole_kinds", "kind_of", "first_worth", "cut", "MOST_WORDS", "MOST_WITHIN_bodies", "MOST_WRITTEN", "ARMS", "TAKES", "TELLS"] : List PySem.Str) ++ (["is_arm", "words_in", "is_body", "within", "calls_in", "renamed_body", "kind_in", "are_kinds", "MOST_DEEDS", "MOST_CELLS", "MOST_PARTS", "are_rising", "are_rows", "are_deeds", "why_none", "need_part", "need_shelf", "given_in", "wrong_deed", "MOST_TREES", "MOST_WITHIN_trees", "SHAPES", "trees_in", "need_tree", "Sheaf", "of_part", "renamed_form", "renamed_sheaf", "put", "put_together"] : List PySem.Str) ++ (["wanting_in", "wanting", "is_whole_flats", "lists_of", "givers", "MOST_STEPS", "MOST_CALLS", "reckoned", "of_list", "Runner", "named_in", "Thing", "_law_mix", "_law_next", "_law_alike", "_law_leaf", "_law_call", "_law_body", "_law_reckons", "_law_calls", "_law_used", "_law_part", "_law_shelf", "_law_tree", "_law_whole", "_law_put_with"] : List PySem.Str)
def ob (s : PySem.W.SharedT) : He.AlX := He.obsX 4 fa fn ts [] ex (HandSHeadRun.getT s)
theorem ob_eq (s : PySem.W.SharedT) : ob s = hk.obs s.abs := He.obsX_eq (HandSHeadRun.getT_eq s)
def ob1 (s : PySem.W.SharedT) : He.AlX := He.obsX 4 fa [] [] [] (fun _ => true) (HandSHeadRun.getT s)
def ob2 (s : PySem.W.SharedT) : He.AlX := He.obsX 4 [] fn [] [] (fun _ => true) (HandSHeadRun.getT s)
theorem ob_12 (s : PySem.W.SharedT) : (ob s).1.1.1 = ((ob1 s).1.1.1 && (ob2 s).1.1.1) := by
  show (_ && _) = ((_ && true) && (true && _))
  rw [Bool.and_true, Bool.true_and]
  try rfl
abbrev hkP (β : Type) (b : β) (v : World → β) : PySem.W.Hook := ⟨β, fun _ => b, v, fun _ _ => True, fun _ _ _ => trivial, fun _ _ _ _ _ => trivial⟩
theorem run_false_a (w : World) : HandSHeadRun.RunEq R (PySem.W.view R.prog [95]) (hkP Bool true fun _ => true) (fun s => (ob1 s).1.1.1) 9000 loose (w.withFollow "special-get-raises" false) := by
  intro os
  kernel_rfl
theorem run_false_b (w : World) : HandSHeadRun.RunEq R (PySem.W.view R.prog [95]) (hkP Bool true fun _ => true) (fun s => (ob2 s).1.1.1) 9000 loose (w.withFollow "special-get-raises" false) := by
  intro os
  kernel_rfl
theorem run_false_c (w : World) : HandSHeadRun.RunEq R (PySem.W.view R.prog [95]) (hkP (List He.FnW × List (Option (List (Option (PySem.Str × Int))))) ([], []) fun w => (fn.map He.DefD.val, (He.valT fn ts w).2)) (fun s => ((ob s).1.1.2, (ob s).1.2)) 9000 loose (w.withFollow "special-get-raises" false) := by
  intro os
  kernel_rfl
theorem run_false_d (w : World) : HandSHeadRun.RunEq R (PySem.W.view R.prog [95]) (hkP Bool true fun _ => true) (fun s => (ob s).2) 9000 loose (w.withFollow "special-get-raises" false) := by
  intro os
  kernel_rfl
theorem run_false (w : World) : HandSHeadRun.RunEq R (PySem.W.view R.prog [95]) hk ob 9000 loose (w.withFollow "special-get-raises" false) := fun os => L3.join_parts ob_12 (run_false_a w os) (run_false_b w os) (run_false_c w os) (run_false_d w os)
theorem run_true_a (w : World) : HandSHeadRun.RunEq R (PySem.W.view R.prog [95]) (hkP Bool true fun _ => true) (fun s => (ob1 s).1.1.1) 9000 loose (w.withFollow "special-get-raises" true) := by
  intro os
  kernel_rfl
theorem run_true_b (w : World) : HandSHeadRun.RunEq R (PySem.W.view R.prog [95]) (hkP Bool true fun _ => true) (fun s => (ob2 s).1.1.1) 9000 loose (w.withFollow "special-get-raises" true) := by
  intro os
  kernel_rfl
theorem run_true_c (w : World) : HandSHeadRun.RunEq R (PySem.W.view R.prog [95]) (hkP (List He.FnW × List (Option (List (Option (PySem.Str × Int))))) ([], []) fun w => (fn.map He.DefD.val, (He.valT fn ts w).2)) (fun s => ((ob s).1.1.2, (ob s).1.2)) 9000 loose (w.withFollow "special-get-raises" true) := by
  intro os
  kernel_rfl
theorem run_true_d (w : World) : HandSHeadRun.RunEq R (PySem.W.view R.prog [95]) (hkP Bool true fun _ => true) (fun s => (ob s).2) 9000 loose (w.withFollow "special-get-raises" true) := by
  intro os
  kernel_rfl
theorem run_true (w : World) : HandSHeadRun.RunEq R (PySem.W.view R.prog [95]) hk ob 9000 loose (w.withFollow "special-get-raises" true) := fun os => L3.join_parts ob_12 (run_true_a w os) (run_true_b w os) (run_true_c w os) (run_true_d w os)
theorem run (w : World) : HandSHeadRun.RunEq R (PySem.W.view R.prog [95]) hk ob 9000 loose w := PySem.W.byRow2 "special-get-raises" (P := fun w => HandSHeadRun.RunEq R (PySem.W.view R.prog [95]) hk ob 9000 loose w) run_false run_true w
end K16
/-! kinds of bodies. -/
namespace K16
open PySem PySem.Spec PyProof.Rows L2 L3
variable {P : Program} {w : World} {K : PySem.W.Frag} {mg : Str → Option Value} {base : Heap}
local macro_rules | `(tactic| walk_at "rw") => `(tactic| simp only [ arms_un, arms_bin, arms_num, arms_tru, arms_emp, arms_arg, arms_cel, arms_set, arms_cal, arms_ite, zs_n, zs_t, zs_e, zs_c, zs_x, zs_xx, zs_xxx, zs_cx, zs_dx, len_n, len_t, len_e, len_c, len_x, len_xx, len_xxx, len_cx, len_dx, aRet, aRetN, aDrop, aIfS, aSeq, aNext, aAsg, gNm, gTupD, gConsD, gNilD, aFor, ex_var0, ex_varS, aC, aOp, aCall, aCons, aNil, aTup, aLst, aB, aAnd, aOr, aNot, aAndV, aOrV, aNotV, aIf, aNeg, aChain, aKix, aKGet1, aKGet2, aDGet1, aDGet2, aNoPart, aPart, aSl, aList, aTupI, aStrI, aZipS, aYes, aLc, aNever, aBreak, aCont, forGo, lcGo,
  isi_str_str, isi_str_int, isi_str_bool, isi_str_tuple, isi_str_list, isi_int_str, isi_int_int, isi_int_bool, isi_int_tuple, isi_int_list, isi_bl_str, isi_bl_int, isi_bl_bool, isi_bl_tuple, isi_bl_list, isi_non_str, isi_non_int, isi_non_bool, isi_non_tuple, isi_non_list, isi_tup_str, isi_tup_int, isi_tup_bool, isi_tup_tuple, isi_tup_list, isi_lst_str, isi_lst_int, isi_lst_bool, isi_lst_tuple, isi_lst_list, isi_dct_str, isi_dct_int, isi_dct_bool, isi_dct_tuple, isi_dct_list, isi2_str, isi2_int, isi2_bl, isi2_non, isi2_tup, isi2_lst, isi2_dct, Option.getD_some, Option.getD_none, D.isNon, sz_0, sz_1, sz_2, sz_3, sz_4, sz_5, sz_6, sz_7, sz_8, sz_9, sz_10, sz_11, sz_12, sz_13, sz_14, sz_15, sz_16, sg_len, ex_in_sg, ex_len_str, ex_len_tup, ex_len_lst, ex_eq_str, ex_ne_str, ex_eq_int, ex_ne_int, ex_eq_ns, ex_eq_sn, ex_eq_nn, ex_ne_ns, ex_ne_sn, ex_ne_nn, ex_I, ex_add_int, ex_add_str, ex_add_tup, ex_add_lst, ex_sub, ex_mul, ex_mod, ex_div, ex_isN, ex_notN, ex_ix_tup, ex_ix_lst, ex_sl_tup, ex_sl_lst, ex_sl_str, ex_tuple_lst,
  ofs_inj, String.reduceEq, atI_0, atI_1, atI_2, atI_3, cut_1, cut_13, startD, wipeD, List.map_cons, List.map_nil, List.length_cons, List.length_nil, List.cons_append, List.nil_append, List.replicate_succ, List.replicate_zero, List.set_cons_zero, List.set_cons_succ, Nat.reduceAdd, Nat.reduceSub, Nat.sub_self,
  D.bl.injEq, D.int.injEq, D.str.injEq, D.tup.injEq, D.lst.injEq, D.dct.injEq, Option.some.injEq, List.cons.injEq, and_assoc, Int.cast_ofNat_Int, Int.reduceAdd, Int.reduceSub, Int.reduceMul, Int.reduceNeg, Int.reduceEq, Int.reduceLT, Int.reduceLE, Int.reduceNe, eq_self, exists_eq_left, exists_eq_left', exists_eq_right, exists_eq, exists_const, exists_false, false_and, and_false, false_or, or_false, true_and, and_true, if_true, if_false, Bool.false_eq_true, Bool.not_true, Bool.not_false, ite_true, ite_false, reduceCtorEq, decide_true, decide_false, decide_eq_true_eq, exists_and_left, Bool.not_eq_true])

def sp_is_body : SpD := fun ds m Q => ∃ (b : Bd), ds = [b.enc] ∧ b.wf ∧ b.dep ≤ 10 ∧ b.words ≤ 60 ∧ Q (.bl true) m
theorem F_is_body (T : Txt K w mg) : FnD P w K mg base "is_body" 14 sp_is_body := by
  have nd := sc_is_body.nd
  refine fnd_ofZ T.d_is_body sc_is_body (fun ds m Q ⟨x, e, _⟩ => by rw [e]; rfl) fun f cdv A outer s H E hr => ⟨_, (ass_one (as_ret (ae_cmp or_le (ae_call ((F_words_in T 10).mono (by omega)) hr (aa_cons (ae_var 0) (aa_cons ae_int aa_nil))) (ae_glo T.c_MOST_WORDS) (nomark _)))), ?_⟩
  rintro _ m Q ⟨b, rfl, hw, hd, hk, q⟩
  walk_at "rw"
  refine ⟨b, 0, rfl, hw, hd, by omega, by omega, ?_⟩
  walk_at "rw"
  rw [decide_eq_true (by omega)]
  exact Fz.now q
def sp_within : SpD := fun ds m Q => ∃ (b : Bd), ds = [b.enc] ∧ Q (.lst (b.subs.map Bd.enc)) m
theorem F_within (T : Txt K w mg) : FnD P w K mg base "within" 1 sp_within := by
  have nd := sc_within.nd
  refine fnd_ofZ T.d_within sc_within (fun ds m Q ⟨x, e, _⟩ => by rw [e]; rfl) fun f cdv A outer s H E hr => ⟨_, (ass_one (as_ret (ae_lc (own := [("arm", 1), ("sort", 2)]) rfl nd (ai_zipTS T.b_zip (aa_cons (ae_sl (ae_var 0) (ao_some ae_int) ao_none) (aa_cons (ae_kix T.t_ARMS (ae_ix hr.u1 (ae_var 0) ae_int)) aa_nil))) (blkOk_by (own := [("arm", 1), ("sort", 2)]) (by kernel_rfl)) (gg_tup (n := 2) (ggs_cons (gg_name (i := 1) (by simp)) (ggs_cons (gg_name (i := 2) (by simp)) ggs_nil))) (fun _ _ _ _ _ => (pg_tup (n := 2) rfl (pgs_cons (pg_name (i := 1) nd rfl (Or.inl rfl)) (pgs_cons (pg_name (i := 2) nd rfl (Or.inl rfl)) pgs_nil)))) (fun _ _ _ _ _ => (ats_one (at_cmp (or_eq hr.units) (ae_var 2) ae_str (nomark _)))) (fun _ _ _ _ _ => (ae_var 1))))), ?_⟩
  rintro _ m Q ⟨b, rfl, q⟩
  have q' := Fz.now q
  cases b with
  | un wd a =>
    simp only [Bd.enc]
    walk_at "rw"
    exact q'
  | bin wd a b =>
    simp only [Bd.enc]
    walk_at "rw"
    exact q'
  | _ =>
    simp only [Bd.enc]
    walk_at "rw"
    exact q'
theorem takes_un (w : W1) : getS kt_TAKES w.s = some (.tup (ksD [w.takes])) := by cases w <;> kernel_rfl
theorem tells_un (w : W1) : getS kt_TELLS w.s = some (.str w.tells.s) := by cases w <;> kernel_rfl
theorem takes_nt : getS kt_TAKES "not" = some (.tup (ksD [.t])) := by kernel_rfl
theorem takes_fst : getS kt_TAKES "first" = some (.tup (ksD [.l])) := by kernel_rfl
theorem takes_rst : getS kt_TAKES "rest" = some (.tup (ksD [.l])) := by kernel_rfl
theorem takes_many : getS kt_TAKES "many" = some (.tup (ksD [.l])) := by kernel_rfl
theorem tells_nt : getS kt_TELLS "not" = some (.str Kd.t.s) := by kernel_rfl
theorem tells_fst : getS kt_TELLS "first" = some (.str Kd.n.s) := by kernel_rfl
theorem tells_rst : getS kt_TELLS "rest" = some (.str Kd.l.s) := by kernel_rfl
theorem tells_many : getS kt_TELLS "many" = some (.str Kd.n.s) := by kernel_rfl
theorem takes_num : getS kt_TAKES "number" = none := by kernel_rfl
theorem takes_tru : getS kt_TAKES "truth" = none := by kernel_rfl
theorem takes_emp : getS kt_TAKES "empty" = none := by kernel_rfl
theorem tells_num : getS kt_TELLS "number" = some (.str Kd.n.s) := by kernel_rfl
theorem tells_tru : getS kt_TELLS "truth" = some (.str Kd.t.s) := by kernel_rfl
theorem tells_emp : getS kt_TELLS "empty" = some (.str Kd.l.s) := by kernel_rfl
theorem takes_plus : getS kt_TAKES "plus" = some (.tup (ksD [.n, .n])) := by kernel_rfl
theorem takes_less : getS kt_TAKES "less" = some (.tup (ksD [.n, .n])) := by kernel_rfl
theorem takes_times : getS kt_TAKES "times" = some (.tup (ksD [.n, .n])) := by kernel_rfl
theorem takes_below : getS kt_TAKES "below" = some (.tup (ksD [.n, .n])) := by kernel_rfl
theorem takes_and : getS kt_TAKES "and" = some (.tup (ksD [.t, .t])) := by kernel_rfl
theorem takes_put : getS kt_TAKES "put" = some (.tup (ksD [.n, .l])) := by kernel_rfl
theorem tells_plus : getS kt_TELLS "plus" = some (.str Kd.n.s) := by kernel_rfl
theorem tells_less : getS kt_TELLS "less" = some (.str Kd.n.s) := by kernel_rfl
theorem tells_times : getS kt_TELLS "times" = some (.str Kd.n.s) := by kernel_rfl
theorem tells_below : getS kt_TELLS "below" = some (.str Kd.t.s) := by kernel_rfl
theorem tells_and : getS kt_TELLS "and" = some (.str Kd.t.s) := by kernel_rfl
theorem tells_put : getS kt_TELLS "put" = some (.str Kd.l.s) := by kernel_rfl
theorem ks0 : D.tup [] = .tup (ksD []) := rfl
theorem ks1 {a : Kd} : D.tup [.str a.s] = .tup (ksD [a]) := rfl
theorem ks2 {a b : Kd} : D.tup [.str a.s, .str b.s] = .tup (ksD [a, b]) := rfl
theorem eqk0 {m : Mu} {Q : EK} {js : List Kd} : rhoEq (.tup []) (.tup (ksD js)) m Q = Q (.bl (decide ([] = js))) m := ex_eq_ks (ks := [])
theorem eqk00 {m : Mu} {Q : EK} : rhoEq (.tup []) (.tup []) m Q = Q (.bl true) m := ex_eq_ks (ks := []) (js := [])
theorem eqk1 {m : Mu} {Q : EK} {a : Kd} {js : List Kd} : rhoEq (.tup [.str a.s]) (.tup (ksD js)) m Q = Q (.bl (decide ([a] = js))) m := ex_eq_ks (ks := [a])
theorem eqk2 {m : Mu} {Q : EK} {a b : Kd} {js : List Kd} : rhoEq (.tup [.str a.s, .str b.s]) (.tup (ksD js)) m Q = Q (.bl (decide ([a, b] = js))) m := ex_eq_ks (ks := [a, b])
local macro_rules | `(tactic| walk_at "rk") => `(tactic| simp only [ ex_in_tup, ex_in_lst, inD_nil, inD_cons, eqD_str, eqD_ns, eqD_sn, eqD_nn, fl_str, fl_non, List.all_cons, all_fl_nil, Bool.and_true, Bool.or_false, Bool.false_or, Bool.true_or, Bool.or_true, Bool.and_self, Bool.false_bne, Bool.false_xor, Bool.true_xor, dctOf_dct, keyD_str, ex_in_dcts, ex_ix_dcts, getK_cv, getK_gv, kdD_cv, isSome_gv, Kd.s_inj, Kd.s_t, kd_some, kd_none, takes_nt, takes_fst, takes_rst, takes_many, tells_nt, tells_fst, tells_rst, tells_many, takes_num, takes_tru, takes_emp, tells_num, tells_tru, tells_emp, takes_plus, takes_less, takes_times, takes_below, takes_and, takes_put, tells_plus, tells_less, tells_times, tells_below, tells_and, tells_put, eqk0, eqk1, eqk2, eqk00, List.nil_append, Option.map_some, Option.map_none, Option.isSome_some, Option.isSome_none, aRet, aRetN, aDrop, aIfS, aSeq, aNext, aAsg, gNm, gTupD, gConsD, gNilD, aFor, ex_var0, ex_varS, aC, aOp, aCall, aCons, aNil, aTup, aLst, aB, aAnd, aOr, aNot, aAndV, aOrV, aNotV, aIf, aNeg, aChain, aKix, aKGet1, aKGet2, aDGet1, aDGet2, aNoPart, aPart, aSl, aList, aTupI, aStrI, aZipS, aYes, aLc, aNever, aBreak, aCont, forGo, lcGo,
  isi_str_str, isi_str_int, isi_str_bool, isi_str_tuple, isi_str_list, isi_int_str, isi_int_int, isi_int_bool, isi_int_tuple, isi_int_list, isi_bl_str, isi_bl_int, isi_bl_bool, isi_bl_tuple, isi_bl_list, isi_non_str, isi_non_int, isi_non_bool, isi_non_tuple, isi_non_list, isi_tup_str, isi_tup_int, isi_tup_bool, isi_tup_tuple, isi_tup_list, isi_lst_str, isi_lst_int, isi_lst_bool, isi_lst_tuple, isi_lst_list, isi_dct_str, isi_dct_int, isi_dct_bool, isi_dct_tuple, isi_dct_list, isi2_str, isi2_int, isi2_bl, isi2_non, isi2_tup, isi2_lst, isi2_dct, Option.getD_some, Option.getD_none, D.isNon, sz_0, sz_1, sz_2, sz_3, sz_4, sz_5, sz_6, sz_7, sz_8, sz_9, sz_10, sz_11, sz_12, sz_13, sz_14, sz_15, sz_16, sg_len, ex_in_sg, ex_len_str, ex_len_tup, ex_len_lst, ex_eq_str, ex_ne_str, ex_eq_int, ex_ne_int, ex_eq_ns, ex_eq_sn, ex_eq_nn, ex_ne_ns, ex_ne_sn, ex_ne_nn, ex_I, ex_add_int, ex_add_str, ex_add_tup, ex_add_lst, ex_sub, ex_mul, ex_mod, ex_div, ex_isN, ex_notN, ex_ix_tup, ex_ix_lst, ex_sl_tup, ex_sl_lst, ex_sl_str, ex_tuple_lst,
  ofs_inj, String.reduceEq, atI_0, atI_1, atI_2, atI_3, cut_1, cut_13, startD, wipeD, List.map_cons, List.map_nil, List.length_cons, List.length_nil, List.cons_append, List.nil_append, List.replicate_succ, List.replicate_zero, List.set_cons_zero, List.set_cons_succ, Nat.reduceAdd, Nat.reduceSub, Nat.sub_self,
  D.bl.injEq, D.int.injEq, D.str.injEq, D.tup.injEq, D.lst.injEq, D.dct.injEq, Option.some.injEq, List.cons.injEq, and_assoc, Int.cast_ofNat_Int, Int.reduceAdd, Int.reduceSub, Int.reduceMul, Int.reduceNeg, Int.reduceEq, Int.reduceLT, Int.reduceLE, Int.reduceNe, eq_self, exists_eq_left, exists_eq_left', exists_eq_right, exists_eq, exists_const, exists_false, false_and, and_false, false_or, or_false, true_and, and_true, if_true, if_false, Bool.false_eq_true, Bool.not_true, Bool.not_false, ite_true, ite_false, reduceCtorEq, decide_true, decide_false, decide_eq_true_eq, exists_and_left, Bool.not_eq_true])

def sp_kind (n : Nat) : SpD := fun ds m Q => ∃ (b : Bd) (tk : Kd) (gv : Gv) (cl : Cv), ds = [b.enc, .str tk.s, .dct (gvD gv), .dct (cvD cl)] ∧ b.dep ≤ n ∧ Q (kdD (b.kind tk gv cl)) m
theorem F_kind_in (T : Txt K w mg) : ∀ n : Nat, FnD P w K mg base "kind_in" (n + 2) (sp_kind n)
  | 0 => fnd_never T.d_kind_in sc_kind_in fun ds m Q ⟨b, _, _, _, _, h, _⟩ => by have := b.dep_pos; omega
  | n + 1 => by
    have nd := sc_kind_in.nd
    have F := F_kind_in T n
    refine fnd_ofZ T.d_kind_in sc_kind_in (fun ds m Q ⟨_, _, _, _, e, _⟩ => by rw [e]; rfl) fun f cdv A outer s H E hr => ⟨_, (ass_cons (as_asg (ae_ix hr.u1 (ae_var 0) ae_int) (ag_name 4 nd))
      (ass_cons (as_setLc (i := 5) (own := [("one", 7)]) rfl nd rfl rfl (sw_true rfl rfl rfl (by decide +kernel)) (ai_list (ae_call ((F_within T).mono (by omega)) hr (aa_cons (ae_var 0) aa_nil))) (blkOk_by (own := [("one", 7)]) (by kernel_rfl)) (gg_name (i := 7) (by simp)) (fun _ _ _ _ _ => (pg_name (i := 7) nd rfl (Or.inl rfl))) (fun _ _ _ _ _ => ats_nil) (fun _ _ _ _ _ => (ae_call (F.mono (by omega)) hr (aa_cons (ae_var 7) (aa_cons (ae_var 1) (aa_cons (ae_var 2) (aa_cons (ae_var 3) aa_nil)))))))
      (ass_cons (as_if (at_cmp (or_in1 hr.u65) ae_non (ae_var 5) (by rfl)) (ass_one (as_ret ae_non)) ass_nil)
      (ass_cons (as_if (at_cmp (or_eq hr.units) (ae_var 4) ae_str (nomark _)) (ass_one (as_ret (ae_var 1))) ass_nil)
      (ass_cons (as_if (at_cmp (or_in1 hr.u65) (ae_var 4) (ae_tup (aa_cons ae_str (aa_cons ae_str aa_nil))) (by rfl)) (ass_cons (as_asg (ae_dget1 hr.u1 (ae_var 3) (ae_ix hr.u1 (ae_var 0) ae_int)) (ag_name 6 nd))
      (ass_one (as_ret (ae_if (AW.t (aw_or (at_cmp (or_eq hr.units) (ae_var 4) ae_str (nomark _)) (aw_or1 (at_cmp (or_eq hr.units) (ae_ix hr.u1 (ae_var 5) ae_int) (ae_var 6) (nomark _))))) (ae_var 6) ae_non)))) ass_nil)
      (ass_cons (as_if (at_cmp (or_eq hr.units) (ae_var 4) ae_str (nomark _)) (ass_one (as_ret (ae_if (AW.t (aw_and (at_cmp (or_in1 hr.u65) (ae_ix hr.u1 (ae_var 0) ae_int) (ae_var 2) (by rfl)) (aw_and1 (at_cmp (or_eq hr.units) (ae_ix hr.u1 (ae_ix hr.u1 (ae_var 2) (ae_ix hr.u1 (ae_var 0) ae_int)) ae_int) (ae_ix hr.u1 (ae_var 5) ae_int) (nomark _))))) (ae_ix hr.u1 (ae_ix hr.u1 (ae_var 2) (ae_ix hr.u1 (ae_var 0) ae_int)) ae_int) ae_non))) ass_nil)
      (ass_cons (as_if (at_cmp (or_eq hr.units) (ae_var 4) ae_str (nomark _)) (ass_one (as_ret (ae_ix hr.u1 (ae_var 5) ae_int))) ass_nil)
      (ass_cons (as_if (at_cmp (or_eq hr.units) (ae_var 4) ae_str (nomark _)) (ass_one (as_ret (ae_if (AW.t (aw_and (at_cmp (or_eq hr.units) (ae_ix hr.u1 (ae_var 5) ae_int) (ae_glo T.c_TRUTH) (nomark _)) (aw_and1 (at_cmp (or_eq hr.units) (ae_ix hr.u1 (ae_var 5) ae_int) (ae_ix hr.u1 (ae_var 5) ae_int) (nomark _))))) (ae_ix hr.u1 (ae_var 5) ae_int) ae_non))) ass_nil)
      (ass_cons (as_if (at_cmp (or_eq hr.units) (ae_var 4) ae_str (nomark _)) (ass_one (as_ret (ae_if (at_cmp (or_eq hr.units) (ae_ix hr.u1 (ae_var 5) ae_int) (ae_ix hr.u1 (ae_var 5) ae_int) (nomark _)) (ae_glo T.c_TRUTH) ae_non))) ass_nil)
      (ass_one (as_ret (ae_if (at_cmp (or_eq hr.units) (ae_callTy cr_tuple T.b_tuple boot_tuple (aa_cons (ae_var 5) aa_nil)) (ae_kget2 hr.u1 T.t_TAKES (ae_var 4) (ae_tup aa_nil)) (nomark _)) (ae_kix T.t_TELLS (ae_var 4)) ae_non)))))))))))), ?_⟩
    rintro _ m Q ⟨b, tk, gv, cl, rfl, hd, q⟩
    have call : ∀ (a : Bd) (R : EK) (o : Option Kd), a.dep + 1 ≤ b.dep → a.kind tk gv cl = o → R (kdD o) m → sp_kind n [a.enc, .str tk.s, .dct (gvD gv), .dct (cvD cl)] m R := fun a R o h1 h2 q => ⟨a, tk, gv, cl, rfl, by omega, by rw [h2]; exact q⟩
    have wi : ∀ (R : EK), R (.lst (b.subs.map Bd.enc)) m → sp_within [b.enc] m R := fun R q => ⟨b, rfl, q⟩
    replace q := Fz.now q
    cases b with
    | num i =>
      simp only [Bd.enc] at wi ⊢
      walk_at "rk"
      refine wi _ ?_
      simp only [Bd.subs]
      walk_at "rk"
      exact q
    | tru i =>
      simp only [Bd.enc] at wi ⊢
      walk_at "rk"
      refine wi _ ?_
      simp only [Bd.subs]
      walk_at "rk"
      exact q
    | emp =>
      simp only [Bd.enc] at wi ⊢
      walk_at "rk"
      refine wi _ ?_
      simp only [Bd.subs]
      walk_at "rk"
      exact q
    | arg =>
      simp only [Bd.enc] at wi ⊢
      walk_at "rk"
      refine wi _ ?_
      simp only [Bd.subs]
      walk_at "rk"
      exact q
    | cel c =>
      simp only [Bd.enc] at wi ⊢
      walk_at "rk"
      refine wi _ ?_
      simp only [Bd.subs]
      walk_at "rk"
      exact ⟨⟨_, rfl⟩, q⟩
    | un wd a =>
      cases ha : a.kind tk gv cl with
      | none =>
        simp only [Bd.kind, ha, Option.bind_none] at q
        cases wd
        all_goals simp only [Bd.enc, W1.s] at wi ⊢
        all_goals walk_at "rk"
        all_goals refine wi _ ?_
        all_goals simp only [Bd.subs]
        all_goals walk_at "rk"
        all_goals refine call a _ _ (by simp [Bd.dep]) ha ?_
        all_goals walk_at "rk"
        all_goals exact q
      | some ka =>
        simp only [Bd.kind, ha, Option.bind_some] at q
        cases wd
        all_goals simp only [Bd.enc, W1.s] at wi ⊢
        all_goals walk_at "rk"
        all_goals refine wi _ ?_
        all_goals simp only [Bd.subs]
        all_goals walk_at "rk"
        all_goals refine call a _ _ (by simp [Bd.dep]) ha ?_
        all_goals walk_at "rk"
        all_goals simp only [W1.takes, W1.tells] at q
        all_goals split <;> rename_i e <;> simp only [e, if_true, if_false, kd_some, kd_none] at q <;> exact q
    | bin wd a b =>
      cases ha : a.kind tk gv cl with
      | none =>
        simp only [Bd.kind, ha, Option.bind_none] at q
        cases hb : b.kind tk gv cl with
        | none =>
          cases wd
          all_goals simp only [Bd.enc, W2.s] at wi ⊢
          all_goals walk_at "rk"
          all_goals refine wi _ ?_
          all_goals simp only [Bd.subs]
          all_goals walk_at "rk"
          all_goals refine call a _ _ (by simp [Bd.dep]; omega) ha ?_
          all_goals walk_at "rk"
          all_goals refine call b _ _ (by simp [Bd.dep]; omega) hb ?_
          all_goals walk_at "rk"
          all_goals exact q
        | some kb =>
          cases wd
          all_goals simp only [Bd.enc, W2.s] at wi ⊢
          all_goals walk_at "rk"
          all_goals refine wi _ ?_
          all_goals simp only [Bd.subs]
          all_goals walk_at "rk"
          all_goals refine call a _ _ (by simp [Bd.dep]; omega) ha ?_
          all_goals walk_at "rk"
          all_goals refine call b _ _ (by simp [Bd.dep]; omega) hb ?_
          all_goals walk_at "rk"
          all_goals exact q
      | some ka =>
        cases hb : b.kind tk gv cl with
        | none =>
          simp only [Bd.kind, ha, hb, Option.bind_some, Option.bind_none] at q
          cases wd
          all_goals simp only [Bd.enc, W2.s] at wi ⊢
          all_goals walk_at "rk"
          all_goals refine wi _ ?_
          all_goals simp only [Bd.subs]
          all_goals walk_at "rk"
          all_goals refine call a _ _ (by simp [Bd.dep]; omega) ha ?_
          all_goals walk_at "rk"
          all_goals refine call b _ _ (by simp [Bd.dep]; omega) hb ?_
          all_goals walk_at "rk"
          all_goals exact q
        | some kb =>
          simp only [Bd.kind, ha, hb, Option.bind_some] at q
          cases wd
          all_goals simp only [Bd.enc, W2.s] at wi ⊢
          all_goals walk_at "rk"
          all_goals refine wi _ ?_
          all_goals simp only [Bd.subs]
          all_goals walk_at "rk"
          all_goals refine call a _ _ (by simp [Bd.dep]; omega) ha ?_
          all_goals walk_at "rk"
          all_goals refine call b _ _ (by simp [Bd.dep]; omega) hb ?_
          all_goals walk_at "rk"
          all_goals simp only [W2.kind] at q
          all_goals first
            | exact q
            | (split <;> rename_i e <;> simp only [e, true_and, and_self, if_true, if_false, kd_some, kd_none] at q <;> exact q)
    | set c a =>
      cases ha : a.kind tk gv cl with
      | none =>
        simp only [Bd.kind, ha, Option.bind_none] at q
        simp only [Bd.enc] at wi ⊢
        walk_at "rk"
        refine wi _ ?_
        simp only [Bd.subs]
        walk_at "rk"
        refine call a _ _ (by simp [Bd.dep]) ha ?_
        walk_at "rk"
        exact q
      | some ka =>
        simp only [Bd.kind, ha, Option.bind_some] at q
        simp only [Bd.enc] at wi ⊢
        walk_at "rk"
        refine wi _ ?_
        simp only [Bd.subs]
        walk_at "rk"
        refine call a _ _ (by simp [Bd.dep]) ha ?_
        walk_at "rk"
        refine ⟨⟨_, rfl⟩, ?_⟩
        cases hl : lk cl c with
        | none =>
          simp only [hl, reduceCtorEq, if_false] at q
          walk_at "rk"
          exact q
        | some kc =>
          simp only [hl, Option.some.injEq] at q
          walk_at "rk"
          by_cases e : ka = kc
          · subst e
            simp only [if_true, kd_some] at q ⊢
            exact q
          · simp only [if_neg e, if_neg (fun z => e (Eq.symm z) : ¬ kc = ka), kd_none] at q ⊢
            exact q
    | cal c a =>
      cases ha : a.kind tk gv cl with
      | none =>
        simp only [Bd.kind, ha, Option.bind_none] at q
        simp only [Bd.enc] at wi ⊢
        walk_at "rk"
        refine wi _ ?_
        simp only [Bd.subs]
        walk_at "rk"
        refine call a _ _ (by simp [Bd.dep]) ha ?_
        walk_at "rk"
        exact q
      | some ka =>
        simp only [Bd.kind, ha, Option.bind_some] at q
        simp only [Bd.enc] at wi ⊢
        walk_at "rk"
        refine wi _ ?_
        simp only [Bd.subs]
        walk_at "rk"
        refine call a _ _ (by simp [Bd.dep]) ha ?_
        walk_at "rk"
        cases hl : lk gv c with
        | none =>
          simp only [hl, Option.bind_none] at q
          walk_at "rk"
          exact q
        | some pc =>
          simp only [hl, Option.bind_some] at q
          walk_at "rk"
          by_cases e : pc.1 = ka
          · simp only [if_pos e, kd_some] at q ⊢
            exact q
          · simp only [if_neg e, kd_none] at q ⊢
            exact q
    | ite a b c =>
      simp only [Bd.enc] at wi ⊢
      walk_at "rk"
      refine wi _ ?_
      simp only [Bd.subs]
      walk_at "rk"
      cases ha : a.kind tk gv cl with
      | none =>
        simp only [Bd.kind, ha, Option.bind_none] at q
        refine call a _ _ (by simp [Bd.dep]; omega) ha ?_
        walk_at "rk"
        refine call b _ _ (by simp [Bd.dep]; omega) rfl ?_
        try walk_at "rk"
        refine call c _ _ (by simp [Bd.dep]; omega) rfl ?_
        cases b.kind tk gv cl <;> cases c.kind tk gv cl <;> (walk_at "rk") <;> exact q
      | some ka =>
        refine call a _ _ (by simp [Bd.dep]; omega) ha ?_
        walk_at "rk"
        cases hb : b.kind tk gv cl with
        | none =>
          simp only [Bd.kind, ha, hb, Option.bind_some, Option.bind_none] at q
          refine call b _ _ (by simp [Bd.dep]; omega) hb ?_
          walk_at "rk"
          refine call c _ _ (by simp [Bd.dep]; omega) rfl ?_
          cases c.kind tk gv cl <;> (walk_at "rk") <;> exact q
        | some kb =>
          refine call b _ _ (by simp [Bd.dep]; omega) hb ?_
          walk_at "rk"
          cases hc : c.kind tk gv cl with
          | none =>
            simp only [Bd.kind, ha, hb, hc, Option.bind_some, Option.bind_none] at q
            refine call c _ _ (by simp [Bd.dep]; omega) hc ?_
            walk_at "rk"
            exact q
          | some kc =>
            simp only [Bd.kind, ha, hb, hc, Option.bind_some] at q
            refine call c _ _ (by simp [Bd.dep]; omega) hc ?_
            walk_at "rk"
            by_cases e1 : ka = .t
            · by_cases e2 : kb = kc
              · simp only [e1, e2, and_self, if_true, kd_some] at q ⊢
                exact q
              · simp only [e1, e2, and_false, if_true, if_false, kd_none] at q ⊢
                exact q
            · simp only [e1, false_and, if_false, kd_none] at q ⊢
              exact q
end K16
/-! rows, parts, right. -/
namespace K16
open PySem PySem.Spec PyProof.Rows L2 L3
variable {P : Program} {w : World} {K : PySem.W.Frag} {mg : Str → Option Value} {base : Heap}
local macro_rules | `(tactic| walk_at "rp") => `(tactic| simp only [ aOrI, lcStep, ex_in_tup, ex_in_lst, inD_nil, inD_cons, eqD_str, eqD_ns, eqD_sn, eqD_nn, fl_str, fl_non, List.all_cons, all_fl_nil, Bool.and_true, Bool.or_false, Bool.false_or, Bool.true_or, Bool.or_true, Bool.and_self, Bool.false_bne, Bool.false_xor, Bool.true_xor, dctOf_dct, keyD_str, ex_in_dcts, ex_ix_dcts, getK_cv, getK_gv, kdD_cv, isSome_gv, Kd.s_inj, Kd.s_t, Kd.s_n, Kd.s_l, kd_some, kd_none, aRet, aRetN, aDrop, aIfS, aSeq, aNext, aAsg, gNm, gTupD, gConsD, gNilD, aFor, ex_var0, ex_varS, aC, aOp, aCall, aCons, aNil, aTup, aLst, aB, aAnd, aOr, aNot, aAndV, aOrV, aNotV, aIf, aNeg, aChain, aKix, aKGet1, aKGet2, aDGet1, aDGet2, aNoPart, aPart, aSl, aList, aTupI, aStrI, aZipS, aYes, aLc, aNever, aBreak, aCont, forGo, lcGo,
  isi_str_str, isi_str_int, isi_str_bool, isi_str_tuple, isi_str_list, isi_int_str, isi_int_int, isi_int_bool, isi_int_tuple, isi_int_list, isi_bl_str, isi_bl_int, isi_bl_bool, isi_bl_tuple, isi_bl_list, isi_non_str, isi_non_int, isi_non_bool, isi_non_tuple, isi_non_list, isi_tup_str, isi_tup_int, isi_tup_bool, isi_tup_tuple, isi_tup_list, isi_lst_str, isi_lst_int, isi_lst_bool, isi_lst_tuple, isi_lst_list, isi_dct_str, isi_dct_int, isi_dct_bool, isi_dct_tuple, isi_dct_list, isi2_str, isi2_int, isi2_bl, isi2_non, isi2_tup, isi2_lst, isi2_dct, Option.getD_some, Option.getD_none, D.isNon, sz_0, sz_1, sz_2, sz_3, sz_4, sz_5, sz_6, sz_7, sz_8, sz_9, sz_10, sz_11, sz_12, sz_13, sz_14, sz_15, sz_16, sg_len, ex_in_sg, ex_len_str, ex_len_tup, ex_len_lst, ex_eq_str, ex_ne_str, ex_eq_int, ex_ne_int, ex_eq_ns, ex_eq_sn, ex_eq_nn, ex_ne_ns, ex_ne_sn, ex_ne_nn, ex_I, ex_add_int, ex_add_str, ex_add_tup, ex_add_lst, ex_sub, ex_mul, ex_mod, ex_div, ex_isN, ex_notN, ex_ix_tup, ex_ix_lst, ex_sl_tup, ex_sl_lst, ex_sl_str, ex_tuple_lst,
  ofs_inj, String.reduceEq, atI_0, atI_1, atI_2, atI_3, cut_1, cut_13, startD, wipeD, List.map_cons, List.map_nil, List.length_cons, List.length_nil, List.cons_append, List.nil_append, List.replicate_succ, List.replicate_zero, List.set_cons_zero, List.set_cons_succ, Nat.reduceAdd, Nat.reduceSub, Nat.sub_self,
  D.bl.injEq, D.int.injEq, D.str.injEq, D.tup.injEq, D.lst.injEq, D.dct.injEq, Option.some.injEq, List.cons.injEq, and_assoc, Int.cast_ofNat_Int, Int.reduceAdd, Int.reduceSub, Int.reduceMul, Int.reduceNeg, Int.reduceEq, Int.reduceLT, Int.reduceLE, Int.reduceNe, eq_self, exists_eq_left, exists_eq_left', exists_eq_right, exists_eq, exists_const, exists_false, false_and, and_false, false_or, or_false, true_and, and_true, if_true, if_false, Bool.false_eq_true, Bool.not_true, Bool.not_false, ite_true, ite_false, reduceCtorEq, decide_true, decide_false, decide_eq_true_eq, exists_and_left, Bool.not_eq_true])

theorem Kd.any (k : Kd) : (decide (Kd.n = k) || (decide (Kd.t = k) || decide (Kd.l = k))) = true := by cases k <;> rfl
theorem nil_nil {m : Mu} {Q : EK} : rhoEq (.lst []) (.lst []) m Q = Q (.bl true) m := ex_eq_ksl (ks := []) (js := [])
theorem nil_nil' {m : Mu} {Q : EK} : rhoNe (.lst []) (.lst []) m Q = Q (.bl false) m := ex_ne_of (x := .lst []) (y := .lst []) okl_nil okl_nil (by show eqD (.lst []) (.lst []) = true; simp [eqD, D.pd, pds, PyData.eqv, PyData.eqvAll])
theorem fm_none {α β : Type} {f : α → Option β} : ∀ {xs : List α}, (∀ x ∈ xs, f x = none) → xs.filterMap f = [] := fun h => List.filterMap_eq_nil_iff.mpr h
theorem fm_map {α β γ : Type} {g : γ → α} {f : α → Option β} {h : γ → β} : ∀ {xs : List γ}, (∀ x ∈ xs, f (g x) = some (h x)) → (xs.map g).filterMap f = xs.map h
  | [], _ => rfl
  | x :: xs, e => by rw [List.map_cons, List.filterMap_cons, e x List.mem_cons_self, List.map_cons, fm_map fun y hy => e y (List.mem_cons_of_mem _ hy)]
def sp_are_kinds : SpD := fun ds m Q => ∃ ks, (ds = [.tup (ksD ks)] ∨ ds = [.lst (ksD ks)]) ∧ ks.length ≤ 64 ∧ Q (.bl true) m
theorem F_are_kinds (T : Txt K w mg) : FnD P w K mg base "are_kinds" 1 sp_are_kinds := by
  have nd := sc_are_kinds.nd
  refine fnd_ofZ T.d_are_kinds sc_are_kinds (fun ds m Q ⟨x, e, _⟩ => by rcases e with e | e <;> rw [e] <;> rfl) fun f cdv A outer s H E hr => ⟨_, (ass_one (as_ret (ae_cmp (or_eq hr.units) (ae_lc (own := [("one", 1)]) rfl nd (ai_or (ai_list (ae_var 0)) (ai_tup (ae_var 0))) (blkOk_by (own := [("one", 1)]) (by kernel_rfl)) (gg_name (i := 1) (by simp)) (fun _ _ _ _ _ => (pg_name (i := 1) nd rfl (Or.inl rfl))) (fun _ _ _ _ _ => (ats_one (at_cmp (or_nin hr.u65) (ae_var 1) (ae_glo T.c_KINDS) (by rfl)))) (fun _ _ _ _ _ => (ae_var 1))) (ae_lst aa_nil) (nomark _)))), ?_⟩
  rintro _ m Q ⟨ks, e, hl, q⟩
  have go : ∀ (o : Option D) (R : EK), R (.lst []) m → lcGo (gNm 1) (aB (aOp (rhoIn true) (aVar 1) (aC (.tup [.str "number", .str "truth", .str "list"])))) (aVar 1) [o, none] R (ksD ks) [] m := by
    intro o R q
    refine lc_pure (fun _ => none) (fun d hd R q => ?_) ?_
    · obtain ⟨k, _, rfl⟩ := List.mem_map.mp hd
      have e1 : PySem.Str.ofString "number" = Kd.n.s := rfl
      have e2 : PySem.Str.ofString "truth" = Kd.t.s := rfl
      have e3 : PySem.Str.ofString "list" = Kd.l.s := rfl
      rw [e1, e2, e3]
      walk_at "rp"
      rw [Kd.any]
      simpa using q
    · rw [fm_none fun _ _ => rfl]
      exact q
  have hz : (ksD ks).length ≤ sizeLine := by rw [show (ksD ks).length = ks.length from by simp [ksD]]; exact szl (by omega)
  rcases e with rfl | rfl
  · walk_at "rp"
    refine ⟨hz, go _ _ ?_⟩
    simp only [nil_nil]
    exact Fz.now q
  · walk_at "rp"
    refine ⟨hz, go _ _ ?_⟩
    simp only [nil_nil]
    exact Fz.now q
/-! ### rows -/
def rowD (r : Nat × List D) : D := .tup (.str (sg r.1) :: r.2)
theorem strD_ok {cs : List Nat} (h : ∀ c ∈ cs, c < 1114112) : eqOk (.lst (strD (cs.map sg))) = true := okD.eq (n := 1) (okD_lst fun d hd => by
  obtain ⟨x, hx, rfl⟩ := List.mem_map.mp hd
  obtain ⟨c, hc, rfl⟩ := List.mem_map.mp hx
  exact okD_sg (h c hc)) (by omega)
theorem eqv_refl_strs : ∀ xs : List Str, PyData.eqvAll (pds (strD xs)) (pds (strD xs)) = true
  | [] => by simp [strD, pds, PyData.eqvAll]
  | x :: xs => by
    have ih := eqv_refl_strs xs
    show (PyData.eqv (D.pd (.str x)) (D.pd (.str x)) && PyData.eqvAll (pds (strD xs)) (pds (strD xs))) = true
    rw [ih, show PyData.eqv (D.pd (.str x)) (D.pd (.str x)) = decide (x = x) from eqD_str]
    simp
theorem ex_eq_strs {cs : List Nat} {m : Mu} {Q : EK} (ok : eqOk (.lst (strD (cs.map sg))) = true) : rhoEq (.lst (strD (cs.map sg))) (.lst (strD (cs.map sg))) m Q = Q (.bl true) m :=
  ex_eq_of (x := .lst (strD (cs.map sg))) (y := .lst (strD (cs.map sg))) ok ok (by show eqD (.lst _) (.lst _) = true; simp only [eqD, D.pd, PyData.eqv]; exact eqv_refl_strs _)
def hdD : D → Option D
  | .tup (x :: _) => some x
  | _ => none
theorem hd_rows (rs : List (Nat × List D)) : (rs.map rowD).filterMap hdD = strD ((rs.map (·.1)).map sg) := by
  rw [fm_map (g := rowD) (f := hdD) (h := fun r => D.str (sg r.1)) fun r _ => rfl]
  simp [strD, Function.comp_def]
def sp_are_rising : SpD := fun ds m Q => ∃ rs : List (Nat × List D), ds = [.tup (rs.map rowD)] ∧ rs.length < 64 ∧ (∀ r ∈ rs, r.1 < 1114112) ∧ Rsg (rs.map (·.1)) ∧ Q (.bl true) m
theorem F_are_rising (T : Txt K w mg) : FnD P w K mg base "are_rising" 1 sp_are_rising := by
  have nd := sc_are_rising.nd
  refine fnd_ofZ T.d_are_rising sc_are_rising (fun ds m Q ⟨x, e, _⟩ => by rw [e]; rfl) fun f cdv A outer s H E hr => ⟨_, (ass_cons (as_setLc (i := 1) (own := [("row", 2)]) rfl nd rfl rfl (sw_true rfl rfl rfl (by decide +kernel)) (ai_tup (ae_var 0)) (blkOk_by (own := [("row", 2)]) (by kernel_rfl)) (gg_name (i := 2) (by simp)) (fun _ _ _ _ _ => (pg_name (i := 2) nd rfl (Or.inl rfl))) (fun _ _ _ _ _ => ats_nil) (fun _ _ _ _ _ => (ae_ix hr.u1 (ae_var 2) ae_int)))
      (ass_one (as_ret (ae_cmp (or_eq hr.units) (ae_var 1) (ae_sset T.b_sorted T.b_set (ae_var 1)) (nomark _))))), ?_⟩
  rintro _ m Q ⟨rs, rfl, hl, hc, hr, q⟩
  walk_at "rp"
  refine ⟨szl (by simp; omega), ?_⟩
  have ok := strD_ok (cs := rs.map (·.1)) (fun c hcc => by obtain ⟨r, hr, rfl⟩ := List.mem_map.mp hcc; exact hc r hr)
  refine lc_pure hdD (fun d hd R q => ?_) ?_
  · obtain ⟨r, _, rfl⟩ := List.mem_map.mp hd
    simp only [rowD, hdD] at q ⊢
    walk_at "rp"
    exact q
  · rw [hd_rows, List.nil_append]
    simp only [aSset]
    walk_at "rp"
    have l64 : ((rs.map (·.1)).map sg).length < 64 := by simp; omega
    refine ⟨(rs.map (·.1)).map sg, rfl, (sset64 l64).1, (sset64 l64).2, fun ys p so => ?_⟩
    rw [sset_ris hr p so]
    rw [ex_eq_strs ok]
    exact Fz.now q
def sp_are_rows : SpD := fun ds m Q => ∃ (rs : List (Nat × List D)) (most many : Int) (z : Str), ds = [.tup (rs.map rowD), .int most, .int many, .str z] ∧ rs.length < 64 ∧ (rs.length : Int) ≤ most ∧ (∀ r ∈ rs, r.1 < 1114112 ∧ (r.2.length + 1 : Int) = many ∧ r.1 ∈ z.cps.toList) ∧ Rsg (rs.map (·.1)) ∧ Q (.bl true) m
theorem F_are_rows (T : Txt K w mg) : FnD P w K mg base "are_rows" 2 sp_are_rows := by
  have nd := sc_are_rows.nd
  refine fnd_ofZ T.d_are_rows sc_are_rows (fun ds m Q ⟨_, _, _, _, e, _⟩ => by rw [e]; rfl) fun f cdv A outer s H E hr => ⟨_, (ass_cons (as_if (AW.t (aw_or (at_not (at_val (ae_callB cr_isi T.b_isinstance boot_isinstance (aa_cons (ae_var 0) (aa_cons (ae_ty T.b_tuple boot_tuple) aa_nil))))) (aw_or1 (at_cmp or_gt (ae_callB cr_len T.b_len boot_len (aa_cons (ae_var 0) aa_nil)) (ae_var 1) (nomark _))))) (ass_one (as_ret ae_bl)) ass_nil)
      (ass_cons (as_for PassesOwn.never rfl (ai_tup (ae_var 0)) (ag_name 4 nd)
      (ass_one (as_if (AW.t (aw_or (at_not (at_val (ae_callB cr_isi T.b_isinstance boot_isinstance (aa_cons (ae_var 4) (aa_cons (ae_ty T.b_tuple boot_tuple) aa_nil))))) (aw_or (at_cmp (or_ne hr.units) (ae_callB cr_len T.b_len boot_len (aa_cons (ae_var 4) aa_nil)) (ae_var 2) (nomark _)) (aw_or1 (at_not (at_val (ae_call ((F_is_letter T).mono (by omega)) hr (aa_cons (ae_ix hr.u1 (ae_var 4) ae_int) (aa_cons (ae_var 3) aa_nil))))))))) (ass_one (as_ret ae_bl)) ass_nil)))
      (ass_one (as_ret (ae_call ((F_are_rising T).mono (by omega)) hr (aa_cons (ae_var 0) aa_nil)))))), ?_⟩
  rintro _ m Q ⟨rs, most, many, z, rfl, hl, hm, hc, hr, q⟩
  walk_at "rp"
  rw [List.length_map, if_neg (by omega)]
  refine for_inv (fun rest δ m' => m' = m ∧ (∀ d ∈ rest, ∃ r ∈ rs, d = rowD r) ∧ ∃ o, δ = [some (.tup (rs.map rowD)), some (.int most), some (.int many), some (.str z), o]) ?_ ?_ ⟨rfl, fun d hd => by obtain ⟨r, hr, rfl⟩ := List.mem_map.mp hd; exact ⟨r, hr, rfl⟩, _, rfl⟩
  · rintro d rest δ _ ⟨rfl, h, o, rfl⟩ nx hnx
    obtain ⟨r, hr, rfl⟩ := h d List.mem_cons_self
    obtain ⟨h1, h2, h3⟩ := hc r hr
    simp only [rowD]
    walk_at "rp"
    rw [decide_eq_true (show ((r.2.length + 1 : Nat) : Int) = many by omega)]
    walk_at "rp"
    refine ⟨r.1, z, rfl, ?_⟩
    rw [decide_eq_true h3]
    walk_at "rp"
    exact hnx _ _ ⟨rfl, fun d hd => h d (List.mem_cons_of_mem _ hd), _, rfl⟩
  · rintro δ _ ⟨rfl, _, o, rfl⟩
    walk_at "rp"
    exact ⟨rs, rfl, hl, fun r hr => (hc r hr).1, ‹Rsg _›, Fz.now q⟩
/-! ### parts -/
def dRow (d : Deed) : Nat × List D := (d.c, [.str d.tk.s, .str d.tl.s, d.b.enc])
def aRow (a : Nat × (Kd × Kd)) : Nat × List D := (a.1, [.str a.2.1.s, .str a.2.2.s])
def cRow (a : Nat × Kd) : Nat × List D := (a.1, [.str a.2.s])
theorem dRows (ds : List Deed) : ds.map Deed.enc = (ds.map dRow).map rowD := by rw [List.map_map]; rfl
theorem aRows (ds : Gv) : ds.map askD = (ds.map aRow).map rowD := by rw [List.map_map]; rfl
theorem cRows (ds : Cv) : ds.map celD = (ds.map cRow).map rowD := by rw [List.map_map]; rfl
theorem codes_d (ds : List Deed) : (ds.map dRow).map (·.1) = ds.map (·.c) := by rw [List.map_map]; rfl
theorem codes_a (ds : Gv) : (ds.map aRow).map (·.1) = ds.map (·.1) := by rw [List.map_map]; rfl
theorem codes_c (ds : Cv) : (ds.map cRow).map (·.1) = ds.map (·.1) := by rw [List.map_map]; rfl
theorem strD_flat (cs : List Nat) : (strD (cs.map sg)).all D.flat = true := by
  rw [List.all_eq_true]
  intro d hd
  obtain ⟨x, _, rfl⟩ := List.mem_map.mp hd
  rfl
theorem inD_sg {c : Nat} : ∀ {cs : List Nat}, inD (.str (sg c)) (strD (cs.map sg)) = decide (c ∈ cs)
  | [] => by simp [strD, inD]
  | d :: cs => by
    show (eqD (.str (sg d)) (.str (sg c)) || inD (.str (sg c)) (strD (cs.map sg))) = _
    rw [inD_sg, eqD_str]
    by_cases e : d = c
    · subst e; simp
    · have e2 : ¬ c = d := fun z => e z.symm
      simp [sg_inj, e, e2]
def sdD : D → Option D
  | .tup (_ :: x :: _) => some x
  | _ => none
def sp_are_deeds : SpD := fun ds m Q => ∃ es : List Deed, ds = [.tup (es.map Deed.enc)] ∧ es.length ≤ 8 ∧ (∀ d ∈ es, d.ok) ∧ Rsg (es.map (·.c)) ∧ Q (.bl true) m
theorem F_are_deeds (T : Txt K w mg) : FnD P w K mg base "are_deeds" 15 sp_are_deeds := by
  have nd := sc_are_deeds.nd
  refine fnd_ofZ T.d_are_deeds sc_are_deeds (fun ds m Q ⟨_, e, _⟩ => by rw [e]; rfl) fun f cdv A outer s H E hr => ⟨_, (ass_cons (as_if (at_not (at_val (ae_call ((F_are_rows T).mono (by omega)) hr (aa_cons (ae_var 0) (aa_cons (ae_glo T.c_MOST_DEEDS) (aa_cons ae_int (aa_cons (ae_glo T.c_DEEDS) aa_nil))))))) (ass_one (as_ret ae_bl)) ass_nil)
      (ass_one (as_ret (ae_cmp (or_eq hr.units) (ae_lc (own := [("row", 1)]) rfl nd (ai_tup (ae_var 0)) (blkOk_by (own := [("row", 1)]) (by kernel_rfl)) (gg_name (i := 1) (by simp)) (fun _ _ _ _ _ => (pg_name (i := 1) nd rfl (Or.inl rfl))) (fun _ _ _ _ _ => (ats_one (AW.t (aw_or (at_not (at_val (ae_call ((F_are_kinds T).mono (by omega)) hr (aa_cons (ae_sl (ae_var 1) (ao_some ae_int) (ao_some ae_int)) aa_nil)))) (aw_or1 (at_not (at_val (ae_call ((F_is_body T).mono (by omega)) hr (aa_cons (ae_ix hr.u1 (ae_var 1) ae_int) aa_nil))))))))) (fun _ _ _ _ _ => (ae_var 1))) (ae_lst aa_nil) (nomark _))))), ?_⟩
  rintro _ m Q ⟨es, rfl, hl, hd, hr, q⟩
  walk_at "rp"
  refine ⟨es.map dRow, 8, 4, _, by rw [dRows], by rw [List.length_map]; omega, by rw [List.length_map]; omega, fun r hr => ?_, by rw [codes_d]; exact hr, ?_⟩
  · obtain ⟨d, h, rfl⟩ := List.mem_map.mp hr
    exact ⟨deedC.lt (hd d h).c, rfl, by rw [cps_deeds]; exact (hd d h).c⟩
  · walk_at "rp"
    refine ⟨szl (by rw [List.length_map]; omega), lc_pure (fun _ => none) (fun x hx R q => ?_) ?_⟩
    · obtain ⟨d, h, rfl⟩ := List.mem_map.mp hx
      simp only [Deed.enc]
      walk_at "rp"
      refine ⟨[d.tk, d.tl], .inl rfl, by simp, ?_⟩
      walk_at "rp"
      refine ⟨d.b, rfl, (hd d h).wf, (hd d h).dep, (hd d h).words, ?_⟩
      walk_at "rp"
      exact q
    · rw [fm_none fun _ _ => rfl, List.nil_append, nil_nil]
      exact Fz.now q
def sp_why_none : SpD := fun ds m Q => ∃ p : Part, ds = [p.enc] ∧ p.ok ∧ Q (.str "") m
theorem F_why_none (T : Txt K w mg) : FnD P w K mg base "why_none" 16 sp_why_none := by
  have nd := sc_why_none.nd
  refine fnd_ofZ T.d_why_none sc_why_none (fun ds m Q ⟨_, e, _⟩ => by rw [e]; rfl) fun f cdv A outer s H E hr => ⟨_, (ass_cons (as_if (AW.t (aw_or (at_not (at_val (ae_callB cr_isi T.b_isinstance boot_isinstance (aa_cons (ae_var 0) (aa_cons (ae_ty T.b_tuple boot_tuple) aa_nil))))) (aw_or (at_cmp (or_ne hr.units) (ae_callB cr_len T.b_len boot_len (aa_cons (ae_var 0) aa_nil)) ae_int (nomark _)) (aw_or1 (at_not (at_val (ae_call ((F_is_letter T).mono (by omega)) hr (aa_cons (ae_ix hr.u1 (ae_var 0) ae_int) (aa_cons (ae_glo T.c_PARTS) aa_nil))))))))) (ass_one (as_ret ae_str)) ass_nil)
      (ass_cons (as_asg (ae_var 0) (ag_tup (n := 4) rfl (ags_cons (ag_name 2 nd) (ags_cons (ag_name 3 nd) (ags_cons (ag_name 4 nd) (ags_cons (ag_name 5 nd) ags_nil))))))
      (ass_cons (as_if (at_not (at_val (ae_call ((F_are_deeds T).mono (by omega)) hr (aa_cons (ae_var 3) aa_nil)))) (ass_one (as_ret ae_str)) ass_nil)
      (ass_cons (as_asg (ae_lc (own := [("row", 6)]) rfl nd (ai_tup (ae_var 3)) (blkOk_by (own := [("row", 6)]) (by kernel_rfl)) (gg_name (i := 6) (by simp)) (fun _ _ _ _ _ => (pg_name (i := 6) nd rfl (Or.inl rfl))) (fun _ _ _ _ _ => ats_nil) (fun _ _ _ _ _ => (ae_ix hr.u1 (ae_var 6) ae_int))) (ag_name 1 nd))
      (ass_cons (as_if (at_not (at_val (ae_call ((F_are_rows T).mono (by omega)) hr (aa_cons (ae_var 4) (aa_cons (ae_glo T.c_MOST_DEEDS) (aa_cons ae_int (aa_cons (ae_glo T.c_DEEDS) aa_nil))))))) (ass_one (as_ret ae_str)) ass_nil)
      (ass_cons (as_if (at_cmp (or_ne hr.units) (ae_lc (own := [("row", 6)]) rfl nd (ai_tup (ae_var 4)) (blkOk_by (own := [("row", 6)]) (by kernel_rfl)) (gg_name (i := 6) (by simp)) (fun _ _ _ _ _ => (pg_name (i := 6) nd rfl (Or.inl rfl))) (fun _ _ _ _ _ => (ats_one (AW.t (aw_or (at_not (at_val (ae_call ((F_are_kinds T).mono (by omega)) hr (aa_cons (ae_sl (ae_var 6) (ao_some ae_int) ao_none) aa_nil)))) (aw_or1 (at_cmp (or_in1 hr.u65) (ae_ix hr.u1 (ae_var 6) ae_int) (ae_var 1) (by rfl))))))) (fun _ _ _ _ _ => (ae_var 6))) (ae_lst aa_nil) (nomark _)) (ass_one (as_ret ae_str)) ass_nil)
      (ass_cons (as_if (AW.t (aw_or (at_not (at_val (ae_call ((F_are_rows T).mono (by omega)) hr (aa_cons (ae_var 5) (aa_cons (ae_glo T.c_MOST_CELLS) (aa_cons ae_int (aa_cons (ae_glo T.c_CELLS) aa_nil))))))) (aw_or1 (at_not (at_val (ae_call ((F_are_kinds T).mono (by omega)) hr (aa_cons (ae_lc (own := [("row", 6)]) rfl nd (ai_tup (ae_var 5)) (blkOk_by (own := [("row", 6)]) (by kernel_rfl)) (gg_name (i := 6) (by simp)) (fun _ _ _ _ _ => (pg_name (i := 6) nd rfl (Or.inl rfl))) (fun _ _ _ _ _ => ats_nil) (fun _ _ _ _ _ => (ae_ix hr.u1 (ae_var 6) ae_int))) aa_nil))))))) (ass_one (as_ret ae_str)) ass_nil)
      (ass_one (as_ret ae_str))))))))), ?_⟩
  rintro _ m Q ⟨p, rfl, hp, q⟩
  simp only [Part.enc]
  walk_at "rp"
  refine ⟨p.nm, _, rfl, ?_⟩
  rw [cps_parts, decide_eq_true (show p.nm ∈ _ from hp.nm)]
  walk_at "rp"
  refine ⟨p.ds, rfl, hp.dl, hp.dok, hp.dr, ?_⟩
  walk_at "rp"
  refine ⟨szl (by rw [List.length_map]; have := hp.dl; omega), lc_pure hdD (fun d hd R q => ?_) ?_⟩
  · obtain ⟨r, _, rfl⟩ := List.mem_map.mp hd
    simp only [Deed.enc, hdD] at q ⊢
    walk_at "rp"
    exact q
  rw [dRows, hd_rows, codes_d, List.nil_append]
  refine ⟨p.as.map aRow, 8, 3, _, by rw [aRows], by rw [List.length_map]; have := hp.al; omega, by rw [List.length_map]; have := hp.al; omega, fun r hr => ?_, by rw [codes_a]; exact hp.ar, ?_⟩
  · obtain ⟨a, h, rfl⟩ := List.mem_map.mp hr
    exact ⟨deedC.lt (hp.aok a h), rfl, by rw [cps_deeds]; exact hp.aok a h⟩
  walk_at "rp"
  refine ⟨szl (by rw [List.length_map]; have := hp.al; omega), lc_pure (fun _ => none) (fun d hd R q => ?_) ?_⟩
  · obtain ⟨a, ha, rfl⟩ := List.mem_map.mp hd
    simp only [askD]
    walk_at "rp"
    refine ⟨[a.2.1, a.2.2], .inl rfl, by simp, ?_⟩
    walk_at "rp"
    rw [ex_in_lst fl_str (strD_flat _), inD_sg, decide_eq_false (hp.dis a ha)]
    walk_at "rp"
    exact q
  rw [fm_none fun _ _ => rfl, List.nil_append, nil_nil']
  walk_at "rp"
  refine ⟨p.cs.map cRow, 4, 2, _, by rw [cRows], by rw [List.length_map]; have := hp.cl; omega, by rw [List.length_map]; have := hp.cl; omega, fun r hr => ?_, by rw [codes_c]; exact hp.cr, ?_⟩
  · obtain ⟨a, h, rfl⟩ := List.mem_map.mp hr
    exact ⟨cellC.lt (hp.cok a h), rfl, by rw [cps_cells]; exact hp.cok a h⟩
  walk_at "rp"
  refine ⟨szl (by rw [List.length_map]; have := hp.cl; omega), lc_pure sdD (fun d hd R q => ?_) ?_⟩
  · obtain ⟨r, _, rfl⟩ := List.mem_map.mp hd
    simp only [celD, sdD] at q ⊢
    walk_at "rp"
    exact q
  refine ⟨p.cs.map (·.2), .inr ?_, by rw [List.length_map]; have := hp.cl; omega, ?_⟩
  · rw [fm_map (g := celD) (f := sdD) (h := fun a => D.str a.2.s) fun r _ => rfl, List.nil_append]
    simp [ksD, Function.comp_def]
  walk_at "rp"
  exact Fz.now q
def sp_need_part : SpD := fun ds m Q => ∃ p : Part, ds = [p.enc] ∧ p.ok ∧ Q .non m
theorem F_need_part (T : Txt K w mg) : FnD P w K mg base "need_part" 17 sp_need_part := by
  have nd := sc_need_part.nd
  refine fnd_ofZ T.d_need_part sc_need_part (fun ds m Q ⟨_, e, _⟩ => by rw [e]; rfl) fun f cdv A outer s H E hr => ⟨_, (ass_cons (as_asg (ae_call ((F_why_none T).mono (by omega)) hr (aa_cons (ae_var 0) aa_nil)) (ag_name 1 nd))
      (ass_one (as_if (at_cmp (or_ne hr.units) (ae_var 1) ae_str (nomark _)) (ass_one as_never) ass_nil))), ?_⟩
  rintro _ m Q ⟨p, rfl, hp, q⟩
  walk_at "rp"
  refine ⟨p, rfl, hp, ?_⟩
  walk_at "rp"
  exact Fz.now q
def sp_given_in : SpD := fun ds m Q => ∃ p : Part, ds = [p.enc] ∧ p.ok ∧ Q (.dct (gvD p.gv)) m
def ghD : D → Option D
  | .tup (x :: a :: b :: _) => some (.tup [x, .tup [a, b]])
  | _ => none
theorem F_given_in (T : Txt K w mg) : FnD P w K mg base "given_in" 1 sp_given_in := by
  have nd := sc_given_in.nd
  refine fnd_ofZ T.d_given_in sc_given_in (fun ds m Q ⟨_, e, _⟩ => by rw [e]; rfl) fun f cdv A outer s H E hr => ⟨_, (ass_one (as_ret (ae_callTy cr_dict2 T.b_dict boot_dict (aa_cons (ae_lc (own := [("row", 1)]) rfl nd (ai_tup (ae_op or_add (ae_ix hr.u1 (ae_var 0) ae_int) (ae_ix hr.u1 (ae_var 0) ae_int))) (blkOk_by (own := [("row", 1)]) (by kernel_rfl)) (gg_name (i := 1) (by simp)) (fun _ _ _ _ _ => (pg_name (i := 1) nd rfl (Or.inl rfl))) (fun _ _ _ _ _ => ats_nil) (fun _ _ _ _ _ => (ae_tup (aa_cons (ae_ix hr.u1 (ae_var 1) ae_int) (aa_cons (ae_tup (aa_cons (ae_ix hr.u1 (ae_var 1) ae_int) (aa_cons (ae_ix hr.u1 (ae_var 1) ae_int) aa_nil))) aa_nil))))) aa_nil)))), ?_⟩
  rintro _ m Q ⟨p, rfl, hp, q⟩
  simp only [Part.enc]
  walk_at "rp"
  have l1 := hp.dl
  have l2 := hp.al
  refine ⟨szl (by simp; omega), szl (by simp; omega), lc_pure ghD (fun d hd R q => ?_) ?_⟩
  · rcases List.mem_append.mp hd with hd | hd
    · obtain ⟨r, _, rfl⟩ := List.mem_map.mp hd
      simp only [Deed.enc, ghD] at q ⊢
      walk_at "rp"
      exact q
    · obtain ⟨r, _, rfl⟩ := List.mem_map.mp hd
      simp only [askD, ghD] at q ⊢
      walk_at "rp"
      exact q
  rw [List.filterMap_append, fm_map (g := Deed.enc) (f := ghD) (h := fun d => L3.pairD (.inr (sg d.c), .tup [.str d.tk.s, .str d.tl.s])) fun r _ => rfl, fm_map (g := askD) (f := ghD) (h := fun a => L3.pairD (.inr (sg a.1), .tup [.str a.2.1.s, .str a.2.2.s])) fun r _ => rfl, List.nil_append]
  have e : p.ds.map (fun d => L3.pairD (.inr (sg d.c), .tup [.str d.tk.s, .str d.tl.s])) ++ p.as.map (fun a => L3.pairD (.inr (sg a.1), .tup [.str a.2.1.s, .str a.2.2.s])) = (gvD p.gv).map L3.pairD := by
    simp [gvD, Part.gv, Function.comp_def]
  rw [e]
  refine ⟨_, _, rfl, .inl rfl, ?_⟩
  rw [merge_gv hp.nodup]
  exact Fz.now q
def sp_wrong : SpD := fun ds m Q => ∃ p : Part, ds = [p.enc] ∧ p.ok ∧ Q (ndD p.wrong) m
theorem F_wrong_deed (T : Txt K w mg) : FnD P w K mg base "wrong_deed" 14 sp_wrong := by
  have nd := sc_wrong_deed.nd
  refine fnd_ofZ T.d_wrong_deed sc_wrong_deed (fun ds m Q ⟨_, e, _⟩ => by rw [e]; rfl) fun f cdv A outer s H E hr => ⟨_, (ass_cons (as_asg (ae_call ((F_given_in T).mono (by omega)) hr (aa_cons (ae_var 0) aa_nil)) (ag_name 1 nd))
      (ass_cons (as_asg (ae_callTy cr_dict2 T.b_dict boot_dict (aa_cons (ae_ix hr.u1 (ae_var 0) ae_int) aa_nil)) (ag_name 2 nd))
      (ass_cons (as_for PassesOwn.never rfl (ai_tup (ae_ix hr.u1 (ae_var 0) ae_int)) (ag_tup (n := 4) rfl (ags_cons (ag_name 3 nd) (ags_cons (ag_name 4 nd) (ags_cons (ag_name 5 nd) (ags_cons (ag_name 6 nd) ags_nil)))))
      (ass_one (as_if (at_cmp (or_ne hr.units) (ae_call ((F_kind_in T 10).mono (by omega)) hr (aa_cons (ae_var 6) (aa_cons (ae_var 4) (aa_cons (ae_var 1) (aa_cons (ae_var 2) aa_nil))))) (ae_var 5) (nomark _)) (ass_one (as_ret (ae_var 3))) ass_nil)))
      (ass_one (as_ret ae_non))))), ?_⟩
  rintro _ m Q ⟨p, rfl, hp, q⟩
  walk_at "rp"
  refine ⟨p, rfl, hp, ?_⟩
  simp only [Part.enc]
  walk_at "rp"
  refine ⟨_, cvD p.cs, rfl, .inr ?_, ?_⟩
  · rw [show p.cs.map celD = (cvD p.cs).map L3.pairD from by simp [cvD, Function.comp_def]; intro a b _; rfl]
  rw [merge_cv hp.cr.nodup]
  refine for_inv (fun rest δ m' => m' = m ∧ (∃ es : List Deed, rest = es.map Deed.enc ∧ (∀ d ∈ es, d ∈ p.ds) ∧ (es.find? fun d => decide (d.b.kind d.tk p.gv p.cs ≠ some d.tl)).map (·.c) = p.wrong) ∧
    ∃ o1 o2 o3 o4 o5, δ = [o1, some (.dct (gvD p.gv)), some (.dct (cvD p.cs)), o2, o3, o4, o5]) ?_ ?_ ⟨rfl, ⟨p.ds, rfl, fun d h => h, rfl⟩, _, _, _, _, _, rfl⟩
  · rintro x rest δ _ ⟨rfl, ⟨es, he, hs, hw⟩, o1, o2, o3, o4, o5, rfl⟩ nx hnx
    cases es with
    | nil => cases he
    | cons d es =>
      rw [List.map_cons] at he
      injection he with e1 e2
      subst e1 e2
      have hd := hp.dok d (hs d List.mem_cons_self)
      rw [List.find?_cons] at hw
      simp only [Deed.enc]
      walk_at "rp"
      refine ⟨d.b, d.tk, p.gv, p.cs, rfl, hd.dep, ?_⟩
      cases hk : d.b.kind d.tk p.gv p.cs with
      | none =>
        rw [hk] at hw
        simp only [ne_eq, reduceCtorEq, not_false_eq_true, decide_true, Option.map_some] at hw
        walk_at "rp"
        rw [← hw] at q
        exact Fz.now q
      | some k =>
        rw [hk] at hw
        walk_at "rp"
        by_cases e : k = d.tl
        · simp only [e, ne_eq, not_true_eq_false, decide_false] at hw
          rw [decide_eq_true e]
          walk_at "rp"
          exact hnx _ _ ⟨rfl, ⟨es, rfl, fun y hy => hs y (List.mem_cons_of_mem _ hy), hw⟩, _, _, _, _, _, rfl⟩
        · simp only [Option.some.injEq, e, ne_eq, not_false_eq_true, decide_true, Option.map_some] at hw
          rw [decide_eq_false e]
          walk_at "rp"
          rw [← hw] at q
          exact Fz.now q
  · rintro δ _ ⟨rfl, ⟨es, he, hs, hw⟩, o1, o2, o3, o4, o5, rfl⟩
    cases es with
    | cons d es => cases he
    | nil =>
      walk_at "rp"
      rw [← hw] at q
      exact Fz.now q
end K16
/-! the generator. -/
namespace K16
open PySem PySem.Spec PyProof.Rows L2 L3
variable {P : Program} {w : World} {K : PySem.W.Frag} {mg : Str → Option Value} {base : Heap}
local macro_rules | `(tactic| walk_at "rg") => `(tactic| simp only [ aMaxD, isi_enc, ex_maxd0, ex_maxd1, ex_maxd2, ex_maxd3, ex_sum0, ex_sum1, ex_sum2, ex_sum3, aFlI, aLstM, D.fl.injEq, ex_max2, gSubD, List.length_map, aRet, aRetN, aDrop, aIfS, aSeq, aNext, aAsg, gNm, gTupD, gConsD, gNilD, aFor, ex_var0, ex_varS, aC, aOp, aCall, aCons, aNil, aTup, aLst, aB, aAnd, aOr, aNot, aAndV, aOrV, aNotV, aIf, aNeg, aChain, aKix, aKGet1, aKGet2, aDGet1, aDGet2, aNoPart, aPart, aSl, aList, aTupI, aStrI, aZipS, aYes, aLc, aNever, aBreak, aCont, forGo, lcGo,
  isi_str_str, isi_str_int, isi_str_bool, isi_str_tuple, isi_str_list, isi_int_str, isi_int_int, isi_int_bool, isi_int_tuple, isi_int_list, isi_bl_str, isi_bl_int, isi_bl_bool, isi_bl_tuple, isi_bl_list, isi_non_str, isi_non_int, isi_non_bool, isi_non_tuple, isi_non_list, isi_tup_str, isi_tup_int, isi_tup_bool, isi_tup_tuple, isi_tup_list, isi_lst_str, isi_lst_int, isi_lst_bool, isi_lst_tuple, isi_lst_list, isi_dct_str, isi_dct_int, isi_dct_bool, isi_dct_tuple, isi_dct_list, isi2_str, isi2_int, isi2_bl, isi2_non, isi2_tup, isi2_lst, isi2_dct, Option.getD_some, Option.getD_none, D.isNon, sz_0, sz_1, sz_2, sz_3, sz_4, sz_5, sz_6, sz_7, sz_8, sz_9, sz_10, sz_11, sz_12, sz_13, sz_14, sz_15, sz_16, sg_len, ex_in_sg, ex_len_str, ex_len_tup, ex_len_lst, ex_eq_str, ex_ne_str, ex_eq_int, ex_ne_int, ex_eq_ns, ex_eq_sn, ex_eq_nn, ex_ne_ns, ex_ne_sn, ex_ne_nn, ex_I, ex_add_int, ex_add_str, ex_add_tup, ex_add_lst, ex_sub, ex_mul, ex_mod, ex_div, ex_isN, ex_notN, ex_ix_tup, ex_ix_lst, ex_sl_tup, ex_sl_lst, ex_sl_str, ex_tuple_lst,
  ofs_inj, String.reduceEq, atI_0, atI_1, atI_2, atI_3, cut_1, cut_13, startD, wipeD, List.map_cons, List.map_nil, List.length_cons, List.length_nil, List.cons_append, List.nil_append, List.replicate_succ, List.replicate_zero, List.set_cons_zero, List.set_cons_succ, Nat.reduceAdd, Nat.reduceSub, Nat.sub_self,
  D.bl.injEq, D.int.injEq, D.str.injEq, D.tup.injEq, D.lst.injEq, D.dct.injEq, Option.some.injEq, List.cons.injEq, and_assoc, Int.cast_ofNat_Int, Int.reduceAdd, Int.reduceSub, Int.reduceMul, Int.reduceNeg, Int.reduceEq, Int.reduceLT, Int.reduceLE, Int.reduceNe, eq_self, exists_eq_left, exists_eq_left', exists_eq_right, exists_eq, exists_const, exists_false, false_and, and_false, false_or, or_false, true_and, and_true, if_true, if_false, Bool.false_eq_true, Bool.not_true, Bool.not_false, ite_true, ite_false, reduceCtorEq, decide_true, decide_false, decide_eq_true_eq, exists_and_left, Bool.not_eq_true])

def sp_next : SpD := fun ds m Q => ∃ (ha hb : Addr) (n : Int), ds = [.ref ha, .int n] ∧ Rg ha hb m ∧ 0 < n ∧ n < 1073741824 ∧ ∀ r m', 0 ≤ r → r < n → Rg ha hb m' → Ch ha hb m m' → Q (.int r) m'
theorem F__law_next (T : Txt K w mg) : FnD P w K mg base "_law_next" 1 sp_next := by
  have nd := sc__law_next.nd
  refine fnd_ofZ T.d__law_next sc__law_next (fun ds m Q ⟨_, _, _, e, _⟩ => by rw [e]; rfl) fun f cdv A outer s H E hr => ⟨_, (ass_cons (as_asg (ae_op or_mod (ae_ix hr.u1 (ae_var 0) ae_int) (ae_callB cr_max2 T.b_max boot_max (aa_cons ae_int (aa_cons (ae_callB cr_len T.b_len boot_len (aa_cons (ae_ix hr.u1 (ae_var 0) ae_int) aa_nil)) aa_nil)))) (ag_name 2 nd))
      (ass_cons (as_asg (ae_if (at_cmp (or_ne hr.units) (ae_ix hr.u1 (ae_var 0) ae_int) (ae_lst aa_nil) (nomark _)) (ae_ix hr.u1 (ae_ix hr.u1 (ae_var 0) ae_int) (ae_var 2)) ae_int) (ag_name 3 nd))
      (ass_cons (as_if (at_cmp or_ge (ae_var 3) (ae_op or_pow ae_int ae_int) (nomark _)) (ass_cons (as_asg (ae_op or_div (ae_var 3) (ae_var 1)) (ag_sub hr.u1 (ae_ix hr.u1 (ae_var 0) ae_int) (ae_var 2)))
      (ass_one (as_ret (ae_op or_mod (ae_var 3) (ae_var 1))))) ass_nil)
      (ass_cons (as_asg (ae_op or_mod (ae_op or_add (ae_op or_add (ae_op or_mul (ae_ix hr.u1 (ae_var 0) ae_int) ae_int) (ae_op or_mul (ae_var 3) ae_int)) ae_int) ae_int) (ag_sub hr.u1 (ae_var 0) ae_int))
      (ass_cons (as_asg (ae_op or_add (ae_ix hr.u1 (ae_var 0) ae_int) ae_int) (ag_sub hr.u1 (ae_var 0) ae_int))
      (ass_one (as_ret (ae_op or_mod (ae_op or_div (ae_ix hr.u1 (ae_var 0) ae_int) ae_int) (ae_var 1))))))))), ?_⟩
  rintro _ m Q ⟨ha, hb, n, rfl, R, hn, hn2, q⟩
  obtain ⟨a, c, ns, e1, e2⟩ := R.ex
  have x1 : ∀ (i : Int) (R : EK), rhoIx (.ref ha) (.int i) m R = ∃ d, atI [.int a, .ref hb, .int c] i = some d ∧ R d m := fun i R => ex_ix_ref e1
  have x2 : ∀ (i : Int) (R : EK), rhoIx (.ref hb) (.int i) m R = ∃ d, atI (ns.map D.int) i = some d ∧ R d m := fun i R => ex_ix_ref e2
  have x3 : ∀ (R : EK), rcLen [.ref hb] m R = R (.int ((ns.map D.int).length : Int)) m := fun R => ex_len_ref e2
  walk_at "rg"
  simp only [x1]
  walk_at "rg"
  simp only [x1, x3]
  walk_at "rg"
  have hL : (0 : Int) < if (ns.length : Int) > 1 then (ns.length : Int) else 1 := by split <;> omega
  have hM : 0 < ns.length → (if (ns.length : Int) > 1 then (ns.length : Int) else 1) = ns.length := fun h => by split <;> omega
  refine ⟨hL, ?_⟩
  generalize hLe : (if (ns.length : Int) > 1 then (ns.length : Int) else 1) = L at hL hM ⊢
  rw [x1, atI_1]
  walk_at "rg"
  rw [ex_ne (x := .ref hb) (y := .lst []) (by rw [rsv_ref e2]; exact ints_ok ns) okl_nil, rsv_ref e2]
  have pw : ∀ (R : EK), rhoPow (.int 10) (.int 18) m R = R (.int 1000000000000000000) m := fun R => by
    rw [ex_pow]
    exact propext ⟨fun q => q.2, fun q => ⟨⟨by decide, by decide, by decide⟩, q⟩⟩
  have tail : ∀ (v : Int) (δ : Dt), Fz Q (.int ((((a * 48271 + v * 69621 + 11) % 2147483647) / 7) % n)) ((m.put ha (.lst [.int ((a * 48271 + v * 69621 + 11) % 2147483647), .ref hb, .int c])).put ha (.lst [.int ((a * 48271 + v * 69621 + 11) % 2147483647), .ref hb, .int (c + 1)])) := fun v δ => by
    refine Fz.now (q _ _ (Int.emod_nonneg _ (by omega)) (Int.emod_lt_of_pos _ hn) ⟨R.ne, _, _, ns, Mu.put_same, ?_⟩ fun x h1 h2 => ?_)
    · rw [Mu.put_ne R.ne.symm, Mu.put_ne R.ne.symm]; exact e2
    · rw [Mu.put_ne h1, Mu.put_ne h1]
  by_cases hns : ns = []
  · subst hns
    rw [show (!eqD (D.lst (List.map D.int [])) (rsv m (.lst []))) = false from by
      show (!eqD (D.lst []) (.lst [])) = false
      simp [eqD, D.pd, pds, PyData.eqv, PyData.eqvAll]]
    walk_at "rg"
    simp only [pw]
    walk_at "rg"
    rw [x1, atI_0]
    walk_at "rg"
    refine ⟨.inr (by decide), .inr (by decide), ⟨ha, rfl, .inl ⟨_, 0, 0, e1, rfl, rfl, ?_⟩⟩⟩
    simp only [List.set_cons_zero]
    rw [ex_ix_ref Mu.put_same, atI_2]
    walk_at "rg"
    refine ⟨ha, rfl, .inl ⟨_, 2, 2, Mu.put_same, rfl, rfl, ?_⟩⟩
    simp only [List.set_cons_zero, List.set_cons_succ]
    rw [ex_ix_ref Mu.put_same, atI_0]
    walk_at "rg"
    refine ⟨⟨by decide, by decide⟩, hn, ?_⟩
    simpa using tail 0 []
  · have hl : 0 < ns.length := List.length_pos_iff.mpr hns
    have hP := hM hl
    have g1 := Int.emod_nonneg c (show L ≠ 0 by omega)
    have g2 := Int.emod_lt_of_pos c hL
    rw [show (!eqD (D.lst (List.map D.int ns)) (rsv m (.lst []))) = true from by
      show (!eqD (D.lst (List.map D.int ns)) (.lst [])) = true
      cases ns with
      | nil => exact absurd rfl hns
      | cons x xs => simp [eqD, D.pd, pds, PyData.eqv, PyData.eqvAll]]
    walk_at "rg"
    rw [x1, atI_1]
    walk_at "rg"
    rw [x2]
    generalize hk : (c % L) = k at g1 g2 ⊢
    obtain ⟨v, hv⟩ : ∃ v, ns[k.toNat]? = some v := ⟨ns[k.toNat]'(by omega), List.getElem?_eq_getElem _⟩
    have hat : atI (ns.map D.int) k = some (.int v) := by
      have : (ns.map D.int)[k.toNat]? = some (.int v) := by rw [List.getElem?_map, hv]; rfl
      have h2 := atI_nat this
      rwa [Int.toNat_of_nonneg g1] at h2
    rw [hat]
    walk_at "rg"
    simp only [pw]
    walk_at "rg"
    by_cases hb18 : 1000000000000000000 ≤ v
    · rw [if_pos hb18]
      rw [x1, atI_1]
      try walk_at "rg"
      refine ⟨⟨hn, hn2⟩, ⟨hb, rfl, .inl ⟨_, k, k.toNat, e2, rfl, ?_, ?_⟩⟩⟩
      · unfold ixN
        rw [List.length_map, if_pos g1, if_pos (by omega)]
      · refine ⟨hn, Fz.now (q _ _ (Int.emod_nonneg _ (by omega)) (Int.emod_lt_of_pos _ hn) ⟨R.ne, a, c, ns.set k.toNat (v / n), ?_, ?_⟩ fun x h1 h2 => ?_)⟩
        · rw [Mu.put_ne R.ne]; exact e1
        · rw [Mu.put_same, List.map_set]
        · rw [Mu.put_ne h2]
    · rw [if_neg hb18]
      rw [x1, atI_0]
      walk_at "rg"
      refine ⟨.inr (by decide), .inr (by decide), ⟨ha, rfl, .inl ⟨_, 0, 0, e1, rfl, rfl, ?_⟩⟩⟩
      simp only [List.set_cons_zero]
      rw [ex_ix_ref Mu.put_same, atI_2]
      walk_at "rg"
      refine ⟨ha, rfl, .inl ⟨_, 2, 2, Mu.put_same, rfl, rfl, ?_⟩⟩
      simp only [List.set_cons_zero, List.set_cons_succ]
      rw [ex_ix_ref Mu.put_same, atI_0]
      walk_at "rg"
      exact ⟨⟨by decide, by decide⟩, hn, tail v []⟩
/-- the ends of a def that draws: the generator's cells have changed -/
theorem fz_over {Q : EK} {d : D} {m m' : Mu} {ha hb : Addr} (R : Rg ha hb m') (h : ∀ x c, x ≠ ha → x ≠ hb → m x = some c → m' x = some c) (q : ∀ m2, Rg ha hb m2 → Ch ha hb m m2 → Q d m2) : Fz Q d m' :=
  Fz.to (over_sub h) (q _ (over_rg R) over_ch)
/-! ### the seed -/
def sp_mix : SpD := fun ds m Q => ∃ (ns : List Int) (s0 : Int), ds = [.fl ns, .int s0] ∧ ∀ ha hb m', Rg ha hb m' → m ha = none → m hb = none → Q (.ref ha) m'
theorem F__law_mix (T : Txt K w mg) : FnD P w K mg base "_law_mix" 1 sp_mix := by
  have nd := sc__law_mix.nd
  refine fnd_ofZ T.d__law_mix sc__law_mix (fun ds m Q ⟨_, _, e, _⟩ => by rw [e]; rfl) fun f cdv A outer s H E hr => ⟨_, (ass_cons (as_asg (ae_var 1) (ag_name 2 nd))
      (ass_cons (as_for PassesOwn.never rfl (ai_fl (ae_var 0)) (ag_name 3 nd)
      (ass_one (as_asg (ae_op or_mod (ae_op or_add (ae_op or_add (ae_op or_mul (ae_var 2) ae_int) (ae_op or_mod (ae_var 3) ae_int)) ae_int) ae_int) (ag_name 2 nd))))
      (ass_one (as_ret (ae_lstM (aa_cons (ae_var 2) (aa_cons (ae_callTy cr_listM T.b_list boot_list (aa_cons (ae_var 0) aa_nil)) (aa_cons ae_int aa_nil)))))))), ?_⟩
  rintro _ m Q ⟨ns, s0, rfl, q⟩
  walk_at "rg"
  refine for_inv (fun rest δ m' => m' = m ∧ (∀ d ∈ rest, ∃ i : Int, d = .int i) ∧ ∃ (x : Int) (o : Option D), δ = [some (.fl ns), some (.int s0), some (.int x), o]) ?_ ?_ ⟨rfl, fun d hd => by obtain ⟨i, _, rfl⟩ := List.mem_map.mp hd; exact ⟨i, rfl⟩, _, _, rfl⟩
  · rintro d rest δ _ ⟨rfl, h, x, o, rfl⟩ nx hnx
    obtain ⟨i, rfl⟩ := h d List.mem_cons_self
    walk_at "rg"
    exact ⟨.inr (by decide), hnx _ _ ⟨rfl, fun d hd => h d (List.mem_cons_of_mem _ hd), _, _, rfl⟩⟩
  · rintro δ _ ⟨rfl, _, x, o, rfl⟩
    walk_at "rg"
    refine ⟨.fl ns, ns.map D.int, rfl, .inr (.inr ⟨ns, rfl, rfl⟩), fun hb h1 => ?_⟩
    walk_at "rg"
    intro ha h2
    have ne : ha ≠ hb := fun z => by subst z; rw [Mu.put_same] at h2; cases h2
    have h3 := h2
    rw [Mu.put_ne ne] at h3
    exact Fz.now (q ha hb _ ⟨ne, _, _, ns, Mu.put_same, by rw [Mu.put_ne ne.symm, Mu.put_same]⟩ h3 h1)
end K16
/-! alike, what is called, what is used. -/
namespace K16
open PySem PySem.Spec PyProof.Rows L2 L3
variable {P : Program} {w : World} {K : PySem.W.Frag} {mg : Str → Option Value} {base : Heap}
local macro_rules | `(tactic| walk_at "ru") => `(tactic| simp only [ aLM, aLstM, isi_enc, ex_in_tup, inD_nil, inD_cons, eqD_str, fl_str, List.all_cons, all_fl_nil, Bool.and_true, Bool.or_false, Bool.false_or, Bool.true_or, Bool.or_true, Bool.and_self, Bool.false_bne, Bool.false_xor, Bool.true_xor, W1.s, W2.s, aRet, aRetN, aDrop, aIfS, aSeq, aNext, aAsg, gNm, gTupD, gConsD, gNilD, aFor, ex_var0, ex_varS, aC, aOp, aCall, aCons, aNil, aTup, aLst, aB, aAnd, aOr, aNot, aAndV, aOrV, aNotV, aIf, aNeg, aChain, aKix, aKGet1, aKGet2, aDGet1, aDGet2, aNoPart, aPart, aSl, aList, aTupI, aStrI, aZipS, aYes, aLc, aNever, aBreak, aCont, forGo, lcGo,
  isi_str_str, isi_str_int, isi_str_bool, isi_str_tuple, isi_str_list, isi_int_str, isi_int_int, isi_int_bool, isi_int_tuple, isi_int_list, isi_bl_str, isi_bl_int, isi_bl_bool, isi_bl_tuple, isi_bl_list, isi_non_str, isi_non_int, isi_non_bool, isi_non_tuple, isi_non_list, isi_tup_str, isi_tup_int, isi_tup_bool, isi_tup_tuple, isi_tup_list, isi_lst_str, isi_lst_int, isi_lst_bool, isi_lst_tuple, isi_lst_list, isi_dct_str, isi_dct_int, isi_dct_bool, isi_dct_tuple, isi_dct_list, isi2_str, isi2_int, isi2_bl, isi2_non, isi2_tup, isi2_lst, isi2_dct, Option.getD_some, Option.getD_none, D.isNon, sz_0, sz_1, sz_2, sz_3, sz_4, sz_5, sz_6, sz_7, sz_8, sz_9, sz_10, sz_11, sz_12, sz_13, sz_14, sz_15, sz_16, sg_len, ex_in_sg, ex_len_str, ex_len_tup, ex_len_lst, ex_eq_str, ex_ne_str, ex_eq_int, ex_ne_int, ex_eq_ns, ex_eq_sn, ex_eq_nn, ex_ne_ns, ex_ne_sn, ex_ne_nn, ex_I, ex_add_int, ex_add_str, ex_add_tup, ex_add_lst, ex_sub, ex_mul, ex_mod, ex_div, ex_isN, ex_notN, ex_ix_tup, ex_ix_lst, ex_sl_tup, ex_sl_lst, ex_sl_str, ex_tuple_lst,
  ofs_inj, String.reduceEq, atI_0, atI_1, atI_2, atI_3, cut_1, cut_13, startD, wipeD, List.map_cons, List.map_nil, List.length_cons, List.length_nil, List.cons_append, List.nil_append, List.replicate_succ, List.replicate_zero, List.set_cons_zero, List.set_cons_succ, Nat.reduceAdd, Nat.reduceSub, Nat.sub_self,
  D.bl.injEq, D.int.injEq, D.str.injEq, D.tup.injEq, D.lst.injEq, D.dct.injEq, Option.some.injEq, List.cons.injEq, and_assoc, Int.cast_ofNat_Int, Int.reduceAdd, Int.reduceSub, Int.reduceMul, Int.reduceNeg, Int.reduceEq, Int.reduceLT, Int.reduceLE, Int.reduceNe, eq_self, exists_eq_left, exists_eq_left', exists_eq_right, exists_eq, exists_const, exists_false, false_and, and_false, false_or, or_false, true_and, and_true, if_true, if_false, Bool.false_eq_true, Bool.not_true, Bool.not_false, ite_true, ite_false, reduceCtorEq, decide_true, decide_false, decide_eq_true_eq, exists_and_left, Bool.not_eq_true])

def sgD (cs : List Nat) : List D := strD (cs.map sg)
theorem sgD_len (cs : List Nat) : (sgD cs).length = cs.length := by simp [sgD, strD]
theorem sgD_app (a b : List Nat) : sgD a ++ sgD b = sgD (a ++ b) := by simp [sgD, strD]
/-- one more list behind the one at p -/
theorem ext_at {m : Mu} {p : Addr} {a b : List Nat} {R : EK} (h : a.length + b.length ≤ 100000) (q : R .non (m.put p (.lst (sgD (a ++ b))))) : rhoExtend (.ref p) [.lst (sgD b)] (m.put p (.lst (sgD a))) R :=
  ⟨p, _, _, _, rfl, Mu.put_same, rfl, rfl, by rw [sgD_len, sgD_len]; exact szl h, by rw [Mu.put_put, sgD_app]; exact q⟩
def sp_used (n : Nat) : SpD := fun ds m Q => ∃ b : Bd, ds = [b.enc] ∧ b.dep ≤ n ∧ b.words ≤ 100 ∧ Q (.lst (sgD b.used)) m
theorem lst_at_put {m : Mu} {p : Addr} {ds : List D} : ∃ es, lstOf (m.put p (.lst ds)) (.ref p) = some es := ⟨ds, by simp [lstOf, Mu.put_same]⟩
theorem used_step {n : Nat} {m : Mu} {p : Addr} {a : Bd} {l : List Nat} {R : EK} (hd : a.dep ≤ n) (hw : a.words ≤ 100) (hl : l.length ≤ 1000) (q : R .non (m.put p (.lst (sgD (l ++ a.used))))) :
    (∃ es, lstOf (m.put p (.lst (sgD l))) (.ref p) = some es) ∧ sp_used n [a.enc] (m.put p (.lst (sgD l))) fun x m1 => rhoExtend (.ref p) [x] m1 R :=
  ⟨lst_at_put, a, rfl, hd, hw, ext_at (by have := a.used_len; omega) q⟩
theorem fin_lst {m : Mu} {p : Addr} {l : List D} {Q : EK} (hp : m p = none) (q : Q (.lst l) m) : Fz Q (.ref p) (m.put p (.lst l)) := Fz.lst Mu.put_same (Sub.put hp) hp q
theorem F__law_used (T : Txt K w mg) : ∀ n : Nat, FnD P w K mg base "_law_used" (n + 1) (sp_used n)
  | 0 => fnd_never T.d__law_used sc__law_used fun ds m Q ⟨b, _, h, _⟩ => by have := b.dep_pos; omega
  | n + 1 => by
    have nd := sc__law_used.nd
    have F := F__law_used T n
    refine fnd_ofZ T.d__law_used sc__law_used (fun ds m Q ⟨_, e, _⟩ => by rw [e]; rfl) fun f cdv A outer s H E hr => ⟨_, (ass_cons (as_asg (ae_if (at_cmp (or_in1 hr.u65) (ae_ix hr.u1 (ae_var 0) ae_int) (ae_tup (aa_cons ae_str (aa_cons ae_str aa_nil))) (by rfl)) (ae_lstM (aa_cons (ae_ix hr.u1 (ae_var 0) ae_int) aa_nil)) (ae_lstM aa_nil)) (ag_name 1 nd))
      (ass_cons (as_for PassesOwn.never rfl (ai_tup (ae_sl (ae_var 0) (ao_some ae_int) ao_none)) (ag_name 2 nd)
      (ass_one (as_if (at_val (ae_callB cr_isi T.b_isinstance boot_isinstance (aa_cons (ae_var 2) (aa_cons (ae_ty T.b_tuple boot_tuple) aa_nil)))) (ass_one (as_expr (ae_lm PySem.F.slot_list_extend PySem.F.type_list_extend mt_extendD (ae_var 1) (aa_cons (ae_call (F.mono (by omega)) hr (aa_cons (ae_var 2) aa_nil)) aa_nil)))) ass_nil)))
      (ass_one (as_ret (ae_var 1))))), ?_⟩
    rintro _ m Q ⟨b, rfl, hd, hw, q⟩
    cases b with
    | num i =>
      simp only [Bd.enc]
      walk_at "ru"
      intro p hp
      exact fin_lst hp q
    | tru i =>
      simp only [Bd.enc]
      walk_at "ru"
      intro p hp
      exact fin_lst hp q
    | emp =>
      simp only [Bd.enc]
      walk_at "ru"
      intro p hp
      exact fin_lst hp q
    | arg =>
      simp only [Bd.enc]
      walk_at "ru"
      intro p hp
      exact fin_lst hp q
    | cel c =>
      simp only [Bd.enc]
      walk_at "ru"
      intro p hp
      exact fin_lst hp q
    | un wd a =>
      have hd2 := hd
      have hw2 := hw
      simp only [Bd.dep] at hd2
      simp only [Bd.words] at hw2
      cases wd
      all_goals simp only [Bd.enc, W1.s, W2.s]
      all_goals walk_at "ru"
      all_goals intro p hp
      all_goals refine used_step (l := []) (a := a) (by omega) (by omega) (by simp) ?_
      all_goals exact fin_lst hp q
    | bin wd a b =>
      have hd2 := hd
      have hw2 := hw
      simp only [Bd.dep] at hd2
      simp only [Bd.words] at hw2
      cases wd
      all_goals simp only [Bd.enc, W1.s, W2.s]
      all_goals walk_at "ru"
      all_goals intro p hp
      all_goals refine used_step (l := []) (a := a) (by omega) (by omega) (by simp) ?_
      all_goals refine used_step (l := ([] ++ a.used)) (a := b) (by omega) (by omega) (by simp; try (have := a.used_len; omega)) ?_
      all_goals exact fin_lst hp q
    | ite a b c =>
      have hd2 := hd
      have hw2 := hw
      simp only [Bd.dep] at hd2
      simp only [Bd.words] at hw2
      simp only [Bd.enc]
      walk_at "ru"
      intro p hp
      refine used_step (l := []) (a := a) (by omega) (by omega) (by simp) ?_
      refine used_step (l := ([] ++ a.used)) (a := b) (by omega) (by omega) (by simp; try (have := a.used_len; have := b.used_len; omega)) ?_
      refine used_step (l := (([] ++ a.used) ++ b.used)) (a := c) (by omega) (by omega) (by simp; try (have := a.used_len; have := b.used_len; omega)) ?_
      exact fin_lst hp q
    | set c a =>
      have hd2 := hd
      have hw2 := hw
      simp only [Bd.dep] at hd2
      simp only [Bd.words] at hw2
      simp only [Bd.enc]
      walk_at "ru"
      intro p hp
      refine used_step (l := [c]) (a := a) (by omega) (by omega) (by simp) ?_
      exact fin_lst hp q
    | cal c a =>
      have hd2 := hd
      have hw2 := hw
      simp only [Bd.dep] at hd2
      simp only [Bd.words] at hw2
      simp only [Bd.enc]
      walk_at "ru"
      intro p hp
      refine used_step (l := []) (a := a) (by omega) (by omega) (by simp) ?_
      exact fin_lst hp q
end K16
/-! what is called. -/
namespace K16
open PySem PySem.Spec PyProof.Rows L2 L3
variable {P : Program} {w : World} {K : PySem.W.Frag} {mg : Str → Option Value} {base : Heap}
theorem ex_in_ref {m : Mu} {Q : EK} {p : Addr} {l : List Nat} {c : Nat} {b : Bool} (h : m p = some (.lst (sgD l))) : rhoIn b (.str (sg c)) (.ref p) m Q = Q (.bl (b ^^ decide (c ∈ l))) m := by
  have e1 : lstOf m (.ref p) = some (sgD l) := by simp [lstOf, h]
  have e2 : dctOf m (.ref p) = none := by simp [dctOf, h]
  rw [← inD_sg (cs := l)]
  refine propext ⟨?_, fun q => .inl ⟨sgD l, e1, .inl ⟨rfl, strD_flat l⟩, q⟩⟩
  rintro (⟨es, h, _, q⟩ | ⟨es, k, h, _⟩)
  · rw [e1] at h; cases h; exact q
  · rw [e2] at h; cases h
local macro_rules | `(tactic| walk_at "ru") => `(tactic| simp only [ aLM, aLstM, isi_enc, ex_in_tup, inD_nil, inD_cons, eqD_str, fl_str, List.all_cons, all_fl_nil, Bool.and_true, Bool.or_false, Bool.false_or, Bool.true_or, Bool.or_true, Bool.and_self, Bool.false_bne, Bool.false_xor, Bool.true_xor, W1.s, W2.s, aRet, aRetN, aDrop, aIfS, aSeq, aNext, aAsg, gNm, gTupD, gConsD, gNilD, aFor, ex_var0, ex_varS, aC, aOp, aCall, aCons, aNil, aTup, aLst, aB, aAnd, aOr, aNot, aAndV, aOrV, aNotV, aIf, aNeg, aChain, aKix, aKGet1, aKGet2, aDGet1, aDGet2, aNoPart, aPart, aSl, aList, aTupI, aStrI, aZipS, aYes, aLc, aNever, aBreak, aCont, forGo, lcGo,
  isi_str_str, isi_str_int, isi_str_bool, isi_str_tuple, isi_str_list, isi_int_str, isi_int_int, isi_int_bool, isi_int_tuple, isi_int_list, isi_bl_str, isi_bl_int, isi_bl_bool, isi_bl_tuple, isi_bl_list, isi_non_str, isi_non_int, isi_non_bool, isi_non_tuple, isi_non_list, isi_tup_str, isi_tup_int, isi_tup_bool, isi_tup_tuple, isi_tup_list, isi_lst_str, isi_lst_int, isi_lst_bool, isi_lst_tuple, isi_lst_list, isi_dct_str, isi_dct_int, isi_dct_bool, isi_dct_tuple, isi_dct_list, isi2_str, isi2_int, isi2_bl, isi2_non, isi2_tup, isi2_lst, isi2_dct, Option.getD_some, Option.getD_none, D.isNon, sz_0, sz_1, sz_2, sz_3, sz_4, sz_5, sz_6, sz_7, sz_8, sz_9, sz_10, sz_11, sz_12, sz_13, sz_14, sz_15, sz_16, sg_len, ex_in_sg, ex_len_str, ex_len_tup, ex_len_lst, ex_eq_str, ex_ne_str, ex_eq_int, ex_ne_int, ex_eq_ns, ex_eq_sn, ex_eq_nn, ex_ne_ns, ex_ne_sn, ex_ne_nn, ex_I, ex_add_int, ex_add_str, ex_add_tup, ex_add_lst, ex_sub, ex_mul, ex_mod, ex_div, ex_isN, ex_notN, ex_ix_tup, ex_ix_lst, ex_sl_tup, ex_sl_lst, ex_sl_str, ex_tuple_lst,
  ofs_inj, String.reduceEq, atI_0, atI_1, atI_2, atI_3, cut_1, cut_13, startD, wipeD, List.map_cons, List.map_nil, List.length_cons, List.length_nil, List.cons_append, List.nil_append, List.replicate_succ, List.replicate_zero, List.set_cons_zero, List.set_cons_succ, Nat.reduceAdd, Nat.reduceSub, Nat.sub_self,
  D.bl.injEq, D.int.injEq, D.str.injEq, D.tup.injEq, D.lst.injEq, D.dct.injEq, Option.some.injEq, List.cons.injEq, and_assoc, Int.cast_ofNat_Int, Int.reduceAdd, Int.reduceSub, Int.reduceMul, Int.reduceNeg, Int.reduceEq, Int.reduceLT, Int.reduceLE, Int.reduceNe, eq_self, exists_eq_left, exists_eq_left', exists_eq_right, exists_eq, exists_const, exists_false, false_and, and_false, false_or, or_false, true_and, and_true, if_true, if_false, Bool.false_eq_true, Bool.not_true, Bool.not_false, ite_true, ite_false, reduceCtorEq, decide_true, decide_false, decide_eq_true_eq, exists_and_left, Bool.not_eq_true])

def sp_calls (n : Nat) : SpD := fun ds m Q => ∃ b : Bd, ds = [b.enc] ∧ b.dep ≤ n ∧ b.words ≤ 100 ∧ ∀ cs : List Nat, (∀ c, c ∈ cs ↔ c ∈ b.calls) → cs.length ≤ b.words → Q (.lst (sgD cs)) m
def notIn (l : List Nat) (d : D) : Option D := if inD d (sgD l) = true then none else some d
theorem notIn_sg (l : List Nat) : ∀ cs : List Nat, (sgD cs).filterMap (notIn l) = sgD (cs.filter fun c => decide (c ∉ l))
  | [] => rfl
  | c :: cs => by
    show ((D.str (sg c)) :: sgD cs).filterMap (notIn l) = _
    rw [List.filterMap_cons, notIn_sg l cs, List.filter_cons]
    unfold notIn
    rw [show inD (.str (sg c)) (sgD l) = decide (c ∈ l) from inD_sg]
    by_cases h : c ∈ l
    · simp [h]
    · simp [h, sgD, strD]
theorem calls_step {n : Nat} {m : Mu} {p : Addr} {a : Bd} {l : List Nat} {R : EK} {o0 o2 : Option D} (hd : a.dep ≤ n) (hw : a.words ≤ 100) (hl : l.length ≤ 1000) (q : ∀ l2 : List Nat, (∀ c, c ∈ l2 ↔ c ∈ l ∨ c ∈ a.calls) → l2.length ≤ l.length + a.words → R .non (m.put p (.lst (sgD l2)))) :
    (∃ es, lstOf (m.put p (.lst (sgD l))) (.ref p) = some es) ∧ sp_calls n [a.enc] (m.put p (.lst (sgD l))) fun d m1 => ∃ ds, d = .lst ds ∧ ds.length ≤ sizeLine ∧
      lcGo (gNm 3) (aB (aOp (rhoIn true) (aVar 3) (aVar 1))) (aVar 3) [o0, some (.ref p), o2, none] (fun x m1 => rhoExtend (.ref p) [x] m1 R) ds [] m1 := by
  refine ⟨lst_at_put, a, rfl, hd, hw, fun cs hcs hlen => ⟨_, rfl, by rw [sgD_len]; exact szl (by omega), lc_pure (notIn l) (fun d hd R q => ?_) ?_⟩⟩
  · obtain ⟨x, hx, rfl⟩ := List.mem_map.mp hd
    obtain ⟨c, _, rfl⟩ := List.mem_map.mp hx
    unfold notIn at q
    rw [show inD (.str (sg c)) (sgD l) = decide (c ∈ l) from inD_sg] at q
    simp only [lcStep]
    walk_at "ru"
    rw [ex_in_ref Mu.put_same]
    by_cases h : c ∈ l
    · rw [decide_eq_true h, if_pos rfl] at q
      rw [decide_eq_true h]
      walk_at "ru"
      exact q
    · rw [decide_eq_false h, if_neg (by simp)] at q
      rw [decide_eq_false h]
      walk_at "ru"
      exact q
  · rw [List.nil_append, notIn_sg]
    have hf : (cs.filter fun c => decide (c ∉ l)).length ≤ cs.length := List.length_filter_le _ _
    refine ext_at (by omega) (q _ (fun c => ?_) (by rw [List.length_append]; omega))
    rw [List.mem_append, List.mem_filter, hcs]
    by_cases h : c ∈ l <;> simp [h]
theorem F__law_calls (T : Txt K w mg) : ∀ n : Nat, FnD P w K mg base "_law_calls" (n + 1) (sp_calls n)
  | 0 => fnd_never T.d__law_calls sc__law_calls fun ds m Q ⟨b, _, h, _⟩ => by have := b.dep_pos; omega
  | n + 1 => by
    have nd := sc__law_calls.nd
    have F := F__law_calls T n
    refine fnd_ofZ T.d__law_calls sc__law_calls (fun ds m Q ⟨_, e, _⟩ => by rw [e]; rfl) fun f cdv A outer s H E hr => ⟨_, (ass_cons (as_asg (ae_if (at_cmp (or_eq hr.units) (ae_ix hr.u1 (ae_var 0) ae_int) ae_str (nomark _)) (ae_lstM (aa_cons (ae_ix hr.u1 (ae_var 0) ae_int) aa_nil)) (ae_lstM aa_nil)) (ag_name 1 nd))
      (ass_cons (as_for PassesOwn.never rfl (ai_tup (ae_sl (ae_var 0) (ao_some ae_int) ao_none)) (ag_name 2 nd)
      (ass_one (as_if (at_val (ae_callB cr_isi T.b_isinstance boot_isinstance (aa_cons (ae_var 2) (aa_cons (ae_ty T.b_tuple boot_tuple) aa_nil)))) (ass_one (as_expr (ae_lm PySem.F.slot_list_extend PySem.F.type_list_extend mt_extendD (ae_var 1) (aa_cons (ae_lc (own := [("_law_deed", 3)]) rfl nd (ai_list (ae_call (F.mono (by omega)) hr (aa_cons (ae_var 2) aa_nil))) (blkOk_by (own := [("_law_deed", 3)]) (by kernel_rfl)) (gg_name (i := 3) (by simp)) (fun _ _ _ _ _ => (pg_name (i := 3) nd rfl (Or.inl rfl))) (fun _ _ _ _ _ => (ats_one (at_cmp (or_nin hr.u65) (ae_var 3) (ae_var 1) (by rfl)))) (fun _ _ _ _ _ => (ae_var 3))) aa_nil)))) ass_nil)))
      (ass_one (as_ret (ae_var 1))))), ?_⟩
    rintro _ m Q ⟨b, rfl, hd, hw, q⟩
    cases b with
    | num i =>
      simp only [Bd.enc]
      walk_at "ru"
      intro p hp
      exact fin_lst hp (q [] (fun c => by simp [Bd.calls]) (by simp))
    | tru i =>
      simp only [Bd.enc]
      walk_at "ru"
      intro p hp
      exact fin_lst hp (q [] (fun c => by simp [Bd.calls]) (by simp))
    | emp =>
      simp only [Bd.enc]
      walk_at "ru"
      intro p hp
      exact fin_lst hp (q [] (fun c => by simp [Bd.calls]) (by simp))
    | arg =>
      simp only [Bd.enc]
      walk_at "ru"
      intro p hp
      exact fin_lst hp (q [] (fun c => by simp [Bd.calls]) (by simp))
    | cel c =>
      simp only [Bd.enc]
      walk_at "ru"
      intro p hp
      exact fin_lst hp (q [] (fun c => by simp [Bd.calls]) (by simp))
    | un wd a =>
      have hd2 := hd
      have hw2 := hw
      simp only [Bd.dep] at hd2
      simp only [Bd.words] at hw2
      cases wd
      all_goals simp only [Bd.enc, W1.s, W2.s]
      all_goals walk_at "ru"
      all_goals intro p hp
      all_goals refine calls_step (l := []) (a := a) (by omega) (by omega) (by first | (simp; done) | omega) fun l1 m1 n1 => ?_
      all_goals simp only [List.length_nil, List.not_mem_nil, false_or] at m1 n1
      all_goals exact fin_lst hp (q l1 (fun c => by simp [Bd.calls, m1, or_assoc]) (by simp only [Bd.words]; omega))
    | bin wd a b =>
      have hd2 := hd
      have hw2 := hw
      simp only [Bd.dep] at hd2
      simp only [Bd.words] at hw2
      cases wd
      all_goals simp only [Bd.enc, W1.s, W2.s]
      all_goals walk_at "ru"
      all_goals intro p hp
      all_goals refine calls_step (l := []) (a := a) (by omega) (by omega) (by first | (simp; done) | omega) fun l1 m1 n1 => ?_
      all_goals simp only [List.length_nil, List.not_mem_nil, false_or] at m1 n1
      all_goals try walk_at "ru"
      all_goals refine calls_step (l := l1) (a := b) (by omega) (by omega) (by first | (simp; done) | omega) fun l2 m2 n2 => ?_
      all_goals exact fin_lst hp (q l2 (fun c => by simp [Bd.calls, m1, m2, or_assoc]) (by simp only [Bd.words]; omega))
    | ite a b c =>
      have hd2 := hd
      have hw2 := hw
      simp only [Bd.dep] at hd2
      simp only [Bd.words] at hw2
      simp only [Bd.enc]
      walk_at "ru"
      intro p hp
      refine calls_step (l := []) (a := a) (by omega) (by omega) (by first | (simp; done) | omega) fun l1 m1 n1 => ?_
      simp only [List.length_nil, List.not_mem_nil, false_or] at m1 n1
      try walk_at "ru"
      refine calls_step (l := l1) (a := b) (by omega) (by omega) (by first | (simp; done) | omega) fun l2 m2 n2 => ?_
      try walk_at "ru"
      refine calls_step (l := l2) (a := c) (by omega) (by omega) (by first | (simp; done) | omega) fun l3 m3 n3 => ?_
      exact fin_lst hp (q l3 (fun c => by simp [Bd.calls, m1, m2, m3, or_assoc]) (by simp only [Bd.words]; omega))
    | set c a =>
      have hd2 := hd
      have hw2 := hw
      simp only [Bd.dep] at hd2
      simp only [Bd.words] at hw2
      simp only [Bd.enc]
      walk_at "ru"
      intro p hp
      refine calls_step (l := []) (a := a) (by omega) (by omega) (by first | (simp; done) | omega) fun l1 m1 n1 => ?_
      simp only [List.length_nil, List.not_mem_nil, false_or] at m1 n1
      exact fin_lst hp (q l1 (fun c => by simp [Bd.calls, m1, or_assoc]) (by simp only [Bd.words]; omega))
    | cal d a =>
      have hd2 := hd
      have hw2 := hw
      simp only [Bd.dep] at hd2
      simp only [Bd.words] at hw2
      simp only [Bd.enc]
      walk_at "ru"
      intro p hp
      refine calls_step (l := [d]) (a := a) (by omega) (by omega) (by first | (simp; done) | omega) fun l1 m1 n1 => ?_
      simp only [List.length_cons, List.length_nil, List.mem_singleton] at m1 n1
      exact fin_lst hp (q l1 (fun c => by simp [Bd.calls, m1, or_assoc]) (by simp only [Bd.words]; omega))
end K16
/-! the generator of bodies. -/
namespace K16
open PySem PySem.Spec PyProof.Rows L2 L3
variable {P : Program} {w : World} {K : PySem.W.Frag} {mg : Str → Option Value} {base : Heap}
theorem nx {m : Mu} {Q : EK} {ha hb : Addr} {n : Int} (R : Rg ha hb m) (h : 0 < n ∧ n < 1073741824) (q : ∀ r m', 0 ≤ r → r < n → Rg ha hb m' → Ch ha hb m m' → Q (.int r) m') : sp_next [.ref ha, .int n] m Q := ⟨ha, hb, n, rfl, R, h.1, h.2, q⟩
def sp_leaf : SpD := fun ds m Q => ∃ ha hb tk gv cl kd, ds = [.ref ha, envE tk gv cl, .str kd.s] ∧ Rg ha hb m ∧ CvOk cl ∧ ∀ b m', LeafOk tk cl kd b → Rg ha hb m' → Ch ha hb m m' → Q b.enc m'
def LeafSt (ha hb : Addr) (m : Mu) (tk : Kd) (gv : Gv) (cl : Cv) (kd : Kd) (n : Nat) (δ : Dt) (m1 : Mu) : Prop := ∃ (p : Addr) (bs : List Bd) (o : Option D), δ = [some (.ref ha), some (envE tk gv cl), some (.str kd.s), some (.ref p), o] ∧ Own ha hb m m1 p (bs.map Bd.enc) ∧
  (∀ b ∈ bs, LeafOk tk cl kd b) ∧ bs.length ≤ n ∧ Rg ha hb m1 ∧ Ext ha hb m m1
local macro_rules | `(tactic| walk_at "rl") => `(tactic| simp only [ aLM, aLstM, ex_in_tup, envE, getK_nil, getK_cons, getK_cv, getK_gv, keyD_str, ex_in_dcts, ex_ix_dcts, Kd.s_inj, Kd.s_t, Kd.s_n, Kd.s_l, Kd.s_ne, Option.map_some, Option.map_none, Sum.inr.injEq, ex_mul_lst, Int.reduceToNat, Nat.reduceMul, Nat.reduceLeDiff, List.flatten_cons, List.flatten_nil, aRet, aRetN, aDrop, aIfS, aSeq, aNext, aAsg, gNm, gTupD, gConsD, gNilD, aFor, ex_var0, ex_varS, aC, aOp, aCall, aCons, aNil, aTup, aLst, aB, aAnd, aOr, aNot, aAndV, aOrV, aNotV, aIf, aNeg, aChain, aKix, aKGet1, aKGet2, aDGet1, aDGet2, aNoPart, aPart, aSl, aList, aTupI, aStrI, aZipS, aYes, aLc, aNever, aBreak, aCont, forGo, lcGo,
  isi_str_str, isi_str_int, isi_str_bool, isi_str_tuple, isi_str_list, isi_int_str, isi_int_int, isi_int_bool, isi_int_tuple, isi_int_list, isi_bl_str, isi_bl_int, isi_bl_bool, isi_bl_tuple, isi_bl_list, isi_non_str, isi_non_int, isi_non_bool, isi_non_tuple, isi_non_list, isi_tup_str, isi_tup_int, isi_tup_bool, isi_tup_tuple, isi_tup_list, isi_lst_str, isi_lst_int, isi_lst_bool, isi_lst_tuple, isi_lst_list, isi_dct_str, isi_dct_int, isi_dct_bool, isi_dct_tuple, isi_dct_list, isi2_str, isi2_int, isi2_bl, isi2_non, isi2_tup, isi2_lst, isi2_dct, Option.getD_some, Option.getD_none, D.isNon, sz_0, sz_1, sz_2, sz_3, sz_4, sz_5, sz_6, sz_7, sz_8, sz_9, sz_10, sz_11, sz_12, sz_13, sz_14, sz_15, sz_16, sg_len, ex_in_sg, ex_len_str, ex_len_tup, ex_len_lst, ex_eq_str, ex_ne_str, ex_eq_int, ex_ne_int, ex_eq_ns, ex_eq_sn, ex_eq_nn, ex_ne_ns, ex_ne_sn, ex_ne_nn, ex_I, ex_add_int, ex_add_str, ex_add_tup, ex_add_lst, ex_sub, ex_mul, ex_mod, ex_div, ex_isN, ex_notN, ex_ix_tup, ex_ix_lst, ex_sl_tup, ex_sl_lst, ex_sl_str, ex_tuple_lst,
  ofs_inj, String.reduceEq, atI_0, atI_1, atI_2, atI_3, cut_1, cut_13, startD, wipeD, List.map_cons, List.map_nil, List.length_cons, List.length_nil, List.cons_append, List.nil_append, List.replicate_succ, List.replicate_zero, List.set_cons_zero, List.set_cons_succ, Nat.reduceAdd, Nat.reduceSub, Nat.sub_self,
  D.bl.injEq, D.int.injEq, D.str.injEq, D.tup.injEq, D.lst.injEq, D.dct.injEq, Option.some.injEq, List.cons.injEq, and_assoc, Int.cast_ofNat_Int, Int.reduceAdd, Int.reduceSub, Int.reduceMul, Int.reduceNeg, Int.reduceEq, Int.reduceLT, Int.reduceLE, Int.reduceNe, eq_self, exists_eq_left, exists_eq_left', exists_eq_right, exists_eq, exists_const, exists_false, false_and, and_false, false_or, or_false, true_and, and_true, if_true, if_false, Bool.false_eq_true, Bool.not_true, Bool.not_false, ite_true, ite_false, reduceCtorEq, decide_true, decide_false, decide_eq_true_eq, exists_and_left, Bool.not_eq_true])

theorem F__law_leaf (T : Txt K w mg) : FnD P w K mg base "_law_leaf" 2 sp_leaf := by
  have nd := sc__law_leaf.nd
  refine fnd_ofZ T.d__law_leaf sc__law_leaf (fun ds m Q ⟨_, _, _, _, _, _, e, _⟩ => by rw [e]; rfl) fun f cdv A outer s H E hr => ⟨_, (ass_cons (as_asg (ae_lstM aa_nil) (ag_name 3 nd))
      (ass_cons (as_if (at_cmp (or_eq hr.units) (ae_ix hr.u1 (ae_var 1) ae_str) (ae_var 2) (nomark _)) (ass_one (as_asg (ae_op or_addM (ae_var 3) (ae_op or_mul (ae_lst (aa_cons (ae_tup (aa_cons ae_str aa_nil)) aa_nil)) ae_int)) (ag_name 3 nd))) ass_nil)
      (ass_cons (as_for PassesOwn.never rfl (ai_list (ae_callB cr_sorted T.b_sorted boot_sorted (aa_cons (ae_ix hr.u1 (ae_var 1) ae_str) aa_nil))) (ag_name 4 nd)
      (ass_one (as_if (at_cmp (or_eq hr.units) (ae_ix hr.u1 (ae_ix hr.u1 (ae_var 1) ae_str) (ae_var 4)) (ae_var 2) (nomark _)) (ass_one (as_asg (ae_op or_addM (ae_var 3) (ae_op or_mul (ae_lst (aa_cons (ae_tup (aa_cons ae_str (aa_cons (ae_var 4) aa_nil))) aa_nil)) ae_int)) (ag_name 3 nd))) ass_nil)))
      (ass_cons (as_if (at_cmp (or_eq hr.units) (ae_var 2) ae_str (nomark _)) (ass_one (as_expr (ae_lm PySem.F.slot_list_append PySem.F.type_list_append mt_appendD (ae_var 3) (aa_cons (ae_tup (aa_cons ae_str (aa_cons (ae_ix hr.u1 (ae_lst (aa_cons (ae_op or_sub (ae_call ((F__law_next T).mono (by omega)) hr (aa_cons (ae_var 0) (aa_cons ae_int aa_nil))) ae_int) (aa_cons (ae_op or_sub (ae_call ((F__law_next T).mono (by omega)) hr (aa_cons (ae_var 0) (aa_cons ae_int aa_nil))) ae_int) aa_nil))) (ae_call ((F__law_next T).mono (by omega)) hr (aa_cons (ae_var 0) (aa_cons ae_int aa_nil)))) aa_nil))) aa_nil)))) ass_nil)
      (ass_cons (as_if (at_cmp (or_eq hr.units) (ae_var 2) ae_str (nomark _)) (ass_one (as_expr (ae_lm PySem.F.slot_list_append PySem.F.type_list_append mt_appendD (ae_var 3) (aa_cons (ae_tup (aa_cons ae_str (aa_cons (ae_cmp (or_eq hr.units) (ae_call ((F__law_next T).mono (by omega)) hr (aa_cons (ae_var 0) (aa_cons ae_int aa_nil))) ae_int (nomark _)) aa_nil))) aa_nil)))) ass_nil)
      (ass_cons (as_if (at_cmp (or_eq hr.units) (ae_var 2) ae_str (nomark _)) (ass_one (as_expr (ae_lm PySem.F.slot_list_append PySem.F.type_list_append mt_appendD (ae_var 3) (aa_cons (ae_tup (aa_cons ae_str aa_nil)) aa_nil)))) ass_nil)
      (ass_one (as_ret (ae_ix hr.u1 (ae_var 3) (ae_call ((F__law_next T).mono (by omega)) hr (aa_cons (ae_var 0) (aa_cons (ae_callB cr_len T.b_len boot_len (aa_cons (ae_var 3) aa_nil)) aa_nil)))))))))))), ?_⟩
  rintro _ m Q ⟨ha, hb, tk, gv, cl, kd, rfl, R, hc, q⟩
  refine seq_inv (LeafSt ha hb m tk gv cl kd 0) (fun nx hn => ?_) ?_
  · walk_at "rl"
    intro p hp
    exact hn _ _ ⟨p, [], _, rfl, Own.new Ext.refl R hp, by simp, by simp, R.put hp, Ext.put hp⟩
  rintro _ m1 ⟨p, bs, o, rfl, O, hbs, hl, R1, X1⟩
  refine seq_inv (LeafSt ha hb m tk gv cl kd 3) (fun nx hn => ?_) ?_
  · walk_at "rl"
    split
    · rename_i e
      refine ex_addM O.at_ (by rw [List.length_map]; exact szl (by simp; omega)) fun p' hp' => hn _ _ ⟨p', bs ++ [Bd.arg, .arg, .arg], _, rfl, ?_, ?_, by rw [List.length_append]; simp only [List.length_cons, List.length_nil]; omega, R1.put hp', X1.trans (Ext.put hp')⟩
      · have := Own.new (ds := (bs ++ [Bd.arg, .arg, .arg]).map Bd.enc) X1 R1 hp'
        simpa [Bd.enc] using this
      · intro b hb
        rcases List.mem_append.mp hb with h | h
        · exact hbs b h
        · have : b = .arg := by simpa using h
          subst this
          exact ⟨trivial, fun gv => by simp [Bd.kind, e], rfl, rfl⟩
    · exact hn _ _ ⟨p, bs, _, rfl, O, hbs, by omega, R1, X1⟩
  clear hl hbs O R1 X1
  rintro _ m1 ⟨p, bs, o, rfl, O, hbs, hl, R1, X1⟩
  refine seq_inv (LeafSt ha hb m tk gv cl kd 11) (fun nx hn => ?_) ?_
  · walk_at "rl"
    refine ex_sortedK (keys_cv cl) (by rw [List.length_map]; have := hc.l; omega) fun ds hp hs => ⟨_, rfl, ?_⟩
    refine for_inv (fun rest δ m' => ∃ cs : List Nat, rest = strD (cs.map sg) ∧ (∀ c ∈ cs, c ∈ cl.map (·.1)) ∧ LeafSt ha hb m tk gv cl kd (11 - 2 * cs.length) δ m' ∧ cs.length ≤ 4) ?_ ?_ ⟨ds, rfl, fun c h => hp.mem_iff.mp h, ⟨p, bs, _, rfl, O, hbs, ?_, R1, X1⟩, ?_⟩
    · rintro d rest δ m2 ⟨cs, e, hcs, ⟨p, bs, o, rfl, O, hbs, hl, R1, X1⟩, h4⟩ nx2 hnx
      cases cs with
      | nil => cases e
      | cons c cs =>
        simp only [strD, List.map_cons] at e
        injection e with e1 e2
        subst e1
        obtain ⟨k, hk, hm⟩ := lk_mem (hcs c List.mem_cons_self)
        have hl2 : bs.length ≤ 11 - 2 * (cs.length + 1) := hl
        have h42 : cs.length + 1 ≤ 4 := h4
        walk_at "rl"
        rw [hk]
        walk_at "rl"
        split
        · rename_i e
          refine ex_addM O.at_ (by rw [List.length_map]; exact szl (by simp; omega)) fun p' hp' => hnx _ _ ⟨cs, e2, fun x hx => hcs x (List.mem_cons_of_mem _ hx), ⟨p', bs ++ [Bd.cel c, .cel c], _, rfl, ?_, ?_, by rw [List.length_append]; simp only [List.length_cons, List.length_nil]; omega, R1.put hp', X1.trans (Ext.put hp')⟩, by omega⟩
          · have := Own.new (ds := (bs ++ [Bd.cel c, .cel c]).map Bd.enc) X1 R1 hp'
            simpa [Bd.enc] using this
          · intro b hb
            rcases List.mem_append.mp hb with h | h
            · exact hbs b h
            · have : b = .cel c := by simpa using h
              subst this
              exact ⟨hc.c _ hm, fun gv => by simp [Bd.kind, hk, e], rfl, rfl⟩
        · exact hnx _ _ ⟨cs, e2, fun x hx => hcs x (List.mem_cons_of_mem _ hx), ⟨p, bs, _, rfl, O, hbs, by omega, R1, X1⟩, by omega⟩
    · rintro δ m2 ⟨cs, e, hcs, ⟨p, bs, o, rfl, O, hbs, hl, R1, X1⟩, h4⟩
      exact hn _ _ ⟨p, bs, _, rfl, O, hbs, by omega, R1, X1⟩
    · have := hp.length_eq
      rw [List.length_map] at this
      have := hc.l
      omega
    · have := hp.length_eq
      rw [List.length_map] at this
      have := hc.l
      omega
  clear hl hbs O R1 X1
  rintro _ m1 ⟨p, bs, o, rfl, O, hbs, hl, R1, X1⟩
  have fin : ∀ (b : Bd) (d : D) (m2 : Mu), b.enc = d → LeafOk tk cl kd b → Own ha hb m m2 p (bs.map Bd.enc) → Rg ha hb m2 → Ext ha hb m m2 →
      rhoAppend (.ref p) [d] m2 fun _ m3 => rcLen [.ref p] m3 fun x m4 => sp_next [.ref ha, x] m4 fun y m5 => rhoIx (.ref p) y m5 (Fz Q) := by
    intro b _ m2 rfl hb2 O R2 X2
    refine ex_appendM O.at_ (by rw [List.length_map]; exact szlt (by omega)) ?_
    have e1 : bs.map Bd.enc ++ [b.enc] = (bs ++ [b]).map Bd.enc := by simp
    rw [e1, ex_len_ref Mu.put_same]
    refine nx (O.rg R2) (by simp; omega) fun r m3 h0 h1 R3 C3 => ?_
    obtain ⟨x, hx, hm⟩ := atI_get h0 h1
    obtain ⟨y, hy, rfl⟩ := List.mem_map.mp hm
    have O3 := (O.put (es := (bs ++ [b]).map Bd.enc)).ch C3
    rw [ex_ix_ref O3.at_]
    refine ⟨_, hx, fzx R3 ((X2.over O.n).trans C3.ext) fun m6 => q y m6 ?_⟩
    rcases List.mem_append.mp hy with h | h
    · exact hbs y h
    · have : y = b := by simpa using h
      subst this
      exact hb2
  cases kd with
  | n =>
    walk_at "rl"
    refine ⟨lst_ref O.at_, nx R1 (by omega) fun r1 m2 a1 b1 R2 C2 => ?_⟩
    walk_at "rl"
    refine nx R2 (by omega) fun r2 m3 a2 b2 R3 C3 => ?_
    walk_at "rl"
    refine nx R3 (by omega) fun r3 m4 a3 b3 R4 C4 => ?_
    have C := (C2.trans C3).trans C4
    rcases lt2 a3 b3 with e | e <;> subst e
    · walk_at "rl"
      exact fin (.num (r1 - 3)) _ m4 rfl ⟨⟨by omega, by omega⟩, fun gv => rfl, rfl, rfl⟩ (O.ch C) R4 (X1.trans C.ext)
    · walk_at "rl"
      exact fin (.num (r2 - 99)) _ m4 rfl ⟨⟨by omega, by omega⟩, fun gv => rfl, rfl, rfl⟩ (O.ch C) R4 (X1.trans C.ext)
  | t =>
    walk_at "rl"
    refine ⟨lst_ref O.at_, nx R1 (by omega) fun r1 m2 a1 b1 R2 C2 => ?_⟩
    rw [ex_eq_int]
    exact fin (.tru _) _ m2 rfl ⟨trivial, fun gv => rfl, rfl, rfl⟩ (O.ch C2) R2 (X1.trans C2.ext)
  | l =>
    walk_at "rl"
    exact ⟨lst_ref O.at_, fin .emp _ m1 rfl ⟨trivial, fun gv => rfl, rfl, rfl⟩ O R1 X1⟩
end K16
/-! the generator of bodies, by depth. -/
namespace K16
open PySem PySem.Spec PyProof.Rows L2 L3
variable {P : Program} {w : World} {K : PySem.W.Frag} {mg : Str → Option Value} {base : Heap}
theorem env_takes {tk : Kd} {gv : Gv} {cl : Cv} {m : Mu} {Q : EK} : rhoIx (envE tk gv cl) (.str "takes") m Q = Q (.str tk.s) m := by
  unfold envE; rw [ex_ix_dcts]; simp [getK_cons, ofs_inj]
theorem env_deeds {tk : Kd} {gv : Gv} {cl : Cv} {m : Mu} {Q : EK} : rhoIx (envE tk gv cl) (.str "deeds") m Q = Q (.dct (gvD gv)) m := by
  unfold envE; rw [ex_ix_dcts]; simp [getK_cons, ofs_inj]
theorem env_cells {tk : Kd} {gv : Gv} {cl : Cv} {m : Mu} {Q : EK} : rhoIx (envE tk gv cl) (.str "cells") m Q = Q (.dct (cvD cl)) m := by
  unfold envE; rw [ex_ix_dcts]; simp [getK_cons, ofs_inj]
local macro_rules | `(tactic| walk_at "rl") => `(tactic| simp only [ exists_eq', aDisp, aDispW, pairsD, ex_disp, dkOf, dctOf_dct, getK_nil, putD_nil, putD_cons, mergeD_nil, mergeD_cons, inD_nil, inD_cons, eqD_str, fl_str, List.all_cons, all_fl_nil, Bool.and_true, Bool.or_false, Bool.false_or, Bool.true_or, Bool.or_true, Bool.and_self, Bool.false_bne, Bool.false_xor, Bool.true_xor, atI_4, lcStep, env_takes, env_deeds, env_cells, aLM, aLstM, ex_in_tup, getK_nil, getK_cons, getK_cv, getK_gv, keyD_str, ex_in_dcts, ex_ix_dcts, Kd.s_inj, Kd.s_t, Kd.s_n, Kd.s_l, Kd.s_ne, Option.map_some, Option.map_none, Sum.inr.injEq, ex_mul_lst, Int.reduceToNat, Nat.reduceMul, Nat.reduceLeDiff, List.flatten_cons, List.flatten_nil, aRet, aRetN, aDrop, aIfS, aSeq, aNext, aAsg, gNm, gTupD, gConsD, gNilD, aFor, ex_var0, ex_varS, aC, aOp, aCall, aCons, aNil, aTup, aLst, aB, aAnd, aOr, aNot, aAndV, aOrV, aNotV, aIf, aNeg, aChain, aKix, aKGet1, aKGet2, aDGet1, aDGet2, aNoPart, aPart, aSl, aList, aTupI, aStrI, aZipS, aYes, aLc, aNever, aBreak, aCont, forGo, lcGo,
  isi_str_str, isi_str_int, isi_str_bool, isi_str_tuple, isi_str_list, isi_int_str, isi_int_int, isi_int_bool, isi_int_tuple, isi_int_list, isi_bl_str, isi_bl_int, isi_bl_bool, isi_bl_tuple, isi_bl_list, isi_non_str, isi_non_int, isi_non_bool, isi_non_tuple, isi_non_list, isi_tup_str, isi_tup_int, isi_tup_bool, isi_tup_tuple, isi_tup_list, isi_lst_str, isi_lst_int, isi_lst_bool, isi_lst_tuple, isi_lst_list, isi_dct_str, isi_dct_int, isi_dct_bool, isi_dct_tuple, isi_dct_list, isi2_str, isi2_int, isi2_bl, isi2_non, isi2_tup, isi2_lst, isi2_dct, Option.getD_some, Option.getD_none, D.isNon, sz_0, sz_1, sz_2, sz_3, sz_4, sz_5, sz_6, sz_7, sz_8, sz_9, sz_10, sz_11, sz_12, sz_13, sz_14, sz_15, sz_16, sg_len, ex_in_sg, ex_len_str, ex_len_tup, ex_len_lst, ex_eq_str, ex_ne_str, ex_eq_int, ex_ne_int, ex_eq_ns, ex_eq_sn, ex_eq_nn, ex_ne_ns, ex_ne_sn, ex_ne_nn, ex_I, ex_add_int, ex_add_str, ex_add_tup, ex_add_lst, ex_sub, ex_mul, ex_mod, ex_div, ex_isN, ex_notN, ex_ix_tup, ex_ix_lst, ex_sl_tup, ex_sl_lst, ex_sl_str, ex_tuple_lst,
  ofs_inj, String.reduceEq, atI_0, atI_1, atI_2, atI_3, cut_1, cut_13, startD, wipeD, List.map_cons, List.map_nil, List.length_cons, List.length_nil, List.cons_append, List.nil_append, List.replicate_succ, List.replicate_zero, List.set_cons_zero, List.set_cons_succ, Nat.reduceAdd, Nat.reduceSub, Nat.sub_self,
  D.bl.injEq, D.int.injEq, D.str.injEq, D.tup.injEq, D.lst.injEq, D.dct.injEq, Option.some.injEq, List.cons.injEq, and_assoc, Int.cast_ofNat_Int, Int.reduceAdd, Int.reduceSub, Int.reduceMul, Int.reduceNeg, Int.reduceEq, Int.reduceLT, Int.reduceLE, Int.reduceNe, eq_self, exists_eq_left, exists_eq_left', exists_eq_right, exists_eq, exists_const, exists_false, false_and, and_false, false_or, or_false, true_and, and_true, if_true, if_false, Bool.false_eq_true, Bool.not_true, Bool.not_false, ite_true, ite_false, reduceCtorEq, decide_true, decide_false, decide_eq_true_eq, exists_and_left, Bool.not_eq_true])

/-- deep < n -/
def sp_body (n : Nat) : SpD := fun ds m Q => ∃ ha hb tk gv cl kd, ∃ (i : Int) (d : Nat), ds = [.ref ha, envE tk gv cl, .str kd.s, .int i] ∧ i = d ∧ d + 1 ≤ n ∧ Rg ha hb m ∧ CvOk cl ∧ GvOk gv ∧ ∀ b m', BodyOk tk gv cl kd d b → Rg ha hb m' → Ch ha hb m m' → Q b.enc m'
/-- deep ≤ n, which isn't 0 -/
def sp_call (n : Nat) : SpD := fun ds m Q => ∃ ha hb tk gv cl kd, ∃ (i : Int) (d : Nat), ds = [.ref ha, envE tk gv cl, .str kd.s, .int i] ∧ i = (d + 1 : Nat) ∧ d + 1 ≤ n ∧ Rg ha hb m ∧ CvOk cl ∧ GvOk gv ∧ ∀ b m', BodyOk tk gv cl kd (d + 1) b → Rg ha hb m' → Ch ha hb m m' → Q b.enc m'
/-- deep < n -/
def sp_reckons (n : Nat) : SpD := fun ds m Q => ∃ ha hb tk gv cl kd, ∃ (i : Int) (d : Nat), ds = [.ref ha, envE tk gv cl, .str kd.s, .int i] ∧ i = d ∧ d + 1 ≤ n ∧ Rg ha hb m ∧ CvOk cl ∧ GvOk gv ∧ ∀ b m', BodyOk tk gv cl kd (d + 1) b → Rg ha hb m' → Ch ha hb m m' → Q b.enc m'
theorem F_call {k : Nat} (T : Txt K w mg) (n : Nat) (F : FnD P w K mg base "_law_body" k (sp_body n)) : FnD P w K mg base "_law_call" (k + 3) (sp_call n) := by
  have nd := sc__law_call.nd
  refine fnd_ofZ T.d__law_call sc__law_call (fun ds m Q ⟨_, _, _, _, _, _, _, _, e, _⟩ => by rw [e]; rfl) fun f cdv A outer s H E hr => ⟨_, (ass_cons (as_setLc (i := 4) (own := [("_law_deed", 6)]) rfl nd rfl rfl (sw_true rfl rfl rfl (by decide +kernel)) (ai_list (ae_callB cr_sorted T.b_sorted boot_sorted (aa_cons (ae_ix hr.u1 (ae_var 1) ae_str) aa_nil))) (blkOk_by (own := [("_law_deed", 6)]) (by kernel_rfl)) (gg_name (i := 6) (by simp)) (fun _ _ _ _ _ => (pg_name (i := 6) nd rfl (Or.inl rfl))) (fun _ _ _ _ _ => (ats_one (at_cmp (or_eq hr.units) (ae_ix hr.u1 (ae_ix hr.u1 (ae_ix hr.u1 (ae_var 1) ae_str) (ae_var 6)) ae_int) (ae_var 2) (nomark _)))) (fun _ _ _ _ _ => (ae_var 6)))
      (ass_cons (as_setLc (i := 5) (own := [("_law_cell", 7)]) rfl nd rfl rfl (sw_true rfl rfl rfl (by decide +kernel)) (ai_list (ae_callB cr_sorted T.b_sorted boot_sorted (aa_cons (ae_ix hr.u1 (ae_var 1) ae_str) aa_nil))) (blkOk_by (own := [("_law_cell", 7)]) (by kernel_rfl)) (gg_name (i := 7) (by simp)) (fun _ _ _ _ _ => (pg_name (i := 7) nd rfl (Or.inl rfl))) (fun _ _ _ _ _ => (ats_one (at_cmp (or_eq hr.units) (ae_ix hr.u1 (ae_ix hr.u1 (ae_var 1) ae_str) (ae_var 7)) (ae_var 2) (nomark _)))) (fun _ _ _ _ _ => (ae_var 7)))
      (ass_cons (as_if (AW.t (aw_and (at_cmp (or_ne hr.units) (ae_var 4) (ae_lst aa_nil) (nomark _)) (aw_and1 (at_cmp or_gt (ae_call ((F__law_next T).mono (by omega)) hr (aa_cons (ae_var 0) (aa_cons ae_int aa_nil))) ae_int (nomark _))))) (ass_cons (as_asg (ae_ix hr.u1 (ae_var 4) (ae_call ((F__law_next T).mono (by omega)) hr (aa_cons (ae_var 0) (aa_cons (ae_callB cr_len T.b_len boot_len (aa_cons (ae_var 4) aa_nil)) aa_nil)))) (ag_name 6 nd))
      (ass_one (as_ret (ae_tup (aa_cons ae_str (aa_cons (ae_var 6) (aa_cons (ae_call (F.mono (by omega)) hr (aa_cons (ae_var 0) (aa_cons (ae_var 1) (aa_cons (ae_ix hr.u1 (ae_ix hr.u1 (ae_ix hr.u1 (ae_var 1) ae_str) (ae_var 6)) ae_int) (aa_cons (ae_op or_sub (ae_var 3) ae_int) aa_nil))))) aa_nil))))))) ass_nil)
      (ass_cons (as_if (at_cmp (or_ne hr.units) (ae_var 5) (ae_lst aa_nil) (nomark _)) (ass_one (as_ret (ae_tup (aa_cons ae_str (aa_cons (ae_ix hr.u1 (ae_var 5) (ae_call ((F__law_next T).mono (by omega)) hr (aa_cons (ae_var 0) (aa_cons (ae_callB cr_len T.b_len boot_len (aa_cons (ae_var 5) aa_nil)) aa_nil)))) (aa_cons (ae_call (F.mono (by omega)) hr (aa_cons (ae_var 0) (aa_cons (ae_var 1) (aa_cons (ae_var 2) (aa_cons (ae_op or_sub (ae_var 3) ae_int) aa_nil))))) aa_nil)))))) ass_nil)
      (ass_one (as_ret (ae_call ((F__law_leaf T).mono (by omega)) hr (aa_cons (ae_var 0) (aa_cons (ae_var 1) (aa_cons (ae_var 2) aa_nil)))))))))), ?_⟩
  rintro _ m Q ⟨ha, hb, tk, gv, cl, kd, i, d, rfl, hi, hd, R, hc, hg, q⟩
  walk_at "rl"
  refine ex_sortedK (keys_gv gv) (by rw [List.length_map]; have := hg.l; omega) fun ds hp hs => ⟨_, rfl, szl (by have := hp.length_eq; have := hg.l; simp [strD] at *; omega), ?_⟩
  have mg : ∀ c ∈ ds, ∃ p, lk gv c = some p ∧ deedC c := fun c h => by
    obtain ⟨p, h1, h2⟩ := lk_mem (hp.mem_iff.mp h)
    exact ⟨p, h1, hg.c _ h2⟩
  refine lc_sg (fun c => decide ((lk gv c).map (·.2) = some kd)) (fun c hcc R r => ?_) ?_
  · obtain ⟨p, h1, _⟩ := mg c hcc
    rw [h1] at r
    walk_at "rl"
    rw [h1]
    walk_at "rl"
    by_cases e : p.2 = kd
    · simpa [e] using r
    · simpa [e] using r
  walk_at "rl"
  refine ex_sortedK (keys_cv cl) (by rw [List.length_map]; have := hc.l; omega) fun es hp2 hs2 => ⟨_, rfl, szl (by have := hp2.length_eq; have := hc.l; simp [strD] at *; omega), ?_⟩
  have mc : ∀ c ∈ es, ∃ p, lk cl c = some p ∧ cellC c := fun c h => by
    obtain ⟨p, h1, h2⟩ := lk_mem (hp2.mem_iff.mp h)
    exact ⟨p, h1, hc.c _ h2⟩
  refine lc_sg (fun c => decide (lk cl c = some kd)) (fun c hcc R r => ?_) ?_
  · obtain ⟨p, h1, _⟩ := mc c hcc
    rw [h1] at r
    walk_at "rl"
    rw [h1]
    walk_at "rl"
    by_cases e : p = kd
    · simpa [e] using r
    · simpa [e] using r
  generalize hfs : es.filter (fun c => decide (lk cl c = some kd)) = fs
  generalize hgs : ds.filter (fun c => decide ((lk gv c).map (·.2) = some kd)) = gs
  have mfs : ∀ c ∈ fs, lk cl c = some kd ∧ cellC c := fun c h => by
    rw [← hfs, List.mem_filter] at h
    obtain ⟨p, h1, h2⟩ := mc c h.1
    exact ⟨by simpa using h.2, h2⟩
  have mgs : ∀ c ∈ gs, (∃ j, lk gv c = some (j, kd)) ∧ deedC c := fun c h => by
    rw [← hgs, List.mem_filter] at h
    obtain ⟨p, h1, h2⟩ := mg c h.1
    have h3 := h.2
    rw [h1] at h3
    simp at h3
    subst h3
    exact ⟨⟨p.1, h1⟩, h2⟩
  have lfs : fs.length ≤ 4 := by
    rw [← hfs]
    have := List.length_filter_le (fun c => decide (lk cl c = some kd)) es
    have := hp2.length_eq
    have := hc.l
    simp at *
    omega
  have lgs : gs.length ≤ 8 := by
    rw [← hgs]
    have := List.length_filter_le (fun c => decide ((lk gv c).map (·.2) = some kd)) ds
    have := hp.length_eq
    have := hg.l
    simp at *
    omega
  rw [ex_ne_nil fun c h => deedC.lt (mgs c h).2]
  have B : ∀ (m1 : Mu) (k : Kd) (R : EK), Rg ha hb m1 → (∀ b m', L3.BodyOk tk gv cl k d b → Rg ha hb m' → Ch ha hb m1 m' → R b.enc m') → sp_body n [.ref ha, envE tk gv cl, .str k.s, .int (i - 1)] m1 R := fun m1 k Q' R' q' => ⟨ha, hb, tk, gv, cl, k, i - 1, d, rfl, by omega, hd, R', hc, hg, q'⟩
  have tail : ∀ m1 : Mu, Rg ha hb m1 → Ch ha hb m m1 → rhoNe (.lst (strD (fs.map sg))) (D.lst []) m1 fun x m' => ∃ c, x = D.bl c ∧ if c = true then
      rcLen [.lst (strD (fs.map sg))] m' fun x m1 => sp_next [D.ref ha, x] m1 fun y m2 => rhoIx (.lst (strD (fs.map sg))) y m2 fun x m1 => sp_body n [D.ref ha, envE tk gv cl, D.str kd.s, D.int (i - 1)] m1 fun x_1 m1 => Fz Q (D.tup [D.str (Str.ofString "set"), x, x_1]) m1
      else sp_leaf [D.ref ha, envE tk gv cl, D.str kd.s] m' (Fz Q) := by
    intro m1 R1 C1
    rw [ex_ne_nil fun c h => cellC.lt (mfs c h).2]
    by_cases e : fs = []
    · refine ⟨false, by simp [e], ?_⟩
      rw [if_neg (by simp)]
      exact ⟨ha, hb, tk, gv, cl, kd, rfl, R1, hc, fun b m2 hb2 R2 C2 => Fz.now (q b m2 hb2.body R2 (C1.trans C2))⟩
    · refine ⟨true, by simp [e], ?_⟩
      rw [if_pos rfl, ex_len_lst]
      have hl : 0 < fs.length := List.length_pos_iff.mpr e
      have hl2 : (strD (fs.map sg)).length = fs.length := by simp [strD]
      refine nx R1 (by rw [hl2]; omega) fun r m2 h0 h1 R2 C2 => ?_
      obtain ⟨c, hcc, hat⟩ := atI_sg h0 h1
      rw [ex_ix_lst, hat]
      refine ⟨_, rfl, B m2 kd _ R2 fun b m3 hb3 R3 C3 => ?_⟩
      exact Fz.now (q (.set c b) m3 (L3.BodyOk.set hc hb3 (mfs c hcc).1) R3 ((C1.trans C2).trans C3))
  by_cases e : gs = []
  · refine ⟨false, by simp [e], ?_⟩
    rw [if_neg (by simp)]
    exact tail m R (Ch.refl m)
  · refine ⟨true, by simp [e], ?_⟩
    rw [if_pos rfl]
    have hl : 0 < gs.length := List.length_pos_iff.mpr e
    have hl2 : (strD (gs.map sg)).length = gs.length := by simp [strD]
    refine nx R (by omega) fun r m1 h0 h1 R1 C1 => ?_
    simp only [ex_I]
    refine ⟨_, rfl, ?_⟩
    by_cases e2 : 0 < r
    · rw [decide_eq_true e2, if_pos rfl]
      try rw [ex_len_lst]
      refine nx R1 (by rw [hl2]; omega) fun r2 m2 h2 h3 R2 C2 => ?_
      obtain ⟨c, hcc, hat⟩ := atI_sg h2 h3
      obtain ⟨⟨j, hj⟩, _⟩ := mgs c hcc
      rw [ex_ix_lst, hat]
      refine ⟨_, rfl, ?_⟩
      walk_at "rl"
      rw [hj]
      walk_at "rl"
      refine B m2 j _ R2 fun b m3 hb3 R3 C3 => ?_
      exact Fz.now (q (.cal c b) m3 (L3.BodyOk.cal hg hb3 hj) R3 ((C1.trans C2).trans C3))
    · rw [decide_eq_false e2, if_neg (by simp)]
      exact tail m1 R1 C1
theorem F_reckons {k : Nat} (T : Txt K w mg) (n : Nat) (F : FnD P w K mg base "_law_body" k (sp_body n)) : FnD P w K mg base "_law_reckons" (k + 3) (sp_reckons n) := by
  have nd := sc__law_reckons.nd
  refine fnd_ofZ T.d__law_reckons sc__law_reckons (fun ds m Q ⟨_, _, _, _, _, _, _, _, e, _⟩ => by rw [e]; rfl) fun f cdv A outer s H E hr => ⟨_, (ass_cons (as_if (at_cmp (or_eq hr.units) (ae_var 2) ae_str (nomark _)) (ass_cons (as_asg (ae_ix hr.u1 (ae_lst (aa_cons ae_str (aa_cons ae_str aa_nil))) (ae_call ((F__law_next T).mono (by omega)) hr (aa_cons (ae_var 0) (aa_cons ae_int aa_nil)))) (ag_name 4 nd))
      (ass_cons (as_asg (ae_call (F.mono (by omega)) hr (aa_cons (ae_var 0) (aa_cons (ae_var 1) (aa_cons ae_str (aa_cons (ae_var 3) aa_nil))))) (ag_name 5 nd))
      (ass_one (as_ret (ae_if (at_cmp (or_eq hr.units) (ae_var 4) ae_str (nomark _)) (ae_tup (aa_cons (ae_var 4) (aa_cons (ae_call (F.mono (by omega)) hr (aa_cons (ae_var 0) (aa_cons (ae_var 1) (aa_cons ae_str (aa_cons (ae_var 3) aa_nil))))) (aa_cons (ae_var 5) aa_nil)))) (ae_tup (aa_cons (ae_var 4) (aa_cons (ae_var 5) aa_nil)))))))) ass_nil)
      (ass_cons (as_if (at_cmp (or_eq hr.units) (ae_var 2) ae_str (nomark _)) (ass_cons (as_asg (ae_ix hr.u1 (ae_lst (aa_cons ae_str (aa_cons ae_str (aa_cons ae_str (aa_cons ae_str aa_nil))))) (ae_call ((F__law_next T).mono (by omega)) hr (aa_cons (ae_var 0) (aa_cons ae_int aa_nil)))) (ag_name 4 nd))
      (ass_cons (as_asg (ae_dget2 hr.u1 (ae_disp (apps_cons ae_str ae_str (apps_cons ae_str ae_str (apps_cons ae_str ae_str apps_nil)))) (ae_var 4) ae_str) (ag_name 6 nd))
      (ass_cons (as_if (at_cmp (or_eq hr.units) (ae_var 6) ae_str (nomark _)) (ass_one (as_asg (ae_ix hr.u1 (ae_lst (aa_cons ae_str (aa_cons ae_str (aa_cons ae_str aa_nil)))) (ae_call ((F__law_next T).mono (by omega)) hr (aa_cons (ae_var 0) (aa_cons ae_int aa_nil)))) (ag_name 6 nd))) ass_nil)
      (ass_cons (as_asg (ae_call (F.mono (by omega)) hr (aa_cons (ae_var 0) (aa_cons (ae_var 1) (aa_cons (ae_var 6) (aa_cons (ae_var 3) aa_nil))))) (ag_name 7 nd))
      (ass_one (as_ret (ae_if (at_cmp (or_eq hr.units) (ae_var 4) ae_str (nomark _)) (ae_tup (aa_cons (ae_var 4) (aa_cons (ae_var 7) aa_nil))) (ae_tup (aa_cons (ae_var 4) (aa_cons (ae_var 7) (aa_cons (ae_call (F.mono (by omega)) hr (aa_cons (ae_var 0) (aa_cons (ae_var 1) (aa_cons (ae_var 6) (aa_cons (ae_var 3) aa_nil))))) aa_nil))))))))))) ass_nil)
      (ass_cons (as_asg (ae_ix hr.u1 (ae_lst (aa_cons ae_str (aa_cons ae_str (aa_cons ae_str (aa_cons ae_str (aa_cons ae_str aa_nil)))))) (ae_call ((F__law_next T).mono (by omega)) hr (aa_cons (ae_var 0) (aa_cons ae_int aa_nil)))) (ag_name 4 nd))
      (ass_cons (as_if (at_cmp (or_in1 hr.u65) (ae_var 4) (ae_tup (aa_cons ae_str (aa_cons ae_str aa_nil))) (by rfl)) (ass_one (as_ret (ae_tup (aa_cons (ae_var 4) (aa_cons (ae_call (F.mono (by omega)) hr (aa_cons (ae_var 0) (aa_cons (ae_var 1) (aa_cons ae_str (aa_cons (ae_var 3) aa_nil))))) aa_nil))))) ass_nil)
      (ass_one (as_ret (ae_tup (aa_cons (ae_var 4) (aa_cons (ae_call (F.mono (by omega)) hr (aa_cons (ae_var 0) (aa_cons (ae_var 1) (aa_cons ae_str (aa_cons (ae_var 3) aa_nil))))) (aa_cons (ae_call (F.mono (by omega)) hr (aa_cons (ae_var 0) (aa_cons (ae_var 1) (aa_cons ae_str (aa_cons (ae_var 3) aa_nil))))) aa_nil)))))))))), ?_⟩
  rintro _ m Q ⟨ha, hb, tk, gv, cl, kd, i, d, rfl, hi, hd, R, hc, hg, q⟩
  have B : ∀ (m1 : Mu) (k : Kd) (R : EK), Rg ha hb m1 → (∀ b m', BodyOk tk gv cl k d b → Rg ha hb m' → Ch ha hb m1 m' → R b.enc m') → sp_body n [.ref ha, envE tk gv cl, .str k.s, .int i] m1 R := fun m1 k Q' R' q' => ⟨ha, hb, tk, gv, cl, k, i, d, rfl, hi, hd, R', hc, hg, q'⟩
  cases kd with
  | l =>
    walk_at "rl"
    refine nx R (by omega) fun r m1 h0 h1 R1 C1 => ?_
    rcases lt2 h0 h1 with e | e <;> subst e
    · walk_at "rl"
      refine B m1 .l _ R1 fun b1 m2 hb1 R2 C2 => ?_
      try walk_at "rl"
      refine B m2 .n _ R2 fun b2 m3 hb2 R3 C3 => ?_
      exact Fz.now (q (.bin .put b2 b1) m3 (hb2.bin hb1 (by simp [W2.kind])) R3 ((C1.trans C2).trans C3))
    · walk_at "rl"
      refine B m1 .l _ R1 fun b1 m2 hb1 R2 C2 => ?_
      try walk_at "rl"
      exact Fz.now (q (.un .rst b1) m2 (hb1.un rfl rfl) R2 (C1.trans C2))
  | t =>
    walk_at "rl"
    refine nx R (by omega) fun r m1 h0 h1 R1 C1 => ?_
    rcases lt4 h0 h1 with e | e | e | e <;> subst e
    · walk_at "rl"
      refine B m1 .n _ R1 fun b1 m2 hb1 R2 C2 => ?_
      try walk_at "rl"
      refine B m2 .n _ R2 fun b2 m3 hb2 R3 C3 => ?_
      exact Fz.now (q (.bin .below b1 b2) m3 (hb1.bin hb2 (by simp [W2.kind])) R3 ((C1.trans C2).trans C3))
    · walk_at "rl"
      refine nx R1 (by omega) fun r m1' h0 h1 R1' C1' => ?_
      obtain ⟨k, hk⟩ := drawK h0 h1
      rw [ex_ix_lst]
      refine ⟨_, hk, ?_⟩
      refine B m1' k _ R1' fun b1 m2 hb1 R2 C2 => ?_
      try walk_at "rl"
      refine B m2 k _ R2 fun b2 m3 hb2 R3 C3 => ?_
      exact Fz.now (q (.bin .same b1 b2) m3 (hb1.bin hb2 (by simp [W2.kind])) R3 (((C1.trans C1').trans C2).trans C3))
    · walk_at "rl"
      refine B m1 .t _ R1 fun b1 m2 hb1 R2 C2 => ?_
      try walk_at "rl"
      exact Fz.now (q (.un .nt b1) m2 (hb1.un rfl rfl) R2 (C1.trans C2))
    · walk_at "rl"
      refine B m1 .t _ R1 fun b1 m2 hb1 R2 C2 => ?_
      try walk_at "rl"
      refine B m2 .t _ R2 fun b2 m3 hb2 R3 C3 => ?_
      exact Fz.now (q (.bin .and b1 b2) m3 (hb1.bin hb2 (by simp [W2.kind])) R3 ((C1.trans C2).trans C3))
  | n =>
    walk_at "rl"
    refine nx R (by omega) fun r m1 h0 h1 R1 C1 => ?_
    rcases lt5 h0 h1 with e | e | e | e | e <;> subst e
    · walk_at "rl"
      refine B m1 .n _ R1 fun b1 m2 hb1 R2 C2 => ?_
      try walk_at "rl"
      refine B m2 .n _ R2 fun b2 m3 hb2 R3 C3 => ?_
      exact Fz.now (q (.bin .plus b1 b2) m3 (hb1.bin hb2 (by simp [W2.kind])) R3 ((C1.trans C2).trans C3))
    · walk_at "rl"
      refine B m1 .n _ R1 fun b1 m2 hb1 R2 C2 => ?_
      try walk_at "rl"
      refine B m2 .n _ R2 fun b2 m3 hb2 R3 C3 => ?_
      exact Fz.now (q (.bin .less b1 b2) m3 (hb1.bin hb2 (by simp [W2.kind])) R3 ((C1.trans C2).trans C3))
    · walk_at "rl"
      refine B m1 .n _ R1 fun b1 m2 hb1 R2 C2 => ?_
      try walk_at "rl"
      refine B m2 .n _ R2 fun b2 m3 hb2 R3 C3 => ?_
      exact Fz.now (q (.bin .times b1 b2) m3 (hb1.bin hb2 (by simp [W2.kind])) R3 ((C1.trans C2).trans C3))
    · walk_at "rl"
      refine B m1 .l _ R1 fun b1 m2 hb1 R2 C2 => ?_
      try walk_at "rl"
      exact Fz.now (q (.un .fst b1) m2 (hb1.un rfl rfl) R2 (C1.trans C2))
    · walk_at "rl"
      refine B m1 .l _ R1 fun b1 m2 hb1 R2 C2 => ?_
      try walk_at "rl"
      exact Fz.now (q (.un .many b1) m2 (hb1.un rfl rfl) R2 (C1.trans C2))
/-- deep < n -/
theorem F__law_body (T : Txt K w mg) : ∀ n : Nat, FnD P w K mg base "_law_body" (4 * n + 4) (sp_body n)
  | 0 => fnd_never T.d__law_body sc__law_body fun ds m Q ⟨_, _, _, _, _, _, _, _, _, _, h, _⟩ => by omega
  | n + 1 => by
    have nd := sc__law_body.nd
    have F := F__law_body T n
    have G := F_call T n F
    have Rk := F_reckons T n F
    refine fnd_ofZ T.d__law_body sc__law_body (fun ds m Q ⟨_, _, _, _, _, _, _, _, e, _⟩ => by rw [e]; rfl) fun f cdv A outer s H E hr => ⟨_, (ass_cons (as_asg (ae_call ((F__law_next T).mono (by omega)) hr (aa_cons (ae_var 0) (aa_cons ae_int aa_nil))) (ag_name 4 nd))
      (ass_cons (as_if (AW.t (aw_or (at_cmp (or_eq hr.units) (ae_var 3) ae_int (nomark _)) (aw_or1 (at_cmp or_lt (ae_var 4) ae_int (nomark _))))) (ass_one (as_ret (ae_call ((F__law_leaf T).mono (by omega)) hr (aa_cons (ae_var 0) (aa_cons (ae_var 1) (aa_cons (ae_var 2) aa_nil)))))) ass_nil)
      (ass_cons (as_if (at_cmp or_lt (ae_var 4) ae_int (nomark _)) (ass_one (as_ret (ae_call (G.mono (by omega)) hr (aa_cons (ae_var 0) (aa_cons (ae_var 1) (aa_cons (ae_var 2) (aa_cons (ae_var 3) aa_nil))))))) ass_nil)
      (ass_cons (as_if (at_cmp (or_eq hr.units) (ae_var 4) ae_int (nomark _)) (ass_cons (as_asg (ae_ix hr.u1 (ae_lst (aa_cons ae_str (aa_cons ae_str (aa_cons ae_str aa_nil)))) (ae_call ((F__law_next T).mono (by omega)) hr (aa_cons (ae_var 0) (aa_cons ae_int aa_nil)))) (ag_name 5 nd))
      (ass_one (as_ret (ae_tup (aa_cons ae_str (aa_cons (ae_call (F.mono (by omega)) hr (aa_cons (ae_var 0) (aa_cons (ae_var 1) (aa_cons (ae_var 5) (aa_cons (ae_op or_sub (ae_var 3) ae_int) aa_nil))))) (aa_cons (ae_call (F.mono (by omega)) hr (aa_cons (ae_var 0) (aa_cons (ae_var 1) (aa_cons (ae_var 2) (aa_cons (ae_op or_sub (ae_var 3) ae_int) aa_nil))))) aa_nil))))))) ass_nil)
      (ass_cons (as_if (at_cmp (or_eq hr.units) (ae_var 4) ae_int (nomark _)) (ass_cons (as_asg (ae_lst (aa_cons (ae_call (F.mono (by omega)) hr (aa_cons (ae_var 0) (aa_cons (ae_var 1) (aa_cons (ae_var 2) (aa_cons (ae_op or_sub (ae_var 3) ae_int) aa_nil))))) (aa_cons (ae_call (F.mono (by omega)) hr (aa_cons (ae_var 0) (aa_cons (ae_var 1) (aa_cons (ae_var 2) (aa_cons (ae_op or_sub (ae_var 3) ae_int) aa_nil))))) aa_nil))) (ag_name 6 nd))
      (ass_one (as_ret (ae_tup (aa_cons ae_str (aa_cons (ae_call (F.mono (by omega)) hr (aa_cons (ae_var 0) (aa_cons (ae_var 1) (aa_cons ae_str (aa_cons (ae_op or_sub (ae_var 3) ae_int) aa_nil))))) (aa_cons (ae_ix hr.u1 (ae_var 6) ae_int) (aa_cons (ae_ix hr.u1 (ae_var 6) ae_int) aa_nil)))))))) ass_nil)
      (ass_one (as_ret (ae_call (Rk.mono (by omega)) hr (aa_cons (ae_var 0) (aa_cons (ae_var 1) (aa_cons (ae_var 2) (aa_cons (ae_op or_sub (ae_var 3) ae_int) aa_nil)))))))))))), ?_⟩
    rintro _ m Q ⟨ha, hb, tk, gv, cl, kd, i, d, rfl, hi, hd, R, hc, hg, q⟩
    walk_at "rl"
    refine nx R (by omega) fun r m1 h0 h1 R1 C1 => ?_
    have leaf : ∀ m1 : Mu, Rg ha hb m1 → Ch ha hb m m1 → sp_leaf [.ref ha, envE tk gv cl, .str kd.s] m1 (Fz Q) := fun m1 R1 C1 =>
      ⟨ha, hb, tk, gv, cl, kd, rfl, R1, hc, fun b m2 hb2 R2 C2 => Fz.now (q b m2 hb2.body R2 (C1.trans C2))⟩
    by_cases hd0 : i = 0
    · rw [if_pos hd0]
      exact leaf m1 R1 C1
    rw [if_neg hd0]
    obtain ⟨e, rfl⟩ : ∃ e, d = e + 1 := ⟨d - 1, by omega⟩
    have B : ∀ (m1 : Mu) (k : Kd) (R : EK), Rg ha hb m1 → (∀ b m', L3.BodyOk tk gv cl k e b → Rg ha hb m' → Ch ha hb m1 m' → R b.enc m') → sp_body n [.ref ha, envE tk gv cl, .str k.s, .int (i - 1)] m1 R := fun m1 k Q' R' q' => ⟨ha, hb, tk, gv, cl, k, i - 1, e, rfl, by omega, by omega, R', hc, hg, q'⟩
    have lt : ∀ (x : Int) (m' : Mu) (R : EK), rhoLt (.int r) (.int x) m' R = R (.bl (decide (r < x))) m' := fun x m' R => ex_I
    rw [lt]
    refine ⟨_, rfl, ?_⟩
    by_cases c1 : r < 2
    · rw [decide_eq_true c1, if_pos rfl]
      exact leaf m1 R1 C1
    rw [decide_eq_false c1, if_neg (by simp), lt]
    refine ⟨_, rfl, ?_⟩
    by_cases c2 : r < 4
    · rw [decide_eq_true c2, if_pos rfl]
      exact ⟨ha, hb, tk, gv, cl, kd, i, e, rfl, by omega, by omega, R1, hc, hg, fun b m2 hb2 R2 C2 => Fz.now (q b m2 hb2 R2 (C1.trans C2))⟩
    rw [decide_eq_false c2, if_neg (by simp), ex_eq_int]
    refine ⟨_, rfl, ?_⟩
    by_cases c3 : r = 4
    · rw [decide_eq_true c3, if_pos rfl]
      refine nx R1 (by omega) fun r m1' h0 h1 R1' C1' => ?_
      obtain ⟨k, hk⟩ := drawK h0 h1
      rw [ex_ix_lst]
      refine ⟨_, hk, ?_⟩
      refine B m1' k _ R1' fun b1 m2 hb1 R2 C2 => ?_
      refine B m2 kd _ R2 fun b2 m3 hb2 R3 C3 => ?_
      exact Fz.now (q (.bin .thn b1 b2) m3 (hb1.bin hb2 rfl) R3 (((C1.trans C1').trans C2).trans C3))
    rw [decide_eq_false c3, if_neg (by simp), ex_eq_int]
    refine ⟨_, rfl, ?_⟩
    by_cases c4 : r = 5
    · rw [decide_eq_true c4, if_pos rfl]
      refine B m1 kd _ R1 fun b1 m2 hb1 R2 C2 => ?_
      refine B m2 kd _ R2 fun b2 m3 hb2 R3 C3 => ?_
      refine B m3 .t _ R3 fun b3 m4 hb3 R4 C4 => ?_
      exact Fz.now (q (.ite b3 b1 b2) m4 (hb3.ite hb1 hb2) R4 (((C1.trans C2).trans C3).trans C4))
    rw [decide_eq_false c4, if_neg (by simp)]
    exact ⟨ha, hb, tk, gv, cl, kd, i - 1, e, rfl, by omega, by omega, R1, hc, hg, fun b m2 hb2 R2 C2 => Fz.now (q b m2 hb2 R2 (C1.trans C2))⟩
end K16
/-! the generator of parts. -/
namespace K16
open PySem PySem.Spec PyProof.Rows L2 L3
variable {P : Program} {w : World} {K : PySem.W.Frag} {mg : Str → Option Value} {base : Heap}
def sp_part : SpD := fun ds m Q => ∃ (ha hb : Addr) (nm : Nat) (o : D) (own others : List Nat) (sg : Gv) (cl : Cv), ds = [.ref ha, .str (L3.sg nm), o, .lst (strD (others.map L3.sg)), .dct (gvD sg), .dct (cvD cl)] ∧ lstOf m o = some (strD (own.map L3.sg)) ∧ Rg ha hb m ∧
  partC nm ∧ (own ++ others).Nodup ∧ (own ++ others).length ≤ 8 ∧ (∀ c ∈ own ++ others, c ∈ sg.map (·.1)) ∧ GvOk sg ∧ CvOk cl ∧ (∀ p, o = .ref p → p ≠ ha ∧ p ≠ hb) ∧ ∀ p m', PartOk nm own others sg cl p → Rg ha hb m' → Ch ha hb m m' → Q p.enc m'
local macro_rules | `(tactic| walk_at "rl") => `(tactic| simp only [ aDisp, aDispW, pairsD, ex_disp, dkOf, dctOf_dct, getK_nil, putD_nil, putD_cons, mergeD_nil, mergeD_cons, inD_nil, inD_cons, eqD_str, fl_str, List.all_cons, all_fl_nil, Bool.and_true, Bool.or_false, Bool.false_or, Bool.true_or, Bool.or_true, Bool.and_self, Bool.false_bne, Bool.false_xor, Bool.true_xor, atI_4, lcStep, env_takes, env_deeds, env_cells, aLM, aLstM, ex_in_tup, getK_nil, getK_cons, getK_cv, getK_gv, keyD_str, ex_in_dcts, ex_ix_dcts, Kd.s_inj, Kd.s_t, Kd.s_n, Kd.s_l, Kd.s_ne, Option.map_some, Option.map_none, Sum.inr.injEq, ex_mul_lst, Int.reduceToNat, Nat.reduceMul, Nat.reduceLeDiff, List.flatten_cons, List.flatten_nil, aRet, aRetN, aDrop, aIfS, aSeq, aNext, aAsg, gNm, gTupD, gConsD, gNilD, aFor, ex_var0, ex_varS, aC, aOp, aCall, aCons, aNil, aTup, aLst, aB, aAnd, aOr, aNot, aAndV, aOrV, aNotV, aIf, aNeg, aChain, aKix, aKGet1, aKGet2, aDGet1, aDGet2, aNoPart, aPart, aSl, aList, aTupI, aStrI, aZipS, aYes, aLc, aNever, aBreak, aCont, forGo, lcGo,
  isi_str_str, isi_str_int, isi_str_bool, isi_str_tuple, isi_str_list, isi_int_str, isi_int_int, isi_int_bool, isi_int_tuple, isi_int_list, isi_bl_str, isi_bl_int, isi_bl_bool, isi_bl_tuple, isi_bl_list, isi_non_str, isi_non_int, isi_non_bool, isi_non_tuple, isi_non_list, isi_tup_str, isi_tup_int, isi_tup_bool, isi_tup_tuple, isi_tup_list, isi_lst_str, isi_lst_int, isi_lst_bool, isi_lst_tuple, isi_lst_list, isi_dct_str, isi_dct_int, isi_dct_bool, isi_dct_tuple, isi_dct_list, isi2_str, isi2_int, isi2_bl, isi2_non, isi2_tup, isi2_lst, isi2_dct, Option.getD_some, Option.getD_none, D.isNon, sz_0, sz_1, sz_2, sz_3, sz_4, sz_5, sz_6, sz_7, sz_8, sz_9, sz_10, sz_11, sz_12, sz_13, sz_14, sz_15, sz_16, sg_len, ex_in_sg, ex_len_str, ex_len_tup, ex_len_lst, ex_eq_str, ex_ne_str, ex_eq_int, ex_ne_int, ex_eq_ns, ex_eq_sn, ex_eq_nn, ex_ne_ns, ex_ne_sn, ex_ne_nn, ex_I, ex_add_int, ex_add_str, ex_add_tup, ex_add_lst, ex_sub, ex_mul, ex_mod, ex_div, ex_isN, ex_notN, ex_ix_tup, ex_ix_lst, ex_sl_tup, ex_sl_lst, ex_sl_str, ex_tuple_lst,
  ofs_inj, String.reduceEq, atI_0, atI_1, atI_2, atI_3, cut_1, cut_13, startD, wipeD, List.map_cons, List.map_nil, List.length_cons, List.length_nil, List.cons_append, List.nil_append, List.replicate_succ, List.replicate_zero, List.set_cons_zero, List.set_cons_succ, Nat.reduceAdd, Nat.reduceSub, Nat.sub_self,
  D.bl.injEq, D.int.injEq, D.str.injEq, D.tup.injEq, D.lst.injEq, D.dct.injEq, Option.some.injEq, List.cons.injEq, and_assoc, Int.cast_ofNat_Int, Int.reduceAdd, Int.reduceSub, Int.reduceMul, Int.reduceNeg, Int.reduceEq, Int.reduceLT, Int.reduceLE, Int.reduceNe, eq_self, exists_eq_left, exists_eq_left', exists_eq_right, exists_eq, exists_const, exists_false, false_and, and_false, false_or, or_false, true_and, and_true, if_true, if_false, Bool.false_eq_true, Bool.not_true, Bool.not_false, ite_true, ite_false, reduceCtorEq, decide_true, decide_false, decide_eq_true_eq, exists_and_left, Bool.not_eq_true])

theorem lstOf_put {m : Mu} {p : Addr} {c : Cell} {o : D} {ds : List D} (h : m p = none) (e : lstOf m o = some ds) : lstOf (m.put p c) o = some ds := by
  cases o <;> first | exact e | skip
  rename_i a
  have ne : a ≠ p := fun z => by subst z; simp [lstOf, h] at e
  simpa [lstOf, Mu.put_ne ne] using e
theorem lstOf_ch {m m' : Mu} {ha hb : Addr} {o : D} {ds : List D} (C : Ch ha hb m m') (n : ∀ p, o = .ref p → p ≠ ha ∧ p ≠ hb) (e : lstOf m o = some ds) : lstOf m' o = some ds := by
  cases o <;> first | exact e | skip
  rename_i a
  have ne := n a rfl
  simpa [lstOf, C a ne.1 ne.2] using e
theorem ex_addO {m : Mu} {o : D} {a b : List D} {Q : EK} (h : lstOf m o = some a) (hl : a.length + b.length ≤ sizeLine) (q : Q (.lst (a ++ b)) m) : rhoAdd o (.lst b) m Q := by
  cases o <;> first | exact ⟨a, b, h, rfl, hl, q⟩ | (simp [lstOf] at h; done)
theorem ex_in_sgD {m : Mu} {Q : EK} {b : Bool} {c : Nat} {l : List Nat} : rhoIn b (.str (L3.sg c)) (.lst (sgD l)) m Q = Q (.bl (b ^^ decide (c ∈ l))) m := by
  show rhoIn b (.str (L3.sg c)) (.lst (strD (l.map L3.sg))) m Q = _
  rw [ex_in_lst fl_str (strD_flat _), inD_sg]
theorem F__law_part (T : Txt K w mg) : FnD P w K mg base "_law_part" 24 sp_part := by
  have nd := sc__law_part.nd
  refine fnd_ofZ T.d__law_part sc__law_part (fun ds m Q ⟨_, _, _, _, _, _, _, _, e, _⟩ => by rw [e]; rfl) fun f cdv A outer s H E hr => ⟨_, (ass_cons (as_asg (ae_lstM aa_nil) (ag_name 6 nd))
      (ass_cons (as_asg (ae_lst aa_nil) (ag_name 7 nd))
      (ass_cons (as_asg (ae_lst aa_nil) (ag_name 8 nd))
      (ass_cons (as_asg (ae_callTy cr_dict2 T.b_dict boot_dict (aa_cons (ae_lc (own := [("_law_deed", 10)]) rfl nd (ai_list (ae_op or_add (ae_var 2) (ae_var 3))) (blkOk_by (own := [("_law_deed", 10)]) (by kernel_rfl)) (gg_name (i := 10) (by simp)) (fun _ _ _ _ _ => (pg_name (i := 10) nd rfl (Or.inl rfl))) (fun _ _ _ _ _ => ats_nil) (fun _ _ _ _ _ => (ae_tup (aa_cons (ae_var 10) (aa_cons (ae_ix hr.u1 (ae_var 4) (ae_var 10)) aa_nil))))) aa_nil)) (ag_name 9 nd))
      (ass_cons (as_for PassesOwn.never rfl (ai_list (ae_callB cr_sorted T.b_sorted boot_sorted (aa_cons (ae_var 2) aa_nil))) (ag_name 10 nd)
      (ass_cons (as_asg (ae_disp (apps_cons ae_str (ae_ix hr.u1 (ae_ix hr.u1 (ae_var 4) (ae_var 10)) ae_int) (apps_cons ae_str (ae_var 9) (apps_cons ae_str (ae_var 5) apps_nil)))) (ag_name 13 nd))
      (ass_cons (as_asg (ae_call ((F__law_body T 4).mono (by omega)) hr (aa_cons (ae_var 0) (aa_cons (ae_var 13) (aa_cons (ae_ix hr.u1 (ae_ix hr.u1 (ae_var 4) (ae_var 10)) ae_int) (aa_cons (ae_op or_add ae_int (ae_call ((F__law_next T).mono (by omega)) hr (aa_cons (ae_var 0) (aa_cons ae_int aa_nil)))) aa_nil))))) (ag_name 14 nd))
      (ass_cons (as_expr (ae_lm PySem.F.slot_list_append PySem.F.type_list_append mt_appendD (ae_var 6) (aa_cons (ae_op or_add (ae_op or_add (ae_tup (aa_cons (ae_var 10) aa_nil)) (ae_ix hr.u1 (ae_var 4) (ae_var 10))) (ae_tup (aa_cons (ae_var 14) aa_nil))) aa_nil)))
      (ass_cons (as_asg (ae_op or_add (ae_var 7) (ae_call ((F__law_calls T 10).mono (by omega)) hr (aa_cons (ae_var 14) aa_nil))) (ag_name 7 nd))
      (ass_one (as_asg (ae_op or_add (ae_var 8) (ae_call ((F__law_used T 10).mono (by omega)) hr (aa_cons (ae_var 14) aa_nil))) (ag_name 8 nd))))))))
      (ass_cons (as_setLc (i := 11) (own := [("_law_deed", 10)]) rfl nd rfl rfl (sw_true rfl rfl rfl (by decide +kernel)) (ai_list (ae_callB cr_sorted T.b_sorted boot_sorted (aa_cons (ae_var 3) aa_nil))) (blkOk_by (own := [("_law_deed", 10)]) (by kernel_rfl)) (gg_name (i := 10) (by simp)) (fun _ _ _ _ _ => (pg_name (i := 10) nd rfl (Or.inl rfl))) (fun _ _ _ _ _ => (ats_one (AW.t (aw_or (at_cmp (or_in1 hr.u65) (ae_var 10) (ae_var 7) (by rfl)) (aw_or1 (at_cmp (or_eq hr.units) (ae_call ((F__law_next T).mono (by omega)) hr (aa_cons (ae_var 0) (aa_cons ae_int aa_nil))) ae_int (nomark _))))))) (fun _ _ _ _ _ => (ae_op or_add (ae_tup (aa_cons (ae_var 10) aa_nil)) (ae_ix hr.u1 (ae_var 4) (ae_var 10)))))
      (ass_cons (as_setLc (i := 12) (own := [("_law_cell", 15)]) rfl nd rfl rfl (sw_true rfl rfl rfl (by decide +kernel)) (ai_list (ae_callB cr_sorted T.b_sorted boot_sorted (aa_cons (ae_var 5) aa_nil))) (blkOk_by (own := [("_law_cell", 15)]) (by kernel_rfl)) (gg_name (i := 15) (by simp)) (fun _ _ _ _ _ => (pg_name (i := 15) nd rfl (Or.inl rfl))) (fun _ _ _ _ _ => (ats_one (AW.t (aw_or (at_cmp (or_in1 hr.u65) (ae_var 15) (ae_var 8) (by rfl)) (aw_or1 (at_cmp (or_eq hr.units) (ae_call ((F__law_next T).mono (by omega)) hr (aa_cons (ae_var 0) (aa_cons ae_int aa_nil))) ae_int (nomark _))))))) (fun _ _ _ _ _ => (ae_tup (aa_cons (ae_var 15) (aa_cons (ae_ix hr.u1 (ae_var 5) (ae_var 15)) aa_nil)))))
      (ass_one (as_ret (ae_tup (aa_cons (ae_var 1) (aa_cons (ae_callTy cr_tuple T.b_tuple boot_tuple (aa_cons (ae_var 6) aa_nil)) (aa_cons (ae_callTy cr_tuple T.b_tuple boot_tuple (aa_cons (ae_var 11) aa_nil)) (aa_cons (ae_callTy cr_tuple T.b_tuple boot_tuple (aa_cons (ae_var 12) aa_nil)) aa_nil)))))))))))))), ?_⟩
  rintro _ m Q ⟨ha, hb, nm, o, own, others, sg, cl, rfl, ho, R, hnm, hnd, hlen, hkeys, hg, hc, hne, q⟩
  have nd1 := (List.nodup_append.mp hnd).1
  have nd2 := (List.nodup_append.mp hnd).2.1
  have dj := (List.nodup_append.mp hnd).2.2
  have l1 : own.length + others.length ≤ 8 := by simpa using hlen
  have hk : ∀ c ∈ own ++ others, ∃ p, lk sg c = some p ∧ deedC c := fun c h => by
    obtain ⟨p, h1, h2⟩ := lk_mem (hkeys c h)
    exact ⟨p, h1, hg.c _ h2⟩
  walk_at "rl"
  intro p0 hp0
  have ho' : lstOf (m.put p0 (.lst [])) o = some (strD (own.map L3.sg)) := lstOf_put hp0 ho
  refine ex_addO ho' (szl (by simp [strD]; omega)) ?_
  have hk' : ∀ c ∈ own ++ others, ∃ p, lk sg c = some p := fun c h => let ⟨p, h1, _⟩ := hk c h; ⟨p, h1⟩
  rw [strD_app]
  refine ⟨_, rfl, szl (by rw [strD_len]; omega), lc_pure (sigF sg) (fun d hd R r => ?_) ?_⟩
  · obtain ⟨x, hx, rfl⟩ := List.mem_map.mp hd
    obtain ⟨c, hcc, rfl⟩ := List.mem_map.mp hx
    obtain ⟨p, hp⟩ := hk' c hcc
    rw [sigF_sg hp] at r
    walk_at "rl"
    rw [hp]
    walk_at "rl"
    exact r
  rw [sigF_map hk', List.nil_append]
  refine ex_dict2 ?_
  have hks := gvOf_keys hk'
  rw [merge_gv (by rw [hks]; exact hnd)]
  generalize hG : gvOf sg (own ++ others) = G at hks ⊢
  have hGok : GvOk G := ⟨by rw [hks]; exact hnd, by have := congrArg List.length hks; rw [List.length_map] at this; omega, fun a h => by rw [← hG] at h; obtain ⟨p, _, h2⟩ := hk a.1 (gvOf_mem.mp h).1; exact h2⟩
  refine ex_sortedL ho' (by omega) fun ds hp hs => ⟨_, rfl, ?_⟩
  have hr := rsg_of hp nd1 hs
  have hdl : ds.length ≤ 8 := by have := hp.length_eq; omega
  refine for_inv (fun rest δ m' => ∃ (cs : List Nat) (es : List Deed) (ms us : List Nat) (o10 o13 o14 : Option D), rest = strD (cs.map L3.sg) ∧ ds = es.map (·.c) ++ cs ∧ Own ha hb m m' p0 (es.map Deed.enc) ∧ Rg ha hb m' ∧ Ext ha hb m m' ∧
    (∀ d ∈ es, lk sg d.c = some (d.tk, d.tl) ∧ d.b.wf ∧ d.b.kind d.tk G cl = some d.tl ∧ d.b.dep ≤ 4 ∧ d.b.words ≤ 40 ∧ (∀ x ∈ d.b.calls, x ∈ ms) ∧ (∀ x ∈ d.b.used, x ∈ us)) ∧ ms.length ≤ 100 * es.length ∧ us.length ≤ 100 * es.length ∧
    δ = [some (.ref ha), some (.str (L3.sg nm)), some o, some (.lst (strD (others.map L3.sg))), some (.dct (gvD sg)), some (.dct (cvD cl)), some (.ref p0), some (.lst (sgD ms)), some (.lst (sgD us)), some (.dct (gvD G)), o10, none, none, o13, o14, none]) ?_ ?_
    ⟨ds, [], [], [], _, _, _, rfl, rfl, Own.new Ext.refl R hp0, R.put hp0, Ext.put hp0, by simp, by simp, by simp, rfl⟩
  · rintro d rest δ m1 ⟨cs, es, ms, us, o10, o13, o14, e, hds, O, R1, X1, hes, hms, hus, rfl⟩ nx2 hnx
    cases cs with
    | nil => cases e
    | cons c cs =>
      simp only [strD, List.map_cons] at e
      injection e with e1 e2
      subst e1
      have hlen : es.length + cs.length + 1 = ds.length := by rw [hds]; simp; omega
      have hcown : c ∈ own := hp.mem_iff.mp (by rw [hds]; simp)
      obtain ⟨⟨tk, tl⟩, hkc, _⟩ := hk c (List.mem_append.mpr (.inl hcown))
      walk_at "rl"
      rw [hkc]
      walk_at "rl"
      refine nx R1 (by omega) fun r m2 h0 h1 R2 C2 => ?_
      rw [ex_add_int]
      obtain ⟨n, rfl⟩ := Int.eq_ofNat_of_zero_le h0
      refine ⟨ha, hb, tk, G, cl, tl, _, n + 1, rfl, by omega, by omega, R2, hc, hGok, fun b m3 hb3 R3 C3 => ?_⟩
      have wbn : wb (n + 1) ≤ 40 := by
        have : n = 0 ∨ n = 1 ∨ n = 2 := by omega
        rcases this with e | e | e <;> subst e <;> decide
      have O3 := (O.ch C2).ch C3
      have X3 := (X1.trans C2.ext).trans C3.ext
      have hd := hb3.d
      have hw := hb3.w
      walk_at "rl"
      refine ⟨lst_ref O3.at_, ?_⟩
      refine ex_appendM O3.at_ (by rw [List.length_map]; exact szlt (by omega)) ?_
      have O4 := O3.put (es := List.map Deed.enc (es ++ [⟨c, tk, tl, b⟩]))
      rw [show List.map Deed.enc es ++ [D.tup [D.str (L3.sg c), D.str tk.s, D.str tl.s, b.enc]] = List.map Deed.enc (es ++ [⟨c, tk, tl, b⟩]) from by simp [Deed.enc]]
      try walk_at "rl"
      refine ⟨b, rfl, by omega, by omega, fun cc hcc1 hcc2 => ?_⟩
      walk_at "rl"
      refine ⟨szl (by rw [sgD_len, sgD_len]; omega), ?_⟩
      refine ⟨b, rfl, by omega, by omega, ?_⟩
      walk_at "rl"
      have ul := b.used_len
      refine ⟨szl (by rw [sgD_len, sgD_len]; omega), ?_⟩
      refine hnx _ _ ⟨cs, es ++ [⟨c, tk, tl, b⟩], ms ++ cc, us ++ b.used, _, _, _, e2, by rw [hds]; simp, O4, O3.rg R3, X3.over O3.n, ?_, by simp; omega, by simp; omega, by rw [sgD_app, sgD_app]⟩
      intro d hd
      rcases List.mem_append.mp hd with h | h
      · obtain ⟨a1, a2, a3, a4, a5, a6, a7⟩ := hes d h
        exact ⟨a1, a2, a3, a4, a5, fun x hx => List.mem_append.mpr (.inl (a6 x hx)), fun x hx => List.mem_append.mpr (.inl (a7 x hx))⟩
      · have : d = ⟨c, tk, tl, b⟩ := by simpa using h
        subst this
        exact ⟨hkc, hb3.wf, hb3.k, by show b.dep ≤ 4; omega, by show b.words ≤ 40; omega, fun x hx => List.mem_append.mpr (.inr ((hcc1 x).mpr hx)), fun x hx => List.mem_append.mpr (.inr hx)⟩
  · rintro δ m1 ⟨cs, es, ms, us, o10, o13, o14, e, hds, O, R1, X1, hes, hms, hus, rfl⟩
    have : cs = [] := by cases cs with | nil => rfl | cons c cs => cases e
    subst this
    rw [List.append_nil] at hds
    have hel : es.length ≤ 8 := by have := congrArg List.length hds; rw [List.length_map] at this; omega
    walk_at "rl"
    refine ex_sortedL (cs := others) rfl (by omega) fun ds2 hp2 hs2 => ⟨_, rfl, szl (by rw [strD_len]; have := hp2.length_eq; omega), ?_⟩
    have hk2 : ∀ c ∈ ds2, ∃ p, lk sg c = some p := fun c h => hk' c (List.mem_append.mpr (.inr (hp2.mem_iff.mp h)))
    have hl2 : ds2.length ≤ 8 := by have := hp2.length_eq; omega
    refine lc_gen (fun c => ((lk sg c).map fun p => askD (c, p)).getD .non) (fun c => c ∈ ms) R1 (fun c hcc m2 R2 C2 R r1 r2 => ?_) fun ks m2 hsub hmust R2 C2 => ?_
    · obtain ⟨p, hp⟩ := hk2 c hcc
      rw [hp] at r1
      walk_at "rl"
      rw [ex_in_sgD]
      by_cases hm : c ∈ ms
      · rw [decide_eq_true hm]
        walk_at "rl"
        rw [hp]
        walk_at "rl"
        exact r1 m2 R2 (Ch.refl _)
      · rw [decide_eq_false hm]
        walk_at "rl"
        refine nx R2 (by omega) fun r m3 h0 h1 R3 C3 => ?_
        rw [ex_eq_int]
        refine ⟨_, rfl, ?_⟩
        by_cases hr0 : r = 0
        · rw [decide_eq_true hr0]
          walk_at "rl"
          rw [hp]
          walk_at "rl"
          exact r1 m3 R3 C3
        · rw [decide_eq_false hr0]
          walk_at "rl"
          exact r2 m3 hm R3 C3
    have hk3 : ∀ c ∈ ks, ∃ p, lk sg c = some p := fun c h => hk2 c (hsub.subset h)
    have rsg2 : Rsg ks := (rsg_of hp2 nd2 hs2).sublist hsub
    rw [rows_of (sg := sg) (enc := askD) (fun c p h => by rw [h]; rfl) hk3]
    have hls : (gvOf sg ks).length ≤ 8 := by
      have := congrArg List.length (gvOf_keys hk3)
      rw [List.length_map] at this
      have := hsub.length_le
      omega
    refine ex_sortedK (keys_cv cl) (by rw [List.length_map]; have := hc.l; omega) fun ds3 hp3 hs3 => ⟨_, rfl, szl (by rw [strD_len]; have := hp3.length_eq; have := hc.l; rw [List.length_map] at *; omega), ?_⟩
    have hk4 : ∀ c ∈ ds3, ∃ p, lk cl c = some p := fun c h => let ⟨p, h1, _⟩ := lk_mem (hp3.mem_iff.mp h); ⟨p, h1⟩
    refine lc_gen (fun c => ((lk cl c).map fun p => celD (c, p)).getD .non) (fun c => c ∈ us) R2 (fun c hcc m3 R3 C3 R r1 r2 => ?_) fun js m3 hsub3 hmust3 R3 C3 => ?_
    · obtain ⟨p, hp⟩ := hk4 c hcc
      rw [hp] at r1
      walk_at "rl"
      rw [ex_in_sgD]
      by_cases hm : c ∈ us
      · rw [decide_eq_true hm]
        walk_at "rl"
        rw [hp]
        walk_at "rl"
        exact r1 m3 R3 (Ch.refl _)
      · rw [decide_eq_false hm]
        walk_at "rl"
        refine nx R3 (by omega) fun r m4 h0 h1 R4 C4 => ?_
        rw [ex_eq_int]
        refine ⟨_, rfl, ?_⟩
        by_cases hr0 : r = 0
        · rw [decide_eq_true hr0]
          walk_at "rl"
          rw [hp]
          walk_at "rl"
          exact r1 m4 R4 C4
        · rw [decide_eq_false hr0]
          walk_at "rl"
          exact r2 m4 hm R4 C4
    have hk5 : ∀ c ∈ js, ∃ p, lk cl c = some p := fun c h => hk4 c (hsub3.subset h)
    have rsg3 : Rsg js := (rsg_of hp3 hc.nd hs3).sublist hsub3
    rw [rows_of (sg := cl) (enc := celD) (fun c p h => by rw [h]; rfl) hk5]
    have hlj : (gvOf cl js).length ≤ 4 := by
      have h1 := congrArg List.length (gvOf_keys hk5)
      rw [List.length_map] at h1
      have h2 := hsub3.length_le
      have h3 := hp3.length_eq
      have := hc.l
      rw [List.length_map] at h3
      omega
    have O3 := (O.ch C2).ch C3
    rw [ex_tuple_ref O3.at_]
    walk_at "rl"
    refine fzx R3 ((X1.trans C2.ext).trans C3.ext) fun m6 => q ⟨nm, es, gvOf sg ks, gvOf cl js⟩ m6 ?_
    refine PartOk.mk' hnm hnd hlen hk hc hp hr hds.symm (fun d h => ?_) (fun a h => ?_) (by rw [gvOf_keys hk3]; exact rsg2) (fun a h => (gvOf_mem.mp h).2) (by rw [gvOf_keys hk5]; exact rsg3) hlj hls
    · obtain ⟨a1, a2, a3, a4, a5, a6, a7⟩ := hes d h
      refine ⟨a1, a2, by rw [hG]; exact a3, a4, a5, fun x hx ho => ?_, fun x hx => ?_⟩
      · rw [gvOf_keys hk3]
        exact hmust x (hp2.mem_iff.mpr ho) (a6 x hx)
      · rw [gvOf_keys hk5]
        refine hmust3 x (hp3.mem_iff.mpr ?_) (a7 x hx)
        exact (d.b.kind_calls _ a3).2 x hx
    · obtain ⟨h1, h2⟩ := gvOf_mem.mp h
      exact ⟨hp2.mem_iff.mp (hsub.subset h1), h2⟩
end K16
/-! the generator of shelves. -/
namespace K16
open PySem PySem.Spec PyProof.Rows L2 L3
variable {P : Program} {w : World} {K : PySem.W.Frag} {mg : Str → Option Value} {base : Heap}
local macro_rules | `(tactic| walk_at "rl") => `(tactic| simp only [ aDisp, aDispW, pairsD, ex_disp, dkOf, dctOf_dct, getK_nil, putD_nil, putD_cons, mergeD_nil, mergeD_cons, inD_nil, inD_cons, eqD_str, fl_str, List.all_cons, all_fl_nil, Bool.and_true, Bool.or_false, Bool.false_or, Bool.true_or, Bool.or_true, Bool.and_self, Bool.false_bne, Bool.false_xor, Bool.true_xor, atI_4, lcStep, env_takes, env_deeds, env_cells, aLM, aLstM, ex_in_tup, getK_nil, getK_cons, getK_cv, getK_gv, keyD_str, ex_in_dcts, ex_ix_dcts, Kd.s_inj, Kd.s_t, Kd.s_n, Kd.s_l, Kd.s_ne, Option.map_some, Option.map_none, Sum.inr.injEq, ex_mul_lst, Int.reduceToNat, Nat.reduceMul, Nat.reduceLeDiff, List.flatten_cons, List.flatten_nil, aRng1, signs_D, aRet, aRetN, aDrop, aIfS, aSeq, aNext, aAsg, gNm, gTupD, gConsD, gNilD, aFor, ex_var0, ex_varS, aC, aOp, aCall, aCons, aNil, aTup, aLst, aB, aAnd, aOr, aNot, aAndV, aOrV, aNotV, aIf, aNeg, aChain, aKix, aKGet1, aKGet2, aDGet1, aDGet2, aNoPart, aPart, aSl, aList, aTupI, aStrI, aZipS, aYes, aLc, aNever, aBreak, aCont, forGo, lcGo,
  isi_str_str, isi_str_int, isi_str_bool, isi_str_tuple, isi_str_list, isi_int_str, isi_int_int, isi_int_bool, isi_int_tuple, isi_int_list, isi_bl_str, isi_bl_int, isi_bl_bool, isi_bl_tuple, isi_bl_list, isi_non_str, isi_non_int, isi_non_bool, isi_non_tuple, isi_non_list, isi_tup_str, isi_tup_int, isi_tup_bool, isi_tup_tuple, isi_tup_list, isi_lst_str, isi_lst_int, isi_lst_bool, isi_lst_tuple, isi_lst_list, isi_dct_str, isi_dct_int, isi_dct_bool, isi_dct_tuple, isi_dct_list, isi2_str, isi2_int, isi2_bl, isi2_non, isi2_tup, isi2_lst, isi2_dct, Option.getD_some, Option.getD_none, D.isNon, sz_0, sz_1, sz_2, sz_3, sz_4, sz_5, sz_6, sz_7, sz_8, sz_9, sz_10, sz_11, sz_12, sz_13, sz_14, sz_15, sz_16, sg_len, ex_in_sg, ex_len_str, ex_len_tup, ex_len_lst, ex_eq_str, ex_ne_str, ex_eq_int, ex_ne_int, ex_eq_ns, ex_eq_sn, ex_eq_nn, ex_ne_ns, ex_ne_sn, ex_ne_nn, ex_I, ex_add_int, ex_add_str, ex_add_tup, ex_add_lst, ex_sub, ex_mul, ex_mod, ex_div, ex_isN, ex_notN, ex_ix_tup, ex_ix_lst, ex_sl_tup, ex_sl_lst, ex_sl_str, ex_tuple_lst,
  ofs_inj, String.reduceEq, atI_0, atI_1, atI_2, atI_3, cut_1, cut_13, startD, wipeD, List.map_cons, List.map_nil, List.length_cons, List.length_nil, List.cons_append, List.nil_append, List.replicate_succ, List.replicate_zero, List.set_cons_zero, List.set_cons_succ, Nat.reduceAdd, Nat.reduceSub, Nat.sub_self,
  D.bl.injEq, D.int.injEq, D.str.injEq, D.tup.injEq, D.lst.injEq, D.dct.injEq, Option.some.injEq, List.cons.injEq, and_assoc, Int.cast_ofNat_Int, Int.reduceAdd, Int.reduceSub, Int.reduceMul, Int.reduceNeg, Int.reduceEq, Int.reduceLT, Int.reduceLE, Int.reduceNe, eq_self, exists_eq_left, exists_eq_left', exists_eq_right, exists_eq, exists_const, exists_false, false_and, and_false, false_or, or_false, true_and, and_true, if_true, if_false, Bool.false_eq_true, Bool.not_true, Bool.not_false, ite_true, ite_false, reduceCtorEq, decide_true, decide_false, decide_eq_true_eq, exists_and_left, Bool.not_eq_true])

theorem kinds_ix {r : Int} {m : Mu} {Q : EK} (h0 : 0 ≤ r) (h1 : r < 3) (q : ∀ k : Kd, Q (.str k.s) m) : rhoIx (.lst [.str "number", .str "truth", .str "list"]) (.int r) m Q := by
  obtain ⟨k, hk⟩ := drawK h0 h1
  rw [ex_ix_lst]
  exact ⟨_, hk, q k⟩
def sp_shelf : SpD := fun ds m Q => ∃ (ha hb : Addr), ds = [.ref ha] ∧ Rg ha hb m ∧ ∀ sg cl ps m', ShelfOk sg cl ps → Rg ha hb m' → Ch ha hb m m' → Q (.lst (ps.map Part.enc)) m'
theorem F__law_shelf (T : Txt K w mg) : FnD P w K mg base "_law_shelf" 25 sp_shelf := by
  have nd := sc__law_shelf.nd
  refine fnd_ofZ T.d__law_shelf sc__law_shelf (fun ds m Q ⟨_, _, e, _⟩ => by rw [e]; rfl) fun f cdv A outer s H E hr => ⟨_, (ass_cons (as_asg (ae_lst (aa_cons ae_str (aa_cons ae_str (aa_cons ae_str aa_nil)))) (ag_name 1 nd))
      (ass_cons (as_asg (ae_callTy cr_dict2 T.b_dict boot_dict (aa_cons (ae_lc (own := [("_law_deed", 6)]) rfl nd (ai_str ae_str) (blkOk_by (own := [("_law_deed", 6)]) (by kernel_rfl)) (gg_name (i := 6) (by simp)) (fun _ _ _ _ _ => (pg_name (i := 6) nd rfl (Or.inl rfl))) (fun _ _ _ _ _ => ats_nil) (fun _ _ _ _ _ => (ae_tup (aa_cons (ae_var 6) (aa_cons (ae_tup (aa_cons (ae_ix hr.u1 (ae_var 1) (ae_call ((F__law_next T).mono (by omega)) hr (aa_cons (ae_var 0) (aa_cons ae_int aa_nil)))) (aa_cons (ae_ix hr.u1 (ae_var 1) (ae_call ((F__law_next T).mono (by omega)) hr (aa_cons (ae_var 0) (aa_cons ae_int aa_nil)))) aa_nil))) aa_nil))))) aa_nil)) (ag_name 2 nd))
      (ass_cons (as_asg (ae_callTy cr_dict2 T.b_dict boot_dict (aa_cons (ae_lc (own := [("_law_cell", 13)]) rfl nd (ai_str ae_str) (blkOk_by (own := [("_law_cell", 13)]) (by kernel_rfl)) (gg_name (i := 13) (by simp)) (fun _ _ _ _ _ => (pg_name (i := 13) nd rfl (Or.inl rfl))) (fun _ _ _ _ _ => ats_nil) (fun _ _ _ _ _ => (ae_tup (aa_cons (ae_var 13) (aa_cons (ae_ix hr.u1 (ae_var 1) (ae_call ((F__law_next T).mono (by omega)) hr (aa_cons (ae_var 0) (aa_cons ae_int aa_nil)))) aa_nil))))) aa_nil)) (ag_name 3 nd))
      (ass_cons (as_asg (ae_op or_add ae_int (ae_call ((F__law_next T).mono (by omega)) hr (aa_cons (ae_var 0) (aa_cons (ae_ix hr.u1 (ae_lst (aa_cons ae_int (aa_cons ae_int aa_nil))) (ae_call ((F__law_next T).mono (by omega)) hr (aa_cons (ae_var 0) (aa_cons ae_int aa_nil)))) aa_nil)))) (ag_name 4 nd))
      (ass_cons (as_asg (ae_lc (own := [("_law_k", 10)]) rfl nd (ai_rng1 T.b_range (aa_cons (ae_var 4) aa_nil)) (blkOk_by (own := [("_law_k", 10)]) (by kernel_rfl)) (gg_name (i := 10) (by simp)) (fun _ _ _ _ _ => (pg_name (i := 10) nd rfl (Or.inl rfl))) (fun _ _ _ _ _ => ats_nil) (fun _ _ _ _ _ => (ae_lstM aa_nil))) (ag_name 5 nd))
      (ass_cons (as_for PassesOwn.never rfl (ai_str (ae_sl ae_str ao_none (ao_some (ae_op or_add ae_int (ae_call ((F__law_next T).mono (by omega)) hr (aa_cons (ae_var 0) (aa_cons ae_int aa_nil))))))) (ag_name 6 nd)
      (ass_one (as_for PassesOwn.never rfl (ai_rng1 T.b_range (aa_cons (ae_ix hr.u1 (ae_lst (aa_cons ae_int (aa_cons ae_int (aa_cons ae_int (aa_cons ae_int aa_nil))))) (ae_call ((F__law_next T).mono (by omega)) hr (aa_cons (ae_var 0) (aa_cons ae_int aa_nil)))) aa_nil)) (ag_name 11 nd)
      (ass_cons (as_asg (ae_call ((F__law_next T).mono (by omega)) hr (aa_cons (ae_var 0) (aa_cons (ae_var 4) aa_nil))) (ag_name 10 nd))
      (ass_one (as_if (AW.t (aw_and (at_cmp (or_nin hr.u65) (ae_var 6) (ae_ix hr.u1 (ae_var 5) (ae_var 10)) (by rfl)) (aw_and1 (at_cmp or_lt (ae_callB cr_len T.b_len boot_len (aa_cons (ae_ix hr.u1 (ae_var 5) (ae_var 10)) aa_nil)) ae_int (nomark _))))) (ass_one (as_expr (ae_lm PySem.F.slot_list_append PySem.F.type_list_append mt_appendD (ae_ix hr.u1 (ae_var 5) (ae_var 10)) (aa_cons (ae_var 6) aa_nil)))) ass_nil))))))
      (ass_gh (ass_cons (as_asg (ae_lst aa_nil) (ag_name 7 nd))
      (ass_cons (as_for PassesOwn.never rfl (ai_list (ae_var 5)) (ag_name 8 nd)
      (ass_one (as_asg (ae_op or_add (ae_var 7) (ae_lc (own := [("_law_deed", 6)]) rfl nd (ai_list (ae_var 8)) (blkOk_by (own := [("_law_deed", 6)]) (by kernel_rfl)) (gg_name (i := 6) (by simp)) (fun _ _ _ _ _ => (pg_name (i := 6) nd rfl (Or.inl rfl))) (fun _ _ _ _ _ => (ats_one (at_cmp (or_nin hr.u65) (ae_var 6) (ae_var 7) (by rfl)))) (fun _ _ _ _ _ => (ae_var 6)))) (ag_name 7 nd))))
      (ass_cons (as_asg (ae_lstM aa_nil) (ag_name 9 nd))
      (ass_cons (as_for PassesOwn.never rfl (ai_rng1 T.b_range (aa_cons (ae_var 4) aa_nil)) (ag_name 10 nd)
      (ass_cons (as_setLc (i := 12) (own := [("_law_deed", 6)]) rfl nd rfl rfl (sw_true rfl rfl rfl (by decide +kernel)) (ai_list (ae_var 7)) (blkOk_by (own := [("_law_deed", 6)]) (by kernel_rfl)) (gg_name (i := 6) (by simp)) (fun _ _ _ _ _ => (pg_name (i := 6) nd rfl (Or.inl rfl))) (fun _ _ _ _ _ => (ats_one (AW.t (aw_and (at_cmp (or_nin hr.u65) (ae_var 6) (ae_ix hr.u1 (ae_var 5) (ae_var 10)) (by rfl)) (aw_and1 (at_cmp (or_eq hr.units) (ae_call ((F__law_next T).mono (by omega)) hr (aa_cons (ae_var 0) (aa_cons ae_int aa_nil))) ae_int (nomark _))))))) (fun _ _ _ _ _ => (ae_var 6)))
      (ass_one (as_expr (ae_lm PySem.F.slot_list_append PySem.F.type_list_append mt_appendD (ae_var 9) (aa_cons (ae_call ((F__law_part T).mono (by omega)) hr (aa_cons (ae_var 0) (aa_cons (ae_ix hr.u1 ae_str (ae_var 10)) (aa_cons (ae_ix hr.u1 (ae_var 5) (ae_var 10)) (aa_cons (ae_var 12) (aa_cons (ae_var 2) (aa_cons (ae_var 3) aa_nil))))))) aa_nil))))))
      (ass_one (as_ret (ae_var 9)))))))))))))), ?_⟩
  rintro _ m Q ⟨ha, hb, rfl, R, q⟩
  walk_at "rl"
  rw [show (PySem.Str.ofString "abcdefgh").cps.toList = lettersD from cps_deeds]
  refine ⟨szl (by rw [strD_len]; decide), lc_rows (fun p : Nat × (Kd × Kd) => L3.pairD (.inr (L3.sg p.1), .tup [.str p.2.1.s, .str p.2.2.s])) R (fun c hc m1 R1 C1 R' r => ?_) fun sg m1 hsg R1 C1 => ?_⟩
  · walk_at "rl"
    refine nx R1 (by omega) fun r1 m2 a1 b1 R2 C2 => kinds_ix a1 b1 fun k1 => nx R2 (by omega) fun r2 m3 a2 b2 R3 C3 => kinds_ix a2 b2 fun k2 => ?_
    try walk_at "rl"
    exact r (k1, k2) m3 R3 (C2.trans C3)
  have hg := gvOk_of hsg
  rw [show sg.map (fun p : Nat × (Kd × Kd) => L3.pairD (.inr (L3.sg p.1), .tup [.str p.2.1.s, .str p.2.2.s])) = (gvD sg).map L3.pairD from by simp [gvD, Function.comp_def]]
  refine ex_dict2 ?_
  rw [merge_gv hg.nd]
  try walk_at "rl"
  rw [show (PySem.Str.ofString "pqrs").cps.toList = lettersC from cps_cells]
  refine ⟨szl (by rw [strD_len]; decide), lc_rows (fun p : Nat × Kd => L3.pairD (.inr (L3.sg p.1), .str p.2.s)) R1 (fun c hc m1 R1 C1 R' r => ?_) fun cl m2 hcl R2 C2 => ?_⟩
  · walk_at "rl"
    refine nx R1 (by omega) fun r1 m2 a1 b1 R2 C2 => kinds_ix a1 b1 fun k1 => ?_
    try walk_at "rl"
    exact r k1 m2 R2 C2
  have hc := cvOk_of hcl
  rw [show cl.map (fun p : Nat × Kd => L3.pairD (.inr (L3.sg p.1), .str p.2.s)) = (cvD cl).map L3.pairD from by simp [cvD, Function.comp_def]]
  refine ex_dict2 ?_
  rw [merge_cv hc.nd]
  try walk_at "rl"
  refine nx R2 (by omega) fun r1 m3 a1 b1 R3 C3 => ?_
  have n36 : ∀ (R : EK), (∀ n : Int, 3 ≤ n → n ≤ 6 → R (.int n) m3) → rhoIx (.lst [.int 3, .int 6]) (.int r1) m3 R := fun R q => by
    rw [ex_ix_lst]
    rcases lt2 a1 b1 with e | e <;> subst e
    · exact ⟨_, atI_0, q 3 (by decide) (by decide)⟩
    · exact ⟨_, atI_1, q 6 (by decide) (by decide)⟩
  refine n36 _ fun n3 hn3 hn6 => nx R3 (by omega) fun r2 m4 a2 b2 R4 C4 => ?_
  rw [ex_add_int]
  obtain ⟨many, hmany⟩ := Int.eq_ofNat_of_zero_le (show 0 ≤ 1 + r2 by omega)
  rw [hmany]
  have hm1 : 1 ≤ many ∧ many ≤ 6 := by omega
  refine ⟨_, rfl, by omega, by omega, szl (by simp [rngD]; omega), ?_⟩
  rw [Int.toNat_natCast]
  have C14 := ((C1.trans C2).trans C3).trans C4
  refine lc_rng (fun i acc m' => ∃ ps : List Addr, acc = ps.map D.ref ∧ ps.length = i ∧ Ows ha hb m m' ps (List.replicate i []) ∧ Rg ha hb m' ∧ Ext ha hb m m') (fun i acc m' hi ⟨ps, e1, e2, O, R', X'⟩ R hR => ?_) (fun acc m5 ⟨ps, e1, e2, O, R5, X5⟩ => ?_) ⟨[], rfl, rfl, Ows.nil, R4, C14.ext⟩
  · walk_at "rl"
    intro p hp
    refine hR _ _ ⟨ps ++ [p], by rw [e1]; simp, by simp [e2], ?_, R'.put hp, X'.trans (Ext.put hp)⟩
    have := O.add X' R' hp
    rwa [← List.replicate_succ'] at this
  subst e1
  try walk_at "rl"
  refine nx R5 (by omega) fun r3 m6 a3 b3 R6 C6 => ?_
  rw [ex_add_int]
  refine ⟨_, rfl, szl (by decide), ?_⟩
  obtain ⟨nd8, hcut⟩ := cut_deeds a3 b3
  rw [hcut]
  let J : Dt → Mu → Prop := fun δ m' => ∃ (ls : List (List Nat)) (o6 o10 o11 : Option D), δ = [some (.ref ha), some (.lst [.str "number", .str "truth", .str "list"]), some (.dct (gvD sg)), some (.dct (cvD cl)), some (.int many), some (.lst (ps.map D.ref)), o6, none, none, none, o10, o11, none, none] ∧
    Ows ha hb m m' ps ls ∧ (∀ l ∈ ls, l.Nodup ∧ l.length ≤ 4 ∧ ∀ c ∈ l, deedC c) ∧ Rg ha hb m' ∧ Ext ha hb m m'
  refine for_inv (fun rest δ m' => (∃ cs : List Nat, rest = strD (cs.map L3.sg) ∧ ∀ c ∈ cs, deedC c) ∧ J δ m') ?_ ?_ ⟨⟨_, rfl, fun c h => List.mem_of_mem_take h⟩, List.replicate many [], _, _, _, rfl, O.ch C6, fun l h => by rw [List.mem_replicate] at h; rw [h.2]; simp, R6, X5.trans C6.ext⟩
  · rintro d rest δ m7 ⟨⟨cs, e, hcs⟩, ls, o6, o10, o11, rfl, O7, hls, R7, X7⟩ nx2 hnx
    cases cs with
    | nil => cases e
    | cons c cs =>
      simp only [strD, List.map_cons] at e
      injection e with e1 e3
      subst e1
      have hcd := hcs c List.mem_cons_self
      walk_at "rl"
      refine nx R7 (by omega) fun r5 m8 a5 b5 R8 C8 => ?_
      have n12 : ∀ (R : EK), (∀ n : Nat, n ≤ 2 → R (.int n) m8) → rhoIx (.lst [.int 1, .int 1, .int 1, .int 2]) (.int r5) m8 R := fun R q => by
        rw [ex_ix_lst]
        rcases lt4 a5 b5 with e | e | e | e <;> subst e
        · exact ⟨_, atI_0, q 1 (by decide)⟩
        · exact ⟨_, atI_1, q 1 (by decide)⟩
        · exact ⟨_, atI_2, q 1 (by decide)⟩
        · exact ⟨_, atI_3, q 2 (by decide)⟩
      refine n12 _ fun n hn => ⟨_, rfl, by omega, by omega, ?_⟩
      rw [Int.toNat_natCast]
      refine for_rng (fun i δ m' => J δ m' ∧ δ[6]? = some (some (.str (L3.sg c)))) ?_ ?_ ⟨⟨ls, _, _, _, rfl, O7.ch C8, hls, R8, X7.trans C8.ext⟩, rfl⟩
      · rintro i δ m9 hi ⟨⟨ls, o6, o10, o11, rfl, O9, hls, R9, X9⟩, h6⟩ nx3 hnx3
        have h6' : o6 = some (.str (L3.sg c)) := by simpa using h6
        subst h6'
        walk_at "rl"
        refine nx R9 (by omega) fun r6 m10 a6 b6 R10 C10 => ?_
        obtain ⟨k, rfl⟩ := Int.eq_ofNat_of_zero_le a6
        have hk : k < ps.length := by rw [e2]; omega
        have O10 := O9.ch C10
        have X10 := X9.trans C10.ext
        have hkp : ps[k]? = some ps[k] := List.getElem?_eq_getElem hk
        have hkl : k < ls.length := by rw [O10.len]; exact hk
        have hkl' : ls[k]? = some ls[k] := List.getElem?_eq_getElem hkl
        have hat : atI (ps.map D.ref) (k : Int) = some (.ref ps[k]) := atI_nat (by rw [List.getElem?_map, hkp]; rfl)
        have own := O10.at_ k _ _ hkp hkl'
        have hlk := hls ls[k] (List.getElem_mem hkl)
        walk_at "rl"
        refine ⟨_, hat, ?_⟩
        rw [ex_in_ref (l := ls[k]) own.at_]
        refine ⟨_, rfl, ?_⟩
        have skip : ∀ m11 : Mu, m11 = m10 → nx3 [some (.ref ha), some (.lst [.str "number", .str "truth", .str "list"]), some (.dct (gvD sg)), some (.dct (cvD cl)), some (.int many), some (.lst (ps.map D.ref)), some (.str (L3.sg c)), none, none, none, some (.int k), some (.int (0 + (i : Int))), none, none] m11 := fun m11 e => by
          subst e
          exact hnx3 _ _ ⟨⟨ls, _, _, _, rfl, O10, hls, R10, X10⟩, rfl⟩
        by_cases hin : c ∈ ls[k]
        · rw [decide_eq_true hin]
          try walk_at "rl"
          simpa using skip m10 rfl
        · rw [decide_eq_false hin]
          walk_at "rl"
          refine ⟨_, hat, ?_⟩
          rw [ex_len_ref own.at_, strD_len]
          simp only [ex_I]
          refine ⟨_, rfl, ?_⟩
          by_cases h4 : ((ls[k].length : Nat) : Int) < 4
          · rw [decide_eq_true h4]
            try walk_at "rl"
            refine ⟨_, hat, lst_ref own.at_, ?_⟩
            refine ex_appendM own.at_ (by rw [strD_len]; exact szlt (by omega)) ?_
            have O11 := O10.set (l2 := ls[k] ++ [c]) hkp hkl'
            rw [show strD (List.map L3.sg ls[k]) ++ [D.str (L3.sg c)] = strD ((ls[k] ++ [c]).map L3.sg) from by simp [strD]]
            have := hnx3 [some (.ref ha), some (.lst [.str "number", .str "truth", .str "list"]), some (.dct (gvD sg)), some (.dct (cvD cl)), some (.int many), some (.lst (ps.map D.ref)), some (.str (L3.sg c)), none, none, none, some (.int k), some (.int (0 + (i : Int))), none, none] _ ⟨⟨ls.set k (ls[k] ++ [c]), _, _, _, rfl, O11, fun l hl => ?_, own.rg R10, X10.over own.n⟩, rfl⟩
            · simpa using this
            · rcases List.mem_or_eq_of_mem_set hl with h | h
              · exact hls l h
              · subst h
                refine ⟨?_, by rw [List.length_append]; simp; omega, fun x hx => ?_⟩
                · rw [List.nodup_append]
                  exact ⟨hlk.1, by simp, fun a ha b hb e => hin (by simp at hb; subst hb; subst e; exact ha)⟩
                · rcases List.mem_append.mp hx with h | h
                  · exact hlk.2.2 x h
                  · have : x = c := by simpa using h
                    subst this; exact hcd
          · rw [decide_eq_false h4]
            try walk_at "rl"
            simpa using skip m10 rfl
      · rintro δ m9 ⟨hJ, _⟩
        exact hnx _ _ ⟨⟨cs, e3, fun x hx => hcs x (List.mem_cons_of_mem _ hx)⟩, hJ⟩
  · rintro δ m7 ⟨_, ls, o6, o10, o11, rfl, O7, hls, R7, X7⟩
    have hFo := ows_rg O7 R7
    refine ⟨owF ps ls, fun p ds h => (ows_zip O7 h).1, ?_⟩
    have hfha : owF ps ls ha = none := by
      cases e : owF ps ls ha with
      | none => rfl
      | some ds => have := (ows_zip O7 e).2.2.1; exact absurd rfl this
    have R8 := hFo.1
    have X8 := ows_ext O7 R7 X7
    have hrefs : frzs (owF ps ls) (ps.map D.ref) = ls.map lsD := ows_frz O7.len O7.nd _ fun i p l h1 h2 => ows_at O7 h1 h2
    generalize m7.frz (owF ps ls) = m8 at R8 X8 ⊢
    simp only [Dt.frz, List.map_cons, List.map_nil, Option.map_some, Option.map_none, D.frz, hfha, hrefs, frz_gvD, frz_cvD, frzs]
    have hll : ls.length = many := by rw [O7.len, e2]
    generalize Option.map (D.frz (owF ps ls)) o6 = o6
    generalize Option.map (D.frz (owF ps ls)) o10 = o10
    generalize Option.map (D.frz (owF ps ls)) o11 = o11
    clear hrefs hfha hFo O7 R7 X7 O R6 R5 X5
    refine seq_inv (fun δ m' => δ = [some (.ref ha), some (.lst [.str "number", .str "truth", .str "list"]), some (.dct (gvD sg)), some (.dct (cvD cl)), some (.int many), some (.lst (ls.map lsD)), o6, some (.lst []), none, none, o10, o11, none, none] ∧ m' = m8) (fun nx3 hnx => ?_) ?_
    · walk_at "rl"
      exact hnx _ _ ⟨rfl, rfl⟩
    rintro _ m8 ⟨rfl, rfl⟩
    refine seq_inv (fun δ m' => ∃ (es : List Nat) (o6 o8 : Option D), δ = [some (.ref ha), some (.lst [.str "number", .str "truth", .str "list"]), some (.dct (gvD sg)), some (.dct (cvD cl)), some (.int many), some (.lst (ls.map lsD)), o6, some (.lst (strD (es.map L3.sg))), o8, none, o10, o11, none, none] ∧ m' = m8 ∧ es.Nodup ∧ ∀ c ∈ es, ∃ l ∈ ls, c ∈ l) (fun nx3 hnx => ?_) ?_
    · walk_at "rl"
      refine for_inv (fun rest δ m' => ∃ (es : List Nat) (ls2 : List (List Nat)) (o6 o8 : Option D), rest = ls2.map lsD ∧ (∀ l ∈ ls2, l ∈ ls) ∧ δ = [some (.ref ha), some (.lst [.str "number", .str "truth", .str "list"]), some (.dct (gvD sg)), some (.dct (cvD cl)), some (.int many), some (.lst (ls.map lsD)), o6, some (.lst (strD (es.map L3.sg))), o8, none, o10, o11, none, none] ∧ m' = m8 ∧ es.Nodup ∧ (∀ c ∈ es, ∃ l ∈ ls, c ∈ l)) ?_ ?_
        ⟨[], ls, _, _, rfl, fun l h => h, rfl, rfl, List.nodup_nil, fun c h => by cases h⟩
      · rintro d rest δ m9 ⟨es, ls2, o6, o8, e, hsub, rfl, rfl, hnd, hes⟩ nx4 hnx4
        cases ls2 with
        | nil => cases e
        | cons l ls2 =>
          simp only [List.map_cons] at e
          injection e with e1 e3
          subst e1
          have hl := hls l (hsub l List.mem_cons_self)
          have hel : es.length ≤ 8 := deeds_len hnd fun c h => let ⟨l, h1, h2⟩ := hes c h; (hls l h1).2.2 c h2
          rw [show lsD l = .lst (strD (l.map L3.sg)) from rfl]
          walk_at "rl"
          refine ⟨szl (by rw [strD_len]; omega), lc_sg (fun c => !decide (c ∈ es)) (fun c hc R r => ?_) ?_⟩
          · walk_at "rl"
            rw [ex_in_lst fl_str (strD_flat _), inD_sg]
            by_cases h : c ∈ es
            · rw [decide_eq_true h] at r ⊢
              simpa using r
            · rw [decide_eq_false h] at r ⊢
              simpa using r
          · try walk_at "rl"
            have hfl := List.length_filter_le (fun c => !decide (c ∈ es)) l
            refine ⟨szl (by rw [strD_len, strD_len]; omega), ?_⟩
            rw [strD_app]
            have := hnx4 [some (.ref ha), some (.lst [.str "number", .str "truth", .str "list"]), some (.dct (gvD sg)), some (.dct (cvD cl)), some (.int many), some (.lst (ls.map lsD)), o6, some (.lst (strD ((es ++ l.filter fun c => !decide (c ∈ es)).map L3.sg))), some (.lst (strD (l.map L3.sg))), none, o10, o11, none, none] m9
              ⟨es ++ l.filter fun c => !decide (c ∈ es), ls2, _, _, e3, fun x hx => hsub x (List.mem_cons_of_mem _ hx), rfl, rfl, ?_, fun c h => ?_⟩
            · simpa [lsD] using this
            · rw [List.nodup_append]
              refine ⟨hnd, hl.1.filter _, fun a ha b hb e => ?_⟩
              subst e
              have := (List.mem_filter.mp hb).2
              simp at this
              exact this ha
            · rcases List.mem_append.mp h with h | h
              · exact hes c h
              · exact ⟨l, hsub l List.mem_cons_self, (List.mem_filter.mp h).1⟩
      · rintro δ m9 ⟨es, ls2, o6, o8, e, hsub, rfl, rfl, hnd, hes⟩
        exact hnx _ _ ⟨es, _, _, rfl, rfl, hnd, hes⟩
    rintro _ m8 ⟨es, o6, o8, rfl, rfl, hnd, hes⟩
    have hel : es.length ≤ 8 := deeds_len hnd fun c h => let ⟨l, h1, h2⟩ := hes c h; (hls l h1).2.2 c h2
    walk_at "rl"
    intro pf hpf
    refine ⟨by omega, by omega, ?_⟩
    rw [Int.toNat_natCast]
    refine for_rng (fun i δ m' => ∃ (qs : List Part) (o6 o8 o10 o11 o12 o13 : Option D), δ = [some (.ref ha), some (.lst [.str "number", .str "truth", .str "list"]), some (.dct (gvD sg)), some (.dct (cvD cl)), some (.int many), some (.lst (ls.map lsD)), o6, some (.lst (strD (es.map L3.sg))), o8, some (.ref pf), o10, o11, o12, o13] ∧
      qs.length = i ∧ qs.map (·.nm) = lettersP.take i ∧ Own ha hb m m' pf (qs.map Part.enc) ∧ Rg ha hb m' ∧ Ext ha hb m m' ∧ ∀ (j : Nat) (p : Part), qs[j]? = some p → ∃ l, ls[j]? = some l ∧ ∃ others, PartOk p.nm l others sg cl p ∧ ∀ c ∈ others, c ∈ es) ?_ ?_
      ⟨[], o6, o8, o10, o11, _, _, rfl, rfl, rfl, Own.new X8 R8 hpf, R8.put hpf, X8.trans (Ext.put hpf), fun j p h => by have h' : ([] : List Part)[j]? = some p := h; simp at h'⟩
    · rintro i δ m9 hi ⟨qs, o6, o8, o10, o11, o12, o13, rfl, hql, hqn, O9, R9, X9, hqs⟩ nx3 hnx
      have hil : i < ls.length := by omega
      have hli : ls[i]? = some ls[i] := List.getElem?_eq_getElem hil
      have hl := hls ls[i] (List.getElem_mem hil)
      have hat : atI (ls.map lsD) ((0 : Int) + i) = some (lsD ls[i]) := by rw [Int.zero_add]; exact atI_nat (by rw [List.getElem?_map, hli]; rfl)
      walk_at "rl"
      refine ⟨szl (by rw [strD_len]; omega), lc_may (fun c => .str (L3.sg c)) (fun c => c ∉ ls[i]) R9 (fun c hcc m10 R10 C10 R r1 r2 => ?_) fun ks m10 hsub hmay R10 C10 => ?_⟩
      · walk_at "rl"
        refine ⟨_, hat, ?_⟩
        rw [show lsD ls[i] = .lst (strD (ls[i].map L3.sg)) from rfl]
        rw [ex_in_lst fl_str (strD_flat _), inD_sg]
        refine ⟨_, rfl, ?_⟩
        by_cases h : c ∈ ls[i]
        · rw [decide_eq_true h]
          simpa using r2 m10 R10 (Ch.refl _)
        · rw [decide_eq_false h]
          simp only [Bool.true_xor, Bool.not_false, if_true]
          refine nx R10 (by omega) fun r m11 a b R11 C11 => ?_
          rw [ex_eq_int]
          refine ⟨_, rfl, ?_⟩
          by_cases h0 : r = 0
          · rw [decide_eq_true h0]
            simpa using r1 m11 h R11 C11
          · rw [decide_eq_false h0]
            simpa using r2 m11 R11 C11
      · rw [show ks.map (fun c => D.str (L3.sg c)) = strD (ks.map L3.sg) from by rw [strD, List.map_map]; rfl]
        have O10 := O9.ch C10
        try walk_at "rl"
        refine ⟨lst_ref O10.at_, ?_⟩
        have hi6 : i < lettersP.length := by have : lettersP.length = 6 := rfl; omega
        obtain ⟨c, hc6, hcp⟩ : ∃ c, lettersP[i]? = some c ∧ partC c := ⟨lettersP[i], List.getElem?_eq_getElem hi6, List.getElem_mem hi6⟩
        rw [ex_ix_str, cps_parts]
        refine ⟨c, szl (by decide), by rw [Int.zero_add]; exact atI_nat hc6, _, hat, ?_⟩
        have hke : ∀ c ∈ ks, ∃ l ∈ ls, c ∈ l := fun c h => hes c (hsub.subset h)
        have hkd : ∀ c ∈ ks, deedC c := fun c h => let ⟨l, h1, h2⟩ := hke c h; (hls l h1).2.2 c h2
        have hnd2 : (ls[i] ++ ks).Nodup := by
          rw [List.nodup_append]
          exact ⟨hl.1, hnd.sublist hsub, fun a ha b hb e => hmay b hb (by subst e; exact ha)⟩
        have hall : ∀ c ∈ ls[i] ++ ks, deedC c := fun c h => (List.mem_append.mp h).elim (hl.2.2 c) (hkd c)
        refine ⟨ha, hb, c, lsD ls[i], ls[i], ks, sg, cl, rfl, rfl, R10, hcp, hnd2, deeds_len hnd2 hall, by rw [hsg]; exact hall, hg, hc, fun p e => D.noConfusion e, fun p m11 hp R11 C11 => ?_⟩
        have O11 := O10.ch C11
        refine ex_appendM O11.at_ (by rw [List.length_map]; exact szlt (by omega)) ?_
        have hpn := hp.nm
        subst hpn
        refine hnx _ _ ⟨qs ++ [p], _, _, _, _, _, _, rfl, by simp [hql], ?_, by rw [List.map_append]; exact O11.put, O11.rg R11, (((X9.trans C10.ext).trans C11.ext).over O9.n), fun j p2 h => ?_⟩
        · rw [List.map_append, hqn, List.take_add_one, hc6]; rfl
        · by_cases hj : j < qs.length
          · rw [List.getElem?_append_left hj] at h
            exact hqs j p2 h
          · have : j = qs.length := by
              have := (List.getElem?_eq_some_iff.mp h).1
              simp at this; omega
            subst this
            rw [List.getElem?_append_right (Nat.le_refl _)] at h
            simp at h
            subst h
            exact ⟨ls[i], by rw [hql]; exact hli, ks, hp, fun c h => hsub.subset h⟩
    · rintro δ m9 ⟨qs, o6, o8, o10, o11, o12, o13, rfl, hql, hqn, O9, R9, X9, hqs⟩
      walk_at "rl"
      refine fzl R9 X9 O9.at_ O9.n O9.a O9.b fun m2 R2 C2 => q sg cl qs m2 ⟨by omega, by omega, by rw [hqn, hql], hsg, hcl, fun p h => ?_, fun p h a ha => ?_⟩ R2 C2
      · obtain ⟨j, hj⟩ := List.getElem?_of_mem h
        obtain ⟨l, h1, others, h2, _⟩ := hqs j p hj
        exact ⟨l, others, h2, (hls l (List.mem_of_getElem? h1)).2.1⟩
      · obtain ⟨j, hj⟩ := List.getElem?_of_mem h
        obtain ⟨l, h1, others, h2, h3⟩ := hqs j p hj
        obtain ⟨l2, h4, h5⟩ := hes a.1 (h3 _ (h2.ask a ha))
        obtain ⟨j2, hj2⟩ := List.getElem?_of_mem h4
        have hlt : j2 < qs.length := by have := (List.getElem?_eq_some_iff.mp hj2).1; omega
        obtain ⟨l3, h6, others2, h7, _⟩ := hqs j2 qs[j2] (List.getElem?_eq_getElem hlt)
        rw [hj2] at h6
        cases h6
        exact ⟨qs[j2], List.getElem_mem hlt, (h7.own _).mpr h5⟩
end K16
/-! shelves and trees of the program -/
namespace K16
open PySem PySem.Spec PyProof.Rows L2 L3
variable {P : Program} {w : World} {K : PySem.W.Frag} {mg : Str → Option Value} {base : Heap}
theorem shp_p : getS kt_SHAPES "part" = some (.str "p") := by kernel_rfl
theorem shp_w : getS kt_SHAPES "with" = some (.str "tt") := by kernel_rfl
theorem shp_o : getS kt_SHAPES "without" = some (.str "td") := by kernel_rfl
theorem shp_a : getS kt_SHAPES "also" = some (.str "tdd") := by kernel_rfl
theorem shp_r : getS kt_SHAPES "renamed" = some (.str "tdd") := by kernel_rfl
theorem shp_v : getS kt_SHAPES "over" = some (.str "tp") := by kernel_rfl
theorem zs_p {a : D} : zipS [a] "p" = [.tup [a, .str "p"]] := by kernel_rfl
theorem zs_tt {a b : D} : zipS [a, b] "tt" = [.tup [a, .str "t"], .tup [b, .str "t"]] := by kernel_rfl
theorem zs_td {a b : D} : zipS [a, b] "td" = [.tup [a, .str "t"], .tup [b, .str "d"]] := by kernel_rfl
theorem zs_tp {a b : D} : zipS [a, b] "tp" = [.tup [a, .str "t"], .tup [b, .str "p"]] := by kernel_rfl
theorem zs_tdd {a b c : D} : zipS [a, b, c] "tdd" = [.tup [a, .str "t"], .tup [b, .str "d"], .tup [c, .str "d"]] := by kernel_rfl
theorem len_p : ("p" : Str).length = 1 := by kernel_rfl
theorem len_tt : ("tt" : Str).length = 2 := by kernel_rfl
theorem len_td : ("td" : Str).length = 2 := by kernel_rfl
theorem len_tp : ("tp" : Str).length = 2 := by kernel_rfl
theorem len_tdd : ("tdd" : Str).length = 3 := by kernel_rfl
local macro_rules | `(tactic| walk_at "rt") => `(tactic| simp only [ aIfT, lcStep, aLenSet, aOrI, shp_p, shp_w, shp_o, shp_a, shp_r, shp_v, zs_p, zs_tt, zs_td, zs_tp, zs_tdd, len_p, len_tt, len_td, len_tp, len_tdd, inD_nil, inD_cons, eqD_str, fl_str, List.all_cons, all_fl_nil, Bool.and_true, Bool.or_false, Bool.false_or, Bool.true_or, Bool.or_true, Bool.and_self, Bool.false_bne, Bool.false_xor, Bool.true_xor, aRet, aRetN, aDrop, aIfS, aSeq, aNext, aAsg, gNm, gTupD, gConsD, gNilD, aFor, ex_var0, ex_varS, aC, aOp, aCall, aCons, aNil, aTup, aLst, aB, aAnd, aOr, aNot, aAndV, aOrV, aNotV, aIf, aNeg, aChain, aKix, aKGet1, aKGet2, aDGet1, aDGet2, aNoPart, aPart, aSl, aList, aTupI, aStrI, aZipS, aYes, aLc, aNever, aBreak, aCont, forGo, lcGo,
  isi_str_str, isi_str_int, isi_str_bool, isi_str_tuple, isi_str_list, isi_int_str, isi_int_int, isi_int_bool, isi_int_tuple, isi_int_list, isi_bl_str, isi_bl_int, isi_bl_bool, isi_bl_tuple, isi_bl_list, isi_non_str, isi_non_int, isi_non_bool, isi_non_tuple, isi_non_list, isi_tup_str, isi_tup_int, isi_tup_bool, isi_tup_tuple, isi_tup_list, isi_lst_str, isi_lst_int, isi_lst_bool, isi_lst_tuple, isi_lst_list, isi_dct_str, isi_dct_int, isi_dct_bool, isi_dct_tuple, isi_dct_list, isi2_str, isi2_int, isi2_bl, isi2_non, isi2_tup, isi2_lst, isi2_dct, Option.getD_some, Option.getD_none, D.isNon, sz_0, sz_1, sz_2, sz_3, sz_4, sz_5, sz_6, sz_7, sz_8, sz_9, sz_10, sz_11, sz_12, sz_13, sz_14, sz_15, sz_16, sg_len, ex_in_sg, ex_len_str, ex_len_tup, ex_len_lst, ex_eq_str, ex_ne_str, ex_eq_int, ex_ne_int, ex_eq_ns, ex_eq_sn, ex_eq_nn, ex_ne_ns, ex_ne_sn, ex_ne_nn, ex_I, ex_add_int, ex_add_str, ex_add_tup, ex_add_lst, ex_sub, ex_mul, ex_mod, ex_div, ex_isN, ex_notN, ex_ix_tup, ex_ix_lst, ex_sl_tup, ex_sl_lst, ex_sl_str, ex_tuple_lst,
  ofs_inj, String.reduceEq, atI_0, atI_1, atI_2, atI_3, cut_1, cut_13, startD, wipeD, List.map_cons, List.map_nil, List.length_cons, List.length_nil, List.cons_append, List.nil_append, List.replicate_succ, List.replicate_zero, List.set_cons_zero, List.set_cons_succ, Nat.reduceAdd, Nat.reduceSub, Nat.sub_self,
  D.bl.injEq, D.int.injEq, D.str.injEq, D.tup.injEq, D.lst.injEq, D.dct.injEq, Option.some.injEq, List.cons.injEq, and_assoc, Int.cast_ofNat_Int, Int.reduceAdd, Int.reduceSub, Int.reduceMul, Int.reduceNeg, Int.reduceEq, Int.reduceLT, Int.reduceLE, Int.reduceNe, eq_self, exists_eq_left, exists_eq_left', exists_eq_right, exists_eq, exists_const, exists_false, false_and, and_false, false_or, or_false, true_and, and_true, if_true, if_false, Bool.false_eq_true, Bool.not_true, Bool.not_false, ite_true, ite_false, reduceCtorEq, decide_true, decide_false, decide_eq_true_eq, exists_and_left, Bool.not_eq_true])

def sp_need_shelf : SpD := fun ds m Q => ∃ ps : List Part, ds = [.lst (ps.map Part.enc)] ∧ ShOk ps ∧ Q .non m
theorem names_map (ps : List Part) : (ps.map Part.enc).filterMap hdD = strD ((ps.map (·.nm)).map sg) := by
  rw [fm_map (g := Part.enc) (f := hdD) (h := fun p => D.str (sg p.nm)) fun p _ => rfl]
  simp [strD, Function.comp_def]
theorem len_put {cs : List Nat} (h : cs.Nodup) : (putAllS (cs.map sg) []).length = cs.length := by
  rw [(putAllS_perm (sg_nodup h)).length_eq, List.length_map]
theorem F_need_shelf (T : Txt K w mg) : FnD P w K mg base "need_shelf" 18 sp_need_shelf := by
  have nd := sc_need_shelf.nd
  refine fnd_ofZ T.d_need_shelf sc_need_shelf (fun ds m Q ⟨_, e, _⟩ => by rw [e]; rfl) fun f cdv A outer s H E hr => ⟨_, (ass_cons (as_for PassesOwn.never rfl (ai_list (ae_var 0)) (ag_name 1 nd)
      (ass_one (as_expr (ae_call ((F_need_part T).mono (by omega)) hr (aa_cons (ae_var 1) aa_nil)))))
      (ass_cons (as_setLc (i := 2) (own := [("part", 1)]) rfl nd rfl rfl (sw_true rfl rfl rfl (by decide +kernel)) (ai_list (ae_var 0)) (blkOk_by (own := [("part", 1)]) (by kernel_rfl)) (gg_name (i := 1) (by simp)) (fun _ _ _ _ _ => (pg_name (i := 1) nd rfl (Or.inl rfl))) (fun _ _ _ _ _ => ats_nil) (fun _ _ _ _ _ => (ae_ix hr.u1 (ae_var 1) ae_int)))
      (ass_one (as_if (AW.t (aw_or (at_cmp or_gt (ae_callB cr_len T.b_len boot_len (aa_cons (ae_var 0) aa_nil)) (ae_glo T.c_MOST_PARTS) (nomark _)) (aw_or1 (at_cmp (or_ne hr.units) (ae_lenset T.b_len T.b_set (ae_var 2)) (ae_callB cr_len T.b_len boot_len (aa_cons (ae_var 2) aa_nil)) (nomark _))))) (ass_one as_never) ass_nil)))), ?_⟩
  rintro _ m Q ⟨ps, rfl, h, q⟩
  have h6 := h.six
  refine seq_inv (fun δ m' => m' = m ∧ ∃ o1 o2, δ = [some (.lst (ps.map Part.enc)), o1, o2]) (fun nx hn => ?_) ?_
  · walk_at "rt"
    refine for_inv (fun rest δ m' => (∃ qs : List Part, rest = qs.map Part.enc ∧ ∀ p ∈ qs, p ∈ ps) ∧ m' = m ∧ ∃ o1 o2, δ = [some (.lst (ps.map Part.enc)), o1, o2]) ?_ ?_ ⟨⟨ps, rfl, fun p h => h⟩, rfl, _, _, rfl⟩
    · rintro d rest δ m' ⟨⟨qs, e, hq⟩, rfl, o1, o2, rfl⟩ nx2 hnx
      cases qs with
      | nil => cases e
      | cons p qs =>
        rw [List.map_cons] at e
        injection e with e1 e2
        subst e1
        walk_at "rt"
        exact ⟨p, rfl, h.ok p (hq p List.mem_cons_self), hnx _ _ ⟨⟨qs, e2, fun x hx => hq x (List.mem_cons_of_mem _ hx)⟩, rfl, _, _, rfl⟩⟩
    · rintro δ m' ⟨_, rfl, o1, o2, rfl⟩
      exact hn _ _ ⟨rfl, _, _, rfl⟩
  rintro _ m ⟨rfl, o1, o2, rfl⟩
  walk_at "rt"
  refine ⟨szl (by simp; omega), lc_pure hdD (fun d hd R q => ?_) ?_⟩
  · obtain ⟨p, _, rfl⟩ := List.mem_map.mp hd
    simp only [Part.enc, hdD] at q ⊢
    walk_at "rt"
    exact q
  rw [names_map, List.nil_append]
  walk_at "rt"
  rw [if_neg (show ¬ ((6 : Int) < ((ps.map Part.enc).length : Nat)) by rw [List.length_map]; omega)]
  refine ⟨(ps.map (·.nm)).map sg, rfl, by simp; omega, ?_⟩
  rw [len_put h.nd, strD_len, decide_eq_true rfl]
  simpa using Fz.now q
def sp_trees_in (n : Nat) : SpD := fun ds m Q => ∃ (t : Tr) (ns : List Nat) (k : Int), ds = [t.enc, .lst (strD (ns.map sg)), .int k] ∧ t.wf ns ∧ (∀ n ∈ ns, n < 1114112) ∧ t.dep ≤ n ∧ 0 ≤ k ∧ k + t.dep ≤ 10 ∧ Q (.int t.size) m
theorem F_trees_in (T : Txt K w mg) : ∀ n : Nat, FnD P w K mg base "trees_in" (n + 3) (sp_trees_in n)
  | 0 => fnd_never T.d_trees_in sc_trees_in fun ds m Q ⟨t, _, _, _, _, _, h, _⟩ => by have := t.dep_pos; omega
  | n + 1 => by
    have nd := sc_trees_in.nd
    have F := F_trees_in T n
    refine fnd_ofZ T.d_trees_in sc_trees_in (fun ds m Q ⟨_, _, _, e, _⟩ => by rw [e]; rfl) fun f cdv A outer s H E hr => ⟨_, (ass_cons (as_if (AW.t (aw_or (at_not (at_val (ae_callB cr_isi T.b_isinstance boot_isinstance (aa_cons (ae_var 0) (aa_cons (ae_ty T.b_tuple boot_tuple) aa_nil))))) (aw_or (at_cmp (or_eq hr.units) (ae_var 0) (ae_tup aa_nil) (nomark _)) (aw_or (at_not (at_val (ae_callB cr_isi T.b_isinstance boot_isinstance (aa_cons (ae_ix hr.u1 (ae_var 0) ae_int) (aa_cons (ae_ty T.b_str boot_str) aa_nil))))) (aw_or1 (at_cmp or_gt (ae_var 2) (ae_glo T.c_MOST_WITHIN_trees) (nomark _))))))) (ass_one (as_ret (ae_op or_add (ae_glo T.c_MOST_TREES) ae_int))) ass_nil)
      (ass_cons (as_asg (ae_kget1 hr.u1 T.t_SHAPES (ae_ix hr.u1 (ae_var 0) ae_int)) (ag_name 3 nd))
      (ass_cons (as_if (AW.t (aw_or (at_cmp or_isN (ae_var 3) ae_non (nomark _)) (aw_or1 (at_cmp (or_ne hr.units) (ae_callB cr_len T.b_len boot_len (aa_cons (ae_var 0) aa_nil)) (ae_op or_add (ae_callB cr_len T.b_len boot_len (aa_cons (ae_var 3) aa_nil)) ae_int) (nomark _))))) (ass_one (as_ret (ae_op or_add (ae_glo T.c_MOST_TREES) ae_int))) ass_nil)
      (ass_cons (as_asg ae_int (ag_name 4 nd))
      (ass_cons (as_for PassesOwn.never rfl (ai_zipTS T.b_zip (aa_cons (ae_sl (ae_var 0) (ao_some ae_int) ao_none) (aa_cons (ae_var 3) aa_nil))) (ag_tup (n := 2) rfl (ags_cons (ag_name 5 nd) (ags_cons (ag_name 6 nd) ags_nil)))
      (ass_one (as_if (at_cmp (or_eq hr.units) (ae_var 6) ae_str (nomark _)) (ass_one (as_asg (ae_op or_add (ae_var 4) (ae_call (F.mono (by omega)) hr (aa_cons (ae_var 5) (aa_cons (ae_var 1) (aa_cons (ae_op or_add (ae_var 2) ae_int) aa_nil))))) (ag_name 4 nd))) (ass_one (as_if (at_not (at_if (at_cmp (or_eq hr.units) (ae_var 6) ae_str (nomark _)) (at_val (ae_call ((F_is_letter T).mono (by omega)) hr (aa_cons (ae_var 5) (aa_cons (ae_glo T.c_DEEDS) aa_nil)))) (at_cmp (or_in1 hr.u65) (ae_var 5) (ae_var 1) (by rfl)))) (ass_one (as_ret (ae_op or_add (ae_glo T.c_MOST_TREES) ae_int))) ass_nil)))))
      (ass_one (as_ret (ae_var 4)))))))), ?_⟩
    rintro _ m Q ⟨t, ns, k, rfl, hw, hns, hd, hk, hk2, q⟩
    replace q := Fz.now q
    have e1 : ∀ R, rhoEq t.enc (.tup []) m R = R (.bl false) m := by
      have ob := (t.okD hns hw).eq (by have := t.dep_pos; omega)
      obtain ⟨x, ds, e⟩ := t.tup
      intro R
      have r : rsv m t.enc = t.enc := by rw [e]; rfl
      exact ex_eq_of (by rw [r]; exact ob) ok_nil (by rw [r]; exact t.ne_nil)
    have k9 : (9 < k) = False := eq_false (by have := t.dep_pos; omega)
    have call : ∀ (a : Tr) (R : EK), a.wf ns → a.dep + 1 ≤ t.dep → R (.int a.size) m → sp_trees_in n [a.enc, .lst (strD (ns.map sg)), .int (k + 1)] m R := fun a R h1 h2 q => ⟨a, ns, k + 1, rfl, h1, hns, by omega, by omega, by omega, q⟩
    have inn : ∀ (p : Nat) (R : EK), p ∈ ns → R (.bl true) m → rhoIn false (.str (sg p)) (.lst (strD (ns.map sg))) m R := fun p R hp q => by
      rw [ex_in_lst fl_str (strD_flat _), inD_sg, decide_eq_true hp]; exact q
    have let_ : ∀ (d : Nat) (R : EK), deedC d → R (.bl true) m → sp_is_letter [.str (sg d), .str "abcdefgh"] m R := fun d R hd q => ⟨d, _, rfl, by rw [cps_deeds, decide_eq_true (show d ∈ _ from hd)]; exact q⟩
    cases t with
    | part p =>
      simp only [Tr.enc] at e1 ⊢
      walk_at "rt"
      simp only [e1, k9]
      walk_at "rt"
      refine inn p _ hw ?_
      first | exact q | (simpa [Tr.size] using q) | exact ⟨true, rfl, by simpa [Tr.size] using q⟩
    | wth a b =>
      simp only [Tr.enc] at e1 ⊢
      walk_at "rt"
      simp only [e1, k9]
      walk_at "rt"
      refine call a _ hw.1 (by simp [Tr.dep]; omega) ?_
      walk_at "rt"
      refine call b _ hw.2 (by simp [Tr.dep]; omega) ?_
      walk_at "rt"
      simpa [Tr.size, Int.add_assoc] using q
    | wout a d =>
      simp only [Tr.enc] at e1 ⊢
      walk_at "rt"
      simp only [e1, k9]
      walk_at "rt"
      refine call a _ hw.1 (by simp [Tr.dep]) ?_
      walk_at "rt"
      refine let_ d _ hw.2 ⟨true, rfl, ?_⟩
      simpa [Tr.size] using q
    | also a d e =>
      simp only [Tr.enc] at e1 ⊢
      walk_at "rt"
      simp only [e1, k9]
      walk_at "rt"
      refine call a _ hw.1 (by simp [Tr.dep]) ?_
      walk_at "rt"
      refine let_ d _ hw.2.1 ⟨true, rfl, ?_⟩
      simp only [Bool.not_true, Bool.false_eq_true, if_false]
      refine let_ e _ hw.2.2 ⟨true, rfl, ?_⟩
      simpa [Tr.size] using q
    | ren a d e =>
      simp only [Tr.enc] at e1 ⊢
      walk_at "rt"
      simp only [e1, k9]
      walk_at "rt"
      refine call a _ hw.1 (by simp [Tr.dep]) ?_
      walk_at "rt"
      refine let_ d _ hw.2.1 ⟨true, rfl, ?_⟩
      simp only [Bool.not_true, Bool.false_eq_true, if_false]
      refine let_ e _ hw.2.2 ⟨true, rfl, ?_⟩
      simpa [Tr.size] using q
    | over a p =>
      simp only [Tr.enc] at e1 ⊢
      walk_at "rt"
      simp only [e1, k9]
      walk_at "rt"
      refine call a _ hw.1 (by simp [Tr.dep]) ?_
      walk_at "rt"
      refine inn p _ hw.2 ⟨true, rfl, ?_⟩
      simpa [Tr.size] using q
structure TrOk (ps : List Part) (t : Tr) : Prop where
  wf : t.wf (ps.map (·.nm))
  d : t.dep ≤ 10
  s : t.size ≤ 40
def sp_need_tree : SpD := fun ds m Q => ∃ (ps : List Part) (t : Tr), ds = [.lst (ps.map Part.enc), t.enc] ∧ ShOk ps ∧ TrOk ps t ∧ Q .non m
theorem F_need_tree (T : Txt K w mg) : FnD P w K mg base "need_tree" 19 sp_need_tree := by
  have nd := sc_need_tree.nd
  refine fnd_ofZ T.d_need_tree sc_need_tree (fun ds m Q ⟨_, _, e, _⟩ => by rw [e]; rfl) fun f cdv A outer s H E hr => ⟨_, (ass_cons (as_expr (ae_call ((F_need_shelf T).mono (by omega)) hr (aa_cons (ae_var 0) aa_nil)))
      (ass_one (as_if (at_cmp or_gt (ae_call ((F_trees_in T 10).mono (by omega)) hr (aa_cons (ae_var 1) (aa_cons (ae_lc (own := [("part", 2)]) rfl nd (ai_list (ae_var 0)) (blkOk_by (own := [("part", 2)]) (by kernel_rfl)) (gg_name (i := 2) (by simp)) (fun _ _ _ _ _ => (pg_name (i := 2) nd rfl (Or.inl rfl))) (fun _ _ _ _ _ => ats_nil) (fun _ _ _ _ _ => (ae_ix hr.u1 (ae_var 2) ae_int))) (aa_cons ae_int aa_nil)))) (ae_glo T.c_MOST_TREES) (nomark _)) (ass_one as_never) ass_nil))), ?_⟩
  rintro _ m Q ⟨ps, t, rfl, h, ht, q⟩
  have h6 := h.six
  walk_at "rt"
  refine ⟨ps, rfl, h, ?_⟩
  try walk_at "rt"
  refine ⟨szl (by simp; omega), lc_pure hdD (fun d hd R q => ?_) ?_⟩
  · obtain ⟨p, _, rfl⟩ := List.mem_map.mp hd
    simp only [Part.enc, hdD] at q ⊢
    walk_at "rt"
    exact q
  rw [names_map, List.nil_append]
  try walk_at "rt"
  refine ⟨t, _, 0, rfl, ht.wf, fun n hn => ?_, ht.d, by omega, by have := ht.d; omega, ?_⟩
  · obtain ⟨p, hp, rfl⟩ := List.mem_map.mp hn
    exact partC.lt (h.ok p hp).nm
  simp only [ex_I]
  rw [decide_eq_false (show ¬ ((40 : Int) < (t.size : Nat)) by have := ht.s; omega)]
  exact ⟨false, rfl, by simpa using Fz.now q⟩
end K16
/-! the generator of shelves of two, and of trees -/
namespace K16
open PySem PySem.Spec PyProof.Rows L2 L3
variable {P : Program} {w : World} {K : PySem.W.Frag} {mg : Str → Option Value} {base : Heap}
local macro_rules | `(tactic| walk_at "ru") => `(tactic| simp only [ aPar, lcStep, cps_deeds, Bool.not_true, Bool.not_false, aRet, aRetN, aDrop, aIfS, aSeq, aNext, aAsg, gNm, gTupD, gConsD, gNilD, aFor, ex_var0, ex_varS, aC, aOp, aCall, aCons, aNil, aTup, aLst, aB, aAnd, aOr, aNot, aAndV, aOrV, aNotV, aIf, aNeg, aChain, aKix, aKGet1, aKGet2, aDGet1, aDGet2, aNoPart, aPart, aSl, aList, aTupI, aStrI, aZipS, aYes, aLc, aNever, aBreak, aCont, forGo, lcGo,
  isi_str_str, isi_str_int, isi_str_bool, isi_str_tuple, isi_str_list, isi_int_str, isi_int_int, isi_int_bool, isi_int_tuple, isi_int_list, isi_bl_str, isi_bl_int, isi_bl_bool, isi_bl_tuple, isi_bl_list, isi_non_str, isi_non_int, isi_non_bool, isi_non_tuple, isi_non_list, isi_tup_str, isi_tup_int, isi_tup_bool, isi_tup_tuple, isi_tup_list, isi_lst_str, isi_lst_int, isi_lst_bool, isi_lst_tuple, isi_lst_list, isi_dct_str, isi_dct_int, isi_dct_bool, isi_dct_tuple, isi_dct_list, isi2_str, isi2_int, isi2_bl, isi2_non, isi2_tup, isi2_lst, isi2_dct, Option.getD_some, Option.getD_none, D.isNon, sz_0, sz_1, sz_2, sz_3, sz_4, sz_5, sz_6, sz_7, sz_8, sz_9, sz_10, sz_11, sz_12, sz_13, sz_14, sz_15, sz_16, sg_len, ex_in_sg, ex_len_str, ex_len_tup, ex_len_lst, ex_eq_str, ex_ne_str, ex_eq_int, ex_ne_int, ex_eq_ns, ex_eq_sn, ex_eq_nn, ex_ne_ns, ex_ne_sn, ex_ne_nn, ex_I, ex_add_int, ex_add_str, ex_add_tup, ex_add_lst, ex_sub, ex_mul, ex_mod, ex_div, ex_isN, ex_notN, ex_ix_tup, ex_ix_lst, ex_sl_tup, ex_sl_lst, ex_sl_str, ex_tuple_lst,
  ofs_inj, String.reduceEq, atI_0, atI_1, atI_2, atI_3, cut_1, cut_13, startD, wipeD, List.map_cons, List.map_nil, List.length_cons, List.length_nil, List.cons_append, List.nil_append, List.replicate_succ, List.replicate_zero, List.set_cons_zero, List.set_cons_succ, Nat.reduceAdd, Nat.reduceSub, Nat.sub_self,
  D.bl.injEq, D.int.injEq, D.str.injEq, D.tup.injEq, D.lst.injEq, D.dct.injEq, Option.some.injEq, List.cons.injEq, and_assoc, Int.cast_ofNat_Int, Int.reduceAdd, Int.reduceSub, Int.reduceMul, Int.reduceNeg, Int.reduceEq, Int.reduceLT, Int.reduceLE, Int.reduceNe, eq_self, exists_eq_left, exists_eq_left', exists_eq_right, exists_eq, exists_const, exists_false, false_and, and_false, false_or, or_false, true_and, and_true, if_true, if_false, Bool.false_eq_true, Bool.not_true, Bool.not_false, ite_true, ite_false, reduceCtorEq, decide_true, decide_false, decide_eq_true_eq, exists_and_left, Bool.not_eq_true])

/-- deep < n -/
def sp_tree (n : Nat) : SpD := fun ds m Q => ∃ (ha hb : Addr) (ps : List Part) (i : Int) (d : Nat), ds = [.ref ha, .lst (ps.map Part.enc), .int i] ∧ i = d ∧ d + 1 ≤ n ∧ Rg ha hb m ∧ 1 ≤ ps.length ∧ ps.length ≤ 6 ∧
  ∀ (t : Tr) m', t.wf (ps.map (·.nm)) → t.dep ≤ d + 1 → t.size ≤ tb d → Rg ha hb m' → Ch ha hb m m' → Q t.enc m'
theorem F__law_tree (T : Txt K w mg) : ∀ n : Nat, FnD P w K mg base "_law_tree" (n + 3) (sp_tree n)
  | 0 => fnd_never T.d__law_tree sc__law_tree fun ds m Q ⟨_, _, _, _, _, _, _, h, _⟩ => by omega
  | n + 1 => by
    have nd := sc__law_tree.nd
    have F := F__law_tree T n
    refine fnd_ofZ T.d__law_tree sc__law_tree (fun ds m Q ⟨_, _, _, _, _, e, _⟩ => by rw [e]; rfl) fun f cdv A outer s H E hr => ⟨_, (ass_cons (as_asg (ae_ix hr.u1 (ae_ix hr.u1 (ae_var 1) (ae_call ((F__law_next T).mono (by omega)) hr (aa_cons (ae_var 0) (aa_cons (ae_callB cr_len T.b_len boot_len (aa_cons (ae_var 1) aa_nil)) aa_nil)))) ae_int) (ag_name 3 nd))
      (ass_cons (as_if (AW.t (aw_or (at_cmp (or_eq hr.units) (ae_var 2) ae_int (nomark _)) (aw_or1 (at_cmp (or_eq hr.units) (ae_call ((F__law_next T).mono (by omega)) hr (aa_cons (ae_var 0) (aa_cons ae_int aa_nil))) ae_int (nomark _))))) (ass_one (as_ret (ae_tup (aa_cons ae_str (aa_cons (ae_var 3) aa_nil))))) ass_nil)
      (ass_cons (as_asg (ae_call ((F__law_next T).mono (by omega)) hr (aa_cons (ae_var 0) (aa_cons ae_int aa_nil))) (ag_name 4 nd))
      (ass_cons (as_asg (ae_call (F.mono (by omega)) hr (aa_cons (ae_var 0) (aa_cons (ae_var 1) (aa_cons (ae_op or_sub (ae_var 2) ae_int) aa_nil)))) (ag_name 5 nd))
      (ass_cons (as_if (at_cmp or_lt (ae_var 4) ae_int (nomark _)) (ass_one (as_ret (ae_tup (aa_cons ae_str (aa_cons (ae_var 5) (aa_cons (ae_call (F.mono (by omega)) hr (aa_cons (ae_var 0) (aa_cons (ae_var 1) (aa_cons (ae_op or_sub (ae_var 2) ae_int) aa_nil)))) aa_nil)))))) ass_nil)
      (ass_cons (as_if (at_cmp (or_eq hr.units) (ae_var 4) ae_int (nomark _)) (ass_one (as_ret (ae_tup (aa_cons ae_str (aa_cons (ae_var 5) (aa_cons (ae_var 3) aa_nil)))))) ass_nil)
      (ass_cons (as_asg (ae_sl ae_str ao_none (ao_some (ae_op or_add ae_int (ae_call ((F__law_next T).mono (by omega)) hr (aa_cons (ae_var 0) (aa_cons ae_int aa_nil)))))) (ag_name 6 nd))
      (ass_cons (as_par 7 8 nd (aa_cons (ae_ix hr.u1 (ae_var 6) (ae_call ((F__law_next T).mono (by omega)) hr (aa_cons (ae_var 0) (aa_cons (ae_callB cr_len T.b_len boot_len (aa_cons (ae_var 6) aa_nil)) aa_nil)))) (aa_cons (ae_ix hr.u1 (ae_var 6) (ae_call ((F__law_next T).mono (by omega)) hr (aa_cons (ae_var 0) (aa_cons (ae_callB cr_len T.b_len boot_len (aa_cons (ae_var 6) aa_nil)) aa_nil)))) aa_nil)))
      (ass_one (as_ret (ae_ix hr.u1 (ae_lst (aa_cons (ae_tup (aa_cons ae_str (aa_cons (ae_var 5) (aa_cons (ae_var 7) aa_nil)))) (aa_cons (ae_tup (aa_cons ae_str (aa_cons (ae_var 5) (aa_cons (ae_var 7) aa_nil)))) (aa_cons (ae_tup (aa_cons ae_str (aa_cons (ae_var 5) (aa_cons (ae_var 7) (aa_cons (ae_var 8) aa_nil))))) (aa_cons (ae_tup (aa_cons ae_str (aa_cons (ae_var 5) (aa_cons (ae_var 7) (aa_cons (ae_var 8) aa_nil))))) aa_nil))))) (ae_op or_sub (ae_var 4) ae_int)))))))))))), ?_⟩
    rintro _ m Q ⟨ha, hb, ps, i, d, rfl, hi, hd, R, h1, h6, q⟩
    walk_at "ru"
    refine nx R (by simp; omega) fun r m1 a b R1 C1 => ?_
    obtain ⟨x, hx, hm⟩ := atI_get a b
    obtain ⟨p, hp, rfl⟩ := List.mem_map.mp hm
    have hnm : p.nm ∈ ps.map (·.nm) := List.mem_map.mpr ⟨p, hp, rfl⟩
    rw [ex_ix_lst]
    refine ⟨_, hx, ?_⟩
    simp only [Part.enc]
    walk_at "ru"
    have leaf : ∀ m2, Rg ha hb m2 → Ch ha hb m m2 → Fz Q (.tup [.str "part", .str (sg p.nm)]) m2 := fun m2 R2 C2 => Fz.now (q (.part p.nm) m2 hnm (by simp [Tr.dep]) (tb_pos d) R2 C2)
    by_cases hd0 : i = 0
    · rw [if_pos hd0]
      exact leaf m1 R1 C1
    rw [if_neg hd0]
    refine nx R1 (by omega) fun r1 m2 a1 b1 R2 C2 => ?_
    rw [ex_eq_int]
    refine ⟨_, rfl, ?_⟩
    by_cases hr0 : r1 = 0
    · rw [decide_eq_true hr0, if_pos rfl]
      exact leaf m2 R2 (C1.trans C2)
    rw [decide_eq_false hr0, if_neg (by simp)]
    obtain ⟨e, rfl⟩ : ∃ e, d = e + 1 := ⟨d - 1, by omega⟩
    have B : ∀ (m1 : Mu) (R : EK), Rg ha hb m1 → (∀ (t : Tr) m', t.wf (ps.map (·.nm)) → t.dep ≤ e + 1 → t.size ≤ tb e → Rg ha hb m' → Ch ha hb m1 m' → R t.enc m') → sp_tree n [.ref ha, .lst (ps.map Part.enc), .int (i - 1)] m1 R := fun m1 R R1 q => ⟨ha, hb, ps, i - 1, e, rfl, by omega, by omega, R1, h1, h6, q⟩
    refine nx R2 (by omega) fun r2 m3 a2 b2 R3 C3 => ?_
    refine B m3 _ R3 fun t1 m4 w1 d1 s1 R4 C4 => ?_
    have C14 := ((C1.trans C2).trans C3).trans C4
    have lt : ∀ (x : Int) (m' : Mu) (R : EK), rhoLt (.int r2) (.int x) m' R = R (.bl (decide (r2 < x))) m' := fun x m' R => ex_I
    rw [lt]
    refine ⟨_, rfl, ?_⟩
    by_cases c1 : r2 < 4
    · rw [decide_eq_true c1, if_pos rfl]
      refine B m4 _ R4 fun t2 m5 w2 d2 s2 R5 C5 => ?_
      exact Fz.now (q (.wth t1 t2) m5 ⟨w1, w2⟩ (by simp only [Tr.dep]; omega) (by simp only [Tr.size, tb]; omega) R5 (C14.trans C5))
    rw [decide_eq_false c1, if_neg (by simp), ex_eq_int]
    refine ⟨_, rfl, ?_⟩
    have sz : 1 + t1.size ≤ tb (e + 1) := by have := tb_pos e; simp only [tb]; omega
    by_cases c2 : r2 = 4
    · rw [decide_eq_true c2, if_pos rfl]
      exact Fz.now (q (.over t1 p.nm) m4 ⟨w1, hnm⟩ (by simp only [Tr.dep]; omega) sz R4 C14)
    rw [decide_eq_false c2, if_neg (by simp)]
    refine nx R4 (by omega) fun r3 m5 a3 b3 R5 C5 => ?_
    rw [ex_add_int]
    refine ⟨_, rfl, szl (by decide), ?_⟩
    obtain ⟨k, k2, k8, hcut, hlen⟩ := cut_deeds2 a3 b3
    have l8 : (lettersD.take k).length = k := by rw [List.length_take, show lettersD.length = 8 from rfl]; omega
    have dd : ∀ c ∈ lettersD.take k, deedC c := fun c h => List.mem_of_mem_take h
    rw [hlen]
    refine ⟨szl (by omega), nx R5 (by omega) fun r4 m6 a4 b4 R6 C6 => ?_⟩
    refine ix_signs hcut (szl (by omega)) a4 (by omega) fun c1 hc1 => ⟨szl (by omega), nx R6 (by omega) fun r5 m7 a5 b5 R7 C7 => ?_⟩
    refine ix_signs hcut (szl (by omega)) a5 (by omega) fun c3 hc3 => ?_
    rw [ex_sub, ex_ix_lst]
    have C17 := ((C14.trans C5).trans C6).trans C7
    have h4 : 0 ≤ r2 - 5 ∧ r2 - 5 < 4 := by omega
    rcases lt4 h4.1 h4.2 with e | e | e | e <;> rw [e]
    · exact ⟨_, atI_0, Fz.now (q (.wout t1 c1) m7 ⟨w1, dd c1 hc1⟩ (by simp only [Tr.dep]; omega) sz R7 C17)⟩
    · exact ⟨_, atI_1, Fz.now (q (.wout t1 c1) m7 ⟨w1, dd c1 hc1⟩ (by simp only [Tr.dep]; omega) sz R7 C17)⟩
    · exact ⟨_, atI_2, Fz.now (q (.also t1 c1 c3) m7 ⟨w1, dd c1 hc1, dd c3 hc3⟩ (by simp only [Tr.dep]; omega) sz R7 C17)⟩
    · exact ⟨_, atI_3, Fz.now (q (.ren t1 c1 c3) m7 ⟨w1, dd c1 hc1, dd c3 hc3⟩ (by simp only [Tr.dep]; omega) sz R7 C17)⟩
end K16
/-! what is called, renamed; forms -/
namespace K16
open PySem PySem.Spec PyProof.Rows L2 L3
variable {P : Program} {w : World} {K : PySem.W.Frag} {mg : Str → Option Value} {base : Heap}
theorem w1_call (w : W1) : (w.s = Str.ofString "call") = False := by cases w <;> simp [W1.s, ofs_inj]
theorem w2_call (w : W2) : (w.s = Str.ofString "call") = False := by cases w <;> simp [W2.s, ofs_inj]
local macro_rules | `(tactic| walk_at "ry") => `(tactic| simp only [ aLM, aLstM, lcStep, aFld, aSFld, aMeth, aDNew, aDNewM, w1_call, w2_call, arms_un, arms_bin, arms_num, arms_tru, arms_emp, arms_arg, arms_cel, arms_set, arms_cal, arms_ite, zs_n, zs_t, zs_e, zs_c, zs_x, zs_xx, zs_xxx, zs_cx, zs_dx, sg_inj, D.ref.injEq, aRet, aRetN, aDrop, aIfS, aSeq, aNext, aAsg, gNm, gTupD, gConsD, gNilD, aFor, ex_var0, ex_varS, aC, aOp, aCall, aCons, aNil, aTup, aLst, aB, aAnd, aOr, aNot, aAndV, aOrV, aNotV, aIf, aNeg, aChain, aKix, aKGet1, aKGet2, aDGet1, aDGet2, aNoPart, aPart, aSl, aList, aTupI, aStrI, aZipS, aYes, aLc, aNever, aBreak, aCont, forGo, lcGo,
  isi_str_str, isi_str_int, isi_str_bool, isi_str_tuple, isi_str_list, isi_int_str, isi_int_int, isi_int_bool, isi_int_tuple, isi_int_list, isi_bl_str, isi_bl_int, isi_bl_bool, isi_bl_tuple, isi_bl_list, isi_non_str, isi_non_int, isi_non_bool, isi_non_tuple, isi_non_list, isi_tup_str, isi_tup_int, isi_tup_bool, isi_tup_tuple, isi_tup_list, isi_lst_str, isi_lst_int, isi_lst_bool, isi_lst_tuple, isi_lst_list, isi_dct_str, isi_dct_int, isi_dct_bool, isi_dct_tuple, isi_dct_list, isi2_str, isi2_int, isi2_bl, isi2_non, isi2_tup, isi2_lst, isi2_dct, Option.getD_some, Option.getD_none, D.isNon, sz_0, sz_1, sz_2, sz_3, sz_4, sz_5, sz_6, sz_7, sz_8, sz_9, sz_10, sz_11, sz_12, sz_13, sz_14, sz_15, sz_16, sg_len, ex_in_sg, ex_len_str, ex_len_tup, ex_len_lst, ex_eq_str, ex_ne_str, ex_eq_int, ex_ne_int, ex_eq_ns, ex_eq_sn, ex_eq_nn, ex_ne_ns, ex_ne_sn, ex_ne_nn, ex_I, ex_add_int, ex_add_str, ex_add_tup, ex_add_lst, ex_sub, ex_mul, ex_mod, ex_div, ex_isN, ex_notN, ex_ix_tup, ex_ix_lst, ex_sl_tup, ex_sl_lst, ex_sl_str, ex_tuple_lst,
  ofs_inj, String.reduceEq, atI_0, atI_1, atI_2, atI_3, cut_1, cut_13, startD, wipeD, List.map_cons, List.map_nil, List.length_cons, List.length_nil, List.cons_append, List.nil_append, List.replicate_succ, List.replicate_zero, List.set_cons_zero, List.set_cons_succ, Nat.reduceAdd, Nat.reduceSub, Nat.sub_self,
  D.bl.injEq, D.int.injEq, D.str.injEq, D.tup.injEq, D.lst.injEq, D.dct.injEq, Option.some.injEq, List.cons.injEq, and_assoc, Int.cast_ofNat_Int, Int.reduceAdd, Int.reduceSub, Int.reduceMul, Int.reduceNeg, Int.reduceEq, Int.reduceLT, Int.reduceLE, Int.reduceNe, eq_self, exists_eq_left, exists_eq_left', exists_eq_right, exists_eq, exists_const, exists_false, false_and, and_false, false_or, or_false, true_and, and_true, if_true, if_false, Bool.false_eq_true, Bool.not_true, Bool.not_false, ite_true, ite_false, reduceCtorEq, decide_true, decide_false, decide_eq_true_eq, exists_and_left, Bool.not_eq_true])

def Bd.own : Bd → List Nat
  | .cal d _ => [d]
  | _ => []
def cinF (own : List Nat) (bs : List Bd) : List Nat := bs.foldl (fun l a => addF l a.cin) own
theorem cin_fold (b : Bd) : b.cin = cinF (Bd.own b) b.subs := by cases b <;> rfl
theorem cinF_ok {b : Bd} (hw : b.wf) : ∀ {bs : List Bd} {own : List Nat}, (∀ a ∈ bs, a ∈ b.subs) → own.Nodup → (∀ c ∈ own, deedC c) → (cinF own bs).Nodup ∧ ∀ c ∈ cinF own bs, deedC c
  | [], own, _, h, g => ⟨h, g⟩
  | a :: bs, own, hs, h, g => by
    have wa : a.wf := by
      have := hs a List.mem_cons_self
      cases b <;> simp only [Bd.subs, List.mem_cons, List.not_mem_nil, or_false] at this
      · subst this; exact hw
      · rcases this with rfl | rfl; exact hw.1; exact hw.2
      · rcases this with rfl | rfl | rfl; exact hw.1; exact hw.2.1; exact hw.2.2
      · subst this; exact hw.2
      · subst this; exact hw.2
    exact cinF_ok hw (bs := bs) (fun x hx => hs x (List.mem_cons_of_mem _ hx)) (addF_nodup h a.cin_nodup) fun c hc => (addF_mem.mp hc).elim (g c) fun z => a.wf_calls wa c ((a.cin_calls c).mp z)
theorem subs_wf {b a : Bd} (hw : b.wf) (h : a ∈ b.subs) : a.wf ∧ a.dep + 1 ≤ b.dep := by
  cases b <;> simp only [Bd.subs, List.mem_cons, List.not_mem_nil, or_false] at h
  · subst h; exact ⟨hw, by simp [Bd.dep]⟩
  · rcases h with rfl | rfl; exact ⟨hw.1, by simp [Bd.dep]; omega⟩; exact ⟨hw.2, by simp [Bd.dep]; omega⟩
  · rcases h with rfl | rfl | rfl; exact ⟨hw.1, by simp [Bd.dep]; omega⟩; exact ⟨hw.2.1, by simp [Bd.dep]; omega⟩; exact ⟨hw.2.2, by simp [Bd.dep]; omega⟩
  · subst h; exact ⟨hw.2, by simp [Bd.dep]⟩
  · subst h; exact ⟨hw.2, by simp [Bd.dep]⟩
def sp_calls_in (n : Nat) : SpD := fun ds m Q => ∃ b : Bd, ds = [b.enc] ∧ b.dep ≤ n ∧ b.wf ∧ Q (.lst (sgD b.cin)) m
theorem F_calls_in (T : Txt K w mg) : ∀ n : Nat, FnD P w K mg base "calls_in" (n + 2) (sp_calls_in n)
  | 0 => fnd_never T.d_calls_in sc_calls_in fun ds m Q ⟨b, _, h, _⟩ => by have := b.dep_pos; omega
  | n + 1 => by
    have nd := sc_calls_in.nd
    have F := F_calls_in T n
    refine fnd_ofZ T.d_calls_in sc_calls_in (fun ds m Q ⟨_, e, _⟩ => by rw [e]; rfl) fun f cdv A outer s H E hr => ⟨_, (ass_cons (as_asg (ae_if (at_cmp (or_eq hr.units) (ae_ix hr.u1 (ae_var 0) ae_int) ae_str (nomark _)) (ae_lstM (aa_cons (ae_ix hr.u1 (ae_var 0) ae_int) aa_nil)) (ae_lstM aa_nil)) (ag_name 1 nd))
      (ass_cons (as_for PassesOwn.never rfl (ai_list (ae_call ((F_within T).mono (by omega)) hr (aa_cons (ae_var 0) aa_nil))) (ag_name 2 nd)
      (ass_one (as_expr (ae_lm PySem.F.slot_list_extend PySem.F.type_list_extend mt_extendD (ae_var 1) (aa_cons (ae_lc (own := [("deed", 3)]) rfl nd (ai_list (ae_call (F.mono (by omega)) hr (aa_cons (ae_var 2) aa_nil))) (blkOk_by (own := [("deed", 3)]) (by kernel_rfl)) (gg_name (i := 3) (by simp)) (fun _ _ _ _ _ => (pg_name (i := 3) nd rfl (Or.inl rfl))) (fun _ _ _ _ _ => (ats_one (at_cmp (or_nin hr.u65) (ae_var 3) (ae_var 1) (by rfl)))) (fun _ _ _ _ _ => (ae_var 3))) aa_nil)))))
      (ass_one (as_ret (ae_var 1))))), ?_⟩
    rintro _ m Q ⟨b, rfl, hd, hw, q⟩
    have own_ok : (Bd.own b).Nodup ∧ ∀ c ∈ Bd.own b, deedC c := by
      cases b with
      | cal d a => exact ⟨by simp [Bd.own], fun c hc => by rw [List.mem_singleton.mp hc]; exact hw.1⟩
      | _ => exact ⟨List.nodup_nil, fun c hc => nomatch hc⟩
    refine seq_inv (fun δ m' => ∃ p, m p = none ∧ m' = m.put p (.lst (sgD (Bd.own b))) ∧ δ = [some b.enc, some (.ref p), none, none]) (fun nx hn => ?_) ?_
    · cases b
      all_goals simp only [Bd.enc]
      all_goals walk_at "ry"
      all_goals exact fun p hp => hn _ _ ⟨p, hp, rfl, rfl⟩
    · rintro _ _ ⟨p, hp, rfl, rfl⟩
      walk_at "ry"
      refine ⟨b, rfl, ?_⟩
      walk_at "ry"
      refine for_inv (fun rest δ m' => ∃ dn xs o, b.subs = dn ++ xs ∧ rest = xs.map Bd.enc ∧ m' = m.put p (.lst (sgD (cinF (Bd.own b) dn))) ∧ δ = [some b.enc, some (.ref p), o, none]) ?_ ?_ ⟨[], b.subs, none, rfl, rfl, rfl, rfl⟩
      · rintro d rest δ m' ⟨dn, xs, o, hs, e, rfl, rfl⟩ nx hnx
        cases xs with
        | nil => cases e
        | cons a xs =>
          rw [List.map_cons] at e
          injection e with e1 e2
          subst e1
          have ha : a ∈ b.subs := by rw [hs]; simp
          obtain ⟨wa, da⟩ := subs_wf hw ha
          obtain ⟨n1, c1⟩ := cinF_ok hw (bs := dn) (fun x hx => by rw [hs]; simp [hx]) own_ok.1 own_ok.2
          have l1 := deeds_len n1 c1
          have l2 := deeds_len a.cin_nodup fun c hc => a.wf_calls wa c ((a.cin_calls c).mp hc)
          walk_at "ry"
          refine ⟨lst_at_put, a, rfl, by omega, wa, _, rfl, by rw [sgD_len]; exact szl (by omega), lc_pure (notIn (cinF (Bd.own b) dn)) (fun d hd R q => ?_) ?_⟩
          · obtain ⟨x, hx, rfl⟩ := List.mem_map.mp hd
            obtain ⟨c, _, rfl⟩ := List.mem_map.mp hx
            unfold notIn at q
            rw [show inD (.str (sg c)) (sgD _) = decide (c ∈ _) from inD_sg] at q
            simp only [lcStep]
            walk_at "ry"
            rw [ex_in_ref Mu.put_same]
            by_cases h : c ∈ cinF (Bd.own b) dn
            · rw [decide_eq_true h, if_pos rfl] at q
              rw [decide_eq_true h]
              walk_at "ry"
              exact q
            · rw [decide_eq_false h, if_neg (by simp)] at q
              rw [decide_eq_false h]
              walk_at "ry"
              exact q
          · rw [List.nil_append, notIn_sg]
            have hf : (a.cin.filter fun c => decide (c ∉ cinF (Bd.own b) dn)).length ≤ a.cin.length := List.length_filter_le _ _
            refine ext_at (by omega) (hnx _ _ ⟨dn ++ [a], xs, some a.enc, by rw [hs]; simp, e2, ?_, rfl⟩)
            rw [cinF, cinF, List.foldl_append]; rfl
      · rintro δ m' ⟨dn, xs, o, hs, e, rfl, rfl⟩
        cases xs with
        | cons x xs => cases e
        | nil =>
          rw [List.append_nil] at hs
          walk_at "ry"
          rw [← hs]
          rw [cin_fold] at q
          exact fin_lst hp q
def sp_ren_body (n : Nat) : SpD := fun ds m Q => ∃ (b : Bd) (d e : Nat), ds = [b.enc, .str (sg d), .str (sg e)] ∧ b.dep ≤ n ∧ Q (b.ren d e).enc m
theorem app_d {m : Mu} {p : Addr} {a : List D} {d : D} {R : EK} (h : a.length ≤ 1000) (q : R .non (m.put p (.lst (a ++ [d])))) : rhoAppend (.ref p) [d] (m.put p (.lst a)) R :=
  ⟨p, _, _, rfl, Mu.put_same, rfl, szlt (by omega), by rw [Mu.put_put]; exact q⟩
theorem tup_d {m : Mu} {p : Addr} {a : List D} {Q : EK} (q : Q (.tup a) (m.put p (.lst a))) : rcTuple [.ref p] (m.put p (.lst a)) Q := by
  rw [ex_tuple_ref Mu.put_same]; exact q
theorem F_renamed_body (T : Txt K w mg) : ∀ n : Nat, FnD P w K mg base "renamed_body" (n + 1) (sp_ren_body n)
  | 0 => fnd_never T.d_renamed_body sc_renamed_body fun ds m Q ⟨b, _, _, _, h, _⟩ => by have := b.dep_pos; omega
  | n + 1 => by
    have nd := sc_renamed_body.nd
    have F := F_renamed_body T n
    refine fnd_ofZ T.d_renamed_body sc_renamed_body (fun ds m Q ⟨_, _, _, e, _⟩ => by rw [e]; rfl) fun f cdv A outer s H E hr => ⟨_, (ass_cons (as_asg (ae_lstM (aa_cons (ae_ix hr.u1 (ae_var 0) ae_int) aa_nil)) (ag_name 3 nd))
      (ass_cons (as_for PassesOwn.never rfl (ai_zipTS T.b_zip (aa_cons (ae_sl (ae_var 0) (ao_some ae_int) ao_none) (aa_cons (ae_kix T.t_ARMS (ae_ix hr.u1 (ae_var 0) ae_int)) aa_nil))) (ag_tup (n := 2) rfl (ags_cons (ag_name 4 nd) (ags_cons (ag_name 5 nd) ags_nil)))
      (ass_one (as_if (at_cmp (or_eq hr.units) (ae_var 5) ae_str (nomark _)) (ass_one (as_expr (ae_lm PySem.F.slot_list_append PySem.F.type_list_append mt_appendD (ae_var 3) (aa_cons (ae_call (F.mono (by omega)) hr (aa_cons (ae_var 4) (aa_cons (ae_var 1) (aa_cons (ae_var 2) aa_nil)))) aa_nil)))) (ass_one (as_expr (ae_lm PySem.F.slot_list_append PySem.F.type_list_append mt_appendD (ae_var 3) (aa_cons (ae_if (AW.t (aw_and (at_cmp (or_eq hr.units) (ae_var 5) ae_str (nomark _)) (aw_and1 (at_cmp (or_eq hr.units) (ae_var 4) (ae_var 1) (nomark _))))) (ae_var 2) (ae_var 4)) aa_nil)))))))
      (ass_one (as_ret (ae_callTy cr_tuple T.b_tuple boot_tuple (aa_cons (ae_var 3) aa_nil)))))), ?_⟩
    rintro _ m Q ⟨b, d, e, rfl, hd, q⟩
    have sub : ∀ (a : Bd) (m : Mu) (R : EK), a.dep + 1 ≤ b.dep → R (a.ren d e).enc m → sp_ren_body n [a.enc, .str (sg d), .str (sg e)] m R := fun a m R h1 q => ⟨a, d, e, rfl, by omega, q⟩
    have fin : ∀ (p : Addr) (r : D) (m1 : Mu), m p = none → Q r m → Sub m m1 → Fz Q r m1 := fun p r m1 hp q h => Fz.to h q
    cases b with
    | cal c a =>
      simp only [Bd.enc]
      walk_at "ry"
      intro p hp
      refine ⟨lst_at_put, ?_⟩
      by_cases h : c = d
      · rw [if_pos h]
        refine app_d (by simp) ⟨lst_at_put, sub a _ _ (by simp [Bd.dep]) (app_d (by simp) (tup_d (Fz.to (Sub.put hp) ?_)))⟩
        simpa [Bd.ren, h, Bd.enc] using q
      · rw [if_neg h]
        refine app_d (by simp) ⟨lst_at_put, sub a _ _ (by simp [Bd.dep]) (app_d (by simp) (tup_d (Fz.to (Sub.put hp) ?_)))⟩
        simpa [Bd.ren, h, Bd.enc] using q
    | un wd a =>
      simp only [Bd.enc]
      walk_at "ry"
      exact fun p hp => ⟨lst_at_put, sub a _ _ (by simp [Bd.dep]) (app_d (by simp) (tup_d (Fz.to (Sub.put hp) q)))⟩
    | bin wd a b =>
      simp only [Bd.enc]
      walk_at "ry"
      exact fun p hp => ⟨lst_at_put, sub a _ _ (by simp [Bd.dep]; omega) (app_d (by simp) ⟨lst_at_put, sub b _ _ (by simp [Bd.dep]; omega) (app_d (by simp) (tup_d (Fz.to (Sub.put hp) q)))⟩)⟩
    | ite a b c =>
      simp only [Bd.enc]
      walk_at "ry"
      exact fun p hp => ⟨lst_at_put, sub a _ _ (by simp [Bd.dep]; omega) (app_d (by simp) ⟨lst_at_put, sub b _ _ (by simp [Bd.dep]; omega) (app_d (by simp) ⟨lst_at_put, sub c _ _ (by simp [Bd.dep]; omega) (app_d (by simp) (tup_d (Fz.to (Sub.put hp) q)))⟩)⟩)⟩
    | set c a =>
      simp only [Bd.enc]
      walk_at "ry"
      exact fun p hp => ⟨lst_at_put, app_d (by simp) ⟨lst_at_put, sub a _ _ (by simp [Bd.dep]) (app_d (by simp) (tup_d (Fz.to (Sub.put hp) q)))⟩⟩
    | num i =>
      simp only [Bd.enc]
      walk_at "ry"
      exact fun p hp => ⟨lst_at_put, app_d (by simp) (tup_d (Fz.to (Sub.put hp) q))⟩
    | tru i =>
      simp only [Bd.enc]
      walk_at "ry"
      exact fun p hp => ⟨lst_at_put, app_d (by simp) (tup_d (Fz.to (Sub.put hp) q))⟩
    | cel i =>
      simp only [Bd.enc]
      walk_at "ry"
      exact fun p hp => ⟨lst_at_put, app_d (by simp) (tup_d (Fz.to (Sub.put hp) q))⟩
    | emp =>
      simp only [Bd.enc]
      walk_at "ry"
      exact fun p hp => tup_d (Fz.to (Sub.put hp) q)
    | arg =>
      simp only [Bd.enc]
      walk_at "ry"
      exact fun p hp => tup_d (Fz.to (Sub.put hp) q)
/-! ### a form renamed -/
theorem rows_flat {m : Mu} {p : Addr} {l : Gv} {a : Nat × Kd × Kd} {Q : EK} (hl : ∀ x ∈ l, deedC x.1) (ha : deedC a.1) (h : m p = some (.lst (l.map askD))) (q : Q (.bl (!decide (a ∈ l))) m) : rhoIn true (askD a) (.ref p) m Q :=
  .inl ⟨_, lst_lst h, .inr ⟨(ask_okD ha (n := 0)).eq (by omega), asks_ok hl⟩, by rw [inD_ask, Bool.true_xor]; exact q⟩
def sp_ren_form : SpD := fun ds m Q => ∃ (f : Fm) (d e : Nat), ds = [f.enc, .str (sg d), .str (sg e)] ∧ f.ok ∧ deedC e ∧ f.ns.length ≤ 1000 ∧ Q (f.ren d e).enc m
theorem F_renamed_form (T : Txt K w mg) : FnD P w K mg base "renamed_form" 13 sp_ren_form := by
  have nd := sc_renamed_form.nd
  refine fnd_ofZ T.d_renamed_form sc_renamed_form (fun ds m Q ⟨_, _, _, e, _⟩ => by rw [e]; rfl) fun f cdv A outer s H E hr => ⟨_, (ass_cons (as_asg (ae_var 0) (ag_tup (n := 5) rfl (ags_cons (ag_name 4 nd) (ags_cons (ag_name 5 nd) (ags_cons (ag_name 6 nd) (ags_cons (ag_name 7 nd) (ags_cons (ag_name 8 nd) ags_nil)))))))
      (ass_cons (as_asg (ae_lstM aa_nil) (ag_name 3 nd))
      (ass_cons (as_for PassesOwn.never rfl (ai_tup (ae_var 8)) (ag_tup (n := 3) rfl (ags_cons (ag_name 9 nd) (ags_cons (ag_name 10 nd) (ags_cons (ag_name 11 nd) ags_nil))))
      (ass_cons (as_asg (ae_tup (aa_cons (ae_if (at_cmp (or_eq hr.units) (ae_var 9) (ae_var 1) (nomark _)) (ae_var 2) (ae_var 9)) (aa_cons (ae_var 10) (aa_cons (ae_var 11) aa_nil)))) (ag_name 12 nd))
      (ass_one (as_if (at_cmp (or_nin hr.u65) (ae_var 12) (ae_var 3) (by rfl)) (ass_one (as_expr (ae_lm PySem.F.slot_list_append PySem.F.type_list_append mt_appendD (ae_var 3) (aa_cons (ae_var 12) aa_nil)))) ass_nil))))
      (ass_one (as_ret (ae_tup (aa_cons (ae_var 4) (aa_cons (ae_var 5) (aa_cons (ae_var 6) (aa_cons (ae_call ((F_renamed_body T 10).mono (by omega)) hr (aa_cons (ae_var 7) (aa_cons (ae_var 1) (aa_cons (ae_var 2) aa_nil)))) (aa_cons (ae_callTy cr_tuple T.b_tuple boot_tuple (aa_cons (ae_callB (cr_sortR rfl hr.u65) T.b_sorted boot_sorted (aa_cons (ae_var 3) aa_nil)) aa_nil)) aa_nil))))))))))), ?_⟩
  rintro _ m Q ⟨f, d, e, rfl, hf, he, hl, q⟩
  obtain ⟨pn, dn', tk, tl, b, ns⟩ := f
  simp only [Fm.enc]
  walk_at "ry"
  intro p hp
  refine for_inv (fun rest δ m' => ∃ (dn xs : Gv) (o1 o2 o3 o4 : Option D), ns = dn ++ xs ∧ rest = xs.map askD ∧ m' = m.put p (.lst ((dd (dn.map (ren1 d e))).map askD)) ∧ δ = [some (Fm.enc ⟨pn, dn', tk, tl, b, ns⟩), some (.str (sg d)), some (.str (sg e)), some (.ref p), some (.tup [.str (sg pn), .str (sg dn')]), some (.str tk.s), some (.str tl.s), some b.enc, some (.tup (ns.map askD)), o1, o2, o3, o4]) ?_ ?_ ⟨[], ns, none, none, none, none, rfl, rfl, rfl, rfl⟩
  · rintro x rest δ m' ⟨dn, xs, o1, o2, o3, o4, hs, e1, rfl, rfl⟩ nx hnx
    cases xs with
    | nil => cases e1
    | cons a xs =>
      rw [List.map_cons] at e1
      injection e1 with e1 e2
      subst e1
      have hd : ∀ x ∈ dd (dn.map (ren1 d e)), deedC x.1 := fun x hx => by
        obtain ⟨y, hy, rfl⟩ := List.mem_map.mp (dd_mem.mp hx)
        show deedC (if y.1 = d then e else y.1)
        split
        · exact he
        · exact hf.ns y (by show y ∈ ns; rw [hs]; simp [hy])
      have ha : deedC (ren1 d e a).1 := by
        show deedC (if a.1 = d then e else a.1)
        split
        · exact he
        · exact hf.ns a (by show a ∈ ns; rw [hs]; simp)
      have hlen : (dd (dn.map (ren1 d e))).length ≤ 1000 := by
        have := nodup_lenG (dd_nodup (dn.map (ren1 d e))) (fun z hz => dd_mem.mp hz)
        have h2 : ns.length = dn.length + (xs.length + 1) := by rw [hs]; simp
        rw [List.length_map] at this
        have hl' : ns.length ≤ 1000 := hl
        omega
      have step : ∀ R : EK, R .non (m.put p (.lst ((dd ((dn ++ [a]).map (ren1 d e))).map askD))) → rhoIn true (askD (ren1 d e a)) (.ref p) (m.put p (.lst ((dd (dn.map (ren1 d e))).map askD))) fun x m1 => ∃ c, x = .bl c ∧ if c = true then (∃ es, lstOf m1 (.ref p) = some es) ∧ rhoAppend (.ref p) [askD (ren1 d e a)] m1 R else R .non m1 := fun R r => by
        rw [List.map_append, List.map_cons, List.map_nil, dd_snoc] at r
        refine rows_flat hd ha Mu.put_same ⟨_, rfl, ?_⟩
        by_cases h : ren1 d e a ∈ dd (dn.map (ren1 d e))
        · rw [if_pos h] at r
          rw [decide_eq_true h, if_neg (by simp)]
          exact r
        · rw [if_neg h] at r
          rw [decide_eq_false h, if_pos (by simp)]
          exact ⟨lst_at_put, app_d (by rw [List.length_map]; exact hlen) (by rw [List.map_append] at r; exact r)⟩
      obtain ⟨a1, a2, a3⟩ := a
      simp only [askD]
      walk_at "ry"
      have go := fun o => step (fun _ m1 => nx [some (Fm.enc ⟨pn, dn', tk, tl, b, ns⟩), some (.str (sg d)), some (.str (sg e)), some (.ref p), some (.tup [.str (sg pn), .str (sg dn')]), some (.str tk.s), some (.str tl.s), some b.enc, some (.tup (ns.map askD)), some (.str (sg a1)), some (.str a2.s), some (.str a3.s), o] m1) (hnx _ _ ⟨dn ++ [(a1, a2, a3)], xs, _, _, _, o, by rw [hs]; simp, e2, rfl, rfl⟩)
      by_cases h : a1 = d
      · subst h
        rw [if_pos rfl]
        simp only [ren1, if_true, askD] at go
        exact go _
      · rw [if_neg h]
        simp only [ren1, h, if_false, askD] at go
        exact go _
  · rintro δ m' ⟨dn, xs, o1, o2, o3, o4, hs, e1, rfl, rfl⟩
    cases xs with
    | cons x xs => cases e1
    | nil =>
      rw [List.append_nil] at hs
      subst hs
      walk_at "ry"
      refine ⟨b, d, e, rfl, hf.dep, ?_⟩
      walk_at "ry"
      refine ⟨_, (dd (ns.map (ren1 d e))).map askS, rfl, by rw [lst_lst Mu.put_same, List.map_map]; rfl, fun r hr => by obtain ⟨x, _, rfl⟩ := List.mem_map.mp hr; simp [askS], ?_⟩
      rw [← nsort_rows, List.map_map]
      show rcTuple [.lst _] _ _
      rw [ex_tuple_lst]
      exact Fz.to (Sub.put hp) q
end K16
/-! sheaves -/
namespace K16
open PySem PySem.Spec PyProof.Rows L2 L3
variable {P : Program} {w : World} {K : PySem.W.Frag} {mg : Str → Option Value} {base : Heap}
local macro_rules | `(tactic| walk_at "rz") => `(tactic| simp only [ gSubD, aLM, aLstM, lcStep, aFld, aSFld, aMeth, aMake, aDNew, aDNewM, sg_inj, D.ref.injEq, aRet, aRetN, aDrop, aIfS, aSeq, aNext, aAsg, gNm, gTupD, gConsD, gNilD, aFor, ex_var0, ex_varS, aC, aOp, aCall, aCons, aNil, aTup, aLst, aB, aAnd, aOr, aNot, aAndV, aOrV, aNotV, aIf, aNeg, aChain, aKix, aKGet1, aKGet2, aDGet1, aDGet2, aNoPart, aPart, aSl, aList, aTupI, aStrI, aZipS, aYes, aLc, aNever, aBreak, aCont, forGo, lcGo,
  isi_str_str, isi_str_int, isi_str_bool, isi_str_tuple, isi_str_list, isi_int_str, isi_int_int, isi_int_bool, isi_int_tuple, isi_int_list, isi_bl_str, isi_bl_int, isi_bl_bool, isi_bl_tuple, isi_bl_list, isi_non_str, isi_non_int, isi_non_bool, isi_non_tuple, isi_non_list, isi_tup_str, isi_tup_int, isi_tup_bool, isi_tup_tuple, isi_tup_list, isi_lst_str, isi_lst_int, isi_lst_bool, isi_lst_tuple, isi_lst_list, isi_dct_str, isi_dct_int, isi_dct_bool, isi_dct_tuple, isi_dct_list, isi2_str, isi2_int, isi2_bl, isi2_non, isi2_tup, isi2_lst, isi2_dct, Option.getD_some, Option.getD_none, D.isNon, sz_0, sz_1, sz_2, sz_3, sz_4, sz_5, sz_6, sz_7, sz_8, sz_9, sz_10, sz_11, sz_12, sz_13, sz_14, sz_15, sz_16, sg_len, ex_in_sg, ex_len_str, ex_len_tup, ex_len_lst, ex_eq_str, ex_ne_str, ex_eq_int, ex_ne_int, ex_eq_ns, ex_eq_sn, ex_eq_nn, ex_ne_ns, ex_ne_sn, ex_ne_nn, ex_I, ex_add_int, ex_add_str, ex_add_tup, ex_add_lst, ex_sub, ex_mul, ex_mod, ex_div, ex_isN, ex_notN, ex_ix_tup, ex_ix_lst, ex_sl_tup, ex_sl_lst, ex_sl_str, ex_tuple_lst,
  ofs_inj, String.reduceEq, atI_0, atI_1, atI_2, atI_3, cut_1, cut_13, startD, wipeD, List.map_cons, List.map_nil, List.length_cons, List.length_nil, List.cons_append, List.nil_append, List.replicate_succ, List.replicate_zero, List.set_cons_zero, List.set_cons_succ, Nat.reduceAdd, Nat.reduceSub, Nat.sub_self,
  D.bl.injEq, D.int.injEq, D.str.injEq, D.tup.injEq, D.lst.injEq, D.dct.injEq, Option.some.injEq, List.cons.injEq, and_assoc, Int.cast_ofNat_Int, Int.reduceAdd, Int.reduceSub, Int.reduceMul, Int.reduceNeg, Int.reduceEq, Int.reduceLT, Int.reduceLE, Int.reduceNe, eq_self, exists_eq_left, exists_eq_left', exists_eq_right, exists_eq, exists_const, exists_false, false_and, and_false, false_or, or_false, true_and, and_true, if_true, if_false, Bool.false_eq_true, Bool.not_true, Bool.not_false, ite_true, ite_false, reduceCtorEq, decide_true, decide_false, decide_eq_true_eq, exists_and_left, Bool.not_eq_true])

def shc (K : PySem.W.Frag) (dx : Addr) (a b : D) : Cell := .ins (He.ga K "Sheaf") dx [("by_deed", a), ("by_cell", b)]
def sp_sinit (K : PySem.W.Frag) : SpD := fun ds m Q => ∃ (x dx : Addr) (a b : D), ds = [.ref x, a, b] ∧ m x = some (.ins (He.ga K "Sheaf") dx []) ∧ Q .non (m.put x (shc K dx a b))
theorem I_Sheaf (T : Txt K w mg) : FnI P w K mg base (He.ga K "Sheaf") 1 (sp_sinit K) := by
  have nd := sc_Sheaf_init.nd
  refine fni_ofZ T.i_Sheaf sc_Sheaf_init (fun ds m Q ⟨_, _, _, _, e, _⟩ => by rw [e]; rfl) fun f cdv A outer s H E hr => ⟨_, (ass_cons (as_fld T.k_Sheaf.c (T.k_Sheaf.n "by_deed" (by simp)) (ae_var 0) (ae_var 1))
      (ass_one (as_fld T.k_Sheaf.c (T.k_Sheaf.n "by_cell" (by simp)) (ae_var 0) (ae_var 2)))), ?_⟩
  rintro _ m Q ⟨x, dx, a, b, rfl, hx, q⟩
  walk_at "rz"
  refine ⟨_, _, hx, by decide, _, _, Mu.put_same, Nat.lt_of_le_of_lt putFD_len (by decide), ?_⟩
  rw [Mu.put_put]
  exact Fz.now q
theorem put_other {m : Mu} {x p : Addr} {c d e : Cell} (hx : m x = some c) (hp : m p = some d) (n : c ≠ d) : m.put p e x = some c := by
  rw [Mu.put_ne (fun z => n (by rw [z, hp] at hx; cases hx; rfl))]; exact hx
theorem in_fms {m : Mu} {fs : List Fm} {f : Fm} {b : Bool} {Q : EK} (hl : ∀ x ∈ fs, x.ok) (hf : f.ok) (q : Q (.bl (b ^^ decide (f ∈ fs))) m) : rhoIn b f.enc (.lst (fs.map Fm.enc)) m Q :=
  .inl ⟨_, rfl, .inr ⟨(Fm.okD hf).eq (by omega), fms_ok hl⟩, by rw [inD_fm]; exact q⟩
def fmNot (xs : List Fm) (d : D) : Option D := if inD d (xs.map Fm.enc) = true then none else some d
theorem fmNot_map (xs : List Fm) : ∀ ys : List Fm, (ys.map Fm.enc).filterMap (fmNot xs) = (ys.filter fun y => decide (y ∉ xs)).map Fm.enc
  | [] => rfl
  | y :: ys => by
    rw [List.map_cons, List.filterMap_cons, fmNot_map xs ys, List.filter_cons]
    unfold fmNot
    rw [inD_fm]
    by_cases h : y ∈ xs <;> simp [h]
def kdNot (xs : List Kd) (d : D) : Option D := if inD d (ksD xs) = true then none else some d
theorem kdNot_map (xs : List Kd) : ∀ ys : List Kd, (ksD ys).filterMap (kdNot xs) = ksD (ys.filter fun y => decide (y ∉ xs))
  | [] => rfl
  | y :: ys => by
    rw [show ksD (y :: ys) = D.str y.s :: ksD ys from rfl, List.filterMap_cons, kdNot_map xs ys, List.filter_cons]
    unfold kdNot
    rw [inD_kd]
    by_cases h : y ∈ xs <;> simp [h, ksD]
theorem ksD_app {a b : List Kd} : ksD (a ++ b) = ksD a ++ ksD b := List.map_append
theorem ksD_flat (ks : List Kd) : (ksD ks).all D.flat = true := by simp [ksD, D.flat]
def sp_with_forms (K : PySem.W.Frag) : SpD := fun ds m Q => ∃ (x dx p : Addr) (c : Nat) (fs : List Fm) (s : Fms) (b : D), ds = [.ref x, .str (sg c), .lst (fs.map Fm.enc)] ∧ m x = some (shc K dx (.ref p) b) ∧ m p = some (.dct (shD s)) ∧
  (∀ f ∈ fs, f.ok) ∧ (∀ f ∈ (lk s c).getD [], f.ok) ∧ ((lk s c).getD []).length + fs.length ≤ 100000 ∧ s.length ≤ 1000 ∧ Q .non (m.put p (.dct (shD (addA s c fs))))
theorem M_Sheaf_with_forms (T : Txt K w mg) : FnM P w K mg base (He.ga K "Sheaf") "with_forms" 1 (sp_with_forms K) := by
  have nd := sc_Sheaf_with_forms.nd
  refine fnm_ofZ T.m_Sheaf_with_forms sc_Sheaf_with_forms (fun ds m Q ⟨_, _, _, _, _, _, _, e, _⟩ => by rw [e]; rfl) fun f cdv A outer s H E hr => ⟨_, (ass_cons (as_asg (ae_dget2 hr.u1 (ae_fld T.k_Sheaf.c (T.k_Sheaf.n "by_deed" (by simp)) (ae_var 0)) (ae_var 1) (ae_lst aa_nil)) (ag_name 3 nd))
      (ass_one (as_asg (ae_op or_add (ae_var 3) (ae_lc (own := [("form", 4)]) rfl nd (ai_list (ae_var 2)) (blkOk_by (own := [("form", 4)]) (by kernel_rfl)) (gg_name (i := 4) (by simp)) (fun _ _ _ _ _ => (pg_name (i := 4) nd rfl (Or.inl rfl))) (fun _ _ _ _ _ => (ats_one (at_cmp (or_nin hr.u65) (ae_var 4) (ae_var 3) (by rfl)))) (fun _ _ _ _ _ => (ae_var 4)))) (ag_sub hr.u1 (ae_fld T.k_Sheaf.c (T.k_Sheaf.n "by_deed" (by simp)) (ae_var 0)) (ae_var 1))))), ?_⟩
  rintro _ m Q ⟨x, dx, p, c, fs, s, b, rfl, hx, hp, h1, h2, h3, h4, q⟩
  walk_at "rz"
  refine ⟨_, _, hx, _, rfl, ⟨_, dct_dct hp⟩, _, dct_dct hp, _, rfl, ?_⟩
  have e1 : ((getK (shD s) (.inr (sg c))).getD (.lst [])) = .lst (((lk s c).getD []).map Fm.enc) := by
    rw [shD_as, getK_as]
    cases lk s c <;> rfl
  rw [e1]
  refine ⟨szl (by rw [List.length_map]; omega), lc_pure (fmNot ((lk s c).getD [])) (fun d hd R q => ?_) ?_⟩
  · obtain ⟨f, hf, rfl⟩ := List.mem_map.mp hd
    walk_at "rz"
    refine in_fms h2 (h1 f hf) ⟨_, rfl, ?_⟩
    unfold fmNot at q
    rw [inD_fm] at q
    by_cases h : f ∈ (lk s c).getD []
    · rw [if_pos (decide_eq_true h)] at q
      rw [decide_eq_true h, if_neg (by simp)]
      exact q
    · rw [decide_eq_false h, if_neg (by simp)] at q
      rw [decide_eq_false h, if_pos (by simp)]
      exact q
  · rw [List.nil_append, fmNot_map, ex_add_lst]
    have hf : (fs.filter fun y => decide (y ∉ (lk s c).getD [])).length ≤ fs.length := List.length_filter_le _ _
    refine ⟨szl (by rw [List.length_map, List.length_map]; omega), _, _, hx, _, rfl, p, rfl, .inr ⟨_, _, hp, rfl, szlt (by rw [shD_as, asD_len]; omega), ?_⟩⟩
    rw [← List.map_append]
    have e2 : putD (shD s) (.inr (sg c)) (.lst (List.map Fm.enc (((lk s c).getD []) ++ fs.filter fun y => decide (y ∉ (lk s c).getD [])))) = shD (addA s c fs) := putD_as fmsD s c _
    rw [e2]
    exact Fz.now q
def sp_with_cells (K : PySem.W.Frag) : SpD := fun ds m Q => ∃ (x dx p r : Addr) (s t : Cks) (b : D), ds = [.ref x, .ref r] ∧ m x = some (shc K dx b (.ref p)) ∧ m p = some (.dct (csD s)) ∧ m r = some (.dct (csD t)) ∧ p ≠ r ∧ (t.map (·.1)).Nodup ∧
  s.length + t.length ≤ 1000 ∧ (∀ a ∈ s, a.2.Nodup) ∧ (∀ a ∈ t, a.2.Nodup) ∧ Q .non (m.put p (.dct (csD (bothA s t))))
theorem M_Sheaf_with_cells (T : Txt K w mg) : FnM P w K mg base (He.ga K "Sheaf") "with_cells" 1 (sp_with_cells K) := by
  have nd := sc_Sheaf_with_cells.nd
  refine fnm_ofZ T.m_Sheaf_with_cells sc_Sheaf_with_cells (fun ds m Q ⟨_, _, _, _, _, _, _, e, _⟩ => by rw [e]; rfl) fun f cdv A outer s H E hr => ⟨_, (ass_one (as_forK PassesOwn.never rfl (ae_var 1) (ag_name 2 nd)
      (ass_cons (as_asg (ae_dget2 hr.u1 (ae_fld T.k_Sheaf.c (T.k_Sheaf.n "by_cell" (by simp)) (ae_var 0)) (ae_var 2) (ae_lst aa_nil)) (ag_name 3 nd))
      (ass_one (as_asg (ae_op or_add (ae_var 3) (ae_lc (own := [("kind", 4)]) rfl nd (ai_list (ae_ix hr.u1 (ae_var 1) (ae_var 2))) (blkOk_by (own := [("kind", 4)]) (by kernel_rfl)) (gg_name (i := 4) (by simp)) (fun _ _ _ _ _ => (pg_name (i := 4) nd rfl (Or.inl rfl))) (fun _ _ _ _ _ => (ats_one (at_cmp (or_nin hr.u65) (ae_var 4) (ae_var 3) (by rfl)))) (fun _ _ _ _ _ => (ae_var 4)))) (ag_sub hr.u1 (ae_fld T.k_Sheaf.c (T.k_Sheaf.n "by_cell" (by simp)) (ae_var 0)) (ae_var 2))))))), ?_⟩
  rintro _ m Q ⟨x, dx, p, r, s, t, b, rfl, hx, hp, hr', hne, hnd, hl, h1, h2, q⟩
  have nxp : x ≠ p := fun z => by rw [z, hp] at hx; cases hx
  have nxr : x ≠ r := fun z => by rw [z, hr'] at hx; cases hx
  walk_at "rz"
  refine forK hr' (fun rest δ m' => ∃ (dn xs : Cks) (o1 o2 : Option D), t = dn ++ xs ∧ rest = strD ((xs.map (·.1)).map sg) ∧ m' = m.put p (.dct (csD (bothA s dn))) ∧ δ = [some (.ref x), some (.ref r), o1, o2, none]) ?_ ?_ ⟨[], t, none, none, rfl, by rw [csD_as, keysD_as], (put_self hp).symm, rfl⟩ ?_ ?_
  · rintro rest δ m' ⟨dn, xs, o1, o2, _, _, rfl, _⟩
    rw [Mu.put_ne hne.symm]; exact hr'
  · intro od vs Q q
    walk_at "rz"
    exact q
  · rintro od vs d rest δ m' ⟨dn, xs, o1, o2, ht, e1, rfl, rfl⟩ nx hnx
    cases xs with
    | nil => cases e1
    | cons a xs =>
      rw [List.map_cons, List.map_cons, show ∀ (y : Str) l, strD (y :: l) = D.str y :: strD l from fun _ _ => rfl] at e1
      injection e1 with e1 e2
      subst e1
      have hsz : (bothA s dn).length ≤ s.length + dn.length := bothA_len
      have hb := bothA_nd (r := dn) h1 fun a ha => h2 a (by rw [ht]; simp [ha])
      have htl : t.length = dn.length + (xs.length + 1) := by rw [ht]; simp
      have hx1 : lkd (m.put p (.dct (csD (bothA s dn)))) r od vs (csD t) x = some (shc K dx b (.ref p)) := by rw [lkd_ne nxr, Mu.put_ne nxp]; exact hx
      have hp1 : lkd (m.put p (.dct (csD (bothA s dn)))) r od vs (csD t) p = some (.dct (csD (bothA s dn))) := by rw [lkd_ne hne, Mu.put_same]
      have hg : getK (csD t) (.inr (sg a.1)) = some (kdsD a.2) := by
        rw [csD_as, getK_as, lk_of_mem hnd (by rw [ht]; simp : (a.1, a.2) ∈ t)]; rfl
      have e3 : ((getK (csD (bothA s dn)) (.inr (sg a.1))).getD (.lst [])) = .lst (ksD ((lk (bothA s dn) a.1).getD [])) := by
        rw [csD_as, getK_as]
        cases lk (bothA s dn) a.1 <;> rfl
      have hl2 : ((lk (bothA s dn) a.1).getD []).length ≤ 1000 := by
        cases e : lk (bothA s dn) a.1 with
        | none => simp
        | some ks => exact Nat.le_trans (kds_len (hb (a.1, ks) (lk_some e))) (by omega)
      have ha3 : a.2.length ≤ 3 := kds_len (h2 a (by rw [ht]; simp))
      walk_at "rz"
      refine ⟨_, _, hx1, _, rfl, ⟨_, dct_dct hp1⟩, _, dct_dct hp1, _, rfl, ?_⟩
      rw [e3]
      refine ix_dref (dct_dfz Mu.put_same) hg ⟨_, rfl, szl (by simp [ksD]; omega), lc_pure (kdNot ((lk (bothA s dn) a.1).getD [])) (fun d hd R q => ?_) ?_⟩
      · obtain ⟨k, hk, rfl⟩ := List.mem_map.mp hd
        walk_at "rz"
        rw [ex_in_lst fl_str (ksD_flat _), inD_kd]
        refine ⟨_, rfl, ?_⟩
        unfold kdNot at q
        rw [inD_kd] at q
        by_cases h : k ∈ (lk (bothA s dn) a.1).getD []
        · rw [if_pos (decide_eq_true h)] at q
          rw [decide_eq_true h, if_neg (by simp)]
          exact q
        · rw [decide_eq_false h, if_neg (by simp)] at q
          rw [decide_eq_false h, if_pos (by simp)]
          exact q
      · rw [List.nil_append, kdNot_map, ex_add_lst]
        have hf : (a.2.filter fun y => decide (y ∉ (lk (bothA s dn) a.1).getD [])).length ≤ a.2.length := List.length_filter_le _ _
        refine ⟨szl (by simp only [ksD, List.length_map]; omega), _, _, hx1, _, rfl, p, rfl, .inr ⟨_, _, hp1, rfl, szlt (by rw [csD_as, asD_len]; omega), ?_⟩⟩
        have e4 : putD (csD (bothA s dn)) (.inr (sg a.1)) (.lst (ksD ((lk (bothA s dn) a.1).getD []) ++ ksD (a.2.filter fun y => decide (y ∉ (lk (bothA s dn) a.1).getD [])))) = csD (bothA s (dn ++ [a])) := by
          rw [bothA_snoc, ← ksD_app]
          exact putD_as kdsD (bothA s dn) a.1 (addF ((lk (bothA s dn) a.1).getD []) a.2)
        rw [e4, Mu.put_comm hne.symm, Mu.put_put]
        exact hnx _ _ ⟨dn ++ [a], xs, _, _, by rw [ht]; simp, e2, rfl, rfl⟩
  · rintro δ m' ⟨dn, xs, o1, o2, ht, e1, rfl, rfl⟩
    cases xs with
    | cons x xs => cases e1
    | nil =>
      rw [List.append_nil] at ht
      subst ht
      exact Fz.now q
end K16
/-! what is put together -/
namespace K16
open PySem PySem.Spec PyProof.Rows L2 L3
variable {P : Program} {w : World} {K : PySem.W.Frag} {mg : Str → Option Value} {base : Heap}
local macro_rules | `(tactic| walk_at "rz") => `(tactic| simp only [ gSubD, aLM, aLstM, lcStep, aFld, aSFld, aMeth, aMake, aDNew, aDNewM, sg_inj, D.ref.injEq, dctOf_dct, keyD_str, ex_in_dcts, ex_ix_dcts, getK_gv, isSome_gv, aRet, aRetN, aDrop, aIfS, aSeq, aNext, aAsg, gNm, gTupD, gConsD, gNilD, aFor, ex_var0, ex_varS, aC, aOp, aCall, aCons, aNil, aTup, aLst, aB, aAnd, aOr, aNot, aAndV, aOrV, aNotV, aIf, aNeg, aChain, aKix, aKGet1, aKGet2, aDGet1, aDGet2, aNoPart, aPart, aSl, aList, aTupI, aStrI, aZipS, aYes, aLc, aNever, aBreak, aCont, forGo, lcGo,
  isi_str_str, isi_str_int, isi_str_bool, isi_str_tuple, isi_str_list, isi_int_str, isi_int_int, isi_int_bool, isi_int_tuple, isi_int_list, isi_bl_str, isi_bl_int, isi_bl_bool, isi_bl_tuple, isi_bl_list, isi_non_str, isi_non_int, isi_non_bool, isi_non_tuple, isi_non_list, isi_tup_str, isi_tup_int, isi_tup_bool, isi_tup_tuple, isi_tup_list, isi_lst_str, isi_lst_int, isi_lst_bool, isi_lst_tuple, isi_lst_list, isi_dct_str, isi_dct_int, isi_dct_bool, isi_dct_tuple, isi_dct_list, isi2_str, isi2_int, isi2_bl, isi2_non, isi2_tup, isi2_lst, isi2_dct, Option.getD_some, Option.getD_none, D.isNon, sz_0, sz_1, sz_2, sz_3, sz_4, sz_5, sz_6, sz_7, sz_8, sz_9, sz_10, sz_11, sz_12, sz_13, sz_14, sz_15, sz_16, sg_len, ex_in_sg, ex_len_str, ex_len_tup, ex_len_lst, ex_eq_str, ex_ne_str, ex_eq_int, ex_ne_int, ex_eq_ns, ex_eq_sn, ex_eq_nn, ex_ne_ns, ex_ne_sn, ex_ne_nn, ex_I, ex_add_int, ex_add_str, ex_add_tup, ex_add_lst, ex_sub, ex_mul, ex_mod, ex_div, ex_isN, ex_notN, ex_ix_tup, ex_ix_lst, ex_sl_tup, ex_sl_lst, ex_sl_str, ex_tuple_lst,
  ofs_inj, String.reduceEq, atI_0, atI_1, atI_2, atI_3, cut_1, cut_13, startD, wipeD, List.map_cons, List.map_nil, List.length_cons, List.length_nil, List.cons_append, List.nil_append, List.replicate_succ, List.replicate_zero, List.set_cons_zero, List.set_cons_succ, Nat.reduceAdd, Nat.reduceSub, Nat.sub_self,
  D.bl.injEq, D.int.injEq, D.str.injEq, D.tup.injEq, D.lst.injEq, D.dct.injEq, Option.some.injEq, List.cons.injEq, and_assoc, Int.cast_ofNat_Int, Int.reduceAdd, Int.reduceSub, Int.reduceMul, Int.reduceNeg, Int.reduceEq, Int.reduceLT, Int.reduceLE, Int.reduceNe, eq_self, exists_eq_left, exists_eq_left', exists_eq_right, exists_eq, exists_const, exists_false, false_and, and_false, false_or, or_false, true_and, and_true, if_true, if_false, Bool.false_eq_true, Bool.not_true, Bool.not_false, ite_true, ite_false, reduceCtorEq, decide_true, decide_false, decide_eq_true_eq, exists_and_left, Bool.not_eq_true])

/-- a sheaf new in the store -/
def newSh (K : PySem.W.Frag) (m : Mu) (x dx p q : Addr) (s : Sh) : Mu := ((m.put p (.dct (shD s.ds))).put q (.dct (csD s.cs))).put x (shc K dx (.ref p) (.ref q))
structure Fr3 (m : Mu) (x p q : Addr) : Prop where
  hx : m x = none
  hp : m p = none
  hq : m q = none
  xp : x ≠ p
  xq : x ≠ q
  pq : p ≠ q
section
variable {m : Mu} {x dx p q : Addr} {s : Sh}
theorem newSh_x : newSh K m x dx p q s x = some (shc K dx (.ref p) (.ref q)) := Mu.put_same
theorem newSh_p (f : Fr3 m x p q) : newSh K m x dx p q s p = some (.dct (shD s.ds)) := by unfold newSh; rw [Mu.put_ne f.xp.symm, Mu.put_ne f.pq, Mu.put_same]
theorem newSh_q (f : Fr3 m x p q) : newSh K m x dx p q s q = some (.dct (csD s.cs)) := by unfold newSh; rw [Mu.put_ne f.xq.symm, Mu.put_same]
theorem newSh_ne {a : Addr} (hx : a ≠ x) (hp : a ≠ p) (hq : a ≠ q) : newSh K m x dx p q s a = m a := by unfold newSh; rw [Mu.put_ne hx, Mu.put_ne hq, Mu.put_ne hp]
theorem newSh_sub (f : Fr3 m x p q) : Sub m (newSh K m x dx p q s) := fun a c h => by
  rw [newSh_ne (fun z => by rw [z, f.hx] at h; cases h) (fun z => by rw [z, f.hp] at h; cases h) (fun z => by rw [z, f.hq] at h; cases h)]; exact h
theorem newSh_none (f : Fr3 m x p q) {a : Addr} (h : newSh K m x dx p q s a = none) : m a = none ∧ a ≠ x ∧ a ≠ p ∧ a ≠ q := by
  have h1 : a ≠ x := fun z => by rw [z, newSh_x] at h; cases h
  have h2 : a ≠ p := fun z => by rw [z, newSh_p f] at h; cases h
  have h3 : a ≠ q := fun z => by rw [z, newSh_q f] at h; cases h
  exact ⟨by rw [newSh_ne h1 h2 h3] at h; exact h, h1, h2, h3⟩
theorem newSh_d (f : Fr3 m x p q) (ds : Fms) : (newSh K m x dx p q s).put p (.dct (shD ds)) = newSh K m x dx p q ⟨ds, s.cs⟩ := by
  unfold newSh
  rw [Mu.put_comm f.xp, Mu.put_comm f.pq.symm, Mu.put_put]
theorem newSh_c (f : Fr3 m x p q) (cs : Cks) : (newSh K m x dx p q s).put q (.dct (csD cs)) = newSh K m x dx p q ⟨s.ds, cs⟩ := by
  unfold newSh
  rw [Mu.put_comm f.xq, Mu.put_put]
end
def needF (gv : Gv) : D → Option D
  | .str x => (lk gv (un x)).map fun p => askD (un x, p)
  | _ => none
theorem needF_map (gv : Gv) : ∀ cs : List Nat, (strD (cs.map sg)).filterMap (needF gv) = (gvOf gv cs).map askD
  | [] => rfl
  | c :: cs => by
    have ih := needF_map gv cs
    show (D.str (sg c) :: strD (cs.map sg)).filterMap (needF gv) = (List.filterMap _ (c :: cs)).map askD
    rw [List.filterMap_cons, List.filterMap_cons, ih]
    have e : needF gv (.str (sg c)) = (lk gv c).map fun p => askD (c, p) := by
      show (lk gv (un (sg c))).map _ = _
      rw [un_sg]
    rw [e]
    cases lk gv c <;> rfl
def sp_of_part (K : PySem.W.Frag) : SpD := fun ds m Q => ∃ pt : Part, ds = [pt.enc] ∧ pt.ok ∧ ∀ x dx p q, Fr3 m x p q → Q (.ref x) (newSh K m x dx p q (shOf pt))
def shRow (pt : Part) (d : Deed) : Nat × List Fm := (d.c, [⟨pt.nm, d.c, d.tk, d.tl, d.b, gvOf pt.gv (srt d.b.cin)⟩])
theorem putA_new {α : Type} {l : List (Nat × α)} {c : Nat} {x : α} (h : c ∉ l.map (·.1)) : putA l c x = l ++ [(c, x)] := by
  unfold putA
  rw [if_neg]
  intro z
  obtain ⟨p, hp, e⟩ := List.any_eq_true.mp z
  exact h (List.mem_map.mpr ⟨p, hp, of_decide_eq_true e⟩)
theorem F_of_part (T : Txt K w mg) : FnD P w K mg base "of_part" 14 (sp_of_part K) := by
  have nd := sc_of_part.nd
  refine fnd_ofZ T.d_of_part sc_of_part (fun ds m Q ⟨_, e, _⟩ => by rw [e]; rfl) fun f cdv A outer s H E hr => ⟨_, (ass_cons (as_asg (ae_call ((F_given_in T).mono (by omega)) hr (aa_cons (ae_var 0) aa_nil)) (ag_name 1 nd))
      (ass_cons (as_asg ae_dnewM (ag_name 2 nd))
      (ass_cons (as_for PassesOwn.never rfl (ai_tup (ae_ix hr.u1 (ae_var 0) ae_int)) (ag_tup (n := 4) rfl (ags_cons (ag_name 3 nd) (ags_cons (ag_name 4 nd) (ags_cons (ag_name 5 nd) (ags_cons (ag_name 6 nd) ags_nil)))))
      (ass_cons (as_setLc (i := 7) (own := [("other", 8)]) rfl nd rfl rfl (sw_true rfl rfl rfl (by decide +kernel)) (ai_list (ae_callB cr_sorted T.b_sorted boot_sorted (aa_cons (ae_call ((F_calls_in T 10).mono (by omega)) hr (aa_cons (ae_var 6) aa_nil)) aa_nil))) (blkOk_by (own := [("other", 8)]) (by kernel_rfl)) (gg_name (i := 8) (by simp)) (fun _ _ _ _ _ => (pg_name (i := 8) nd rfl (Or.inl rfl))) (fun _ _ _ _ _ => (ats_one (at_cmp (or_in1 hr.u65) (ae_var 8) (ae_var 1) (by rfl)))) (fun _ _ _ _ _ => (ae_op or_add (ae_tup (aa_cons (ae_var 8) aa_nil)) (ae_ix hr.u1 (ae_var 1) (ae_var 8)))))
      (ass_one (as_asg (ae_lst (aa_cons (ae_tup (aa_cons (ae_tup (aa_cons (ae_ix hr.u1 (ae_var 0) ae_int) (aa_cons (ae_var 3) aa_nil))) (aa_cons (ae_var 4) (aa_cons (ae_var 5) (aa_cons (ae_var 6) (aa_cons (ae_callTy cr_tuple T.b_tuple boot_tuple (aa_cons (ae_var 7) aa_nil)) aa_nil)))))) aa_nil)) (ag_sub hr.u1 (ae_var 2) (ae_var 3))))))
      (ass_one (as_ret (ae_make ((I_Sheaf T).mono (by omega)) hr T.k_Sheaf.g (aa_cons (ae_var 2) (aa_cons (ae_callTy cr_dictM T.b_dict boot_dict (aa_cons (ae_lc (own := [("cell", 9), ("kind", 10)]) rfl nd (ai_tup (ae_ix hr.u1 (ae_var 0) ae_int)) (blkOk_by (own := [("cell", 9), ("kind", 10)]) (by kernel_rfl)) (gg_tup (n := 2) (ggs_cons (gg_name (i := 9) (by simp)) (ggs_cons (gg_name (i := 10) (by simp)) ggs_nil))) (fun _ _ _ _ _ => (pg_tup (n := 2) rfl (pgs_cons (pg_name (i := 9) nd rfl (Or.inl rfl)) (pgs_cons (pg_name (i := 10) nd rfl (Or.inl rfl)) pgs_nil)))) (fun _ _ _ _ _ => ats_nil) (fun _ _ _ _ _ => (ae_tup (aa_cons (ae_var 9) (aa_cons (ae_lst (aa_cons (ae_var 10) aa_nil)) aa_nil))))) aa_nil)) aa_nil)))))))), ?_⟩
  rintro _ m Q ⟨pt, rfl, hok, q⟩
  have dr := hok.dr.nodup
  simp only [Part.enc]
  walk_at "rz"
  refine ⟨pt, rfl, hok, ?_⟩
  walk_at "rz"
  intro p hp
  have fin : ∀ o3 o4 o5 o6 o7, aRet (aMake (He.ga K "Sheaf") (sp_sinit K) (aCons (aVar 2) (aCons (aCall rcDictM (aCons (aLc (aTupI (aOp rhoIx (aVar 0) (aC (D.int 3)))) (gTupD 2 (gConsD (gNm 9) (gConsD (gNm 10) gNilD))) aYes (aTup (aCons (aVar 9) (aCons (aLst (aCons (aVar 10) aNil)) aNil))) [9, 10]) aNil)) aNil)))
      (endsZ Q) [some pt.enc, some (.dct (gvD pt.gv)), some (.ref p), o3, o4, o5, o6, o7, none, none, none] (m.put p (.dct (shD (shOf pt).ds))) := fun o3 o4 o5 o6 o7 => by
    simp only [Part.enc]
    walk_at "rz"
    have hcl := hok.cl
    refine ⟨szl (by rw [List.length_map]; omega), lc_map celD (fun c => L3.pairD (.inr (sg c.1), .lst [.str c.2.s])) (fun c hc R q => ?_) ?_⟩
    · simp only [celD]
      walk_at "rz"
      exact q
    · rw [List.nil_append]
      refine ⟨_, pt.cs.map fun c => (.inr (sg c.1), .lst [.str c.2.s]), rfl, by rw [List.map_map]; rfl, fun r hr => ?_⟩
      have em : mergeD [] (pt.cs.map fun c => ((.inr (sg c.1) : Key), D.lst [.str c.2.s])) = csD (shOf pt).cs := by
        have e : (pt.cs.map fun c => ((.inr (sg c.1) : Key), D.lst [.str c.2.s])) = csD (shOf pt).cs := by
          show _ = List.map _ (List.map _ pt.cs)
          rw [List.map_map]; rfl
        rw [e]
        refine merge_nil ?_
        rw [csD_as, asD_keys]
        refine key_nodup ?_
        show ((pt.cs.map fun c => (c.1, [c.2])).map (·.1)).Nodup
        rw [List.map_map]
        exact hok.cr.nodup
      rw [em]
      walk_at "rz"
      intro x dx hx hdx hne
      have n1 : r ≠ p := fun z => by rw [z, Mu.put_same] at hr; cases hr
      have n2 : x ≠ r := fun z => by rw [z, Mu.put_same] at hx; cases hx
      have n3 : x ≠ p := fun z => by rw [z, Mu.put_ne n1.symm, Mu.put_same] at hx; cases hx
      rw [Mu.put_ne n1] at hr
      rw [Mu.put_ne n2, Mu.put_ne n3] at hx
      refine ⟨x, dx, _, _, rfl, Mu.put_same, rfl, ?_⟩
      rw [Mu.put_put]
      exact Fz.now (q x dx p r ⟨hx, hp, hr, n3, n2, n1.symm⟩)
  refine for_inv (fun rest δ m' => ∃ (dn xs : List Deed) (o3 o4 o5 o6 o7 : Option D), pt.ds = dn ++ xs ∧ rest = xs.map Deed.enc ∧ m' = m.put p (.dct (shD (dn.map (shRow pt)))) ∧ δ = [some pt.enc, some (.dct (gvD pt.gv)), some (.ref p), o3, o4, o5, o6, o7, none, none, none]) ?_ ?_ ⟨[], pt.ds, none, none, none, none, none, rfl, rfl, rfl, rfl⟩
  · rintro x rest δ m' ⟨dn, xs, o3, o4, o5, o6, o7, hs, e1, rfl, rfl⟩ nx hnx
    cases xs with
    | nil => cases e1
    | cons d xs =>
      rw [List.map_cons] at e1
      injection e1 with e1 e2
      subst e1
      have dok := hok.dok d (by rw [hs]; simp)
      have hcl : d.b.cin.length ≤ 8 := deeds_len d.b.cin_nodup fun c hc => d.b.wf_calls dok.wf c ((d.b.cin_calls c).mp hc)
      simp only [Deed.enc, Part.enc]
      walk_at "rz"
      refine ⟨d.b, rfl, dok.dep, dok.wf, ?_⟩
      refine ex_sortedL (cs := d.b.cin) rfl (by omega) fun es pe le => ?_
      obtain rfl := srt_eq pe le
      refine ⟨_, rfl, szl (by simp only [strD, List.length_map, (srt_perm _).length_eq]; omega), lc_pure (needF pt.gv) (fun y hy R q => ?_) ?_⟩
      · obtain ⟨z, hz, rfl⟩ := List.mem_map.mp hy
        obtain ⟨c, hc, rfl⟩ := List.mem_map.mp hz
        have e : needF pt.gv (.str (sg c)) = (lk pt.gv c).map fun p => askD (c, p) := by
          show (lk pt.gv (un (sg c))).map _ = _
          rw [un_sg]
        rw [e] at q
        walk_at "rz"
        cases h : lk pt.gv c with
        | none =>
          rw [h] at q
          simp only [Option.map_none, Option.isSome_none, Bool.xor_false, Bool.false_eq_true, if_false]
          exact q
        | some g =>
          rw [h] at q
          simp only [Option.map_some, Option.isSome_some, Bool.false_xor, if_true, Option.some.injEq, exists_eq_left']
          walk_at "rz"
          exact q
      · rw [List.nil_append, needF_map]
        walk_at "rz"
        have hdl := hok.dl
        have hdn : dn.length ≤ 8 := by rw [hs] at hdl; simp at hdl; omega
        refine ⟨p, rfl, .inr ⟨_, _, Mu.put_same, rfl, szlt (by rw [shD_as, asD_len, List.length_map]; omega), ?_⟩⟩
        have e3 : putD (shD (dn.map (shRow pt))) (.inr (sg d.c)) (.lst [Fm.enc ⟨pt.nm, d.c, d.tk, d.tl, d.b, gvOf pt.gv (srt d.b.cin)⟩]) = shD ((dn ++ [d]).map (shRow pt)) := by
          have h := putD_as fmsD (dn.map (shRow pt)) d.c [⟨pt.nm, d.c, d.tk, d.tl, d.b, gvOf pt.gv (srt d.b.cin)⟩]
          rw [putA_new] at h
          · rw [List.map_append]; exact h
          · rw [List.map_map]
            intro z
            obtain ⟨y, hy, e⟩ := List.mem_map.mp z
            have nd2 := dr
            rw [hs, List.map_append, List.map_cons, List.nodup_append] at nd2
            exact nd2.2.2 y.c (List.mem_map.mpr ⟨y, hy, rfl⟩) d.c List.mem_cons_self e
        rw [Mu.put_put]
        have fin2 := fun o => hnx [some pt.enc, some (.dct (gvD pt.gv)), some (.ref p), some (.str (sg d.c)), some (.str d.tk.s), some (.str d.tl.s), some d.b.enc, o, none, none, none] (m.put p (.dct (shD ((dn ++ [d]).map (shRow pt))))) ⟨dn ++ [d], xs, _, _, _, _, _, by rw [hs]; simp, e2, rfl, rfl⟩
        rw [← e3] at fin2
        exact fin2 _
  · rintro δ m' ⟨dn, xs, o3, o4, o5, o6, o7, hs, e1, rfl, rfl⟩
    cases xs with
    | cons x xs => cases e1
    | nil =>
      rw [List.append_nil] at hs
      have := fin o3 o4 o5 o6 o7
      rw [show (shOf pt).ds = pt.ds.map (shRow pt) from rfl, hs] at this
      exact this
end K16
/-! put together, renamed -/
namespace K16
open PySem PySem.Spec PyProof.Rows L2 L3
variable {P : Program} {w : World} {K : PySem.W.Frag} {mg : Str → Option Value} {base : Heap}
local macro_rules | `(tactic| walk_at "rz") => `(tactic| simp only [ gSubD, aLM, aLstM, lcStep, aFld, aSFld, aMeth, aMake, aDNew, aDNewM, sg_inj, D.ref.injEq, dctOf_dct, keyD_str, ex_in_dcts, ex_ix_dcts, getK_gv, isSome_gv, aRet, aRetN, aDrop, aIfS, aSeq, aNext, aAsg, gNm, gTupD, gConsD, gNilD, aFor, ex_var0, ex_varS, aC, aOp, aCall, aCons, aNil, aTup, aLst, aB, aAnd, aOr, aNot, aAndV, aOrV, aNotV, aIf, aNeg, aChain, aKix, aKGet1, aKGet2, aDGet1, aDGet2, aNoPart, aPart, aSl, aList, aTupI, aStrI, aZipS, aYes, aLc, aNever, aBreak, aCont, forGo, lcGo,
  isi_str_str, isi_str_int, isi_str_bool, isi_str_tuple, isi_str_list, isi_int_str, isi_int_int, isi_int_bool, isi_int_tuple, isi_int_list, isi_bl_str, isi_bl_int, isi_bl_bool, isi_bl_tuple, isi_bl_list, isi_non_str, isi_non_int, isi_non_bool, isi_non_tuple, isi_non_list, isi_tup_str, isi_tup_int, isi_tup_bool, isi_tup_tuple, isi_tup_list, isi_lst_str, isi_lst_int, isi_lst_bool, isi_lst_tuple, isi_lst_list, isi_dct_str, isi_dct_int, isi_dct_bool, isi_dct_tuple, isi_dct_list, isi2_str, isi2_int, isi2_bl, isi2_non, isi2_tup, isi2_lst, isi2_dct, Option.getD_some, Option.getD_none, D.isNon, sz_0, sz_1, sz_2, sz_3, sz_4, sz_5, sz_6, sz_7, sz_8, sz_9, sz_10, sz_11, sz_12, sz_13, sz_14, sz_15, sz_16, sg_len, ex_in_sg, ex_len_str, ex_len_tup, ex_len_lst, ex_eq_str, ex_ne_str, ex_eq_int, ex_ne_int, ex_eq_ns, ex_eq_sn, ex_eq_nn, ex_ne_ns, ex_ne_sn, ex_ne_nn, ex_I, ex_add_int, ex_add_str, ex_add_tup, ex_add_lst, ex_sub, ex_mul, ex_mod, ex_div, ex_isN, ex_notN, ex_ix_tup, ex_ix_lst, ex_sl_tup, ex_sl_lst, ex_sl_str, ex_tuple_lst,
  ofs_inj, String.reduceEq, atI_0, atI_1, atI_2, atI_3, cut_1, cut_13, startD, wipeD, List.map_cons, List.map_nil, List.length_cons, List.length_nil, List.cons_append, List.nil_append, List.replicate_succ, List.replicate_zero, List.set_cons_zero, List.set_cons_succ, Nat.reduceAdd, Nat.reduceSub, Nat.sub_self,
  D.bl.injEq, D.int.injEq, D.str.injEq, D.tup.injEq, D.lst.injEq, D.dct.injEq, Option.some.injEq, List.cons.injEq, and_assoc, Int.cast_ofNat_Int, Int.reduceAdd, Int.reduceSub, Int.reduceMul, Int.reduceNeg, Int.reduceEq, Int.reduceLT, Int.reduceLE, Int.reduceNe, eq_self, exists_eq_left, exists_eq_left', exists_eq_right, exists_eq, exists_const, exists_false, false_and, and_false, false_or, or_false, true_and, and_true, if_true, if_false, Bool.false_eq_true, Bool.not_true, Bool.not_false, ite_true, ite_false, reduceCtorEq, decide_true, decide_false, decide_eq_true_eq, exists_and_left, Bool.not_eq_true])

/-- a sheaf that stands in the store -/
structure ShIn (K : PySem.W.Frag) (m : Mu) (x dx p q : Addr) (s : Sh) : Prop where
  hx : m x = some (shc K dx (.ref p) (.ref q))
  hp : m p = some (.dct (shD s.ds))
  hq : m q = some (.dct (csD s.cs))
  ne : p ≠ q
section
variable {m : Mu} {x dx p q : Addr} {s : Sh}
theorem ShIn.xp (h : ShIn K m x dx p q s) : x ≠ p := fun z => by have := h.hx; rw [z, h.hp] at this; cases this
theorem ShIn.xq (h : ShIn K m x dx p q s) : x ≠ q := fun z => by have := h.hx; rw [z, h.hq] at this; cases this
theorem newSh_in (f : Fr3 m x p q) : ShIn K (newSh K m x dx p q s) x dx p q s := ⟨newSh_x, newSh_p f, newSh_q f, f.pq⟩
theorem newSh_old (f : Fr3 m x p q) {a : Addr} {c : Cell} (h : m a = some c) : newSh K m x dx p q s a = some c := newSh_sub f a c h
theorem old_ne (f : Fr3 m x p q) {a : Addr} {c : Cell} (h : m a = some c) : a ≠ x ∧ a ≠ p ∧ a ≠ q := ⟨fun z => (by rw [z, f.hx] at h; cases h), fun z => (by rw [z, f.hp] at h; cases h), fun z => (by rw [z, f.hq] at h; cases h)⟩
theorem ShIn.up (h : ShIn K m x dx p q s) {x' dx' p' q' : Addr} {s' : Sh} (f : Fr3 m x' p' q') : ShIn K (newSh K m x' dx' p' q' s') x dx p q s := ⟨newSh_old f h.hx, newSh_old f h.hp, newSh_old f h.hq, h.ne⟩
end
def sp_ren_sheaf (K : PySem.W.Frag) : SpD := fun ds m Q => ∃ (x dx p q : Addr) (s : Sh) (d e : Nat), ds = [.ref x, .str (sg d), .str (sg e)] ∧ ShIn K m x dx p q s ∧ s.ok ∧ cnt s.ds ≤ 5000 ∧ deedC e ∧
  ∀ x' dx' p' q', Fr3 m x' p' q' → Q (.ref x') (newSh K m x' dx' p' q' ⟨renD d e s.ds, bothA [] s.cs⟩)
theorem F_renamed_sheaf (T : Txt K w mg) : FnD P w K mg base "renamed_sheaf" 15 (sp_ren_sheaf K) := by
  have nd := sc_renamed_sheaf.nd
  refine fnd_ofZ T.d_renamed_sheaf sc_renamed_sheaf (fun ds m Q ⟨_, _, _, _, _, _, _, e, _⟩ => by rw [e]; rfl) fun f cdv A outer s H E hr => ⟨_, (ass_cons (as_asg (ae_make ((I_Sheaf T).mono (by omega)) hr T.k_Sheaf.g (aa_cons ae_dnewM (aa_cons ae_dnewM aa_nil))) (ag_name 3 nd))
      (ass_cons (as_forK PassesOwn.never rfl (ae_fld T.k_Sheaf.c (T.k_Sheaf.n "by_deed" (by simp)) (ae_var 0)) (ag_name 4 nd)
      (ass_one (as_for PassesOwn.never rfl (ai_list (ae_ix hr.u1 (ae_fld T.k_Sheaf.c (T.k_Sheaf.n "by_deed" (by simp)) (ae_var 0)) (ae_var 4))) (ag_name 5 nd)
      (ass_one (as_expr (ae_meth T.k_Sheaf.c ((M_Sheaf_with_forms T).mono (by omega)) hr (ae_var 3) (aa_cons (ae_if (at_cmp (or_eq hr.units) (ae_var 4) (ae_var 1) (nomark _)) (ae_var 2) (ae_var 4)) (aa_cons (ae_lst (aa_cons (ae_call ((F_renamed_form T).mono (by omega)) hr (aa_cons (ae_var 5) (aa_cons (ae_var 1) (aa_cons (ae_var 2) aa_nil)))) aa_nil)) aa_nil))))))))
      (ass_cons (as_expr (ae_meth T.k_Sheaf.c ((M_Sheaf_with_cells T).mono (by omega)) hr (ae_var 3) (aa_cons (ae_fld T.k_Sheaf.c (T.k_Sheaf.n "by_cell" (by simp)) (ae_var 0)) aa_nil)))
      (ass_one (as_ret (ae_var 3)))))), ?_⟩
  rintro _ m Q ⟨x, dx, p, q, s, d, e, rfl, hS, hok, hcn, he, qq⟩
  walk_at "rz"
  intro p1 hp1 q1 hq1 x1 dx1 hx1 hdx hne
  have n1 : q1 ≠ p1 := fun z => by rw [z, Mu.put_same] at hq1; cases hq1
  have n2 : x1 ≠ q1 := fun z => by rw [z, Mu.put_same] at hx1; cases hx1
  have n3 : x1 ≠ p1 := fun z => by rw [z, Mu.put_ne n1.symm, Mu.put_same] at hx1; cases hx1
  rw [Mu.put_ne n1] at hq1
  rw [Mu.put_ne n2, Mu.put_ne n3] at hx1
  have f : Fr3 m x1 p1 q1 := ⟨hx1, hp1, hq1, n3, n2, n1.symm⟩
  refine ⟨x1, dx1, _, _, rfl, Mu.put_same, rfl, ?_⟩
  rw [Mu.put_put]
  have start : ((m.put p1 (.dct [])).put q1 (.dct [])).put x1 (shc K dx1 (.ref p1) (.ref q1)) = newSh K m x1 dx1 p1 q1 ⟨[], []⟩ := rfl
  rw [start]
  have hS2 : ∀ t, ShIn K (newSh K m x1 dx1 p1 q1 t) x dx p q s := fun t => hS.up f
  obtain ⟨px, pp, pq⟩ := old_ne f hS.hp
  have nd1 := hok.d.nd
  refine forK (hS2 _).hp (fun rest δ m' => ∃ (dn xs : Fms) (o1 o2 : Option D), s.ds = dn ++ xs ∧ rest = strD ((xs.map (·.1)).map sg) ∧ m' = newSh K m x1 dx1 p1 q1 ⟨renD d e dn, []⟩ ∧ δ = [some (.ref x), some (.str (sg d)), some (.str (sg e)), some (.ref x1), o1, o2]) ?_ ?_ ⟨[], s.ds, none, none, rfl, by rw [shD_as, keysD_as], rfl, rfl⟩ ?_ ?_
  · rintro rest δ m' ⟨dn, xs, o1, o2, _, _, rfl, _⟩
    exact (hS2 _).hp
  · intro od vs Q q
    walk_at "rz"
    exact ⟨_, _, by rw [lkd_ne (hS.xp)]; exact (hS2 _).hx, _, rfl, q⟩
  · rintro od vs y rest δ m' ⟨dn, xs, o1, o2, ht, e1, rfl, rfl⟩ nx hnx
    cases xs with
    | nil => cases e1
    | cons a xs =>
      rw [List.map_cons, List.map_cons, show ∀ (y : Str) l, strD (y :: l) = D.str y :: strD l from fun _ _ => rfl] at e1
      injection e1 with e1 e2
      subst e1
      have ham : a ∈ s.ds := by rw [ht]; simp
      have hsub : ∀ b ∈ dn, b ∈ s.ds := fun b hb => by rw [ht]; simp [hb]
      have base0 := renG_ok (d := d) he (s := dn) (acc := []) AOk.nil (fun b hb => hok.d.k b (hsub b hb)) fun b hb => hok.d.f b (hsub b hb)
      have cds : L3.cnt s.ds = L3.cnt dn + (a.2.length + L3.cnt xs) := by rw [ht, L3.cnt, List.map_append, List.sum_append]; rfl
      have hg : getK (shD s.ds) (.inr (sg a.1)) = some (.lst (a.2.map Fm.enc)) := by
        rw [shD_as, getK_as, lk_of_mem nd1 (ham : (a.1, a.2) ∈ s.ds)]; rfl
      have hx2 : ∀ t, lkd (newSh K m x1 dx1 p1 q1 t) p od vs (shD s.ds) x = some (shc K dx (.ref p) (.ref q)) := fun t => by rw [lkd_ne hS.xp]; exact (hS2 _).hx
      walk_at "rz"
      refine ⟨_, _, hx2 _, _, rfl, ix_dref (dct_dfz lkd_same) hg ⟨_, rfl, ?_⟩⟩
      refine for_inv (fun rest δ m' => ∃ (dn2 xs2 : List Fm) (o2 : Option D), a.2 = dn2 ++ xs2 ∧ rest = xs2.map Fm.enc ∧ m' = lkd (newSh K m x1 dx1 p1 q1 ⟨renF d e (rnm d e a.1) (renD d e dn) dn2, []⟩) p od vs (shD s.ds) ∧ δ = [some (.ref x), some (.str (sg d)), some (.str (sg e)), some (.ref x1), some (.str (sg a.1)), o2]) ?_ ?_ ⟨[], a.2, _, rfl, rfl, rfl, rfl⟩
      · rintro z rest2 δ2 m2 ⟨dn2, xs2, o3, ht2, e3, rfl, rfl⟩ nx2 hnx2
        cases xs2 with
        | nil => cases e3
        | cons g xs2 =>
          rw [List.map_cons] at e3
          injection e3 with e3 e4
          subst e3
          have hgm : g ∈ a.2 := by rw [ht2]; simp
          have gok := hok.d.f a ham g hgm
          have hrd := rnm_deed (d := d) he (hok.d.k a ham)
          have st := renF_ok (d := d) he hrd (fs := dn2) base0.1 fun b hb => hok.d.f a ham b (by rw [ht2]; simp [hb])
          rw [← renD_go] at st
          have ca := cnt_at (s := renF d e (rnm d e a.1) (renD d e dn) dn2) (c := rnm d e a.1)
          have la : a.2.length = dn2.length + (xs2.length + 1) := by rw [ht2]; simp
          have bz := base0.2
          rw [← renD_go, show L3.cnt ([] : Fms) = 0 from rfl] at bz
          have go : ∀ c, c = rnm d e a.1 → ∀ (R : EK), R .non (lkd (newSh K m x1 dx1 p1 q1 ⟨renF d e (rnm d e a.1) (renD d e dn) (dn2 ++ [g]), []⟩) p od vs (shD s.ds)) →
              sp_with_forms K [.ref x1, .str (sg c), .lst [(g.ren d e).enc]] (lkd (newSh K m x1 dx1 p1 q1 ⟨renF d e (rnm d e a.1) (renD d e dn) dn2, []⟩) p od vs (shD s.ds)) R := fun c ec R r => by
            subst ec
            refine ⟨x1, dx1, p1, rnm d e a.1, [g.ren d e], _, .ref q1, rfl, by rw [lkd_ne (Ne.symm px)]; exact newSh_x, by rw [lkd_ne (Ne.symm pp)]; exact newSh_p f, ?_, ?_, ?_, ?_, ?_⟩
            · intro b hb; rw [List.mem_singleton.mp hb]; exact Fm.ren_ok he gok
            · exact (st.1.at (rnm d e a.1)).1
            · simp only [List.length_cons, List.length_nil]; omega
            · exact Nat.le_trans st.1.len (by omega)
            · rw [show lkd (newSh K m x1 dx1 p1 q1 ⟨renF d e (rnm d e a.1) (renD d e dn) dn2, []⟩) p od vs (shD s.ds) = (newSh K m x1 dx1 p1 q1 ⟨renF d e (rnm d e a.1) (renD d e dn) dn2, []⟩).put p (.dfz od vs (shD s.ds)) from rfl, Mu.put_comm pp, newSh_d f]
              rw [show renF d e (rnm d e a.1) (renD d e dn) (dn2 ++ [g]) = addA (renF d e (rnm d e a.1) (renD d e dn) dn2) (rnm d e a.1) [g.ren d e] from by rw [renF, List.foldl_append]; rfl] at r
              exact r
          walk_at "rz"
          refine ⟨⟨_, _, by rw [lkd_ne (Ne.symm px)]; exact newSh_x, rfl⟩, ?_⟩
          have fin := hnx2 [some (.ref x), some (.str (sg d)), some (.str (sg e)), some (.ref x1), some (.str (sg a.1)), some g.enc] _ ⟨dn2 ++ [g], xs2, _, by rw [ht2]; simp, e4, rfl, rfl⟩
          by_cases h : a.1 = d
          · rw [if_pos h]
            refine ⟨g, d, e, rfl, gok, he, Nat.le_trans gok.nl (by omega), ?_⟩
            try walk_at "rz"
            exact go e (by unfold rnm; rw [if_pos h]) _ fin
          · rw [if_neg h]
            refine ⟨g, d, e, rfl, gok, he, Nat.le_trans gok.nl (by omega), ?_⟩
            try walk_at "rz"
            exact go a.1 (by unfold rnm; rw [if_neg h]) _ fin
      · rintro δ2 m2 ⟨dn2, xs2, o3, ht2, e3, rfl, rfl⟩
        cases xs2 with
        | cons z zs => cases e3
        | nil =>
          rw [List.append_nil] at ht2
          subst ht2
          refine hnx _ _ ⟨dn ++ [a], xs, _, _, by rw [ht]; simp, e2, ?_, rfl⟩
          rw [renD_go d e (dn ++ [a]), List.foldl_append, ← renD_go]; rfl
  · rintro δ m' ⟨dn, xs, o1, o2, ht, e1, rfl, rfl⟩
    cases xs with
    | cons y ys => cases e1
    | nil =>
      rw [List.append_nil] at ht
      subst ht
      walk_at "rz"
      refine ⟨⟨_, _, newSh_x, rfl⟩, _, _, (hS2 _).hx, _, rfl, ?_⟩
      obtain ⟨_, _, qq1⟩ := old_ne f hS.hq
      refine ⟨x1, dx1, q1, q, [], s.cs, .ref p1, rfl, newSh_x, newSh_q f, (hS2 _).hq, Ne.symm qq1, hok.c.nd, ?_, fun _ h => (nomatch h), hok.c.nf, ?_⟩
      · have := hok.c.len
        simp only [List.length_nil]; omega
      · rw [newSh_c f]
        exact Fz.now (qq x1 dx1 p1 q1 f)
end K16
/-! trees, put together -/
namespace K16
open PySem PySem.Spec PyProof.Rows L2 L3
variable {P : Program} {w : World} {K : PySem.W.Frag} {mg : Str → Option Value} {base : Heap}
local macro_rules | `(tactic| walk_at "rz") => `(tactic| simp only [ gSubD, aLM, aDM, aLstM, lcStep, aFld, aSFld, aMeth, aMake, aDNew, aDNewM, aDPop2, sg_inj, D.ref.injEq, dctOf_dct, keyD_str, ex_in_dcts, ex_ix_dcts, getK_gv, isSome_gv, aRet, aRetN, aDrop, aIfS, aSeq, aNext, aAsg, gNm, gTupD, gConsD, gNilD, aFor, ex_var0, ex_varS, aC, aOp, aCall, aCons, aNil, aTup, aLst, aB, aAnd, aOr, aNot, aAndV, aOrV, aNotV, aIf, aNeg, aChain, aKix, aKGet1, aKGet2, aDGet1, aDGet2, aNoPart, aPart, aSl, aList, aTupI, aStrI, aZipS, aYes, aLc, aNever, aBreak, aCont, forGo, lcGo,
  isi_str_str, isi_str_int, isi_str_bool, isi_str_tuple, isi_str_list, isi_int_str, isi_int_int, isi_int_bool, isi_int_tuple, isi_int_list, isi_bl_str, isi_bl_int, isi_bl_bool, isi_bl_tuple, isi_bl_list, isi_non_str, isi_non_int, isi_non_bool, isi_non_tuple, isi_non_list, isi_tup_str, isi_tup_int, isi_tup_bool, isi_tup_tuple, isi_tup_list, isi_lst_str, isi_lst_int, isi_lst_bool, isi_lst_tuple, isi_lst_list, isi_dct_str, isi_dct_int, isi_dct_bool, isi_dct_tuple, isi_dct_list, isi2_str, isi2_int, isi2_bl, isi2_non, isi2_tup, isi2_lst, isi2_dct, Option.getD_some, Option.getD_none, D.isNon, sz_0, sz_1, sz_2, sz_3, sz_4, sz_5, sz_6, sz_7, sz_8, sz_9, sz_10, sz_11, sz_12, sz_13, sz_14, sz_15, sz_16, sg_len, ex_in_sg, ex_len_str, ex_len_tup, ex_len_lst, ex_eq_str, ex_ne_str, ex_eq_int, ex_ne_int, ex_eq_ns, ex_eq_sn, ex_eq_nn, ex_ne_ns, ex_ne_sn, ex_ne_nn, ex_I, ex_add_int, ex_add_str, ex_add_tup, ex_add_lst, ex_sub, ex_mul, ex_mod, ex_div, ex_isN, ex_notN, ex_ix_tup, ex_ix_lst, ex_sl_tup, ex_sl_lst, ex_sl_str, ex_tuple_lst,
  ofs_inj, String.reduceEq, atI_0, atI_1, atI_2, atI_3, cut_1, cut_13, startD, wipeD, List.map_cons, List.map_nil, List.length_cons, List.length_nil, List.cons_append, List.nil_append, List.replicate_succ, List.replicate_zero, List.set_cons_zero, List.set_cons_succ, Nat.reduceAdd, Nat.reduceSub, Nat.sub_self,
  D.bl.injEq, D.int.injEq, D.str.injEq, D.tup.injEq, D.lst.injEq, D.dct.injEq, Option.some.injEq, List.cons.injEq, and_assoc, Int.cast_ofNat_Int, Int.reduceAdd, Int.reduceSub, Int.reduceMul, Int.reduceNeg, Int.reduceEq, Int.reduceLT, Int.reduceLE, Int.reduceNe, eq_self, exists_eq_left, exists_eq_left', exists_eq_right, exists_eq, exists_const, exists_false, false_and, and_false, false_or, or_false, true_and, and_true, if_true, if_false, Bool.false_eq_true, Bool.not_true, Bool.not_false, ite_true, ite_false, reduceCtorEq, decide_true, decide_false, decide_eq_true_eq, exists_and_left, Bool.not_eq_true])

section
variable {m M : Mu} {x dx p q x2 dx2 p2 q2 a : Addr} {s s2 : Sh} {c : Cell}
theorem newSh_comm (h1 : a ≠ x) (h2 : a ≠ p) (h3 : a ≠ q) : (newSh K m x dx p q s).put a c = newSh K (m.put a c) x dx p q s := by
  unfold newSh
  rw [Mu.put_comm h1.symm, Mu.put_comm h3.symm, Mu.put_comm h2.symm]
theorem newSh_mono (f : Fr3 M x p q) (h : Sub m M) : Sub (newSh K m x dx p q s) (newSh K M x dx p q s) := fun b c e => by
  by_cases hx : b = x
  · subst hx; rw [newSh_x] at e ⊢; exact e
  by_cases hp : b = p
  · subst hp
    rw [newSh_p f]
    have f' : Fr3 m x b q := ⟨h.non f.hx, h.non f.hp, h.non f.hq, f.xp, f.xq, f.pq⟩
    rw [newSh_p f'] at e; exact e
  by_cases hq : b = q
  · subst hq
    rw [newSh_q f]
    have f' : Fr3 m x p b := ⟨h.non f.hx, h.non f.hp, h.non f.hq, f.xp, f.xq, f.pq⟩
    rw [newSh_q f'] at e; exact e
  · rw [newSh_ne hx hp hq] at e ⊢; exact h b c e
theorem Fr3.sub (f : Fr3 M x p q) (h : Sub m M) : Fr3 m x p q := ⟨h.non f.hx, h.non f.hp, h.non f.hq, f.xp, f.xq, f.pq⟩
theorem Fr3.re (g : Fr3 (newSh K m x dx p q s) x2 p2 q2) (f : Fr3 m x p q) (s' : Sh) : Fr3 (newSh K m x dx p q s') x2 p2 q2 := by
  have key : ∀ a, newSh K m x dx p q s a = none → newSh K m x dx p q s' a = none := fun a h => by
    obtain ⟨h0, h1, h2, h3⟩ := newSh_none f h
    rw [newSh_ne h1 h2 h3]; exact h0
  exact ⟨key _ g.hx, key _ g.hp, key _ g.hq, g.xp, g.xq, g.pq⟩
end
/-- the part of a name, by itself -/
def shl (ps : List Part) (c : Nat) : Sh := match ps.find? fun p => decide (p.nm = c) with
  | some p => shOf p
  | none => ⟨[], []⟩
theorem pts_get {ps : List Part} {c : Nat} (h : c ∈ ps.map (·.nm)) : ∃ p ∈ ps, getK (ptsD ps) (.inr (sg c)) = some p.enc ∧ shl ps c = shOf p := by
  induction ps with
  | nil => simp at h
  | cons p ps ih =>
    unfold shl
    show ∃ p' ∈ p :: ps, getK ((.inr (sg p.nm), p.enc) :: ptsD ps) _ = _ ∧ _
    rw [getK_cons, List.find?_cons]
    by_cases e : p.nm = c
    · rw [if_pos (by rw [e]), decide_eq_true e]
      exact ⟨p, List.mem_cons_self, rfl, rfl⟩
    · rw [if_neg (by rw [sg_inj]; exact e), decide_eq_false e]
      rw [List.map_cons, List.mem_cons] at h
      obtain ⟨p', h1, h2, h3⟩ := ih (h.resolve_left fun z => e z.symm)
      exact ⟨p', List.mem_cons_of_mem _ h1, h2, h3⟩
theorem shl_ok {ps : List Part} (h : ∀ p ∈ ps, p.ok) : ∀ c ∈ ps.map (·.nm), (shl ps c).ok ∧ cnt (shl ps c).ds ≤ 8 := fun c hc => by
  obtain ⟨p, hp, _, e⟩ := pts_get hc
  rw [e]
  exact shOf_ok (h p hp)
def sp_put (K : PySem.W.Frag) (n : Nat) : SpD := fun ds m Q => ∃ (ps : List Part) (t : Tr), ds = [.dct (ptsD ps), t.enc] ∧ (∀ p ∈ ps, p.ok) ∧ t.wf (ps.map (·.nm)) ∧ t.dep ≤ n ∧ t.nb ≤ 5000 ∧ ∀ x dx p q, Fr3 m x p q → Q (.ref x) (newSh K m x dx p q (putT (shl ps) t))
theorem F_put (T : Txt K w mg) : ∀ n : Nat, FnD P w K mg base "put" (n + 16) (sp_put K n)
  | 0 => fnd_never T.d_put sc_put fun ds m Q ⟨_, t, _, _, _, h, _⟩ => by have := t.dep_pos; omega
  | n + 1 => by
    have nd := sc_put.nd
    have F := F_put T n
    refine fnd_ofZ T.d_put sc_put (fun ds m Q ⟨_, _, e, _⟩ => by rw [e]; rfl) fun f cdv A outer s H E hr => ⟨_, (ass_cons (as_if (at_cmp (or_eq hr.units) (ae_ix hr.u1 (ae_var 1) ae_int) ae_str (nomark _)) (ass_one (as_ret (ae_call ((F_of_part T).mono (by omega)) hr (aa_cons (ae_ix hr.u1 (ae_var 0) (ae_ix hr.u1 (ae_var 1) ae_int)) aa_nil)))) ass_nil)
      (ass_cons (as_asg (ae_call (F.mono (by omega)) hr (aa_cons (ae_var 0) (aa_cons (ae_ix hr.u1 (ae_var 1) ae_int) aa_nil))) (ag_name 2 nd))
      (ass_cons (as_if (at_cmp (or_eq hr.units) (ae_ix hr.u1 (ae_var 1) ae_int) ae_str (nomark _)) (ass_cons (as_asg (ae_call (F.mono (by omega)) hr (aa_cons (ae_var 0) (aa_cons (ae_ix hr.u1 (ae_var 1) ae_int) aa_nil))) (ag_name 3 nd))
      (ass_cons (as_forK PassesOwn.never rfl (ae_fld T.k_Sheaf.c (T.k_Sheaf.n "by_deed" (by simp)) (ae_var 3)) (ag_name 4 nd)
      (ass_one (as_expr (ae_meth T.k_Sheaf.c ((M_Sheaf_with_forms T).mono (by omega)) hr (ae_var 2) (aa_cons (ae_var 4) (aa_cons (ae_ix hr.u1 (ae_fld T.k_Sheaf.c (T.k_Sheaf.n "by_deed" (by simp)) (ae_var 3)) (ae_var 4)) aa_nil))))))
      (ass_one (as_expr (ae_meth T.k_Sheaf.c ((M_Sheaf_with_cells T).mono (by omega)) hr (ae_var 2) (aa_cons (ae_fld T.k_Sheaf.c (T.k_Sheaf.n "by_cell" (by simp)) (ae_var 3)) aa_nil)))))) (ass_one (as_if (at_cmp (or_eq hr.units) (ae_ix hr.u1 (ae_var 1) ae_int) ae_str (nomark _)) (ass_one (as_expr (ae_dpop2 (ae_fld T.k_Sheaf.c (T.k_Sheaf.n "by_deed" (by simp)) (ae_var 2)) (ae_ix hr.u1 (ae_var 1) ae_int) ae_non))) (ass_one (as_if (at_cmp (or_eq hr.units) (ae_ix hr.u1 (ae_var 1) ae_int) ae_str (nomark _)) (ass_one (as_if (at_cmp (or_in1 hr.u65) (ae_ix hr.u1 (ae_var 1) ae_int) (ae_fld T.k_Sheaf.c (T.k_Sheaf.n "by_deed" (by simp)) (ae_var 2)) (by rfl)) (ass_one (as_expr (ae_meth T.k_Sheaf.c ((M_Sheaf_with_forms T).mono (by omega)) hr (ae_var 2) (aa_cons (ae_ix hr.u1 (ae_var 1) ae_int) (aa_cons (ae_ix hr.u1 (ae_fld T.k_Sheaf.c (T.k_Sheaf.n "by_deed" (by simp)) (ae_var 2)) (ae_ix hr.u1 (ae_var 1) ae_int)) aa_nil))))) ass_nil)) (ass_one (as_if (at_cmp (or_eq hr.units) (ae_ix hr.u1 (ae_var 1) ae_int) ae_str (nomark _)) (ass_cons (as_asg (ae_call ((F_of_part T).mono (by omega)) hr (aa_cons (ae_ix hr.u1 (ae_var 0) (ae_ix hr.u1 (ae_var 1) ae_int)) aa_nil)) (ag_name 3 nd))
      (ass_cons (as_expr (ae_dupd (ae_fld T.k_Sheaf.c (T.k_Sheaf.n "by_deed" (by simp)) (ae_var 2)) (ae_fld T.k_Sheaf.c (T.k_Sheaf.n "by_deed" (by simp)) (ae_var 3))))
      (ass_one (as_expr (ae_meth T.k_Sheaf.c ((M_Sheaf_with_cells T).mono (by omega)) hr (ae_var 2) (aa_cons (ae_fld T.k_Sheaf.c (T.k_Sheaf.n "by_cell" (by simp)) (ae_var 3)) aa_nil)))))) (ass_one (as_if (at_cmp (or_ne hr.units) (ae_ix hr.u1 (ae_var 1) ae_int) (ae_ix hr.u1 (ae_var 1) ae_int) (nomark _)) (ass_one (as_asg (ae_call ((F_renamed_sheaf T).mono (by omega)) hr (aa_cons (ae_var 2) (aa_cons (ae_ix hr.u1 (ae_var 1) ae_int) (aa_cons (ae_ix hr.u1 (ae_var 1) ae_int) aa_nil)))) (ag_name 2 nd))) ass_nil)))))))))
      (ass_one (as_ret (ae_var 2)))))), ?_⟩
    rintro _ m Q ⟨ps, t, rfl, hps, hw, hd, hnb, qq⟩
    have sok := fun (t : Tr) (w : t.wf (ps.map (·.nm))) => putT_ok (shl_ok hps) t w
    have sub : ∀ (a : Tr) (m : Mu) (R : EK), a.wf (ps.map (·.nm)) → a.dep + 1 ≤ t.dep → a.nb ≤ 5000 → (∀ x dx p q, Fr3 m x p q → R (.ref x) (newSh K m x dx p q (putT (shl ps) a))) → sp_put K n [.dct (ptsD ps), a.enc] m R :=
      fun a m R h1 h2 h3 q => ⟨ps, a, rfl, hps, h1, by omega, h3, q⟩
    cases t with
    | part c =>
      simp only [Tr.enc]
      walk_at "rz"
      obtain ⟨p, hp, hg, e⟩ := pts_get hw
      refine ⟨_, hg, p, rfl, hps p hp, fun x dx p' q' f => ?_⟩
      rw [← e]
      exact Fz.now (qq x dx p' q' f)
    | wth a b =>
      simp only [Tr.enc]
      walk_at "rz"
      simp only [Tr.nb] at hnb
      obtain ⟨okA, cA⟩ := sok a hw.1
      obtain ⟨okB, cB⟩ := sok b hw.2
      have qq2 : ∀ x dx p q, Fr3 m x p q → Q (.ref x) (newSh K m x dx p q ⟨bothA (putT (shl ps) a).ds (putT (shl ps) b).ds, bothA (putT (shl ps) a).cs (putT (shl ps) b).cs⟩) := qq
      refine sub a m _ hw.1 (by simp [Tr.dep]; omega) (by omega) fun x dx p q f => ?_
      refine sub b _ _ hw.2 (by simp [Tr.dep]; omega) (by omega) fun x2 dx2 p2 q2 f2 => ?_
      generalize putT (shl ps) a = A at okA cA qq2 f2
      generalize putT (shl ps) b = B at okB cB qq2
      have f3 := fun s' => f2.re f s'
      obtain ⟨nx1, nx2, nx3⟩ := old_ne f2 (newSh_x (s := A))
      obtain ⟨np1, np2, np3⟩ := old_ne f2 (newSh_p f (s := A))
      obtain ⟨nq1, nq2, nq3⟩ := old_ne f2 (newSh_q f (s := A))
      refine forK (newSh_p f2) (fun rest δ m' => ∃ (dn xs : Fms) (o : Option D), B.ds = dn ++ xs ∧ rest = strD ((xs.map (·.1)).map sg) ∧ m' = newSh K (newSh K m x dx p q ⟨bothA A.ds dn, A.cs⟩) x2 dx2 p2 q2 B ∧ δ = [some (.dct (ptsD ps)), some (.tup [.str "with", a.enc, b.enc]), some (.ref x), some (.ref x2), o]) ?_ ?_ ⟨[], B.ds, none, rfl, by rw [shD_as, keysD_as], rfl, rfl⟩ ?_ ?_
      · rintro rest δ m' ⟨dn, xs, o1, _, _, rfl, _⟩
        exact newSh_p (f3 _)
      · intro od vs Q q
        walk_at "rz"
        exact ⟨_, _, by rw [lkd_ne f2.xp]; exact newSh_x, _, rfl, q⟩
      · rintro od vs y rest δ m' ⟨dn, xs, o1, ht, e1, rfl, rfl⟩ nx hnx
        cases xs with
        | nil => cases e1
        | cons c xs =>
          rw [List.map_cons, List.map_cons, show ∀ (y : Str) l, strD (y :: l) = D.str y :: strD l from fun _ _ => rfl] at e1
          injection e1 with e1 e2
          subst e1
          have hcm : c ∈ B.ds := by rw [ht]; simp
          have hg : getK (shD B.ds) (.inr (sg c.1)) = some (.lst (c.2.map Fm.enc)) := by
            rw [shD_as, getK_as, lk_of_mem okB.d.nd (hcm : (c.1, c.2) ∈ B.ds)]; rfl
          have cds : L3.cnt B.ds = L3.cnt dn + (c.2.length + L3.cnt xs) := by rw [ht, L3.cnt, List.map_append, List.sum_append]; rfl
          have cb := cnt_both (r := dn) okA.d.nd
          have okd : FOk (bothA A.ds dn) := okA.d.both ⟨by
            have := okB.d.nd
            rw [ht, List.map_append, List.nodup_append] at this
            exact this.1, fun b hb => okB.d.k b (by rw [ht]; simp [hb]), fun b hb => okB.d.f b (by rw [ht]; simp [hb]), fun b hb => okB.d.ne b (by rw [ht]; simp [hb]), fun b hb => okB.d.nf b (by rw [ht]; simp [hb])⟩
          have ca := cnt_at (s := bothA A.ds dn) (c := c.1)
          have Lx : ∀ t, lkd (newSh K (newSh K m x dx p q t) x2 dx2 p2 q2 B) p2 od vs (shD B.ds) x = some (shc K dx (.ref p) (.ref q)) := fun t => by
            rw [lkd_ne nx2, newSh_ne nx1 nx2 nx3]; exact newSh_x
          walk_at "rz"
          refine ⟨⟨_, _, Lx _, rfl⟩, _, _, by rw [lkd_ne f2.xp]; exact newSh_x, _, rfl, ix_dref (dct_dfz lkd_same) hg ?_⟩
          refine ⟨x, dx, p, c.1, c.2, bothA A.ds dn, .ref q, rfl, Lx _, by rw [lkd_ne np2, newSh_ne np1 np2 np3]; exact newSh_p f, okB.d.f c hcm, (okd.at c.1).1, by omega, Nat.le_trans okd.len (by omega), ?_⟩
          rw [show lkd (newSh K (newSh K m x dx p q ⟨bothA A.ds dn, A.cs⟩) x2 dx2 p2 q2 B) p2 od vs (shD B.ds) = (newSh K (newSh K m x dx p q ⟨bothA A.ds dn, A.cs⟩) x2 dx2 p2 q2 B).put p2 (.dfz od vs (shD B.ds)) from rfl, Mu.put_comm np2.symm, newSh_comm np1 np2 np3, newSh_d f, ← bothA_snoc]
          exact hnx _ _ ⟨dn ++ [c], xs, _, by rw [ht]; simp, e2, rfl, rfl⟩
      · rintro δ m' ⟨dn, xs, o1, ht, e1, rfl, rfl⟩
        cases xs with
        | cons y ys => cases e1
        | nil =>
          rw [List.append_nil] at ht
          subst ht
          have Lx : newSh K (newSh K m x dx p q ⟨bothA A.ds B.ds, A.cs⟩) x2 dx2 p2 q2 B x = some (shc K dx (.ref p) (.ref q)) := by rw [newSh_ne nx1 nx2 nx3]; exact newSh_x
          walk_at "rz"
          refine ⟨⟨_, _, Lx, rfl⟩, _, _, newSh_x, _, rfl, ?_⟩
          have l1 := okA.c.len
          have l2 := okB.c.len
          refine ⟨x, dx, q, q2, A.cs, B.cs, .ref p, rfl, Lx, by rw [newSh_ne nq1 nq2 nq3]; exact newSh_q f, newSh_q (f3 _), nq3, okB.c.nd, by omega, okA.c.nf, okB.c.nf, ?_⟩
          rw [newSh_comm nq1 nq2 nq3, newSh_c f]
          exact Fz.to (newSh_sub (f3 _)) (qq2 x dx p q f)
    | wout a d =>
      simp only [Tr.enc]
      walk_at "rz"
      refine sub a m _ hw.1 (by simp [Tr.dep]) hnb fun x dx p q f => ?_
      refine ⟨_, rfl, _, _, newSh_x, _, rfl, _, rfl, ⟨_, newSh_p f⟩, _, newSh_p f, fun d2 _ => ?_, fun h => ?_⟩
      · rw [shD_as, dropD_as, ← shD_as, newSh_d f]
        exact Fz.now (qq x dx p q f)
      · have : dropA (putT (shl ps) a).ds d = (putT (shl ps) a).ds := by
          rw [shD_as, getK_as, Option.map_eq_none_iff, lk_isNone] at h
          unfold dropA
          rw [List.filter_eq_self]
          intro y hy
          exact decide_eq_true fun z => h (List.mem_map.mpr ⟨y, hy, z⟩)
        have h2 := qq x dx p q f
        rw [show putT (shl ps) (.wout a d) = putT (shl ps) a from by simp only [putT, this]] at h2
        exact Fz.now h2
    | also a d e =>
      simp only [Tr.enc]
      walk_at "rz"
      simp only [Tr.nb] at hnb
      obtain ⟨okA, cA⟩ := sok a hw.1
      refine sub a m _ hw.1 (by simp [Tr.dep]) (by omega) fun x dx p q f => ?_
      refine ⟨_, rfl, _, _, newSh_x, _, rfl, in_dref (dct_dct (newSh_p f)) ⟨_, rfl, ?_⟩⟩
      rw [shD_as, getK_as]
      cases h : lk (putT (shl ps) a).ds d with
      | none =>
        have h2 := qq x dx p q f
        rw [show putT (shl ps) (.also a d e) = putT (shl ps) a from by simp only [putT, h]] at h2
        simp only [Option.map_none, Option.isSome_none, Bool.xor_false, Bool.false_eq_true, if_false]
        exact Fz.now h2
      | some fs =>
        simp only [Option.map_some, Option.isSome_some, Bool.false_xor, if_true]
        have hm := lk_some h
        refine ⟨⟨_, rfl, _, _, newSh_x, rfl⟩, _, rfl, _, _, newSh_x, _, rfl, ix_dref (dct_dct (newSh_p f)) (by rw [shD_as, getK_as, h]; rfl) ?_⟩
        have c1 := cnt_at (s := (putT (shl ps) a).ds) (c := e)
        have c2 := cnt_at (s := (putT (shl ps) a).ds) (c := d)
        rw [h, Option.getD_some] at c2
        refine ⟨x, dx, p, e, fs, _, .ref q, rfl, newSh_x, newSh_p f, okA.d.f _ hm, (okA.d.at e).1, by omega, Nat.le_trans okA.d.len (by omega), ?_⟩
        rw [newSh_d f]
        have h2 := qq x dx p q f
        rw [show putT (shl ps) (.also a d e) = ⟨addA (putT (shl ps) a).ds e fs, (putT (shl ps) a).cs⟩ from by simp only [putT, h]] at h2
        exact Fz.now h2
    | over a c =>
      simp only [Tr.enc]
      walk_at "rz"
      simp only [Tr.nb] at hnb
      obtain ⟨okA, cA⟩ := sok a hw.1
      obtain ⟨pt, hp, hg, e⟩ := pts_get hw.2
      obtain ⟨okB, cB⟩ := shl_ok hps c hw.2
      have qq2 : ∀ x dx p q, Fr3 m x p q → Q (.ref x) (newSh K m x dx p q ⟨mergeA (putT (shl ps) a).ds (shl ps c).ds, bothA (putT (shl ps) a).cs (shl ps c).cs⟩) := qq
      refine sub a m _ hw.1 (by simp [Tr.dep]) (by omega) fun x dx p q f => ?_
      refine ⟨_, hg, pt, rfl, hps pt hp, fun x2 dx2 p2 q2 f2 => ?_⟩
      rw [← e]
      generalize putT (shl ps) a = A at okA cA qq2 f2
      generalize shl ps c = B at okB cB qq2
      have f3 := fun s' => f2.re f s'
      obtain ⟨nx1, nx2, nx3⟩ := old_ne f2 (newSh_x (s := A))
      obtain ⟨np1, np2, np3⟩ := old_ne f2 (newSh_p f (s := A))
      obtain ⟨nq1, nq2, nq3⟩ := old_ne f2 (newSh_q f (s := A))
      have Lx : ∀ t, newSh K (newSh K m x dx p q t) x2 dx2 p2 q2 B x = some (shc K dx (.ref p) (.ref q)) := fun t => by rw [newSh_ne nx1 nx2 nx3]; exact newSh_x
      have Lp : newSh K (newSh K m x dx p q A) x2 dx2 p2 q2 B p = some (.dct (shD A.ds)) := by rw [newSh_ne np1 np2 np3]; exact newSh_p f
      have l1 := okA.c.len
      have l2 := okB.c.len
      have l3 := okA.d.len
      have l4 := okB.d.len
      refine ⟨_, rfl, _, _, Lx _, _, rfl, ⟨shD A.ds, by simp only [dctP, Lp]⟩, _, rfl, _, _, newSh_x, _, rfl, p, _, _, _, rfl, Lp, rfl, fun z => by injection z with z; exact np2 z.symm, dct_dct (newSh_p f2), by rw [shD_as, shD_as, asD_len, asD_len]; exact szl (by omega), ?_⟩
      rw [shD_as, shD_as, mergeD_as, ← shD_as, newSh_comm np1 np2 np3, newSh_d f]
      refine ⟨⟨_, rfl, _, _, Lx _, rfl⟩, _, rfl, _, _, newSh_x, _, rfl, ?_⟩
      refine ⟨x, dx, q, q2, A.cs, B.cs, .ref p, rfl, Lx _, by rw [newSh_ne nq1 nq2 nq3]; exact newSh_q f, newSh_q (f3 _), nq3, okB.c.nd, by omega, okA.c.nf, okB.c.nf, ?_⟩
      rw [newSh_comm nq1 nq2 nq3, newSh_c f]
      exact Fz.to (newSh_sub (f3 _)) (qq2 x dx p q f)
    | ren a d e =>
      simp only [Tr.enc]
      walk_at "rz"
      obtain ⟨okA, cA⟩ := sok a hw.1
      simp only [Tr.nb] at hnb
      refine sub a m _ hw.1 (by simp [Tr.dep]) hnb fun x dx p q f => ?_
      by_cases h : d = e
      · have h2 := qq x dx p q f
        rw [show putT (shl ps) (.ren a d e) = putT (shl ps) a from by simp only [putT, if_pos h]] at h2
        rw [decide_eq_true h, if_neg (by simp)]
        exact Fz.now h2
      · rw [decide_eq_false h, if_pos (by simp)]
        refine ⟨x, dx, p, q, _, d, e, rfl, newSh_in f, okA, by omega, hw.2.2, fun x2 dx2 p2 q2 f2 => ?_⟩
        have f3 := f2.sub (newSh_sub f)
        have h2 := qq x2 dx2 p2 q2 f3
        rw [show putT (shl ps) (.ren a d e) = ⟨renD d e (putT (shl ps) a).ds, bothA [] (putT (shl ps) a).cs⟩ from by simp only [putT, if_neg h]] at h2
        exact Fz.to (newSh_mono f2 (newSh_sub f)) h2
end K16
/-! what is wanted -/
namespace K16
open PySem PySem.Spec PyProof.Rows L2 L3
variable {P : Program} {w : World} {K : PySem.W.Frag} {mg : Str → Option Value} {base : Heap}
local macro_rules | `(tactic| walk_at "rz") => `(tactic| simp only [ gSubD, aLM, aDM, aLstM, lcStep, aFld, aSFld, aMeth, aMake, aDNew, aDNewM, aDPop2, aSset, aSsetT, sg_inj, D.ref.injEq, dctOf_dct, keyD_str, ex_in_dcts, ex_ix_dcts, getK_gv, isSome_gv, aRet, aRetN, aDrop, aIfS, aSeq, aNext, aAsg, gNm, gTupD, gConsD, gNilD, aFor, ex_var0, ex_varS, aC, aOp, aCall, aCons, aNil, aTup, aLst, aB, aAnd, aOr, aNot, aAndV, aOrV, aNotV, aIf, aNeg, aChain, aKix, aKGet1, aKGet2, aDGet1, aDGet2, aNoPart, aPart, aSl, aList, aTupI, aStrI, aZipS, aYes, aLc, aNever, aBreak, aCont, forGo, lcGo,
  isi_str_str, isi_str_int, isi_str_bool, isi_str_tuple, isi_str_list, isi_int_str, isi_int_int, isi_int_bool, isi_int_tuple, isi_int_list, isi_bl_str, isi_bl_int, isi_bl_bool, isi_bl_tuple, isi_bl_list, isi_non_str, isi_non_int, isi_non_bool, isi_non_tuple, isi_non_list, isi_tup_str, isi_tup_int, isi_tup_bool, isi_tup_tuple, isi_tup_list, isi_lst_str, isi_lst_int, isi_lst_bool, isi_lst_tuple, isi_lst_list, isi_dct_str, isi_dct_int, isi_dct_bool, isi_dct_tuple, isi_dct_list, isi2_str, isi2_int, isi2_bl, isi2_non, isi2_tup, isi2_lst, isi2_dct, Option.getD_some, Option.getD_none, D.isNon, sz_0, sz_1, sz_2, sz_3, sz_4, sz_5, sz_6, sz_7, sz_8, sz_9, sz_10, sz_11, sz_12, sz_13, sz_14, sz_15, sz_16, sg_len, ex_in_sg, ex_len_str, ex_len_tup, ex_len_lst, ex_eq_str, ex_ne_str, ex_eq_int, ex_ne_int, ex_eq_ns, ex_eq_sn, ex_eq_nn, ex_ne_ns, ex_ne_sn, ex_ne_nn, ex_I, ex_add_int, ex_add_str, ex_add_tup, ex_add_lst, ex_sub, ex_mul, ex_mod, ex_div, ex_isN, ex_notN, ex_ix_tup, ex_ix_lst, ex_sl_tup, ex_sl_lst, ex_sl_str, ex_tuple_lst,
  ofs_inj, String.reduceEq, atI_0, atI_1, atI_2, atI_3, cut_1, cut_13, startD, wipeD, List.map_cons, List.map_nil, List.length_cons, List.length_nil, List.cons_append, List.nil_append, List.replicate_succ, List.replicate_zero, List.set_cons_zero, List.set_cons_succ, Nat.reduceAdd, Nat.reduceSub, Nat.sub_self,
  D.bl.injEq, D.int.injEq, D.str.injEq, D.tup.injEq, D.lst.injEq, D.dct.injEq, Option.some.injEq, List.cons.injEq, and_assoc, Int.cast_ofNat_Int, Int.reduceAdd, Int.reduceSub, Int.reduceMul, Int.reduceNeg, Int.reduceEq, Int.reduceLT, Int.reduceLE, Int.reduceNe, eq_self, exists_eq_left, exists_eq_left', exists_eq_right, exists_eq, exists_const, exists_false, false_and, and_false, false_or, or_false, true_and, and_true, if_true, if_false, Bool.false_eq_true, Bool.not_true, Bool.not_false, ite_true, ite_false, reduceCtorEq, decide_true, decide_false, decide_eq_true_eq, exists_and_left, Bool.not_eq_true])

def sp_put_together (K : PySem.W.Frag) : SpD := fun ds m Q => ∃ (ps : List Part) (t : Tr), ds = [.lst (ps.map Part.enc), t.enc] ∧ ShOk ps ∧ t.wf (ps.map (·.nm)) ∧ t.dep ≤ 12 ∧ t.nb ≤ 5000 ∧ ∀ x dx p q, Fr3 m x p q → Q (.ref x) (newSh K m x dx p q (putT (shl ps) t))
def nmD : D → Option D
  | .tup (x :: r) => some (.tup [x, .tup (x :: r)])
  | _ => none
theorem pts_keys (ps : List Part) : (ptsD ps).map (·.1) = (ps.map (·.nm)).map fun c => .inr (sg c) := by simp [ptsD]
theorem F_put_together (T : Txt K w mg) : FnD P w K mg base "put_together" 29 (sp_put_together K) := by
  have nd := sc_put_together.nd
  refine fnd_ofZ T.d_put_together sc_put_together (fun ds m Q ⟨_, _, e, _⟩ => by rw [e]; rfl) fun f cdv A outer s H E hr => ⟨_, (ass_one (as_ret (ae_call ((F_put T 12).mono (by omega)) hr (aa_cons (ae_callTy cr_dict2 T.b_dict boot_dict (aa_cons (ae_lc (own := [("part", 2)]) rfl nd (ai_list (ae_var 0)) (blkOk_by (own := [("part", 2)]) (by kernel_rfl)) (gg_name (i := 2) (by simp)) (fun _ _ _ _ _ => (pg_name (i := 2) nd rfl (Or.inl rfl))) (fun _ _ _ _ _ => ats_nil) (fun _ _ _ _ _ => (ae_tup (aa_cons (ae_ix hr.u1 (ae_var 2) ae_int) (aa_cons (ae_var 2) aa_nil))))) aa_nil)) (aa_cons (ae_var 1) aa_nil))))), ?_⟩
  rintro _ m Q ⟨ps, t, rfl, hps, hw, hd, hnb, q⟩
  have h6 := hps.six
  walk_at "rz"
  refine ⟨szl (by simp; omega), lc_pure nmD (fun d hd R q => ?_) ?_⟩
  · obtain ⟨p, _, rfl⟩ := List.mem_map.mp hd
    simp only [Part.enc, nmD] at q ⊢
    walk_at "rz"
    exact q
  have e : (ps.map Part.enc).filterMap nmD = (ptsD ps).map L3.pairD := by
    rw [fm_map (g := Part.enc) (f := nmD) (h := fun p => L3.pairD (.inr (sg p.nm), p.enc)) fun p _ => rfl]
    simp [ptsD]
  rw [List.nil_append, e]
  refine ⟨_, _, rfl, .inl rfl, ?_⟩
  rw [merge_nil (by rw [pts_keys]; exact key_nodup hps.nd)]
  exact ⟨ps, t, rfl, fun p hp => hps.ok p hp, hw, hd, hnb, fun x dx p q' f => Fz.now (q x dx p q' f)⟩
def sp_wanting_in (K : PySem.W.Frag) : SpD := fun ds m Q => ∃ (x dx p q : Addr) (s : Sh), ds = [.ref x] ∧ ShIn K m x dx p q s ∧ s.ok ∧ L3.cnt s.ds ≤ 480 ∧ Q (wants s).enc m
theorem F_wanting_in (T : Txt K w mg) : FnD P w K mg base "wanting_in" 1 (sp_wanting_in K) := by
  have nd := sc_wanting_in.nd
  refine fnd_ofZ T.d_wanting_in sc_wanting_in (fun ds m Q ⟨_, _, _, _, _, e, _⟩ => by rw [e]; rfl) fun f cdv A outer s H E hr => ⟨_, (ass_cons (as_setLcK (i := 1) (own := [("deed", 4)]) rfl nd rfl rfl (sw_true rfl rfl rfl (by decide +kernel)) (ae_fld T.k_Sheaf.c (T.k_Sheaf.n "by_deed" (by simp)) (ae_var 0)) (blkOk_by (own := [("deed", 4)]) (by kernel_rfl)) (gg_name (i := 4) (by simp)) (fun _ _ _ _ _ => (pg_name (i := 4) nd rfl (Or.inl rfl))) (fun _ _ _ _ _ => (ats_one (at_cmp or_gt (ae_callB cr_len T.b_len boot_len (aa_cons (ae_ix hr.u1 (ae_fld T.k_Sheaf.c (T.k_Sheaf.n "by_deed" (by simp)) (ae_var 0)) (ae_var 4)) aa_nil)) ae_int (nomark _)))) (fun _ _ _ _ _ => (ae_var 4)))
      (ass_cons (as_asg (ae_lstM aa_nil) (ag_name 2 nd))
      (ass_cons (as_asg (ae_lstM aa_nil) (ag_name 3 nd))
      (ass_cons (as_forK PassesOwn.never rfl (ae_fld T.k_Sheaf.c (T.k_Sheaf.n "by_deed" (by simp)) (ae_var 0)) (ag_name 4 nd)
      (ass_one (as_for PassesOwn.never rfl (ai_list (ae_ix hr.u1 (ae_fld T.k_Sheaf.c (T.k_Sheaf.n "by_deed" (by simp)) (ae_var 0)) (ae_var 4))) (ag_name 6 nd)
      (ass_one (as_for PassesOwn.never rfl (ai_tup (ae_ix hr.u1 (ae_var 6) ae_int)) (ag_tup (n := 3) rfl (ags_cons (ag_name 8 nd) (ags_cons (ag_name 9 nd) (ags_cons (ag_name 10 nd) ags_nil))))
      (ass_one (as_if (at_cmp (or_nin hr.u65) (ae_var 8) (ae_fld T.k_Sheaf.c (T.k_Sheaf.n "by_deed" (by simp)) (ae_var 0)) (by rfl)) (ass_one (as_expr (ae_lm PySem.F.slot_list_append PySem.F.type_list_append mt_appendD (ae_var 2) (aa_cons (ae_var 8) aa_nil)))) (ass_one (as_if (at_cmp (or_ne hr.units) (ae_lc (own := [("one", 11)]) rfl nd (ai_list (ae_ix hr.u1 (ae_fld T.k_Sheaf.c (T.k_Sheaf.n "by_deed" (by simp)) (ae_var 0)) (ae_var 8))) (blkOk_by (own := [("one", 11)]) (by kernel_rfl)) (gg_name (i := 11) (by simp)) (fun _ _ _ _ _ => (pg_name (i := 11) nd rfl (Or.inl rfl))) (fun _ _ _ _ _ => (ats_one (at_cmp (or_ne hr.units) (ae_sl (ae_var 11) (ao_some ae_int) (ao_some ae_int)) (ae_tup (aa_cons (ae_var 9) (aa_cons (ae_var 10) aa_nil))) (nomark _)))) (fun _ _ _ _ _ => (ae_var 11))) (ae_lst aa_nil) (nomark _)) (ass_one (as_expr (ae_lm PySem.F.slot_list_append PySem.F.type_list_append mt_appendD (ae_var 3) (aa_cons (ae_tup (aa_cons (ae_var 4) (aa_cons (ae_var 8) aa_nil))) aa_nil)))) ass_nil)))))))))
      (ass_cons (as_setLcK (i := 5) (own := [("cell", 7)]) rfl nd rfl rfl (sw_true rfl rfl rfl (by decide +kernel)) (ae_fld T.k_Sheaf.c (T.k_Sheaf.n "by_cell" (by simp)) (ae_var 0)) (blkOk_by (own := [("cell", 7)]) (by kernel_rfl)) (gg_name (i := 7) (by simp)) (fun _ _ _ _ _ => (pg_name (i := 7) nd rfl (Or.inl rfl))) (fun _ _ _ _ _ => (ats_one (at_cmp or_gt (ae_callB cr_len T.b_len boot_len (aa_cons (ae_ix hr.u1 (ae_fld T.k_Sheaf.c (T.k_Sheaf.n "by_cell" (by simp)) (ae_var 0)) (ae_var 7)) aa_nil)) ae_int (nomark _)))) (fun _ _ _ _ _ => (ae_var 7)))
      (ass_one (as_ret (ae_tup (aa_cons (ae_callB cr_sorted T.b_sorted boot_sorted (aa_cons (ae_var 1) aa_nil)) (aa_cons (ae_sset T.b_sorted T.b_set (ae_var 2)) (aa_cons (ae_ssetT hr.u65 T.b_sorted T.b_set (ae_var 3)) (aa_cons (ae_callB cr_sorted T.b_sorted boot_sorted (aa_cons (ae_var 5) aa_nil)) aa_nil)))))))))))), ?_⟩
  rintro _ m Q ⟨x, dx, p, q, s, rfl, hS, hok, hcn, qq⟩
  walk_at "rz"
  have hxl : ∀ od vs, lkd m p od vs (shD s.ds) x = some (shc K dx (.ref p) (.ref q)) := fun od vs => by rw [lkd_ne hS.xp]; exact hS.hx
  have d8 := hok.d.len
  have c4 := hok.c.len
  have gd : ∀ a ∈ s.ds, getK (shD s.ds) (.inr (sg a.1)) = some (.lst (a.2.map Fm.enc)) := fun a ha => by
    rw [shD_as, getK_as, lk_of_mem hok.d.nd (ha : (a.1, a.2) ∈ s.ds)]; rfl
  have gc : ∀ a ∈ s.cs, getK (csD s.cs) (.inr (sg a.1)) = some (kdsD a.2) := fun a ha => by
    rw [csD_as, getK_as, lk_of_mem hok.c.nd (ha : (a.1, a.2) ∈ s.cs)]; rfl
  refine setK_pure hS.hp (keepN fun c => decide (1 < ((lk s.ds c).getD []).length)) (fun od vs Q q => ?_) (szl (by rw [shD_as, asD_len]; omega)) (fun od vs y hy R r => ?_) ?_
  · walk_at "rz"
    exact ⟨_, _, hxl od vs, _, rfl, q⟩
  · rw [shD_as, keysD_as] at hy
    obtain ⟨z, hz, rfl⟩ := List.mem_map.mp hy
    obtain ⟨c, hc, rfl⟩ := List.mem_map.mp hz
    obtain ⟨a, ha, rfl⟩ := List.mem_map.mp hc
    rw [keepN_sg, lk_of_mem hok.d.nd (ha : (a.1, a.2) ∈ s.ds), Option.getD_some] at r
    walk_at "rz"
    refine ⟨_, _, hxl od vs, _, rfl, ix_dref (dct_dfz lkd_same) (gd a ha) ?_⟩
    walk_at "rz"
    by_cases h : 1 < a.2.length
    · rw [if_pos (decide_eq_true h)] at r
      rw [if_pos (by rw [List.length_map]; omega)]
      exact r
    · rw [if_neg (by simpa using h)] at r
      rw [if_neg (by rw [List.length_map]; omega)]
      exact r
  rw [shD_as, keysD_as, keepN_map, many_keys hok.d.nd]
  walk_at "rz"
  intro pl hpl pu hpu
  have nlu : pu ≠ pl := fun z => by rw [z, Mu.put_same] at hpu; cases hpu
  rw [Mu.put_ne nlu] at hpu
  have npl : p ≠ pl := fun z => by rw [← z, hS.hp] at hpl; cases hpl
  have npu : p ≠ pu := fun z => by rw [← z, hS.hp] at hpu; cases hpu
  have nql : q ≠ pl := fun z => by rw [← z, hS.hq] at hpl; cases hpl
  have nqu : q ≠ pu := fun z => by rw [← z, hS.hq] at hpu; cases hpu
  have nxl : x ≠ pl := fun z => by rw [← z, hS.hx] at hpl; cases hpl
  have nxu : x ≠ pu := fun z => by rw [← z, hS.hx] at hpu; cases hpu
  obtain ⟨St, hSt⟩ : ∃ St : List Nat → List (Nat × Nat) → Mu, St = fun la un => (m.put pl (.lst (strD (la.map sg)))).put pu (.lst ((un.map prS).map rowT)) := ⟨_, rfl⟩
  have Sx : ∀ la un, St la un x = some (shc K dx (.ref p) (.ref q)) := fun la un => by rw [hSt]; show ((m.put _ _).put _ _) _ = _; rw [Mu.put_ne nxu, Mu.put_ne nxl]; exact hS.hx
  have Sp : ∀ la un, St la un p = some (.dct (shD s.ds)) := fun la un => by rw [hSt]; show ((m.put _ _).put _ _) _ = _; rw [Mu.put_ne npu, Mu.put_ne npl]; exact hS.hp
  have Sq : ∀ la un, St la un q = some (.dct (csD s.cs)) := fun la un => by rw [hSt]; show ((m.put _ _).put _ _) _ = _; rw [Mu.put_ne nqu, Mu.put_ne nql]; exact hS.hq
  have Sl : ∀ la un, St la un pl = some (.lst (strD (la.map sg))) := fun la un => by rw [hSt]; show ((m.put _ _).put _ _) _ = _; rw [Mu.put_ne nlu.symm, Mu.put_same]
  have Su : ∀ la un, St la un pu = some (.lst ((un.map prS).map rowT)) := fun la un => by rw [hSt]; show ((m.put _ _).put _ _) _ = _; rw [Mu.put_same]
  have Sla : ∀ la un c, (St la un).put pl (.lst (strD (la.map sg) ++ [.str (sg c)])) = St (la ++ [c]) un := fun la un c => by
    rw [hSt]; show ((m.put _ _).put _ _).put _ _ = (m.put _ _).put _ _
    rw [Mu.put_comm nlu, Mu.put_put, List.map_append]; unfold strD; rw [List.map_append]; rfl
  have Sun : ∀ la un a, (St la un).put pu (.lst ((un.map prS).map rowT ++ [.tup [.str (sg a.1), .str (sg a.2)]])) = St la (un ++ [a]) := fun la un a => by
    rw [hSt]; show ((m.put _ _).put _ _).put _ _ = (m.put _ _).put _ _
    rw [Mu.put_put, List.map_append, List.map_append]; rfl
  have Lx : ∀ od vs la un, lkd (St la un) p od vs (shD s.ds) x = some (shc K dx (.ref p) (.ref q)) := fun od vs la un => by rw [lkd_ne hS.xp]; exact Sx _ _
  have Lm : ∀ od vs la un c, (lkd (St la un) p od vs (shD s.ds)).put pl c = lkd ((St la un).put pl c) p od vs (shD s.ds) := fun od vs la un c => Mu.put_comm npl
  have Lu : ∀ od vs la un c, (lkd (St la un) p od vs (shD s.ds)).put pu c = lkd ((St la un).put pu c) p od vs (shD s.ds) := fun od vs la un c => Mu.put_comm npu
  have sub : ∀ la un, Sub m (St la un) := fun la un => by rw [hSt]; exact (Sub.put hpl).trans (Sub.put (by rw [Mu.put_ne nlu]; exact hpu))
  obtain ⟨CL, hCL⟩ : ∃ CL : List Nat, CL = (s.ds.filter fun p => decide (1 < p.2.length)).map (·.1) := ⟨_, rfl⟩
  rw [show (m.put pl (.lst [])).put pu (.lst []) = St [] [] by rw [hSt]; rfl, ← hCL]
  refine forK (Sp _ _) (fun rest δ m' => ∃ (dn xs : Fms) (o4 o6 o8 o9 o10 : Option D), s.ds = dn ++ xs ∧ rest = strD ((xs.map (·.1)).map sg) ∧ m' = St (laO s.ds dn) (unO s.ds dn) ∧ δ = [some (.ref x), some (.lst (strD (CL.map sg))), some (.ref pl), some (.ref pu), o4, none, o6, none, o8, o9, o10, none]) ?_ ?_ ⟨[], s.ds, none, none, none, none, none, rfl, by rw [shD_as, keysD_as], rfl, rfl⟩ ?_ ?_
  · rintro rest δ m' ⟨dn, xs, _, _, _, _, _, _, _, rfl, _⟩
    exact Sp _ _
  · intro od vs Q q
    walk_at "rz"
    exact ⟨_, _, Lx _ _ _ _, _, rfl, q⟩
  · rintro od vs y rest δ m' ⟨dn, xs, o4, o6, o8, o9, o10, ht, e1, rfl, rfl⟩ nx hnx
    cases xs with
    | nil => cases e1
    | cons a xs =>
      rw [List.map_cons, List.map_cons, show ∀ (y : Str) l, strD (y :: l) = D.str y :: strD l from fun _ _ => rfl] at e1
      injection e1 with e1 e2
      subst e1
      have ham : a ∈ s.ds := by rw [ht]; simp
      have hsub : ∀ b ∈ dn, b ∈ s.ds := fun b hb => by rw [ht]; simp [hb]
      have cds : L3.cnt s.ds = L3.cnt dn + (a.2.length + L3.cnt xs) := by rw [ht, L3.cnt, List.map_append, List.sum_append]; rfl
      have l1 := laO_len hok.d hsub
      have l2 := unO_len hok.d hsub
      generalize hLA : laO s.ds dn = LA at l1 ⊢
      generalize hUN : unO s.ds dn = UN at l2 ⊢
      walk_at "rz"
      refine ⟨_, _, Lx _ _ _ _, _, rfl, ix_dref (dct_dfz lkd_same) (gd a ham) ⟨_, rfl, ?_⟩⟩
      refine for_inv (fun rest δ m' => ∃ (dn2 xs2 : List Fm) (o6 o8 o9 o10 : Option D), a.2 = dn2 ++ xs2 ∧ rest = xs2.map Fm.enc ∧ m' = lkd (St (LA ++ dn2.flatMap (la1 s.ds)) (UN ++ dn2.flatMap (un1 s.ds a.1))) p od vs (shD s.ds) ∧ δ = [some (.ref x), some (.lst (strD (CL.map sg))), some (.ref pl), some (.ref pu), some (.str (sg a.1)), none, o6, none, o8, o9, o10, none]) ?_ ?_ ⟨[], a.2, _, _, _, _, rfl, rfl, by rw [List.flatMap_nil, List.flatMap_nil, List.append_nil, List.append_nil], rfl⟩
      · rintro z rest2 δ2 m2 ⟨dn2, xs2, o6, o8, o9, o10, ht2, e3, rfl, rfl⟩ nx2 hnx2
        cases xs2 with
        | nil => cases e3
        | cons g xs2 =>
          rw [List.map_cons] at e3
          injection e3 with e3 e4
          subst e3
          have hgm : g ∈ a.2 := by rw [ht2]; simp
          have gok := hok.d.f a ham g hgm
          have h3 : (dn2.flatMap (la1 s.ds)).length ≤ 8 * dn2.length := flat_len fun f hf => by
            unfold la1; rw [List.length_map]; exact Nat.le_trans (List.length_filter_le _ _) (hok.d.f a ham f (by rw [ht2]; simp [hf])).nl
          have h4 : (dn2.flatMap (un1 s.ds a.1)).length ≤ 8 * dn2.length := flat_len fun f hf => by
            unfold un1; rw [List.length_map]; exact Nat.le_trans (List.length_filter_le _ _) (hok.d.f a ham f (by rw [ht2]; simp [hf])).nl
          have h5 : a.2.length = dn2.length + (xs2.length + 1) := by rw [ht2]; simp
          have key : ∀ f : Fm, f.enc = .tup [.tup [.str (sg f.pn), .str (sg f.dn)], .str f.tk.s, .str f.tl.s, f.b.enc, .tup (f.ns.map askD)] := fun _ => rfl
          rw [key g]
          walk_at "rz"
          have gnl := gok.nl
          refine ⟨_, rfl, _, rfl, ?_⟩
          refine for_inv (fun rest δ m' => ∃ (dn3 xs3 : Gv) (o8 o9 o10 : Option D), g.ns = dn3 ++ xs3 ∧ rest = xs3.map askD ∧ m' = lkd (St ((LA ++ dn2.flatMap (la1 s.ds)) ++ (dn3.filter (isLa s.ds)).map (·.1)) ((UN ++ dn2.flatMap (un1 s.ds a.1)) ++ (dn3.filter (isUn s.ds)).map fun b => (a.1, b.1))) p od vs (shD s.ds) ∧
            δ = [some (.ref x), some (.lst (strD (CL.map sg))), some (.ref pl), some (.ref pu), some (.str (sg a.1)), none, some g.enc, none, o8, o9, o10, none]) ?_ ?_ ⟨[], g.ns, _, _, _, rfl, rfl, by simp, rfl⟩
          · rintro z rest3 δ3 m3 ⟨dn3, xs3, o8, o9, o10, ht3, e5, rfl, rfl⟩ nx3 hnx3
            cases xs3 with
            | nil => cases e5
            | cons b xs3 =>
              rw [List.map_cons] at e5
              injection e5 with e5 e6
              subst e5
              have l3 : ((dn3.filter (isLa s.ds)).map (·.1)).length ≤ 8 := by
                rw [List.length_map]; exact Nat.le_trans (List.length_filter_le _ _) (by rw [ht3] at gnl; simp at gnl; omega)
              have l4 : ((dn3.filter (isUn s.ds)).map fun b => (a.1, b.1)).length ≤ 8 := by
                rw [List.length_map]; exact Nat.le_trans (List.length_filter_le _ _) (by rw [ht3] at gnl; simp at gnl; omega)
              have nla := hnx3 [some (.ref x), some (.lst (strD (CL.map sg))), some (.ref pl), some (.ref pu), some (.str (sg a.1)), none, some g.enc, none, some (.str (sg b.1)), some (.str b.2.1.s), some (.str b.2.2.s), none] (lkd (St ((LA ++ dn2.flatMap (la1 s.ds)) ++ ((dn3 ++ [b]).filter (isLa s.ds)).map (·.1)) ((UN ++ dn2.flatMap (un1 s.ds a.1)) ++ ((dn3 ++ [b]).filter (isUn s.ds)).map fun b => (a.1, b.1))) p od vs (shD s.ds)) ⟨dn3 ++ [b], xs3, _, _, _, by rw [ht3]; simp, e6, rfl, rfl⟩
              rw [List.filter_append, List.filter_append, List.map_append, List.map_append, ← List.append_assoc, ← List.append_assoc] at nla
              generalize hLA2 : (LA ++ dn2.flatMap (la1 s.ds)) ++ (dn3.filter (isLa s.ds)).map (·.1) = LA2 at nla ⊢
              generalize hUN2 : (UN ++ dn2.flatMap (un1 s.ds a.1)) ++ ((dn3.filter (isUn s.ds)).map fun b => (a.1, b.1)) = UN2 at nla ⊢
              have l5 : LA2.length ≤ 100000 := by rw [← hLA2, List.length_append, List.length_append]; omega
              have l6 : UN2.length ≤ 100000 := by rw [← hUN2, List.length_append, List.length_append]; omega
              simp only [askD, key g] at nla ⊢
              walk_at "rz"
              have Lpl : ∀ la un, lkd (St la un) p od vs (shD s.ds) pl = some (.lst (strD (la.map sg))) := fun la un => by rw [lkd_ne npl.symm]; exact Sl _ _
              have Lpu : ∀ la un, lkd (St la un) p od vs (shD s.ds) pu = some (.lst ((un.map prS).map rowT)) := fun la un => by rw [lkd_ne npu.symm]; exact Su _ _
              refine ⟨_, _, Lx _ _ _ _, _, rfl, in_dref (dct_dfz lkd_same) ⟨_, rfl, ?_⟩⟩
              rw [shD_as, getK_as]
              cases hlk : lk s.ds b.1 with
              | none =>
                have i1 : isLa s.ds b = true := by unfold isLa; rw [hlk]; rfl
                have i2 : isUn s.ds b = false := by unfold isUn; rw [hlk]
                rw [List.filter_cons, if_pos i1, List.filter_cons, if_neg (by rw [i2]; simp)] at nla
                simp only [Option.map_none, Option.isSome_none, Bool.xor_false, if_true]
                refine ⟨⟨_, lst_lst (Lpl _ _)⟩, ex_appendM (Lpl _ _) (szlt (by simp [strD]; omega)) ?_⟩
                rw [← shD_as, Lm, Sla]
                simpa using nla
              | some gs =>
                have i1 : isLa s.ds b = false := by unfold isLa; rw [hlk]; rfl
                have i2 : isUn s.ds b = gs.any fun g => decide ((g.tk, g.tl) ≠ b.2) := by unfold isUn; rw [hlk]
                have gm := lk_some hlk
                have gok2 := hok.d.f _ gm
                have glen : gs.length ≤ 480 := by
                  have := cnt_at (s := s.ds) (c := b.1)
                  rw [hlk] at this
                  exact Nat.le_trans this hcn
                rw [List.filter_cons, if_neg (by rw [i1]; simp), List.filter_cons, i2] at nla
                simp only [Option.map_some, Option.isSome_some, Bool.xor_true, Bool.not_true, Bool.false_eq_true, if_false]
                rw [← shD_as]
                refine ⟨_, _, Lx _ _ _ _, _, rfl, ix_dref (dct_dfz lkd_same) (by rw [shD_as, getK_as, hlk]; rfl) ⟨_, rfl, szl (by rw [List.length_map]; omega), lc_pure (unlikeD b.2) (fun d hd R r => ?_) ?_⟩⟩
                · obtain ⟨h, _, rfl⟩ := List.mem_map.mp hd
                  obtain ⟨b1, b2, b3⟩ := b
                  have e : unlikeD (b2, b3) h.enc = if h.tk.s = b2.s ∧ h.tl.s = b3.s then none else some h.enc := rfl
                  rw [e] at r
                  rw [key h] at r ⊢
                  walk_at "rz"
                  rw [ne_kk]
                  refine ⟨_, rfl, ?_⟩
                  by_cases hh : h.tk = b2 ∧ h.tl = b3
                  · rw [if_pos (by rw [Kd.s_inj, Kd.s_inj]; exact hh)] at r
                    rw [if_neg (by simp [hh.1, hh.2])]
                    exact r
                  · rw [if_neg (by rw [Kd.s_inj, Kd.s_inj]; exact hh)] at r
                    rw [if_pos (by simp; exact Classical.not_and_iff_not_or_not.mp hh)]
                    exact r
                · rw [List.nil_append, unlike_map, ne_fms (fun f hf => gok2 f (List.mem_filter.mp hf).1), any_filter]
                  refine ⟨_, rfl, ?_⟩
                  by_cases hh : (gs.any fun g => decide ((g.tk, g.tl) ≠ b.2)) = true
                  · rw [if_pos hh] at nla ⊢
                    refine ⟨⟨_, lst_lst (Lpu _ _)⟩, ex_appendM (Lpu _ _) (szlt (by rw [List.length_map, List.length_map]; omega)) ?_⟩
                    rw [Lu, Sun _ _ (a.1, b.1)]
                    simpa using nla
                  · rw [if_neg hh] at nla ⊢
                    simpa using nla
          · rintro δ3 m3 ⟨dn3, xs3, o8, o9, o10, ht3, e5, rfl, rfl⟩
            cases xs3 with
            | cons y ys => cases e5
            | nil =>
              rw [List.append_nil] at ht3
              refine hnx2 _ _ ⟨dn2 ++ [g], xs2, _, _, _, _, by rw [ht2]; simp, e4, ?_, rfl⟩
              rw [fl_snoc, fl_snoc, ← List.append_assoc, ← List.append_assoc, ← ht3]
              rfl
      · rintro δ2 m2 ⟨dn2, xs2, o6, o8, o9, o10, ht2, e3, rfl, rfl⟩
        cases xs2 with
        | cons y ys => cases e3
        | nil =>
          rw [List.append_nil] at ht2
          rw [← ht2]
          refine hnx _ _ ⟨dn ++ [a], xs, _, _, _, _, _, by rw [ht]; simp, e2, ?_, rfl⟩
          rw [laO_snoc, unO_snoc, hLA, hUN]
  · rintro δ m' ⟨dn, xs, o4, o6, o8, o9, o10, ht, e1, rfl, rfl⟩
    cases xs with
    | cons y ys => cases e1
    | nil =>
      rw [List.append_nil] at ht
      rw [← ht, laO_all, unO_all]
      have l1 := lacks_len hok.d
      have l2 := lacks_dd hok.d
      have l3 := unfits_dd hok.d
      walk_at "rz"
      refine setK_pure (Sq _ _) (keepN fun c => decide (1 < ((lk s.cs c).getD []).length)) (fun od vs Q q => ?_) (szl (by rw [csD_as, asD_len]; omega)) (fun od vs y hy R r => ?_) ?_
      · walk_at "rz"
        exact ⟨_, _, by rw [lkd_ne hS.xq]; exact Sx _ _, _, rfl, q⟩
      · rw [csD_as, keysD_as] at hy
        obtain ⟨z, hz, rfl⟩ := List.mem_map.mp hy
        obtain ⟨c, hc, rfl⟩ := List.mem_map.mp hz
        obtain ⟨a, ha, rfl⟩ := List.mem_map.mp hc
        rw [keepN_sg, lk_of_mem hok.c.nd (ha : (a.1, a.2) ∈ s.cs), Option.getD_some] at r
        walk_at "rz"
        refine ⟨_, _, by rw [lkd_ne hS.xq]; exact Sx _ _, _, rfl, ix_dref (dct_dfz lkd_same) (gc a ha) ?_⟩
        unfold kdsD ksD
        walk_at "rz"
        by_cases h : 1 < a.2.length
        · rw [if_pos (decide_eq_true h)] at r
          rw [if_pos (by rw [List.length_map]; omega)]
          exact r
        · rw [if_neg (by simpa using h)] at r
          rw [if_neg (by rw [List.length_map]; omega)]
          exact r
      rw [csD_as, keysD_as, keepN_map, many_keys hok.c.nd]
      walk_at "rz"
      have cc : CL.length ≤ 8 := by rw [hCL]; exact Nat.le_trans (clashes_sub s.ds) d8
      have ct : ((s.cs.filter fun p => decide (1 < p.2.length)).map (·.1)).length ≤ 4 := Nat.le_trans (twos_sub s.cs) c4
      refine ex_sortedL (cs := CL) rfl (by omega) fun e1 p1 h1 => ?_
      refine ⟨(lacks s.ds).map sg, lst_lst (Sl _ _), by rw [List.length_map]; omega, by rw [put_dd_len]; omega, fun ys py hs => ?_⟩
      obtain rfl := sset_srt py hs
      refine ⟨(unfits s.ds).map prS, lst_lst (Su _ _), ?_, fun r hr => ?_, ?_⟩
      · rw [(dd_map (fun _ _ => prS_inj) (unfits s.ds)).length_eq, List.length_map]; omega
      · obtain ⟨y, _, rfl⟩ := List.mem_map.mp hr
        simp [prS]
      refine ex_sortedL (cs := (s.cs.filter fun p => decide (1 < p.2.length)).map (·.1)) rfl (by omega) fun e2 p2 h2 => ?_
      rw [srt_eq p1 h1, srt_eq p2 h2, unf_rows, hCL]
      exact Fz.to (sub _ _) qq
end K16
/-! whole, wanting, givers -/
namespace K16
open PySem PySem.Spec PyProof.Rows L2 L3
variable {P : Program} {w : World} {K : PySem.W.Frag} {mg : Str → Option Value} {base : Heap}
local macro_rules | `(tactic| walk_at "rw") => `(tactic| simp only [ aRng1, gSubD, aLM, aDM, aLstM, lcStep, aFld, aSFld, aMeth, aMake, sg_inj, D.ref.injEq, aRet, aRetN, aDrop, aIfS, aSeq, aNext, aAsg, gNm, gTupD, gConsD, gNilD, aFor, ex_var0, ex_varS, aC, aOp, aCall, aCons, aNil, aTup, aLst, aB, aAnd, aOr, aNot, aAndV, aOrV, aNotV, aIf, aNeg, aChain, aKix, aKGet1, aKGet2, aDGet1, aDGet2, aNoPart, aPart, aSl, aList, aTupI, aStrI, aZipS, aYes, aLc, aNever, aBreak, aCont, forGo, lcGo,
  isi_str_str, isi_str_int, isi_str_bool, isi_str_tuple, isi_str_list, isi_int_str, isi_int_int, isi_int_bool, isi_int_tuple, isi_int_list, isi_bl_str, isi_bl_int, isi_bl_bool, isi_bl_tuple, isi_bl_list, isi_non_str, isi_non_int, isi_non_bool, isi_non_tuple, isi_non_list, isi_tup_str, isi_tup_int, isi_tup_bool, isi_tup_tuple, isi_tup_list, isi_lst_str, isi_lst_int, isi_lst_bool, isi_lst_tuple, isi_lst_list, isi_dct_str, isi_dct_int, isi_dct_bool, isi_dct_tuple, isi_dct_list, isi2_str, isi2_int, isi2_bl, isi2_non, isi2_tup, isi2_lst, isi2_dct, Option.getD_some, Option.getD_none, D.isNon, sz_0, sz_1, sz_2, sz_3, sz_4, sz_5, sz_6, sz_7, sz_8, sz_9, sz_10, sz_11, sz_12, sz_13, sz_14, sz_15, sz_16, sg_len, ex_in_sg, ex_len_str, ex_len_tup, ex_len_lst, ex_eq_str, ex_ne_str, ex_eq_int, ex_ne_int, ex_eq_ns, ex_eq_sn, ex_eq_nn, ex_ne_ns, ex_ne_sn, ex_ne_nn, ex_I, ex_add_int, ex_add_str, ex_add_tup, ex_add_lst, ex_sub, ex_mul, ex_mod, ex_div, ex_isN, ex_notN, ex_ix_tup, ex_ix_lst, ex_sl_tup, ex_sl_lst, ex_sl_str, ex_tuple_lst,
  ofs_inj, String.reduceEq, atI_0, atI_1, atI_2, atI_3, cut_1, cut_13, startD, wipeD, List.map_cons, List.map_nil, List.length_cons, List.length_nil, List.cons_append, List.nil_append, List.replicate_succ, List.replicate_zero, List.set_cons_zero, List.set_cons_succ, Nat.reduceAdd, Nat.reduceSub, Nat.sub_self,
  D.bl.injEq, D.int.injEq, D.str.injEq, D.tup.injEq, D.lst.injEq, D.dct.injEq, Option.some.injEq, List.cons.injEq, and_assoc, Int.cast_ofNat_Int, Int.reduceAdd, Int.reduceSub, Int.reduceMul, Int.reduceNeg, Int.reduceEq, Int.reduceLT, Int.reduceLE, Int.reduceNe, eq_self, exists_eq_left, exists_eq_left', exists_eq_right, exists_eq, exists_const, exists_false, false_and, and_false, false_or, or_false, true_and, and_true, if_true, if_false, Bool.false_eq_true, Bool.not_true, Bool.not_false, ite_true, ite_false, reduceCtorEq, decide_true, decide_false, decide_eq_true_eq, exists_and_left, Bool.not_eq_true])

def sp_wanting : SpD := fun ds m Q => ∃ (ps : List Part) (t : Tr), ds = [.lst (ps.map Part.enc), t.enc] ∧ ShOk ps ∧ TrOk ps t ∧ t.nb ≤ 480 ∧ Q (wants (putT (shl ps) t)).enc m
theorem F_wanting (T : Txt K w mg) : FnD P w K mg base "wanting" 30 sp_wanting := by
  have nd := sc_wanting.nd
  refine fnd_ofZ T.d_wanting sc_wanting (fun ds m Q ⟨_, _, e, _⟩ => by rw [e]; rfl) fun f cdv A outer s H E hr => ⟨_, (ass_cons (as_expr (ae_call ((F_need_tree T).mono (by omega)) hr (aa_cons (ae_var 0) (aa_cons (ae_var 1) aa_nil))))
      (ass_one (as_ret (ae_call ((F_wanting_in T).mono (by omega)) hr (aa_cons (ae_call ((F_put_together T).mono (by omega)) hr (aa_cons (ae_var 0) (aa_cons (ae_var 1) aa_nil))) aa_nil))))), ?_⟩
  rintro _ m Q ⟨ps, t, rfl, hps, ht, hnb, q⟩
  have td := ht.d
  walk_at "rw"
  refine ⟨ps, t, rfl, hps, ht, ?_⟩
  try walk_at "rw"
  refine ⟨ps, t, rfl, hps, ht.wf, by omega, by omega, fun x dx p q' f => ?_⟩
  obtain ⟨ok, c⟩ := putT_ok (shl_ok hps.ok) t ht.wf
  exact ⟨x, dx, p, q', _, rfl, newSh_in f, ok, by omega, Fz.to (newSh_sub f) q⟩
def sp_whole (K : PySem.W.Frag) : SpD := fun ds m Q => ∃ (x dx p q : Addr) (s : Sh), ds = [.ref x] ∧ ShIn K m x dx p q s ∧ s.ok ∧ L3.cnt s.ds ≤ 480 ∧ Q (.bl (decide s.Whole)) m
theorem F_is_whole_flats (T : Txt K w mg) : FnD P w K mg base "is_whole_flats" 2 (sp_whole K) := by
  have nd := sc_is_whole_flats.nd
  refine fnd_ofN T.d_is_whole_flats sc_is_whole_flats (fun ds m Q ⟨_, _, _, _, _, e, _⟩ => by rw [e]; rfl) fun f cdv A outer s H E hr => ⟨_, (ass_one (as_ret (ae_cmp (or_eq hr.units) (ae_lc (own := [("some", 1)]) rfl nd (ai_tup (ae_call ((F_wanting_in T).mono (by omega)) hr (aa_cons (ae_var 0) aa_nil))) (blkOk_by (own := [("some", 1)]) (by kernel_rfl)) (gg_name (i := 1) (by simp)) (fun _ _ _ _ _ => (pg_name (i := 1) nd rfl (Or.inl rfl))) (fun _ _ _ _ _ => (ats_one (at_cmp (or_ne hr.units) (ae_var 1) (ae_lst aa_nil) (nomark _)))) (fun _ _ _ _ _ => (ae_var 1))) (ae_lst aa_nil) (nomark _)))), ?_⟩
  rintro _ m Q ⟨x, dx, p, q, s, rfl, hS, hok, hcn, qq⟩
  walk_at "rw"
  refine ⟨x, dx, p, q, s, rfl, hS, hok, hcn, ?_⟩
  obtain ⟨h1, h2, h3, h4⟩ := wants_lists hok
  rw [Wt.enc]
  refine ⟨_, rfl, szl (by simp), lc_pure notNil (fun d hd R r => ?_) ?_⟩
  · have : ∃ ds, d = .lst ds ∧ eqOk (.lst ds) = true := by
      simp only [List.mem_cons, List.not_mem_nil, or_false] at hd
      rcases hd with rfl | rfl | rfl | rfl
      · exact ⟨_, rfl, h1.eq (by omega)⟩
      · exact ⟨_, rfl, h2.eq (by omega)⟩
      · exact ⟨_, rfl, h3.eq (by omega)⟩
      · exact ⟨_, rfl, h4.eq (by omega)⟩
    obtain ⟨ds, rfl, ok⟩ := this
    walk_at "rw"
    rw [ne_lstE ok]
    refine ⟨_, rfl, ?_⟩
    cases ds with
    | nil => exact r
    | cons y ys => exact r
  · rw [List.nil_append, eq_lstE]
    · have e : (List.filterMap notNil [D.lst (strD ((wants s).cl.map sg)), D.lst (strD ((wants s).la.map sg)), D.lst (((wants s).un.map prS).map rowT), D.lst (strD ((wants s).tw.map sg))]).isEmpty = decide s.Whole := by
        rw [Bool.eq_iff_iff, decide_eq_true_eq, ← wants_whole]
        cases wants s with
        | mk a b c d => cases a <;> cases b <;> cases c <;> cases d <;> simp [notNil, strD, List.filterMap_cons]
      rw [e]
      exact Fz.now qq
    · refine okD.eq (n := 3) (okD_lst fun d hd => ?_) (by omega)
      obtain ⟨y, hy, e⟩ := List.mem_filterMap.mp hd
      have : d = y := by
        unfold notNil at e
        split at e
        · cases e
        · exact (Option.some.inj e).symm
      subst this
      simp only [List.mem_cons, List.not_mem_nil, or_false] at hy
      rcases hy with rfl | rfl | rfl | rfl
      · exact h1
      · exact h2
      · exact h3
      · exact h4
def nmsD (l : List Nat) : D := .lst (strD (l.map sg))
def sp_lists_of (n : Nat) : SpD := fun ds m Q => ∃ (ns : List Nat) (k : Nat) (i : Int), ds = [nmsD ns, .int i] ∧ i = k ∧ k + 1 ≤ n ∧ ns.length ≤ 6 ∧ Q (.lst ((listsOf k ns).map nmsD)) m
def putFst (c : Nat) : D → Option D
  | .lst ds => some (.lst (.str (sg c) :: ds))
  | _ => none
theorem putFst_map (c : Nat) (ls : List (List Nat)) : (ls.map nmsD).filterMap (putFst c) = (ls.map (c :: ·)).map nmsD := by
  rw [fm_map (g := nmsD) (f := putFst c) (h := fun l => nmsD (c :: l)) fun l _ => rfl, List.map_map]; rfl
theorem F_lists_of (T : Txt K w mg) : ∀ n : Nat, FnD P w K mg base "lists_of" (n + 1) (sp_lists_of n)
  | 0 => fnd_never T.d_lists_of sc_lists_of fun ds m Q ⟨_, _, _, _, _, h, _⟩ => by omega
  | n + 1 => by
    have nd := sc_lists_of.nd
    have F := F_lists_of T n
    refine fnd_ofZ T.d_lists_of sc_lists_of (fun ds m Q ⟨_, _, _, e, _⟩ => by rw [e]; rfl) fun f cdv A outer s H E hr => ⟨_, (ass_cons (as_if (at_cmp (or_eq hr.units) (ae_var 1) ae_int (nomark _)) (ass_one (as_ret (ae_lst (aa_cons (ae_lst aa_nil) aa_nil)))) ass_nil)
      (ass_cons (as_asg (ae_lstM aa_nil) (ag_name 2 nd))
      (ass_cons (as_for PassesOwn.never rfl (ai_rng1 T.b_range (aa_cons (ae_callB cr_len T.b_len boot_len (aa_cons (ae_var 0) aa_nil)) aa_nil)) (ag_name 3 nd)
      (ass_one (as_expr (ae_lm PySem.F.slot_list_extend PySem.F.type_list_extend mt_extendD (ae_var 2) (aa_cons (ae_lc (own := [("rest", 4)]) rfl nd (ai_list (ae_call (F.mono (by omega)) hr (aa_cons (ae_sl (ae_var 0) (ao_some (ae_op or_add (ae_var 3) ae_int)) ao_none) (aa_cons (ae_op or_sub (ae_var 1) ae_int) aa_nil)))) (blkOk_by (own := [("rest", 4)]) (by kernel_rfl)) (gg_name (i := 4) (by simp)) (fun _ _ _ _ _ => (pg_name (i := 4) nd rfl (Or.inl rfl))) (fun _ _ _ _ _ => ats_nil) (fun _ _ _ _ _ => (ae_op or_add (ae_lst (aa_cons (ae_ix hr.u1 (ae_var 0) (ae_var 3)) aa_nil)) (ae_var 4)))) aa_nil)))))
      (ass_one (as_ret (ae_var 2)))))), ?_⟩
    rintro _ m Q ⟨ns, k, i, rfl, hi, hk, h6, q⟩
    unfold nmsD
    walk_at "rw"
    by_cases h0 : i = 0
    · rw [if_pos h0]
      obtain rfl : k = 0 := by omega
      rw [listsOf] at q
      exact Fz.now q
    rw [if_neg h0]
    obtain ⟨j, rfl⟩ : ∃ j, k = j + 1 := ⟨k - 1, by omega⟩
    intro p hp
    have hl : (strD (ns.map sg)).length = ns.length := by simp [strD]
    refine ⟨by omega, by omega, ?_⟩
    rw [Int.toNat_natCast, hl]
    refine for_rng (fun c δ m' => ∃ (acc : List (List Nat)) (o3 : Option D), acc ++ listsOf (j + 1) (ns.drop c) = listsOf (j + 1) ns ∧ m' = m.put p (.lst (acc.map nmsD)) ∧ δ = [some (.lst (strD (ns.map sg))), some (.int i), some (.ref p), o3, none]) ?_ ?_ ⟨[], _, rfl, rfl, rfl⟩
    · rintro c δ m' hc ⟨acc, o3, hacc, rfl, rfl⟩ nx hnx
      obtain ⟨y, hy⟩ : ∃ y, ns[c]? = some y := ⟨_, List.getElem?_eq_getElem hc⟩
      rw [listsOf_drop hy] at hacc
      have hlen : acc.length + (listsOf j (ns.drop (c + 1))).length ≤ 64 := by
        have h1 := listsOf_len (j + 1) ns
        rw [← hacc, List.length_append, List.length_append, List.length_map] at h1
        have := pow6 h6
        omega
      have ec : ((0 : Int) + (c : Int) + 1) = ((c + 1 : Nat) : Int) := by omega
      walk_at "rw"
      rw [show ((0 : Int) + (c : Int)) = (c : Int) by omega] at ec ⊢
      rw [ec]
      rw [show cutD (strD (ns.map sg)) (some ((c + 1 : Nat) : Int)) none = strD ((ns.drop (c + 1)).map sg) by rw [cut_hi', List.map_drop]; unfold strD; rw [List.map_drop]]
      refine ⟨⟨_, lst_lst Mu.put_same⟩, ns.drop (c + 1), j, _, rfl, by omega, by omega, by rw [List.length_drop]; omega, ?_⟩
      walk_at "rw"
      refine ⟨szl (by rw [List.length_map]; omega), lc_pure (putFst y) (fun d hd R r => ?_) ?_⟩
      · obtain ⟨l, hll, rfl⟩ := List.mem_map.mp hd
        have hlen2 := (mem_listsOf.mp hll).1.length_le
        rw [List.length_drop] at hlen2
        unfold nmsD at r ⊢
        walk_at "rw"
        refine ⟨_, atI_nat (by simp only [strD, List.getElem?_map, hy]; rfl), szl (by simp [strD]; omega), ?_⟩
        exact r
      · rw [List.nil_append, putFst_map]
        refine ⟨p, _, _, _, rfl, Mu.put_same, rfl, rfl, szl (by rw [List.length_map, List.length_map, List.length_map]; omega), ?_⟩
        rw [Mu.put_put, ← List.map_append]
        exact hnx _ _ ⟨_, _, by rw [List.append_assoc]; exact hacc, rfl, rfl⟩
    · rintro δ m' ⟨acc, o3, hacc, rfl, rfl⟩
      rw [List.drop_eq_nil_of_le (Nat.le_refl _), listsOf, List.append_nil] at hacc
      subst hacc
      walk_at "rw"
      exact Fz.lst Mu.put_same (Sub.put hp) hp q
def sp_givers : SpD := fun ds m Q => ∃ (ps : List Part) (t : Tr), ds = [.lst (ps.map Part.enc), t.enc] ∧ ShOk ps ∧ TrOk ps t ∧ t.dep ≤ 6 ∧ t.nb ≤ 400 ∧
  (∀ l, Found (fun l => (putT (shl ps) (putWith t l)).Whole) (srt (ps.map (·.nm))) l → Q (nmsD l) m) ∧ ((∀ l : List Nat, l.Sublist (srt (ps.map (·.nm))) → ¬ (putT (shl ps) (putWith t l)).Whole) → Q .non m)
theorem F_givers (T : Txt K w mg) : FnD P w K mg base "givers" 30 sp_givers := by
  have nd := sc_givers.nd
  refine fnd_ofZ T.d_givers sc_givers (fun ds m Q ⟨_, _, e, _⟩ => by rw [e]; rfl) fun f cdv A outer s H E hr => ⟨_, (ass_cons (as_expr (ae_call ((F_need_tree T).mono (by omega)) hr (aa_cons (ae_var 0) (aa_cons (ae_var 1) aa_nil))))
      (ass_cons (as_asg (ae_callB cr_sorted T.b_sorted boot_sorted (aa_cons (ae_lc (own := [("part", 7)]) rfl nd (ai_list (ae_var 0)) (blkOk_by (own := [("part", 7)]) (by kernel_rfl)) (gg_name (i := 7) (by simp)) (fun _ _ _ _ _ => (pg_name (i := 7) nd rfl (Or.inl rfl))) (fun _ _ _ _ _ => ats_nil) (fun _ _ _ _ _ => (ae_ix hr.u1 (ae_var 7) ae_int))) aa_nil)) (ag_name 2 nd))
      (ass_cons (as_for PassesOwn.never rfl (ai_rng1 T.b_range (aa_cons (ae_op or_add (ae_callB cr_len T.b_len boot_len (aa_cons (ae_var 2) aa_nil)) ae_int) aa_nil)) (ag_name 3 nd)
      (ass_one (as_for PassesOwn.never rfl (ai_list (ae_call ((F_lists_of T 7).mono (by omega)) hr (aa_cons (ae_var 2) (aa_cons (ae_var 3) aa_nil)))) (ag_name 4 nd)
      (ass_cons (as_asg (ae_var 1) (ag_name 5 nd))
      (ass_cons (as_for PassesOwn.never rfl (ai_list (ae_var 4)) (ag_name 6 nd)
      (ass_one (as_asg (ae_tup (aa_cons ae_str (aa_cons (ae_var 5) (aa_cons (ae_tup (aa_cons ae_str (aa_cons (ae_var 6) aa_nil))) aa_nil)))) (ag_name 5 nd))))
      (ass_one (as_if (at_val (ae_call ((F_is_whole_flats T).mono (by omega)) hr (aa_cons (ae_call ((F_put_together T).mono (by omega)) hr (aa_cons (ae_var 0) (aa_cons (ae_var 5) aa_nil))) aa_nil))) (ass_one (as_ret (ae_var 4))) ass_nil)))))))
      (ass_one (as_ret ae_non))))), ?_⟩
  rintro _ m Q ⟨ps, t, rfl, hps, ht, td, tn, q1, q2⟩
  have h6 := hps.six
  walk_at "rw"
  refine ⟨ps, t, rfl, hps, ht, ?_⟩
  try walk_at "rw"
  refine ⟨szl (by simp; omega), lc_pure hdD (fun d hd R q => ?_) ?_⟩
  · obtain ⟨p, _, rfl⟩ := List.mem_map.mp hd
    simp only [Part.enc, hdD] at q ⊢
    walk_at "rw"
    exact q
  rw [names_map, List.nil_append]
  try walk_at "rw"
  refine ex_sortedL (cs := ps.map (·.nm)) rfl (by simp; omega) fun es pe le => ?_
  obtain rfl := srt_eq pe le
  have hsl : (srt (ps.map (·.nm))).length = ps.length := by rw [(srt_perm _).length_eq, List.length_map]
  generalize hNS : srt (ps.map (·.nm)) = NS at q1 q2 hsl ⊢
  have nsm : ∀ n ∈ NS, n ∈ ps.map (·.nm) := fun n hn => (srt_perm _).mem_iff.mp (by rw [hNS]; exact hn)
  have hl : (strD (NS.map sg)).length = NS.length := by simp [strD]
  walk_at "rw"
  refine ⟨by omega, by omega, ?_⟩
  rw [hl, show ((NS.length : Int) + 1).toNat = NS.length + 1 by omega]
  refine for_rng (fun i δ m' => L3.Sub m m' ∧ (∀ l : List Nat, l.Sublist NS → l.length < i → ¬ (putT (shl ps) (putWith t l)).Whole) ∧ ∃ o3 o4 o5 o6 o7, δ = [some (.lst (ps.map Part.enc)), some t.enc, some (.lst (strD (NS.map sg))), o3, o4, o5, o6, o7]) ?_ ?_ ⟨L3.Sub.refl m, fun l _ h => by omega, _, _, _, _, _, rfl⟩
  · rintro i δ m1 hi ⟨S1, hno, o3, o4, o5, o6, o7, rfl⟩ nx hnx
    have ei : ((0 : Int) + (i : Int)) = (i : Int) := by omega
    rw [ei]
    walk_at "rw"
    refine ⟨NS, i, _, rfl, rfl, by omega, by omega, ?_⟩
    try walk_at "rw"
    refine for_inv (fun rest δ m' => ∃ (dn xs : List (List Nat)) (o4 o5 o6 o7 : Option D), listsOf i NS = dn ++ xs ∧ rest = xs.map nmsD ∧ L3.Sub m m' ∧ (∀ l ∈ dn, ¬ (putT (shl ps) (putWith t l)).Whole) ∧ δ = [some (.lst (ps.map Part.enc)), some t.enc, some (.lst (strD (NS.map sg))), some (.int i), o4, o5, o6, o7]) ?_ ?_ ⟨[], listsOf i NS, _, _, _, _, rfl, rfl, S1, fun l h => (nomatch h), rfl⟩
    · rintro z rest δ m2 ⟨dn, xs, o4, o5, o6, o7, ht2, e1, S2, hd, rfl⟩ nx2 hnx2
      cases xs with
      | nil => cases e1
      | cons l xs =>
        rw [List.map_cons] at e1
        injection e1 with e1 e2
        subst e1
        have hlm : l ∈ listsOf i NS := by rw [ht2]; simp
        obtain ⟨hsub, hlen⟩ := mem_listsOf.mp hlm
        have hmem : ∀ n ∈ l, n ∈ ps.map (·.nm) := fun n hn => nsm n (hsub.subset hn)
        have hl6 := hsub.length_le
        unfold nmsD
        walk_at "rw"
        refine for_inv (fun rest δ m' => ∃ (dn3 xs3 : List Nat) (o6 : Option D), l = dn3 ++ xs3 ∧ rest = strD (xs3.map sg) ∧ m' = m2 ∧ δ = [some (.lst (ps.map Part.enc)), some t.enc, some (.lst (strD (NS.map sg))), some (.int i), some (.lst (strD (l.map sg))), some (putWith t dn3).enc, o6, o7]) ?_ ?_ ⟨[], l, _, rfl, rfl, rfl, rfl⟩
        · rintro z rest3 δ m3 ⟨dn3, xs3, o6, ht3, e3, rfl, rfl⟩ nx3 hnx3
          cases xs3 with
          | nil => cases e3
          | cons c xs3 =>
            rw [show strD ((c :: xs3).map sg) = .str (sg c) :: strD (xs3.map sg) from rfl] at e3
            injection e3 with e3 e4
            subst e3
            walk_at "rw"
            exact hnx3 _ _ ⟨dn3 ++ [c], xs3, _, by rw [ht3]; simp, e4, rfl, by rw [putWith_snoc]; rfl⟩
        · rintro δ m3 ⟨dn3, xs3, o6, ht3, e3, rfl, rfl⟩
          cases xs3 with
          | cons c xs3 => cases e3
          | nil =>
            rw [List.append_nil] at ht3
            subst ht3
            walk_at "rw"
            have hwf := putWith_wf ht.wf hmem
            have hdep := putWith_dep (l := l) (t := t)
            have hnb := putWith_nb (l := l) (t := t)
            refine ⟨ps, putWith t l, rfl, hps, hwf, by omega, by omega, fun x dx p q' f => ?_⟩
            obtain ⟨ok, c⟩ := putT_ok (shl_ok hps.ok) _ hwf
            have S3 := S2.trans (newSh_sub (K := K) (dx := dx) (s := putT (shl ps) (putWith t l)) f)
            refine ⟨x, dx, p, q', _, rfl, newSh_in f, ok, by omega, _, rfl, ?_⟩
            by_cases hW : (putT (shl ps) (putWith t l)).Whole
            · rw [decide_eq_true hW, if_pos rfl]
              exact Fz.to S3 (q1 l ⟨hsub, hW, fun k hk hk2 => hno k hk (by omega)⟩)
            · rw [decide_eq_false hW, if_neg (by simp)]
              refine hnx2 _ _ ⟨dn ++ [l], xs, _, _, _, _, by rw [ht2]; simp, e2, S3, fun k hk => ?_, rfl⟩
              rcases List.mem_append.mp hk with h | h
              · exact hd k h
              · rw [List.mem_singleton.mp h]; exact hW
    · rintro δ m2 ⟨dn, xs, o4, o5, o6, o7, ht2, e1, S2, hd, rfl⟩
      cases xs with
      | cons y ys => cases e1
      | nil =>
        rw [List.append_nil] at ht2
        refine hnx _ _ ⟨S2, fun k hk hk2 => ?_, _, _, _, _, _, rfl⟩
        by_cases e : k.length < i
        · exact hno k hk e
        · exact hd k (by rw [← ht2]; exact mem_listsOf.mpr ⟨hk, by omega⟩)
  · rintro δ m1 ⟨S1, hno, o3, o4, o5, o6, o7, rfl⟩
    walk_at "rw"
    exact Fz.to S1 (q2 fun l hl => hno l hl (by have := hl.length_le; omega))
def sp_put_with : SpD := fun ds m Q => ∃ (t : Tr) (l : List Nat), ds = [t.enc, .lst (strD (l.map sg))] ∧ Q (putWith t l).enc m
theorem F__law_put_with (T : Txt K w mg) : FnD P w K mg base "_law_put_with" 1 sp_put_with := by
  have nd := sc__law_put_with.nd
  refine fnd_ofZ T.d__law_put_with sc__law_put_with (fun ds m Q ⟨_, _, e, _⟩ => by rw [e]; rfl) fun f cdv A outer s H E hr => ⟨_, (ass_cons (as_for PassesOwn.never rfl (ai_list (ae_var 1)) (ag_name 2 nd)
      (ass_one (as_asg (ae_tup (aa_cons ae_str (aa_cons (ae_var 0) (aa_cons (ae_tup (aa_cons ae_str (aa_cons (ae_var 2) aa_nil))) aa_nil)))) (ag_name 0 nd))))
      (ass_one (as_ret (ae_var 0)))), ?_⟩
  rintro _ m Q ⟨t, l, rfl, q⟩
  walk_at "rw"
  refine for_inv (fun (rest : List D) (δ : Dt) (m' : Mu) => ∃ (dn xs : List Nat) (o : Option D), l = dn ++ xs ∧ rest = strD (xs.map sg) ∧ m' = m ∧ δ = [some (putWith t dn).enc, some (.lst (strD (l.map sg))), o]) ?_ ?_ ⟨[], l, none, rfl, rfl, rfl, rfl⟩
  · rintro z rest δ m' ⟨dn, xs, o, ht, e1, rfl, rfl⟩ nx hnx
    cases xs with
    | nil => cases e1
    | cons c xs =>
      rw [show strD ((c :: xs).map sg) = .str (sg c) :: strD (xs.map sg) from rfl] at e1
      injection e1 with e1 e2
      subst e1
      walk_at "rw"
      exact hnx _ _ ⟨dn ++ [c], xs, _, by rw [ht]; simp, e2, rfl, by rw [putWith_snoc]; rfl⟩
  · rintro δ m' ⟨dn, xs, o, ht, e1, rfl, rfl⟩
    cases xs with
    | cons c xs => cases e1
    | nil =>
      rw [List.append_nil] at ht
      subst ht
      walk_at "rw"
      exact Fz.now q
end K16
/-! things -/
namespace K16
open PySem PySem.Spec PyProof.Rows L2 L3
variable {P : Program} {w : World} {K : PySem.W.Frag} {mg : Str → Option Value} {base : Heap}
local macro_rules | `(tactic| walk_at "rh") => `(tactic| simp only [ aDisp, aDispW, pairsD, ex_disp, dkOf, dctOf_dct, getK_nil, putD_nil, putD_cons, mergeD_nil, mergeD_cons, aRng1, gSubD, aLM, aDM, aLstM, lcStep, aFld, aSFld, aMeth, aMake, aDNewM, sg_inj, D.ref.injEq, shp_p, shp_w, shp_o, shp_a, shp_r, shp_v, zs_p, zs_tt, zs_td, zs_tp, zs_tdd, len_p, len_tt, len_td, len_tp, len_tdd, aRet, aRetN, aDrop, aIfS, aSeq, aNext, aAsg, gNm, gTupD, gConsD, gNilD, aFor, ex_var0, ex_varS, aC, aOp, aCall, aCons, aNil, aTup, aLst, aB, aAnd, aOr, aNot, aAndV, aOrV, aNotV, aIf, aNeg, aChain, aKix, aKGet1, aKGet2, aDGet1, aDGet2, aNoPart, aPart, aSl, aList, aTupI, aStrI, aZipS, aYes, aLc, aNever, aBreak, aCont, forGo, lcGo,
  isi_str_str, isi_str_int, isi_str_bool, isi_str_tuple, isi_str_list, isi_int_str, isi_int_int, isi_int_bool, isi_int_tuple, isi_int_list, isi_bl_str, isi_bl_int, isi_bl_bool, isi_bl_tuple, isi_bl_list, isi_non_str, isi_non_int, isi_non_bool, isi_non_tuple, isi_non_list, isi_tup_str, isi_tup_int, isi_tup_bool, isi_tup_tuple, isi_tup_list, isi_lst_str, isi_lst_int, isi_lst_bool, isi_lst_tuple, isi_lst_list, isi_dct_str, isi_dct_int, isi_dct_bool, isi_dct_tuple, isi_dct_list, isi2_str, isi2_int, isi2_bl, isi2_non, isi2_tup, isi2_lst, isi2_dct, Option.getD_some, Option.getD_none, D.isNon, sz_0, sz_1, sz_2, sz_3, sz_4, sz_5, sz_6, sz_7, sz_8, sz_9, sz_10, sz_11, sz_12, sz_13, sz_14, sz_15, sz_16, sg_len, ex_in_sg, ex_len_str, ex_len_tup, ex_len_lst, ex_eq_str, ex_ne_str, ex_eq_int, ex_ne_int, ex_eq_ns, ex_eq_sn, ex_eq_nn, ex_ne_ns, ex_ne_sn, ex_ne_nn, ex_I, ex_add_int, ex_add_str, ex_add_tup, ex_add_lst, ex_sub, ex_mul, ex_mod, ex_div, ex_isN, ex_notN, ex_ix_tup, ex_ix_lst, ex_sl_tup, ex_sl_lst, ex_sl_str, ex_tuple_lst,
  ofs_inj, String.reduceEq, atI_0, atI_1, atI_2, atI_3, cut_1, cut_13, startD, wipeD, List.map_cons, List.map_nil, List.length_cons, List.length_nil, List.cons_append, List.nil_append, List.replicate_succ, List.replicate_zero, List.set_cons_zero, List.set_cons_succ, Nat.reduceAdd, Nat.reduceSub, Nat.sub_self,
  D.bl.injEq, D.int.injEq, D.str.injEq, D.tup.injEq, D.lst.injEq, D.dct.injEq, Option.some.injEq, List.cons.injEq, and_assoc, Int.cast_ofNat_Int, Int.reduceAdd, Int.reduceSub, Int.reduceMul, Int.reduceNeg, Int.reduceEq, Int.reduceLT, Int.reduceLE, Int.reduceNe, eq_self, exists_eq_left, exists_eq_left', exists_eq_right, exists_eq, exists_const, exists_false, false_and, and_false, false_or, or_false, true_and, and_true, if_true, if_false, Bool.false_eq_true, Bool.not_true, Bool.not_false, ite_true, ite_false, reduceCtorEq, decide_true, decide_false, decide_eq_true_eq, exists_and_left, Bool.not_eq_true])

def Kd.fst : Kd → D
  | .n => .int 0
  | .t => .bl false
  | .l => .tup []
def sp_first : SpD := fun ds m Q => ∃ k : Kd, ds = [.str k.s] ∧ Q (Kd.fst k) m
theorem F_first_worth (T : Txt K w mg) : FnD P w K mg base "first_worth" 1 sp_first := by
  have nd := sc_first_worth.nd
  refine fnd_ofZ T.d_first_worth sc_first_worth (fun ds m Q ⟨_, e, _⟩ => by rw [e]; rfl) fun f cdv A outer s H E hr => ⟨_, (ass_one (as_ret (ae_ix hr.u1 (ae_disp (apps_cons (ae_glo T.c_NUMBER) ae_int (apps_cons (ae_glo T.c_TRUTH) ae_bl (apps_cons (ae_glo T.c_LIST) (ae_tup aa_nil) apps_nil)))) (ae_var 0)))), ?_⟩
  rintro _ m Q ⟨k, rfl, q⟩
  walk_at "rh"
  refine ⟨_, rfl, by decide, ?_⟩
  cases k <;> exact .inr ⟨_, .inr _, _, rfl, rfl, by kernel_rfl, Fz.now q⟩
def Tr.nms : Tr → List Nat
  | .part p => [p]
  | .wth a b => Tr.nms a ++ Tr.nms b
  | .wout a _ => Tr.nms a
  | .also a _ _ => Tr.nms a
  | .ren a _ _ => Tr.nms a
  | .over a p => Tr.nms a ++ [p]
theorem Tr.nms_len : ∀ t : Tr, (Tr.nms t).length ≤ t.size
  | .part p => Nat.le_refl _
  | .wth a b => by
    have := Tr.nms_len a
    have := Tr.nms_len b
    simp only [Tr.nms, List.length_append, Tr.size]; omega
  | .wout a _ => by have := Tr.nms_len a; simp only [Tr.nms, Tr.size]; omega
  | .also a _ _ => by have := Tr.nms_len a; simp only [Tr.nms, Tr.size]; omega
  | .ren a _ _ => by have := Tr.nms_len a; simp only [Tr.nms, Tr.size]; omega
  | .over a p => by have := Tr.nms_len a; simp only [Tr.nms, List.length_append, Tr.size, List.length_cons, List.length_nil]; omega
theorem nm_ext {m : Mu} {p : Addr} {a b : List Nat} {Q : EK} (h : a.length + b.length ≤ 100000) (q : Q .non (m.put p (.lst (strD ((a ++ b).map sg))))) : rhoExtend (.ref p) [.lst (strD (b.map sg))] (m.put p (.lst (strD (a.map sg)))) Q := by
  refine ⟨p, _, _, _, rfl, Mu.put_same, rfl, rfl, szl (by simp [strD]; omega), ?_⟩
  rw [Mu.put_put]
  rw [List.map_append] at q
  unfold strD at q ⊢
  rw [List.map_append] at q
  exact q
theorem nm_app {m : Mu} {p : Addr} {a : List Nat} {c : Nat} {Q : EK} (h : a.length ≤ 1000) (q : Q .non (m.put p (.lst (strD ((a ++ [c]).map sg))))) : rhoAppend (.ref p) [.str (sg c)] (m.put p (.lst (strD (a.map sg)))) Q := by
  refine ex_appendM Mu.put_same (szlt (by simp [strD]; omega)) ?_
  rw [Mu.put_put]
  rw [List.map_append] at q
  unfold strD at q ⊢
  rw [List.map_append] at q
  exact q
def sp_named (n : Nat) : SpD := fun ds m Q => ∃ (t : Tr), ds = [t.enc] ∧ t.dep ≤ n ∧ t.size ≤ 1000 ∧ Q (.lst (strD ((Tr.nms t).map sg))) m
theorem F_named_in (T : Txt K w mg) : ∀ n : Nat, FnD P w K mg base "named_in" (n + 1) (sp_named n)
  | 0 => fnd_never T.d_named_in sc_named_in fun ds m Q ⟨t, _, h, _⟩ => by have := t.dep_pos; omega
  | n + 1 => by
    have nd := sc_named_in.nd
    have F := F_named_in T n
    refine fnd_ofZ T.d_named_in sc_named_in (fun ds m Q ⟨_, e, _⟩ => by rw [e]; rfl) fun f cdv A outer s H E hr => ⟨_, (ass_cons (as_asg (ae_lstM aa_nil) (ag_name 1 nd))
      (ass_cons (as_for PassesOwn.never rfl (ai_zipTS T.b_zip (aa_cons (ae_sl (ae_var 0) (ao_some ae_int) ao_none) (aa_cons (ae_kix T.t_SHAPES (ae_ix hr.u1 (ae_var 0) ae_int)) aa_nil))) (ag_tup (n := 2) rfl (ags_cons (ag_name 2 nd) (ags_cons (ag_name 3 nd) ags_nil)))
      (ass_one (as_if (at_cmp (or_eq hr.units) (ae_var 3) ae_str (nomark _)) (ass_one (as_expr (ae_lm PySem.F.slot_list_extend PySem.F.type_list_extend mt_extendD (ae_var 1) (aa_cons (ae_call (F.mono (by omega)) hr (aa_cons (ae_var 2) aa_nil)) aa_nil)))) (ass_one (as_if (at_cmp (or_eq hr.units) (ae_var 3) ae_str (nomark _)) (ass_one (as_expr (ae_lm PySem.F.slot_list_append PySem.F.type_list_append mt_appendD (ae_var 1) (aa_cons (ae_var 2) aa_nil)))) ass_nil)))))
      (ass_one (as_ret (ae_var 1))))), ?_⟩
    rintro _ m Q ⟨t, rfl, hd, hs, q⟩
    have len := Tr.nms_len t
    have call : ∀ (a : Tr) (m : Mu) (R : EK), a.dep + 1 ≤ t.dep → a.size ≤ 1000 → R (.lst (strD ((Tr.nms a).map sg))) m → sp_named n [a.enc] m R := fun a m R h1 h2 q => ⟨a, rfl, by omega, h2, q⟩
    cases t with
    | part p =>
      simp only [Tr.enc]
      walk_at "rh"
      intro p hp
      exact ⟨⟨_, lst_lst Mu.put_same⟩, nm_app (a := []) (by simp) (Fz.lst Mu.put_same (Sub.put hp) hp q)⟩
    | wth a b =>
      simp only [Tr.enc]
      walk_at "rh"
      simp only [Tr.size] at hs
      have la := Tr.nms_len a
      have lb := Tr.nms_len b
      intro p hp
      refine ⟨⟨_, lst_lst Mu.put_same⟩, call a _ _ (by simp [Tr.dep]; omega) (by omega) (nm_ext (a := []) (by simp; omega) ⟨⟨_, lst_lst Mu.put_same⟩, call b _ _ (by simp [Tr.dep]; omega) (by omega) (nm_ext (by simp; omega) (Fz.lst Mu.put_same (Sub.put hp) hp q))⟩)⟩
    | wout a d =>
      simp only [Tr.enc]
      walk_at "rh"
      simp only [Tr.size] at hs
      have la := Tr.nms_len a
      intro p hp
      exact ⟨⟨_, lst_lst Mu.put_same⟩, call a _ _ (by simp [Tr.dep]) (by omega) (nm_ext (a := []) (by simp; omega) (Fz.lst Mu.put_same (Sub.put hp) hp q))⟩
    | also a d e =>
      simp only [Tr.enc]
      walk_at "rh"
      simp only [Tr.size] at hs
      have la := Tr.nms_len a
      intro p hp
      exact ⟨⟨_, lst_lst Mu.put_same⟩, call a _ _ (by simp [Tr.dep]) (by omega) (nm_ext (a := []) (by simp; omega) (Fz.lst Mu.put_same (Sub.put hp) hp q))⟩
    | ren a d e =>
      simp only [Tr.enc]
      walk_at "rh"
      simp only [Tr.size] at hs
      have la := Tr.nms_len a
      intro p hp
      exact ⟨⟨_, lst_lst Mu.put_same⟩, call a _ _ (by simp [Tr.dep]) (by omega) (nm_ext (a := []) (by simp; omega) (Fz.lst Mu.put_same (Sub.put hp) hp q))⟩
    | over a c =>
      simp only [Tr.enc]
      walk_at "rh"
      simp only [Tr.size] at hs
      have la := Tr.nms_len a
      intro p hp
      exact ⟨⟨_, lst_lst Mu.put_same⟩, call a _ _ (by simp [Tr.dep]) (by omega) (nm_ext (a := []) (by simp; omega) ⟨⟨_, lst_lst Mu.put_same⟩, nm_app (by simp; omega) (Fz.lst Mu.put_same (Sub.put hp) hp q)⟩)⟩
/-! ### what does the deeds -/
def hdF : List Fm → D
  | f :: _ => f.enc
  | [] => .non
def shpD (s : Fms) : List (Key × D) := s.map fun p => (.inr (sg p.1), hdF p.2)
def oneK : List Kd → D
  | [k] => .str k.s
  | _ => .non
def oneW : List Kd → D
  | [k] => Kd.fst k
  | _ => .non
def kndD (s : Cks) : List (Key × D) := s.map fun p => (.inr (sg p.1), oneK p.2)
def hldD (s : Cks) : List (Key × D) := s.map fun p => (.inr (sg p.1), oneW p.2)
def rnf (pk ph : Addr) (s : Sh) : List (Str × D) := [("shapes", .dct (shpD s.ds)), ("kinds", .ref pk), ("holds", .ref ph)]
theorem putFD_lt {f : Str} {d : D} {fs : List (Str × D)} {n : Nat} (h : fs.length < n) : (putFD f d fs).length < n + 1 := Nat.lt_of_le_of_lt putFD_len (by omega)
def rnc (K : PySem.W.Frag) (dx pk ph : Addr) (s : Sh) (i : Int) : Cell := .ins (He.ga K "Runner") dx [("shapes", .dct (shpD s.ds)), ("kinds", .ref pk), ("holds", .ref ph), ("steps", .int i)]
def shpR (s : Fms) : D → Option D
  | .str x => some (.tup [.str x, hdF ((lk s (un x)).getD [])])
  | _ => none
theorem shpR_map {s : Fms} (h : (s.map (·.1)).Nodup) : (strD ((s.map (·.1)).map sg)).filterMap (shpR s) = (shpD s).map L3.pairD := by
  have : ∀ r : Fms, (∀ b ∈ r, b ∈ s) → (strD ((r.map (·.1)).map sg)).filterMap (shpR s) = (shpD r).map L3.pairD := fun r => by
    induction r with
    | nil => intro _; rfl
    | cons b r ih =>
      intro hb
      have e : shpR s (.str (sg b.1)) = some (.tup [.str (sg b.1), hdF b.2]) := by
        show some (D.tup [.str (sg b.1), hdF ((lk s (un (sg b.1))).getD [])]) = _
        rw [un_sg, lk_of_mem h (hb b List.mem_cons_self : (b.1, b.2) ∈ s)]; rfl
      rw [List.map_cons, List.map_cons, show ∀ (y : Str) l, strD (y :: l) = D.str y :: strD l from fun _ _ => rfl, List.filterMap_cons, e, ih fun y hy => hb y (List.mem_cons_of_mem _ hy)]
      rfl
  exact this s fun b hb => hb
theorem put_none {m : Mu} {a b : Addr} {c : Cell} (h : m.put a c b = none) : b ≠ a ∧ m b = none := by
  have n : b ≠ a := fun z => by rw [z, Mu.put_same] at h; cases h
  rw [Mu.put_ne n] at h
  exact ⟨n, h⟩
theorem st_norm {m : Mu} {x p1 p2 : Addr} {c1 c2 c3 d1 d2 : Cell} (n1 : x ≠ p1) (n2 : x ≠ p2) : ((((m.put x c1).put p1 d1).put x c2).put p2 d2).put x c3 = ((m.put p1 d1).put p2 d2).put x c3 := by
  rw [Mu.put_comm n1, Mu.put_put, Mu.put_comm n2, Mu.put_put]
def sp_rninit (K : PySem.W.Frag) : SpD := fun ds m Q => ∃ (x dx a da p q : Addr) (s : Sh), ds = [.ref x, .ref a] ∧ m x = some (.ins (He.ga K "Runner") dx []) ∧ ShIn K m a da p q s ∧ s.ok ∧ x ≠ a ∧
  ∀ pk ph, m pk = none → m ph = none → pk ≠ ph → Q .non (((m.put pk (.dct (kndD s.cs))).put ph (.dct (hldD s.cs))).put x (rnc K dx pk ph s 0))
theorem I_Runner (T : Txt K w mg) : FnI P w K mg base (He.ga K "Runner") 2 (sp_rninit K) := by
  have nd := sc_Runner_init.nd
  refine fni_ofZ T.i_Runner sc_Runner_init (fun ds m Q ⟨_, _, _, _, _, _, _, e, _⟩ => by rw [e]; rfl) fun f cdv A outer s H E hr => ⟨_, (ass_cons (as_fld T.k_Runner.c (T.k_Runner.n "shapes" (by simp)) (ae_var 0) (ae_callTy cr_dict2 T.b_dict boot_dict (aa_cons (ae_lcK (own := [("deed", 4)]) rfl nd (ae_fld T.k_Sheaf.c (T.k_Sheaf.n "by_deed" (by simp)) (ae_var 1)) (blkOk_by (own := [("deed", 4)]) (by kernel_rfl)) (gg_name (i := 4) (by simp)) (fun _ _ _ _ _ => (pg_name (i := 4) nd rfl (Or.inl rfl))) (fun _ _ _ _ _ => ats_nil) (fun _ _ _ _ _ => (ae_tup (aa_cons (ae_var 4) (aa_cons (ae_ix hr.u1 (ae_ix hr.u1 (ae_fld T.k_Sheaf.c (T.k_Sheaf.n "by_deed" (by simp)) (ae_var 1)) (ae_var 4)) ae_int) aa_nil))))) aa_nil)))
      (ass_cons (as_fld T.k_Runner.c (T.k_Runner.n "kinds" (by simp)) (ae_var 0) ae_dnewM)
      (ass_cons (as_fld T.k_Runner.c (T.k_Runner.n "holds" (by simp)) (ae_var 0) ae_dnewM)
      (ass_cons (as_forK PassesOwn.never rfl (ae_fld T.k_Sheaf.c (T.k_Sheaf.n "by_cell" (by simp)) (ae_var 1)) (ag_name 2 nd)
      (ass_cons (as_asg (ae_ix hr.u1 (ae_fld T.k_Sheaf.c (T.k_Sheaf.n "by_cell" (by simp)) (ae_var 1)) (ae_var 2)) (ag_name 3 nd))
      (ass_cons (as_asg (ae_if (at_cmp (or_eq hr.units) (ae_callB cr_len T.b_len boot_len (aa_cons (ae_var 3) aa_nil)) ae_int (nomark _)) (ae_ix hr.u1 (ae_var 3) ae_int) ae_non) (ag_sub hr.u1 (ae_fld T.k_Runner.c (T.k_Runner.n "kinds" (by simp)) (ae_var 0)) (ae_var 2)))
      (ass_one (as_asg (ae_if (at_cmp (or_eq hr.units) (ae_callB cr_len T.b_len boot_len (aa_cons (ae_var 3) aa_nil)) ae_int (nomark _)) (ae_call ((F_first_worth T).mono (by omega)) hr (aa_cons (ae_ix hr.u1 (ae_var 3) ae_int) aa_nil)) ae_non) (ag_sub hr.u1 (ae_fld T.k_Runner.c (T.k_Runner.n "holds" (by simp)) (ae_var 0)) (ae_var 2)))))))
      (ass_one (as_fld T.k_Runner.c (T.k_Runner.n "steps" (by simp)) (ae_var 0) ae_int)))))), ?_⟩
  rintro _ m Q ⟨x, dx, a, da, p, q, s, rfl, hx, hS, hok, hne, qq⟩
  walk_at "rh"
  have nxp : x ≠ p := fun z => by have := hS.hp; rw [← z, hx] at this; cases this
  have nxq : x ≠ q := fun z => by have := hS.hq; rw [← z, hx] at this; cases this
  have d8 := hok.d.len
  have c4 := hok.c.len
  refine lcK_pure hS.hp (shpR s.ds) (fun od vs Q q => ?_) (szl (by rw [shD_as, asD_len]; omega)) (fun od vs y hy R r => ?_) ?_
  · walk_at "rh"
    exact ⟨_, _, by rw [lkd_ne hS.xp]; exact hS.hx, _, rfl, q⟩
  · rw [shD_as, keysD_as] at hy
    obtain ⟨z, hz, rfl⟩ := List.mem_map.mp hy
    obtain ⟨c, hc, rfl⟩ := List.mem_map.mp hz
    obtain ⟨b, hb, rfl⟩ := List.mem_map.mp hc
    have hlk := lk_of_mem hok.d.nd (hb : (b.1, b.2) ∈ s.ds)
    have e : shpR s.ds (.str (sg b.1)) = some (.tup [.str (sg b.1), hdF b.2]) := by
      show some (D.tup [.str (sg b.1), hdF ((lk s.ds (un (sg b.1))).getD [])]) = _
      rw [un_sg, hlk]; rfl
    rw [e] at r
    walk_at "rh"
    refine ⟨_, _, by rw [lkd_ne hS.xp]; exact hS.hx, _, rfl, ix_dref (dct_dfz lkd_same) (show getK (shD s.ds) (.inr (sg b.1)) = some (.lst (b.2.map Fm.enc)) by rw [shD_as, getK_as, hlk]; rfl) ?_⟩
    have bne := hok.d.ne b hb
    cases hb2 : b.2 with
    | nil => exact absurd hb2 bne
    | cons f fs =>
      rw [hb2] at r
      rw [List.map_cons]
      walk_at "rh"
      exact r
  rw [shD_as, keysD_as, shpR_map hok.d.nd]
  refine ⟨_, _, rfl, .inl rfl, ?_⟩
  rw [merge_nil (by rw [show shpD s.ds = asD hdF s.ds from rfl, asD_keys]; exact key_nodup hok.d.nd)]
  refine ⟨_, _, hx, by decide, fun pk hpk => ?_⟩
  obtain ⟨n1, hpk⟩ := put_none hpk
  refine ⟨_, _, by rw [Mu.put_ne n1.symm, Mu.put_same], Nat.lt_of_lt_of_le (putFD_lt (n := 1) (by decide)) (by decide), fun ph hph => ?_⟩
  obtain ⟨n2, hph⟩ := put_none hph
  obtain ⟨n3, hph⟩ := put_none hph
  obtain ⟨n4, hph⟩ := put_none hph
  refine ⟨_, _, by rw [Mu.put_ne n2.symm, Mu.put_same], Nat.lt_of_lt_of_le (putFD_lt (putFD_lt (n := 1) (by decide))) (by decide), ?_⟩
  rw [st_norm n1.symm n2.symm]
  obtain ⟨fl, hfl⟩ : ∃ fl : List (Str × D), fl = rnf pk ph s := ⟨_, rfl⟩
  obtain ⟨St, hSt⟩ : ∃ St : Cks → Mu, St = fun dn => ((m.put pk (.dct (kndD dn))).put ph (.dct (hldD dn))).put x (.ins (He.ga K "Runner") dx fl) := ⟨_, rfl⟩
  have nqk : q ≠ pk := fun z => by rw [← z, hS.hq] at hpk; cases hpk
  have nqh : q ≠ ph := fun z => by rw [← z, hS.hq] at hph; cases hph
  have nak : a ≠ pk := fun z => by rw [← z, hS.hx] at hpk; cases hpk
  have nah : a ≠ ph := fun z => by rw [← z, hS.hx] at hph; cases hph
  have Sx : ∀ dn, St dn x = some (.ins (He.ga K "Runner") dx fl) := fun dn => by rw [hSt]; exact Mu.put_same
  have Sk : ∀ dn, St dn pk = some (.dct (kndD dn)) := fun dn => by rw [hSt]; show ((m.put _ _).put _ _).put _ _ _ = _; rw [Mu.put_ne n1, Mu.put_ne n3.symm, Mu.put_same]
  have Sh : ∀ dn, St dn ph = some (.dct (hldD dn)) := fun dn => by rw [hSt]; show ((m.put _ _).put _ _).put _ _ _ = _; rw [Mu.put_ne n2, Mu.put_same]
  have Sq : ∀ dn, St dn q = some (.dct (csD s.cs)) := fun dn => by rw [hSt]; show ((m.put _ _).put _ _).put _ _ _ = _; rw [Mu.put_ne nxq.symm, Mu.put_ne nqh, Mu.put_ne nqk]; exact hS.hq
  have Sa : ∀ dn, St dn a = some (shc K da (.ref p) (.ref q)) := fun dn => by rw [hSt]; show ((m.put _ _).put _ _).put _ _ _ = _; rw [Mu.put_ne hne.symm, Mu.put_ne nah, Mu.put_ne nak]; exact hS.hx
  have Le : ((m.put pk (.dct [])).put ph (.dct [])).put x (.ins (He.ga K "Runner") dx (putFD "holds" (.ref ph) (putFD "kinds" (.ref pk) (putFD "shapes" (.dct (shpD s.ds)) [])))) = St [] := by rw [hSt, hfl]; rfl
  rw [Le]
  have Lx : ∀ od vs dn, lkd (St dn) q od vs (csD s.cs) x = some (.ins (He.ga K "Runner") dx fl) := fun od vs dn => by rw [lkd_ne nxq]; exact Sx _
  have La : ∀ od vs dn, lkd (St dn) q od vs (csD s.cs) a = some (shc K da (.ref p) (.ref q)) := fun od vs dn => by rw [lkd_ne hS.xq]; exact Sa _
  refine forK (Sq _) (fun rest δ m' => ∃ (dn xs : Cks) (o2 o3 : Option D), s.cs = dn ++ xs ∧ rest = strD ((xs.map (·.1)).map sg) ∧ m' = St dn ∧ δ = [some (.ref x), some (.ref a), o2, o3, none]) ?_ ?_ ⟨[], s.cs, none, none, rfl, by rw [csD_as, keysD_as], rfl, rfl⟩ ?_ ?_
  · rintro rest δ m' ⟨dn, xs, _, _, _, _, rfl, _⟩
    exact Sq _
  · intro od vs Q q
    walk_at "rh"
    exact ⟨_, _, La _ _ _, _, rfl, q⟩
  · rintro od vs y rest δ m' ⟨dn, xs, o2, o3, ht, e1, rfl, rfl⟩ nx hnx
    cases xs with
    | nil => cases e1
    | cons b xs =>
      rw [List.map_cons, List.map_cons, show ∀ (y : Str) l, strD (y :: l) = D.str y :: strD l from fun _ _ => rfl] at e1
      injection e1 with e1 e2
      subst e1
      have hbm : b ∈ s.cs := by rw [ht]; simp
      have hlk := lk_of_mem hok.c.nd (hbm : (b.1, b.2) ∈ s.cs)
      have hg : getK (csD s.cs) (.inr (sg b.1)) = some (kdsD b.2) := by rw [csD_as, getK_as, hlk]; rfl
      have hnew : b.1 ∉ dn.map (·.1) := by
        have := hok.c.nd
        rw [ht, List.map_append, List.map_cons, List.nodup_append] at this
        exact fun z => this.2.2 b.1 z b.1 List.mem_cons_self rfl
      have hdl : dn.length ≤ 4 := by have := c4; rw [ht] at this; simp at this; omega
      have e3 : putD (kndD dn) (.inr (sg b.1)) (oneK b.2) = kndD (dn ++ [b]) := by
        rw [show kndD dn = asD oneK dn from rfl, putD_as, putA_new hnew]; rfl
      have e4 : putD (hldD dn) (.inr (sg b.1)) (oneW b.2) = hldD (dn ++ [b]) := by
        rw [show hldD dn = asD oneW dn from rfl, putD_as, putA_new hnew]; rfl
      have Lk : lkd (St dn) q od vs (csD s.cs) pk = some (.dct (kndD dn)) := by rw [lkd_ne nqk.symm]; exact Sk _
      have Lh : ∀ c, ((lkd (St dn) q od vs (csD s.cs)).put pk c) ph = some (.dct (hldD dn)) := fun c => by rw [Mu.put_ne n3, lkd_ne nqh.symm]; exact Sh _
      have Lx2 : ∀ c, ((lkd (St dn) q od vs (csD s.cs)).put pk c) x = some (.ins (He.ga K "Runner") dx fl) := fun c => by rw [Mu.put_ne n1.symm]; exact Lx _ _ _
      have fin : ((lkd (St dn) q od vs (csD s.cs)).put pk (.dct (kndD (dn ++ [b])))).put ph (.dct (hldD (dn ++ [b]))) = lkd (St (dn ++ [b])) q od vs (csD s.cs) := by
        rw [hSt]
        show ((((((m.put _ _).put _ _).put _ _).put _ _).put _ _).put _ _) = ((((m.put _ _).put _ _).put _ _).put _ _)
        rw [Mu.put_comm nqk, Mu.put_comm nqh, Mu.put_comm n1.symm, Mu.put_comm n3, Mu.put_put, Mu.put_comm n2.symm, Mu.put_put]
      have fk : List.lookup (PySem.Str.ofString "kinds") fl = some (D.ref pk) := by rw [hfl]; rfl
      have fh : List.lookup (PySem.Str.ofString "holds") fl = some (D.ref ph) := by rw [hfl]; rfl
      walk_at "rh"
      refine ⟨_, _, La _ _ _, _, rfl, ix_dref (dct_dfz lkd_same) hg ?_⟩
      unfold kdsD ksD
      have last := hnx [some (.ref x), some (.ref a), some (.str (sg b.1)), some (.lst (b.2.map fun k => D.str k.s)), none] (St (dn ++ [b])) ⟨dn ++ [b], xs, _, _, by rw [ht]; simp, e2, rfl, rfl⟩
      rw [← fin, ← e3, ← e4] at last
      have szk : (kndD dn).length < sizeLine := szlt (by rw [show kndD dn = asD oneK dn from rfl, asD_len]; omega)
      have szh : (hldD dn).length < sizeLine := szlt (by rw [show hldD dn = asD oneW dn from rfl, asD_len]; omega)
      rcases hb2 : b.2 with _ | ⟨k, _ | ⟨l, r⟩⟩
      · rw [hb2] at last
        walk_at "rh"
        refine ⟨_, _, Lx _ _ _, _, fk, pk, rfl, .inr ⟨_, _, Lk, rfl, szk, ?_⟩⟩
        walk_at "rh"
        refine ⟨_, _, Lx2 _, _, fh, ph, rfl, .inr ⟨_, _, Lh _, rfl, szh, ?_⟩⟩
        exact last
      · rw [hb2] at last
        walk_at "rh"
        refine ⟨_, _, Lx _ _ _, _, fk, pk, rfl, .inr ⟨_, _, Lk, rfl, szk, k, rfl, ?_⟩⟩
        exact ⟨_, _, Lx2 _, _, fh, ph, rfl, .inr ⟨_, _, Lh _, rfl, szh, last⟩⟩
      · rw [hb2] at last
        walk_at "rh"
        have no : ¬ (((r.map fun k => D.str k.s).length + 1 + 1 : Nat) : Int) = 1 := by omega
        rw [if_neg no]
        refine ⟨_, _, Lx _ _ _, _, fk, pk, rfl, .inr ⟨_, _, Lk, rfl, szk, ?_⟩⟩
        refine (if_neg no).mpr ?_
        exact ⟨_, _, Lx2 _, _, fh, ph, rfl, .inr ⟨_, _, Lh _, rfl, szh, last⟩⟩
  · rintro δ m' ⟨dn, xs, o2, o3, ht, e1, rfl, rfl⟩
    cases xs with
    | cons y ys => cases e1
    | nil =>
      rw [List.append_nil] at ht
      subst ht
      walk_at "rh"
      refine ⟨_, _, Sx _, by rw [hfl, rnf]; simp only [List.length_cons, List.length_nil]; omega, ?_⟩
      have e5 : putFD "steps" (.int 0) fl = rnf pk ph s ++ [(PySem.Str.ofString "steps", D.int 0)] := by rw [hfl]; rfl
      rw [e5, hSt]
      show Fz Q .non ((((m.put _ _).put _ _).put _ _).put _ _)
      rw [Mu.put_put]
      exact Fz.now (qq pk ph hpk hph n3.symm)
def tnc (K : PySem.W.Frag) (dx r : Addr) : Cell := .ins (He.ga K "Thing") dx [("runner", .ref r)]
/-- a thing that stands in the store -/
structure ThIn (K : PySem.W.Frag) (m : Mu) (x dx r dr pk ph : Addr) (s : Sh) : Prop where
  hx : m x = some (tnc K dx r)
  hr : m r = some (rnc K dr pk ph s 0)
  hk : m pk = some (.dct (kndD s.cs))
  hh : m ph = some (.dct (hldD s.cs))
  ne : pk ≠ ph
def sp_tinit (K : PySem.W.Frag) : SpD := fun ds m Q => ∃ (x dx : Addr) (ps : List Part) (t : Tr), ds = [.ref x, .lst (ps.map Part.enc), t.enc] ∧ m x = some (.ins (He.ga K "Thing") dx []) ∧ ShOk ps ∧ TrOk ps t ∧ t.nb ≤ 480 ∧ (∀ p ∈ ps, p.wrong = none) ∧ (putT (shl ps) t).Whole ∧
  ∀ m' r dr pk ph, (∀ a c, a ≠ x → m a = some c → m' a = some c) → ThIn K m' x dx r dr pk ph (putT (shl ps) t) → Q .non m'
theorem I_Thing (T : Txt K w mg) : FnI P w K mg base (He.ga K "Thing") 31 (sp_tinit K) := by
  have nd := sc_Thing_init.nd
  refine fni_ofZ T.i_Thing sc_Thing_init (fun ds m Q ⟨_, _, _, _, e, _⟩ => by rw [e]; rfl) fun f cdv A outer s H E hr => ⟨_, (ass_cons (as_expr (ae_call ((F_need_tree T).mono (by omega)) hr (aa_cons (ae_var 1) (aa_cons (ae_var 2) aa_nil))))
      (ass_cons (as_asg (ae_call ((F_named_in T 10).mono (by omega)) hr (aa_cons (ae_var 2) aa_nil)) (ag_name 3 nd))
      (ass_cons (as_for PassesOwn.never rfl (ai_list (ae_var 1)) (ag_name 4 nd)
      (ass_one (as_if (AW.t (aw_and (at_cmp (or_in1 hr.u65) (ae_ix hr.u1 (ae_var 4) ae_int) (ae_var 3) (by rfl)) (aw_and1 (at_cmp or_notN (ae_call ((F_wrong_deed T).mono (by omega)) hr (aa_cons (ae_var 4) aa_nil)) ae_non (nomark _))))) (ass_one as_never) ass_nil)))
      (ass_cons (as_asg (ae_call ((F_put_together T).mono (by omega)) hr (aa_cons (ae_var 1) (aa_cons (ae_var 2) aa_nil))) (ag_name 5 nd))
      (ass_cons (as_if (at_not (at_val (ae_call ((F_is_whole_flats T).mono (by omega)) hr (aa_cons (ae_var 5) aa_nil)))) (ass_one as_never) ass_nil)
      (ass_one (as_fld T.k_Thing.c (T.k_Thing.n "runner" (by simp)) (ae_var 0) (ae_make ((I_Runner T).mono (by omega)) hr T.k_Runner.g (aa_cons (ae_var 5) aa_nil))))))))), ?_⟩
  rintro _ m Q ⟨x, dx, ps, t, rfl, hx, hps, ht, hnb, hwr, hW, qq⟩
  have td := ht.d
  have ts := ht.s
  walk_at "rh"
  refine ⟨ps, t, rfl, hps, ht, ?_⟩
  try walk_at "rh"
  refine ⟨t, rfl, by omega, by omega, ?_⟩
  try walk_at "rh"
  refine for_inv (fun rest δ m' => (∃ qs : List Part, rest = qs.map Part.enc ∧ ∀ p ∈ qs, p ∈ ps) ∧ m' = m ∧ ∃ o, δ = [some (.ref x), some (.lst (ps.map Part.enc)), some t.enc, some (.lst (strD ((Tr.nms t).map sg))), o, none]) ?_ ?_ ⟨⟨ps, rfl, fun p h => h⟩, rfl, _, rfl⟩
  · rintro d rest δ m' ⟨⟨qs, e, hq⟩, rfl, o1, rfl⟩ nx2 hnx
    cases qs with
    | nil => cases e
    | cons p qs =>
      rw [List.map_cons] at e
      injection e with e1 e2
      subst e1
      have hpm := hq p List.mem_cons_self
      have last := hnx [some (.ref x), some (.lst (ps.map Part.enc)), some t.enc, some (.lst (strD ((Tr.nms t).map sg))), some p.enc, none] m' ⟨⟨qs, e2, fun y hy => hq y (List.mem_cons_of_mem _ hy)⟩, rfl, _, rfl⟩
      have wr : ∀ R : EK, R .non m' → sp_wrong [p.enc] m' R := fun R r => ⟨p, rfl, hps.ok p hpm, by rw [hwr p hpm]; exact r⟩
      have key : p.enc = .tup [.str (sg p.nm), .tup (p.ds.map Deed.enc), .tup (p.as.map askD), .tup (p.cs.map celD)] := rfl
      rw [key] at wr last ⊢
      walk_at "rh"
      rw [ex_in_lst fl_str (strD_flat _), inD_sg]
      refine ⟨_, rfl, ?_⟩
      split
      · exact wr _ (by simpa using last)
      · exact last
  · rintro δ m' ⟨_, rfl, o1, rfl⟩
    walk_at "rh"
    refine ⟨ps, t, rfl, hps, ht.wf, by omega, by omega, fun y dy p q' f => ?_⟩
    obtain ⟨ok, c⟩ := putT_ok (shl_ok hps.ok) t ht.wf
    obtain ⟨ox1, ox2, ox3⟩ := old_ne f hx
    refine ⟨y, dy, p, q', _, rfl, newSh_in f, ok, by omega, _, rfl, ?_⟩
    rw [decide_eq_true hW]
    walk_at "rh"
    generalize putT (shl ps) t = S at ok c qq
    intro r dr hr hdr hne
    have ShI := newSh_in (K := K) (dx := dy) (s := S) f
    have hxx := newSh_old (K := K) (dx := dy) (s := S) f hx
    have n1 : y ≠ r := fun z => by rw [← z, ShI.hx] at hr; cases hr
    have n2 : p ≠ r := fun z => by rw [← z, ShI.hp] at hr; cases hr
    have n3 : q' ≠ r := fun z => by rw [← z, ShI.hq] at hr; cases hr
    have n4 : x ≠ r := fun z => by rw [← z, hxx] at hr; cases hr
    refine ⟨r, dr, y, dy, p, q', S, rfl, Mu.put_same, ⟨by rw [Mu.put_ne n1]; exact ShI.hx, by rw [Mu.put_ne n2]; exact ShI.hp, by rw [Mu.put_ne n3]; exact ShI.hq, ShI.ne⟩, ok, n1.symm, fun pk ph hpk hph nkh => ⟨rfl, ?_⟩⟩
    obtain ⟨k1, hpk⟩ := put_none hpk
    obtain ⟨k2, hph⟩ := put_none hph
    have n5 : x ≠ pk := fun z => by rw [← z, hxx] at hpk; cases hpk
    have n6 : x ≠ ph := fun z => by rw [← z, hxx] at hph; cases hph
    refine ⟨_, _, by rw [Mu.put_ne n4, Mu.put_ne n6, Mu.put_ne n5, Mu.put_ne n4]; exact hxx, by decide, ?_⟩
    refine Fz.now (qq _ r dr pk ph (fun b c hb hm => ?_) ⟨Mu.put_same, ?_, ?_, ?_, nkh⟩)
    · have h1 := newSh_old (K := K) (dx := dy) (s := S) f hm
      have b1 : b ≠ r := fun z => by rw [← z, h1] at hr; cases hr
      have b2 : b ≠ pk := fun z => by rw [← z, h1] at hpk; cases hpk
      have b3 : b ≠ ph := fun z => by rw [← z, h1] at hph; cases hph
      rw [Mu.put_ne hb, Mu.put_ne b1, Mu.put_ne b3, Mu.put_ne b2, Mu.put_ne b1]; exact h1
    · rw [Mu.put_ne n4.symm, Mu.put_same]
    · rw [Mu.put_ne n5.symm, Mu.put_ne k1, Mu.put_ne nkh, Mu.put_same]
    · rw [Mu.put_ne n6.symm, Mu.put_ne k2, Mu.put_same]
def rowO (s : Fms) (c : Nat) : D := match lk s c with
  | some (f :: _) => .tup [.str (sg c), .str f.tk.s, .str f.tl.s]
  | _ => .non
def rowS (s : Fms) : D → Option D
  | .str x => some (rowO s (un x))
  | _ => none
theorem rowS_map (s : Fms) (cs : List Nat) : (strD (cs.map sg)).filterMap (rowS s) = cs.map (rowO s) := by
  induction cs with
  | nil => rfl
  | cons c cs ih =>
    rw [show strD ((c :: cs).map sg) = .str (sg c) :: strD (cs.map sg) from rfl, List.filterMap_cons, ih]
    rfl
def deedsO (s : Fms) : D := .lst ((srt (s.map (·.1))).map (rowO s))
def sp_tdeeds (K : PySem.W.Frag) : SpD := fun ds m Q => ∃ (x dx r dr pk ph : Addr) (s : Sh), ds = [.ref x] ∧ m x = some (tnc K dx r) ∧ m r = some (rnc K dr pk ph s 0) ∧ s.ok ∧ Q (deedsO s.ds) m
theorem M_Thing_deeds (T : Txt K w mg) : FnM P w K mg base (He.ga K "Thing") "deeds" 1 (sp_tdeeds K) := by
  have nd := sc_Thing_deeds.nd
  refine fnm_ofZ T.m_Thing_deeds sc_Thing_deeds (fun ds m Q ⟨_, _, _, _, _, _, _, e, _⟩ => by rw [e]; rfl) fun f cdv A outer s H E hr => ⟨_, (ass_cons (as_asg (ae_fld T.k_Runner.c (T.k_Runner.n "shapes" (by simp)) (ae_fld T.k_Thing.c (T.k_Thing.n "runner" (by simp)) (ae_var 0))) (ag_name 1 nd))
      (ass_one (as_ret (ae_lc (own := [("deed", 2)]) rfl nd (ai_list (ae_callB cr_sorted T.b_sorted boot_sorted (aa_cons (ae_var 1) aa_nil))) (blkOk_by (own := [("deed", 2)]) (by kernel_rfl)) (gg_name (i := 2) (by simp)) (fun _ _ _ _ _ => (pg_name (i := 2) nd rfl (Or.inl rfl))) (fun _ _ _ _ _ => ats_nil) (fun _ _ _ _ _ => (ae_op or_add (ae_tup (aa_cons (ae_var 2) aa_nil)) (ae_sl (ae_ix hr.u1 (ae_var 1) (ae_var 2)) (ao_some ae_int) (ao_some ae_int)))))))), ?_⟩
  rintro _ m Q ⟨x, dx, r, dr, pk, ph, s, rfl, hx, hr, hok, q⟩
  walk_at "rh"
  have d8 := hok.d.len
  refine ⟨_, _, hx, _, rfl, r, rfl, _, _, hr, _, rfl, ?_⟩
  refine ex_sortedK (cs := s.ds.map (·.1)) (by rw [show shpD s.ds = asD hdF s.ds from rfl, asD_keys]) (by rw [List.length_map]; omega) fun es pe le => ?_
  obtain rfl := srt_eq pe le
  refine ⟨_, rfl, szl (by simp [strD, (srt_perm _).length_eq]; omega), lc_pure (rowS s.ds) (fun d hd R rr => ?_) ?_⟩
  · obtain ⟨z, hz, rfl⟩ := List.mem_map.mp hd
    obtain ⟨c, hc, rfl⟩ := List.mem_map.mp hz
    obtain ⟨b, hb, rfl⟩ := List.mem_map.mp ((srt_perm _).mem_iff.mp hc)
    have hlk := lk_of_mem hok.d.nd (hb : (b.1, b.2) ∈ s.ds)
    have e : rowS s.ds (.str (sg b.1)) = some (rowO s.ds b.1) := rfl
    rw [e] at rr
    have bne := hok.d.ne b hb
    cases hb2 : b.2 with
    | nil => exact absurd hb2 bne
    | cons f fs =>
      have eo : rowO s.ds b.1 = .tup [.str (sg b.1), .str f.tk.s, .str f.tl.s] := by unfold rowO; rw [hlk, hb2]
      rw [eo] at rr
      have hg : getK (shpD s.ds) (.inr (sg b.1)) = some f.enc := by
        rw [show shpD s.ds = asD hdF s.ds from rfl, getK_as, hlk, hb2]; rfl
      walk_at "rh"
      refine .inr ⟨_, .inr _, _, rfl, rfl, hg, ?_⟩
      unfold Fm.enc
      walk_at "rh"
      exact rr
  · rw [List.nil_append, rowS_map]
    exact Fz.now q
end K16
/-! the law. -/
namespace K16
open PySem PySem.Spec PyProof.Rows L2 L3
variable {P : Program} {w : World} {K : PySem.W.Frag} {mg : Str → Option Value} {base : Heap}
local macro_rules | `(tactic| walk_at "rl") => `(tactic| simp only [ lcStep, aRng1, gSubD, aLM, aDM, aLstM, aFld, aSFld, aMeth, aMake, aSset, sg_inj, D.ref.injEq, aRet, aRetN, aDrop, aIfS, aSeq, aNext, aAsg, gNm, gTupD, gConsD, gNilD, aFor, ex_var0, ex_varS, aC, aOp, aCall, aCons, aNil, aTup, aLst, aB, aAnd, aOr, aNot, aAndV, aOrV, aNotV, aIf, aNeg, aChain, aKix, aKGet1, aKGet2, aDGet1, aDGet2, aNoPart, aPart, aSl, aList, aTupI, aStrI, aZipS, aYes, aLc, aNever, aBreak, aCont, forGo, lcGo,
  isi_str_str, isi_str_int, isi_str_bool, isi_str_tuple, isi_str_list, isi_int_str, isi_int_int, isi_int_bool, isi_int_tuple, isi_int_list, isi_bl_str, isi_bl_int, isi_bl_bool, isi_bl_tuple, isi_bl_list, isi_non_str, isi_non_int, isi_non_bool, isi_non_tuple, isi_non_list, isi_tup_str, isi_tup_int, isi_tup_bool, isi_tup_tuple, isi_tup_list, isi_lst_str, isi_lst_int, isi_lst_bool, isi_lst_tuple, isi_lst_list, isi_dct_str, isi_dct_int, isi_dct_bool, isi_dct_tuple, isi_dct_list, isi2_str, isi2_int, isi2_bl, isi2_non, isi2_tup, isi2_lst, isi2_dct, Option.getD_some, Option.getD_none, D.isNon, sz_0, sz_1, sz_2, sz_3, sz_4, sz_5, sz_6, sz_7, sz_8, sz_9, sz_10, sz_11, sz_12, sz_13, sz_14, sz_15, sz_16, sg_len, ex_in_sg, ex_len_str, ex_len_tup, ex_len_lst, ex_eq_str, ex_ne_str, ex_eq_int, ex_ne_int, ex_eq_ns, ex_eq_sn, ex_eq_nn, ex_ne_ns, ex_ne_sn, ex_ne_nn, ex_I, ex_add_int, ex_add_str, ex_add_tup, ex_add_lst, ex_sub, ex_mul, ex_mod, ex_div, ex_isN, ex_notN, ex_ix_tup, ex_ix_lst, ex_sl_tup, ex_sl_lst, ex_sl_str, ex_tuple_lst,
  ofs_inj, String.reduceEq, atI_0, atI_1, atI_2, atI_3, cut_1, cut_13, startD, wipeD, List.map_cons, List.map_nil, List.length_cons, List.length_nil, List.cons_append, List.nil_append, List.replicate_succ, List.replicate_zero, List.set_cons_zero, List.set_cons_succ, Nat.reduceAdd, Nat.reduceSub, Nat.sub_self,
  D.bl.injEq, D.int.injEq, D.str.injEq, D.tup.injEq, D.lst.injEq, D.dct.injEq, Option.some.injEq, List.cons.injEq, and_assoc, Int.cast_ofNat_Int, Int.reduceAdd, Int.reduceSub, Int.reduceMul, Int.reduceNeg, Int.reduceEq, Int.reduceLT, Int.reduceLE, Int.reduceNe, eq_self, exists_eq_left, exists_eq_left', exists_eq_right, exists_eq, exists_const, exists_false, false_and, and_false, false_or, or_false, true_and, and_true, if_true, if_false, Bool.false_eq_true, Bool.not_true, Bool.not_false, ite_true, ite_false, reduceCtorEq, decide_true, decide_false, decide_eq_true_eq, exists_and_left, Bool.not_eq_true])

theorem rows_ok {s : Sh} (h : s.ok) : eqOk (.lst ((srt (s.ds.map (·.1))).map (rowO s.ds))) = true := okD.eq (n := 2) (okD_lst fun d hd => by
  obtain ⟨c, hc, rfl⟩ := List.mem_map.mp hd
  obtain ⟨b, hb, rfl⟩ := List.mem_map.mp ((srt_perm _).mem_iff.mp hc)
  have hlk := lk_of_mem h.d.nd (hb : (b.1, b.2) ∈ s.ds)
  have bne := h.d.ne b hb
  cases hb2 : b.2 with
  | nil => exact absurd hb2 bne
  | cons f fs =>
    have eo : rowO s.ds b.1 = .tup [.str (sg b.1), .str f.tk.s, .str f.tl.s] := by unfold rowO; rw [hlk, hb2]
    rw [eo]
    exact okD_tup (n := 0) (by
      simp only [List.mem_cons, List.not_mem_nil, or_false, forall_eq_or_imp, forall_eq]
      exact ⟨okD_sg (deedC.lt (h.d.k b hb)), okD_str (Kd.ok _), okD_str (Kd.ok _)⟩)) (by omega)
theorem F_law (T : Txt K w mg) {f : Addr} {fd : FuncData} (F : FunD K "law" "law" (defArgs s_law) (defBody s_law) (defScope s_law) [] [] f fd) : FnOk P w K mg base L2.CX0 33 f fd ["_law_script"] (spD K sp_law0) := by
  have nd := sc_law.nd
  refine okZ F sc_law (fun ds m Q ⟨_, e, _⟩ => by rw [e]; rfl) fun f cdv A outer s H E hr => ⟨_, (ass_cons (as_asg (ae_call ((F__law_mix T).mono (by omega)) hr (aa_cons (ae_var 0) (aa_cons ae_int aa_nil))) (ag_name 1 nd))
      (ass_cons (as_asg (ae_tup (aa_cons (ae_lst aa_nil) (aa_cons (ae_lst aa_nil) (aa_cons (ae_lst aa_nil) (aa_cons (ae_lst aa_nil) aa_nil))))) (ag_name 2 nd))
      (ass_cons (as_for PassesOwn.never rfl (ai_rng1 T.b_range (aa_cons ae_int aa_nil)) (ag_name 3 nd)
      (ass_cons (as_asg (ae_call ((F__law_shelf T).mono (by omega)) hr (aa_cons (ae_var 1) aa_nil)) (ag_name 4 nd))
      (ass_cons (as_setLc (i := 5) (own := [("_law_part_here", 10)]) rfl nd rfl rfl (sw_true rfl rfl rfl (by decide +kernel)) (ai_list (ae_var 4)) (blkOk_by (own := [("_law_part_here", 10)]) (by kernel_rfl)) (gg_name (i := 10) (by simp)) (fun _ _ _ _ _ => (pg_name (i := 10) nd rfl (Or.inl rfl))) (fun _ _ _ _ _ => ats_nil) (fun _ _ _ _ _ => (ae_ix hr.u1 (ae_var 10) ae_int)))
      (ass_cons (as_asg (ae_ix hr.u1 (ae_lst (aa_cons (ae_tup (aa_cons ae_str (aa_cons (ae_ix hr.u1 (ae_var 5) (ae_call ((F__law_next T).mono (by omega)) hr (aa_cons (ae_var 1) (aa_cons (ae_callB cr_len T.b_len boot_len (aa_cons (ae_var 5) aa_nil)) aa_nil)))) aa_nil))) (aa_cons (ae_call ((F__law_tree T 2).mono (by omega)) hr (aa_cons (ae_var 1) (aa_cons (ae_var 4) (aa_cons ae_int aa_nil)))) aa_nil))) (ae_call ((F__law_next T).mono (by omega)) hr (aa_cons (ae_var 1) (aa_cons ae_int aa_nil)))) (ag_name 6 nd))
      (ass_cons (as_asg (ae_call ((F_givers T).mono (by omega)) hr (aa_cons (ae_var 4) (aa_cons (ae_var 6) aa_nil))) (ag_name 7 nd))
      (ass_one (as_if (at_cmp or_notN (ae_var 7) ae_non (nomark _)) (ass_cons (as_if (AW.t (aw_or (at_cmp (or_ne hr.units) (ae_call ((F_wanting T).mono (by omega)) hr (aa_cons (ae_var 4) (aa_cons (ae_call ((F__law_put_with T).mono (by omega)) hr (aa_cons (ae_var 6) (aa_cons (ae_var 7) aa_nil))) aa_nil))) (ae_var 2) (nomark _)) (aw_or1 (at_cmp (or_ne hr.units) (ae_sset T.b_sorted T.b_set (ae_var 7)) (ae_var 7) (nomark _))))) (ass_one (as_ret ae_bl)) ass_nil)
      (ass_cons (as_for PassesOwn.never rfl (ai_rng1 T.b_range (aa_cons (ae_callB cr_len T.b_len boot_len (aa_cons (ae_var 7) aa_nil)) aa_nil)) (ag_name 8 nd)
      (ass_one (as_if (at_cmp (or_eq hr.units) (ae_call ((F_wanting T).mono (by omega)) hr (aa_cons (ae_var 4) (aa_cons (ae_call ((F__law_put_with T).mono (by omega)) hr (aa_cons (ae_var 6) (aa_cons (ae_op or_add (ae_sl (ae_var 7) ao_none (ao_some (ae_var 8))) (ae_sl (ae_var 7) (ao_some (ae_op or_add (ae_var 8) ae_int)) ao_none)) aa_nil))) aa_nil))) (ae_var 2) (nomark _)) (ass_one (as_ret ae_bl)) ass_nil)))
      (ass_one (as_if (AW.t (aw_and (at_cmp (or_eq hr.units) (ae_meth0 T.k_Thing.c ((M_Thing_deeds T).mono (by omega)) hr (ae_make ((I_Thing T).mono (by omega)) hr T.k_Thing.g (aa_cons (ae_var 4) (aa_cons (ae_call ((F__law_put_with T).mono (by omega)) hr (aa_cons (ae_var 6) (aa_cons (ae_var 7) aa_nil))) aa_nil)))) (ae_lst aa_nil) (nomark _)) (aw_and1 (at_cmp (or_ne hr.units) (ae_call ((F_wanting T).mono (by omega)) hr (aa_cons (ae_var 4) (aa_cons (ae_var 6) aa_nil))) (ae_var 2) (nomark _))))) (ass_one (as_ret ae_bl)) ass_nil)))) (ass_one (as_for PassesOwn.never rfl (ai_list (ae_var 5)) (ag_name 9 nd)
      (ass_one (as_for PassesOwn.never rfl (ai_list (ae_var 5)) (ag_name 11 nd)
      (ass_one (as_if (at_cmp (or_eq hr.units) (ae_call ((F_wanting T).mono (by omega)) hr (aa_cons (ae_var 4) (aa_cons (ae_call ((F__law_put_with T).mono (by omega)) hr (aa_cons (ae_var 6) (aa_cons (ae_lst (aa_cons (ae_var 9) (aa_cons (ae_var 11) aa_nil))) aa_nil))) aa_nil))) (ae_var 2) (nomark _)) (ass_one (as_ret ae_bl)) ass_nil)))))))))))))
      (ass_one (as_ret ae_bl))))), ?_⟩
  rintro _ m Q ⟨ns, rfl, hns, q⟩
  walk_at "rl"
  refine ⟨ns, 59, rfl, fun ha hb m1 R _ _ => ?_⟩
  refine ⟨by decide, by decide, ?_⟩
  refine for_rng (fun i δ m' => Rg ha hb m' ∧ ∃ o3 o4 o5 o6 o7 o8 o9 o11, δ = [some (.fl ns), some (.ref ha), some noneW, o3, o4, o5, o6, o7, o8, o9, none, o11]) ?_ ?_ ⟨R, _, _, _, _, _, _, _, _, rfl⟩
  · rintro i δ m2 _ ⟨R2, o3, o4, o5, o6, o7, o8, o9, o11, rfl⟩ nx2 hnx
    walk_at "rl"
    refine ⟨ha, hb, rfl, R2, fun sg0 cl ps m3 hs R3 C3 => ?_⟩
    have hsh := hs.sh
    have h1 := hs.one
    have h6 := hs.six
    have hgo := shl_ok hsh.ok
    have hright : ∀ p ∈ ps, p.wrong = none := fun p hp => let ⟨_, _, g, _⟩ := hs.part p hp; g.right
    walk_at "rl"
    refine ⟨szl (by simp; omega), lc_pure hdD (fun d hd R q => ?_) ?_⟩
    · obtain ⟨p, _, rfl⟩ := List.mem_map.mp hd
      simp only [Part.enc, hdD] at q ⊢
      walk_at "rl"
      exact q
    rw [names_map, List.nil_append]
    walk_at "rl"
    refine nx R3 (by simp [strD]; omega) fun r m4 a b R4 C4 => ?_
    obtain ⟨k, rfl⟩ := Int.eq_ofNat_of_zero_le a
    have hk : k < ps.length := by simpa [strD] using b
    obtain ⟨p, hpk⟩ : ∃ p, ps[k]? = some p := ⟨_, List.getElem?_eq_getElem hk⟩
    have hpm : p ∈ ps := List.mem_of_getElem? hpk
    rw [ex_ix_lst]
    refine ⟨_, atI_nat (by simp only [strD, List.getElem?_map, hpk]; rfl), ?_⟩
    refine ⟨ha, hb, ps, 1, 1, rfl, rfl, by omega, R4, h1, h6, fun t0 m5 tw0 td0 ts0 R5 C5 => ?_⟩
    refine nx R5 (by omega) fun r2 m6 a2 b2 R6 C6 => ?_
    have pick : ∀ Q' : D → Prop, (∀ t : Tr, t.wf (ps.map (·.nm)) → t.dep ≤ 2 → t.size ≤ 3 → Q' t.enc) → ∃ d, atI [.tup [.str "part", .str (sg p.nm)], t0.enc] r2 = some d ∧ Q' d := fun Q' h => by
      rcases (show r2 = 0 ∨ r2 = 1 by omega) with e | e <;> rw [e]
      · exact ⟨_, atI_0, h (.part p.nm) (List.mem_map.mpr ⟨p, hpm, rfl⟩) (by simp [Tr.dep]) (by simp [Tr.size])⟩
      · exact ⟨_, atI_1, h t0 tw0 td0 ts0⟩
    rw [ex_ix_lst]
    refine pick _ fun t tw td ts => ?_
    have tn : t.nb ≤ 16 := Nat.le_trans (nb_le t) (by have := Nat.pow_le_pow_right (n := 2) (by omega) td; omega)
    have C16 := ((C3.trans C4).trans C5).trans C6
    have trok : ∀ l : List Nat, (∀ n ∈ l, n ∈ ps.map (·.nm)) → l.length ≤ 6 → TrOk ps (putWith t l) := fun l h1 h2 => ⟨putWith_wf tw h1, by have := putWith_dep (l := l) (t := t); omega, by have := putWith_size (l := l) (t := t); omega⟩
    have okw : ∀ l : List Nat, (∀ n ∈ l, n ∈ ps.map (·.nm)) → (putT (shl ps) (putWith t l)).ok := fun l h1 => (putT_ok hgo _ (putWith_wf tw h1)).1
    have nbw : ∀ l : List Nat, l.length ≤ 6 → (putWith t l).nb ≤ 480 := fun l h => by have := putWith_nb (l := l) (t := t); omega
    have want : ∀ (l : List Nat) (m : Mu) (R : EK), (∀ n ∈ l, n ∈ ps.map (·.nm)) → l.length ≤ 6 → R (wants (putT (shl ps) (putWith t l))).enc m → sp_wanting [.lst (ps.map Part.enc), (putWith t l).enc] m R := fun l m R h1 h2 r => ⟨ps, _, rfl, hsh, trok l h1 h2, nbw l h2, r⟩
    have nsm : ∀ n ∈ srt (ps.map (·.nm)), n ∈ ps.map (·.nm) := fun n hn => (srt_perm _).mem_iff.mp hn
    have nsl : (srt (ps.map (·.nm))).length = ps.length := by rw [(srt_perm _).length_eq, List.length_map]
    refine ⟨ps, t, rfl, hsh, ⟨tw, by omega, by omega⟩, by omega, by omega, fun l hl => ?_, fun hno => ?_⟩
    · have hmem : ∀ n ∈ l, n ∈ ps.map (·.nm) := fun n hn => nsm n (hl.sub.subset hn)
      have hl6 : l.length ≤ 6 := by have := hl.sub.length_le; omega
      have hW := hl.w
      have hris := found_ris hl hsh.nd
      unfold nmsD
      walk_at "rl"
      refine ⟨t, l, rfl, want l _ _ hmem hl6 ?_⟩
      rw [ne_wants (okw l hmem)]
      refine ⟨_, rfl, ?_⟩
      rw [decide_eq_true hW, if_neg (by simp)]
      refine ⟨l.map sg, rfl, by rw [List.length_map]; omega, by have h1 := dd_len l; rw [put_dd_len]; omega, fun ys py hs2 => ?_⟩
      obtain rfl := sset_srt py hs2
      rw [rise_dd hris]
      have lt : ∀ c ∈ l, c < 1114112 := fun c hc => by
        obtain ⟨p, hp, rfl⟩ := List.mem_map.mp (hmem c hc)
        exact partC.lt (hsh.ok p hp).nm
      rw [ne_sgs lt lt, decide_eq_true rfl]
      refine ⟨_, rfl, ?_⟩
      rw [if_neg (by simp)]
      have hll : (strD (l.map sg)).length = l.length := by simp [strD]
      refine ⟨by omega, by omega, ?_⟩
      rw [Int.toNat_natCast, hll]
      refine for_rng (fun c δ m' => m' = m6 ∧ ∃ o8, δ = [some (.fl ns), some (.ref ha), some noneW, some (.int (0 + (i : Int))), some (.lst (ps.map Part.enc)), some (.lst (strD ((ps.map (·.nm)).map sg))), some t.enc, some (.lst (strD (l.map sg))), o8, o9, none, o11]) ?_ ?_ ⟨rfl, _, rfl⟩
      · rintro c δ m' hc ⟨rfl, o8, rfl⟩ nx hnx3
        have ec : ((0 : Int) + (c : Int)) = (c : Int) := by omega
        have ec2 : ((c : Int) + 1) = ((c + 1 : Nat) : Int) := by omega
        have last := hnx3 [some (.fl ns), some (.ref ha), some noneW, some (.int (0 + (i : Int))), some (.lst (ps.map Part.enc)), some (.lst (strD ((ps.map (·.nm)).map sg))), some t.enc, some (.lst (strD (l.map sg))), some (.int (0 + (c : Int))), o9, none, o11] m' ⟨rfl, _, rfl⟩
        rw [ec] at last ⊢
        walk_at "rl"
        rw [ec2, cut_lo (by omega), cut_hi']
        have hll2 : (strD (l.map sg)).take c ++ (strD (l.map sg)).drop (c + 1) = strD ((l.take c ++ l.drop (c + 1)).map sg) := by
          rw [List.map_append, List.map_take, List.map_drop]; unfold strD; rw [List.map_append, List.map_take, List.map_drop]
        have hno := hl.less hc
        have hsubl : ∀ n ∈ l.take c ++ l.drop (c + 1), n ∈ ps.map (·.nm) := fun n hn => (List.mem_append.mp hn).elim (fun h => hmem n (List.mem_of_mem_take h)) fun h => hmem n (List.mem_of_mem_drop h)
        have hlen7 : (l.take c ++ l.drop (c + 1)).length ≤ 6 := by rw [List.length_append, List.length_take, List.length_drop]; omega
        refine ⟨szl (by rw [List.length_take, List.length_drop]; omega), ?_⟩
        rw [hll2]
        refine ⟨t, _, rfl, want _ _ _ hsubl hlen7 ?_⟩
        rw [eq_wants (okw _ hsubl)]
        refine ⟨_, rfl, ?_⟩
        rw [decide_eq_false hno, if_neg (by simp)]
        exact last
      · rintro δ m' ⟨rfl, o8, rfl⟩
        walk_at "rl"
        have hfin := hnx [some (.fl ns), some (.ref ha), some noneW, some (.int (0 + (i : Int))), some (.lst (ps.map Part.enc)), some (.lst (strD ((ps.map (·.nm)).map sg))), some t.enc, some (.lst (strD (l.map sg))), o8, o9, none, o11]
        refine ⟨t, l, rfl, fun x dx hx hdx hne => ?_⟩
        refine ⟨x, dx, ps, putWith t l, rfl, Mu.put_same, hsh, trok l hmem hl6, nbw l hl6, hright, hW, fun m8 r dr pk ph hkeep hT => ⟨rfl, ⟨_, _, hT.hx, rfl⟩, ?_⟩⟩
        have R8 : Rg ha hb m8 := R6.keep fun b c hm => hkeep b c (fun z => by rw [z, hx] at hm; cases hm) (by rw [Mu.put_ne (fun z => by rw [z, hx] at hm; cases hm)]; exact hm)
        refine ⟨x, dx, r, dr, pk, ph, _, rfl, hT.hx, hT.hr, okw l hmem, ?_⟩
        unfold deedsO
        dsimp only
        rw [eq_lstE (rows_ok (okw l hmem))]
        refine ⟨_, rfl, ?_⟩
        have last := hfin m8 ⟨R8, _, _, _, _, _, _, _, _, rfl⟩
        split
        · rename_i he
          have h0 : (putT (shl ps) (putWith t l)).ds = [] := by
            have h1 : (srt ((putT (shl ps) (putWith t l)).ds.map (·.1))).length = 0 := by simpa using he
            rw [(srt_perm _).length_eq, List.length_map] at h1
            exact List.eq_nil_of_length_eq_zero h1
          have hWt := with_none hgo tw hmem hW h0
          refine want [] _ _ (fun n h => (nomatch h)) (by simp) ?_
          have e0 : putWith t [] = t := rfl
          rw [e0, ne_wants (putT_ok hgo t tw).1, decide_eq_true hWt]
          exact ⟨_, rfl, last⟩
        · exact last
    · try dsimp only
      walk_at "rl"
      have two : ∀ a b, a ∈ ps.map (·.nm) → b ∈ ps.map (·.nm) → ¬ (putT (shl ps) (putWith t [a, b])).Whole := fun a b ha hb hw => by
        obtain ⟨k, h1, h2⟩ := two_sub ((srt_perm (ps.map (·.nm))).mem_iff.mpr ha) ((srt_perm _).mem_iff.mpr hb)
        exact hno k h1 ((with_same hgo tw (fun n hn => by
          rcases List.mem_cons.mp hn with e | e
          · rw [e]; exact ha
          · rw [List.mem_singleton.mp e]; exact hb) h2).mp hw)
      generalize hNM : ps.map (·.nm) = NM at two okw want ⊢
      refine for_inv (fun rest δ m' => ∃ (dn xs : List Nat) (o9 o11 : Option D), NM = dn ++ xs ∧ rest = strD (xs.map sg) ∧ m' = m6 ∧ δ = [some (.fl ns), some (.ref ha), some noneW, some (.int (0 + (i : Int))), some (.lst (ps.map Part.enc)), some (.lst (strD (NM.map sg))), some t.enc, some .non, o8, o9, none, o11]) ?_ ?_ ⟨[], NM, _, _, rfl, rfl, rfl, rfl⟩
      · rintro z rest δ m' ⟨dn, xs, o9, o11, ht, e1, rfl, rfl⟩ nx3 hnx3
        cases xs with
        | nil => cases e1
        | cons c xs =>
          rw [show strD ((c :: xs).map sg) = .str (sg c) :: strD (xs.map sg) from rfl] at e1
          injection e1 with e1 e2
          subst e1
          walk_at "rl"
          refine for_inv (fun rest δ m2' => ∃ (dn3 xs3 : List Nat) (o11 : Option D), NM = dn3 ++ xs3 ∧ rest = strD (xs3.map sg) ∧ m2' = m' ∧ δ = [some (.fl ns), some (.ref ha), some noneW, some (.int (0 + (i : Int))), some (.lst (ps.map Part.enc)), some (.lst (strD (NM.map sg))), some t.enc, some .non, o8, some (.str (sg c)), none, o11]) ?_ ?_ ⟨[], NM, _, rfl, rfl, rfl, rfl⟩
          · rintro z rest3 δ m3' ⟨dn3, xs3, o11, ht3, e3, rfl, rfl⟩ nx4 hnx4
            cases xs3 with
            | nil => cases e3
            | cons d xs3 =>
              rw [show strD ((d :: xs3).map sg) = .str (sg d) :: strD (xs3.map sg) from rfl] at e3
              injection e3 with e3 e4
              subst e3
              have hc : c ∈ NM := by rw [ht]; simp
              have hd : d ∈ NM := by rw [ht3]; simp
              have hcd : ∀ n ∈ [c, d], n ∈ NM := fun n hn => by
                rcases List.mem_cons.mp hn with e | e
                · rw [e]; exact hc
                · rw [List.mem_singleton.mp e]; exact hd
              have last := hnx4 [some (.fl ns), some (.ref ha), some noneW, some (.int (0 + (i : Int))), some (.lst (ps.map Part.enc)), some (.lst (strD (NM.map sg))), some t.enc, some .non, o8, some (.str (sg c)), none, some (.str (sg d))] m3' ⟨dn3 ++ [d], xs3, _, by rw [ht3]; simp, e4, rfl, rfl⟩
              walk_at "rl"
              refine ⟨t, [c, d], rfl, want [c, d] _ _ hcd (by simp) ?_⟩
              rw [eq_wants (okw _ hcd), decide_eq_false (two c d hc hd)]
              exact ⟨_, rfl, last⟩
          · rintro δ m3' ⟨dn3, xs3, o11, ht3, e3, rfl, rfl⟩
            exact hnx3 _ _ ⟨dn ++ [c], xs, _, _, by rw [ht]; simp, e2, rfl, rfl⟩
      · rintro δ m' ⟨dn, xs, o9, o11, ht, e1, rfl, rfl⟩
        exact hnx _ _ ⟨R6, _, _, _, _, _, _, _, _, rfl⟩
  · rintro δ m2 ⟨R2, o3, o4, o5, o6, o7, o8, o9, o11, rfl⟩
    walk_at "rl"
    exact Fz.now (q _)
end K16
set_option maxHeartbeats 0
/-! the end. -/
namespace K16
open PySem PySem.Spec PyProof.Rows L2 L3
section
variable {w : World} {K : PySem.W.Frag} {h : Heap} {mg : Str → Option Value}
theorem txt (X : K.In h) (G : h.Ns mainGlobals mg) (c : He.SaysX fa fn ts [] ex w h K) : Txt K w mg := by
  refine {
    d_is_letter := by
      obtain ⟨fd, F⟩ := c.t.d.def_ 0 (d := dd_is_letter) rfl
      exact defT_of F (He.glo_ok X G (c.t.d.fact 0 (f := .glo "is_letter") rfl)) (FunD.bindsN F fun _ _ _ _ _ _ us hl => match us, hl with | [_, _], _ => rfl)
    d_is_whole := by
      obtain ⟨fd, F⟩ := c.t.d.def_ 1 (d := dd_is_whole) rfl
      exact defT_of F (He.glo_ok X G (c.t.d.fact 1 (f := .glo "is_whole") rfl)) (FunD.bindsN F fun _ _ _ _ _ _ us hl => match us, hl with | [_], _ => rfl)
    d_is_whole_kinds := by
      obtain ⟨fd, F⟩ := c.t.d.def_ 2 (d := dd_is_whole_kinds) rfl
      exact defN_of F (He.glo_ok X G (c.t.d.fact 2 (f := .glo "is_whole_kinds") rfl)) (FunD.bindsN F fun _ _ _ _ _ _ us hl => match us, hl with | [_], _ => rfl)
    d_kind_of := by
      obtain ⟨fd, F⟩ := c.t.d.def_ 3 (d := dd_kind_of) rfl
      exact defT_of F (He.glo_ok X G (c.t.d.fact 3 (f := .glo "kind_of") rfl)) (FunD.bindsN F fun _ _ _ _ _ _ us hl => match us, hl with | [_], _ => rfl)
    d_first_worth := by
      obtain ⟨fd, F⟩ := c.t.d.def_ 4 (d := dd_first_worth) rfl
      exact defT_of F (He.glo_ok X G (c.t.d.fact 4 (f := .glo "first_worth") rfl)) (FunD.bindsN F fun _ _ _ _ _ _ us hl => match us, hl with | [_], _ => rfl)
    d_cut := by
      obtain ⟨fd, F⟩ := c.t.d.def_ 5 (d := dd_cut) rfl
      exact defT_of F (He.glo_ok X G (c.t.d.fact 5 (f := .glo "cut") rfl)) (FunD.bindsN F fun _ _ _ _ _ _ us hl => match us, hl with | [_], _ => rfl)
    d_is_arm := by
      obtain ⟨fd, F⟩ := c.t.d.def_ 6 (d := dd_is_arm) rfl
      exact defT_of F (He.glo_ok X G (c.t.d.fact 6 (f := .glo "is_arm") rfl)) (FunD.bindsN F fun _ _ _ _ _ _ us hl => match us, hl with | [_, _], _ => rfl)
    d_words_in := by
      obtain ⟨fd, F⟩ := c.t.d.def_ 7 (d := dd_words_in) rfl
      exact defT_of F (He.glo_ok X G (c.t.d.fact 7 (f := .glo "words_in") rfl)) (FunD.bindsN F fun _ _ _ _ _ _ us hl => match us, hl with | [_, _], _ => rfl)
    d_is_body := by
      obtain ⟨fd, F⟩ := c.t.d.def_ 8 (d := dd_is_body) rfl
      exact defT_of F (He.glo_ok X G (c.t.d.fact 8 (f := .glo "is_body") rfl)) (FunD.bindsN F fun _ _ _ _ _ _ us hl => match us, hl with | [_], _ => rfl)
    d_within := by
      obtain ⟨fd, F⟩ := c.t.d.def_ 9 (d := dd_within) rfl
      exact defT_of F (He.glo_ok X G (c.t.d.fact 9 (f := .glo "within") rfl)) (FunD.bindsN F fun _ _ _ _ _ _ us hl => match us, hl with | [_], _ => rfl)
    d_calls_in := by
      obtain ⟨fd, F⟩ := c.t.d.def_ 10 (d := dd_calls_in) rfl
      exact defT_of F (He.glo_ok X G (c.t.d.fact 10 (f := .glo "calls_in") rfl)) (FunD.bindsN F fun _ _ _ _ _ _ us hl => match us, hl with | [_], _ => rfl)
    d_renamed_body := by
      obtain ⟨fd, F⟩ := c.t.d.def_ 11 (d := dd_renamed_body) rfl
      exact defT_of F (He.glo_ok X G (c.t.d.fact 11 (f := .glo "renamed_body") rfl)) (FunD.bindsN F fun _ _ _ _ _ _ us hl => match us, hl with | [_, _, _], _ => rfl)
    d_kind_in := by
      obtain ⟨fd, F⟩ := c.t.d.def_ 12 (d := dd_kind_in) rfl
      exact defT_of F (He.glo_ok X G (c.t.d.fact 12 (f := .glo "kind_in") rfl)) (FunD.bindsN F fun _ _ _ _ _ _ us hl => match us, hl with | [_, _, _, _], _ => rfl)
    d_are_kinds := by
      obtain ⟨fd, F⟩ := c.t.d.def_ 13 (d := dd_are_kinds) rfl
      exact defT_of F (He.glo_ok X G (c.t.d.fact 13 (f := .glo "are_kinds") rfl)) (FunD.bindsN F fun _ _ _ _ _ _ us hl => match us, hl with | [_], _ => rfl)
    d_are_rising := by
      obtain ⟨fd, F⟩ := c.t.d.def_ 14 (d := dd_are_rising) rfl
      exact defT_of F (He.glo_ok X G (c.t.d.fact 14 (f := .glo "are_rising") rfl)) (FunD.bindsN F fun _ _ _ _ _ _ us hl => match us, hl with | [_], _ => rfl)
    d_are_rows := by
      obtain ⟨fd, F⟩ := c.t.d.def_ 15 (d := dd_are_rows) rfl
      exact defT_of F (He.glo_ok X G (c.t.d.fact 15 (f := .glo "are_rows") rfl)) (FunD.bindsN F fun _ _ _ _ _ _ us hl => match us, hl with | [_, _, _, _], _ => rfl)
    d_are_deeds := by
      obtain ⟨fd, F⟩ := c.t.d.def_ 16 (d := dd_are_deeds) rfl
      exact defT_of F (He.glo_ok X G (c.t.d.fact 16 (f := .glo "are_deeds") rfl)) (FunD.bindsN F fun _ _ _ _ _ _ us hl => match us, hl with | [_], _ => rfl)
    d_why_none := by
      obtain ⟨fd, F⟩ := c.t.d.def_ 17 (d := dd_why_none) rfl
      exact defT_of F (He.glo_ok X G (c.t.d.fact 17 (f := .glo "why_none") rfl)) (FunD.bindsN F fun _ _ _ _ _ _ us hl => match us, hl with | [_], _ => rfl)
    d_need_part := by
      obtain ⟨fd, F⟩ := c.t.d.def_ 18 (d := dd_need_part) rfl
      exact defT_of F (He.glo_ok X G (c.t.d.fact 18 (f := .glo "need_part") rfl)) (FunD.bindsN F fun _ _ _ _ _ _ us hl => match us, hl with | [_], _ => rfl)
    d_need_shelf := by
      obtain ⟨fd, F⟩ := c.t.d.def_ 19 (d := dd_need_shelf) rfl
      exact defT_of F (He.glo_ok X G (c.t.d.fact 19 (f := .glo "need_shelf") rfl)) (FunD.bindsN F fun _ _ _ _ _ _ us hl => match us, hl with | [_], _ => rfl)
    d_given_in := by
      obtain ⟨fd, F⟩ := c.t.d.def_ 20 (d := dd_given_in) rfl
      exact defT_of F (He.glo_ok X G (c.t.d.fact 20 (f := .glo "given_in") rfl)) (FunD.bindsN F fun _ _ _ _ _ _ us hl => match us, hl with | [_], _ => rfl)
    d_wrong_deed := by
      obtain ⟨fd, F⟩ := c.t.d.def_ 21 (d := dd_wrong_deed) rfl
      exact defT_of F (He.glo_ok X G (c.t.d.fact 21 (f := .glo "wrong_deed") rfl)) (FunD.bindsN F fun _ _ _ _ _ _ us hl => match us, hl with | [_], _ => rfl)
    d_trees_in := by
      obtain ⟨fd, F⟩ := c.t.d.def_ 22 (d := dd_trees_in) rfl
      exact defT_of F (He.glo_ok X G (c.t.d.fact 22 (f := .glo "trees_in") rfl)) (FunD.bindsN F fun _ _ _ _ _ _ us hl => match us, hl with | [_, _, _], _ => rfl)
    d_need_tree := by
      obtain ⟨fd, F⟩ := c.t.d.def_ 23 (d := dd_need_tree) rfl
      exact defT_of F (He.glo_ok X G (c.t.d.fact 23 (f := .glo "need_tree") rfl)) (FunD.bindsN F fun _ _ _ _ _ _ us hl => match us, hl with | [_, _], _ => rfl)
    d_of_part := by
      obtain ⟨fd, F⟩ := c.t.d.def_ 24 (d := dd_of_part) rfl
      exact defT_of F (He.glo_ok X G (c.t.d.fact 24 (f := .glo "of_part") rfl)) (FunD.bindsN F fun _ _ _ _ _ _ us hl => match us, hl with | [_], _ => rfl)
    d_renamed_form := by
      obtain ⟨fd, F⟩ := c.t.d.def_ 25 (d := dd_renamed_form) rfl
      exact defT_of F (He.glo_ok X G (c.t.d.fact 25 (f := .glo "renamed_form") rfl)) (FunD.bindsN F fun _ _ _ _ _ _ us hl => match us, hl with | [_, _, _], _ => rfl)
    d_renamed_sheaf := by
      obtain ⟨fd, F⟩ := c.t.d.def_ 26 (d := dd_renamed_sheaf) rfl
      exact defT_of F (He.glo_ok X G (c.t.d.fact 26 (f := .glo "renamed_sheaf") rfl)) (FunD.bindsN F fun _ _ _ _ _ _ us hl => match us, hl with | [_, _, _], _ => rfl)
    d_put := by
      obtain ⟨fd, F⟩ := c.t.d.def_ 27 (d := dd_put) rfl
      exact defT_of F (He.glo_ok X G (c.t.d.fact 27 (f := .glo "put") rfl)) (FunD.bindsN F fun _ _ _ _ _ _ us hl => match us, hl with | [_, _], _ => rfl)
    d_put_together := by
      obtain ⟨fd, F⟩ := c.t.d.def_ 28 (d := dd_put_together) rfl
      exact defT_of F (He.glo_ok X G (c.t.d.fact 28 (f := .glo "put_together") rfl)) (FunD.bindsN F fun _ _ _ _ _ _ us hl => match us, hl with | [_, _], _ => rfl)
    d_wanting_in := by
      obtain ⟨fd, F⟩ := c.t.d.def_ 29 (d := dd_wanting_in) rfl
      exact defT_of F (He.glo_ok X G (c.t.d.fact 29 (f := .glo "wanting_in") rfl)) (FunD.bindsN F fun _ _ _ _ _ _ us hl => match us, hl with | [_], _ => rfl)
    d_wanting := by
      obtain ⟨fd, F⟩ := c.t.d.def_ 30 (d := dd_wanting) rfl
      exact defT_of F (He.glo_ok X G (c.t.d.fact 30 (f := .glo "wanting") rfl)) (FunD.bindsN F fun _ _ _ _ _ _ us hl => match us, hl with | [_, _], _ => rfl)
    d_is_whole_flats := by
      obtain ⟨fd, F⟩ := c.t.d.def_ 31 (d := dd_is_whole_flats) rfl
      exact defN_of F (He.glo_ok X G (c.t.d.fact 31 (f := .glo "is_whole_flats") rfl)) (FunD.bindsN F fun _ _ _ _ _ _ us hl => match us, hl with | [_], _ => rfl)
    d_lists_of := by
      obtain ⟨fd, F⟩ := c.t.d.def_ 32 (d := dd_lists_of) rfl
      exact defT_of F (He.glo_ok X G (c.t.d.fact 32 (f := .glo "lists_of") rfl)) (FunD.bindsN F fun _ _ _ _ _ _ us hl => match us, hl with | [_, _], _ => rfl)
    d_givers := by
      obtain ⟨fd, F⟩ := c.t.d.def_ 33 (d := dd_givers) rfl
      exact defT_of F (He.glo_ok X G (c.t.d.fact 33 (f := .glo "givers") rfl)) (FunD.bindsN F fun _ _ _ _ _ _ us hl => match us, hl with | [_, _], _ => rfl)
    d_reckoned := by
      obtain ⟨fd, F⟩ := c.t.d.def_ 34 (d := dd_reckoned) rfl
      exact defT_of F (He.glo_ok X G (c.t.d.fact 34 (f := .glo "reckoned") rfl)) (FunD.bindsN F fun _ _ _ _ _ _ us hl => match us, hl with | [_, _], _ => rfl)
    d_of_list := by
      obtain ⟨fd, F⟩ := c.t.d.def_ 35 (d := dd_of_list) rfl
      exact defT_of F (He.glo_ok X G (c.t.d.fact 35 (f := .glo "of_list") rfl)) (FunD.bindsN F fun _ _ _ _ _ _ us hl => match us, hl with | [_, _], _ => rfl)
    d_named_in := by
      obtain ⟨fd, F⟩ := c.t.d.def_ 36 (d := dd_named_in) rfl
      exact defT_of F (He.glo_ok X G (c.t.d.fact 36 (f := .glo "named_in") rfl)) (FunD.bindsN F fun _ _ _ _ _ _ us hl => match us, hl with | [_], _ => rfl)
    d__law_mix := by
      obtain ⟨fd, F⟩ := c.t.d.def_ 37 (d := dd__law_mix) rfl
      exact defT_of F (He.glo_ok X G (c.t.d.fact 37 (f := .glo "_law_mix") rfl)) (FunD.bindsN F fun _ _ _ _ _ _ us hl => match us, hl with | [_, _], _ => rfl)
    d__law_next := by
      obtain ⟨fd, F⟩ := c.t.d.def_ 38 (d := dd__law_next) rfl
      exact defT_of F (He.glo_ok X G (c.t.d.fact 38 (f := .glo "_law_next") rfl)) (FunD.bindsN F fun _ _ _ _ _ _ us hl => match us, hl with | [_, _], _ => rfl)
    d__law_alike := by
      obtain ⟨fd, F⟩ := c.t.d.def_ 39 (d := dd__law_alike) rfl
      exact defT_of F (He.glo_ok X G (c.t.d.fact 39 (f := .glo "_law_alike") rfl)) (FunD.bindsN F fun _ _ _ _ _ _ us hl => match us, hl with | [_, _], _ => rfl)
    d__law_leaf := by
      obtain ⟨fd, F⟩ := c.t.d.def_ 40 (d := dd__law_leaf) rfl
      exact defT_of F (He.glo_ok X G (c.t.d.fact 40 (f := .glo "_law_leaf") rfl)) (FunD.bindsN F fun _ _ _ _ _ _ us hl => match us, hl with | [_, _, _], _ => rfl)
    d__law_call := by
      obtain ⟨fd, F⟩ := c.t.d.def_ 41 (d := dd__law_call) rfl
      exact defT_of F (He.glo_ok X G (c.t.d.fact 41 (f := .glo "_law_call") rfl)) (FunD.bindsN F fun _ _ _ _ _ _ us hl => match us, hl with | [_, _, _, _], _ => rfl)
    d__law_body := by
      obtain ⟨fd, F⟩ := c.t.d.def_ 42 (d := dd__law_body) rfl
      exact defT_of F (He.glo_ok X G (c.t.d.fact 42 (f := .glo "_law_body") rfl)) (FunD.bindsN F fun _ _ _ _ _ _ us hl => match us, hl with | [_, _, _, _], _ => rfl)
    d__law_reckons := by
      obtain ⟨fd, F⟩ := c.t.d.def_ 43 (d := dd__law_reckons) rfl
      exact defT_of F (He.glo_ok X G (c.t.d.fact 43 (f := .glo "_law_reckons") rfl)) (FunD.bindsN F fun _ _ _ _ _ _ us hl => match us, hl with | [_, _, _, _], _ => rfl)
    d__law_calls := by
      obtain ⟨fd, F⟩ := c.t.d.def_ 44 (d := dd__law_calls) rfl
      exact defT_of F (He.glo_ok X G (c.t.d.fact 44 (f := .glo "_law_calls") rfl)) (FunD.bindsN F fun _ _ _ _ _ _ us hl => match us, hl with | [_], _ => rfl)
    d__law_used := by
      obtain ⟨fd, F⟩ := c.t.d.def_ 45 (d := dd__law_used) rfl
      exact defT_of F (He.glo_ok X G (c.t.d.fact 45 (f := .glo "_law_used") rfl)) (FunD.bindsN F fun _ _ _ _ _ _ us hl => match us, hl with | [_], _ => rfl)
    d__law_part := by
      obtain ⟨fd, F⟩ := c.t.d.def_ 46 (d := dd__law_part) rfl
      exact defT_of F (He.glo_ok X G (c.t.d.fact 46 (f := .glo "_law_part") rfl)) (FunD.bindsN F fun _ _ _ _ _ _ us hl => match us, hl with | [_, _, _, _, _, _], _ => rfl)
    d__law_shelf := by
      obtain ⟨fd, F⟩ := c.t.d.def_ 47 (d := dd__law_shelf) rfl
      exact defT_of F (He.glo_ok X G (c.t.d.fact 47 (f := .glo "_law_shelf") rfl)) (FunD.bindsN F fun _ _ _ _ _ _ us hl => match us, hl with | [_], _ => rfl)
    d__law_tree := by
      obtain ⟨fd, F⟩ := c.t.d.def_ 48 (d := dd__law_tree) rfl
      exact defT_of F (He.glo_ok X G (c.t.d.fact 48 (f := .glo "_law_tree") rfl)) (FunD.bindsN F fun _ _ _ _ _ _ us hl => match us, hl with | [_, _, _], _ => rfl)
    d__law_whole := by
      obtain ⟨fd, F⟩ := c.t.d.def_ 49 (d := dd__law_whole) rfl
      exact defT_of F (He.glo_ok X G (c.t.d.fact 49 (f := .glo "_law_whole") rfl)) (FunD.bindsN F fun _ _ _ _ _ _ us hl => match us, hl with | [_], _ => rfl)
    d__law_put_with := by
      obtain ⟨fd, F⟩ := c.t.d.def_ 50 (d := dd__law_put_with) rfl
      exact defT_of F (He.glo_ok X G (c.t.d.fact 50 (f := .glo "_law_put_with") rfl)) (FunD.bindsN F fun _ _ _ _ _ _ us hl => match us, hl with | [_, _], _ => rfl)
    d_law := by
      obtain ⟨fd, F⟩ := c.t.d.def_ 51 (d := dd_law) rfl
      exact defT_of F (He.glo_ok X G (c.t.d.fact 51 (f := .glo "law") rfl)) (FunD.bindsN F fun _ _ _ _ _ _ us hl => match us, hl with | [_], _ => rfl)
    c_NUMBER := gloB_ok X G (ex_at c.more 0)
    c_TRUTH := gloB_ok X G (ex_at c.more 1)
    c_LIST := gloB_ok X G (ex_at c.more 2)
    c_KINDS := gloB_ok X G (ex_at c.more 3)
    c_DEEDS := gloB_ok X G (ex_at c.more 4)
    c_CELLS := gloB_ok X G (ex_at c.more 5)
    c_PARTS := gloB_ok X G (ex_at c.more 6)
    c_MOST := gloB_ok X G (ex_at c.more 7)
    c_MOST_LIST := gloB_ok X G (ex_at c.more 8)
    c_MOST_WORDS := gloB_ok X G (ex_at c.more 9)
    c_MOST_WITHIN_bodies := gloB_ok X G (ex_at c.more 10)
    c_MOST_WRITTEN := gloB_ok X G (ex_at c.more 11)
    c_MOST_DEEDS := gloB_ok X G (ex_at c.more 12)
    c_MOST_CELLS := gloB_ok X G (ex_at c.more 13)
    c_MOST_PARTS := gloB_ok X G (ex_at c.more 14)
    c_MOST_TREES := gloB_ok X G (ex_at c.more 15)
    c_MOST_WITHIN_trees := gloB_ok X G (ex_at c.more 16)
    c_MOST_STEPS := gloB_ok X G (ex_at c.more 17)
    c_MOST_CALLS := gloB_ok X G (ex_at c.more 18)
    t_ARMS := by
      obtain ⟨es, n, D⟩ := c.t.tab 0 (t := (fun K => He.ga K "ARMS", ["number", "truth", "empty", "argument", "cell", "plus", "less", "times", "below", "same", "not", "and", "if", "put", "first", "rest", "many", "set", "then", "call"])) rfl
      exact tabB_ok (He.glo_ok X G (c.t.d.fact 52 (f := .glo "ARMS") rfl)) D (ex_at c.more 19)
    t_TAKES := by
      obtain ⟨es, n, D⟩ := c.t.tab 1 (t := (fun K => He.ga K "TAKES", ["plus", "less", "times", "below", "not", "and", "put", "first", "rest", "many"])) rfl
      exact tabB_ok (He.glo_ok X G (c.t.d.fact 53 (f := .glo "TAKES") rfl)) D (ex_at c.more 20)
    t_TELLS := by
      obtain ⟨es, n, D⟩ := c.t.tab 2 (t := (fun K => He.ga K "TELLS", ["number", "truth", "empty", "plus", "less", "times", "below", "same", "not", "and", "put", "first", "rest", "many"])) rfl
      exact tabB_ok (He.glo_ok X G (c.t.d.fact 54 (f := .glo "TELLS") rfl)) D (ex_at c.more 21)
    t_SHAPES := by
      obtain ⟨es, n, D⟩ := c.t.tab 3 (t := (fun K => He.ga K "SHAPES", ["part", "with", "without", "also", "renamed", "over"])) rfl
      exact tabB_ok (He.glo_ok X G (c.t.d.fact 55 (f := .glo "SHAPES") rfl)) D (ex_at c.more 22)
    o_ARMS := by
      obtain ⟨es, n, D⟩ := c.t.tab 0 (t := (fun K => He.ga K "ARMS", ["number", "truth", "empty", "argument", "cell", "plus", "less", "times", "below", "same", "not", "and", "if", "put", "first", "rest", "many", "set", "then", "call"])) rfl
      exact tabO_ok (He.glo_ok X G (c.t.d.fact 52 (f := .glo "ARMS") rfl)) D (ex_at c.more 19)
    o_TAKES := by
      obtain ⟨es, n, D⟩ := c.t.tab 1 (t := (fun K => He.ga K "TAKES", ["plus", "less", "times", "below", "not", "and", "put", "first", "rest", "many"])) rfl
      exact tabO_ok (He.glo_ok X G (c.t.d.fact 53 (f := .glo "TAKES") rfl)) D (ex_at c.more 20)
    o_TELLS := by
      obtain ⟨es, n, D⟩ := c.t.tab 2 (t := (fun K => He.ga K "TELLS", ["number", "truth", "empty", "plus", "less", "times", "below", "same", "not", "and", "put", "first", "rest", "many"])) rfl
      exact tabO_ok (He.glo_ok X G (c.t.d.fact 54 (f := .glo "TELLS") rfl)) D (ex_at c.more 21)
    o_SHAPES := by
      obtain ⟨es, n, D⟩ := c.t.tab 3 (t := (fun K => He.ga K "SHAPES", ["part", "with", "without", "also", "renamed", "over"])) rfl
      exact tabO_ok (He.glo_ok X G (c.t.d.fact 55 (f := .glo "SHAPES") rfl)) D (ex_at c.more 22)
    k_Sheaf := ⟨He.cls_ok (c.t.d.fact 71 (f := .cls "Sheaf") rfl), He.glo_ok X G (c.t.d.fact 70 (f := .glo "Sheaf") rfl), by
      intro f hf
      simp only [List.mem_cons, List.not_mem_nil, or_false] at hf
      rcases hf with rfl | rfl <;> first | exact He.noat_ok (c.t.d.fact 73 (f := .noat "Sheaf" "by_deed") rfl) | exact He.noat_ok (c.t.d.fact 74 (f := .noat "Sheaf" "by_cell") rfl)⟩
    k_Runner := ⟨He.cls_ok (c.t.d.fact 76 (f := .cls "Runner") rfl), He.glo_ok X G (c.t.d.fact 75 (f := .glo "Runner") rfl), by
      intro f hf
      simp only [List.mem_cons, List.not_mem_nil, or_false] at hf
      rcases hf with rfl | rfl | rfl | rfl <;> first | exact He.noat_ok (c.t.d.fact 78 (f := .noat "Runner" "shapes") rfl) | exact He.noat_ok (c.t.d.fact 79 (f := .noat "Runner" "kinds") rfl) | exact He.noat_ok (c.t.d.fact 80 (f := .noat "Runner" "holds") rfl) | exact He.noat_ok (c.t.d.fact 81 (f := .noat "Runner" "steps") rfl)⟩
    k_Thing := ⟨He.cls_ok (c.t.d.fact 83 (f := .cls "Thing") rfl), He.glo_ok X G (c.t.d.fact 82 (f := .glo "Thing") rfl), by
      intro f hf
      simp only [List.mem_cons, List.not_mem_nil, or_false] at hf
      rcases hf with rfl <;> first | exact He.noat_ok (c.t.d.fact 85 (f := .noat "Thing" "runner") rfl)⟩
    i_Sheaf := by
      obtain ⟨fd, F⟩ := c.t.d.def_ 52 (d := dd_Sheaf_init) rfl
      exact ⟨⟨_, fd, F, He.mkr_ok (c.t.d.fact 72 (f := .mkr "Sheaf") rfl), FunD.bindsN F fun _ _ _ _ _ _ us hl => match us, hl with | [_, _, _], _ => rfl⟩⟩
    m_Sheaf_with_forms := by
      obtain ⟨fd, F⟩ := c.t.d.def_ 53 (d := dd_Sheaf_with_forms) rfl
      exact ⟨⟨_, fd, F, He.meth_ok (c.t.d.fact 86 (f := .meth "Sheaf" "with_forms") rfl), FunD.bindsN F fun _ _ _ _ _ _ us hl => match us, hl with | [_, _, _], _ => rfl⟩⟩
    m_Sheaf_with_cells := by
      obtain ⟨fd, F⟩ := c.t.d.def_ 54 (d := dd_Sheaf_with_cells) rfl
      exact ⟨⟨_, fd, F, He.meth_ok (c.t.d.fact 87 (f := .meth "Sheaf" "with_cells") rfl), FunD.bindsN F fun _ _ _ _ _ _ us hl => match us, hl with | [_, _], _ => rfl⟩⟩
    i_Runner := by
      obtain ⟨fd, F⟩ := c.t.d.def_ 55 (d := dd_Runner_init) rfl
      exact ⟨⟨_, fd, F, He.mkr_ok (c.t.d.fact 77 (f := .mkr "Runner") rfl), FunD.bindsN F fun _ _ _ _ _ _ us hl => match us, hl with | [_, _], _ => rfl⟩⟩
    m_Runner_run := by
      obtain ⟨fd, F⟩ := c.t.d.def_ 56 (d := dd_Runner_run) rfl
      exact ⟨⟨_, fd, F, He.meth_ok (c.t.d.fact 88 (f := .meth "Runner" "run") rfl), FunD.bindsN F fun _ _ _ _ _ _ us hl => match us, hl with | [_, _, _], _ => rfl⟩⟩
    m_Runner_come := by
      obtain ⟨fd, F⟩ := c.t.d.def_ 57 (d := dd_Runner_come) rfl
      exact ⟨⟨_, fd, F, He.meth_ok (c.t.d.fact 89 (f := .meth "Runner" "come") rfl), FunD.bindsN F fun _ _ _ _ _ _ us hl => match us, hl with | [_, _, _, _], _ => rfl⟩⟩
    m_Runner_put_in := by
      obtain ⟨fd, F⟩ := c.t.d.def_ 58 (d := dd_Runner_put_in) rfl
      exact ⟨⟨_, fd, F, He.meth_ok (c.t.d.fact 90 (f := .meth "Runner" "put_in") rfl), FunD.bindsN F fun _ _ _ _ _ _ us hl => match us, hl with | [_, _, _], _ => rfl⟩⟩
    i_Thing := by
      obtain ⟨fd, F⟩ := c.t.d.def_ 59 (d := dd_Thing_init) rfl
      exact ⟨⟨_, fd, F, He.mkr_ok (c.t.d.fact 84 (f := .mkr "Thing") rfl), FunD.bindsN F fun _ _ _ _ _ _ us hl => match us, hl with | [_, _, _], _ => rfl⟩⟩
    m_Thing_call := by
      obtain ⟨fd, F⟩ := c.t.d.def_ 60 (d := dd_Thing_call) rfl
      exact ⟨⟨_, fd, F, He.meth_ok (c.t.d.fact 91 (f := .meth "Thing" "call") rfl), FunD.bindsN F fun _ _ _ _ _ _ us hl => match us, hl with | [_, _, _], _ => rfl⟩⟩
    m_Thing_deeds := by
      obtain ⟨fd, F⟩ := c.t.d.def_ 61 (d := dd_Thing_deeds) rfl
      exact ⟨⟨_, fd, F, He.meth_ok (c.t.d.fact 92 (f := .meth "Thing" "deeds") rfl), FunD.bindsN F fun _ _ _ _ _ _ us hl => match us, hl with | [_], _ => rfl⟩⟩
    m_Thing_cells := by
      obtain ⟨fd, F⟩ := c.t.d.def_ 62 (d := dd_Thing_cells) rfl
      exact ⟨⟨_, fd, F, He.meth_ok (c.t.d.fact 93 (f := .meth "Thing" "cells") rfl), FunD.bindsN F fun _ _ _ _ _ _ us hl => match us, hl with | [_], _ => rfl⟩⟩
    b_bool := He.free_ok X G (c.t.d.fact 56 (f := .free "bool") rfl)
    b_dict := He.free_ok X G (c.t.d.fact 57 (f := .free "dict") rfl)
    b_int := He.free_ok X G (c.t.d.fact 58 (f := .free "int") rfl)
    b_isinstance := He.free_ok X G (c.t.d.fact 59 (f := .free "isinstance") rfl)
    b_len := He.free_ok X G (c.t.d.fact 60 (f := .free "len") rfl)
    b_list := He.free_ok X G (c.t.d.fact 61 (f := .free "list") rfl)
    b_max := He.free_ok X G (c.t.d.fact 62 (f := .free "max") rfl)
    b_min := He.free_ok X G (c.t.d.fact 63 (f := .free "min") rfl)
    b_range := He.free_ok X G (c.t.d.fact 64 (f := .free "range") rfl)
    b_set := He.free_ok X G (c.t.d.fact 65 (f := .free "set") rfl)
    b_sorted := He.free_ok X G (c.t.d.fact 66 (f := .free "sorted") rfl)
    b_str := He.free_ok X G (c.t.d.fact 67 (f := .free "str") rfl)
    b_tuple := He.free_ok X G (c.t.d.fact 68 (f := .free "tuple") rfl)
    b_zip := He.free_ok X G (c.t.d.fact 69 (f := .free "zip") rfl) }
theorem facts {P : Program} {f : Addr} (X : K.In h) (G : h.Ns mainGlobals mg) (hfa : mg ("law" : Str) = some (.ref f)) (c : He.SaysX fa fn ts [] ex w h K) :
    ∃ fd : FuncData, (∀ (s : Shared) (v : Value), BindsTo s fd ⟨[v], []⟩ [("_law_script", v)]) ∧ ∀ base : Heap, K.In base → base.Ns mainGlobals mg → FnOk P w K mg base L2.CX0 33 f fd ["_law_script"] (spD K sp_law0) := by
  obtain ⟨fd, F⟩ := c.t.d.def_ 51 (d := dd_law) rfl
  have e := hfa.symm.trans (He.glo_ok X G (c.t.d.fact 51 (f := .glo "law") rfl))
  cases e
  have b := FunD.bindsA (ps := ["_law_script"]) F fun _ _ _ _ _ _ us hl => match us, hl with | [_], _ => rfl
  exact ⟨fd, fun s v => b s [v] rfl, fun base _ _ => F_law (txt X G c) F⟩
end
end K16
open PySem PySem.W PySem.Calls PyProof.Rows
set_option maxRecDepth 100000 in
set_option maxHeartbeats 0 in
theorem PySem.Challenge.cw_partdeeds_k16_whole_what_givers_give_holds : PySem.Challenge.rw_partdeeds_k16_whole_what_givers_give.Holds := by
  w_on; o_law
  refine HandSHeadRun.head_any (r := OpenLaw.row PySem.Challenge.rw_partdeeds_k16_whole_what_givers_give) (q := view (OpenLaw.row PySem.Challenge.rw_partdeeds_k16_whole_what_givers_give).prog [95]) (H := K16.hk) (ob := K16.ob) (M := 9000) (loose := K16.loose) (d := HandSHeadRun.topDef (OpenLaw.row PySem.Challenge.rw_partdeeds_k16_whole_what_givers_give).prog 95) (kwd := []) K16.ob_eq
    (by kernel_rfl) (fun s => by kernel_rfl) K16.run (by kernel_rfl) (by kernel_rfl) (by kernel_rfl) (by rfl) (by first | assumption | decide +kernel) (by decide +kernel) ⟨rfl, rfl, rfl, rfl, rfl, by decide +kernel⟩ ?hw ?hc
  case hw => w_witness2
  case hc =>
    refine L2.walk_ofE (l := PySem.Challenge.rw_partdeeds_k16_whole_what_givers_give) (n := 63) (k := 33) (x := "_law_script") (CX := L2.CX0) rfl (by decide) (by kernel_rfl) ⟨rfl, by decide, by decide⟩ ?F (fun _ _ _ _ z => z)
    intro w mg fa h Y G hmg0
    obtain ⟨K, KX, c⟩ := Y
    have hmg : mg ("law" : PySem.Str) = some (.ref fa) := by
      have e : (HandSHeadRun.topDef (OpenLaw.row PySem.Challenge.rw_partdeeds_k16_whole_what_givers_give).prog 95).name = ("law" : PySem.Str) := by kernel_rfl
      rw [← e]
      exact hmg0
    obtain ⟨fd, hb, hF⟩ := K16.facts (P := (PySem.Challenge.rw_partdeeds_k16_whole_what_givers_give).prog) (w := w) KX G hmg c
    exact ⟨K, fd, L3.spD K L3.sp_law0, KX, hb, fun H a ns hl _ hS => L3.law_asked hl hS, hF⟩
