import PyProof.Rows.All
import Wide.All
import OpenK.AllK
import Wide.FinOn
import HandS.ForMost
import HandS.Exc
import KE.SortData
import KE.DataCmp
import HandS.Small
import HandS.Iter
import HandS.DictTup
import KE.KeyNested
import HandS.TupAny
import HandS.TupMul
import HandS.Deep
import HandS.Wide
import HandS.Flow
import HandS.Zip
import KE.KTupSum
import HandS.ExcOwn
import HandS.WordsExc
import HandS.ExcInit
import HandS.ExcField
import HandS.Defaults
import HandS.More
import HandS.Rev
import KE.GoesEnum
import HandS.Conv
import KE.DataFind
import KE.DatumIndex
import HandS.IsInst
import HandS.RevTup
import HandS.TupSets
import HandS.SetFor
import HandS.Strs
import PyProof.ListRange
import KE.DataMinMax
import KE.KDictDisplayH
import HandS.HeadEnd
import PySem.Challenge.RW_shapeworks_k84_whole_trees_as_tilings
set_option Elab.async false
set_option linter.all false
set_option maxRecDepth 100000
set_option maxHeartbeats 1000000
/-! OwA: data that a def holds (ground data, owned trees), and how they lie in the abstract heap. -/
namespace Ow
open PySem PySem.Spec PyProof.Rows L2

abbrev Fg := PySem.W.Frag

/-! ### ground data: None, bools, ints, texts, tuples of them -/
mutual
inductive Gp (K : Fg) (H : Hp) : V → PyData → Prop
  | non : Gp K H .non .none
  | bl (b : Bool) : Gp K H (.bl b) (.bool b)
  | int (i : Int) : Gp K H (.int i) (.int i)
  | str (x : Str) : Gp K H (.str x) (.str x)
  | tup {a : Addr} {vs : List V} {ds : List PyData} : H a = some (.tup vs) → GpAll K H vs ds → Gp K H (.ref a) (.tuple ds)
inductive GpAll (K : Fg) (H : Hp) : List V → List PyData → Prop
  | nil : GpAll K H [] []
  | cons {v : V} {vs : List V} {d : PyData} {ds : List PyData} : Gp K H v d → GpAll K H vs ds → GpAll K H (v :: vs) (d :: ds)
end

/-- what is never written: tuples, what is known as an object with a list or a tuple -/
def Imm : HO → Bool
  | .tup _ => true
  | .frz _ (.tup _) => true
  | .frz _ (.lst _) => true
  | _ => false
/-- what is never written stays -/
def Tk (H H' : Hp) : Prop := ∀ a o, H a = some o → Imm o = true → H' a = some o
theorem Tk.refl (H : Hp) : Tk H H := fun _ _ h _ => h
theorem Tk.trans {H H1 H2 : Hp} (a : Tk H H1) (b : Tk H1 H2) : Tk H H2 := fun c vs h i => b c vs (a c vs h i) i
theorem Tk.same {H H' : Hp} (s : Same H H') : Tk H H' := fun a o h _ => s _ _ h
theorem Tk.sqT {K : Fg} {H H' : Hp} {a : Addr} {vs : List V} (t : Tk H H') (h : SqT K H a vs) : SqT K H' a vs := by
  rcases h with (h | ⟨o, h⟩) | h
  · exact .inl (.inl (t _ _ h rfl))
  · exact .inl (.inr ⟨o, t _ _ h rfl⟩)
  · exact .inr h
mutual
theorem Gp.frame {K : Fg} {H H' : Hp} (t : Tk H H') : ∀ (d : PyData) (v : V), Gp K H v d → Gp K H' v d
  | .none, _, h => by cases h; exact .non
  | .bool b, _, h => by cases h; exact .bl b
  | .int i, _, h => by cases h; exact .int i
  | .str x, _, h => by cases h; exact .str x
  | .list _, _, h => by cases h
  | .tuple ds, _, h => by
    cases h with
    | tup h1 h2 => exact .tup (t _ _ h1 rfl) (GpAll.frame t ds _ h2)
  | .dict _, _, h => by cases h
theorem GpAll.frame {K : Fg} {H H' : Hp} (t : Tk H H') : ∀ (ds : List PyData) (vs : List V), GpAll K H vs ds → GpAll K H' vs ds
  | [], _, h => by cases h; exact .nil
  | d :: ds, _, h => by
    cases h with
    | cons h1 h2 => exact .cons (Gp.frame t d _ h1) (GpAll.frame t ds _ h2)
end
mutual
theorem Gp.dp {K : Fg} {H : Hp} : ∀ (d : PyData) (v : V), Gp K H v d → Dp K H v d
  | .none, _, h => by cases h; exact .non
  | .bool b, _, h => by cases h; exact .bl b
  | .int i, _, h => by cases h; exact .int i
  | .str x, _, h => by cases h; exact .str x
  | .list _, _, h => by cases h
  | .tuple ds, _, h => by
    cases h with
    | tup h1 h2 => exact .tup (SqT.of h1) (GpAll.dp ds _ h2)
  | .dict _, _, h => by cases h
theorem GpAll.dp {K : Fg} {H : Hp} : ∀ (ds : List PyData) (vs : List V), GpAll K H vs ds → DpAll K H vs ds
  | [], _, h => by cases h; exact .nil
  | d :: ds, _, h => by
    cases h with
    | cons h1 h2 => exact .cons (Gp.dp d _ h1) (GpAll.dp ds _ h2)
end
theorem GpAll.length {K : Fg} {H : Hp} : ∀ {ds : List PyData} {vs : List V}, GpAll K H vs ds → vs.length = ds.length
  | [], _, h => by cases h; rfl
  | d :: ds, _, h => by
    cases h with
    | cons h1 h2 => simp [GpAll.length h2]
theorem GpAll.get {K : Fg} {H : Hp} : ∀ {ds : List PyData} {vs : List V} {i : Nat} {d : PyData}, GpAll K H vs ds → ds[i]? = some d → ∃ v, vs[i]? = some v ∧ Gp K H v d
  | [], _, _, _, h, e => by simp at e
  | d :: ds, _, 0, _, h, e => by
    cases h with
    | cons h1 h2 => simp at e; subst e; exact ⟨_, rfl, h1⟩
  | d :: ds, _, i + 1, _, h, e => by
    cases h with
    | cons h1 h2 =>
      obtain ⟨v, e1, e2⟩ := GpAll.get (i := i) h2 (by simpa using e)
      exact ⟨v, by simpa using e1, e2⟩
theorem GpAll.app {K : Fg} {H : Hp} : ∀ {ds es : List PyData} {vs ws : List V}, GpAll K H vs ds → GpAll K H ws es → GpAll K H (vs ++ ws) (ds ++ es)
  | [], _, _, _, h, g => by cases h; exact g
  | d :: ds, _, _, _, h, g => by
    cases h with
    | cons h1 h2 => exact .cons h1 (GpAll.app h2 g)
theorem GpAll.take {K : Fg} {H : Hp} : ∀ {ds : List PyData} {vs : List V} (n : Nat), GpAll K H vs ds → GpAll K H (vs.take n) (ds.take n)
  | [], _, n, h => by cases h; simp; exact .nil
  | d :: ds, _, 0, h => by simp; exact .nil
  | d :: ds, _, n + 1, h => by
    cases h with
    | cons h1 h2 => exact .cons h1 (GpAll.take n h2)
theorem GpAll.drop {K : Fg} {H : Hp} : ∀ {ds : List PyData} {vs : List V} (n : Nat), GpAll K H vs ds → GpAll K H (vs.drop n) (ds.drop n)
  | [], _, n, h => by cases h; simp; exact .nil
  | d :: ds, _, 0, h => by simpa using h
  | d :: ds, _, n + 1, h => by
    cases h with
    | cons h1 h2 => exact GpAll.drop n h2
end Ow

set_option Elab.async false
set_option linter.all false
set_option maxRecDepth 100000
set_option maxHeartbeats 1000000
/-! OwN0: dicts whose keys are tuples of numbers, None and such tuples. -/
namespace Ow
open PySem PySem.Spec PyProof.Rows L2
/-! ### keys without texts: their hash is every world's -/
mutual
def noTx : NestedKey → Bool
  | .text _ => false
  | .tup ks => noTxs ks
  | _ => true
def noTxs : List NestedKey → Bool
  | [] => true
  | k :: ks => noTx k && noTxs ks
end
mutual
theorem hash_w (w w' : World) : ∀ k : NestedKey, noTx k = true → k.hash w = k.hash w'
  | .none, _ => by simp only [NestedKey.hash]
  | .num i, _ => by simp only [NestedKey.hash]
  | .text _, h => by simp [noTx] at h
  | .tup ks, h => by
    simp only [noTx] at h
    simp only [NestedKey.hash]
    rw [hashes_w w w' ks h]
theorem hashes_w (w w' : World) : ∀ ks : List NestedKey, noTxs ks = true → NestedKey.hashes w ks = NestedKey.hashes w' ks
  | [], _ => by simp only [NestedKey.hashes]
  | k :: ks, h => by
    simp only [noTxs, Bool.and_eq_true] at h
    simp only [NestedKey.hashes]
    rw [hash_w w w' k h.1, hashes_w w w' ks h.2]
end
/-- key, its tuple, value -/
abbrev NE := NestedKey × Addr × V
abbrev NW := NestedKey × Addr × Value
def entW (w : World) (x : NW) : DictEntry := ⟨x.1.hash w, .ref x.2.1, x.2.2⟩
def NkP (p : NE) (q : NW) : Prop := p.1 = q.1 ∧ p.2.1 = q.2.1 ∧ RelV p.2.2 q.2.2
def NkAt (a : Addr) (es : List NE) (h : Heap) : Prop := es.length ≤ sizeLine ∧ (a == sysModules) = false ∧ ∃ xs : List NW, Paired NkP es xs ∧
  ∃ (o : Obj) (zs : Array DictEntry) (ep : Nat), h.get? a = some o ∧ o.ExactDict ∧ o.data = .dict zs ep ∧ (∀ w, zs.toList = xs.map (entW w)) ∧ (xs.map (·.1)).Nodup
def NkO (a : Addr) (es : List NE) : HO := .ext (NkAt a es)
theorem nkO_inj {a : Addr} {es : List NE} {h : Heap} {P : Program} {w : World} {H : Hp} (x : ObjOk P w H h a (NkO a es)) : NkAt a es h := x.1
theorem nkO_ok {a : Addr} {es : List NE} {h : Heap} {P : Program} {w : World} {H : Hp} (x : NkAt a es h) : ObjOk P w H h a (NkO a es) :=
  ⟨x, let ⟨_, _, _, _, o, _, _, e, _⟩ := x; ⟨o, e⟩, fun h1 h2 ⟨q1, q2, xs, q3, o, zs, ep, q4, q5⟩ k => ⟨q1, q2, xs, q3, o, zs, ep, k o q4, q5⟩⟩
/-- the keys stand as tuples -/
def NkK (K : Fg) (H : Hp) (k : NestedKey) (b : Addr) : Prop := Gp K H (.ref b) k.data ∧ k.depth ≤ 8 ∧ noTx k = true
def NkKs (K : Fg) (H : Hp) (es : List NE) : Prop := ∀ e ∈ es, NkK K H e.1 e.2.1
theorem NkK.frame {K : Fg} {H H' : Hp} {k : NestedKey} {b : Addr} (h : NkK K H k b) (t : Tk H H') : NkK K H' k b := ⟨h.1.frame t, h.2⟩
theorem NkKs.frame {K : Fg} {H H' : Hp} {es : List NE} (h : NkKs K H es) (t : Tk H H') : NkKs K H' es := fun e m => (h e m).frame t
section
variable {X : Cx} {pins : List (Addr × Obj)} {σ : L2.St} {H : Hp} {s : Shared}
mutual
theorem gp_nested (I : Inv X pins σ H s) : ∀ (k : NestedKey) (v : V) (u : Value), Gp X.K H v k.data → RelV v u → NestedIs s.heap k u
  | .none, v, u, g, r => by
    simp only [NestedKey.data] at g
    cases g
    cases (show u = Value.none from r)
    exact .none
  | .num i, v, u, g, r => by
    simp only [NestedKey.data] at g
    cases g
    obtain ⟨t, rfl⟩ := (show ∃ t, u = Value.int i t from r)
    exact .int i t
  | .text x, v, u, g, r => by
    simp only [NestedKey.data] at g
    cases g
    obtain ⟨t, rfl⟩ := (show ∃ t, u = Value.str x t from r)
    exact .text x t
  | .tup ks, v, u, g, r => by
    simp only [NestedKey.data] at g
    cases g with
    | @tup a vs _ h1 h2 =>
      obtain rfl : u = Value.ref a := r
      obtain ⟨_, its, rv, o, e, c, n, d⟩ := I.hok a _ h1
      exact .tup e c d (gp_nesteds I ks vs its h2 rv)
theorem gp_nesteds (I : Inv X pins σ H s) : ∀ (ks : List NestedKey) (vs : List V) (us : List Value), GpAll X.K H vs (NestedKey.datas ks) → Vals vs us → NestedAll s.heap ks us
  | [], vs, us, g, r => by
    simp only [NestedKey.datas] at g
    cases g
    cases r
    exact .nil
  | k :: ks, vs, us, g, r => by
    simp only [NestedKey.datas] at g
    cases g with
    | cons g1 g2 =>
      cases r with
      | cons r1 r2 => exact .cons (gp_nested I k _ _ g1 r1) (gp_nesteds I ks _ _ g2 r2)
end
theorem NkK.is (I : Inv X pins σ H s) {k : NestedKey} {b : Addr} (h : NkK X.K H k b) : (nestedKind X.prog X.w).is s.heap k b := ⟨gp_nested I k _ _ h.1 rfl, h.2.1⟩
theorem nk_dict (I : Inv X pins σ H s) {a : Addr} {es : List NE} (e : Rd H a (NkO a es)) (hk : NkKs X.K H es) : es.length ≤ sizeLine ∧ (a == sysModules) = false ∧
    ∃ xs : List NW, Paired NkP es xs ∧ s.heap.DictOfH (nestedKind X.prog X.w) a xs := by
  obtain ⟨z, hd, xs, r, o, zs, ep, h1, h2, h3, h4, h5⟩ := nkO_inj (rd_of I.hok e)
  refine ⟨z, hd, xs, r, o, zs, ep, h1, h2, h3, h4 X.w, ?_, h5⟩
  clear h4 h5 z e
  induction r with
  | nil => exact fun x hx => nomatch hx
  | @cons p q ps qs hq t ih =>
    intro x hx
    rcases List.mem_cons.mp hx with rfl | hx
    · have := NkK.is I (hk p List.mem_cons_self)
      rw [hq.1, hq.2.1] at this
      exact this
    · exact ih (fun e m => hk e (List.mem_cons_of_mem _ m)) x hx
end
/-- keys and values -/
def kvN (es : List NE) : List (NestedKey × V) := es.map fun e => (e.1, e.2.2)
def atNk (xs : List NW) (k : NestedKey) : Option Value := (atKey xs k).map (·.2)
theorem atKey_cons {x : NW} {xs : List NW} {k : NestedKey} : atKey (x :: xs) k = if x.1 = k then some x.2 else atKey xs k := by
  unfold atKey
  rw [List.find?_cons]
  by_cases h : x.1 = k
  · rw [if_pos h, decide_eq_true h]; rfl
  · rw [if_neg h, decide_eq_false h]
theorem valV_cons {κ : Type} [DecidableEq κ] {kv : κ × V} {kvs : List (κ × V)} {k : κ} : valV (kv :: kvs) k = if kv.1 = k then some kv.2 else valV kvs k := by
  unfold valV
  rw [List.find?_cons]
  by_cases h : kv.1 = k
  · rw [if_pos h, decide_eq_true h]; rfl
  · rw [if_neg h, decide_eq_false h]
theorem nk_val {es : List NE} {xs : List NW} (r : Paired NkP es xs) (k : NestedKey) : RelO (valV (kvN es) k) (atNk xs k) := by
  induction r with
  | nil => exact True.intro
  | @cons p q ps qs hq t ih =>
    unfold atNk kvN
    rw [List.map_cons, valV_cons, atKey_cons, ← hq.1]
    by_cases h : p.1 = k
    · rw [if_pos h, if_pos h]
      exact hq.2.2
    · rw [if_neg h, if_neg h]
      exact ih
/-- d[k] = v: an equal key stays -/
def putN (es : List NE) (k : NestedKey) (b : Addr) (v : V) : List NE := if (es.any fun e => decide (e.1 = k)) = true then es.map (fun e => if e.1 = k then (e.1, e.2.1, v) else e) else es ++ [(k, b, v)]
theorem putN_len (es : List NE) (k : NestedKey) (b : Addr) (v : V) : (putN es k b v).length ≤ es.length + 1 := by
  unfold putN
  split
  · rw [List.length_map]; omega
  · rw [List.length_append]; simp
theorem nk_any {es : List NE} {xs : List NW} (r : Paired NkP es xs) (k : NestedKey) : (es.any fun e => decide (e.1 = k)) = (atKey xs k).isSome := by
  induction r with
  | nil => rfl
  | @cons p q ps qs hq t ih =>
    rw [List.any_cons, atKey_cons, hq.1, ih]
    by_cases h : q.1 = k
    · rw [if_pos h, decide_eq_true h]; rfl
    · rw [if_neg h, decide_eq_false h]; rfl
theorem nk_put {es : List NE} {xs : List NW} (r : Paired NkP es xs) (k : NestedKey) (b : Addr) {v : V} {u : Value} (rv : RelV v u) : Paired NkP (putN es k b v) (storedH xs k b u) := by
  unfold putN storedH
  rw [nk_any r]
  by_cases q : (atKey xs k).isSome = true
  · rw [if_pos q, if_pos q]
    clear q
    induction r with
    | nil => exact .nil
    | @cons p q ps qs hq t ih =>
      rw [List.map_cons, List.map_cons]
      refine .cons ?_ ih
      unfold putAt
      rw [hq.1]
      by_cases h : q.1 = k
      · rw [if_pos h, if_pos h]
        exact ⟨h ▸ rfl, hq.2.1, rv⟩
      · rw [if_neg h, if_neg h]
        exact hq
  · rw [if_neg q, if_neg q]
    exact Paired.snoc r ⟨rfl, rfl, rv⟩
/-! ### reading and writing -/
def NGet (K : Fg) (H : Hp) (a : Addr) (y : V) (r : Option V) : Prop := ∃ (es : List NE) (k : NestedKey) (b : Addr), Rd H a (NkO a es) ∧ NkKs K H es ∧ y = .ref b ∧ NkK K H k b ∧ r = valV (kvN es) k
def NPut (K : Fg) (H : Hp) (a : Addr) (y v : V) (H' : Hp) : Prop := ∃ (es : List NE) (k : NestedKey) (b : Addr), H a = some (NkO a es) ∧ NkKs K H es ∧ y = .ref b ∧ NkK K H k b ∧ es.length < sizeLine ∧ H' = upd H a (NkO a (putN es k b v))
/-- by any dict -/
def GetU (K : Fg) (H : Hp) (a : Addr) (y : V) (r : Option V) : Prop := DGet H a y r ∨ NGet K H a y r
def PutU (K : Fg) (H : Hp) (a : Addr) (y v : V) (H' : Hp) : Prop := DPut H a y v H' ∨ NPut K H a y v H'
def IsU (H : Hp) (a : Addr) : Prop := IsD H a ∨ ∃ es, Rd H a (NkO a es)
section
variable {X : Cx} {pins : List (Addr × Obj)} {σ : L2.St} {H : Hp} {s : Shared} {a : Addr} {y v d : V} {u r : Value} {o : Option V} {A : Around} {E : Value → Shared → Prop}
theorem u_at (I : Inv X pins σ H s) (d : IsU H a) : s.TypeIs (.ref a) "dict" ∧ (∀ b, Value.ref a = .ref b → ∃ ob, s.heap.get? b = some ob ∧ ob.dict = none) ∧ (a == sysModules) = false := by
  rcases d with d | ⟨es, e⟩
  · exact isD_at I d
  · obtain ⟨_, hd, _, _, o, _, _, h1, h2, _⟩ := nkO_inj (rd_of I.hok e)
    exact ⟨⟨o, h1, h2.1⟩, fun b q => by cases q; exact ⟨o, h1, h2.2.1⟩, hd⟩
theorem GetU.isU {K : Fg} (g : GetU K H a y o) : IsU H a := by
  rcases g with (⟨kvs, _, e, _⟩ | ⟨kvs, _, _, e, _⟩) | ⟨es, _, _, e, _⟩
  · exact .inl (.inl ⟨_, e⟩)
  · exact .inl (.inr ⟨_, e⟩)
  · exact .inr ⟨_, e⟩
theorem u1 (hu : A.units + 64 < cLine) : A.units + 1 < cLine := by omega
theorem nkRoom (hu : A.units + 64 < cLine) : (nestedKind X.prog X.w).room A.in1 := show A.units + 1 + 8 < cLine by omega
theorem u_getItem {Q : Value → Shared → Prop} (hu : A.units + 64 < cLine) (I : Inv X pins σ H s) (g : GetU X.K H a y (some v)) (ry : RelV y u) (h : ∀ w' s', Inv X pins σ H s' → RelV v w' → Q w' s') :
    wpAny (model X.prog X.w) A (getItem (.ref a) u) Q E s := by
  rcases g with g | ⟨es, k, b, e, hk, rfl, kb, l⟩
  · exact d_getItem (u1 hu) I g ry h
  · obtain rfl : u = Value.ref b := ry
    obtain ⟨_, hd, xs, rel, dd⟩ := nk_dict I e hk
    obtain ⟨w', hw, rw'⟩ := RelO.some_of (v := v) (o := atNk xs k) (by rw [l]; exact nk_val rel k)
    obtain ⟨p, hp, rfl⟩ := Option.map_eq_some_iff.mp hw
    exact wpAny_getItem_heap (nkRoom hu) (kb.is I) dd hp (h p.2 _ (I.tok _) rw')
theorem u_in {Q : Value → Shared → Prop} (hu : A.units + 64 < cLine) (I : Inv X pins σ H s) (g : GetU X.K H a y o) (ry : RelV y u) (h : ∀ s', Inv X pins σ H s' → Q (.bool o.isSome) s') :
    wpAny (model X.prog X.w) A (compareOp .In u (.ref a)) Q E s := by
  rcases g with g | ⟨es, k, b, e, hk, rfl, kb, l⟩
  · exact d_in (u1 hu) I g ry h
  · obtain rfl : u = Value.ref b := ry
    obtain ⟨_, hd, xs, rel, dd⟩ := nk_dict I e hk
    have q := (nk_val rel k).isSome_eq
    unfold atNk at q
    rw [Option.isSome_map, ← l] at q
    exact wpAny_in_heap (nkRoom hu) (kb.is I) hd dd (by rw [← q]; exact h _ (I.tok _))
theorem u_notIn {Q : Value → Shared → Prop} (hu : A.units + 64 < cLine) (I : Inv X pins σ H s) (g : GetU X.K H a y o) (ry : RelV y u) (h : ∀ s', Inv X pins σ H s' → Q (.bool (!o.isSome)) s') :
    wpAny (model X.prog X.w) A (compareOp .NotIn u (.ref a)) Q E s := by
  rcases g with g | ⟨es, k, b, e, hk, rfl, kb, l⟩
  · exact d_notIn (u1 hu) I g ry h
  · obtain rfl : u = Value.ref b := ry
    obtain ⟨_, hd, xs, rel, dd⟩ := nk_dict I e hk
    have q := (nk_val rel k).isSome_eq
    unfold atNk at q
    rw [Option.isSome_map, ← l] at q
    exact wpAny_notIn_heap (nkRoom hu) (kb.is I) hd dd (by rw [← q]; exact h _ (I.tok _))
theorem u_setItem {H' : Hp} {Q : Unit → Shared → Prop} (hu : A.units + 64 < cLine) (I : Inv X pins σ H s) (g : PutU X.K H a y v H') (ry : RelV y u) (rv : RelV v r) (h : ∀ s', Inv X pins σ H' s' → Q () s') :
    wpAny (model X.prog X.w) A (setItem (.ref a) u r) Q E s := by
  rcases g with g | ⟨es, k, b, e, hk, rfl, kb, l, rfl⟩
  · exact d_setItem (u1 hu) I g ry rv h
  · obtain rfl : u = Value.ref b := ry
    obtain ⟨z, hd, xs, rel, dd⟩ := nk_dict I (.inl e) hk
    obtain ⟨_, _, xs0, rel0, o0, zs0, ep0, g1, g2, g3, g4, g5⟩ := nkO_inj (I.hok a _ e)
    have hz : xs.length ≤ sizeLine := by rw [← Paired.length rel]; exact z
    refine wpAny_setItem_heap (hsz := hz) (nkRoom hu) (kb.is I) dd fun h' dd' hs => h _ ?_
    obtain ⟨q, zs, ep, hq, h2, h3, h4, _, h5⟩ := dd'
    refine d_write I (by rw [e]; exact True.intro) hs ⟨q, hq⟩ (nkO_ok ⟨Nat.le_trans (putN_len es k b v) l, hd, _, nk_put rel k b rv, q, zs, ep, hq, h2, h3, fun w => ?_, h5⟩)
    have h4 : zs.toList = (storedH xs k b r).map (entW X.w) := h4
    rw [h4]
    refine List.map_congr_left fun x mx => ?_
    have hx1 : noTx x.1 = true := by
      have q := nk_put rel k b rv
      have all : ∀ e ∈ putN es k b v, noTx e.1 = true := fun e m => by
        unfold putN at m
        split at m
        · obtain ⟨e0, m0, rfl⟩ := List.mem_map.mp m
          split
          · exact (hk e0 m0).2.2
          · exact (hk e0 m0).2.2
        · rcases List.mem_append.mp m with m | m
          · exact (hk e m).2.2
          · rw [List.mem_singleton.mp m]; exact kb.2.2
      generalize putN es k b v = A0 at q all
      generalize storedH xs k b r = B0 at q mx
      clear h4 h5
      induction q with
      | nil => exact nomatch mx
      | @cons p q ps qs hq t ih =>
        rcases List.mem_cons.mp mx with rfl | mx
        · rw [← hq.1]; exact all p List.mem_cons_self
        · exact ih (fun e m => all e (List.mem_cons_of_mem _ m)) mx
    unfold entW
    rw [hash_w X.w w x.1 hx1]
theorem u_get2 {Q : Value → Shared → Prop} (hu : A.units + 64 < cLine) (I : Inv X pins σ H s) (g : GetU X.K H a y o) (ry : RelV y u) (rd : RelV d r) (h : ∀ w' s', Inv X pins σ H s' → RelV (o.getD d) w' → Q w' s') :
    wpAny (model X.prog X.w) A (call (.builtin "dict.get") [.ref a, u, r]) Q E s := by
  rcases g with g | ⟨es, k, b, e, hk, rfl, kb, l⟩
  · exact d_get2 (u1 hu) I g ry rd h
  · obtain rfl : u = Value.ref b := ry
    obtain ⟨_, hd, xs, rel, dd⟩ := nk_dict I e hk
    refine call_meetsIn PySem.F.slot_dict_get dd.typeIs PySem.F.entry_dict_get (PySem.F.args_dict_get_3 _ _ _) (meetsH_dict_get_default (nestedKind X.prog X.w) a b hd r) ⟨nkRoom hu, k, xs, kb.is I, dd, h _ _ (I.tok _) ?_⟩
    rw [l]
    exact (nk_val rel k).getD rd
end
/-! ### readings -/
def rSetU (K : Fg) : TSet := fun o i v H Q => ∃ a H', o = .ref a ∧ PutU K H a i v H' ∧ Q H'
theorem set_u {X : Cx} (hu : X.A.units + 64 < cLine) : PSet X (rSetU X.K) := by
  intro pins s σ H o i v ov iv u Q I ro ri rv ⟨a, H', eo, g, q⟩
  subst eo
  obtain rfl : ov = Value.ref a := ro
  exact u_setItem hu I g ri rv fun s' I' => ⟨H', I', q⟩
def tGetU (K : Fg) (td ty tx : TE) : TE := fun σ H Q => td σ H fun x H1 => ∃ a, x = .ref a ∧ IsU H1 a ∧ ty σ H1 fun y H2 => tx σ H2 fun z H3 => ∃ o, GetU K H3 a y o ∧ Q (o.getD z) H3
theorem pe_getU {X : Cx} {o e f : Expr} {apos cpos : Pos} {td ty tx : TE} (hu : X.A.units + 64 < cLine) (ho : PE X o td) (he : PE X e ty) (hf : PE X f tx) (m : M2 X o "get" apos e f cpos) : PE X (.Call (.Attribute o "get" apos) [e, f] [] cpos) (tGetU X.K td ty tx) := by
  refine ⟨fun pins s σ H Q I h => wpAny_Call_method m.base m.few m.line PySem.F.plainAttrs_dict PySem.F.slot_dict_get PySem.F.type_dict_get (thn (ho.run pins s σ H _ I h) fun u s1 ⟨x, H1, I1, rx, a, ex, d, q1⟩ => ?_)⟩
  subst ex
  obtain rfl : u = Value.ref a := rx
  obtain ⟨t1, t2, _⟩ := u_at I1 d
  refine ⟨t1, t2, ?_⟩
  rw [m.trees]
  refine Calls.callWith_builtin rfl (Calls.evalArgs_plain (Calls.spliced_cons ?_))
  refine thn (he.run pins s1 σ H1 _ I1 q1) fun iv s2 ⟨y, H2, I2, ry, q2⟩ => Calls.spliced_cons ?_
  refine thn (hf.run pins s2 σ H2 _ I2 q2) fun fv s3 ⟨z, H3, I3, rz, ov, g, q3⟩ => Calls.spliced_nil ?_
  exact u_get2 hu I3 g ry rz fun w' s4 I4 rw' => ⟨_, H3, I4, rw', q3⟩
end Ow

set_option Elab.async false
set_option linter.all false
set_option maxRecDepth 100000
set_option maxHeartbeats 1000000
/-! OwN1: loops over the keys and the items of such a dict, while it is locked. -/
namespace Ow
open PySem PySem.Spec PyProof.Rows L2
section
variable {X : Cx} {pins : List (Addr × Obj)} {σ : L2.St} {H : Hp} {s : Shared} {d : Addr} {o : Obj}
theorem nkp_get : ∀ {es : List NE} {xs : List NW}, Paired NkP es xs → ∀ {i : Nat} {e : NE}, es[i]? = some e → ∃ x, xs[i]? = some x ∧ NkP e x
  | _, _, .nil, i, e, h => by simp at h
  | _, _, .cons r t, 0, e, h => by
    simp only [List.getElem?_cons_zero, Option.some.injEq] at h
    subst h
    exact ⟨_, rfl, r⟩
  | _, _, .cons r t, i + 1, e, h => by
    simp only [List.getElem?_cons_succ] at h ⊢
    exact nkp_get t h
theorem frzN {es : List NE} (I : Inv X pins σ H s) (h : H d = some (.frz o (NkO d es))) : (d == sysModules) = false ∧ s.heap.get? d = some o ∧ o.ExactDict ∧
    ∃ (zs : Array DictEntry) (ep : Nat), o.data = .dict zs ep ∧ zs.size = es.length ∧ ∀ (i : Nat) (e : NE), es[i]? = some e → ∃ en, zs[i]? = some en ∧ en.key = .ref e.2.1 ∧ RelV e.2.2 en.val := by
  obtain ⟨e1, x⟩ := I.hok d _ h
  obtain ⟨_, hd, xs, r, o', zs, ep, h1, h2, h3, h4, _⟩ := nkO_inj (P := X.prog) (w := X.w) (H := H) x
  rw [e1] at h1
  cases h1
  have h4 := h4 X.w
  refine ⟨hd, e1, h2, zs, ep, h3, ?_, fun i e he => ?_⟩
  · rw [← Array.length_toList, h4, List.length_map, Paired.length r]
  · obtain ⟨x, hx, q⟩ := nkp_get r he
    refine ⟨entW X.w x, ?_, ?_, q.2.2⟩
    · rw [← Array.getElem?_toList, h4, List.getElem?_map, hx]; rfl
    · show Value.ref x.2.1 = _
      rw [q.2.1]
end
/-- the keys: their own tuples -/
def ItU (d : Addr) (o : Obj) (es : List NE) : It :=
  ⟨fun i H => H d = some (.frz o (NkO d es)) ∧ i < es.length, fun i H x H' => H' = H ∧ ∃ e, es[i]? = some e ∧ x = .ref e.2.1, fun i H => H d = some (.frz o (NkO d es)) ∧ es.length ≤ i⟩
/-- the pairs, each laid anew -/
def ItP (d : Addr) (o : Obj) (es : List NE) : It :=
  ⟨fun i H => H d = some (.frz o (NkO d es)) ∧ i < es.length, fun i H x H' => ∃ T e, es[i]? = some e ∧ x = .ref T ∧ H T = none ∧ H' = upd H T (.tup [.ref e.2.1, e.2.2]), fun i H => H d = some (.frz o (NkO d es)) ∧ es.length ≤ i⟩
section
variable {P : Program} {w : World} {K : PySem.W.Frag} {tg : Expr} {d : Addr} {o : Obj} {zs : Array DictEntry} {ep : Nat}
theorem data_dict {o : Obj} {a b : Array DictEntry} {m n : Nat} (h : o.data = .dict a m) (h' : o.data = .dict b n) : b = a ∧ n = m := by
  rw [h] at h'; cases h'; exact ⟨rfl, rfl⟩
theorem turn_keysU {es : List NE} (it : Addr) (hod : o.data = .dict zs ep) : Turn P w K tg (ItU d o es) [it] it (fun i h => h.IsKeyIter it d i es.length ep) where
  mem := List.mem_singleton.mpr rfl
  obj := fun i h ⟨oi, e, c, dd⟩ b hb => by
    obtain rfl := List.mem_singleton.mp hb
    exact ⟨oi, e, fun v z => by rw [dd] at z; cases z⟩
  keep := fun i h h' st k => st.at fun oi e => k it (List.mem_singleton.mpr rfl) oi e
  item := by
    rintro X rfl rfl rfl hc i pins s σ H E I hf st ⟨hd, hi⟩
    obtain ⟨f0, f1, f2, f3, f4, f5⟩ := hf it (List.mem_singleton.mpr rfl)
    obtain ⟨_, hgd, _, zs', ep', hdt, hsz, ent⟩ := frzN I hd
    obtain ⟨rfl, rfl⟩ := data_dict hod hdt
    have he := List.getElem?_eq_getElem hi
    obtain ⟨en, hen, hkey, hval⟩ := ent i _ he
    refine next_key_item st hgd hdt hsz hen fun h' st' sb => ?_
    obtain ⟨oi, e, c, dd⟩ := id st'
    have I1 : Inv X pins σ H { s with heap := h' } := I.turned (t' := s.toks) (fun b ob hb e => (sb.2 b hb).trans e) f0 f1 f3 f4 f5
    exact ⟨en.key, rfl, go_of (s := { s with heap := h' }) e c dd (by decide) ⟨.ref es[i].2.1, H, I1, hkey, ⟨rfl, _, he, rfl⟩, st', fun b hb => (hf b hb).1⟩⟩
  done := by
    rintro X rfl rfl rfl hc i pins s σ H E I hf st ⟨hd, hi⟩
    obtain ⟨f0, f1, f2, f3, f4, f5⟩ := hf it (List.mem_singleton.mpr rfl)
    obtain ⟨_, hgd, _, zs', ep', hdt, hsz, _⟩ := frzN I hd
    obtain ⟨rfl, rfl⟩ := data_dict hod hdt
    exact next_key_end (I.ok.hd hc) st hgd hdt hsz hi fun h' eb => ⟨rfl, I.turned (t' := s.toks) (fun b ob hb e => eb b ob hb e) f0 f1 f3 f4 f5⟩
  self := fun A i s Q E st h => wpAny_pyIter_keyiter st h
theorem turn_itemsU {es : List NE} {elts : List Expr} {kk : Nat} {tpos : Pos} (it : Addr) (hod : o.data = .dict zs ep) : Turn P w K (.Tuple elts kk tpos) (ItP d o es) [it] it (fun i h => ∃ ok ov, IsItemIter h it d i es.length ep ok ov) where
  mem := List.mem_singleton.mpr rfl
  obj := fun i h ⟨ok, ov, e⟩ b hb => by
    obtain rfl := List.mem_singleton.mp hb
    exact ⟨_, e, fun v z => nomatch z⟩
  keep := fun i h h' ⟨ok, ov, e⟩ k => ⟨ok, ov, k it (List.mem_singleton.mpr rfl) _ e⟩
  item := by
    rintro X rfl rfl rfl hc i pins s σ H E I hf ⟨ok, ov, st⟩ ⟨hd, hi⟩
    obtain ⟨f0, f1, f2, f3, f4, f5⟩ := hf it (List.mem_singleton.mpr rfl)
    obtain ⟨_, hgd, hx, zs', ep', hdt, hsz, ent⟩ := frzN I hd
    obtain ⟨rfl, rfl⟩ := data_dict hod hdt
    have he := List.getElem?_eq_getElem hi
    obtain ⟨en, hen, hkey, hval⟩ := ent i _ he
    have hi' : i < zs'.size := by rw [hsz]; exact hi
    rw [Array.getElem?_eq_getElem hi'] at hen
    have hen : zs'[i] = en := Option.some.inj hen
    have hlt : it < s.heap.objs.size := Heap.lt_size st
    rw [← hsz] at st
    refine DT.nextI st ⟨o, hgd, hx, hdt⟩ hi' fun h' ho hT hz hk => ?_
    rw [hen] at ho hT
    refine ⟨_, rfl, wpAny_letOwnedTupleGo_items (s := { s with heap := h' }) ho fun h2 he' sb => ?_⟩
    have hT2 := (sb.2 _ (Nat.ne_of_gt hlt)).trans hT
    have new : ObjOk X.prog X.w (upd H s.heap.objs.size (.tup [.ref es[i].2.1, es[i].2.2])) h2 s.heap.objs.size (.tup [.ref es[i].2.1, es[i].2.2]) :=
      ⟨by show 2 ≤ sizeLine; decide, [en.key, en.val], .cons hkey (.cons hval .nil), ⟨_, hT2, rfl, _, rfl⟩⟩
    have I1 : Inv X pins σ (upd H s.heap.objs.size (.tup [.ref es[i].2.1, es[i].2.2])) { s with heap := h2 } :=
      I.turnedNew (t' := s.toks) (ch := [it]) (fun b ob hb e => (sb.2 b fun z => hb (List.mem_singleton.mpr z)).trans (hk b ob (fun z => hb (List.mem_singleton.mpr z)) e)) hf (Nat.le_refl _) new
    refine ⟨.ref s.heap.objs.size, _, I1, rfl, ⟨_, _, he, rfl, I.hok.fresh (Nat.le_refl _), rfl⟩, ⟨en.key, en.val, ?_⟩, fun b hb => ?_⟩
    · rw [← hsz]; exact he'
    · obtain rfl := List.mem_singleton.mp hb
      rw [upd_ne (Nat.ne_of_lt hlt)]
      exact f0
  done := by
    rintro X rfl rfl rfl hc i pins s σ H E I hf ⟨ok, ov, st⟩ ⟨hd, hi⟩
    obtain ⟨f0, f1, f2, f3, f4, f5⟩ := hf it (List.mem_singleton.mpr rfl)
    obtain ⟨_, hgd, hx, zs', ep', hdt, hsz, _⟩ := frzN I hd
    obtain ⟨rfl, rfl⟩ := data_dict hod hdt
    rw [← hsz] at st
    exact DT.endI (I.ok.hd hc) st ⟨o, hgd, hx, hdt⟩ (by rw [hsz]; exact hi) fun h' eb => ⟨rfl, I.turned (t' := s.toks) (fun b ob hb e => eb b ob hb e) f0 f1 f3 f4 f5⟩
  self := fun A i s Q E ⟨_, _, e⟩ h => PySem.W.kcp_self e h
end
/-! ### any dict -/
def iKeysA (td : TE) : TI := fun σ H R => td σ H fun x H1 => ∃ d o, x = .ref d ∧ ((∃ kvs, H1 d = some (.frz o (.dK kvs)) ∧ R (Itk d o kvs) H1) ∨ ∃ es, H1 d = some (.frz o (NkO d es)) ∧ R (ItU d o es) H1)
def iItemsA (td : TE) : TI := fun σ H R => td σ H fun x H1 => ∃ d o, x = .ref d ∧ ((∃ kvs, H1 d = some (.frz o (.dK kvs)) ∧ R (Iti d o kvs) H1) ∨ ∃ es, H1 d = some (.frz o (NkO d es)) ∧ R (ItP d o es) H1)
section
variable {X : Cx} {tg e : Expr} {td : TE} {apos cpos : Pos}
theorem pi_keysA (he : PE X e td) : PI X tg e (iKeysA td) := by
  refine ⟨fun pins s σ H R I h => ?_⟩
  refine thn (he.run pins s σ H _ I h) fun u s1 ⟨x, H1, I1, rx, d, o, ex, q⟩ => ?_
  subst ex
  obtain rfl : u = Value.ref d := rx
  rcases q with ⟨kvs, hd, q⟩ | ⟨es, hd, q⟩
  · obtain ⟨hs, hgd, hx, zs, ep, vs, hdt, hsz, _⟩ := I1.frzK hd
    refine iter_keys hs hgd hx hdt (pi_one (tk := s1.toks) I1 _ (turn_keys _ hdt) ⟨_, Heap.get?_push_size _ rfl, rfl, ?_⟩ q)
    rw [hsz] <;> rfl
  · obtain ⟨hs, hgd, hx, zs, ep, hdt, hsz, _⟩ := frzN I1 hd
    refine iter_keys hs hgd hx hdt (pi_one (tk := s1.toks) I1 _ (turn_keysU _ hdt) ⟨_, Heap.get?_push_size _ rfl, rfl, ?_⟩ q)
    rw [hsz] <;> rfl
theorem pi_itemsA {elts : List Expr} {kk : Nat} {tpos : Pos} (he : PE X e td) (hbase : attributeBase e "items" X.env (eval e X.env) = eval e X.env := by rfl) (hline : (apos.endLine == cpos.line) = true := by rfl) :
    PI X (.Tuple elts kk tpos) (.Call (.Attribute e "items" apos) [] [] cpos) (iItemsA td) := by
  refine ⟨fun pins s σ H R I h => wpAny_Call_method (T := "dict") (id := "dict.items") hbase rfl hline F.plainAttrs_dict F.slot_dict_items F.type_dict_items (thn (he.run pins s σ H _ I h) fun u s1 ⟨x, H1, I1, rx, d, o, ex, q⟩ => ?_)⟩
  subst ex
  obtain rfl : u = Value.ref d := rx
  obtain ⟨hs, hgd, hx, zs, ep, hdt, fin⟩ : ∃ (hs : (d == sysModules) = false) (hgd : s1.heap.get? d = some o) (hx : o.ExactDict) (zs : Array DictEntry) (ep : Nat) (hdt : o.data = .dict zs ep),
      wpAny (model X.prog X.w) X.A (pyIter (.ref s1.heap.objs.size)) (PIE X pins σ (.Tuple elts kk tpos) R) X.xe { s1 with heap := s1.heap.push { cls := .type "dict_items", data := .fields #[.ref d] } } := by
    have I2 : Inv X pins σ H1 { s1 with heap := s1.heap.push { cls := .type "dict_items", data := .fields #[.ref d] } } := I1.kept (t' := s1.toks) fun b ob q => Heap.get?_push_of_some _ q
    rcases q with ⟨kvs, hd, q⟩ | ⟨es, hd, q⟩
    · obtain ⟨hs, hgd, hx, zs, ep, vs, hdt, hsz, _⟩ := I1.frzK hd
      refine ⟨hs, hgd, hx, zs, ep, hdt, ?_⟩
      refine DT.iterI ⟨_, Heap.get?_push_size _ rfl, rfl, rfl⟩ (DT.Raw.push ⟨o, hgd, hx, hdt⟩ _) (pi_one (tk := s1.toks) I2 _ (turn_items _ hdt) ⟨.none, .none, ?_⟩ q)
      rw [← hsz]
      exact Heap.get?_push_size _ rfl
    · obtain ⟨hs, hgd, hx, zs, ep, hdt, hsz, _⟩ := frzN I1 hd
      refine ⟨hs, hgd, hx, zs, ep, hdt, ?_⟩
      refine DT.iterI ⟨_, Heap.get?_push_size _ rfl, rfl, rfl⟩ (DT.Raw.push ⟨o, hgd, hx, hdt⟩ _) (pi_one (tk := s1.toks) I2 _ (turn_itemsU _ hdt) ⟨.none, .none, ?_⟩ q)
      rw [← hsz]
      exact Heap.get?_push_size _ rfl
  have hR : DT.Raw s1.heap d zs ep := ⟨o, hgd, hx, hdt⟩
  refine ⟨⟨o, hgd, hx.1⟩, fun b q => by cases q; exact ⟨o, hgd, hx.2.1⟩, ?_⟩
  exact method_meetsIn F.slot_dict_items F.entry_dict_items rfl (PySem.evalArgs_none ⟨rfl, hR.typeIs, F.args_dict_items_1 _, _, DT.meetsItems (es := zs) (ep := ep) hs, ⟨hR, fin⟩⟩)
end
end Ow

set_option Elab.async false
set_option linter.all false
set_option maxRecDepth 100000
set_option maxHeartbeats 1000000
/-! OwA: what a slot holds, and how it lies in the abstract heap. -/
namespace Ow
open PySem PySem.Spec PyProof.Rows L2
/-! ### what a slot holds -/
/-- ground data; a list; a tuple that holds lists; a dict with flat keys; the script (a list of ints that is never written); nothing that may be used -/
inductive D where
  | g (x : PyData)
  | lst (xs : List D)
  | tp (xs : List D)
  | dic (ks : List PyData) (vs : List D)
  | dct (ks : List PyData) (vs : List D)
  | scr (ns : List Int)
  | ft (xs : List PyData)
  | hole

/-- a list that is never written -/
def SqF (K : Fg) (H : Hp) (a : Addr) (vs : List V) : Prop := SqL K H a vs ∧ ∀ H', Tk H H' → SqL K H' a vs
theorem SqF.frame {K : Fg} {H H' : Hp} {a : Addr} {vs : List V} (h : SqF K H a vs) (t : Tk H H') : SqF K H' a vs := ⟨h.2 _ t, fun _ t' => h.2 _ (t.trans t')⟩
def keyD : Key → PyData
  | .inl i => .int i
  | .inr x => .str x

mutual
/-- v is d, its objects at fp; C a o: at a stands o -/
inductive Rel (K : Fg) (H : Hp) (C : Addr → HO → Prop) : V → D → List Addr → Prop
  | g {v : V} {x : PyData} : Gp K H v x → Rel K H C v (.g x) []
  | lst {a : Addr} {vs : List V} {ds : List D} {fp : List Addr} : C a (.lst vs) → RelAll K H C vs ds fp → a ∉ fp → Rel K H C (.ref a) (.lst ds) (a :: fp)
  | tp {a : Addr} {vs : List V} {ds : List D} {fp : List Addr} : SqT K H a vs → RelAll K H C vs ds fp → Rel K H C (.ref a) (.tp ds) fp
  | dic {a : Addr} {kvs : List (Key × V)} {ks : List PyData} {ds : List D} {fp : List Addr} : C a (.dK kvs) → ks = kvs.map (fun kv => keyD kv.1) → RelAll K H C (kvs.map (·.2)) ds fp → a ∉ fp → Rel K H C (.ref a) (.dic ks ds) (a :: fp)
  | dct {a : Addr} {es : List NE} {ks : List PyData} {ds : List D} {fp : List Addr} : C a (NkO a es) → ks = es.map (fun e => e.1.data) → NkKs K H es → RelAll K H C (es.map (·.2.2)) ds fp → a ∉ fp → Rel K H C (.ref a) (.dct ks ds) (a :: fp)
  | scr {a : Addr} {ns : List Int} : SqF K H a (ns.map V.int) → Rel K H C (.ref a) (.scr ns) []
  | ft {a : Addr} {o : Obj} {vs : List V} {xs : List PyData} : H a = some (.frz o (.tup vs)) → o.cls = .type "tuple" → o.dict = none → GpAll K H vs xs → Rel K H C (.ref a) (.ft xs) []
  | hole {v : V} : Rel K H C v .hole []
inductive RelAll (K : Fg) (H : Hp) (C : Addr → HO → Prop) : List V → List D → List Addr → Prop
  | nil : RelAll K H C [] [] []
  | cons {v : V} {vs : List V} {d : D} {ds : List D} {f1 f2 : List Addr} : Rel K H C v d f1 → RelAll K H C vs ds f2 → (∀ b ∈ f1, b ∉ f2) → RelAll K H C (v :: vs) (d :: ds) (f1 ++ f2)
end
/-- owned: it may be written -/
abbrev Own (K : Fg) (H : Hp) : V → D → List Addr → Prop := Rel K H fun a o => H a = some o
abbrev OwnAll (K : Fg) (H : Hp) : List V → List D → List Addr → Prop := RelAll K H fun a o => H a = some o
/-- seen: it may be read -/
def isDic : HO → Bool
  | .dK _ => true
  | .ext _ => true
  | _ => false
def SeeC (H : Hp) (a : Addr) (o : HO) : Prop := H a = some o ∨ ∃ ob, isDic o = true ∧ H a = some (.frz ob o)
theorem SeeC.lst {H : Hp} {a : Addr} {vs : List V} (h : SeeC H a (.lst vs)) : H a = some (.lst vs) := by
  rcases h with h | ⟨_, e, _⟩
  · exact h
  · cases e
theorem SeeC.rd {H : Hp} {a : Addr} {o : HO} (h : SeeC H a o) : Rd H a o := by
  rcases h with h | ⟨ob, _, h⟩
  · exact .inl h
  · exact .inr ⟨ob, h⟩
theorem SeeC.dK {H : Hp} {a : Addr} {kvs : List (Key × V)} (h : SeeC H a (.dK kvs)) : Rd H a (.dK kvs) := h.rd
theorem SeeC.same {H H' : Hp} (s : Same H H') {a : Addr} {o : HO} (h : SeeC H a o) : SeeC H' a o := by
  rcases h with h | ⟨ob, e, h⟩
  · exact .inl (s _ _ h)
  · exact .inr ⟨ob, e, s _ _ h⟩
/-- what may be written -/
def mobj : HO → Bool
  | .lst _ => true
  | .dK _ => true
  | .ext _ => true
  | _ => false
abbrev See (K : Fg) (H : Hp) : V → D → List Addr → Prop := Rel K H (SeeC H)
abbrev SeeAll (K : Fg) (H : Hp) : List V → List D → List Addr → Prop := RelAll K H (SeeC H)

mutual
theorem Rel.frame {K : Fg} {H H' : Hp} {C C' : Addr → HO → Prop} (t : Tk H H') : ∀ (d : D) (v : V) (fp : List Addr), (∀ a ∈ fp, ∀ o, C a o → C' a o) → Rel K H C v d fp → Rel K H' C' v d fp
  | .g x, _, _, _, h => by cases h with | g h => exact .g (Gp.frame t x _ h)
  | .lst ds, _, _, c, h => by
    cases h with
    | lst h1 h2 h3 => exact .lst (c _ List.mem_cons_self _ h1) (RelAll.frame t ds _ _ (fun a m => c a (List.mem_cons_of_mem _ m)) h2) h3
  | .tp ds, _, _, c, h => by
    cases h with
    | tp h1 h2 => exact .tp (t.sqT h1) (RelAll.frame t ds _ _ c h2)
  | .dic ks ds, _, _, c, h => by
    cases h with
    | dic h1 h0 h2 h3 => exact .dic (c _ List.mem_cons_self _ h1) h0 (RelAll.frame t ds _ _ (fun a m => c a (List.mem_cons_of_mem _ m)) h2) h3
  | .dct ks ds, _, _, c, h => by
    cases h with
    | dct h1 h0 hk h2 h3 => exact .dct (c _ List.mem_cons_self _ h1) h0 (hk.frame t) (RelAll.frame t ds _ _ (fun a m => c a (List.mem_cons_of_mem _ m)) h2) h3
  | .scr ns, _, _, c, h => by cases h with | scr h => exact .scr (h.frame t)
  | .ft xs, _, _, c, h => by cases h with | ft h1 h2 h3 h4 => exact .ft (t _ _ h1 rfl) h2 h3 (GpAll.frame t _ _ h4)
  | .hole, _, _, _, h => by cases h; exact .hole
theorem RelAll.frame {K : Fg} {H H' : Hp} {C C' : Addr → HO → Prop} (t : Tk H H') : ∀ (ds : List D) (vs : List V) (fp : List Addr), (∀ a ∈ fp, ∀ o, C a o → C' a o) → RelAll K H C vs ds fp → RelAll K H' C' vs ds fp
  | [], _, _, _, h => by cases h; exact .nil
  | d :: ds, _, _, c, h => by
    cases h with
    | cons h1 h2 h3 => exact .cons (Rel.frame t d _ _ (fun a m => c a (List.mem_append_left _ m)) h1) (RelAll.frame t ds _ _ (fun a m => c a (List.mem_append_right _ m)) h2) h3
end
mutual
/-- what stands at its places -/
theorem Rel.at {K : Fg} {H : Hp} {C : Addr → HO → Prop} : ∀ (d : D) (v : V) (fp : List Addr), Rel K H C v d fp → ∀ a ∈ fp, ∃ o, mobj o = true ∧ C a o
  | .g x, _, _, h => by cases h; simp
  | .lst ds, _, _, h => by
    cases h with
    | lst h1 h2 h3 =>
      intro a m
      rcases List.mem_cons.mp m with e | m
      · subst e; exact ⟨_, rfl, h1⟩
      · exact RelAll.at ds _ _ h2 a m
  | .tp ds, _, _, h => by
    cases h with
    | tp h1 h2 => exact RelAll.at ds _ _ h2
  | .dic ks ds, _, _, h => by
    cases h with
    | dic h1 h0 h2 h3 =>
      intro a m
      rcases List.mem_cons.mp m with e | m
      · subst e; exact ⟨_, rfl, h1⟩
      · exact RelAll.at ds _ _ h2 a m
  | .dct ks ds, _, _, h => by
    cases h with
    | dct h1 h0 hk h2 h3 =>
      intro a m
      rcases List.mem_cons.mp m with e | m
      · subst e; exact ⟨_, rfl, h1⟩
      · exact RelAll.at ds _ _ h2 a m
  | .scr ns, _, _, h => by cases h; simp
  | .ft xs, _, _, h => by cases h; simp
  | .hole, _, _, h => by cases h; simp
theorem RelAll.at {K : Fg} {H : Hp} {C : Addr → HO → Prop} : ∀ (ds : List D) (vs : List V) (fp : List Addr), RelAll K H C vs ds fp → ∀ a ∈ fp, ∃ o, mobj o = true ∧ C a o
  | [], _, _, h => by cases h; simp
  | d :: ds, _, _, h => by
    cases h with
    | cons h1 h2 h3 =>
      intro a m
      rcases List.mem_append.mp m with m | m
      · exact Rel.at d _ _ h1 a m
      · exact RelAll.at ds _ _ h2 a m
end
theorem Own.live {K : Fg} {H : Hp} {v : V} {d : D} {fp : List Addr} (h : Own K H v d fp) {a : Addr} (m : a ∈ fp) : ∃ o, H a = some o := by
  obtain ⟨o, _, e⟩ := Rel.at d v fp h a m
  exact ⟨_, e⟩
theorem OwnAll.live {K : Fg} {H : Hp} {vs : List V} {ds : List D} {fp : List Addr} (h : OwnAll K H vs ds fp) {a : Addr} (m : a ∈ fp) : ∃ o, H a = some o := by
  obtain ⟨o, _, e⟩ := RelAll.at ds vs fp h a m
  exact ⟨_, e⟩
theorem Own.noTup {K : Fg} {H : Hp} {v : V} {d : D} {fp : List Addr} (h : Own K H v d fp) {a : Addr} (m : a ∈ fp) {o : HO} (r : H a = some o) : Imm o = false := by
  obtain ⟨u, z, e⟩ := Rel.at d v fp h a m
  rw [r] at e; cases e
  cases o <;> first | rfl | cases z
theorem OwnAll.noTup {K : Fg} {H : Hp} {v : List V} {d : List D} {fp : List Addr} (h : OwnAll K H v d fp) {a : Addr} (m : a ∈ fp) {o : HO} (r : H a = some o) : Imm o = false := by
  obtain ⟨u, z, e⟩ := RelAll.at d v fp h a m
  rw [r] at e; cases e
  cases o <;> first | rfl | cases z
theorem Own.see {K : Fg} {H : Hp} {v : V} {d : D} {fp : List Addr} (h : Own K H v d fp) : See K H v d fp := Rel.frame (Tk.refl H) d v fp (fun _ _ _ e => .inl e) h
theorem OwnAll.see {K : Fg} {H : Hp} {v : List V} {d : List D} {fp : List Addr} (h : OwnAll K H v d fp) : SeeAll K H v d fp := RelAll.frame (Tk.refl H) d v fp (fun _ _ _ e => .inl e) h
theorem See.same {K : Fg} {H H' : Hp} (s : Same H H') {v : V} {d : D} {fp : List Addr} (h : See K H v d fp) : See K H' v d fp := Rel.frame (Tk.same s) d v fp (fun _ _ _ e => SeeC.same s e) h
theorem SeeAll.same {K : Fg} {H H' : Hp} (s : Same H H') {v : List V} {d : List D} {fp : List Addr} (h : SeeAll K H v d fp) : SeeAll K H' v d fp := RelAll.frame (Tk.same s) d v fp (fun _ _ _ e => SeeC.same s e) h
theorem Own.same {K : Fg} {H H' : Hp} (s : Same H H') {v : V} {d : D} {fp : List Addr} (h : Own K H v d fp) : Own K H' v d fp := Rel.frame (Tk.same s) d v fp (fun _ _ _ e => s _ _ e) h
theorem OwnAll.same {K : Fg} {H H' : Hp} (s : Same H H') {v : List V} {d : List D} {fp : List Addr} (h : OwnAll K H v d fp) : OwnAll K H' v d fp := RelAll.frame (Tk.same s) d v fp (fun _ _ _ e => s _ _ e) h
theorem RelAll.length {K : Fg} {H : Hp} {C : Addr → HO → Prop} : ∀ {ds : List D} {vs : List V} {fp : List Addr}, RelAll K H C vs ds fp → vs.length = ds.length
  | [], _, _, h => by cases h; rfl
  | d :: ds, _, _, h => by
    cases h with
    | cons h1 h2 _ => simp [RelAll.length h2]
theorem RelAll.get {K : Fg} {H : Hp} {C : Addr → HO → Prop} : ∀ {ds : List D} {vs : List V} {fp : List Addr} {i : Nat} {d : D}, RelAll K H C vs ds fp → ds[i]? = some d → ∃ v f, vs[i]? = some v ∧ Rel K H C v d f ∧ ∀ b ∈ f, b ∈ fp
  | [], _, _, _, _, h, e => by simp at e
  | d :: ds, _, _, 0, _, h, e => by
    cases h with
    | cons h1 h2 _ => simp at e; subst e; exact ⟨_, _, rfl, h1, fun b m => List.mem_append_left _ m⟩
  | d :: ds, _, _, i + 1, _, h, e => by
    cases h with
    | cons h1 h2 _ =>
      obtain ⟨v, f, e1, e2, e3⟩ := RelAll.get (i := i) h2 (by simpa using e)
      exact ⟨v, f, by simpa using e1, e2, fun b m => List.mem_append_right _ (e3 b m)⟩
theorem RelAll.app {K : Fg} {H : Hp} {C : Addr → HO → Prop} : ∀ {ds es : List D} {vs ws : List V} {f1 f2 : List Addr}, RelAll K H C vs ds f1 → RelAll K H C ws es f2 → (∀ b ∈ f1, b ∉ f2) → RelAll K H C (vs ++ ws) (ds ++ es) (f1 ++ f2)
  | [], _, _, _, _, _, h, g, _ => by cases h; exact g
  | d :: ds, _, _, _, _, _, h, g, n => by
    cases h with
    | cons h1 h2 h3 =>
      rw [List.append_assoc]
      refine .cons h1 (RelAll.app h2 g fun b m => n b (List.mem_append_right _ m)) fun b m q => ?_
      rcases List.mem_append.mp q with q | q
      · exact h3 b m q
      · exact n b (List.mem_append_left _ m) q

/-! ### lists of ground data -/
def gOf : D → Option PyData
  | .g x => some x
  | _ => none
/-- all are ground -/
def gAll : List D → Option (List PyData)
  | [] => some []
  | .g x :: ds => (gAll ds).map (x :: ·)
  | _ :: _ => none
theorem gAll_map (xs : List PyData) : gAll (xs.map .g) = some xs := by
  induction xs with
  | nil => rfl
  | cons x xs ih => simp [gAll, ih]
theorem gAll_some : ∀ {ds : List D} {xs : List PyData}, gAll ds = some xs → ds = xs.map .g
  | [], xs, h => by simp [gAll] at h; subst h; rfl
  | d :: ds, xs, h => by
    cases d with
    | g x =>
      simp only [gAll, Option.map_eq_some_iff] at h
      obtain ⟨ys, e, rfl⟩ := h
      rw [gAll_some e]; rfl
    | _ => simp [gAll] at h
theorem RelAll.ground {K : Fg} {H : Hp} {C : Addr → HO → Prop} : ∀ {xs : List PyData} {vs : List V} {fp : List Addr}, RelAll K H C vs (xs.map .g) fp → GpAll K H vs xs ∧ fp = []
  | [], _, _, h => by cases h; exact ⟨.nil, rfl⟩
  | x :: xs, _, _, h => by
    cases h with
    | cons h1 h2 _ =>
      cases h1 with
      | g h1 =>
        obtain ⟨e1, e2⟩ := RelAll.ground h2
        exact ⟨.cons h1 e1, by simp [e2]⟩
theorem GpAll.rel {K : Fg} {H : Hp} {C : Addr → HO → Prop} : ∀ {xs : List PyData} {vs : List V}, GpAll K H vs xs → RelAll K H C vs (xs.map .g) []
  | [], _, h => by cases h; exact .nil
  | x :: xs, _, h => by
    cases h with
    | cons h1 h2 =>
      have := RelAll.cons (f1 := []) (f2 := []) (Rel.g (C := C) h1) (GpAll.rel h2) (by simp)
      simpa using this
end Ow

set_option Elab.async false
set_option linter.all false
set_option maxRecDepth 100000
set_option maxHeartbeats 1000000
/-! OwB: expressions that write nothing: what they are worth, by the slots' data. -/
namespace Ow
open PySem PySem.Spec PyProof.Rows L2

/-- an error of the program's own: its class by name, its two fields -/
structure Ex where
  cls : String
  code : PyData
  place : PyData
inductive PR (α : Type) where
  | ok (a : α)
  | err (x : Ex)
  | bad
namespace PR
def bind {α β : Type} (r : PR α) (g : α → PR β) : PR β :=
  match r with
  | .ok a => g a
  | .err x => .err x
  | .bad => .bad
def of {α : Type} : Option α → PR α
  | some a => .ok a
  | none => .bad
def post {α : Type} (r : PR α) (ok : α → Prop) (er : Ex → Prop) : Prop :=
  match r with
  | .ok a => ok a
  | .err x => er x
  | .bad => False
@[simp] theorem bind_ok {α β : Type} (a : α) (g : α → PR β) : (PR.ok a).bind g = g a := rfl
@[simp] theorem bind_err {α β : Type} (x : Ex) (g : α → PR β) : (PR.err x : PR α).bind g = .err x := rfl
@[simp] theorem bind_bad {α β : Type} (g : α → PR β) : (PR.bad : PR α).bind g = .bad := rfl
@[simp] theorem of_some {α : Type} (a : α) : PR.of (some a) = .ok a := rfl
@[simp] theorem of_none {α : Type} : (PR.of none : PR α) = .bad := rfl
theorem post_bind {α β : Type} {r : PR α} {g : α → PR β} {ok : β → Prop} {er : Ex → Prop} (h : (r.bind g).post ok er) : r.post (fun a => (g a).post ok er) er := by
  cases r <;> exact h
theorem post_of {α : Type} {r : Option α} {ok : α → Prop} {er : Ex → Prop} (h : (PR.of r).post ok er) : ∃ a, r = some a ∧ ok a := by
  cases r with
  | none => exact h.elim
  | some a => exact ⟨a, rfl, h⟩
theorem post.mono {α : Type} {r : PR α} {ok ok' : α → Prop} {er er' : Ex → Prop} (h : r.post ok er) (h1 : ∀ a, ok a → ok' a) (h2 : ∀ x, er x → er' x) : r.post ok' er' := by
  cases r with
  | ok a => exact h1 a h
  | err x => exact h2 x h
  | bad => exact h
end PR

/-- a value that is its holder's own, or one that is lent -/
inductive Pv where
  | own (d : D)
  | bor (d : D)
def Pv.d : Pv → D
  | .own d => d
  | .bor d => d
@[simp] theorem Pv.d_own (d : D) : (Pv.own d).d = d := rfl
@[simp] theorem Pv.d_bor (d : D) : (Pv.bor d).d = d := rfl

/-- what is wished of errors, and where the classes stand -/
structure Wi where
  W : WX
  cl : String → Option Addr
def ErrOk (K : Fg) (y : Wi) (x : Ex) (H : Hp) (c : Value) (dd : Option Addr) : Prop :=
  ∃ (C d : Addr) (fs : List (Str × V)) (v1 v2 : V), y.cl x.cls = some C ∧ c = .ref C ∧ dd = some d ∧ H d = some (.xd fs) ∧ fs.lookup ("code" : Str) = some v1 ∧ fs.lookup ("place" : Str) = some v2 ∧ Gp K H v1 x.code ∧ Gp K H v2 x.place
def EP' (K : Fg) (y : Wi) (σ : L2.St) (H : Hp) (x : Ex) : Prop := ∀ c dd H', Same H H' → ErrOk K y x H' c dd → y.W c dd σ H'
theorem EP'.same {K : Fg} {y : Wi} {σ : L2.St} {H H' : Hp} {x : Ex} (h : EP' K y σ H x) (s : Same H H') : EP' K y σ H' x := fun c dd H2 s2 e => h c dd H2 (s.trans s2) e

/-- the slots' data, to be read; Z: where what is lent stands -/
def RdEnv (K : Fg) (Z : Addr → Prop) (H : Hp) (σ : L2.St) (env : List D) : Prop :=
  env.length = σ.length ∧ ∀ (i : Nat) (d : D), env[i]? = some d → d = .hole ∨ ∃ v fp, σ[i]? = some (some v) ∧ See K H v d fp ∧ ∀ b ∈ fp, Z b
theorem RdEnv.same {K : Fg} {Z : Addr → Prop} {H H' : Hp} {σ : L2.St} {env : List D} (h : RdEnv K Z H σ env) (s : Same H H') : RdEnv K Z H' σ env := ⟨h.1, fun i d e => by
  rcases h.2 i d e with h | ⟨v, fp, e1, e2, e3⟩
  · exact .inl h
  · exact .inr ⟨v, fp, e1, e2.same s, e3⟩⟩
/-- a value as told: its own things are new since H, a lent one's stand at Z or are new -/
def PvOk (K : Fg) (Z : Addr → Prop) (H H' : Hp) (v : V) : Pv → List Addr → Prop
  | .own d, fp => Own K H' v d fp ∧ ∀ b ∈ fp, H b = none
  | .bor d, fp => See K H' v d fp ∧ ∀ b ∈ fp, Z b ∨ H b = none
theorem PvOk.see {K : Fg} {Z : Addr → Prop} {H H' : Hp} {v : V} {p : Pv} {fp : List Addr} (h : PvOk K Z H H' v p fp) : See K H' v p.d fp := by
  cases p with
  | own d => exact h.1.see
  | bor d => exact h.1
theorem PvOk.prov {K : Fg} {Z : Addr → Prop} {H H' : Hp} {v : V} {p : Pv} {fp : List Addr} (h : PvOk K Z H H' v p fp) : ∀ b ∈ fp, Z b ∨ H b = none := by
  cases p with
  | own d => exact fun b m => .inr (h.2 b m)
  | bor d => exact h.2
theorem PvOk.weak {K : Fg} {Z : Addr → Prop} {H H1 H' : Hp} {v : V} {p : Pv} {fp : List Addr} (h : PvOk K Z H1 H' v p fp) (s : Same H H1) : PvOk K Z H H' v p fp := by
  cases p with
  | own d => exact ⟨h.1, fun b m => s.free (h.2 b m)⟩
  | bor d => exact ⟨h.1, fun b m => (h.2 b m).imp id s.free⟩
theorem PvOk.same {K : Fg} {Z : Addr → Prop} {H H' H2 : Hp} {v : V} {p : Pv} {fp : List Addr} (h : PvOk K Z H H' v p fp) (s : Same H' H2) : PvOk K Z H H2 v p fp := by
  cases p with
  | own d => exact ⟨h.1.same s, h.2⟩
  | bor d => exact ⟨h.1.same s, h.2⟩

abbrev PF := List D → PR Pv
abbrev PB := List D → PR Bool
abbrev PL := List D → PR (List D)
/-- the reading that a denotation gives -/
def tP (K : Fg) (y : Wi) (f : PF) : TE := fun σ H Q => ∃ env Z, RdEnv K Z H σ env ∧ (f env).post (fun p => ∀ v H' fp, Same H H' → PvOk K Z H H' v p fp → Q v H') (EP' K y σ H)
def tPB (K : Fg) (y : Wi) (f : PB) : TT := fun σ H Q => ∃ env Z, RdEnv K Z H σ env ∧ (f env).post (fun b => ∀ H', Same H H' → Q b H') (EP' K y σ H)
abbrev SeeL (K : Fg) (H : Hp) : List V → List D → Prop := Paired fun v d => ∃ fp, See K H v d fp
theorem SeeL.same {K : Fg} {H H' : Hp} (s : Same H H') {vs : List V} {ds : List D} (h : SeeL K H vs ds) : SeeL K H' vs ds := Paired.mapP h fun _ _ ⟨fp, e⟩ => ⟨fp, e.same s⟩
/-- arguments, seen -/
def tPA (K : Fg) (y : Wi) (f : PL) : TA := fun σ H Q => ∃ env Z, RdEnv K Z H σ env ∧ (f env).post (fun ds => ∀ vs H', Same H H' → SeeL K H' vs ds → Q vs H') (EP' K y σ H)
/-- arguments, owned -/
def tPO (K : Fg) (y : Wi) (f : PL) : TA := fun σ H Q => ∃ env Z, RdEnv K Z H σ env ∧ (f env).post (fun ds => ∀ vs H' fp, Same H H' → OwnAll K H' vs ds fp → (∀ b ∈ fp, H b = none) → Q vs H') (EP' K y σ H)

structure P (X : Cx) (y : Wi) (e : Expr) (f : PF) : Prop where
  pe : PE X e (tP X.K y f)
structure PTst (X : Cx) (y : Wi) (e : Expr) (f : PB) : Prop where
  pt : PT X e (tPB X.K y f)
structure PArg (X : Cx) (y : Wi) (es : List Expr) (f : PL) : Prop where
  pa : PA X es (tPA X.K y f)
structure POwn (X : Cx) (y : Wi) (es : List Expr) (f : PL) : Prop where
  pa : PA X es (tPO X.K y f)

theorem pe_imp {X : Cx} {e : Expr} {t t' : TE} (h : PE X e t) (i : ∀ σ H Q, t' σ H Q → t σ H Q) : PE X e t' := ⟨fun pins s σ H Q I q => h.run pins s σ H Q I (i σ H Q q)⟩
theorem pt_imp {X : Cx} {e : Expr} {t t' : TT} (h : PT X e t) (i : ∀ σ H Q, t' σ H Q → t σ H Q) : PT X e t' := ⟨fun pins s σ H Q I q => h.run pins s σ H Q I (i σ H Q q)⟩
theorem pa_imp {X : Cx} {e : List Expr} {t t' : TA} (h : PA X e t) (i : ∀ σ H Q, t' σ H Q → t σ H Q) : PA X e t' := ⟨fun pos pins s σ H Q I q => h.run pos pins s σ H Q I (i σ H Q q)⟩
theorem ps_imp {X : Cx} {e : Stmt} {t t' : TS} (h : PS X e t) (i : ∀ D σ H, t' D σ H → t D σ H) : PS X e t' := ⟨fun pins s σ H D I q => h.run pins s σ H D I (i D σ H q)⟩
theorem pss_imp {X : Cx} {e : List Stmt} {t t' : TS} (h : PSs X e t) (i : ∀ D σ H, t' D σ H → t D σ H) : PSs X e t' := ⟨fun pins s σ H D I q => h.run pins s σ H D I (i D σ H q)⟩

section
variable {X : Cx} {y : Wi} {a b c e : Expr} {es : List Expr} {pos : Pos}

/-! ### names, constants -/
def pVar (i : Nat) : PF := fun env =>
  match env[i]? with
  | some (.g x) => .ok (.own (.g x))
  | some .hole => .bad
  | some d => .ok (.bor d)
  | none => .bad
theorem tP_var {K : Fg} {i : Nat} {σ : L2.St} {H : Hp} {Q : VK} (h : tP K y (pVar i) σ H Q) : tVar i σ H Q := by
  obtain ⟨env, Z, hR, h⟩ := h
  unfold pVar at h
  cases e1 : env[i]? with
  | none => rw [e1] at h; exact h.elim
  | some d =>
    rw [e1] at h
    rcases hR.2 i d e1 with rfl | ⟨v, fp, e2, e3, e4⟩
    · exact h.elim
    · refine ⟨v, e2, ?_⟩
      cases d with
      | g x =>
        cases e3 with
        | g e3 => exact h v H [] (Same.refl H) ⟨.g e3, by simp⟩
      | hole => exact h.elim
      | _ => exact h v H fp (Same.refl H) ⟨e3, fun b m => .inl (e4 b m)⟩
theorem p_var {i : Nat} {x : Str} (h : PE X (.Name x pos) (tVar i)) : P X y (.Name x pos) (pVar i) := ⟨pe_imp h fun _ _ _ q => tP_var q⟩
/-- a value that is known ahead -/
def pC (x : PyData) : PF := fun _ => .ok (.own (.g x))
theorem p_const {v : V} {x : PyData} (h : PE X e (tC v)) (g : ∀ H, Gp X.K H v x) : P X y e (pC x) := ⟨pe_imp h fun _ H _ ⟨_, _, _, q⟩ => q v H [] (Same.refl H) ⟨.g (g H), by simp⟩⟩
theorem p_int {i j} : P X y (.Constant (.int i) j pos) (pC (.int i)) := p_const pe_int fun _ => .int i
theorem p_bl {k j} : P X y (.Constant (.bool k) j pos) (pC (.bool k)) := p_const pe_bl fun _ => .bl k
theorem p_non {j} : P X y (.Constant .none j pos) (pC .none) := p_const pe_non fun _ => .non
theorem p_str {x j} : P X y (.Constant (.str x) j pos) (pC (.str x)) := p_const pe_str fun _ => .str x
theorem p_globI {x : Str} {i : Int} {t : Tok} (hg : Gl X x) (hm : X.mg x = some (.int i t)) (hd : (x == ("__debug__" : Str)) = false := by decide) : P X y (.Name x pos) (pC (.int i)) := p_const (v := .int i) (pe_glob hg hm ⟨_, rfl⟩ hd) fun _ => .int i

/-! ### operations of two values -/
/-- what an operation asks and gives, by data: it writes nothing, its value is its holder's own -/
def rV2 (K : Fg) (F : D → D → Option D) : R2 := fun x y H Q => ∃ d e f1 f2 r, See K H x d f1 ∧ See K H y e f2 ∧ F d e = some r ∧ ∀ v H' fp, Same H H' → Own K H' v r fp → (∀ b ∈ fp, H b = none) → Q v H'
abbrev V2 (X : Cx) (f : Value → Value → Sem Value) (F : D → D → Option D) : Prop := OpR X f (rV2 X.K F)
def pBin (F : D → D → Option D) (fa fb : PF) : PF := fun env => (fa env).bind fun a => (fb env).bind fun b => (PR.of (F a.d b.d)).bind fun d => .ok (.own d)
theorem tP_bin {K : Fg} {F : D → D → Option D} {fa fb : PF} {σ : L2.St} {H : Hp} {Q : VK} (h : tP K y (pBin F fa fb) σ H Q) : tOp (rV2 K F) (tP K y fa) (tP K y fb) σ H Q := by
  obtain ⟨env, Z, hR, h⟩ := h
  refine ⟨env, Z, hR, (PR.post_bind h).mono (fun a h v1 H1 fp1 s1 o1 => ?_) fun x q => q⟩
  refine ⟨env, Z, hR.same s1, (PR.post_bind h).mono (fun b h v2 H2 fp2 s2 o2 => ?_) fun x q => q.same s1⟩
  obtain ⟨r, e, q⟩ := PR.post_of (PR.post_bind h)
  exact ⟨a.d, b.d, fp1, fp2, r, o1.see.same s2, o2.see, e, fun v H' fp s o n => q v H' fp ((s1.trans s2).trans s) ⟨o, fun b m => (s1.trans s2).free (n b m)⟩⟩
theorem p_bin {op : Operator} {F : D → D → Option D} {fa fb : PF} (ho : V2 X (binaryOp op) F) (ha : P X y a fa) (hb : P X y b fb) : P X y (.BinOp a op b pos) (pBin F fa fb) :=
  ⟨pe_imp (pe_op ho ha.pe hb.pe) fun _ _ _ q => tP_bin q⟩
theorem p_cmp {op : CmpOp} {F : D → D → Option D} {fa fb : PF} (ho : V2 X (compareOp op) F) (ha : P X y a fa) (hb : P X y b fb) (hm : behindInMarks op b = false) : P X y (.Compare a [op] [b] pos) (pBin F fa fb) :=
  ⟨pe_imp (pe_cmpR ho ha.pe hb.pe hm) fun _ _ _ q => tP_bin q⟩
/-- a op b op' c -/
def pCh (F F' : D → D → Option D) (fa fb fc : PF) : PF := fun env => (fa env).bind fun a => (fb env).bind fun b => (PR.of (F a.d b.d)).bind fun d =>
  match d with
  | .g (.bool true) => (fc env).bind fun c => (PR.of (F' b.d c.d)).bind fun d' => .ok (.own d')
  | .g (.bool false) => .ok (.own (.g (.bool false)))
  | _ => .bad
theorem own_bool {K : Fg} {H : Hp} {v : V} {k : Bool} {fp : List Addr} (o : Own K H v (.g (.bool k)) fp) : v = .bl k ∧ fp = [] := by
  cases o with
  | g o => cases o; exact ⟨rfl, rfl⟩
theorem p_chain {op op' : CmpOp} {F F' : D → D → Option D} {fa fb fc : PF} (ho : V2 X (compareOp op) F) (ho' : V2 X (compareOp op') F') (ha : P X y a fa) (hb : P X y b fb) (hc : P X y c fc)
    (hm : lastMarks [op, op'] [b, c] = false := by with_unfolding_all rfl) : P X y (.Compare a [op, op'] [b, c] pos) (pCh F F' fa fb fc) := by
  refine ⟨pe_imp (pe_chain ho ho' ha.pe hb.pe hc.pe hm) fun σ H Q h => ?_⟩
  obtain ⟨env, Z, hR, h⟩ := h
  refine ⟨env, Z, hR, (PR.post_bind h).mono (fun a h v1 H1 fp1 s1 o1 => ?_) fun x q => q⟩
  refine ⟨env, Z, hR.same s1, (PR.post_bind h).mono (fun b h v2 H2 fp2 s2 o2 => ?_) fun x q => q.same s1⟩
  obtain ⟨r, e, q⟩ := PR.post_of (PR.post_bind h)
  refine ⟨a.d, b.d, fp1, fp2, r, o1.see.same s2, o2.see, e, fun v H' fp s o n => ?_⟩
  split at q
  · obtain ⟨rfl, rfl⟩ := own_bool o
    refine ⟨true, rfl, ?_⟩
    rw [if_pos rfl]
    have s3 := (s1.trans s2).trans s
    refine ⟨env, Z, hR.same s3, (PR.post_bind q).mono (fun c h v3 H3 fp3 s4 o3 => ?_) fun x q => q.same s3⟩
    obtain ⟨r', e', q⟩ := PR.post_of (PR.post_bind h)
    exact ⟨b.d, c.d, fp2, fp3, r', (o2.see.same s).same s4, o3.see, e', fun v' H4 fp4 s5 o4 n4 => q v' H4 fp4 ((s3.trans s4).trans s5) ⟨o4, fun b m => (s3.trans s4).free (n4 b m)⟩⟩
  · obtain ⟨rfl, rfl⟩ := own_bool o
    refine ⟨false, rfl, ?_⟩
    rw [if_neg (by decide)]
    exact q (.bl false) H' [] ((s1.trans s2).trans s) ⟨.g (.bl false), by simp⟩
  · exact q.elim

/-! ### tests -/
def asB : Pv → PR Bool
  | .own (.g (.bool b)) => .ok b
  | _ => .bad
/-- an expression that gives a bool, as a test -/
def pTst (f : PF) : PB := fun env => (f env).bind asB
theorem asB_post {p : Pv} {ok : Bool → Prop} {er : Ex → Prop} (h : (asB p).post ok er) : ∃ b, p = .own (.g (.bool b)) ∧ ok b := by
  unfold asB at h
  split at h
  · exact ⟨_, rfl, h⟩
  · exact h.elim
theorem tPB_tst {K : Fg} {f : PF} {σ : L2.St} {H : Hp} {Q : Bool → Hp → Prop} (h : tPB K y (pTst f) σ H Q) : tP K y f σ H fun x H1 => ∃ k, x = .bl k ∧ Q k H1 := by
  obtain ⟨env, Z, hR, h⟩ := h
  refine ⟨env, Z, hR, (PR.post_bind h).mono (fun p h v H' fp s o => ?_) fun x q => q⟩
  obtain ⟨b, rfl, q⟩ := asB_post h
  obtain ⟨rfl, _⟩ := own_bool o.1
  exact ⟨b, rfl, q H' s⟩
theorem pt_ofVal {f : PF} (h : P X y e f) (he : ∀ whole, isTrue e X.env whole = (do let v ← whole; standAt e.pos; holding [v] (truthy v)) := by intro _; rfl) : PTst X y e (pTst f) :=
  ⟨pt_imp (pt_val h.pe he) fun _ _ _ q => tPB_tst q⟩
theorem pt_ofCmp {op : CmpOp} {F : D → D → Option D} {fa fb : PF} (ho : V2 X (compareOp op) F) (ha : P X y a fa) (hb : P X y b fb) (hm : behindInMarks op b = false) : PTst X y (.Compare a [op] [b] pos) (pTst (pBin F fa fb)) :=
  ⟨pt_imp (pt_cmpR ho ha.pe hb.pe hm) fun σ H Q q => tP_bin (tPB_tst q)⟩
theorem pt_ofChain {op op' : CmpOp} {F F' : D → D → Option D} {fa fb fc : PF} (ho : V2 X (compareOp op) F) (ho' : V2 X (compareOp op') F') (ha : P X y a fa) (hb : P X y b fb) (hc : P X y c fc)
    (hm : lastMarks [op, op'] [b, c] = false := by with_unfolding_all rfl) : PTst X y (.Compare a [op, op'] [b, c] pos) (pTst (pCh F F' fa fb fc)) := by
  refine ⟨pt_imp (pt_chain ho ho' ha.pe hb.pe hc.pe hm) fun σ H Q q => ?_⟩
  obtain ⟨env, Z, hR, h⟩ := tPB_tst q
  refine ⟨env, Z, hR, (PR.post_bind h).mono (fun a h v1 H1 fp1 s1 o1 => ?_) fun x q => q⟩
  refine ⟨env, Z, hR.same s1, (PR.post_bind h).mono (fun b h v2 H2 fp2 s2 o2 => ?_) fun x q => q.same s1⟩
  obtain ⟨r, e, q⟩ := PR.post_of (PR.post_bind h)
  refine ⟨a.d, b.d, fp1, fp2, r, o1.see.same s2, o2.see, e, fun v H' fp s o n => ?_⟩
  split at q
  · obtain ⟨rfl, rfl⟩ := own_bool o
    refine ⟨true, rfl, ?_⟩
    rw [if_pos rfl]
    have s3 := (s1.trans s2).trans s
    refine ⟨env, Z, hR.same s3, (PR.post_bind q).mono (fun c h v3 H3 fp3 s4 o3 => ?_) fun x q => q.same s3⟩
    obtain ⟨r', e', q⟩ := PR.post_of (PR.post_bind h)
    exact ⟨b.d, c.d, fp2, fp3, r', (o2.see.same s).same s4, o3.see, e', fun v' H4 fp4 s5 o4 n4 => q v' H4 fp4 ((s3.trans s4).trans s5) ⟨o4, fun b m => (s3.trans s4).free (n4 b m)⟩⟩
  · obtain ⟨rfl, rfl⟩ := own_bool o
    refine ⟨false, rfl, ?_⟩
    rw [if_neg (by decide)]
    exact q (.bl false) H' [] ((s1.trans s2).trans s) ⟨.g (.bl false), by simp⟩
  · exact q.elim
/-- a longer chain is told as a chain of its own: see OwC -/
def pNot (f : PB) : PB := fun env => (f env).bind fun b => .ok (!b)
theorem pt_ofNot {f : PB} (h : PTst X y a f) : PTst X y (.UnaryOp .Not a pos) (pNot f) := by
  refine ⟨pt_imp (pt_not h.pt) fun σ H Q q => ?_⟩
  obtain ⟨env, Z, hR, h⟩ := q
  exact ⟨env, Z, hR, (PR.post_bind h).mono (fun b h H' s => h H' s) fun x q => q⟩
def pAnd (f g : PB) : PB := fun env => (f env).bind fun b => if b = true then g env else .ok false
def pOr (f g : PB) : PB := fun env => (f env).bind fun b => if b = true then .ok true else g env
structure PWd (X : Cx) (y : Wi) (e : Expr) (f : PB) : Prop where
  pw : PW X e (tPB X.K y f)
theorem pw_imp {t t' : TT} (h : PW X e t) (i : ∀ σ H Q, t' σ H Q → t σ H Q) : PW X e t' := ⟨fun wh pins s σ H Q I q => h.run wh pins s σ H Q I (i σ H Q q)⟩
theorem PWd.pt {f : PB} (h : PWd X y e f) : PTst X y e f := ⟨h.pw.pt⟩
theorem pwAnd1 {f : PB} (h : PTst X y a f) : PWd X y (.BoolOp .And [a] pos) f := ⟨pw_and1 h.pt⟩
theorem pwOr1 {f : PB} (h : PTst X y a f) : PWd X y (.BoolOp .Or [a] pos) f := ⟨pw_or1 h.pt⟩
theorem pwAnd {f g : PB} {rest : List Expr} (h : PTst X y a f) (h' : PWd X y (.BoolOp .And (b :: rest) pos) g) : PWd X y (.BoolOp .And (a :: b :: rest) pos) (pAnd f g) := by
  refine ⟨pw_imp (pw_and h.pt h'.pw) fun σ H Q q => ?_⟩
  obtain ⟨env, Z, hR, h⟩ := q
  refine ⟨env, Z, hR, (PR.post_bind h).mono (fun b h H' s => ?_) fun x q => q⟩
  cases b with
  | true => exact ⟨env, Z, hR.same s, PR.post.mono h (fun b q H2 s2 => q H2 (s.trans s2)) fun x q => q.same s⟩
  | false => exact h H' s
theorem pwOr {f g : PB} {rest : List Expr} (h : PTst X y a f) (h' : PWd X y (.BoolOp .Or (b :: rest) pos) g) : PWd X y (.BoolOp .Or (a :: b :: rest) pos) (pOr f g) := by
  refine ⟨pw_imp (pw_or h.pt h'.pw) fun σ H Q q => ?_⟩
  obtain ⟨env, Z, hR, h⟩ := q
  refine ⟨env, Z, hR, (PR.post_bind h).mono (fun b h H' s => ?_) fun x q => q⟩
  cases b with
  | false => exact ⟨env, Z, hR.same s, PR.post.mono h (fun b q H2 s2 => q H2 (s.trans s2)) fun x q => q.same s⟩
  | true => exact h H' s
/-- .. as values -/
def pAndV (f g : PF) : PF := fun env => (pTst f env).bind fun b => if b = true then g env else .ok (.own (.g (.bool false)))
def pOrV (f g : PF) : PF := fun env => (pTst f env).bind fun b => if b = true then .ok (.own (.g (.bool true))) else g env
theorem p_one {op} {f : PF} (h : P X y a f) : P X y (.BoolOp op [a] pos) f := ⟨pe_one h.pe⟩
theorem PvOk.up {K : Fg} {Z : Addr → Prop} {H : Hp} {Q : VK} {p : Pv} {H1 : Hp} (s : Same H H1) (h : ∀ v H' fp, Same H H' → PvOk K Z H H' v p fp → Q v H') : ∀ v H' fp, Same H1 H' → PvOk K Z H1 H' v p fp → Q v H' :=
  fun v H' fp s' o => h v H' fp (s.trans s') (o.weak s)
theorem p_and {f g : PF} {rest : List Expr} (h : P X y a f) (h' : P X y (.BoolOp .And (b :: rest) pos) g) : P X y (.BoolOp .And (a :: b :: rest) pos) (pAndV f g) := by
  refine ⟨pe_imp (pe_and h.pe h'.pe) fun σ H Q q => ?_⟩
  obtain ⟨env, Z, hR, h⟩ := q
  refine ⟨env, Z, hR, (PR.post_bind (PR.post_bind h)).mono (fun p h v H' fp s o => ?_) fun x q => q⟩
  obtain ⟨k, rfl, h⟩ := asB_post h
  obtain ⟨rfl, _⟩ := own_bool o.1
  refine ⟨k, rfl, ?_⟩
  cases k with
  | true => exact ⟨env, Z, hR.same s, PR.post.mono h (fun p q => PvOk.up s q) fun x q => q.same s⟩
  | false => exact h (.bl false) H' [] s ⟨.g (.bl false), by simp⟩
theorem p_or {f g : PF} {rest : List Expr} (h : P X y a f) (h' : P X y (.BoolOp .Or (b :: rest) pos) g) : P X y (.BoolOp .Or (a :: b :: rest) pos) (pOrV f g) := by
  refine ⟨pe_imp (pe_or h.pe h'.pe) fun σ H Q q => ?_⟩
  obtain ⟨env, Z, hR, h⟩ := q
  refine ⟨env, Z, hR, (PR.post_bind (PR.post_bind h)).mono (fun p h v H' fp s o => ?_) fun x q => q⟩
  obtain ⟨k, rfl, h⟩ := asB_post h
  obtain ⟨rfl, _⟩ := own_bool o.1
  refine ⟨k, rfl, ?_⟩
  cases k with
  | false => exact ⟨env, Z, hR.same s, PR.post.mono h (fun p q => PvOk.up s q) fun x q => q.same s⟩
  | true => exact h (.bl true) H' [] s ⟨.g (.bl true), by simp⟩
def pNotV (f : PF) : PF := fun env => (pTst f env).bind fun b => .ok (.own (.g (.bool (!b))))
theorem p_not {f : PF} (h : P X y a f) : P X y (.UnaryOp .Not a pos) (pNotV f) := by
  refine ⟨pe_imp (pe_not h.pe) fun σ H Q q => ?_⟩
  obtain ⟨env, Z, hR, h⟩ := q
  refine ⟨env, Z, hR, (PR.post_bind (PR.post_bind h)).mono (fun p h v H' fp s o => ?_) fun x q => q⟩
  obtain ⟨k, rfl, h⟩ := asB_post h
  obtain ⟨rfl, _⟩ := own_bool o.1
  exact ⟨k, rfl, h (.bl (!k)) H' [] s ⟨.g (.bl _), by simp⟩⟩
def pIf (c : PB) (f g : PF) : PF := fun env => (c env).bind fun b => if b = true then f env else g env
theorem p_ifExp {fc : PB} {f g : PF} (hc : PTst X y c fc) (h : P X y a f) (h' : P X y b g) : P X y (.IfExp c a b pos) (pIf fc f g) := by
  refine ⟨pe_imp (pe_ifExp hc.pt h.pe h'.pe) fun σ H Q q => ?_⟩
  obtain ⟨env, Z, hR, h⟩ := q
  refine ⟨env, Z, hR, (PR.post_bind h).mono (fun k h H' s => ?_) fun x q => q⟩
  cases k with
  | true => exact ⟨env, Z, hR.same s, PR.post.mono h (fun p q => PvOk.up s q) fun x q => q.same s⟩
  | false => exact ⟨env, Z, hR.same s, PR.post.mono h (fun p q => PvOk.up s q) fun x q => q.same s⟩
/-- is None, is not None -/
def isN : D → Bool
  | .g .none => true
  | _ => false
theorem See.isN {K : Fg} {H : Hp} {v : V} {d : D} {fp : List Addr} (h : See K H v d fp) (hh : d ≠ .hole) : decide (v = .non) = isN d := by
  cases d with
  | g x =>
    cases h with
    | g h => cases h <;> rfl
  | lst _ => cases h; rfl
  | tp _ => cases h; rfl
  | dic _ _ => cases h; rfl
  | dct _ _ => cases h; rfl
  | scr _ => cases h; rfl
  | ft _ => cases h; rfl
  | hole => exact absurd rfl hh
def pIsN (neg : Bool) (f : PF) : PF := fun env => (f env).bind fun p => match p.d with
  | .hole => .bad
  | d => .ok (.own (.g (.bool (if neg then !isN d else isN d))))
theorem pIsN_post {neg : Bool} {p : Pv} {ok : Pv → Prop} {er : Ex → Prop} (h : (match p.d with | .hole => PR.bad | d => PR.ok (Pv.own (.g (.bool (if neg then !isN d else isN d))))).post ok er) : p.d ≠ .hole ∧ ok (.own (.g (.bool (if neg then !isN p.d else isN p.d)))) := by
  cases e : p.d <;> rw [e] at h <;> first | exact ⟨by simp, h⟩ | exact h.elim
theorem p_isN {f : PF} {j pos'} (h : P X y a f) : P X y (.Compare a [.Is] [.Constant .none j pos'] pos) (pIsN false f) := by
  refine ⟨pe_imp (pe_cmp (pc_isN h.pe) rfl) fun σ H Q q => ?_⟩
  obtain ⟨env, Z, hR, h⟩ := q
  refine ⟨env, Z, hR, (PR.post_bind h).mono (fun p h v H' fp s o => ?_) fun x q => q⟩
  obtain ⟨h1, h2⟩ := pIsN_post h
  rw [o.see.isN h1]
  exact h2 _ H' [] s ⟨.g (.bl _), by simp⟩
theorem p_notN {f : PF} {j pos'} (h : P X y a f) : P X y (.Compare a [.IsNot] [.Constant .none j pos'] pos) (pIsN true f) := by
  refine ⟨pe_imp (pe_cmp (pc_notN h.pe) rfl) fun σ H Q q => ?_⟩
  obtain ⟨env, Z, hR, h⟩ := q
  refine ⟨env, Z, hR, (PR.post_bind h).mono (fun p h v H' fp s o => ?_) fun x q => q⟩
  obtain ⟨h1, h2⟩ := pIsN_post h
  rw [o.see.isN h1]
  exact h2 _ H' [] s ⟨.g (.bl _), by simp⟩

/-! ### arguments; displays -/
def pNil : PL := fun _ => .ok []
def pCons (f : PF) (g : PL) : PL := fun env => (f env).bind fun p => (g env).bind fun ds => .ok (p.d :: ds)
theorem pa_ofNil : PArg X y [] pNil := ⟨pa_imp pa_nil fun _ H _ ⟨_, _, _, q⟩ => q [] H (Same.refl H) .nil⟩
theorem pa_ofCons {f : PF} {g : PL} (h : P X y e f) (h' : PArg X y es g) (hs : starEach (e :: es) X.env = (false, eval e X.env) :: starEach es X.env := by rfl) : PArg X y (e :: es) (pCons f g) := by
  refine ⟨pa_imp (pa_cons h.pe h'.pa hs) fun σ H Q q => ?_⟩
  obtain ⟨env, Z, hR, h⟩ := q
  refine ⟨env, Z, hR, (PR.post_bind h).mono (fun p h v H1 fp s1 o => ?_) fun x q => q⟩
  refine ⟨env, Z, hR.same s1, (PR.post_bind h).mono (fun ds h vs H2 s2 os => ?_) fun x q => q.same s1⟩
  exact h (v :: vs) H2 (s1.trans s2) (.cons ⟨fp, o.see.same s2⟩ os)
def ownD : Pv → PR D
  | .own d => .ok d
  | .bor _ => .bad
def pConsO (f : PF) (g : PL) : PL := fun env => (f env).bind fun p => (ownD p).bind fun d => (g env).bind fun ds => .ok (d :: ds)
theorem po_ofNil : POwn X y [] pNil := ⟨pa_imp pa_nil fun _ H _ ⟨_, _, _, q⟩ => q [] H [] (Same.refl H) .nil (by simp)⟩
theorem po_ofCons {f : PF} {g : PL} (h : P X y e f) (h' : POwn X y es g) (hs : starEach (e :: es) X.env = (false, eval e X.env) :: starEach es X.env := by rfl) : POwn X y (e :: es) (pConsO f g) := by
  refine ⟨pa_imp (pa_cons h.pe h'.pa hs) fun σ H Q q => ?_⟩
  obtain ⟨env, Z, hR, h⟩ := q
  refine ⟨env, Z, hR, (PR.post_bind h).mono (fun p h v H1 fp s1 o => ?_) fun x q => q⟩
  cases p with
  | bor d => exact (h : False).elim
  | own d =>
    refine ⟨env, Z, hR.same s1, (PR.post_bind (show ((g env).bind fun ds => PR.ok (d :: ds)).post _ _ from h)).mono (fun ds h vs H2 fps s2 os n => ?_) fun x q => q.same s1⟩
    refine h (v :: vs) H2 (fp ++ fps) (s1.trans s2) (.cons (o.1.same s2) os fun b m m' => ?_) fun b m => ?_
    · obtain ⟨ob, e⟩ := o.1.live m
      rw [n b m'] at e; cases e
    · rcases List.mem_append.mp m with m | m
      · exact o.2 b m
      · exact s1.free (n b m)
/-- a tuple of owned things: ground where all are -/
def mkTup (ds : List D) : D :=
  match gAll ds with
  | some xs => .g (.tuple xs)
  | none => .tp ds
theorem own_tup {K : Fg} {H : Hp} {a : Addr} {vs : List V} {ds : List D} {fp : List Addr} (h : H a = some (.tup vs)) (o : OwnAll K H vs ds fp) : Own K H (.ref a) (mkTup ds) fp := by
  unfold mkTup
  cases e : gAll ds with
  | none => exact .tp (SqT.of h) o
  | some xs =>
    have e' := gAll_some e
    subst e'
    obtain ⟨h1, rfl⟩ := RelAll.ground o
    exact .g (.tup h h1)
def pTup (f : PL) : PF := fun env => (f env).bind fun ds => if ds.length ≤ sizeLine then .ok (.own (mkTup ds)) else .bad
theorem same_upd {H : Hp} {p : Addr} {o : HO} (n : H p = none) : Same H (upd H p o) := fun b u q => by rw [upd_ne (ne_of_none q n)]; exact q
theorem p_tup {f : PL} {k} (h : POwn X y es f) : P X y (.Tuple es k pos) (pTup f) := by
  refine ⟨pe_imp (pe_tup h.pa) fun σ H Q q => ?_⟩
  obtain ⟨env, Z, hR, h⟩ := q
  refine ⟨env, Z, hR, (PR.post_bind h).mono (fun ds h vs H1 fp s1 os n => ?_) fun x q => q⟩
  have hl := os.length
  split at h
  · rename_i hz
    refine ⟨by omega, fun p np => ?_⟩
    exact h _ _ fp (s1.trans (same_upd np)) ⟨own_tup upd_same (os.same (same_upd np)), n⟩
  · exact h.elim
def pLst (f : PL) : PF := fun env => (f env).bind fun ds => if ds.length ≤ sizeLine then .ok (.own (.lst ds)) else .bad
theorem p_lst {f : PL} (h : POwn X y es f) : P X y (.List es pos) (pLst f) := by
  refine ⟨pe_imp (pe_lst h.pa) fun σ H Q q => ?_⟩
  obtain ⟨env, Z, hR, h⟩ := q
  refine ⟨env, Z, hR, (PR.post_bind h).mono (fun ds h vs H1 fp s1 os n => ?_) fun x q => q⟩
  have hl := os.length
  split at h
  · rename_i hz
    refine ⟨by omega, fun p np => ?_⟩
    have hp : p ∉ fp := fun m => by
      obtain ⟨ob, e⟩ := os.live m
      rw [np] at e; cases e
    refine h _ _ (p :: fp) (s1.trans (same_upd np)) ⟨.lst upd_same (os.same (same_upd np)) hp, fun b m => ?_⟩
    rcases List.mem_cons.mp m with rfl | m
    · exact s1.free np
    · exact n b m
  · exact h.elim
def pDic0 : PF := fun _ => .ok (.own (.dic [] []))
theorem p_dic0 : P X y (.Dict [] [] pos) pDic0 := by
  refine ⟨pe_imp pe_dnewK fun σ H Q q => ?_⟩
  obtain ⟨env, Z, hR, h⟩ := q
  intro p np
  exact h _ _ [p] (same_upd np) ⟨.dic upd_same rfl .nil (by simp), by simpa using np⟩

/-! ### calls of built-ins by name, by values -/
def rVN (K : Fg) (F : List D → Option D) : List V → Hp → VK → Prop := fun vs H Q => ∃ ds r, SeeL K H vs ds ∧ F ds = some r ∧ ∀ v H' fp, Same H H' → Own K H' v r fp → (∀ b ∈ fp, H b = none) → Q v H'
abbrev VN (X : Cx) (f : Value) (F : List D → Option D) : Prop := CallR X f (rVN X.K F)
def pCall (F : List D → Option D) (f : PL) : PF := fun env => (f env).bind fun ds => (PR.of (F ds)).bind fun d => .ok (.own d)
theorem tP_call {K : Fg} {F : List D → Option D} {f : PL} {σ : L2.St} {H : Hp} {Q : VK} (h : tP K y (pCall F f) σ H Q) : tCB (rVN K F) (tPA K y f) σ H Q := by
  obtain ⟨env, Z, hR, h⟩ := h
  refine ⟨env, Z, hR, (PR.post_bind h).mono (fun ds h vs H1 s1 os => ?_) fun x q => q⟩
  obtain ⟨r, e, q⟩ := PR.post_of (PR.post_bind h)
  exact ⟨ds, r, os, e, fun v H' fp s o n => q v H' fp (s1.trans s) ⟨o, fun b m => s1.free (n b m)⟩⟩
theorem p_callB {x : Str} {p : Pos} {id : String} {F : List D → Option D} {f : PL} (hc : VN X (.builtin id) F) (hg : Gl X x) (hm : X.mg x = none) (hv : bootBuiltins x = some (.builtin id)) (ha : PArg X y (e :: es) f) (hn : x ≠ "__name__" := by decide) (hdb : (x == ("__debug__" : Str)) = false := by decide)
    (he : starEach (e :: es) X.env = (false, eval e X.env) :: starEach es X.env := by rfl) (hpl : (backTo pos (starEach es X.env)).any (·.1) = false := by rfl) : P X y (.Call (.Name x p) (e :: es) [] pos) (pCall F f) :=
  ⟨pe_imp (pe_callB hc hg hm hv ha.pa hn hdb he hpl) fun _ _ _ q => tP_call q⟩
theorem p_callTy {x : Str} {p : Pos} {T : String} {F : List D → Option D} {f : PL} (hc : VN X (.type T) F) (hg : Gl X x) (hm : X.mg x = none) (hv : bootBuiltins x = some (.type T)) (ha : PArg X y (e :: es) f) (hn : x ≠ "__name__" := by decide) (hdb : (x == ("__debug__" : Str)) = false := by decide)
    (he : starEach (e :: es) X.env = (false, eval e X.env) :: starEach es X.env := by rfl) (hpl : (backTo pos (starEach es X.env)).any (·.1) = false := by rfl) : P X y (.Call (.Name x p) (e :: es) [] pos) (pCall F f) :=
  ⟨pe_imp (pe_callTy hc hg hm hv ha.pa hn hdb he hpl) fun _ _ _ q => tP_call q⟩
end
end Ow

set_option Elab.async false
set_option linter.all false
set_option maxRecDepth 100000
set_option maxHeartbeats 1000000
/-! OwC: operations by data: arithmetic, comparisons, in, len, sum, places, slices. -/
namespace Ow
open PySem PySem.Spec PyProof.Rows L2

section inv
variable {K : Fg} {H : Hp} {v : V} {fp : List Addr}
theorem see_int {C : Addr → HO → Prop} {i : Int} (h : Rel K H C v (.g (.int i)) fp) : v = .int i := by
  cases h with | g h => cases h; rfl
theorem see_str {C : Addr → HO → Prop} {x : Str} (h : Rel K H C v (.g (.str x)) fp) : v = .str x := by
  cases h with | g h => cases h; rfl
theorem see_bool {C : Addr → HO → Prop} {x : Bool} (h : Rel K H C v (.g (.bool x)) fp) : v = .bl x := by
  cases h with | g h => cases h; rfl
theorem see_tupH {C : Addr → HO → Prop} {ds : List PyData} (h : Rel K H C v (.g (.tuple ds)) fp) : ∃ a vs, v = .ref a ∧ H a = some (.tup vs) ∧ GpAll K H vs ds := by
  cases h with | g h => cases h with | tup h1 h2 => exact ⟨_, _, rfl, h1, h2⟩
theorem see_tup {C : Addr → HO → Prop} {ds : List PyData} (h : Rel K H C v (.g (.tuple ds)) fp) : ∃ a vs, v = .ref a ∧ SqT K H a vs ∧ GpAll K H vs ds := by
  cases h with | g h => cases h with | tup h1 h2 => exact ⟨_, _, rfl, SqT.of h1, h2⟩
theorem see_g {C : Addr → HO → Prop} {x : PyData} (h : Rel K H C v (.g x) fp) : Gp K H v x ∧ fp = [] := by
  cases h with | g h => exact ⟨h, rfl⟩
theorem see_lst {ds : List D} (h : See K H v (.lst ds) fp) : ∃ a vs fp', v = .ref a ∧ H a = some (.lst vs) ∧ SeeAll K H vs ds fp' ∧ fp = a :: fp' := by
  cases h with | lst h1 h2 h3 => exact ⟨_, _, _, rfl, h1.lst, h2, rfl⟩
end inv
abbrev Fin' (K : Fg) (H : Hp) (r : D) (Q : VK) : Prop := ∀ v H' fp, Same H H' → Own K H' v r fp → (∀ b ∈ fp, H b = none) → Q v H'
section fin
variable {K : Fg} {H : Hp} {Q : VK}
theorem fin_g {x : PyData} {v : V} (q : Fin' K H (.g x) Q) (g : Gp K H v x) : Q v H := q v H [] (Same.refl H) (.g g) (by simp)
theorem fin_int {i : Int} (q : Fin' K H (.g (.int i)) Q) : Q (.int i) H := fin_g q (.int i)
theorem fin_bool {i : Bool} (q : Fin' K H (.g (.bool i)) Q) : Q (.bl i) H := fin_g q (.bl i)
theorem fin_str {i : Str} (q : Fin' K H (.g (.str i)) Q) : Q (.str i) H := fin_g q (.str i)
/-- a new tuple -/
theorem fin_tup {xs : List PyData} {vs : List V} {p : Addr} (q : Fin' K H (.g (.tuple xs)) Q) (n : H p = none) (g : GpAll K H vs xs) : Q (.ref p) (upd H p (.tup vs)) :=
  q _ _ [] (same_upd n) (.g (.tup upd_same (GpAll.frame (Tk.same (same_upd n)) xs vs g))) (by simp)
/-- a new list of ground things -/
theorem fin_lst {xs : List PyData} {vs : List V} {p : Addr} (q : Fin' K H (.lst (xs.map .g)) Q) (n : H p = none) (g : GpAll K H vs xs) : Q (.ref p) (upd H p (.lst vs)) :=
  q _ _ [p] (same_upd n) (.lst upd_same (GpAll.rel (GpAll.frame (Tk.same (same_upd n)) xs vs g)) (by simp)) (by simpa using n)
/-- a new list of owned things -/
theorem fin_lstO {ds : List D} {vs : List V} {p : Addr} {fp : List Addr} (q : Fin' K H (.lst ds) Q) (n : H p = none) (g : OwnAll K H vs ds fp) (hn : fp = []) : Q (.ref p) (upd H p (.lst vs)) := by
  subst hn
  exact q _ _ [p] (same_upd n) (.lst upd_same (g.same (same_upd n)) (by simp)) (by simpa using n)
end fin
theorem seeAll_ground {K : Fg} {H : Hp} {ds : List D} {xs : List PyData} {vs : List V} {fp : List Addr} (e : gAll ds = some xs) (h : SeeAll K H vs ds fp) : GpAll K H vs xs := by
  have e' := gAll_some e
  subst e'
  exact (RelAll.ground h).1

/-! ### arithmetic -/
def fAdd : D → D → Option D
  | .g (.int a), .g (.int b) => some (.g (.int (a + b)))
  | .g (.str a), .g (.str b) => if a.length + b.length ≤ sizeLine then some (.g (.str (a ++ b))) else none
  | .g (.tuple a), .g (.tuple b) => if a.length + b.length ≤ sizeLine then some (.g (.tuple (a ++ b))) else none
  | .lst a, .lst b => (gAll a).bind fun xs => (gAll b).bind fun ys => if xs.length + ys.length ≤ sizeLine then some (.lst ((xs ++ ys).map .g)) else none
  | _, _ => none
theorem v_add {X : Cx} : V2 X (binaryOp .Add) fAdd := by
  intro pins s σ H x y v u Q I rx ry ⟨d, e, f1, f2, r, hd, he, hF, q⟩
  unfold fAdd at hF
  split at hF
  · cases hF
    have := see_int hd; subst this
    have := see_int he; subst this
    exact op_add pins s σ H _ _ v u Q I rx ry ⟨_, _, rfl, rfl, fin_int q⟩
  · split at hF
    · cases hF
      have := see_str hd; subst this
      have := see_str he; subst this
      exact op_add_str pins s σ H _ _ v u Q I rx ry ⟨_, _, rfl, rfl, by assumption, fin_str q⟩
    · cases hF
  · split at hF
    · rename_i hz
      cases hF
      obtain ⟨a, vs, rfl, h1, h2⟩ := see_tupH hd
      obtain ⟨b, ws, rfl, h3, h4⟩ := see_tupH he
      refine op_catA pins s σ H _ _ v u Q I rx ry ⟨a, b, vs, ws, rfl, rfl, SqT.of h1, SqT.of h3, by rw [h2.length, h4.length]; exact hz, fun e => ?_, fun _ e => ?_, fun _ _ p np => ?_⟩
      · subst e; cases h2; exact fin_g q (.tup h3 (by simpa using h4))
      · subst e; cases h4; exact fin_g q (.tup h1 (by simpa using h2))
      · exact fin_tup q np (GpAll.app h2 h4)
    · cases hF
  · simp only [Option.bind_eq_some_iff] at hF
    obtain ⟨xs, e1, ys, e2, hF⟩ := hF
    split at hF
    · rename_i hz
      cases hF
      obtain ⟨a, vs, fa, rfl, h1, h2, _⟩ := see_lst hd
      obtain ⟨b, ws, fb, rfl, h3, h4, _⟩ := see_lst he
      have g1 := seeAll_ground e1 h2
      have g2 := seeAll_ground e2 h4
      exact op_cat pins s σ H _ _ v u Q I rx ry ⟨a, b, vs, ws, rfl, rfl, h1, h3, by rw [g1.length, g2.length]; exact hz, fun p np => fin_lst q np (GpAll.app g1 g2)⟩
    · cases hF
  · cases hF
def fSub : D → D → Option D
  | .g (.int a), .g (.int b) => some (.g (.int (a - b)))
  | _, _ => none
theorem v_sub {X : Cx} : V2 X (binaryOp .Sub) fSub := by
  intro pins s σ H x y v u Q I rx ry ⟨d, e, f1, f2, r, hd, he, hF, q⟩
  unfold fSub at hF
  split at hF
  · cases hF
    have := see_int hd; subst this
    have := see_int he; subst this
    exact op_sub pins s σ H _ _ v u Q I rx ry ⟨_, _, rfl, rfl, fin_int q⟩
  · cases hF
def rep {α : Type} (k : Nat) (xs : List α) : List α := (List.replicate k xs).flatten
theorem rep_length {α : Type} (k : Nat) (xs : List α) : (rep k xs).length = k * xs.length := by
  unfold rep
  rw [List.length_flatten]
  simp
theorem GpAll.rep {K : Fg} {H : Hp} {vs : List V} {xs : List PyData} (h : GpAll K H vs xs) (k : Nat) : GpAll K H (rep k vs) (rep k xs) := by
  unfold Ow.rep
  induction k with
  | zero => simp; exact .nil
  | succ k ih =>
    rw [List.replicate_succ, List.replicate_succ, List.flatten_cons, List.flatten_cons]
    exact GpAll.app h ih
theorem tuple_mulS (l : Addr) (items : Array Value) (n : Nat) (dd : Option Addr) (sl : Array (Option Value)) (x : Int) (u : Tok) (c0 : (decide (x < -(2 ^ 63)) || decide (x ≥ 2 ^ 63)) = false) (c1 : (items.isEmpty || x == 1) = true) :
    Meets (Builtin.«tuple.__mul__» ⟨[.ref l, .int x u], []⟩) (fun _ R s => s.heap.get? l = some { cls := .type "tuple", dict := dd, data := .seq items n, slots := sl } ∧ R (.ok (.ret (Value.ref l))) s) :=
  .of_wp fun prog w A R s h => by
    obtain ⟨hp, g, d, tk, os⟩ := s
    obtain ⟨hl, h⟩ := h
    have f1 := AutoSeq1.idx_int
    wp_walk using wpAny_loadPart' hl
    repeat (first
      | (refine wpAny_ite_false (decide_eq_false (by rw [c0]; exact Bool.false_ne_true)) ?_; wp_walk using wpAny_loadPart' hl)
      | (refine wpAny_ite_true (decide_eq_true (by rw [c1])) ?_; wp_walk using wpAny_loadPart' hl))
    exact ⟨_, rfl, h⟩
theorem tuple_mul0 (l : Addr) (items : Array Value) (n : Nat) (dd : Option Addr) (sl : Array (Option Value)) (x : Int) (u : Tok) (c0 : (decide (x < -(2 ^ 63)) || decide (x ≥ 2 ^ 63)) = false) (c1 : (items.isEmpty || x == 1) = false) (c2 : (decide (x ≤ 0) || items.isEmpty) = true) :
    Meets (Builtin.«tuple.__mul__» ⟨[.ref l, .int x u], []⟩) (fun _ R s => s.heap.get? l = some { cls := .type "tuple", dict := dd, data := .seq items n, slots := sl } ∧
      R (.ok (.ret (Value.ref s.heap.objs.size))) { s with heap := s.heap.push { cls := Value.type "tuple", data := Data.seq #[] }, toks := s.toks }) :=
  .of_wp fun prog w A R s h => by
    obtain ⟨hp, g, d, tk, os⟩ := s
    obtain ⟨hl, h⟩ := h
    have f1 := AutoSeq1.idx_int
    wp_walk using wpAny_loadPart' hl
    repeat (first
      | (refine wpAny_ite_false (decide_eq_false (by rw [c0]; exact Bool.false_ne_true)) ?_; wp_walk using wpAny_loadPart' hl)
      | (refine wpAny_ite_false (decide_eq_false (by rw [c1]; exact Bool.false_ne_true)) ?_; wp_walk using wpAny_loadPart' hl)
      | (refine wpAny_ite_true (decide_eq_true (by rw [c2])) ?_; wp_walk using wpAny_loadPart' hl))
    exact ⟨_, rfl, h⟩
/-- a tuple times 1 is the tuple; times 0, the empty one -/
theorem op_repT01 {X : Cx} : OpR X (binaryOp .Mult) (fun x y H Q => ∃ l k xs, x = .ref l ∧ y = .int k ∧ SqT X.K H l xs ∧ xs ≠ [] ∧ ((k = 1 ∧ Q (.ref l) H) ∨ (k = 0 ∧ ∀ p, H p = none → Q (.ref p) (upd H p (.tup []))))) := by
  intro pins s σ H x y v u Q I rx ry h
  obtain ⟨l, k, xs, rfl, rfl, hT, hne, h⟩ := h
  cases rx
  obtain ⟨t, rfl⟩ := ry
  obtain ⟨its, r, ⟨⟨cls, dd, data, sl⟩, ho, hc, n, hd⟩, hs⟩ := I.tuple hT
  simp only at hc hd
  subst hc hd
  have hle : its.length = xs.length := r.length.symm
  have hi : its.toArray.isEmpty = false := by
    cases its with
    | nil => exact absurd (List.eq_nil_of_length_eq_zero hle.symm) hne
    | cons a b => rfl
  refine wpAny_binaryOp_repeat_ref (T := "tuple") (U := "int") (by decide) ⟨_, ho, rfl⟩ (fun s' => typeIs_int s' k t) noFill_tuple_mul F.fills_int_mul F.slot_int_rmul repeat_tuple F.slot_int_index.lookup
    (call_meets F.slot_int_rmul (typeIs_int s k t) F.entry_int_rmul (F.args_int_rmul_2 _ _) (int_rmul_tuple k t l its.toArray n dd sl)
      ⟨ho, rfl, ⟨_, ho, rfl⟩, ?_⟩)
  rcases h with ⟨rfl, q⟩ | ⟨rfl, q⟩
  · exact call_meets F.slot_tuple_mul ⟨_, ho, rfl⟩ F.entry_tuple_mul (F.args_tuple_mul_2 _ _) (tuple_mulS l its.toArray n dd sl 1 t (by decide) (by rw [hi]; rfl)) ⟨ho, ⟨.ref l, H, I, rfl, q⟩⟩
  · exact call_meets F.slot_tuple_mul ⟨_, ho, rfl⟩ F.entry_tuple_mul (F.args_tuple_mul_2 _ _) (tuple_mul0 l its.toArray n dd sl 0 t (by decide) (by rw [hi]; rfl) (by rw [hi]; rfl)) ⟨ho,
      ⟨.ref s.heap.objs.size, _, I.laid (t' := s.toks) (o := .tup []) (fun b ob q => Heap.get?_push_of_some _ q) (Nat.le_refl _) ⟨by decide, [], .nil, IsTup.new _ _⟩, rfl, q _ (I.hok.fresh (Nat.le_refl _))⟩⟩
def fMul : D → D → Option D
  | .g (.int a), .g (.int b) => if (-18446744073709551616 < a ∧ a < 18446744073709551616) ∨ a.natAbs.log2 + b.natAbs.log2 < 1000000 then some (.g (.int (a * b))) else none
  | .lst a, .g (.int k) => (gAll a).bind fun xs => if -4611686018427387904 ≤ k ∧ k < 4611686018427387904 ∧ xs.length * k.toNat ≤ sizeLine then some (.lst ((rep k.toNat xs).map .g)) else none
  | .g (.tuple xs), .g (.int k) => if xs ≠ [] ∧ 2 ≤ k ∧ k ≤ 1000 ∧ xs.length ≤ 1000 then some (.g (.tuple (rep k.toNat xs))) else if xs ≠ [] ∧ k = 1 then some (.g (.tuple xs)) else if xs ≠ [] ∧ k = 0 then some (.g (.tuple [])) else none
  | _, _ => none
theorem v_mul {X : Cx} : V2 X (binaryOp .Mult) fMul := by
  intro pins s σ H x y v u Q I rx ry ⟨d, e, f1, f2, r, hd, he, hF, q⟩
  unfold fMul at hF
  split at hF
  · split at hF
    · rename_i hz
      cases hF
      have := see_int hd; subst this
      have := see_int he; subst this
      rcases hz with hz | hz
      · exact op_mul pins s σ H _ _ v u Q I rx ry ⟨_, _, rfl, rfl, .inl ⟨hz.1, hz.2⟩, fin_int q⟩
      · exact op_mulW pins s σ H _ _ v u Q I rx ry ⟨_, _, rfl, rfl, hz, fin_int q⟩
    · cases hF
  · simp only [Option.bind_eq_some_iff] at hF
    obtain ⟨xs, e1, hF⟩ := hF
    split at hF
    · rename_i hz
      cases hF
      obtain ⟨a, vs, fa, rfl, h1, h2, _⟩ := see_lst hd
      have := see_int he; subst this
      have g1 := seeAll_ground e1 h2
      exact op_rep pins s σ H _ _ v u Q I rx ry ⟨a, _, vs, rfl, rfl, h1, by omega, by omega, by rw [g1.length]; exact hz.2.2, fun p np => fin_lst q np (g1.rep _)⟩
    · cases hF
  · split at hF
    · rename_i hz
      cases hF
      obtain ⟨a, vs, rfl, h1, h2⟩ := see_tup hd
      have := see_int he; subst this
      refine op_repT pins s σ H _ _ v u Q I rx ry ⟨a, _, vs, rfl, rfl, h1, fun e => ?_, hz.2.1, hz.2.2.1, by rw [h2.length]; exact hz.2.2.2, fun p np => fin_tup q np (h2.rep _)⟩
      subst e; cases h2; exact hz.1 rfl
    · split at hF
      · rename_i hz
        cases hF
        obtain ⟨a, vs, rfl, h1, h2⟩ := see_tupH hd
        have := see_int he; subst this
        have hne : vs ≠ [] := fun e => by subst e; cases h2; exact hz.1 rfl
        exact op_repT01 pins s σ H _ _ v u Q I rx ry ⟨a, _, vs, rfl, rfl, SqT.of h1, hne, .inl ⟨hz.2, fin_g q (.tup h1 h2)⟩⟩
      · split at hF
        · rename_i hz
          cases hF
          obtain ⟨a, vs, rfl, h1, h2⟩ := see_tup hd
          have := see_int he; subst this
          have hne : vs ≠ [] := fun e => by subst e; cases h2; exact hz.1 rfl
          exact op_repT01 pins s σ H _ _ v u Q I rx ry ⟨a, _, vs, rfl, rfl, h1, hne, .inr ⟨hz.2, fun p np => fin_tup q np .nil⟩⟩
        · cases hF
  · cases hF
def fMod : D → D → Option D
  | .g (.int a), .g (.int b) => if 0 < b then some (.g (.int (a % b))) else if b < 0 then some (.g (.int (a.fmod b))) else none
  | _, _ => none
theorem v_mod {X : Cx} : V2 X (binaryOp .Mod) fMod := by
  intro pins s σ H x y v u Q I rx ry ⟨d, e, f1, f2, r, hd, he, hF, q⟩
  unfold fMod at hF
  split at hF
  · split at hF
    · rename_i hz
      cases hF
      have := see_int hd; subst this
      have := see_int he; subst this
      exact op_mod pins s σ H _ _ v u Q I rx ry ⟨_, _, rfl, rfl, hz, fin_int q⟩
    · split at hF
      · rename_i hz
        cases hF
        have := see_int hd; subst this
        have := see_int he; subst this
        exact op_modN pins s σ H _ _ v u Q I rx ry ⟨_, _, rfl, rfl, by omega, fin_int q⟩
      · cases hF
  · cases hF
def fDiv : D → D → Option D
  | .g (.int a), .g (.int b) => if 0 < b ∧ (b < 1073741824 ∨ b.natAbs.log2 < 9000) then some (.g (.int (a / b))) else if b < 0 ∧ b.natAbs < 1073741824 then some (.g (.int (a.fdiv b))) else none
  | _, _ => none
theorem v_div {X : Cx} : V2 X (binaryOp .FloorDiv) fDiv := by
  intro pins s σ H x y v u Q I rx ry ⟨d, e, f1, f2, r, hd, he, hF, q⟩
  unfold fDiv at hF
  split at hF
  · split at hF
    · rename_i hz
      cases hF
      have := see_int hd; subst this
      have := see_int he; subst this
      rcases hz with ⟨h0, hz | hz⟩
      · exact op_fdiv pins s σ H _ _ v u Q I rx ry ⟨_, _, rfl, rfl, ⟨h0, hz⟩, fin_int q⟩
      · exact op_fdivW pins s σ H _ _ v u Q I rx ry ⟨_, _, rfl, rfl, ⟨h0, hz⟩, fin_int q⟩
    · split at hF
      · rename_i hz
        cases hF
        have := see_int hd; subst this
        have := see_int he; subst this
        exact op_fdivN pins s σ H _ _ v u Q I rx ry ⟨_, _, rfl, rfl, ⟨by omega, hz.2⟩, fin_int q⟩
      · cases hF
  · cases hF

/-! ### comparisons -/
mutual
def toPD : D → Option PyData
  | .g x => some x
  | .lst ds => (toPDs ds).map .list
  | .tp ds => (toPDs ds).map .tuple
  | .dic _ _ => none
  | .dct _ _ => none
  | .scr _ => none
  | .ft xs => some (.tuple xs)
  | .hole => none
def toPDs : List D → Option (List PyData)
  | [] => some []
  | d :: ds => (toPD d).bind fun x => (toPDs ds).bind fun xs => some (x :: xs)
end
theorem toPDs_map (xs : List PyData) : toPDs (xs.map .g) = some xs := by
  induction xs with
  | nil => rfl
  | cons x xs ih => simp [toPDs, toPD, ih]
mutual
theorem See.dp {K : Fg} {H : Hp} : ∀ (d : D) (v : V) (fp : List Addr) (x : PyData), See K H v d fp → toPD d = some x → Dp K H v x
  | .g x, v, _, _, h, e => by simp [toPD] at e; subst e; exact Gp.dp x v (see_g h).1
  | .lst ds, _, _, _, h, e => by
    simp only [toPD, Option.map_eq_some_iff] at e
    obtain ⟨xs, e, rfl⟩ := e
    cases h with
    | lst h1 h2 h3 => exact .lst (SqL.of h1.lst) (SeeAll.dp ds _ _ xs h2 e)
  | .tp ds, _, _, _, h, e => by
    simp only [toPD, Option.map_eq_some_iff] at e
    obtain ⟨xs, e, rfl⟩ := e
    cases h with
    | tp h1 h2 => exact .tup h1 (SeeAll.dp ds _ _ xs h2 e)
  | .dic _ _, _, _, _, h, e => by simp [toPD] at e
  | .dct _ _, _, _, _, h, e => by simp [toPD] at e
  | .scr _, _, _, _, h, e => by simp [toPD] at e
  | .ft xs, _, _, _, h, e => by
    simp [toPD] at e; subst e
    cases h with | ft h1 h2 h3 h4 => exact .tup (.inl (.inr ⟨_, h1⟩)) (GpAll.dp _ _ h4)
  | .hole, _, _, _, h, e => by simp [toPD] at e
theorem SeeAll.dp {K : Fg} {H : Hp} : ∀ (ds : List D) (vs : List V) (fp : List Addr) (xs : List PyData), SeeAll K H vs ds fp → toPDs ds = some xs → DpAll K H vs xs
  | [], _, _, _, h, e => by
    simp [toPDs] at e; subst e
    cases h; exact .nil
  | d :: ds, _, _, _, h, e => by
    simp only [toPDs, Option.bind_eq_some_iff] at e
    obtain ⟨x, e1, xs, e2, e3⟩ := e
    cases e3
    cases h with
    | cons h1 h2 _ => exact .cons (See.dp d _ _ x h1 e1) (SeeAll.dp ds _ _ xs h2 e2)
end
def okD (x : PyData) : Bool := SeqAt.shaped x
def eqD : D → D → Option Bool
  | .g (.int a), .g (.int b) => some (decide (a = b))
  | .g (.str a), .g (.str b) => some (decide (a = b))
  | d, e => (toPD d).bind fun x => (toPD e).bind fun y => if okD x && okD y then some (PyData.eqv x y) else none
def fEq (d e : D) : Option D := (eqD d e).map fun b => .g (.bool b)
def fNe (d e : D) : Option D := (eqD d e).map fun b => .g (.bool (!b))
theorem v_eq {X : Cx} (hu : X.A.units + 64 < cLine) : V2 X (compareOp .Eq) fEq := by
  intro pins s σ H x y v u Q I rx ry ⟨d, e, f1, f2, r, hd, he, hF, q⟩
  unfold fEq at hF
  simp only [Option.map_eq_some_iff] at hF
  obtain ⟨b, hF, rfl⟩ := hF
  unfold eqD at hF
  split at hF
  · cases hF
    have := see_int hd; subst this
    have := see_int he; subst this
    exact op_eq pins s σ H _ _ v u Q I rx ry ⟨rfl, by rw [dec_int, Bool.beq_eq_decide_eq]; exact fin_bool q⟩
  · rename_i a b
    cases hF
    have := see_str hd; subst this
    have := see_str he; subst this
    have e1 : decide (V.str a = V.str b) = decide (a = b) := by
      by_cases h : a = b
      · subst h; simp
      · rw [decide_eq_false h, decide_eq_false fun z => h (V.str.inj z)]
    exact op_eq pins s σ H _ _ v u Q I rx ry ⟨rfl, by rw [e1]; exact fin_bool q⟩
  · simp only [Option.bind_eq_some_iff] at hF
    obtain ⟨x', e1, y', e2, hF⟩ := hF
    split at hF
    · rename_i hz
      cases hF
      rw [Bool.and_eq_true] at hz
      exact op_eqD hu pins s σ H _ _ v u Q I rx ry ⟨x', y', See.dp d _ _ _ hd e1, See.dp e _ _ _ he e2, hz.1, hz.2, fin_bool q⟩
    · cases hF
theorem v_ne {X : Cx} (hu : X.A.units + 64 < cLine) : V2 X (compareOp .NotEq) fNe := by
  intro pins s σ H x y v u Q I rx ry ⟨d, e, f1, f2, r, hd, he, hF, q⟩
  unfold fNe at hF
  simp only [Option.map_eq_some_iff] at hF
  obtain ⟨b, hF, rfl⟩ := hF
  unfold eqD at hF
  split at hF
  · cases hF
    have := see_int hd; subst this
    have := see_int he; subst this
    exact op_ne pins s σ H _ _ v u Q I rx ry ⟨rfl, by rw [dec_int, Bool.beq_eq_decide_eq]; exact fin_bool q⟩
  · rename_i a b
    cases hF
    have := see_str hd; subst this
    have := see_str he; subst this
    have e1 : decide (V.str a = V.str b) = decide (a = b) := by
      by_cases h : a = b
      · subst h; simp
      · rw [decide_eq_false h, decide_eq_false fun z => h (V.str.inj z)]
    exact op_ne pins s σ H _ _ v u Q I rx ry ⟨rfl, by rw [e1]; exact fin_bool q⟩
  · simp only [Option.bind_eq_some_iff] at hF
    obtain ⟨x', e1, y', e2, hF⟩ := hF
    split at hF
    · rename_i hz
      cases hF
      rw [Bool.and_eq_true] at hz
      exact op_neD hu pins s σ H _ _ v u Q I rx ry ⟨x', y', See.dp d _ _ _ hd e1, See.dp e _ _ _ he e2, hz.1, hz.2, fin_bool q⟩
    · cases hF
/-- d < e -/
def ltD : D → D → Option Bool
  | .g (.int a), .g (.int b) => some (decide (a < b))
  | d, e => (toPD d).bind fun x => (toPD e).bind fun y => match x with
    | .none => none
    | x => if PySem.W.alike x y && okD x && okD y then some (PySem.W.dataLt x y) else none
theorem ltD_some {d e : D} {b : Bool} (h : ltD d e = some b) : (∃ i j, d = .g (.int i) ∧ e = .g (.int j) ∧ b = decide (i < j)) ∨ ∃ x y, toPD d = some x ∧ toPD e = some y ∧ x ≠ .none ∧ PySem.W.alike x y = true ∧ okD x = true ∧ okD y = true ∧ b = PySem.W.dataLt x y := by
  unfold ltD at h
  split at h
  · cases h; exact .inl ⟨_, _, rfl, rfl, rfl⟩
  · simp only [Option.bind_eq_some_iff] at h
    obtain ⟨x, e1, y, e2, h⟩ := h
    split at h
    · cases h
    · rename_i hn
      split at h
      · rename_i hz
        cases h
        simp only [Bool.and_eq_true] at hz
        exact .inr ⟨x, y, e1, e2, fun z => hn z, hz.1.1, hz.1.2, hz.2, rfl⟩
      · cases h
theorem alike_swap {x y : PyData} (h : PySem.W.alike x y = true) : PySem.W.alike y x = true := by rw [PySem.W.alike_comm]; exact h
theorem room_ok {A : Around} {x y : PyData} (hu : A.units + 64 < cLine) (h : okD x = true) : A.units + min x.depth y.depth < cLine := by
  have := SeqAt.depth_of_shaped h
  omega
def fLt (d e : D) : Option D := (ltD d e).map fun b => .g (.bool b)
def fGt (d e : D) : Option D := (ltD e d).map fun b => .g (.bool b)
def fLe (d e : D) : Option D := (ltD e d).map fun b => .g (.bool (!b))
def fGe (d e : D) : Option D := (ltD d e).map fun b => .g (.bool (!b))
theorem v_lt {X : Cx} (hu : X.A.units + 64 < cLine) : V2 X (compareOp .Lt) fLt := by
  intro pins s σ H x y v u Q I rx ry ⟨d, e, f1, f2, r, hd, he, hF, q⟩
  unfold fLt at hF
  simp only [Option.map_eq_some_iff] at hF
  obtain ⟨b, hF, rfl⟩ := hF
  rcases ltD_some hF with ⟨i, j, rfl, rfl, rfl⟩ | ⟨x', y', e1, e2, hn, ha, k1, k2, rfl⟩
  · have := see_int hd; subst this
    have := see_int he; subst this
    exact op_lt pins s σ H _ _ v u Q I rx ry ⟨_, _, rfl, rfl, fin_bool q⟩
  · obtain ⟨as, r1⟩ := Dp.reads I x' x v (See.dp d _ _ _ hd e1) rx
    obtain ⟨bs, r2⟩ := Dp.reads I y' y u (See.dp e _ _ _ he e2) ry
    exact PySem.W.lt_data r1 r2 ha hn (room_ok hu k1) ⟨.bl _, H, I, rfl, fin_bool q⟩
theorem v_gt {X : Cx} (hu : X.A.units + 64 < cLine) : V2 X (compareOp .Gt) fGt := by
  intro pins s σ H x y v u Q I rx ry ⟨d, e, f1, f2, r, hd, he, hF, q⟩
  unfold fGt at hF
  simp only [Option.map_eq_some_iff] at hF
  obtain ⟨b, hF, rfl⟩ := hF
  rcases ltD_some hF with ⟨i, j, rfl, rfl, rfl⟩ | ⟨y', x', e2, e1, hn, ha, k2, k1, rfl⟩
  · have := see_int hd; subst this
    have := see_int he; subst this
    exact op_gt pins s σ H _ _ v u Q I rx ry ⟨_, _, rfl, rfl, fin_bool q⟩
  · obtain ⟨as, r1⟩ := Dp.reads I x' x v (See.dp d _ _ _ hd e1) rx
    obtain ⟨bs, r2⟩ := Dp.reads I y' y u (See.dp e _ _ _ he e2) ry
    exact PySem.W.gt_data r1 r2 (alike_swap ha) (PySem.W.ne_none_both ha hn) (room_ok hu k1) ⟨.bl _, H, I, rfl, fin_bool q⟩
theorem not_lt_int' (i j : Int) : (!decide (j < i)) = decide (i ≤ j) := by
  by_cases h : i ≤ j
  · rw [decide_eq_true h, decide_eq_false (by omega)]; rfl
  · rw [decide_eq_false h, decide_eq_true (by omega)]; rfl
theorem v_le {X : Cx} (hu : X.A.units + 64 < cLine) : V2 X (compareOp .LtE) fLe := by
  intro pins s σ H x y v u Q I rx ry ⟨d, e, f1, f2, r, hd, he, hF, q⟩
  unfold fLe at hF
  simp only [Option.map_eq_some_iff] at hF
  obtain ⟨b, hF, rfl⟩ := hF
  rcases ltD_some hF with ⟨i, j, rfl, rfl, rfl⟩ | ⟨y', x', e2, e1, hn, ha, k2, k1, rfl⟩
  · have := see_int hd; subst this
    have := see_int he; subst this
    rw [not_lt_int'] at q
    exact op_le pins s σ H _ _ v u Q I rx ry ⟨_, _, rfl, rfl, fin_bool q⟩
  · obtain ⟨as, r1⟩ := Dp.reads I x' x v (See.dp d _ _ _ hd e1) rx
    obtain ⟨bs, r2⟩ := Dp.reads I y' y u (See.dp e _ _ _ he e2) ry
    exact PySem.W.le_data r1 r2 (alike_swap ha) (PySem.W.ne_none_both ha hn) (room_ok hu k1) ⟨.bl _, H, I, rfl, fin_bool q⟩
theorem v_ge {X : Cx} (hu : X.A.units + 64 < cLine) : V2 X (compareOp .GtE) fGe := by
  intro pins s σ H x y v u Q I rx ry ⟨d, e, f1, f2, r, hd, he, hF, q⟩
  unfold fGe at hF
  simp only [Option.map_eq_some_iff] at hF
  obtain ⟨b, hF, rfl⟩ := hF
  rcases ltD_some hF with ⟨i, j, rfl, rfl, rfl⟩ | ⟨x', y', e1, e2, hn, ha, k1, k2, rfl⟩
  · have := see_int hd; subst this
    have := see_int he; subst this
    rw [not_lt_int'] at q
    exact op_ge pins s σ H _ _ v u Q I rx ry ⟨_, _, rfl, rfl, fin_bool q⟩
  · obtain ⟨as, r1⟩ := Dp.reads I x' x v (See.dp d _ _ _ hd e1) rx
    obtain ⟨bs, r2⟩ := Dp.reads I y' y u (See.dp e _ _ _ he e2) ry
    exact PySem.W.ge_data r1 r2 ha hn (room_ok hu k1) ⟨.bl _, H, I, rfl, fin_bool q⟩

/-! ### in -/
def flatK : PyData → Bool
  | .int _ => true
  | .str _ => true
  | _ => false
/-- data that may be such a key, n tuples deep -/
def nkB : Nat → PyData → Bool
  | _, .int _ => true
  | _, .none => true
  | n + 1, .tuple xs => xs.all (nkB n)
  | _, _ => false
/-- the keys and the values of a dict, where x may be a key -/
def dPart : D → PyData → Option (List PyData × List D)
  | .dic ks vs, x => if flatK x then some (ks, vs) else none
  | .dct ks vs, .tuple xs => if nkB 4 (.tuple xs) then some (ks, vs) else none
  | _, _ => none
/-- is x among them -/
def inD : D → D → Option Bool
  | .g x, c => match dPart c x with
    | some (ks, _) => some (ks.any fun k => PyData.eqv k x)
    | none => (toPD c).bind fun
      | .list xs => if okD x && okD (.list xs) then some (xs.any fun z => PyData.eqv z x) else none
      | .tuple xs => if okD x && okD (.tuple xs) then some (xs.any fun z => PyData.eqv z x) else none
      | _ => none
  | _, _ => none
def fIn (d e : D) : Option D := (inD d e).map fun b => .g (.bool b)
def fNotIn (d e : D) : Option D := (inD d e).map fun b => .g (.bool (!b))
theorem key_eqv (k k' : Key) : PyData.eqv (keyD k) (keyD k') = decide (k = k') := by
  cases k with
  | inl i =>
    cases k' with
    | inl j => rw [key_ll]; rfl
    | inr y => rw [key_lr]; rfl
  | inr x =>
    cases k' with
    | inl j => rw [key_rl]; rfl
    | inr y => rw [key_rr]; show (x == y) = _; rw [Bool.beq_eq_decide_eq]
theorem valV_some {kvs : List (Key × V)} {k : Key} : (valV kvs k).isSome = (kvs.map fun kv => keyD kv.1).any fun z => PyData.eqv z (keyD k) := by
  unfold valV
  rw [Option.isSome_map, List.any_map]
  induction kvs with
  | nil => rfl
  | cons kv kvs ih =>
    rw [List.find?_cons, List.any_cons, ← ih, Function.comp, key_eqv]
    cases decide (kv.1 = k) <;> rfl
theorem flatK_key {K : Fg} {H : Hp} {v : V} {x : PyData} (h : flatK x = true) (g : Gp K H v x) : ∃ k, x = keyD k ∧ v = kV k := by
  cases g with
  | int i => exact ⟨.inl i, rfl, rfl⟩
  | str z => exact ⟨.inr z, rfl, rfl⟩
  | _ => cases h
theorem see_dic {K : Fg} {H : Hp} {v : V} {fp : List Addr} {ks : List PyData} {ds : List D} (h : See K H v (.dic ks ds) fp) : ∃ a kvs fp', v = .ref a ∧ Rd H a (.dK kvs) ∧ ks = kvs.map (fun kv => keyD kv.1) ∧ SeeAll K H (kvs.map (·.2)) ds fp' ∧ fp = a :: fp' := by
  cases h with | dic h1 h2 h3 h4 => exact ⟨_, _, _, rfl, h1.dK, h2, h3, rfl⟩
theorem see_dct {K : Fg} {H : Hp} {v : V} {fp : List Addr} {ks : List PyData} {ds : List D} (h : See K H v (.dct ks ds) fp) : ∃ a es fp', v = .ref a ∧ Rd H a (NkO a es) ∧ ks = es.map (fun e => e.1.data) ∧ NkKs K H es ∧ SeeAll K H (es.map (·.2.2)) ds fp' ∧ fp = a :: fp' := by
  cases h with | dct h1 h2 hk h3 h4 => exact ⟨_, _, _, rfl, h1.rd, h2, hk, h3, rfl⟩
mutual
theorem data_eqv : ∀ k k' : NestedKey, PyData.eqv k.data k'.data = NestedKey.beq k k'
  | .none, .none => by simp [NestedKey.data, NestedKey.beq, PyData.eqv]
  | .none, .num _ => by simp [NestedKey.data, NestedKey.beq, PyData.eqv]
  | .none, .text _ => by simp [NestedKey.data, NestedKey.beq, PyData.eqv]
  | .none, .tup _ => by simp [NestedKey.data, NestedKey.beq, PyData.eqv]
  | .num _, .none => by simp [NestedKey.data, NestedKey.beq, PyData.eqv]
  | .num a, .num b => by
    simp only [NestedKey.data, NestedKey.beq]
    rw [show PyData.int a = keyD (.inl a) from rfl, show PyData.int b = keyD (.inl b) from rfl, key_eqv]
    by_cases h : a = b <;> simp [h]
  | .num _, .text _ => by simp [NestedKey.data, NestedKey.beq, PyData.eqv]
  | .num _, .tup _ => by simp [NestedKey.data, NestedKey.beq, PyData.eqv]
  | .text _, .none => by simp [NestedKey.data, NestedKey.beq, PyData.eqv]
  | .text _, .num _ => by simp [NestedKey.data, NestedKey.beq, PyData.eqv]
  | .text a, .text b => by
    simp only [NestedKey.data, NestedKey.beq]
    rw [show PyData.str a = keyD (.inr a) from rfl, show PyData.str b = keyD (.inr b) from rfl, key_eqv]
    by_cases h : a = b <;> simp [h]
  | .text _, .tup _ => by simp [NestedKey.data, NestedKey.beq, PyData.eqv]
  | .tup _, .none => by simp [NestedKey.data, NestedKey.beq, PyData.eqv]
  | .tup _, .num _ => by simp [NestedKey.data, NestedKey.beq, PyData.eqv]
  | .tup _, .text _ => by simp [NestedKey.data, NestedKey.beq, PyData.eqv]
  | .tup a, .tup b => by
    simp only [NestedKey.data, NestedKey.beq]
    rw [← data_eqvs a b]
    simp [PyData.eqv]
theorem data_eqvs : ∀ ks ks' : List NestedKey, PyData.eqvAll (NestedKey.datas ks) (NestedKey.datas ks') = NestedKey.beqAll ks ks'
  | [], [] => by simp [NestedKey.datas, NestedKey.beqAll, PyData.eqvAll]
  | [], _ :: _ => by simp [NestedKey.datas, NestedKey.beqAll, PyData.eqvAll]
  | _ :: _, [] => by simp [NestedKey.datas, NestedKey.beqAll, PyData.eqvAll]
  | a :: k, b :: k' => by
    simp only [NestedKey.datas, NestedKey.beqAll]
    rw [PySem.W.eqv_all_cons, data_eqv a b, data_eqvs k k']
end
theorem key_eqvN (k k' : NestedKey) : PyData.eqv k.data k'.data = decide (k = k') := by rw [data_eqv, NestedKey.decide_eq]
theorem nkB_key : ∀ (n : Nat) (x : PyData), nkB n x = true → ∃ k : NestedKey, x = k.data ∧ k.depth ≤ n ∧ noTx k = true := by
  intro n
  induction n with
  | zero =>
    intro x h
    cases x with
    | int i => exact ⟨.num i, by simp only [NestedKey.data], by simp only [NestedKey.depth]; omega, by simp only [noTx]⟩
    | none => exact ⟨.none, by simp only [NestedKey.data], by simp only [NestedKey.depth]; omega, by simp only [noTx]⟩
    | _ => simp [nkB] at h
  | succ n ih =>
    intro x h
    cases x with
    | int i => exact ⟨.num i, by simp only [NestedKey.data], by simp only [NestedKey.depth]; omega, by simp only [noTx]⟩
    | none => exact ⟨.none, by simp only [NestedKey.data], by simp only [NestedKey.depth]; omega, by simp only [noTx]⟩
    | tuple xs =>
      simp only [nkB] at h
      have : ∃ ks : List NestedKey, xs = NestedKey.datas ks ∧ NestedKey.depthAll ks ≤ n ∧ noTxs ks = true := by
        induction xs with
        | nil => exact ⟨[], by simp only [NestedKey.datas], by simp only [NestedKey.depthAll]; omega, by simp only [noTxs]⟩
        | cons x xs ihx =>
          rw [List.all_cons, Bool.and_eq_true] at h
          obtain ⟨k, rfl, h1, h2⟩ := ih x h.1
          obtain ⟨ks, rfl, h3, h4⟩ := ihx h.2
          exact ⟨k :: ks, by simp only [NestedKey.datas], by simp only [NestedKey.depthAll]; omega, by simp only [noTxs, h2, h4]; rfl⟩
      obtain ⟨ks, rfl, h1, h2⟩ := this
      exact ⟨.tup ks, by simp only [NestedKey.data], by simp only [NestedKey.depth]; omega, by simp only [noTx]; exact h2⟩
    | _ => simp [nkB] at h
/-- .. stands as a tuple -/
theorem nkB_at {K : Fg} {H : Hp} {w : V} {xs : List PyData} (h : nkB 4 (.tuple xs) = true) (g : Gp K H w (.tuple xs)) : ∃ (k : NestedKey) (b : Addr), PyData.tuple xs = k.data ∧ w = .ref b ∧ NkK K H k b := by
  obtain ⟨k, e, h1, h2⟩ := nkB_key 4 _ h
  cases g with
  | @tup b vs _ g1 g2 => exact ⟨k, b, e, rfl, by rw [← e]; exact .tup g1 g2, by omega, h2⟩
/-- the value at a key -/
def dGet : List PyData → List D → PyData → Option D
  | k :: ks, v :: vs, x => if PyData.eqv k x = true then some v else dGet ks vs x
  | _, _, _ => none
theorem dGet_gen {K : Fg} {H : Hp} {κ : Type} [DecidableEq κ] {f : κ → PyData} (hf : ∀ k k', PyData.eqv (f k) (f k') = decide (k = k')) : ∀ {kvs : List (κ × V)} {ds : List D} {fp : List Addr} {k : κ}, SeeAll K H (kvs.map (·.2)) ds fp →
    (valV kvs k).isSome = ((kvs.map fun kv => f kv.1).any fun z => PyData.eqv z (f k)) ∧ (∀ d, dGet (kvs.map fun kv => f kv.1) ds (f k) = some d → ∃ v g, valV kvs k = some v ∧ See K H v d g ∧ ∀ b ∈ g, b ∈ fp) ∧ (dGet (kvs.map fun kv => f kv.1) ds (f k) = none → valV kvs k = none)
  | [], ds, _, _, h => by cases h; exact ⟨rfl, fun d e => by simp [dGet] at e, fun _ => rfl⟩
  | kv :: kvs, [], _, _, h => by cases h
  | kv :: kvs, d' :: ds, _, k, h => by
    simp only [List.map_cons] at h ⊢
    cases h with
    | cons h1 h2 _ =>
      obtain ⟨i1, i2, i3⟩ := dGet_gen hf (k := k) h2
      rw [dGet, hf]
      by_cases hk : kv.1 = k
      · have e : valV (kv :: kvs) k = some kv.2 := by unfold valV; rw [List.find?_cons, decide_eq_true hk]; rfl
        rw [e, List.any_cons, hf, decide_eq_true hk, if_pos rfl]
        exact ⟨rfl, fun d q => by cases q; exact ⟨_, _, rfl, h1, fun b m => List.mem_append_left _ m⟩, fun q => by cases q⟩
      · have e : valV (kv :: kvs) k = valV kvs k := by unfold valV; rw [List.find?_cons, decide_eq_false hk]
        rw [e, List.any_cons, hf, decide_eq_false hk, Bool.false_or, if_neg (by decide)]
        exact ⟨i1, fun d q => by
          obtain ⟨v, g, e1, e2, e3⟩ := i2 d q
          exact ⟨v, g, e1, e2, fun b m => List.mem_append_right _ (e3 b m)⟩, i3⟩
/-- a dict, looked up at ground data -/
theorem dget_any {K : Fg} {H : Hp} {v w : V} {d : D} {x : PyData} {fp : List Addr} {ks : List PyData} {vs : List D} (h : See K H v d fp) (hp : dPart d x = some (ks, vs)) (g : Gp K H w x) : ∃ a r, v = .ref a ∧ GetU K H a w r ∧ r.isSome = (ks.any fun z => PyData.eqv z x) ∧
    (∀ d', dGet ks vs x = some d' → ∃ u f, r = some u ∧ See K H u d' f ∧ ∀ b ∈ f, b ∈ fp) ∧ (dGet ks vs x = none → r = none) := by
  unfold dPart at hp
  split at hp
  · split at hp
    · rename_i hz
      cases hp
      obtain ⟨a, kvs, fp', rfl, h1, rfl, h3, rfl⟩ := see_dic h
      obtain ⟨k, rfl, rfl⟩ := flatK_key hz g
      obtain ⟨i1, i2, i3⟩ := dGet_gen key_eqv (k := k) h3
      exact ⟨a, _, rfl, .inl (.inl ⟨kvs, k, h1, rfl, rfl⟩), i1, fun d' e => by
        obtain ⟨u, f, e1, e2, e3⟩ := i2 d' e
        exact ⟨u, f, e1, e2, fun b m => List.mem_cons_of_mem _ (e3 b m)⟩, i3⟩
    · cases hp
  · split at hp
    · rename_i hz
      cases hp
      obtain ⟨a, es, fp', rfl, h1, rfl, hk, h3, rfl⟩ := see_dct h
      obtain ⟨k, b, e, rfl, kb⟩ := nkB_at hz g
      rw [e]
      have e1 : es.map (fun e => e.1.data) = (kvN es).map fun kv => kv.1.data := by unfold kvN; rw [List.map_map]; rfl
      have e2 : es.map (·.2.2) = (kvN es).map (·.2) := by unfold kvN; rw [List.map_map]; rfl
      rw [e1]
      rw [e2] at h3
      obtain ⟨i1, i2, i3⟩ := dGet_gen key_eqvN (k := k) h3
      exact ⟨a, _, rfl, .inr ⟨es, k, b, h1, hk, rfl, kb, rfl⟩, i1, fun d' e => by
        obtain ⟨u, f, q1, q2, q3⟩ := i2 d' e
        exact ⟨u, f, q1, q2, fun b m => List.mem_cons_of_mem _ (q3 b m)⟩, i3⟩
    · cases hp
  · cases hp
theorem inD_some {d e : D} {b : Bool} (h : inD d e = some b) : ∃ x, d = .g x ∧ ((∃ ks vs, dPart e x = some (ks, vs) ∧ b = ks.any fun k => PyData.eqv k x) ∨ ∃ xs, okD x = true ∧ b = (xs.any fun z => PyData.eqv z x) ∧ ((toPD e = some (.list xs) ∧ okD (.list xs) = true) ∨ (toPD e = some (.tuple xs) ∧ okD (.tuple xs) = true))) := by
  unfold inD at h
  split at h
  · rename_i x
    refine ⟨x, rfl, ?_⟩
    split at h
    · rename_i ks vs e1
      cases h; exact .inl ⟨ks, vs, e1, rfl⟩
    · simp only [Option.bind_eq_some_iff] at h
      obtain ⟨c, e1, h⟩ := h
      split at h
      · split at h
        · rename_i hz
          cases h
          rw [Bool.and_eq_true] at hz
          exact .inr ⟨_, hz.1, rfl, .inl ⟨e1, hz.2⟩⟩
        · cases h
      · split at h
        · rename_i hz
          cases h
          rw [Bool.and_eq_true] at hz
          exact .inr ⟨_, hz.1, rfl, .inr ⟨e1, hz.2⟩⟩
        · cases h
      · cases h
  · cases h
theorem room_in {A : Around} {x : PyData} {n : Nat} (hu : A.units + 65 < cLine) (h : okD x = true) : A.units + 1 + min n x.depth < cLine := by
  have := SeqAt.depth_of_shaped h
  omega
theorem v_in {X : Cx} (hu : X.A.units + 65 < cLine) : V2 X (compareOp .In) fIn := by
  intro pins s σ H x y v u Q I rx ry ⟨d, e, f1, f2, r, hd, he, hF, q⟩
  unfold fIn at hF
  simp only [Option.map_eq_some_iff] at hF
  obtain ⟨b, hF, rfl⟩ := hF
  obtain ⟨z, rfl, ⟨ks, vs, e1, rfl⟩ | ⟨xs, k1, rfl, h | h⟩⟩ := inD_some hF
  · obtain ⟨a, r, rfl, g1, g2, _⟩ := dget_any he e1 (see_g hd).1
    rw [← g2] at q
    obtain rfl : u = Value.ref a := ry
    exact u_in (by omega) I g1 rx fun s' I' => ⟨.bl _, H, I', rfl, fin_bool q⟩
  · exact op_inD hu pins s σ H _ _ v u Q I rx ry ⟨z, xs, Gp.dp z _ (see_g hd).1, See.dp e _ _ _ he h.1, k1, h.2, fin_bool q⟩
  · obtain ⟨as, r1⟩ := Dp.reads I _ x v (Gp.dp z _ (see_g hd).1) rx
    obtain ⟨bs, r2⟩ := Dp.reads I _ y u (See.dp e _ _ _ he h.1) ry
    exact SeqAt.in_tuple_reads r2 r1 (SeqAt.canLay_of_shaped h.2) (SeqAt.canLay_of_shaped k1) (room_in hu k1) ⟨.bl _, H, I, rfl, fin_bool q⟩
theorem v_notIn {X : Cx} (hu : X.A.units + 65 < cLine) : V2 X (compareOp .NotIn) fNotIn := by
  intro pins s σ H x y v u Q I rx ry ⟨d, e, f1, f2, r, hd, he, hF, q⟩
  unfold fNotIn at hF
  simp only [Option.map_eq_some_iff] at hF
  obtain ⟨b, hF, rfl⟩ := hF
  obtain ⟨z, rfl, ⟨ks, vs, e1, rfl⟩ | ⟨xs, k1, rfl, h | h⟩⟩ := inD_some hF
  · obtain ⟨a, r, rfl, g1, g2, _⟩ := dget_any he e1 (see_g hd).1
    rw [← g2] at q
    obtain rfl : u = Value.ref a := ry
    exact u_notIn (by omega) I g1 rx fun s' I' => ⟨.bl _, H, I', rfl, fin_bool q⟩
  · exact op_notInD hu pins s σ H _ _ v u Q I rx ry ⟨z, xs, Gp.dp z _ (see_g hd).1, See.dp e _ _ _ he h.1, k1, h.2, fin_bool q⟩
  · obtain ⟨as, r1⟩ := Dp.reads I _ x v (Gp.dp z _ (see_g hd).1) rx
    obtain ⟨bs, r2⟩ := Dp.reads I _ y u (See.dp e _ _ _ he h.1) ry
    exact SeqAt.notIn_tuple_reads r2 r1 (SeqAt.canLay_of_shaped h.2) (SeqAt.canLay_of_shaped k1) (room_in hu k1) ⟨.bl _, H, I, rfl, fin_bool q⟩
end Ow

set_option Elab.async false
set_option linter.all false
set_option maxRecDepth 100000
set_option maxHeartbeats 1000000
/-! OwD: places, slices, built-ins by name. -/
namespace Ow
open PySem PySem.Spec PyProof.Rows L2

/-! ### o[i] -/
def toPv : D → Option Pv
  | .g x => some (.own (.g x))
  | .hole => none
  | d => some (.bor d)
def ixD : D → D → Option Pv
  | .lst ds, .g (.int i) => (atI ds i).bind toPv
  | .g (.tuple xs), .g (.int i) => (atI xs i).map fun x => .own (.g x)
  | .tp ds, .g (.int i) => (atI ds i).bind toPv
  | .g (.str z), .g (.int i) => if z.length ≤ sizeLine then (atI z.cps.toList i).map fun c => .own (.g (.str ⟨#[c]⟩)) else none
  | d, .g x => (dPart d x).bind fun p => (dGet p.1 p.2 x).bind toPv
  | _, _ => none
def pIx (fa fb : PF) : PF := fun env => (fa env).bind fun a => (fb env).bind fun b => PR.of (ixD a.d b.d)
/-- by values: what is lent stands where the first one stands -/
def rIxD (K : Fg) : R2 := fun x y H Q => ∃ d e f1 f2 p, See K H x d f1 ∧ See K H y e f2 ∧ ixD d e = some p ∧ ∀ v fp, (match p with | .own r => Own K H v r fp ∧ fp = [] | .bor r => See K H v r fp ∧ ∀ b ∈ fp, b ∈ f1) → Q v H
theorem toPv_see {K : Fg} {H : Hp} {v : V} {d : D} {fp : List Addr} {p : Pv} (h : See K H v d fp) (e : toPv d = some p) : (match p with | .own r => Own K H v r fp ∧ fp = [] | .bor r => See K H v r fp ∧ ∀ b ∈ fp, b ∈ fp) := by
  cases d with
  | g x =>
    cases e
    obtain ⟨g, rfl⟩ := see_g h
    exact ⟨.g g, rfl⟩
  | hole => cases e
  | _ => cases e; exact ⟨h, fun _ m => m⟩
theorem atI_rel {α β : Type} {R : α → β → Prop} {xs : List α} {ys : List β} (hl : xs.length = ys.length) (h : ∀ (j : Nat) (y : β), ys[j]? = some y → ∃ x, xs[j]? = some x ∧ R x y) {i : Int} {y : β} (e : atI ys i = some y) : ∃ x, atI xs i = some x ∧ R x y := by
  unfold atI at e ⊢
  rw [hl]
  cases e1 : ixN ys.length i with
  | none => rw [e1] at e; cases e
  | some j =>
    rw [e1] at e
    exact h j y e
theorem v_ix {X : Cx} (hu : X.A.units + 64 < cLine) : IxR X (rIxD X.K) := by
  intro value slice pins s σ H x y v u Q I rx ry ⟨d, e, f1, f2, p, hd, he, hF, q⟩ hs
  unfold ixD at hF
  split at hF
  · rename_i ds i
    have := see_int he; subst this
    obtain ⟨a, vs, fa, rfl, h1, h2, rfl⟩ := see_lst hd
    rw [Option.bind_eq_some_iff] at hF
    obtain ⟨d', e1, e2⟩ := hF
    obtain ⟨w, e3, f, e4, e5⟩ := atI_rel (R := fun w d => ∃ f, See X.K H w d f ∧ ∀ b ∈ f, b ∈ fa) h2.length (fun j y hy => by
      obtain ⟨w, f, e1, e2, e3⟩ := h2.get hy
      exact ⟨w, e1, f, e2, e3⟩) e1
    refine ix_list value slice pins s σ H _ _ v u Q I rx ry ⟨a, vs, i, w, rfl, rfl, SqL.of h1, e3, q w f ?_⟩ hs
    have := toPv_see e4 e2
    cases p with
    | own r => exact this
    | bor r => exact ⟨this.1, fun b m => List.mem_cons_of_mem _ (e5 b m)⟩
  · rename_i xs i
    have := see_int he; subst this
    obtain ⟨a, vs, rfl, h1, h2⟩ := see_tup hd
    rw [Option.map_eq_some_iff] at hF
    obtain ⟨z, e1, rfl⟩ := hF
    obtain ⟨w, e3, e4⟩ := atI_rel (R := fun w d => Gp X.K H w d) h2.length (fun j y hy => h2.get hy) e1
    exact ix_tup value slice pins s σ H _ _ v u Q I rx ry ⟨a, vs, i, w, rfl, rfl, h1, e3, q w [] ⟨.g e4, rfl⟩⟩ hs
  · rename_i ds i
    have := see_int he; subst this
    cases hd with
    | tp h1 h2 =>
      rename_i a vs
      rw [Option.bind_eq_some_iff] at hF
      obtain ⟨d', e1, e2⟩ := hF
      obtain ⟨w, e3, f, e4, e5⟩ := atI_rel (R := fun w d => ∃ f, See X.K H w d f ∧ ∀ b ∈ f, b ∈ f1) h2.length (fun j y hy => by
        obtain ⟨w, f, e1, e2, e3⟩ := h2.get hy
        exact ⟨w, e1, f, e2, e3⟩) e1
      refine ix_tup value slice pins s σ H _ _ v u Q I rx ry ⟨a, vs, i, w, rfl, rfl, h1, e3, q w f ?_⟩ hs
      have := toPv_see e4 e2
      cases p with
      | own r => exact this
      | bor r => exact ⟨this.1, e5⟩
  · split at hF
    · rename_i z i hz
      have := see_int he; subst this
      have := see_str hd; subst this
      rw [Option.map_eq_some_iff] at hF
      obtain ⟨c, e1, rfl⟩ := hF
      exact ix_str value slice pins s σ H _ _ v u Q I rx ry ⟨z, i, c, rfl, rfl, hz, e1, q _ [] ⟨.g (.str _), rfl⟩⟩ hs
    · cases hF
  · rename_i z _ _ _ _
    rw [Option.bind_eq_some_iff] at hF
    obtain ⟨⟨ks, vs⟩, e0, hF⟩ := hF
    rw [Option.bind_eq_some_iff] at hF
    obtain ⟨d', e1, e2⟩ := hF
    obtain ⟨a, r, rfl, g1, _, g3, _⟩ := dget_any hd e0 (see_g he).1
    obtain ⟨w, f, rfl, e4, e5⟩ := g3 d' e1
    obtain rfl : v = Value.ref a := rx
    refine tail_any (u_at I g1.isU).1 PySem.F.slot_dict_getitem.lookup (u_getItem hu I g1 ry fun w' s3 I3 rw' => ⟨w, H, I3, rw', q w f ?_⟩) hs
    have := toPv_see e4 e2
    cases p with
    | own r => exact this
    | bor r => exact ⟨this.1, fun b m => e5 b (this.2 b m)⟩
  · cases hF
section
variable {X : Cx} {y : Wi} {a b c e : Expr} {es : List Expr} {pos : Pos}
theorem p_ix {fa fb : PF} (hu : X.A.units + 64 < cLine) (ha : P X y a fa) (hb : P X y b fb) (hs : PlainIx b) : P X y (.Subscript a b pos) (pIx fa fb) := by
  refine ⟨pe_imp (pe_ix (v_ix hu) ha.pe hb.pe hs) fun σ H Q h => ?_⟩
  obtain ⟨env, Z, hR, h⟩ := h
  refine ⟨env, Z, hR, (PR.post_bind h).mono (fun a h v1 H1 fp1 s1 o1 => ?_) fun x q => q⟩
  refine ⟨env, Z, hR.same s1, (PR.post_bind h).mono (fun b h v2 H2 fp2 s2 o2 => ?_) fun x q => q.same s1⟩
  obtain ⟨p, e, q⟩ := PR.post_of h
  refine ⟨a.d, b.d, fp1, fp2, p, o1.see.same s2, o2.see, e, fun v fp hp => q v H2 fp (s1.trans s2) ?_⟩
  cases p with
  | own r => exact ⟨hp.1, by rw [hp.2]; simp⟩
  | bor r => exact ⟨hp.1, fun b m => o1.prov b (hp.2 b m)⟩

/-! ### o[i:j] -/
theorem RelAll.take {K : Fg} {H : Hp} {C : Addr → HO → Prop} : ∀ {ds : List D} {vs : List V} {fp : List Addr} (n : Nat), RelAll K H C vs ds fp → ∃ f, RelAll K H C (vs.take n) (ds.take n) f ∧ ∀ b ∈ f, b ∈ fp
  | [], _, _, n, h => by cases h; simp; exact ⟨[], .nil, by simp⟩
  | d :: ds, _, _, 0, h => by simp; exact ⟨[], .nil, by simp⟩
  | d :: ds, _, _, n + 1, h => by
    cases h with
    | cons h1 h2 h3 =>
      obtain ⟨f, e1, e2⟩ := RelAll.take n h2
      refine ⟨_, .cons h1 e1 fun b m q => h3 b m (e2 b q), fun b m => ?_⟩
      rcases List.mem_append.mp m with m | m
      · exact List.mem_append_left _ m
      · exact List.mem_append_right _ (e2 b m)
theorem RelAll.drop {K : Fg} {H : Hp} {C : Addr → HO → Prop} : ∀ {ds : List D} {vs : List V} {fp : List Addr} (n : Nat), RelAll K H C vs ds fp → ∃ f, RelAll K H C (vs.drop n) (ds.drop n) f ∧ ∀ b ∈ f, b ∈ fp
  | [], _, _, n, h => by cases h; simp; exact ⟨[], .nil, by simp⟩
  | d :: ds, _, fp, 0, h => ⟨fp, by simpa using h, fun _ m => m⟩
  | d :: ds, _, _, n + 1, h => by
    cases h with
    | cons h1 h2 h3 =>
      obtain ⟨f, e1, e2⟩ := RelAll.drop n h2
      exact ⟨f, by simpa using e1, fun b m => List.mem_append_right _ (e2 b m)⟩
def cutL {α : Type} (xs : List α) (lo hi : Option Int) : List α := (xs.drop (HT.sIx xs.length 0 lo)).take (HT.sIx xs.length xs.length hi - HT.sIx xs.length 0 lo)
theorem cutL_V (xs : List V) (lo hi : Option Int) : cutV xs lo hi = cutL xs lo hi := rfl
/-- the part of a list: its items go along where they were its own -/
def slD : Pv → Option Int → Option Int → Option D
  | .own (.lst ds), lo, hi => some (.lst (cutL ds lo hi))
  | .bor (.lst ds), lo, hi => (gAll ds).map fun xs => .lst ((cutL xs lo hi).map .g)
  | .own (.g (.tuple xs)), lo, hi => some (.g (.tuple (cutL xs lo hi)))
  | .own (.g (.str z)), lo, hi => if z.length ≤ sizeLine then some (.g (.str (cutS z lo hi))) else none
  | _, _, _ => none
abbrev PO' := List D → PR (Option Int)
def tPO' (K : Fg) (y : Wi) (f : PO') : TO := fun σ H Q => ∃ env Z, RdEnv K Z H σ env ∧ (f env).post (fun o => ∀ H', Same H H' → Q o H') (EP' K y σ H)
structure PPart (X : Cx) (y : Wi) (e : Option Expr) (f : PO') : Prop where
  po : PO X e (tPO' X.K y f)
theorem po_imp {X : Cx} {e : Option Expr} {t t' : TO} (h : PO X e t) (i : ∀ σ H Q, t' σ H Q → t σ H Q) : PO X e t' := ⟨fun pins s σ H Q I q => h.run pins s σ H Q I (i σ H Q q)⟩
def pNoPart : PO' := fun _ => .ok none
theorem pp_none : PPart X y none pNoPart := ⟨po_imp po_none fun σ H Q ⟨_, _, _, q⟩ => q H (Same.refl H)⟩
def asI : Pv → PR Int
  | .own (.g (.int i)) => .ok i
  | _ => .bad
theorem asI_post {p : Pv} {ok : Int → Prop} {er : Ex → Prop} (h : (asI p).post ok er) : ∃ b, p = .own (.g (.int b)) ∧ ok b := by
  unfold asI at h
  split at h
  · exact ⟨_, rfl, h⟩
  · exact h.elim
def pPart (f : PF) : PO' := fun env => (f env).bind fun p => (asI p).bind fun i => .ok (some i)
theorem pp_some {f : PF} (h : P X y e f) : PPart X y (some e) (pPart f) := by
  refine ⟨po_imp (po_some h.pe) fun σ H Q h => ?_⟩
  obtain ⟨env, Z, hR, h⟩ := h
  refine ⟨env, Z, hR, (PR.post_bind h).mono (fun p h v1 H1 fp1 s1 o1 => ?_) fun x q => q⟩
  obtain ⟨i, rfl, h⟩ := asI_post (PR.post_bind h)
  have := see_int o1.see; subst this
  exact ⟨i, rfl, h H1 s1⟩
def pSl (f : PF) (lo hi : PO') : PF := fun env => (f env).bind fun p => (lo env).bind fun l => (hi env).bind fun h => (PR.of (slD p l h)).bind fun d => .ok (.own d)
def rSlD (K : Fg) : V → Option Int → Option Int → Hp → VK → Prop := fun x lo hi H Q => rSlL K x lo hi H Q ∨ rSlA K x lo hi H Q ∨ rSlS x lo hi H Q
theorem sl_all : SlR X (rSlD X.K) := sl_list.or (sl_tupA.or sl_str)
theorem cut_whole {α : Type} {xs : List α} {lo hi : Option Int} (h : HT.sIx xs.length 0 lo = 0 ∧ HT.sIx xs.length xs.length hi = xs.length) : cutL xs lo hi = xs := by
  unfold cutL
  rw [h.1, h.2]; simp
theorem p_sl {f : PF} {lo hi : Option Expr} {fl fh : PO'} {p2 : Pos} (he : P X y e f) (hl : PPart X y lo fl) (hh : PPart X y hi fh) : P X y (.Subscript e (.Slice lo hi none p2) pos) (pSl f fl fh) := by
  refine ⟨pe_imp (pe_slice sl_all he.pe hl.po hh.po) fun σ H Q h => ?_⟩
  obtain ⟨env, Z, hR, h⟩ := h
  refine ⟨env, Z, hR, (PR.post_bind h).mono (fun p h v1 H1 fp1 s1 o1 => ?_) fun x q => q⟩
  refine ⟨env, Z, hR.same s1, (PR.post_bind h).mono (fun l h H2 s2 => ?_) fun x q => q.same s1⟩
  refine ⟨env, Z, hR.same (s1.trans s2), (PR.post_bind h).mono (fun u h H3 s3 => ?_) fun x q => q.same (s1.trans s2)⟩
  obtain ⟨d, e, q⟩ := PR.post_of (PR.post_bind h)
  have s23 := s2.trans s3
  have s13 := s1.trans s23
  have q' : Fin' X.K H3 d Q := fun v H' fp s o n => q v H' fp (s13.trans s) ⟨o, fun b m => s13.free (n b m)⟩
  unfold slD at e
  split at e
  · rename_i ds _ _
    cases e
    cases o1.1 with
    | lst h1 h2 h3 =>
      rename_i a vs fp
      refine .inl ⟨a, vs, rfl, SqL.of (s23 _ _ h1), fun p np => ?_⟩
      rw [cutL_V]
      obtain ⟨f1, g1, g2⟩ := h2.drop (HT.sIx ds.length 0 l)
      obtain ⟨f2, g3, g4⟩ := g1.take (HT.sIx ds.length ds.length u - HT.sIx ds.length 0 l)
      have hlen := h2.length
      have g5 : OwnAll X.K H3 (cutL vs l u) (cutL ds l u) f2 := by
        unfold cutL
        rw [hlen]
        exact OwnAll.same s23 g3
      have hp : p ∉ f2 := fun m => by
        obtain ⟨ob, e⟩ := g5.live m
        rw [np] at e; cases e
      refine q _ _ (p :: f2) (s13.trans (same_upd np)) ⟨.lst upd_same (g5.same (same_upd np)) hp, fun b m => ?_⟩
      rcases List.mem_cons.mp m with rfl | m
      · exact s13.free np
      · exact o1.2 b (List.mem_cons_of_mem _ (g2 b (g4 b m)))
  · rename_i ds _ _
    rw [Option.map_eq_some_iff] at e
    obtain ⟨xs, e1, rfl⟩ := e
    obtain ⟨a, vs, fa, rfl, h1, h2, _⟩ := see_lst o1.1
    have g1 := seeAll_ground e1 h2
    have hlen := g1.length
    refine .inl ⟨a, vs, rfl, SqL.of (s23 _ _ h1), fun p np => ?_⟩
    rw [cutL_V]
    refine fin_lst q' np ?_
    unfold cutL
    rw [hlen]
    exact GpAll.take _ (GpAll.drop _ (GpAll.frame (Tk.same s23) _ _ g1))
  · rename_i xs _ _
    cases e
    obtain ⟨a, vs, rfl, h1, h2⟩ := see_tupH o1.1
    have h1 := s23 _ _ h1
    have h2 := GpAll.frame (Tk.same s23) _ _ h2
    have hlen := h2.length
    have g : GpAll X.K H3 (cutL vs l u) (cutL xs l u) := by
      unfold cutL
      rw [hlen]
      exact GpAll.take _ (GpAll.drop _ h2)
    refine .inr (.inl ⟨a, vs, rfl, SqT.of h1, fun e => ?_, fun _ p np => fin_tup q' np g⟩)
    have e2 : cutL vs l u = vs := cut_whole e
    rw [e2] at g
    exact fin_g q' (.tup h1 g)
  · split at e
    · rename_i hz
      cases e
      have := see_str o1.1; subst this
      exact .inr (.inr ⟨_, rfl, hz, fin_str q'⟩)
    · cases e
  · cases e

/-! ### built-ins by name -/
def fLen : List D → Option D
  | [.lst ds] => some (.g (.int ds.length))
  | [.g (.tuple xs)] => some (.g (.int xs.length))
  | [.tp xs] => some (.g (.int xs.length))
  | [.ft xs] => some (.g (.int xs.length))
  | [.g (.str z)] => if z.length ≤ sizeLine then some (.g (.int z.length)) else none
  | [.dic ks _] => some (.g (.int ks.length))
  | _ => none
theorem seeL1 {K : Fg} {H : Hp} {vs : List V} {d : D} (h : SeeL K H vs [d]) : ∃ v fp, vs = [v] ∧ See K H v d fp := by
  cases h with | cons h1 h2 => cases h2; obtain ⟨fp, h1⟩ := h1; exact ⟨_, fp, rfl, h1⟩
theorem seeL2 {K : Fg} {H : Hp} {vs : List V} {d e : D} (h : SeeL K H vs [d, e]) : ∃ v w fp fq, vs = [v, w] ∧ See K H v d fp ∧ See K H w e fq := by
  cases h with | cons h1 h2 => cases h2 with | cons h2 h3 => cases h3; obtain ⟨fp, h1⟩ := h1; obtain ⟨fq, h2⟩ := h2; exact ⟨_, _, fp, fq, rfl, h1, h2⟩
def oneI : List D → Option Int
  | [.g (.int i)] => some i
  | _ => none
theorem v_len : VN X (.builtin "len") fLen := by
  intro pins s σ H xs us Q I r ⟨ds, d, hs, hF, q⟩
  unfold fLen at hF
  split at hF
  · cases hF
    obtain ⟨v, fp, rfl, h⟩ := seeL1 hs
    obtain ⟨a, vs, fa, rfl, h1, h2, _⟩ := see_lst h
    rw [← h2.length] at q
    exact call_len_seq pins s σ H _ us Q I r ⟨a, vs, rfl, .inl (SqL.of h1), fin_int q⟩
  · cases hF
    obtain ⟨v, fp, rfl, h⟩ := seeL1 hs
    obtain ⟨a, vs, rfl, h1, h2⟩ := see_tup h
    rw [← h2.length] at q
    exact call_len_seq pins s σ H _ us Q I r ⟨a, vs, rfl, .inr h1, fin_int q⟩
  · cases hF
    obtain ⟨v, fp, rfl, h⟩ := seeL1 hs
    cases h with
    | tp h1 h2 =>
      rw [← h2.length] at q
      exact call_len_seq pins s σ H _ us Q I r ⟨_, _, rfl, .inr h1, fin_int q⟩
  · cases hF
    obtain ⟨v, fp, rfl, h⟩ := seeL1 hs
    cases h with
    | ft h1 h2 h3 h4 =>
      rw [← h4.length] at q
      exact call_len_seq pins s σ H _ us Q I r ⟨_, _, rfl, .inr (.inl (.inr ⟨_, h1⟩)), fin_int q⟩
  · split at hF
    · rename_i hz
      cases hF
      obtain ⟨v, fp, rfl, h⟩ := seeL1 hs
      have := see_str h; subst this
      exact call_len_str pins s σ H _ us Q I r ⟨_, rfl, hz, fin_int q⟩
    · cases hF
  · cases hF
    obtain ⟨v, fp, rfl, h⟩ := seeL1 hs
    obtain ⟨a, kvs, fa, rfl, h1, rfl, h3, rfl⟩ := see_dic h
    obtain ⟨u, rfl, ru⟩ := vals1 r
    cases ru
    rw [List.length_map] at q
    exact d_len I h1 fun t s' I' => ⟨.int kvs.length, H, I', ⟨t, rfl⟩, fin_int q⟩
  · cases hF
def fAbs : List D → Option D
  | [.g (.int i)] => some (.g (.int (if i < 0 then -i else i)))
  | _ => none
theorem v_abs : VN X (.builtin "abs") fAbs := by
  intro pins s σ H xs us Q I r ⟨ds, d, hs, hF, q⟩
  unfold fAbs at hF
  split at hF
  · cases hF
    obtain ⟨v, fp, rfl, h⟩ := seeL1 hs
    have := see_int h; subst this
    exact call_abs pins s σ H _ us Q I r ⟨_, rfl, fin_int q⟩
  · cases hF
def fInt : List D → Option D
  | [.g (.int i)] => some (.g (.int i))
  | [.g (.bool b)] => some (.g (.int (if b then 1 else 0)))
  | _ => none
theorem v_int : VN X (.type "int") fInt := by
  intro pins s σ H xs us Q I r ⟨ds, d, hs, hF, q⟩
  unfold fInt at hF
  split at hF
  · cases hF
    obtain ⟨v, fp, rfl, h⟩ := seeL1 hs
    have := see_int h; subst this
    exact call_int1 pins s σ H _ us Q I r (.inl ⟨_, rfl, fin_int q⟩)
  · cases hF
    obtain ⟨v, fp, rfl, h⟩ := seeL1 hs
    have := see_bool h; subst this
    exact call_int1 pins s σ H _ us Q I r (.inr ⟨_, rfl, fin_int q⟩)
  · cases hF
def fBool : List D → Option D
  | [.g (.int i)] => some (.g (.bool (i != 0)))
  | [.g (.bool b)] => some (.g (.bool b))
  | _ => none
theorem v_bool : VN X (.type "bool") fBool := by
  intro pins s σ H xs us Q I r ⟨ds, d, hs, hF, q⟩
  unfold fBool at hF
  split at hF
  · cases hF
    obtain ⟨v, fp, rfl, h⟩ := seeL1 hs
    have := see_int h; subst this
    exact call_bool1 pins s σ H _ us Q I r (.inl ⟨_, rfl, fin_bool q⟩)
  · cases hF
    obtain ⟨v, fp, rfl, h⟩ := seeL1 hs
    have := see_bool h; subst this
    exact call_bool1 pins s σ H _ us Q I r (.inr ⟨_, rfl, fin_bool q⟩)
  · cases hF
/-- ints of a list or a tuple -/
def gInts : List PyData → Option (List Int)
  | [] => some []
  | .int i :: xs => (gInts xs).map (i :: ·)
  | _ :: _ => none
theorem gInts_map (ns : List Int) : gInts (ns.map .int) = some ns := by
  induction ns with
  | nil => rfl
  | cons n ns ih => simp [gInts, ih]
theorem gInts_some : ∀ {xs : List PyData} {ns : List Int}, gInts xs = some ns → xs = ns.map .int
  | [], ns, h => by simp [gInts] at h; subst h; rfl
  | x :: xs, ns, h => by
    cases x with
    | int i =>
      simp only [gInts, Option.map_eq_some_iff] at h
      obtain ⟨ms, e, rfl⟩ := h
      rw [gInts_some e]; rfl
    | _ => simp [gInts] at h
theorem gp_ints {K : Fg} {H : Hp} : ∀ {ns : List Int} {vs : List V}, GpAll K H vs (ns.map .int) → vs = ns.map V.int
  | [], _, h => by cases h; rfl
  | n :: ns, _, h => by
    cases h with
    | cons h1 h2 => cases h1; rw [gp_ints h2]; rfl
def gBools : List PyData → Option (List Bool)
  | [] => some []
  | .bool i :: xs => (gBools xs).map (i :: ·)
  | _ :: _ => none
theorem gBools_map (ns : List Bool) : gBools (ns.map .bool) = some ns := by
  induction ns with
  | nil => rfl
  | cons n ns ih => simp [gBools, ih]
theorem gBools_some : ∀ {xs : List PyData} {ns : List Bool}, gBools xs = some ns → xs = ns.map .bool
  | [], ns, h => by simp [gBools] at h; subst h; rfl
  | x :: xs, ns, h => by
    cases x with
    | bool i =>
      simp only [gBools, Option.map_eq_some_iff] at h
      obtain ⟨ms, e, rfl⟩ := h
      rw [gBools_some e]; rfl
    | _ => simp [gBools] at h
theorem gp_bools {K : Fg} {H : Hp} : ∀ {ns : List Bool} {vs : List V}, GpAll K H vs (ns.map .bool) → vs = ns.map V.bl
  | [], _, h => by cases h; rfl
  | n :: ns, _, h => by
    cases h with
    | cons h1 h2 => cases h1; rw [gp_bools h2]; rfl
/-- the items of a list or a tuple of ground things -/
def seqG : D → Option (List PyData)
  | .lst ds => gAll ds
  | .g (.tuple xs) => some xs
  | .ft xs => some xs
  | .scr ns => some (ns.map .int)
  | _ => none
def seqH : D → Option (List PyData)
  | .lst ds => gAll ds
  | .g (.tuple xs) => some xs
  | _ => none
theorem gpI {K : Fg} {H : Hp} : ∀ {ns : List Int}, GpAll K H (ns.map V.int) (ns.map .int)
  | [] => .nil
  | n :: ns => .cons (.int n) gpI
theorem see_seqG {K : Fg} {H : Hp} {v : V} {d : D} {fp : List Addr} {xs : List PyData} (h : See K H v d fp) (e : seqG d = some xs) : ∃ a vs, v = .ref a ∧ (SqL K H a vs ∨ SqT K H a vs) ∧ GpAll K H vs xs := by
  unfold seqG at e
  split at e
  · obtain ⟨a, vs, fa, rfl, h1, h2, _⟩ := see_lst h
    exact ⟨a, vs, rfl, .inl (SqL.of h1), seeAll_ground e h2⟩
  · cases e
    obtain ⟨a, vs, rfl, h1, h2⟩ := see_tup h
    exact ⟨a, vs, rfl, .inr h1, h2⟩
  · cases e
    cases h with | ft h1 h2 h3 h4 => exact ⟨_, _, rfl, .inr (.inl (.inr ⟨_, h1⟩)), h4⟩
  · cases e
    cases h with | scr h1 => exact ⟨_, _, rfl, .inl h1.1, gpI⟩
  · cases e
theorem see_seqH {K : Fg} {H : Hp} {v : V} {d : D} {fp : List Addr} {xs : List PyData} (h : See K H v d fp) (e : seqH d = some xs) : ∃ a vs, v = .ref a ∧ (SqL K H a vs ∨ H a = some (.tup vs)) ∧ GpAll K H vs xs := by
  unfold seqH at e
  split at e
  · obtain ⟨a, vs, fa, rfl, h1, h2, _⟩ := see_lst h
    exact ⟨a, vs, rfl, .inl (SqL.of h1), seeAll_ground e h2⟩
  · cases e
    obtain ⟨a, vs, rfl, h1, h2⟩ := see_tupH h
    exact ⟨a, vs, rfl, .inr h1, h2⟩
  · cases e
def fSum : List D → Option D
  | [d] => (seqG d).bind fun xs => (gInts xs).map fun ns => .g (.int ns.sum)
  | _ => none
theorem sum_tup {pins : List (Addr × Obj)} {s : Shared} {σ : L2.St} {H : Hp} {Q : VK} {a : Addr} {ns : List Int} (hc : X.calm = true) (I : Inv X pins σ H s) (h : SqT X.K H a (ns.map V.int)) (q : Q (.int ns.sum) H) :
    wpAny (model X.prog X.w) X.A (call (.builtin "sum") [.ref a]) (EP X pins σ Q) X.xe s := by
  obtain ⟨its, rv, ht, hz⟩ := I.tuple h
  obtain ⟨xs, hx⟩ := rv.ints.allInts.items
  have hn : numsOf its.toArray.toList = ns := by rw [show its.toArray.toList = its from rfl, rv.ints.numsOf]
  rw [hx] at hn
  rw [nums_intItems] at hn
  have ht' : s.heap.IsTuple a (intItems xs) := by rw [← hx]; exact ht
  refine PySem.W.ktm_sumG (I.ok.hd hc) ht' fun h' tk t' hk => ⟨.int ns.sum, H, I.kept (t' := tk) hk, ⟨t', ?_⟩, q⟩
  rw [preSum_eq, List.take_of_length_le (by rw [List.length_map, Array.length_toList]; exact Nat.le_refl _), hn]
theorem v_sum (hc : X.calm = true) : VN X (.builtin "sum") fSum := by
  intro pins s σ H xs us Q I r ⟨ds, d, hs, hF, q⟩
  unfold fSum at hF
  split at hF
  · rw [Option.bind_eq_some_iff] at hF
    obtain ⟨xs, e1, hF⟩ := hF
    rw [Option.map_eq_some_iff] at hF
    obtain ⟨ns, e2, rfl⟩ := hF
    obtain ⟨v, fp, rfl, h⟩ := seeL1 hs
    have e2 := gInts_some e2
    subst e2
    obtain ⟨a, vs, rfl, h1, h2⟩ := see_seqG h e1
    have e3 := gp_ints h2
    subst e3
    rcases h1 with h1 | h1
    · exact cr_sum hc pins s σ H _ us Q I r ⟨a, ns, rfl, h1, fin_int q⟩
    · obtain ⟨u, rfl, ru⟩ := vals1 r
      cases ru
      exact sum_tup hc I h1 (fin_int q)
  · cases hF
def fAny : List D → Option D
  | [.lst ds] => (gAll ds).bind fun xs => (gBools xs).map fun ns => .g (.bool (ns.any id))
  | _ => none
theorem v_any (hc : X.calm = true) : VN X (.builtin "any") fAny := by
  intro pins s σ H xs us Q I r ⟨ds, d, hs, hF, q⟩
  unfold fAny at hF
  split at hF
  · rw [Option.bind_eq_some_iff] at hF
    obtain ⟨xs, e1, hF⟩ := hF
    rw [Option.map_eq_some_iff] at hF
    obtain ⟨ns, e2, rfl⟩ := hF
    obtain ⟨v, fp, rfl, h⟩ := seeL1 hs
    have e2 := gBools_some e2
    subst e2
    obtain ⟨a, vs, fa, rfl, h1, h2, _⟩ := see_lst h
    have e3 := gp_bools (seeAll_ground e1 h2)
    subst e3
    exact cr_any hc pins s σ H _ us Q I r ⟨a, ns, rfl, SqL.of h1, fin_bool q⟩
  · cases hF
def fAll : List D → Option D
  | [.lst ds] => (gAll ds).bind fun xs => (gBools xs).map fun ns => .g (.bool (ns.all id))
  | _ => none
theorem v_all (hc : X.calm = true) : VN X (.builtin "all") fAll := by
  intro pins s σ H xs us Q I r ⟨ds, d, hs, hF, q⟩
  unfold fAll at hF
  split at hF
  · rw [Option.bind_eq_some_iff] at hF
    obtain ⟨xs, e1, hF⟩ := hF
    rw [Option.map_eq_some_iff] at hF
    obtain ⟨ns, e2, rfl⟩ := hF
    obtain ⟨v, fp, rfl, h⟩ := seeL1 hs
    have e2 := gBools_some e2
    subst e2
    obtain ⟨a, vs, fa, rfl, h1, h2, _⟩ := see_lst h
    have e3 := gp_bools (seeAll_ground e1 h2)
    subst e3
    exact cr_all hc pins s σ H _ us Q I r ⟨a, ns, rfl, SqL.of h1, fin_bool q⟩
  · cases hF
def fMax2 : List D → Option D
  | [.g (.int i), .g (.int j)] => some (.g (.int (if j > i then j else i)))
  | _ => none
def fMin2 : List D → Option D
  | [.g (.int i), .g (.int j)] => some (.g (.int (if j < i then j else i)))
  | _ => none
theorem v_max2 (hc : X.calm = true) : VN X (.builtin "max") fMax2 := by
  intro pins s σ H xs us Q I r ⟨ds, d, hs, hF, q⟩
  unfold fMax2 at hF
  split at hF
  · cases hF
    obtain ⟨v, w, fp, fq, rfl, h, h'⟩ := seeL2 hs
    have := see_int h; subst this
    have := see_int h'; subst this
    exact call_max2 hc pins s σ H _ us Q I r ⟨_, _, rfl, fin_int q⟩
  · cases hF
theorem v_min2 (hc : X.calm = true) : VN X (.builtin "min") fMin2 := by
  intro pins s σ H xs us Q I r ⟨ds, d, hs, hF, q⟩
  unfold fMin2 at hF
  split at hF
  · cases hF
    obtain ⟨v, w, fp, fq, rfl, h, h'⟩ := seeL2 hs
    have := see_int h; subst this
    have := see_int h'; subst this
    exact call_min2 hc pins s σ H _ us Q I r ⟨_, _, rfl, fin_int q⟩
  · cases hF
/-- greatest, least of a list of ints -/
def maxI : List Int → Option Int
  | [] => none
  | n :: ns => some (ns.foldl (fun a b => if a < b then b else a) n)
def minI : List Int → Option Int
  | [] => none
  | n :: ns => some (ns.foldl (fun a b => if b < a then b else a) n)
theorem foldl_max : ∀ (ns : List Int) (n : Int), ((ns.foldl (fun a b => if a < b then b else a) n) = n ∨ (ns.foldl (fun a b => if a < b then b else a) n) ∈ ns) ∧ n ≤ ns.foldl (fun a b => if a < b then b else a) n ∧ ∀ y ∈ ns, y ≤ ns.foldl (fun a b => if a < b then b else a) n
  | [], n => ⟨.inl rfl, Int.le_refl _, by simp⟩
  | m :: ns, n => by
    obtain ⟨h1, h2, h3⟩ := foldl_max ns (if n < m then m else n)
    rw [List.foldl_cons]
    refine ⟨?_, ?_, fun y hy => ?_⟩
    · by_cases h : n < m
      · rw [if_pos h] at h1 ⊢
        rcases h1 with h1 | h1
        · exact .inr (by rw [h1]; exact List.mem_cons_self)
        · exact .inr (List.mem_cons_of_mem _ h1)
      · rw [if_neg h] at h1 ⊢
        exact h1.imp id (List.mem_cons_of_mem _)
    · refine Int.le_trans ?_ h2
      split <;> omega
    · rcases List.mem_cons.mp hy with rfl | hy
      · refine Int.le_trans ?_ h2
        split <;> omega
      · exact h3 y hy
theorem foldl_min : ∀ (ns : List Int) (n : Int), ((ns.foldl (fun a b => if b < a then b else a) n) = n ∨ (ns.foldl (fun a b => if b < a then b else a) n) ∈ ns) ∧ ns.foldl (fun a b => if b < a then b else a) n ≤ n ∧ ∀ y ∈ ns, ns.foldl (fun a b => if b < a then b else a) n ≤ y
  | [], n => ⟨.inl rfl, Int.le_refl _, by simp⟩
  | m :: ns, n => by
    obtain ⟨h1, h2, h3⟩ := foldl_min ns (if m < n then m else n)
    rw [List.foldl_cons]
    refine ⟨?_, ?_, fun y hy => ?_⟩
    · by_cases h : m < n
      · rw [if_pos h] at h1 ⊢
        rcases h1 with h1 | h1
        · exact .inr (by rw [h1]; exact List.mem_cons_self)
        · exact .inr (List.mem_cons_of_mem _ h1)
      · rw [if_neg h] at h1 ⊢
        exact h1.imp id (List.mem_cons_of_mem _)
    · refine Int.le_trans h2 ?_
      split <;> omega
    · rcases List.mem_cons.mp hy with rfl | hy
      · refine Int.le_trans h2 ?_
        split <;> omega
      · exact h3 y hy
theorem maxI_spec {ns : List Int} {m : Int} (h : maxI ns = some m) : m ∈ ns ∧ ∀ y ∈ ns, y ≤ m := by
  cases ns with
  | nil => cases h
  | cons n ns =>
    cases h
    obtain ⟨h1, h2, h3⟩ := foldl_max ns n
    refine ⟨?_, fun y hy => ?_⟩
    · rcases h1 with h1 | h1
      · rw [h1]; exact List.mem_cons_self
      · exact List.mem_cons_of_mem _ h1
    · rcases List.mem_cons.mp hy with rfl | hy
      · exact h2
      · exact h3 y hy
theorem minI_spec {ns : List Int} {m : Int} (h : minI ns = some m) : m ∈ ns ∧ ∀ y ∈ ns, m ≤ y := by
  cases ns with
  | nil => cases h
  | cons n ns =>
    cases h
    obtain ⟨h1, h2, h3⟩ := foldl_min ns n
    refine ⟨?_, fun y hy => ?_⟩
    · rcases h1 with h1 | h1
      · rw [h1]; exact List.mem_cons_self
      · exact List.mem_cons_of_mem _ h1
    · rcases List.mem_cons.mp hy with rfl | hy
      · exact h2
      · exact h3 y hy
def fMax1 : List D → Option D
  | [.lst ds] => (gAll ds).bind fun xs => (gInts xs).bind fun ns => (maxI ns).map fun m => .g (.int m)
  | _ => none
def fMin1 : List D → Option D
  | [.lst ds] => (gAll ds).bind fun xs => (gInts xs).bind fun ns => (minI ns).map fun m => .g (.int m)
  | _ => none
theorem v_max1 (hc : X.calm = true) : VN X (.builtin "max") fMax1 := by
  intro pins s σ H xs us Q I r ⟨ds, d, hs, hF, q⟩
  unfold fMax1 at hF
  split at hF
  · simp only [Option.bind_eq_some_iff, Option.map_eq_some_iff] at hF
    obtain ⟨xs, e1, ns, e2, m, e3, rfl⟩ := hF
    obtain ⟨v, fp, rfl, h⟩ := seeL1 hs
    have e2 := gInts_some e2
    subst e2
    obtain ⟨a, vs, fa, rfl, h1, h2, _⟩ := see_lst h
    have e4 := gp_ints (seeAll_ground e1 h2)
    subst e4
    obtain ⟨m1, m2⟩ := maxI_spec e3
    refine cr_max hc pins s σ H _ us Q I r ⟨a, ns, rfl, SqL.of h1, List.length_pos_of_mem m1, fun m' h3 h4 => ?_⟩
    have : m' = m := Int.le_antisymm (m2 _ h3) (h4 _ m1)
    subst this
    exact fin_int q
  · cases hF
theorem v_min1 (hc : X.calm = true) : VN X (.builtin "min") fMin1 := by
  intro pins s σ H xs us Q I r ⟨ds, d, hs, hF, q⟩
  unfold fMin1 at hF
  split at hF
  · simp only [Option.bind_eq_some_iff, Option.map_eq_some_iff] at hF
    obtain ⟨xs, e1, ns, e2, m, e3, rfl⟩ := hF
    obtain ⟨v, fp, rfl, h⟩ := seeL1 hs
    have e2 := gInts_some e2
    subst e2
    obtain ⟨a, vs, fa, rfl, h1, h2, _⟩ := see_lst h
    have e4 := gp_ints (seeAll_ground e1 h2)
    subst e4
    obtain ⟨m1, m2⟩ := minI_spec e3
    refine cr_min hc pins s σ H _ us Q I r ⟨a, ns, rfl, SqL.of h1, List.length_pos_of_mem m1, fun m' h3 h4 => ?_⟩
    have : m' = m := Int.le_antisymm (h4 _ m1) (m2 _ h3)
    subst this
    exact fin_int q
  · cases hF
/-- list(x), tuple(x) -/
def fList : List D → Option D
  | [d] => (seqG d).map fun xs => .lst (xs.map .g)
  | _ => none
theorem v_list : VN X (.type "list") fList := by
  intro pins s σ H xs us Q I r ⟨ds, d, hs, hF, q⟩
  unfold fList at hF
  split at hF
  · rw [Option.map_eq_some_iff] at hF
    obtain ⟨xs, e1, rfl⟩ := hF
    obtain ⟨v, fp, rfl, h⟩ := seeL1 hs
    obtain ⟨a, vs, rfl, h1, h2⟩ := see_seqG h e1
    exact call_list_of pins s σ H _ us Q I r ⟨a, vs, rfl, h1, fun l nl => fin_lst q nl h2⟩
  · cases hF
def fTuple : List D → Option D
  | [d] => (seqH d).map fun xs => .g (.tuple xs)
  | _ => none
theorem v_tuple : VN X (.type "tuple") fTuple := by
  intro pins s σ H xs us Q I r ⟨ds, d, hs, hF, q⟩
  unfold fTuple at hF
  split at hF
  · rw [Option.map_eq_some_iff] at hF
    obtain ⟨xs, e1, rfl⟩ := hF
    obtain ⟨v, fp, rfl, h⟩ := seeL1 hs
    obtain ⟨a, vs, rfl, h1, h2⟩ := see_seqH h e1
    rcases h1 with h1 | h1
    · exact call_tuple_of pins s σ H _ us Q I r ⟨a, vs, rfl, .inl ⟨h1, fun l nl => fin_tup q nl h2⟩⟩
    · exact call_tuple_of pins s σ H _ us Q I r ⟨a, vs, rfl, .inr ⟨SqT.of h1, fin_g q (.tup h1 h2)⟩⟩
  · cases hF
end
end Ow

set_option Elab.async false
set_option linter.all false
set_option maxRecDepth 100000
set_option maxHeartbeats 1000000
/-! OwF: a def's slots while it runs: what is owned, what is frozen; expressions that may write. -/
namespace Ow
open PySem PySem.Spec PyProof.Rows L2

/-- the slots env lie in σ and H; F i: the objects that slot i owns; fz: slots that are lent out (read, never written), R: where their things stand -/
structure EnvOk (K : Fg) (H : Hp) (fz : List Nat) (R : Addr → Prop) (σ : L2.St) (env : List D) (F : Nat → List Addr) : Prop where
  len : env.length = σ.length
  own : ∀ (i : Nat) (d : D), env[i]? = some d → i ∉ fz → d = .hole ∨ ∃ v, σ[i]? = some (some v) ∧ Own K H v d (F i)
  frz : ∀ (i : Nat) (d : D), env[i]? = some d → i ∈ fz → d = .hole ∨ ∃ v fp, σ[i]? = some (some v) ∧ See K H v d fp ∧ ∀ b ∈ fp, R b
  nil : ∀ i, (i ∈ fz ∨ env[i]? = none ∨ env[i]? = some .hole) → F i = []
  dis : ∀ i j, i ≠ j → ∀ b ∈ F i, b ∉ F j
  out : ∀ b, R b → (∃ o, H b = some o) ∧ ∀ j, b ∉ F j
/-- from (H, F) to (H', F') -/
structure Stp (H : Hp) (F : Nat → List Addr) (H' : Hp) (F' : Nat → List Addr) : Prop where
  keep : ∀ b o, H b = some o → (∀ i, b ∉ F i) → H' b = some o
  live : ∀ b o, H b = some o → ∃ o', H' b = some o'
  imm : Tk H H'
  new : ∀ i b, b ∈ F' i → (∃ j, b ∈ F j) ∨ H b = none
theorem Stp.free {H H' : Hp} {F F' : Nat → List Addr} (s : Stp H F H' F') {b : Addr} (h : H' b = none) : H b = none := by
  cases e : H b with
  | none => rfl
  | some o =>
    obtain ⟨o', e'⟩ := s.live b o e
    rw [h] at e'; cases e'
theorem Stp.out {H H' : Hp} {F F' : Nat → List Addr} (s : Stp H F H' F') {b : Addr} {o : HO} (h : H b = some o) (n : ∀ i, b ∉ F i) : ∀ i, b ∉ F' i := fun i m => by
  rcases s.new i b m with ⟨j, m⟩ | e
  · exact n j m
  · rw [h] at e; cases e
theorem Stp.trans {H H1 H2 : Hp} {F F1 F2 : Nat → List Addr} (a : Stp H F H1 F1) (b : Stp H1 F1 H2 F2) : Stp H F H2 F2 where
  keep := fun c o h n => b.keep c o (a.keep c o h n) (a.out h n)
  live := fun c o h => by
    obtain ⟨o', e⟩ := a.live c o h
    exact b.live c o' e
  imm := a.imm.trans b.imm
  new := fun i c m => by
    rcases b.new i c m with ⟨j, m⟩ | e
    · exact a.new j c m
    · exact .inr (a.free e)
theorem Stp.refl (H : Hp) (F : Nat → List Addr) : Stp H F H F := ⟨fun _ _ h _ => h, fun _ o h => ⟨o, h⟩, Tk.refl H, fun i b m => .inl ⟨i, m⟩⟩
theorem Stp.same {H H' : Hp} {F : Nat → List Addr} (s : Same H H') : Stp H F H' F := ⟨fun b o h _ => s b o h, fun b o h => ⟨o, s b o h⟩, Tk.same s, fun i b m => .inl ⟨i, m⟩⟩
/-- what is new after a step, or was owned: owned or new before -/
theorem Stp.nu {H H' : Hp} {F F' : Nat → List Addr} (s : Stp H F H' F') {b : Addr} (h : (∃ j, b ∈ F' j) ∨ H' b = none) : (∃ j, b ∈ F j) ∨ H b = none := by
  rcases h with ⟨j, m⟩ | h
  · exact s.new j b m
  · exact .inr (s.free h)
theorem SeeC.keep {H H' : Hp} {b : Addr} {o : HO} (k : ∀ o, H b = some o → H' b = some o) (h : SeeC H b o) : SeeC H' b o := by
  rcases h with h | ⟨ob, e, h⟩
  · exact .inl (k _ h)
  · exact .inr ⟨ob, e, k _ h⟩
theorem See.stp {K : Fg} {H H' : Hp} {F F' : Nat → List Addr} (s : Stp H F H' F') {v : V} {d : D} {fp : List Addr} (h : See K H v d fp) (n : ∀ b ∈ fp, ∀ j, b ∉ F j) : See K H' v d fp :=
  Rel.frame s.imm d v fp (fun b m _ e => SeeC.keep (fun o h => s.keep b o h (n b m)) e) h
theorem Own.stp {K : Fg} {H H' : Hp} {F F' : Nat → List Addr} (s : Stp H F H' F') {v : V} {d : D} {fp : List Addr} (h : Own K H v d fp) (n : ∀ b ∈ fp, ∀ j, b ∉ F j) : Own K H' v d fp :=
  Rel.frame s.imm d v fp (fun b m _ e => s.keep b _ e (n b m)) h
theorem OwnAll.stp {K : Fg} {H H' : Hp} {F F' : Nat → List Addr} (s : Stp H F H' F') {v : List V} {d : List D} {fp : List Addr} (h : OwnAll K H v d fp) (n : ∀ b ∈ fp, ∀ j, b ∉ F j) : OwnAll K H' v d fp :=
  RelAll.frame s.imm d v fp (fun b m _ e => s.keep b _ e (n b m)) h
section
variable {K : Fg} {H H' : Hp} {fz : List Nat} {R : Addr → Prop} {σ : L2.St} {env : List D} {F : Nat → List Addr}
theorem EnvOk.live (e : EnvOk K H fz R σ env F) {i : Nat} {b : Addr} (m : b ∈ F i) : ∃ o, H b = some o := by
  by_cases hf : i ∈ fz
  · rw [e.nil i (.inl hf)] at m; cases m
  · cases hd : env[i]? with
    | none => rw [e.nil i (.inr (.inl hd))] at m; cases m
    | some d =>
      rcases e.own i d hd hf with rfl | ⟨v, _, o⟩
      · rw [e.nil i (.inr (.inr hd))] at m; cases m
      · exact o.live m
/-- the slots' data may be read -/
theorem EnvOk.rd (e : EnvOk K H fz R σ env F) : RdEnv K (fun b => ∃ o, H b = some o) H σ env := ⟨e.len, fun i d hd => by
  by_cases hf : i ∈ fz
  · rcases e.frz i d hd hf with h | ⟨v, fp, h1, h2, h3⟩
    · exact .inl h
    · exact .inr ⟨v, fp, h1, h2, fun b m => (e.out b (h3 b m)).1⟩
  · rcases e.own i d hd hf with h | ⟨v, h1, h2⟩
    · exact .inl h
    · exact .inr ⟨v, F i, h1, h2.see, fun b m => h2.live m⟩⟩
theorem EnvOk.same (e : EnvOk K H fz R σ env F) (s : Same H H') : EnvOk K H' fz R σ env F where
  len := e.len
  own := fun i d hd hf => (e.own i d hd hf).imp id fun ⟨v, h1, h2⟩ => ⟨v, h1, h2.same s⟩
  frz := fun i d hd hf => (e.frz i d hd hf).imp id fun ⟨v, fp, h1, h2, h3⟩ => ⟨v, fp, h1, h2.same s, h3⟩
  nil := e.nil
  dis := e.dis
  out := fun b h => ⟨(e.out b h).1.imp fun o h => s _ _ h, (e.out b h).2⟩
/-- what is owned or new stands apart from what is lent out -/
theorem EnvOk.notR (e : EnvOk K H fz R σ env F) {b : Addr} (h : (∃ j, b ∈ F j) ∨ H b = none) : ¬ R b := fun r => by
  obtain ⟨⟨o, h1⟩, h2⟩ := e.out b r
  rcases h with ⟨j, m⟩ | h
  · exact h2 j m
  · rw [h] at h1; cases h1
end
def updF (F : Nat → List Addr) (i : Nat) (fp : List Addr) : Nat → List Addr := fun j => if j = i then fp else F j
theorem updF_same {F : Nat → List Addr} {i : Nat} {fp : List Addr} : updF F i fp i = fp := if_pos rfl
theorem updF_ne {F : Nat → List Addr} {i j : Nat} {fp : List Addr} (h : j ≠ i) : updF F i fp j = F j := if_neg h
section
variable {K : Fg} {H H' : Hp} {fz : List Nat} {R : Addr → Prop} {σ : L2.St} {env : List D} {F : Nat → List Addr}
/-- a slot is given a thing of its own; what it held is let go -/
theorem EnvOk.put (e : EnvOk K H fz R σ env F) {i : Nat} {v : V} {d : D} {fp : List Addr} (hi : i ∉ fz) (hlt : i < env.length) (hd : d ≠ .hole) (o : Own K H v d fp) (n : ∀ b ∈ fp, ∀ j, j ≠ i → b ∉ F j) (nr : ∀ b ∈ fp, ¬ R b) :
    EnvOk K H fz R (σ.set i (some v)) (env.set i d) (updF F i fp) where
  len := by simp [e.len]
  own := fun j d' hj hf => by
    by_cases hji : j = i
    · subst hji
      rw [List.getElem?_set_self hlt] at hj
      cases hj
      refine .inr ⟨v, ?_, by rw [updF_same]; exact o⟩
      rw [List.getElem?_set_self (by rw [← e.len]; exact hlt)]
    · rw [List.getElem?_set_ne (Ne.symm hji)] at hj
      rw [updF_ne hji, List.getElem?_set_ne (Ne.symm hji)]
      exact e.own j d' hj hf
  frz := fun j d' hj hf => by
    have hji : j ≠ i := fun z => hi (z ▸ hf)
    rw [List.getElem?_set_ne (Ne.symm hji)] at hj ⊢
    exact e.frz j d' hj hf
  nil := fun j hj => by
    by_cases hji : j = i
    · subst hji
      rw [List.getElem?_set_self hlt] at hj
      rcases hj with hj | hj | hj
      · exact absurd hj hi
      · cases hj
      · exact absurd (Option.some.inj hj) hd
    · rw [updF_ne hji]
      rw [List.getElem?_set_ne (Ne.symm hji)] at hj
      exact e.nil j hj
  dis := fun j k hjk b m => by
    by_cases hj : j = i
    · subst hj
      rw [updF_same] at m
      rw [updF_ne (Ne.symm hjk)]
      exact n b m k (Ne.symm hjk)
    · rw [updF_ne hj] at m
      by_cases hk : k = i
      · subst hk
        rw [updF_same]
        exact fun m' => n b m' j hj m
      · rw [updF_ne hk]; exact e.dis j k hjk b m
  out := fun b h => ⟨(e.out b h).1, fun j m => by
    by_cases hj : j = i
    · subst hj; rw [updF_same] at m; exact nr b m h
    · rw [updF_ne hj] at m; exact (e.out b h).2 j m⟩
/-- a slot's thing is taken out (σ stays) -/
theorem EnvOk.drop (e : EnvOk K H fz R σ env F) (i : Nat) : EnvOk K H fz R σ (env.set i .hole) (updF F i []) where
  len := by simp [e.len]
  own := fun j d' hj hf => by
    by_cases hji : j = i
    · subst hji
      by_cases hlt : j < env.length
      · rw [List.getElem?_set_self hlt] at hj
        cases hj; exact .inl rfl
      · rw [List.getElem?_eq_none (by simpa using hlt)] at hj; cases hj
    · rw [List.getElem?_set_ne (Ne.symm hji)] at hj
      rw [updF_ne hji]
      exact e.own j d' hj hf
  frz := fun j d' hj hf => by
    by_cases hji : j = i
    · subst hji
      by_cases hlt : j < env.length
      · rw [List.getElem?_set_self hlt] at hj
        cases hj; exact .inl rfl
      · rw [List.getElem?_eq_none (by simpa using hlt)] at hj; cases hj
    · rw [List.getElem?_set_ne (Ne.symm hji)] at hj
      exact e.frz j d' hj hf
  nil := fun j hj => by
    by_cases hji : j = i
    · subst hji; exact updF_same
    · rw [updF_ne hji]
      rw [List.getElem?_set_ne (Ne.symm hji)] at hj
      exact e.nil j hj
  dis := fun j k hjk b m => by
    by_cases hj : j = i
    · subst hj; rw [updF_same] at m; cases m
    · rw [updF_ne hj] at m
      by_cases hk : k = i
      · subst hk; rw [updF_same]; simp
      · rw [updF_ne hk]; exact e.dis j k hjk b m
  out := fun b h => ⟨(e.out b h).1, fun j m => by
    by_cases hj : j = i
    · subst hj; rw [updF_same] at m; cases m
    · rw [updF_ne hj] at m; exact (e.out b h).2 j m⟩
theorem Stp.drop (H : Hp) (F : Nat → List Addr) (i : Nat) : Stp H F H (updF F i []) := ⟨fun _ _ h _ => h, fun _ o h => ⟨o, h⟩, Tk.refl H, fun j b m => by
  by_cases hj : j = i
  · subst hj; rw [updF_same] at m; cases m
  · rw [updF_ne hj] at m; exact .inl ⟨j, m⟩⟩
end

/-! ### expressions that may write -/
inductive IR (α : Type) where
  | ok (a : α) (env : List D)
  | err (x : Ex)
  | bad
namespace IR
def bind {α β : Type} (r : IR α) (g : α → List D → IR β) : IR β :=
  match r with
  | .ok a env => g a env
  | .err x => .err x
  | .bad => .bad
def post {α : Type} (r : IR α) (ok : α → List D → Prop) (er : Ex → Prop) : Prop :=
  match r with
  | .ok a env => ok a env
  | .err x => er x
  | .bad => False
def ofP {α : Type} (r : PR α) (env : List D) : IR α :=
  match r with
  | .ok a => .ok a env
  | .err x => .err x
  | .bad => .bad
@[simp] theorem bind_ok {α β : Type} (a : α) (env : List D) (g : α → List D → IR β) : (IR.ok a env).bind g = g a env := rfl
@[simp] theorem bind_err {α β : Type} (x : Ex) (g : α → List D → IR β) : (IR.err x : IR α).bind g = .err x := rfl
@[simp] theorem bind_bad {α β : Type} (g : α → List D → IR β) : (IR.bad : IR α).bind g = .bad := rfl
@[simp] theorem ofP_ok {α : Type} (a : α) (env : List D) : IR.ofP (PR.ok a) env = .ok a env := rfl
@[simp] theorem ofP_err {α : Type} (x : Ex) (env : List D) : (IR.ofP (PR.err x) env : IR α) = .err x := rfl
@[simp] theorem ofP_bad {α : Type} (env : List D) : (IR.ofP PR.bad env : IR α) = .bad := rfl
theorem post_bind {α β : Type} {r : IR α} {g : α → List D → IR β} {ok : β → List D → Prop} {er : Ex → Prop} (h : (r.bind g).post ok er) : r.post (fun a env => (g a env).post ok er) er := by
  cases r <;> exact h
theorem post.mono {α : Type} {r : IR α} {ok ok' : α → List D → Prop} {er er' : Ex → Prop} (h : r.post ok er) (h1 : ∀ a env, ok a env → ok' a env) (h2 : ∀ x, er x → er' x) : r.post ok' er' := by
  cases r with
  | ok a env => exact h1 a env h
  | err x => exact h2 x h
  | bad => exact h
theorem post_ofP {α : Type} {r : PR α} {env : List D} {ok : α → List D → Prop} {er : Ex → Prop} (h : (IR.ofP r env).post ok er) : r.post (fun a => ok a env) er := by
  cases r <;> exact h
end IR

abbrev IF := List D → IR D
abbrev IB := List D → IR Bool
abbrev IL := List D → IR (List D)
/-- behind an expression -/
structure Aft (K : Fg) (fz : List Nat) (R : Addr → Prop) (σ : L2.St) (H : Hp) (F : Nat → List Addr) (env : List D) (H' : Hp) (F' : Nat → List Addr) (env' : List D) : Prop where
  stp : Stp H F H' F'
  ok : EnvOk K H' fz R σ env' F'
  fix : ∀ i ∈ fz, env'[i]? = env[i]?
theorem Aft.trans {K : Fg} {fz : List Nat} {R : Addr → Prop} {σ : L2.St} {H H1 H2 : Hp} {F F1 F2 : Nat → List Addr} {env env1 env2 : List D} (a : Aft K fz R σ H F env H1 F1 env1) (b : Aft K fz R σ H1 F1 env1 H2 F2 env2) : Aft K fz R σ H F env H2 F2 env2 :=
  ⟨a.stp.trans b.stp, b.ok, fun i h => (b.fix i h).trans (a.fix i h)⟩
/-- what an error leaves -/
def EI (K : Fg) (y : Wi) (σ : L2.St) (H : Hp) (F : Nat → List Addr) (x : Ex) : Prop := ∀ c dd H', (∀ b o, H b = some o → (∀ i, b ∉ F i) → H' b = some o) → (∀ b o, H b = some o → ∃ o', H' b = some o') → Tk H H' → ErrOk K y x H' c dd → y.W c dd σ H'
theorem EI.stp {K : Fg} {y : Wi} {σ : L2.St} {H H1 : Hp} {F F1 : Nat → List Addr} {x : Ex} (h : EI K y σ H F x) (s : Stp H F H1 F1) : EI K y σ H1 F1 x := fun c dd H' k l t e => h c dd H' (fun b o q n => k b o (s.keep b o q n) (s.out q n)) (fun b o q => by
  obtain ⟨o', q⟩ := s.live b o q
  exact l b o' q) (s.imm.trans t) e
theorem EI.p {K : Fg} {y : Wi} {σ : L2.St} {H : Hp} {F : Nat → List Addr} {x : Ex} (h : EI K y σ H F x) : EP' K y σ H x := fun c dd H' s e => h c dd H' (fun b o q _ => s b o q) (fun b o q => ⟨o, s b o q⟩) (Tk.same s) e
def tI (K : Fg) (y : Wi) (fz : List Nat) (f : IF) : TE := fun σ H Q => ∃ env F R, EnvOk K H fz R σ env F ∧
  (f env).post (fun d env' => ∀ v H' F' fv, Aft K fz R σ H F env H' F' env' → Own K H' v d fv → (∀ b ∈ fv, ∀ i, b ∉ F' i) → (∀ b ∈ fv, (∃ j, b ∈ F j) ∨ H b = none) → Q v H') (EI K y σ H F)
def tIB (K : Fg) (y : Wi) (fz : List Nat) (f : IB) : TT := fun σ H Q => ∃ env F R, EnvOk K H fz R σ env F ∧
  (f env).post (fun b env' => ∀ H' F', Aft K fz R σ H F env H' F' env' → Q b H') (EI K y σ H F)
/-- arguments, owned -/
def tIA (K : Fg) (y : Wi) (fz : List Nat) (f : IL) : TA := fun σ H Q => ∃ env F R, EnvOk K H fz R σ env F ∧
  (f env).post (fun ds env' => ∀ vs H' F' fv, Aft K fz R σ H F env H' F' env' → OwnAll K H' vs ds fv → (∀ b ∈ fv, ∀ i, b ∉ F' i) → (∀ b ∈ fv, (∃ j, b ∈ F j) ∨ H b = none) → Q vs H') (EI K y σ H F)
structure I (X : Cx) (y : Wi) (fz : List Nat) (e : Expr) (f : IF) : Prop where
  pe : PE X e (tI X.K y fz f)
structure ITst (X : Cx) (y : Wi) (fz : List Nat) (e : Expr) (f : IB) : Prop where
  pt : PT X e (tIB X.K y fz f)
structure IArg (X : Cx) (y : Wi) (fz : List Nat) (es : List Expr) (f : IL) : Prop where
  pa : PA X es (tIA X.K y fz f)
section
variable {K : Fg} {fz : List Nat} {R : Addr → Prop} {σ : L2.St} {H H' : Hp} {F : Nat → List Addr} {env : List D}
theorem Aft.same (e : EnvOk K H fz R σ env F) (s : Same H H') : Aft K fz R σ H F env H' F env := ⟨Stp.same s, e.same s, fun _ _ => rfl⟩
theorem tI_use {y : Wi} {f : IF} {Q : VK} (e : EnvOk K H fz R σ env F) (h : (f env).post (fun d env' => ∀ v H' F' fv, Aft K fz R σ H F env H' F' env' → Own K H' v d fv → (∀ b ∈ fv, ∀ i, b ∉ F' i) → (∀ b ∈ fv, (∃ j, b ∈ F j) ∨ H b = none) → Q v H') (EI K y σ H F)) : tI K y fz f σ H Q :=
  ⟨env, F, R, e, h⟩
end
section
variable {X : Cx} {y : Wi} {fz : List Nat} {a b c e : Expr} {es : List Expr} {pos : Pos}
/-- an expression that writes nothing -/
def iP (f : PF) : IF := fun env => (IR.ofP (f env) env).bind fun p env => match p with
  | .own d => .ok d env
  | .bor _ => .bad
theorem i_p {f : PF} (h : P X y e f) : I X y fz e (iP f) := by
  refine ⟨pe_imp h.pe fun σ H Q q => ?_⟩
  obtain ⟨env, F, R, he, h⟩ := q
  refine ⟨env, _, he.rd, (IR.post_ofP (IR.post_bind h)).mono (fun p h v H' fp s o => ?_) fun x q => q.p⟩
  cases p with
  | bor d => exact (h : False).elim
  | own d =>
    refine h v H' F fp (Aft.same he s) o.1 (fun b m i m' => ?_) fun b m => .inr (o.2 b m)
    obtain ⟨ob, e⟩ := he.live m'
    rw [o.2 b m] at e; cases e
/-- a name whose thing is taken along -/
def iMove (i : Nat) : IF := fun env => match env[i]? with
  | some (.g x) => .ok (.g x) env
  | some .hole => .bad
  | some d => .ok d (env.set i .hole)
  | none => .bad
theorem i_move {i : Nat} {x : Str} (hi : fz.contains i = false) (h : PE X (.Name x pos) (tVar i)) : I X y fz (.Name x pos) (iMove i) := by
  have hi : i ∉ fz := fun m => by rw [List.contains_iff_mem.mpr m] at hi; cases hi
  refine ⟨pe_imp h fun σ H Q q => ?_⟩
  obtain ⟨env, F, R, he, h⟩ := q
  unfold iMove at h
  cases e1 : env[i]? with
  | none => rw [e1] at h; exact (h : False).elim
  | some d =>
    rw [e1] at h
    rcases he.own i d e1 hi with rfl | ⟨v, e2, e3⟩
    · exact (h : False).elim
    · refine ⟨v, e2, ?_⟩
      cases d with
      | g x =>
        exact h v H F [] (Aft.same he (Same.refl H)) (.g (see_g e3).1) (by simp) (by simp)
      | hole => exact (h : False).elim
      | _ =>
        refine h v H (updF F i []) (F i) ⟨Stp.drop H F i, he.drop i, fun j hj => ?_⟩ e3 (fun b m j m' => ?_) fun b m => .inl ⟨i, m⟩
        · have hji : j ≠ i := fun z => hi (z ▸ hj)
          rw [List.getElem?_set_ne (Ne.symm hji)]
        · by_cases hj : j = i
          · subst hj; rw [updF_same] at m'; cases m'
          · rw [updF_ne hj] at m'; exact he.dis i j (Ne.symm hj) b m m'
/-- two operands -/
def iBin (F : D → D → Option D) (fa fb : IF) : IF := fun env => (fa env).bind fun a env => (fb env).bind fun b env => (IR.ofP (PR.of (F a b)) env)
theorem tI_bin {K : Fg} {G : D → D → Option D} {fa fb : IF} {σ : L2.St} {H : Hp} {Q : VK} (h : tI K y fz (iBin G fa fb) σ H Q) : tOp (rV2 K G) (tI K y fz fa) (tI K y fz fb) σ H Q := by
  obtain ⟨env, F, R, he, h⟩ := h
  refine ⟨env, F, R, he, (IR.post_bind h).mono (fun a env1 h v1 H1 F1 fp1 A1 o1 n1 p1 => ?_) fun x q => q⟩
  refine ⟨env1, F1, R, A1.ok, (IR.post_bind h).mono (fun b env2 h v2 H2 F2 fp2 A2 o2 n2 p2 => ?_) fun x q => q.stp A1.stp⟩
  obtain ⟨r, e, q⟩ := PR.post_of (IR.post_ofP h)
  refine ⟨a, b, fp1, fp2, r, (o1.stp A2.stp n1).see, o2.see, e, fun v H' fp s o n => ?_⟩
  refine q v H' F2 fp ((A1.trans A2).trans (Aft.same A2.ok s)) o (fun b m i m' => ?_) fun b m => .inr ((A1.stp.trans A2.stp).free (n b m))
  obtain ⟨ob, e⟩ := A2.ok.live m'
  rw [n b m] at e; cases e
theorem i_bin {op : Operator} {G : D → D → Option D} {fa fb : IF} (ho : V2 X (binaryOp op) G) (ha : I X y fz a fa) (hb : I X y fz b fb) : I X y fz (.BinOp a op b pos) (iBin G fa fb) :=
  ⟨pe_imp (pe_op ho ha.pe hb.pe) fun _ _ _ q => tI_bin q⟩
theorem i_cmp {op : CmpOp} {G : D → D → Option D} {fa fb : IF} (ho : V2 X (compareOp op) G) (ha : I X y fz a fa) (hb : I X y fz b fb) (hm : behindInMarks op b = false) : I X y fz (.Compare a [op] [b] pos) (iBin G fa fb) :=
  ⟨pe_imp (pe_cmpR ho ha.pe hb.pe hm) fun _ _ _ q => tI_bin q⟩
/-- tests -/
def iPB (f : PB) : IB := fun env => IR.ofP (f env) env
theorem it_p {f : PB} (h : PTst X y e f) : ITst X y fz e (iPB f) := by
  refine ⟨pt_imp h.pt fun σ H Q q => ?_⟩
  obtain ⟨env, F, R, he, h⟩ := q
  exact ⟨env, _, he.rd, (IR.post_ofP h).mono (fun b h H' s => h H' F (Aft.same he s)) fun x q => q.p⟩
def iTst (f : IF) : IB := fun env => (f env).bind fun d env => match d with
  | .g (.bool b) => .ok b env
  | _ => .bad
theorem tIB_tst {K : Fg} {f : IF} {σ : L2.St} {H : Hp} {Q : Bool → Hp → Prop} (h : tIB K y fz (iTst f) σ H Q) : tI K y fz f σ H fun x H1 => ∃ k, x = .bl k ∧ Q k H1 := by
  obtain ⟨env, F, R, he, h⟩ := h
  refine ⟨env, F, R, he, (IR.post_bind h).mono (fun d env1 h v H' F' fv A o n p => ?_) fun x q => q⟩
  cases d with
  | g x =>
    cases x with
    | bool k =>
      obtain ⟨rfl, _⟩ := own_bool o
      exact ⟨k, rfl, h H' F' A⟩
    | _ => exact (h : False).elim
  | _ => exact (h : False).elim
theorem it_cmp {op : CmpOp} {G : D → D → Option D} {fa fb : IF} (ho : V2 X (compareOp op) G) (ha : I X y fz a fa) (hb : I X y fz b fb) (hm : behindInMarks op b = false) : ITst X y fz (.Compare a [op] [b] pos) (iTst (iBin G fa fb)) :=
  ⟨pt_imp (pt_cmpR ho ha.pe hb.pe hm) fun σ H Q q => tI_bin (tIB_tst q)⟩
theorem it_val {f : IF} (h : I X y fz e f) (he : ∀ whole, isTrue e X.env whole = (do let v ← whole; standAt e.pos; holding [v] (truthy v)) := by intro _; rfl) : ITst X y fz e (iTst f) :=
  ⟨pt_imp (pt_val h.pe he) fun _ _ _ q => tIB_tst q⟩
def iNot (f : IB) : IB := fun env => (f env).bind fun b env => .ok (!b) env
theorem it_not {f : IB} (h : ITst X y fz a f) : ITst X y fz (.UnaryOp .Not a pos) (iNot f) := by
  refine ⟨pt_imp (pt_not h.pt) fun σ H Q q => ?_⟩
  obtain ⟨env, F, R, he, h⟩ := q
  exact ⟨env, F, R, he, (IR.post_bind h).mono (fun b env1 h H' F' A => h H' F' A) fun x q => q⟩
def iAnd (f g : IB) : IB := fun env => (f env).bind fun b env => if b = true then g env else .ok false env
def iOr (f g : IB) : IB := fun env => (f env).bind fun b env => if b = true then .ok true env else g env
structure IWd (X : Cx) (y : Wi) (fz : List Nat) (e : Expr) (f : IB) : Prop where
  pw : PW X e (tIB X.K y fz f)
theorem IWd.pt {f : IB} (h : IWd X y fz e f) : ITst X y fz e f := ⟨h.pw.pt⟩
theorem iwAnd1 {f : IB} (h : ITst X y fz a f) : IWd X y fz (.BoolOp .And [a] pos) f := ⟨pw_and1 h.pt⟩
theorem iwOr1 {f : IB} (h : ITst X y fz a f) : IWd X y fz (.BoolOp .Or [a] pos) f := ⟨pw_or1 h.pt⟩
theorem tIB_up {K : Fg} {f : IB} {σ : L2.St} {H H1 : Hp} {F F1 : Nat → List Addr} {R : Addr → Prop} {env env1 : List D} {Q : Bool → Hp → Prop} (A : Aft K fz R σ H F env H1 F1 env1)
    (h : (f env1).post (fun b env' => ∀ H' F', Aft K fz R σ H F env H' F' env' → Q b H') (EI K y σ H F)) : tIB K y fz f σ H1 Q :=
  ⟨env1, F1, R, A.ok, h.mono (fun b env2 q H2 F2 A2 => q H2 F2 (A.trans A2)) fun x q => q.stp A.stp⟩
theorem iwAnd {f g : IB} {rest : List Expr} (h : ITst X y fz a f) (h' : IWd X y fz (.BoolOp .And (b :: rest) pos) g) : IWd X y fz (.BoolOp .And (a :: b :: rest) pos) (iAnd f g) := by
  refine ⟨pw_imp (pw_and h.pt h'.pw) fun σ H Q q => ?_⟩
  obtain ⟨env, F, R, he, h⟩ := q
  refine ⟨env, F, R, he, (IR.post_bind h).mono (fun b env1 h H' F' A => ?_) fun x q => q⟩
  cases b with
  | true => exact tIB_up A h
  | false => exact h H' F' A
theorem iwOr {f g : IB} {rest : List Expr} (h : ITst X y fz a f) (h' : IWd X y fz (.BoolOp .Or (b :: rest) pos) g) : IWd X y fz (.BoolOp .Or (a :: b :: rest) pos) (iOr f g) := by
  refine ⟨pw_imp (pw_or h.pt h'.pw) fun σ H Q q => ?_⟩
  obtain ⟨env, F, R, he, h⟩ := q
  refine ⟨env, F, R, he, (IR.post_bind h).mono (fun b env1 h H' F' A => ?_) fun x q => q⟩
  cases b with
  | false => exact tIB_up A h
  | true => exact h H' F' A
theorem tI_up {K : Fg} {f : IF} {σ : L2.St} {H H1 : Hp} {F F1 : Nat → List Addr} {R : Addr → Prop} {env env1 : List D} {Q : VK} (A : Aft K fz R σ H F env H1 F1 env1)
    (h : (f env1).post (fun d env' => ∀ v H' F' fv, Aft K fz R σ H F env H' F' env' → Own K H' v d fv → (∀ b ∈ fv, ∀ i, b ∉ F' i) → (∀ b ∈ fv, (∃ j, b ∈ F j) ∨ H b = none) → Q v H') (EI K y σ H F)) : tI K y fz f σ H1 Q :=
  ⟨env1, F1, R, A.ok, h.mono (fun d env2 q v H2 F2 fv A2 o n p => q v H2 F2 fv (A.trans A2) o n fun b m => A.stp.nu (p b m)) fun x q => q.stp A.stp⟩
def iIf (c : IB) (f g : IF) : IF := fun env => (c env).bind fun b env => if b = true then f env else g env
theorem i_ifExp {fc : IB} {f g : IF} (hc : ITst X y fz c fc) (h : I X y fz a f) (h' : I X y fz b g) : I X y fz (.IfExp c a b pos) (iIf fc f g) := by
  refine ⟨pe_imp (pe_ifExp hc.pt h.pe h'.pe) fun σ H Q q => ?_⟩
  obtain ⟨env, F, R, he, h⟩ := q
  refine ⟨env, F, R, he, (IR.post_bind h).mono (fun k env1 h H' F' A => ?_) fun x q => q⟩
  cases k with
  | true => exact tI_up A h
  | false => exact tI_up A h
/-- arguments that may write, displays of them -/
def iNil : IL := fun env => .ok [] env
def iCons (f : IF) (g : IL) : IL := fun env => (f env).bind fun d env => (g env).bind fun ds env => .ok (d :: ds) env
theorem ia_nil : IArg X y fz [] iNil := ⟨pa_imp pa_nil fun _ H _ ⟨_, F, R, he, q⟩ => q [] H F [] (Aft.same he (Same.refl H)) .nil (by simp) (by simp)⟩
theorem ia_cons {f : IF} {g : IL} (h : I X y fz e f) (h' : IArg X y fz es g) (hs : starEach (e :: es) X.env = (false, eval e X.env) :: starEach es X.env := by rfl) : IArg X y fz (e :: es) (iCons f g) := by
  refine ⟨pa_imp (pa_cons h.pe h'.pa hs) fun σ H Q q => ?_⟩
  obtain ⟨env, F, R, he, h⟩ := q
  refine ⟨env, F, R, he, (IR.post_bind h).mono (fun d env1 h v H1 F1 fp A1 o1 n1 p1 => ?_) fun x q => q⟩
  refine ⟨env1, F1, R, A1.ok, (IR.post_bind h).mono (fun ds env2 h vs H2 F2 fps A2 o2 n2 p2 => ?_) fun x q => q.stp A1.stp⟩
  refine h (v :: vs) H2 F2 (fp ++ fps) (A1.trans A2) (.cons (o1.stp A2.stp n1) o2 fun b m m' => ?_) (fun b m i m' => ?_) fun b m => ?_
  · rcases p2 b m' with ⟨j, q⟩ | q
    · exact n1 b m j q
    · obtain ⟨ob, e⟩ := o1.live m
      rw [q] at e; cases e
  · rcases List.mem_append.mp m with m | m
    · obtain ⟨ob, e⟩ := o1.live m
      rcases A2.stp.new i b m' with ⟨j, q⟩ | q
      · exact n1 b m j q
      · rw [e] at q; cases q
    · exact n2 b m i m'
  · rcases List.mem_append.mp m with m | m
    · exact p1 b m
    · exact A1.stp.nu (p2 b m)
def iTup (f : IL) : IF := fun env => (f env).bind fun ds env => if ds.length ≤ sizeLine then .ok (mkTup ds) env else .bad
theorem fresh_out {K : Fg} {fz : List Nat} {R : Addr → Prop} {σ : L2.St} {H : Hp} {F : Nat → List Addr} {env : List D} (e : EnvOk K H fz R σ env F) {b : Addr} (h : H b = none) : ∀ i, b ∉ F i := fun i m => by
  obtain ⟨ob, q⟩ := e.live m
  rw [h] at q; cases q
theorem i_tup {f : IL} {k} (h : IArg X y fz es f) : I X y fz (.Tuple es k pos) (iTup f) := by
  refine ⟨pe_imp (pe_tup h.pa) fun σ H Q q => ?_⟩
  obtain ⟨env, F, R, he, h⟩ := q
  refine ⟨env, F, R, he, (IR.post_bind h).mono (fun ds env1 h vs H1 F1 fp A os n p => ?_) fun x q => q⟩
  have hl := os.length
  split at h
  · rename_i hz
    refine ⟨by omega, fun a na => ?_⟩
    exact h _ _ F1 fp (A.trans (Aft.same A.ok (same_upd na))) (own_tup upd_same (os.same (same_upd na))) n p
  · exact (h : False).elim
def iLst (f : IL) : IF := fun env => (f env).bind fun ds env => if ds.length ≤ sizeLine then .ok (.lst ds) env else .bad
theorem i_lst {f : IL} (h : IArg X y fz es f) : I X y fz (.List es pos) (iLst f) := by
  refine ⟨pe_imp (pe_lst h.pa) fun σ H Q q => ?_⟩
  obtain ⟨env, F, R, he, h⟩ := q
  refine ⟨env, F, R, he, (IR.post_bind h).mono (fun ds env1 h vs H1 F1 fp A os n p => ?_) fun x q => q⟩
  have hl := os.length
  split at h
  · rename_i hz
    refine ⟨by omega, fun a na => ?_⟩
    have hp : a ∉ fp := fun m => by
      obtain ⟨ob, e⟩ := os.live m
      rw [na] at e; cases e
    refine h _ _ F1 (a :: fp) (A.trans (Aft.same A.ok (same_upd na))) (.lst upd_same (os.same (same_upd na)) hp) (fun b m => ?_) fun b m => ?_
    · rcases List.mem_cons.mp m with rfl | m
      · exact fresh_out A.ok na
      · exact n b m
    · rcases List.mem_cons.mp m with rfl | m
      · exact .inr (A.stp.free na)
      · exact p b m
  · exact (h : False).elim
/-- built-ins by name, of arguments that may write -/
def iCall (G : List D → Option D) (f : IL) : IF := fun env => (f env).bind fun ds env => IR.ofP (PR.of (G ds)) env
theorem seeL_of {K : Fg} {H : Hp} : ∀ {ds : List D} {vs : List V} {fp : List Addr}, SeeAll K H vs ds fp → SeeL K H vs ds
  | [], _, _, h => by cases h; exact .nil
  | d :: ds, _, _, h => by
    cases h with
    | cons h1 h2 _ => exact .cons ⟨_, h1⟩ (seeL_of h2)
theorem tI_call {K : Fg} {G : List D → Option D} {f : IL} {σ : L2.St} {H : Hp} {Q : VK} (h : tI K y fz (iCall G f) σ H Q) : tCB (rVN K G) (tIA K y fz f) σ H Q := by
  obtain ⟨env, F, R, he, h⟩ := h
  refine ⟨env, F, R, he, (IR.post_bind h).mono (fun ds env1 h vs H1 F1 fp A os n p => ?_) fun x q => q⟩
  obtain ⟨r, e, q⟩ := PR.post_of (IR.post_ofP h)
  refine ⟨ds, r, seeL_of os.see, e, fun v H' fp' s o n' => q v H' F1 fp' (A.trans (Aft.same A.ok s)) o (fun b m => fresh_out A.ok (n' b m)) fun b m => .inr (A.stp.free (n' b m))⟩
theorem i_callB {x : Str} {p : Pos} {id : String} {G : List D → Option D} {f : IL} (hc : VN X (.builtin id) G) (hg : Gl X x) (hm : X.mg x = none) (hv : bootBuiltins x = some (.builtin id)) (ha : IArg X y fz (e :: es) f) (hn : x ≠ "__name__" := by decide) (hdb : (x == ("__debug__" : Str)) = false := by decide)
    (he : starEach (e :: es) X.env = (false, eval e X.env) :: starEach es X.env := by rfl) (hpl : (backTo pos (starEach es X.env)).any (·.1) = false := by rfl) : I X y fz (.Call (.Name x p) (e :: es) [] pos) (iCall G f) :=
  ⟨pe_imp (pe_callB hc hg hm hv ha.pa hn hdb he hpl) fun _ _ _ q => tI_call q⟩
theorem i_callTy {x : Str} {p : Pos} {T : String} {G : List D → Option D} {f : IL} (hc : VN X (.type T) G) (hg : Gl X x) (hm : X.mg x = none) (hv : bootBuiltins x = some (.type T)) (ha : IArg X y fz (e :: es) f) (hn : x ≠ "__name__" := by decide) (hdb : (x == ("__debug__" : Str)) = false := by decide)
    (he : starEach (e :: es) X.env = (false, eval e X.env) :: starEach es X.env := by rfl) (hpl : (backTo pos (starEach es X.env)).any (·.1) = false := by rfl) : I X y fz (.Call (.Name x p) (e :: es) [] pos) (iCall G f) :=
  ⟨pe_imp (pe_callTy hc hg hm hv ha.pa hn hdb he hpl) fun _ _ _ q => tI_call q⟩
end
end Ow

set_option Elab.async false
set_option linter.all false
set_option maxRecDepth 100000
set_option maxHeartbeats 1000000
/-! OwG: statements. -/
namespace Ow
open PySem PySem.Spec PyProof.Rows L2

inductive SR where
  | nx (env : List D)
  | rt (d : D) (env : List D)
  | bk (env : List D)
  | ct (env : List D)
  | err (x : Ex)
  | bad
abbrev SF := List D → SR
/-- behind a statement -/
structure AftS (K : Fg) (fz pn : List Nat) (R : Addr → Prop) (σ : L2.St) (H : Hp) (F : Nat → List Addr) (env : List D) (σ' : L2.St) (H' : Hp) (F' : Nat → List Addr) (env' : List D) : Prop where
  stp : Stp H F H' F'
  ok : EnvOk K H' fz R σ' env' F'
  fix : ∀ i ∈ fz, env'[i]? = env[i]?
  pin : ∀ i, i ∈ fz ∨ i ∈ pn → σ'[i]? = σ[i]?
  len : σ'.length = σ.length
section
variable {K : Fg} {y : Wi} {fz pn : List Nat} {R : Addr → Prop} {σ σ1 σ2 : L2.St} {H H1 H2 : Hp} {F F1 F2 : Nat → List Addr} {env env1 env2 : List D}
theorem AftS.trans (a : AftS K fz pn R σ H F env σ1 H1 F1 env1) (b : AftS K fz pn R σ1 H1 F1 env1 σ2 H2 F2 env2) : AftS K fz pn R σ H F env σ2 H2 F2 env2 :=
  ⟨a.stp.trans b.stp, b.ok, fun i h => (b.fix i h).trans (a.fix i h), fun i h => (b.pin i h).trans (a.pin i h), b.len.trans a.len⟩
theorem Aft.s (a : Aft K fz R σ H F env H1 F1 env1) : AftS K fz pn R σ H F env σ H1 F1 env1 := ⟨a.stp, a.ok, a.fix, fun _ _ => rfl, rfl⟩
theorem AftS.refl (e : EnvOk K H fz R σ env F) : AftS K fz pn R σ H F env σ H F env := ⟨Stp.refl H F, e, fun _ _ => rfl, fun _ _ => rfl, rfl⟩
end
def ES (K : Fg) (y : Wi) (fz pn : List Nat) (σ : L2.St) (H : Hp) (F : Nat → List Addr) (x : Ex) : Prop := ∀ σ' c dd H', σ'.length = σ.length → (∀ i, i ∈ fz ∨ i ∈ pn → σ'[i]? = σ[i]?) → (∀ b o, H b = some o → (∀ i, b ∉ F i) → H' b = some o) → (∀ b o, H b = some o → ∃ o', H' b = some o') → Tk H H' → ErrOk K y x H' c dd → y.W c dd σ' H'
def Sat (K : Fg) (y : Wi) (fz pn : List Nat) (R : Addr → Prop) (σ : L2.St) (H : Hp) (F : Nat → List Addr) (env : List D) (r : SR) (Dn : Ends) : Prop :=
  match r with
  | .nx e => ∀ σ' H' F', AftS K fz pn R σ H F env σ' H' F' e → Dn.nx σ' H'
  | .rt d e => ∀ σ' v H' F' fv, AftS K fz pn R σ H F env σ' H' F' e → Own K H' v d fv → (∀ b ∈ fv, ∀ i, b ∉ F' i) → (∀ b ∈ fv, (∃ j, b ∈ F j) ∨ H b = none) → Dn.rt v H'
  | .bk e => ∀ σ' H' F', AftS K fz pn R σ H F env σ' H' F' e → Dn.bk σ' H'
  | .ct e => ∀ σ' H' F', AftS K fz pn R σ H F env σ' H' F' e → Dn.ct σ' H'
  | .err x => ES K y fz pn σ H F x
  | .bad => False
section
variable {K : Fg} {y : Wi} {fz pn : List Nat} {R : Addr → Prop} {σ σ1 σ2 : L2.St} {H H1 H2 : Hp} {F F1 F2 : Nat → List Addr} {env env1 env2 : List D} {x : Ex}
theorem ES.ei (h : ES K y fz pn σ H F x) : EI K y σ H F x := fun c dd H' k l t e => h σ c dd H' rfl (fun _ _ => rfl) k l t e
theorem ES.up (h : ES K y fz pn σ H F x) (a : AftS K fz pn R σ H F env σ1 H1 F1 env1) : ES K y fz pn σ1 H1 F1 x := fun σ' c dd H' hl pi k l t e => h σ' c dd H' (hl.trans a.len) (fun i hi => (pi i hi).trans (a.pin i hi)) (fun b o q n => k b o (a.stp.keep b o q n) (a.stp.out q n)) (fun b o q => by
  obtain ⟨o', q⟩ := a.stp.live b o q
  exact l b o' q) (a.stp.imm.trans t) e
theorem Sat.up {r : SR} {Dn : Ends} (a : AftS K fz pn R σ H F env σ1 H1 F1 env1) (h : Sat K y fz pn R σ H F env r Dn) : Sat K y fz pn R σ1 H1 F1 env1 r Dn := by
  cases r with
  | nx e => exact fun σ' H' F' b => h σ' H' F' (a.trans b)
  | rt d e => exact fun σ' v H' F' fv b o n p => h σ' v H' F' fv (a.trans b) o n fun c m => a.stp.nu (p c m)
  | bk e => exact fun σ' H' F' b => h σ' H' F' (a.trans b)
  | ct e => exact fun σ' H' F' b => h σ' H' F' (a.trans b)
  | err x => exact ES.up h a
  | bad => exact h
end
def tS (K : Fg) (y : Wi) (fz pn : List Nat) (g : SF) : TS := fun Dn σ H => ∃ env F R, EnvOk K H fz R σ env F ∧ Sat K y fz pn R σ H F env (g env) Dn
structure S (X : Cx) (y : Wi) (fz pn : List Nat) (st : Stmt) (g : SF) : Prop where
  ps : PS X st (tS X.K y fz pn g)
structure Ss (X : Cx) (y : Wi) (fz pn : List Nat) (st : List Stmt) (g : SF) : Prop where
  ps : PSs X st (tS X.K y fz pn g)
def IR.toS {α : Type} (r : IR α) (k : α → List D → SR) : SR :=
  match r with
  | .ok a e => k a e
  | .err x => .err x
  | .bad => .bad
@[simp] theorem IR.toS_ok {α : Type} (a : α) (e : List D) (k : α → List D → SR) : (IR.ok a e).toS k = k a e := rfl
@[simp] theorem IR.toS_err {α : Type} (x : Ex) (k : α → List D → SR) : (IR.err x : IR α).toS k = .err x := rfl
@[simp] theorem IR.toS_bad {α : Type} (k : α → List D → SR) : (IR.bad : IR α).toS k = .bad := rfl
theorem Sat.ofI {K : Fg} {y : Wi} {fz pn : List Nat} {R : Addr → Prop} {σ : L2.St} {H : Hp} {F : Nat → List Addr} {env : List D} {α : Type} {r : IR α} {k : α → List D → SR} {Dn : Ends} (h : Sat K y fz pn R σ H F env (r.toS k) Dn) :
    r.post (fun a e => Sat K y fz pn R σ H F env (k a e) Dn) (EI K y σ H F) := by
  cases r with
  | ok a e => exact h
  | err x => exact ES.ei h
  | bad => exact h
section
variable {X : Cx} {y : Wi} {fz pn : List Nat} {a b c e : Expr} {es : List Expr} {st : Stmt} {rest : List Stmt} {pos : Pos}
/-! ### blocks, if, return -/
def sNil : SF := fun env => .nx env
def sSeq (g h : SF) : SF := fun env => match g env with
  | .nx e => h e
  | r => r
theorem ss_nil : Ss X y fz pn [] sNil := ⟨pss_imp pss_nil fun Dn σ H ⟨env, F, R, he, h⟩ => h σ H F (AftS.refl he)⟩
theorem sat_seq {K : Fg} {g h : SF} {Dn : Ends} {σ : L2.St} {H : Hp} (q : tS K y fz pn (sSeq g h) Dn σ H) : tS K y fz pn g { Dn with nx := tS K y fz pn h Dn } σ H := by
  obtain ⟨env, F, R, he, q⟩ := q
  refine ⟨env, F, R, he, ?_⟩
  unfold sSeq at q
  cases e1 : g env with
  | nx e => rw [e1] at q; exact fun σ' H' F' a => ⟨e, F', R, a.ok, Sat.up a q⟩
  | rt d e => rw [e1] at q; exact q
  | bk e => rw [e1] at q; exact q
  | ct e => rw [e1] at q; exact q
  | err x => rw [e1] at q; exact q
  | bad => rw [e1] at q; exact q
theorem ss_cons {g h : SF} (h1 : S X y fz pn st g) (h2 : Ss X y fz pn rest h) : Ss X y fz pn (st :: rest) (sSeq g h) := ⟨pss_imp (pss_cons h1.ps h2.ps) fun _ _ _ q => sat_seq q⟩
theorem ss_one {g : SF} (h1 : S X y fz pn st g) : Ss X y fz pn [st] g := ⟨pss_one h1.ps⟩
def sIf (c : IB) (g h : SF) : SF := fun env => (c env).toS fun b e => if b = true then g e else h e
theorem s_if {fc : IB} {g h : SF} {s1 s2 : List Stmt} (hc : ITst X y fz c fc) (h1 : Ss X y fz pn s1 g) (h2 : Ss X y fz pn s2 h) : S X y fz pn (.If c s1 s2 pos) (sIf fc g h) := by
  refine ⟨ps_imp (ps_if hc.pt h1.ps h2.ps) fun Dn σ H q => ?_⟩
  obtain ⟨env, F, R, he, q⟩ := q
  refine ⟨env, F, R, he, (Sat.ofI q).mono (fun b e q H' F' A => ?_) fun x q => q⟩
  cases b with
  | true => exact ⟨e, F', R, A.ok, Sat.up A.s q⟩
  | false => exact ⟨e, F', R, A.ok, Sat.up A.s q⟩
def sRet (f : IF) : SF := fun env => (f env).toS fun d e => .rt d e
theorem s_ret {f : IF} (h : I X y fz e f) : S X y fz pn (.Return (some e) pos) (sRet f) := by
  refine ⟨ps_imp (ps_ret h.pe) fun Dn σ H q => ?_⟩
  obtain ⟨env, F, R, he, q⟩ := q
  exact ⟨env, F, R, he, (Sat.ofI q).mono (fun d e q v H' F' fv A o n p => q σ v H' F' fv A.s o n p) fun x q => q⟩
def sRetN : SF := fun env => .rt (.g .none) env
theorem s_retN : S X y fz pn (.Return none pos) sRetN := by
  refine ⟨ps_imp ps_retN fun Dn σ H q => ?_⟩
  obtain ⟨env, F, R, he, q⟩ := q
  exact q σ .non H F [] (AftS.refl he) (.g .non) (by simp) (by simp)
def sBreak : SF := fun env => .bk env
def sCont : SF := fun env => .ct env
theorem s_break : S X y fz pn (.Break pos) sBreak := ⟨ps_imp ps_break fun Dn σ H ⟨env, F, R, he, q⟩ => q σ H F (AftS.refl he)⟩
theorem s_cont : S X y fz pn (.Continue pos) sCont := ⟨ps_imp ps_continue fun Dn σ H ⟨env, F, R, he, q⟩ => q σ H F (AftS.refl he)⟩
theorem s_pass : S X y fz pn (.Pass pos) sNil := ⟨ps_imp ps_pass fun Dn σ H ⟨env, F, R, he, q⟩ => q σ H F (AftS.refl he)⟩
theorem s_doc {x j pos pos'} : S X y fz pn (.Expr (.Constant (.str x) j pos) pos') sNil := ⟨ps_imp ps_doc fun Dn σ H ⟨env, F, R, he, q⟩ => q σ H F (AftS.refl he)⟩
/-- an expression whose value is let go -/
def sDrop (f : IF) : SF := fun env => (f env).toS fun _ e => .nx e
theorem s_expr {f : IF} (h : I X y fz e f) (hs : swapsWith e none pos.line X.env = pure false := by rfl) : S X y fz pn (.Expr e pos) (sDrop f) := by
  refine ⟨ps_imp (ps_expr h.pe hs) fun Dn σ H q => ?_⟩
  obtain ⟨env, F, R, he, q⟩ := q
  exact ⟨env, F, R, he, (Sat.ofI q).mono (fun d e q v H' F' fv A o n p => q σ H' F' A.s) fun x q => q⟩

/-! ### x = e -/
def putD (i : Nat) (d : D) (env : List D) : Option (List D) :=
  match d with
  | .hole => none
  | d => if i < env.length then some (env.set i d) else none
theorem putD_some {i : Nat} {d : D} {env env' : List D} (h : putD i d env = some env') : d ≠ .hole ∧ i < env.length ∧ env' = env.set i d := by
  unfold putD at h
  split at h
  · cases h
  · rename_i hd
    split at h
    · rename_i hl; cases h; exact ⟨fun z => hd z, hl, rfl⟩
    · cases h
def free (fz pn : List Nat) (i : Nat) : Bool := !fz.contains i && !pn.contains i
theorem free_iff {i : Nat} (h : free fz pn i = true) : i ∉ fz ∧ i ∉ pn := by
  unfold free at h
  rw [Bool.and_eq_true] at h
  refine ⟨fun m => ?_, fun m => ?_⟩
  · rw [List.contains_iff_mem.mpr m] at h; cases h.1
  · rw [List.contains_iff_mem.mpr m] at h; cases h.2
theorem AftS.put' {K : Fg} {R : Addr → Prop} {σ0 σ : L2.St} {H : Hp} {F : Nat → List Addr} {env : List D} {i : Nat} {v : V} {d : D} {fp : List Addr} {H0 : Hp} {F0 : Nat → List Addr} {env0 : List D} (A : AftS K fz pn R σ0 H0 F0 env0 σ H F env) (e0 : EnvOk K H0 fz R σ0 env0 F0) (hf : free fz pn i = true) (hlt : i < env.length) (hd : d ≠ .hole) (o : Own K H v d fp) (n : ∀ b ∈ fp, ∀ j, b ∉ F j)
    (p : ∀ b ∈ fp, (∃ j, b ∈ F0 j) ∨ H0 b = none) : AftS K fz pn R σ0 H0 F0 env0 (σ.set i (some v)) H (updF F i fp) (env.set i d) where
  stp := ⟨A.stp.keep, A.stp.live, A.stp.imm, fun j b m => by
    by_cases hj : j = i
    · subst hj; rw [updF_same] at m; exact p b m
    · rw [updF_ne hj] at m; exact A.stp.new j b m⟩
  ok := A.ok.put (free_iff hf).1 hlt hd o (fun b m j _ => n b m j) fun b m => e0.notR (p b m)
  fix := fun j h => by
    have hji : j ≠ i := fun z => (free_iff hf).1 (z ▸ h)
    rw [List.getElem?_set_ne (Ne.symm hji)]
    exact A.fix j h
  pin := fun j h => by
    have hji : j ≠ i := fun z => h.elim (fun h => (free_iff hf).1 (z ▸ h)) fun h => (free_iff hf).2 (z ▸ h)
    rw [List.getElem?_set_ne (Ne.symm hji)]
    exact A.pin j h
  len := by rw [List.length_set]; exact A.len
theorem AftS.put {K : Fg} {R : Addr → Prop} {σ : L2.St} {H : Hp} {F : Nat → List Addr} {env : List D} {i : Nat} {v : V} {d : D} {fp : List Addr} {H0 : Hp} {F0 : Nat → List Addr} {env0 : List D} (A : Aft K fz R σ H0 F0 env0 H F env) (e0 : EnvOk K H0 fz R σ env0 F0) (hf : free fz pn i = true) (hlt : i < env.length) (hd : d ≠ .hole) (o : Own K H v d fp) (n : ∀ b ∈ fp, ∀ j, b ∉ F j)
    (p : ∀ b ∈ fp, (∃ j, b ∈ F0 j) ∨ H0 b = none) : AftS K fz pn R σ H0 F0 env0 (σ.set i (some v)) H (updF F i fp) (env.set i d) := AftS.put' A.s e0 hf hlt hd o n p
def OpS (r : Option (List D)) : SR := match r with
  | some e => .nx e
  | none => .bad
theorem Sat.opS {K : Fg} {R : Addr → Prop} {σ : L2.St} {H : Hp} {F : Nat → List Addr} {env : List D} {r : Option (List D)} {Dn : Ends} (h : Sat K y fz pn R σ H F env (OpS r) Dn) : ∃ e, r = some e ∧ ∀ σ' H' F', AftS K fz pn R σ H F env σ' H' F' e → Dn.nx σ' H' := by
  cases r with
  | none => exact (h : False).elim
  | some e => exact ⟨e, rfl, h⟩
def sSet (i : Nat) (f : IF) : SF := fun env => (f env).toS fun d e => OpS (putD i d e)
theorem s_set {i : Nat} {x : Str} {f : IF} {p' : Pos} (hf : free fz pn i = true) (hs : PS X (.Assign [.Name x p'] e pos) (tAsg (tI X.K y fz f) (gName i))) : S X y fz pn (.Assign [.Name x p'] e pos) (sSet i f) := by
  refine ⟨ps_imp hs fun Dn σ H q => ?_⟩
  obtain ⟨env, F, R, he, q⟩ := q
  refine ⟨env, F, R, he, (Sat.ofI q).mono (fun d e q v H' F' fv A o n p => ?_) fun x q => q⟩
  obtain ⟨e', e1, q⟩ := Sat.opS q
  obtain ⟨hd, hlt, rfl⟩ := putD_some e1
  exact q _ _ _ (AftS.put A he hf hlt hd o n p)

/-! ### targets: names, tuples of them; what they get is ground -/
inductive Pat where
  | nm (i : Nat)
  | tp (ps : List Pat)
mutual
def Pat.slots : Pat → List Nat
  | .nm i => [i]
  | .tp ps => slotsL ps
def slotsL : List Pat → List Nat
  | [] => []
  | p :: ps => p.slots ++ slotsL ps
end
mutual
def bindP : Pat → D → List D → Option (List D)
  | .nm i, d, env => match d with
    | .g x => putD i (.g x) env
    | _ => none
  | .tp ps, d, env => match d with
    | .g (.tuple xs) => bindPs ps (xs.map .g) env
    | .tp ds => bindPs ps ds env
    | _ => none
def bindPs : List Pat → List D → List D → Option (List D)
  | [], [], env => some env
  | p :: ps, d :: ds, env => (bindP p d env).bind fun env => bindPs ps ds env
  | _, _, _ => none
end
/-- what a target asks: it stores data as bindP says -/
structure G (X : Cx) (y : Wi) (fz pn : List Nat) (tg : Expr) (p : Pat) : Prop where
  pg : PG X tg fun v σ H Q => ∃ env F R d fp env', EnvOk X.K H fz R σ env F ∧ See X.K H v d fp ∧ bindP p d env = some env' ∧ ∀ σ' F', AftS X.K fz pn R σ H F env σ' H F' env' → (∀ j, j ∉ p.slots → σ'[j]? = σ[j]?) → Q σ' H
structure Gs (X : Cx) (y : Wi) (fz pn : List Nat) (tg : List Expr) (p : List Pat) : Prop where
  pg : PGs X tg fun vs σ H Q => ∃ env F R ds fp env', EnvOk X.K H fz R σ env F ∧ SeeAll X.K H vs ds fp ∧ bindPs p ds env = some env' ∧ ∀ σ' F', AftS X.K fz pn R σ H F env σ' H F' env' → (∀ j, j ∉ slotsL p → σ'[j]? = σ[j]?) → Q σ' H
theorem pg_imp {t t' : TG} (h : PG X e t) (i : ∀ v σ H Q, t' v σ H Q → t v σ H Q) : PG X e t' := ⟨fun pins s σ H v u Q I r q => h.run pins s σ H v u Q I r (i v σ H Q q)⟩
theorem pgs_imp {t t' : TGs} (h : PGs X es t) (i : ∀ v σ H Q, t' v σ H Q → t v σ H Q) : PGs X es t' := ⟨fun pins s σ H v u Q I r q => h.run pins s σ H v u Q I r (i v σ H Q q)⟩
theorem g_name {i : Nat} (hf : free fz pn i = true) (hg : PG X e (gName i)) : G X y fz pn e (.nm i) := by
  refine ⟨pg_imp hg fun v σ H Q q => ?_⟩
  obtain ⟨env, F, R, d, fp, env', he, hs, hb, q⟩ := q
  unfold bindP at hb
  cases d with
  | g x =>
    obtain ⟨hd, hlt, rfl⟩ := putD_some hb
    obtain ⟨gx, rfl⟩ := see_g hs
    refine q _ _ (AftS.put (fp := []) (Aft.same he (Same.refl H)) he hf hlt hd (.g gx) (by simp) (by simp)) fun j hj => ?_
    have : j ≠ i := fun z => hj (by simp [Pat.slots, z])
    rw [List.getElem?_set_ne (Ne.symm this)]
  | _ => cases hb
theorem gs_nil : Gs X y fz pn [] [] := by
  refine ⟨pgs_imp pgs_nil fun vs σ H Q q => ?_⟩
  obtain ⟨env, F, R, ds, fp, env', he, hs, hb, q⟩ := q
  cases ds with
  | nil =>
    cases hs
    simp only [bindPs] at hb
    cases hb
    exact ⟨rfl, q _ _ (AftS.refl he) fun _ _ => rfl⟩
  | cons d ds => simp [bindPs] at hb
theorem gs_cons {p : Pat} {ps : List Pat} (h1 : G X y fz pn e p) (h2 : Gs X y fz pn es ps) (hs : (assignEach (e :: es) X.env).map (·.2) = assign e X.env :: (assignEach es X.env).map (·.2) := by rfl) : Gs X y fz pn (e :: es) (p :: ps) := by
  refine ⟨pgs_imp (pgs_cons h1.pg h2.pg hs) fun vs σ H Q q => ?_⟩
  obtain ⟨env, F, R, ds, fp, env', he, hs, hb, q⟩ := q
  cases ds with
  | nil => simp [bindPs] at hb
  | cons d ds =>
    cases hs with
    | cons s1 s2 _ =>
      simp only [bindPs, Option.bind_eq_some_iff] at hb
      obtain ⟨env1, b1, b2⟩ := hb
      exact ⟨_, _, rfl, env, F, R, d, _, env1, he, s1, b1, fun σ1 F1 A1 f1 => ⟨env1, F1, R, ds, _, env', A1.ok, s2, b2, fun σ2 F2 A2 f2 => q σ2 F2 (A1.trans A2) fun j hj => (f2 j fun m => hj (by simp [slotsL, m])).trans (f1 j fun m => hj (by simp [slotsL, m]))⟩⟩
theorem bindPs_len : ∀ {ps : List Pat} {ds : List D} {env env' : List D}, bindPs ps ds env = some env' → ds.length = ps.length
  | [], [], _, _, _ => rfl
  | [], _ :: _, _, _, h => by simp [bindPs] at h
  | _ :: _, [], _, _, h => by simp [bindPs] at h
  | p :: ps, d :: ds, env, env', h => by
    simp only [bindPs, Option.bind_eq_some_iff] at h
    obtain ⟨env1, _, b2⟩ := h
    simp [bindPs_len b2]
theorem g_tup {ps : List Pat} {k : Nat} {n : Nat} (hc : X.calm = true) (h : Gs X y fz pn es ps) (hn : (assignEach es X.env).length = n := by rfl) (hst : (assignEach es X.env).findIdx? (·.1) = none := by rfl) (hps : ps.length = n := by rfl) : G X y fz pn (.Tuple es k pos) (.tp ps) := by
  refine ⟨pg_imp (pg_tup hc h.pg hn hst) fun v σ H Q q => ?_⟩
  obtain ⟨env, F, R, d, fp, env', he, hs, hb, q⟩ := q
  unfold bindP at hb
  cases d with
  | g x =>
    cases x with
    | tuple xs =>
      obtain ⟨a, vs, rfl, h1, h2⟩ := see_tup hs
      have hl := bindPs_len hb
      rw [List.length_map] at hl
      exact ⟨a, vs, rfl, h1, by rw [h2.length, hl, hps], env, F, R, _, _, env', he, h2.rel, hb, q⟩
    | _ => cases hb
  | tp ds =>
    cases hs with
    | tp h1 h2 => exact ⟨_, _, rfl, h1, by rw [h2.length, bindPs_len hb, hps], env, F, R, _, _, env', he, h2, hb, q⟩
  | _ => cases hb
/-- targets = e -/
def sAsg (p : Pat) (f : IF) : SF := fun env => (f env).toS fun d e => OpS (bindP p d e)
theorem s_asg {p : Pat} {tg : Expr} {f : IF} (h : I X y fz e f) (hg : G X y fz pn tg p) (hs : swapsWithSole [tg] e pos.line X.env = pure false := by rfl) (hw : swappedStores [tg] e X.env = pure none := by rfl)
    (h1 : (assignEach [tg] X.env).map (·.2) = [assign tg X.env] := by rfl) : S X y fz pn (.Assign [tg] e pos) (sAsg p f) := by
  refine ⟨ps_imp (ps_asg h.pe hg.pg hs hw h1) fun Dn σ H q => ?_⟩
  obtain ⟨env, F, R, he, q⟩ := q
  refine ⟨env, F, R, he, (Sat.ofI q).mono (fun d e q v H' F' fv A o n p => ?_) fun x q => q⟩
  obtain ⟨e', e1, q⟩ := Sat.opS q
  exact ⟨e, F', R, d, fv, e', A.ok, o.see, e1, fun σ' F2 A2 _ => q σ' H' F2 (A.s.trans A2)⟩
/-- a, b = x, y with plain local names: stored from the right -/
def sPar (i j : Nat) (f : IL) : SF := fun env => (f env).toS fun ds e => match ds with
  | [d, d'] => OpS ((putD i d e).bind fun e => putD j d' e)
  | _ => .bad
theorem s_par {i j : Nat} {x x' : Str} {f : IL} {px py pt : Pos} {kt k2 pt2} (hi : free fz pn i = true) (hj : free fz pn j = true) (hs : PS X (.Assign [.Tuple [.Name x px, .Name x' py] kt pt] (.Tuple [a, b] k2 pt2) pos) (tPar i j (tIA X.K y fz f))) (hij : i ≠ j) :
    S X y fz pn (.Assign [.Tuple [.Name x px, .Name x' py] kt pt] (.Tuple [a, b] k2 pt2) pos) (sPar i j f) := by
  refine ⟨ps_imp hs fun Dn σ H q => ?_⟩
  obtain ⟨env, F, R, he, q⟩ := q
  refine ⟨env, F, R, he, (Sat.ofI q).mono (fun ds e q vs H' F' fv A o n p => ?_) fun x q => q⟩
  match ds, o, q with
  | [d, d'], o, q =>
    cases o with
    | cons o1 o2 nd =>
      cases o2 with
      | cons o2 o3 nd2 =>
        cases o3
        obtain ⟨e', e1, q⟩ := Sat.opS q
        rw [Option.bind_eq_some_iff] at e1
        obtain ⟨e1', h1, h2⟩ := e1
        obtain ⟨hd, hlt, rfl⟩ := putD_some h1
        obtain ⟨hd', hlt', rfl⟩ := putD_some h2
        rw [List.append_nil] at nd n p
        have A1 := AftS.put (pn := pn) A he hi hlt hd o1 (fun b m => n b (List.mem_append_left _ m)) fun b m => p b (List.mem_append_left _ m)
        refine ⟨_, _, rfl, q _ H' _ (AftS.put' A1 he hj hlt' hd' o2 (fun b m k m' => ?_) fun b m => p b (List.mem_append_right _ m))⟩
        by_cases hk : k = i
        · subst hk; rw [updF_same] at m'; exact nd b m' m
        · rw [updF_ne hk] at m'; exact n b (List.mem_append_right _ m) k m'
  | [], o, q => exact (q : False).elim
  | [_], o, q => exact (q : False).elim
  | _ :: _ :: _ :: _, o, q => exact (q : False).elim
end
end Ow

set_option Elab.async false
set_option linter.all false
set_option maxRecDepth 100000
set_option maxHeartbeats 1000000
/-! OwH: what is walked; for, while. -/
namespace Ow
open PySem PySem.Spec PyProof.Rows L2

/-- what a walk gives: its items; whether it leans on a thing that stood before (a list of the def's own) -/
structure Walk where
  items : List D
  lent : Bool
/-- the iterator J, begun at H', gives the items, as long as what stands at zp stays -/
def ItOk (K : Fg) (Z : Addr → Prop) (H H' : Hp) (J : It) (w : Walk) : Prop :=
  ∃ zp : List Addr, (w.lent = false → ∀ b ∈ zp, H b = none) ∧ (∀ b ∈ zp, Z b ∨ H b = none) ∧ (∀ b ∈ zp, ∃ o, H' b = some o) ∧
    ∀ H2, Tk H' H2 → (∀ b ∈ zp, ∀ o, H' b = some o → H2 b = some o) → ∀ i,
      (∀ d, w.items[i]? = some d → J.go i H2 ∧ ∀ x H3, J.yld i H2 x H3 → Same H2 H3 ∧ ∃ fp, See K H3 x d fp ∧ ∀ b ∈ fp, b ∈ zp) ∧ (w.items.length ≤ i → J.stop i H2)
abbrev PW' := List D → PR Walk
def tPI (K : Fg) (y : Wi) (f : PW') : TI := fun σ H R => ∃ env Z, RdEnv K Z H σ env ∧ (f env).post (fun w => ∀ J H', Same H H' → ItOk K Z H H' J w → R J H') (EP' K y σ H)
structure PIt (X : Cx) (y : Wi) (tg e : Expr) (f : PW') : Prop where
  pi : PI X tg e (tPI X.K y f)
theorem pi_imp {X : Cx} {tg e : Expr} {t t' : TI} (h : PI X tg e t) (i : ∀ σ H R, t' σ H R → t σ H R) : PI X tg e t' := ⟨fun pins s σ H R I q => h.run pins s σ H R I (i σ H R q)⟩

section
variable {X : Cx} {y : Wi} {a b c e tg : Expr} {es : List Expr} {pos : Pos}
/-! ### range -/
def rngL (lo : Int) (n : Nat) : List D := (List.range n).map fun (i : Nat) => .g (.int (lo + i))
theorem rngL_get {lo : Int} {n i : Nat} : (rngL lo n)[i]? = if i < n then some (.g (.int (lo + i))) else none := by
  unfold rngL
  rw [List.getElem?_map]
  by_cases h : i < n
  · rw [if_pos h, List.getElem?_range h]; rfl
  · rw [if_neg h, List.getElem?_eq_none (by simpa using h)]; rfl
theorem itOk_rng {K : Fg} {Z : Addr → Prop} {H H' : Hp} {lo : Int} {n : Nat} : ItOk K Z H H' (Itr lo n) ⟨rngL lo n, false⟩ := by
  refine ⟨[], by simp, by simp, by simp, fun H2 _ _ i => ⟨fun d hd => ?_, fun hi => ?_⟩⟩
  · rw [rngL_get] at hd
    split at hd
    · rename_i hi
      cases hd
      refine ⟨hi, fun x H3 hy => ?_⟩
      obtain ⟨rfl, rfl⟩ := hy
      exact ⟨Same.refl _, [], .g (.int _), by simp⟩
    · cases hd
  · show n ≤ i
    simpa [rngL] using hi
def intOf : D → Option Int
  | .g (.int i) => some i
  | _ => none
theorem intOf_some {d : D} {i : Int} (h : intOf d = some i) : d = .g (.int i) := by
  unfold intOf at h
  split at h
  · cases h; rfl
  · cases h
def wRng1 (f : PL) : PW' := fun env => (f env).bind fun
  | [d] => (PR.of (intOf d)).bind fun j => if -4611686018427387904 ≤ j ∧ j < 4611686018427387904 then .ok ⟨rngL 0 j.toNat, false⟩ else .bad
  | _ => .bad
def wRng2 (f : PL) : PW' := fun env => (f env).bind fun
  | [d, d'] => (PR.of (intOf d)).bind fun i => (PR.of (intOf d')).bind fun j => if -4611686018427387904 ≤ i ∧ i < 4611686018427387904 ∧ -4611686018427387904 ≤ j ∧ j < 4611686018427387904 then .ok ⟨rngL i (j - i).toNat, false⟩ else .bad
  | _ => .bad
theorem pit_rng1 {f : PL} {p : Pos} (hg : Gl X "range") (hm : X.mg "range" = none) (ha : PArg X y [a] f) (hs : starEach [a] X.env = [(false, eval a X.env)] := by rfl) : PIt X y tg (.Call (.Name "range" p) [a] [] pos) (wRng1 f) := by
  refine ⟨pi_imp (pi_range1 hg hm ha.pa hs) fun σ H R q => ?_⟩
  obtain ⟨env, Z, hR, h⟩ := q
  refine ⟨env, Z, hR, (PR.post_bind h).mono (fun ds h vs H1 s1 os => ?_) fun x q => q⟩
  match ds, os, h with
  | [d], os, h =>
    obtain ⟨j, e1, k1⟩ := PR.post_of (PR.post_bind h)
    have := intOf_some e1; subst this
    obtain ⟨v, fp, rfl, hv⟩ := seeL1 os
    have := see_int hv; subst this
    split at k1
    · rename_i hz
      exact ⟨j, rfl, by omega, by omega, k1 _ H1 s1 itOk_rng⟩
    · exact (k1 : False).elim
  | [], _, h => exact (h : False).elim
  | _ :: _ :: _, _, h => exact (h : False).elim
theorem pit_rng2 {f : PL} {p : Pos} (hg : Gl X "range") (hm : X.mg "range" = none) (ha : PArg X y [a, b] f) (hs : starEach [a, b] X.env = [(false, eval a X.env), (false, eval b X.env)] := by rfl) (hs2 : starEach [b] X.env = [(false, eval b X.env)] := by rfl) :
    PIt X y tg (.Call (.Name "range" p) [a, b] [] pos) (wRng2 f) := by
  refine ⟨pi_imp (pi_range2 hg hm ha.pa hs hs2) fun σ H R q => ?_⟩
  obtain ⟨env, Z, hR, h⟩ := q
  refine ⟨env, Z, hR, (PR.post_bind h).mono (fun ds h vs H1 s1 os => ?_) fun x q => q⟩
  match ds, os, h with
  | [d, d'], os, h =>
    obtain ⟨i, e1, k1⟩ := PR.post_of (PR.post_bind h)
    obtain ⟨j, e2, k2⟩ := PR.post_of (PR.post_bind k1)
    have := intOf_some e1; subst this
    have := intOf_some e2; subst this
    obtain ⟨v, w, fp, fq, rfl, hv, hw⟩ := seeL2 os
    have := see_int hv; subst this
    have := see_int hw; subst this
    split at k2
    · rename_i hz
      exact ⟨i, j, rfl, by omega, k2 _ H1 s1 itOk_rng⟩
    · exact (k2 : False).elim
  | [], _, h => exact (h : False).elim
  | [_], _, h => exact (h : False).elim
  | _ :: _ :: _ :: _, _, h => exact (h : False).elim

/-! ### a list, a tuple, a text -/
def iSeq (K : Fg) (tl : TE) : TI := fun σ H R => tl σ H fun x H1 => (∃ a, x = .ref a ∧ (∃ xs, SqL K H1 a xs) ∧ R (Itl K a) H1) ∨ (∃ a, x = .ref a ∧ (∃ xs, SqT K H1 a xs) ∧ R (Itt K a) H1) ∨ (∃ z, x = .str z ∧ R (Its z) H1)
theorem pi_seq {tl : TE} (hl : PE X e tl) : PI X tg e (iSeq X.K tl) := by
  refine ⟨fun pins s σ H R I h => ?_⟩
  refine thn (hl.run pins s σ H _ I h) fun v s1 ⟨x, H1, I1, r1, q1⟩ => ?_
  rcases q1 with ⟨a, rfl, ⟨xs, hq⟩, q⟩ | ⟨a, rfl, ⟨xs, hq⟩, q⟩ | ⟨z, rfl, q⟩
  · cases r1
    obtain ⟨its, rv, p, hz⟩ := I1.list hq
    refine wpAny_pyIter_list p.isList ?_
    refine ⟨s1.heap.objs.size, [s1.heap.objs.size], _, _, H1, rfl, I1.kept (t' := s1.toks) fun b o e => Heap.get?_push_of_some _ e, turn_list a _, ⟨_, Heap.get?_push_size _ rfl, rfl, rfl⟩, fun b hb => ?_, q⟩
    have e : b = s1.heap.objs.size := by simpa using hb
    subst e
    exact I1.fpOk (Nat.le_refl _) (I1.hok.fresh (Nat.le_refl _))
  · cases r1
    obtain ⟨its, rv, p, hz⟩ := I1.tuple hq
    refine wpAny_pyIter_tuple (show s1.heap.IsTuple a its.toArray from p) ?_
    refine ⟨s1.heap.objs.size, [s1.heap.objs.size], _, _, H1, rfl, I1.kept (t' := s1.toks) fun b o e => Heap.get?_push_of_some _ e, turn_tuple a _, ⟨_, Heap.get?_push_size _ rfl, rfl, rfl⟩, fun b hb => ?_, q⟩
    have e : b = s1.heap.objs.size := by simpa using hb
    subst e
    exact I1.fpOk (Nat.le_refl _) (I1.hok.fresh (Nat.le_refl _))
  · obtain ⟨t, rfl⟩ := r1
    cases ha : z.cps.all (· < 128)
    · exact wpAny_pyIter_wide ha (pi_one (tk := s1.toks) I1 _ (turn_str _ z t "str_iterator" (.inr rfl)) ⟨_, Heap.get?_push_size _ rfl, rfl, rfl⟩ q)
    · exact wpAny_pyIter_ascii ha (pi_one (tk := s1.toks) I1 _ (turn_str _ z t "str_ascii_iterator" (.inl rfl)) ⟨_, Heap.get?_push_size _ rfl, rfl, rfl⟩ q)
def walkOf : Pv → Option Walk
  | .own (.lst ds) => some ⟨ds, false⟩
  | .bor (.lst ds) => some ⟨ds, true⟩
  | .own (.g (.tuple xs)) => some ⟨xs.map .g, false⟩
  | .own (.g (.str z)) => some ⟨z.cps.toList.map fun c => .g (.str ⟨#[c]⟩), false⟩
  | _ => none
def wSeq (f : PF) : PW' := fun env => (f env).bind fun p => PR.of (walkOf p)
theorem itOk_list {K : Fg} {Z : Addr → Prop} {H H' : Hp} {a : Addr} {vs : List V} {ds : List D} {fp : List Addr} {l : Bool} (h : H' a = some (.lst vs)) (o : SeeAll K H' vs ds fp) (hl : ∀ b ∈ a :: fp, ∃ o, H' b = some o) (h1 : l = false → ∀ b ∈ a :: fp, H b = none) (h2 : ∀ b ∈ a :: fp, Z b ∨ H b = none) :
    ItOk K Z H H' (Itl K a) ⟨ds, l⟩ := by
  refine ⟨a :: fp, h1, h2, hl, fun H2 t k i => ⟨fun d hd => ?_, fun hi => ?_⟩⟩
  · have ha : H2 a = some (.lst vs) := k a List.mem_cons_self _ h
    have o2 : SeeAll K H2 vs ds fp := RelAll.frame t ds vs fp (fun b m _ e => SeeC.keep (fun o h => k b (List.mem_cons_of_mem _ m) o h) e) o
    obtain ⟨v, f, e1, e2, e3⟩ := o2.get hd
    refine ⟨⟨vs, v, SqL.of ha, e1⟩, fun x H3 hy => ?_⟩
    obtain ⟨rfl, hx⟩ := hy
    have := hx vs (SqL.of ha)
    rw [e1] at this; cases this
    exact ⟨Same.refl _, f, e2, fun b m => List.mem_cons_of_mem _ (e3 b m)⟩
  · exact ⟨vs, SqL.of (k a List.mem_cons_self _ h), by rw [o.length]; exact hi⟩
theorem itOk_tup {K : Fg} {Z : Addr → Prop} {H H' : Hp} {a : Addr} {vs : List V} {xs : List PyData} (h : SqT K H' a vs) (g : GpAll K H' vs xs) : ItOk K Z H H' (Itt K a) ⟨xs.map .g, false⟩ := by
  refine ⟨[], by simp, by simp, by simp, fun H2 t _ i => ⟨fun d hd => ?_, fun hi => ?_⟩⟩
  · have ha : SqT K H2 a vs := t.sqT h
    have g2 := GpAll.frame t _ _ g
    rw [List.getElem?_map, Option.map_eq_some_iff] at hd
    obtain ⟨z, e0, rfl⟩ := hd
    obtain ⟨v, e1, e2⟩ := g2.get e0
    refine ⟨⟨vs, v, ha, e1⟩, fun x H3 hy => ?_⟩
    obtain ⟨rfl, hx⟩ := hy
    have := hx vs ha
    rw [e1] at this; cases this
    exact ⟨Same.refl _, [], .g e2, by simp⟩
  · exact ⟨vs, t.sqT h, by rw [g.length]; simpa using hi⟩
theorem itOk_str {K : Fg} {Z : Addr → Prop} {H H' : Hp} {z : Str} : ItOk K Z H H' (Its z) ⟨z.cps.toList.map fun c => .g (.str ⟨#[c]⟩), false⟩ := by
  refine ⟨[], by simp, by simp, by simp, fun H2 _ _ i => ⟨fun d hd => ?_, fun hi => ?_⟩⟩
  · rw [List.getElem?_map, Option.map_eq_some_iff] at hd
    obtain ⟨c, e0, rfl⟩ := hd
    have e1 : z.cps[i]? = some c := by rw [← e0]; simp
    have hlt : i < z.cps.size := by
      rcases Nat.lt_or_ge i z.cps.size with h | h
      · exact h
      · rw [Array.getElem?_eq_none h] at e1; cases e1
    refine ⟨hlt, fun x H3 hy => ?_⟩
    obtain ⟨rfl, c', e2, rfl⟩ := hy
    rw [e1] at e2; cases e2
    exact ⟨Same.refl _, [], .g (.str _), by simp⟩
  · show z.cps.size ≤ i
    simpa using hi
theorem see_live {K : Fg} {H : Hp} {v : V} {d : D} {fp : List Addr} (h : See K H v d fp) {b : Addr} (m : b ∈ fp) : ∃ o, H b = some o := by
  obtain ⟨o, _, e | ⟨_, _, e⟩⟩ := Rel.at d v fp h b m <;> exact ⟨_, e⟩
theorem pit_seq {f : PF} (h : P X y e f) : PIt X y tg e (wSeq f) := by
  refine ⟨pi_imp (pi_seq h.pe) fun σ H R q => ?_⟩
  obtain ⟨env, Z, hR, h⟩ := q
  refine ⟨env, Z, hR, (PR.post_bind h).mono (fun p h v H1 fp s1 o1 => ?_) fun x q => q⟩
  obtain ⟨w, e, q⟩ := PR.post_of h
  unfold walkOf at e
  split at e
  · cases e
    obtain ⟨a, vs, fa, rfl, h1, h2, rfl⟩ := see_lst o1.1.see
    exact .inl ⟨a, rfl, ⟨vs, SqL.of h1⟩, q _ H1 s1 (itOk_list h1 h2 (fun b m => see_live o1.1.see m) (fun _ => o1.2) fun b m => .inr (o1.2 b m))⟩
  · cases e
    obtain ⟨a, vs, fa, rfl, h1, h2, rfl⟩ := see_lst o1.1
    exact .inl ⟨a, rfl, ⟨vs, SqL.of h1⟩, q _ H1 s1 (itOk_list h1 h2 (fun b m => see_live o1.1 m) (by simp) o1.2)⟩
  · cases e
    obtain ⟨a, vs, rfl, h1, h2⟩ := see_tup o1.1
    exact .inr (.inl ⟨a, rfl, ⟨vs, h1⟩, q _ H1 s1 (itOk_tup h1 h2)⟩)
  · cases e
    have := see_str o1.1; subst this
    exact .inr (.inr ⟨_, rfl, q _ H1 s1 itOk_str⟩)
  · cases e

/-! ### for -/
def forGo (p : Pat) (g : SF) : List D → List D → SR
  | [], env => .nx env
  | d :: ds, env => match bindP p d env with
    | none => .bad
    | some env => match g env with
      | .nx e => forGo p g ds e
      | .ct e => forGo p g ds e
      | .bk e => .nx e
      | r => r
/-- the core: the walk leans on nothing that the body may write -/
theorem for_core {K : Fg} {fz pn : List Nat} {R : Addr → Prop} {σ : L2.St} {H1 : Hp} {F : Nat → List Addr} {env : List D} {Dn : Ends} {J : It} {p : Pat} {g : SF} {tgt : TG} {tb : TS} {items : List D} {zp : List Addr}
    (he : EnvOk K H1 fz R σ env F) (hz : ∀ b ∈ zp, (∃ o, H1 b = some o) ∧ ∀ j, b ∉ F j)
    (hJ : ∀ H2, Tk H1 H2 → (∀ b ∈ zp, ∀ o, H1 b = some o → H2 b = some o) → ∀ i, (∀ d, items[i]? = some d → J.go i H2 ∧ ∀ x H3, J.yld i H2 x H3 → Same H2 H3 ∧ ∃ fp, See K H3 x d fp ∧ ∀ b ∈ fp, b ∈ zp) ∧ (items.length ≤ i → J.stop i H2))
    (hg : ∀ v σ H Q, (∃ env F R d fp env', EnvOk K H fz R σ env F ∧ See K H v d fp ∧ bindP p d env = some env' ∧ ∀ σ' F', AftS K fz pn R σ H F env σ' H F' env' → (∀ j, j ∉ p.slots → σ'[j]? = σ[j]?) → Q σ' H) → tgt v σ H Q)
    (hb : ∀ Dn σ H, tS K y fz pn g Dn σ H → tb Dn σ H)
    (h : Sat K y fz pn R σ H1 F env (forGo p g items env) Dn) :
    ∃ W : Nat → Nat → L2.St → Hp → Prop, (∃ m, W 0 m σ H1) ∧ ∀ i m σ H, W i m σ H →
      (J.stop i H ∧ Dn.nx σ H) ∨ (J.go i H ∧ ∃ N : L2.St → Hp → Prop, (∀ σ' H', N σ' H' → ∃ m', m' < m ∧ W (i + 1) m' σ' H') ∧ ∀ x H', J.yld i H x H' → tgt x σ H' fun σ2 H2 => tb { Dn with nx := N, ct := N, bk := Dn.nx } σ2 H2) := by
  refine ⟨fun i m σ2 H2 => m = items.length - i ∧ i ≤ items.length ∧ ∃ env2 F2, AftS K fz pn R σ H1 F env σ2 H2 F2 env2 ∧ Sat K y fz pn R σ2 H2 F2 env2 (forGo p g (items.drop i) env2) Dn, ⟨_, rfl, Nat.zero_le _, env, F, AftS.refl he, by simpa using h⟩, ?_⟩
  rintro i m σ2 H2 ⟨rfl, hi, env2, F2, A, hs⟩
  have hJ2 := hJ H2 A.stp.imm (fun b m o q => A.stp.keep b o q (hz b m).2) i
  by_cases hlt : i < items.length
  · obtain ⟨hgo, hy⟩ := hJ2.1 items[i] (by simp [hlt])
    rw [List.drop_eq_getElem_cons hlt] at hs
    unfold forGo at hs
    refine .inr ⟨hgo, fun σ' H' => ∃ env' F', AftS K fz pn R σ H1 F env σ' H' F' env' ∧ Sat K y fz pn R σ' H' F' env' (forGo p g (items.drop (i + 1)) env') Dn, fun σ' H' ⟨env', F', A', h'⟩ => ⟨_, by omega, rfl, hlt, env', F', A', h'⟩, fun x H3 hyy => ?_⟩
    obtain ⟨s23, fp, hx, hfp⟩ := hy x H3 hyy
    have A3 : AftS K fz pn R σ2 H2 F2 env2 σ2 H3 F2 env2 := (Aft.same A.ok s23).s
    cases e1 : bindP p items[i] env2 with
    | none => rw [e1] at hs; exact (hs : False).elim
    | some env3 =>
      rw [e1] at hs
      refine hg x σ2 H3 _ ⟨env2, F2, R, items[i], fp, env3, A3.ok, hx, e1, fun σ4 F4 A4 _ => hb _ _ _ ⟨env3, F4, R, A4.ok, ?_⟩⟩
      have A24 := A3.trans A4
      have hs4 := Sat.up A24 hs
      have A04 := A.trans A24
      dsimp only at hs4
      cases e2 : g env3 with
      | nx e => rw [e2] at hs4; exact fun σ' H' F' a => ⟨e, F', A04.trans a, Sat.up a hs4⟩
      | ct e => rw [e2] at hs4; exact fun σ' H' F' a => ⟨e, F', A04.trans a, Sat.up a hs4⟩
      | bk e => rw [e2] at hs4; exact hs4
      | rt d e => rw [e2] at hs4; exact hs4
      | err x => rw [e2] at hs4; exact hs4
      | bad => rw [e2] at hs4; exact hs4
  · have e : i = items.length := by omega
    subst e
    rw [List.drop_length] at hs
    exact .inl ⟨hJ2.2 (Nat.le_refl _), hs σ2 H2 F2 (AftS.refl A.ok)⟩
/-- for targets in walk: body, where the walk leans on nothing that stood before -/
def sFor (p : Pat) (f : PW') (g : SF) : SF := fun env => (IR.ofP (f env) env).toS fun w env => if w.lent = false then forGo p g w.items env else .bad
variable {fz pn : List Nat} {body : List Stmt}
theorem s_for {p : Pat} {f : PW'} {g : SF} (hp : PassesOwn (model X.prog X.w) X.A X.env X.xe) (hc : X.calm = true) (hi : PIt X y tg e f) (hg : G X y fz pn tg p) (hb : Ss X y fz pn body g) (hs : ∀ x, foldedSetIterable e X.env x = pure x := by intro _; rfl) :
    S X y fz pn (.For tg e body [] pos) (sFor p f g) := by
  refine ⟨ps_imp (ps_for hp hc hi.pi hg.pg hb.ps hs) fun Dn σ H q => ?_⟩
  obtain ⟨env, F, R, he, q⟩ := q
  refine ⟨env, _, he.rd, (IR.post_ofP (Sat.ofI q)).mono (fun w q J H1 s1 hw => ?_) fun x q => q.p⟩
  split at q
  · rename_i hl
    obtain ⟨zp, z1, z2, z3, z4⟩ := hw
    have A := (Aft.same (K := X.K) he s1).s (pn := pn)
    exact for_core A.ok (fun b m => ⟨z3 b m, fresh_out he (z1 hl b m)⟩) z4 (fun v σ H Q q => q) (fun Dn σ H q => q) (Sat.up A q)
  · exact (q : False).elim

/-! ### while -/
def whileGo (c : IB) (g : SF) : Nat → List D → SR
  | 0, _ => .bad
  | n + 1, env => (c env).toS fun b e => if b = true then (match g e with
      | .nx e => whileGo c g n e
      | .ct e => whileGo c g n e
      | .bk e => .nx e
      | r => r) else .nx e
def sWhile (n : Nat) (c : IB) (g : SF) : SF := fun env => whileGo c g n env
theorem s_while {n : Nat} {fc : IB} {g : SF} (hp : PassesOwn (model X.prog X.w) X.A X.env X.xe) (hc : ITst X y fz c fc) (hb : Ss X y fz pn body g) : S X y fz pn (.While c body [] pos) (sWhile n fc g) := by
  refine ⟨ps_imp (ps_while hp hc.pt hb.ps) fun Dn σ H q => ?_⟩
  obtain ⟨env, F, R, he, q⟩ := q
  refine ⟨fun m σ2 H2 => ∃ env2 F2, EnvOk X.K H2 fz R σ2 env2 F2 ∧ Sat X.K y fz pn R σ2 H2 F2 env2 (whileGo fc g m env2) Dn, ⟨n, env, F, he, q⟩, ?_⟩
  rintro m σ2 H2 ⟨env2, F2, he2, h2⟩
  cases m with
  | zero => exact (h2 : False).elim
  | succ m =>
    unfold whileGo at h2
    refine ⟨env2, F2, R, he2, (Sat.ofI h2).mono (fun b e h H3 F3 A => ?_) fun x q => q⟩
    cases b with
    | false => exact h σ2 H3 F3 A.s
    | true =>
      rw [if_pos rfl] at h ⊢
      refine ⟨fun σ' H' => ∃ env' F', EnvOk X.K H' fz R σ' env' F' ∧ Sat X.K y fz pn R σ' H' F' env' (whileGo fc g m env') Dn, fun σ' H' q => ⟨m, Nat.lt_succ_self _, q⟩, e, F3, R, A.ok, ?_⟩
      have h3 := Sat.up A.s h
      cases e2 : g e with
      | nx e' => rw [e2] at h3; exact fun σ' H' F' a => ⟨e', F', a.ok, Sat.up a h3⟩
      | ct e' => rw [e2] at h3; exact fun σ' H' F' a => ⟨e', F', a.ok, Sat.up a h3⟩
      | bk e' => rw [e2] at h3; exact h3
      | rt d e' => rw [e2] at h3; exact h3
      | err x => rw [e2] at h3; exact h3
      | bad => rw [e2] at h3; exact h3
end
end Ow

set_option Elab.async false
set_option linter.all false
set_option maxRecDepth 100000
set_option maxHeartbeats 1000000
/-! OwJ: defs by their denotation; calls of them. -/
namespace Ow
open PySem PySem.Spec PyProof.Rows L2

/-- what a def that changes nothing promises: of n lent things, G -/
def spP (K : Fg) (cl : String → Option Addr) (n : Nat) (G : List D → PR D) : Sp := fun vs H Q E => ∃ ds, SeeL K H vs ds ∧ ds.length = n ∧
  (G ds).post (fun r => ∀ v H' fp, Same H H' → Own K H' v r fp → (∀ b ∈ fp, H b = none) → Q v H') (fun x => ∀ c dd H', Same H H' → ErrOk K ⟨fun _ _ _ _ => False, cl⟩ x H' c dd → E c dd H')
theorem SeeL.length {K : Fg} {H : Hp} {vs : List V} {ds : List D} (h : SeeL K H vs ds) : vs.length = ds.length := Paired.length h
theorem ErrOk.cl {K : Fg} {W W' : WX} {cl : String → Option Addr} {x : Ex} {H : Hp} {c : Value} {dd : Option Addr} (h : ErrOk K ⟨W, cl⟩ x H c dd) : ErrOk K ⟨W', cl⟩ x H c dd := h
/-- a def that may be called by its name -/
structure Fk (P : Program) (w : World) (K : Fg) (mg : Str → Option Value) (base : Heap) (cl : String → Option Addr) (k : Nat) (x : Str) (n : Nat) (G : List D → PR D) : Prop where
  ex : ∃ (f : Addr) (fd : FuncData) (ps : List Str), ps.length = n ∧ FnOk P w K mg base (L2.CX P w) k f fd ps (spP K cl n G) ∧ mg x = some (.ref f) ∧ PySem.W.keepIn K (.ref f) = true ∧ Binds K fd ps []
section
variable {X : Cx} {y : Wi} {fz : List Nat} {e : Expr} {es : List Expr} {pos p : Pos} {x : Str} {k n : Nat} {G : List D → PR D}
def pFun (n : Nat) (G : List D → PR D) (f : PL) : PF := fun env => (f env).bind fun ds => if ds.length = n then (G ds).bind fun d => .ok (.own d) else .bad
theorem p_fun {f : PL} (tk : Takes X y.W) (F : Fk X.prog X.w X.K X.mg X.base y.cl k x n G) (hr : Room k X.A) (hg : Gl X x) (ha : PArg X y (e :: es) f) (hdb : (x == ("__debug__" : Str)) = false := by decide)
    (he : starEach (e :: es) X.env = (false, eval e X.env) :: starEach es X.env := by rfl) (hpl : (backTo pos (starEach es X.env)).any (·.1) = false := by rfl) : P X y (.Call (.Name x p) (e :: es) [] pos) (pFun n G f) := by
  obtain ⟨f0, fd, ps, hn, F, hm, hk, hb⟩ := F.ex
  refine ⟨pe_imp (pe_callS F hr hg hm hk hb (fun σ => passAt tk σ) ha.pa hdb he hpl) fun σ H Q q => ?_⟩
  obtain ⟨env, Z, hR, h⟩ := q
  refine ⟨env, Z, hR, (PR.post_bind h).mono (fun ds h vs H1 s1 os => ?_) fun x q => q⟩
  split at h
  · rename_i hz
    refine ⟨ds, os, hz, (PR.post_bind h).mono (fun r q v H' fp s o n' => q v H' fp (s1.trans s) ⟨o, fun b m => s1.free (n' b m)⟩) fun x q c dd H' s e => ?_⟩
    exact q c dd H' (s1.trans s) e
  · exact (h : False).elim
def iFun (n : Nat) (G : List D → PR D) (f : IL) : IF := fun env => (f env).bind fun ds env => if ds.length = n then IR.ofP (G ds) env else .bad
theorem i_fun {f : IL} (tk : Takes X y.W) (F : Fk X.prog X.w X.K X.mg X.base y.cl k x n G) (hr : Room k X.A) (hg : Gl X x) (ha : IArg X y fz (e :: es) f) (hdb : (x == ("__debug__" : Str)) = false := by decide)
    (he : starEach (e :: es) X.env = (false, eval e X.env) :: starEach es X.env := by rfl) (hpl : (backTo pos (starEach es X.env)).any (·.1) = false := by rfl) : I X y fz (.Call (.Name x p) (e :: es) [] pos) (iFun n G f) := by
  obtain ⟨f0, fd, ps, hn, F, hm, hk, hb⟩ := F.ex
  refine ⟨pe_imp (pe_callS F hr hg hm hk hb (fun σ => passAt tk σ) ha.pa hdb he hpl) fun σ H Q q => ?_⟩
  obtain ⟨env, F1, R, he, h⟩ := q
  refine ⟨env, F1, R, he, (IR.post_bind h).mono (fun ds env1 h vs H1 F2 fp A os n1 p1 => ?_) fun x q => q⟩
  split at h
  · rename_i hz
    refine ⟨ds, seeL_of os.see, hz, (IR.post_ofP h).mono (fun r q v H' fp' s o n' => ?_) fun x q c dd H' s e => ?_⟩
    · exact q v H' F2 fp' (A.trans (Aft.same A.ok s)) o (fun b m => fresh_out A.ok (n' b m)) fun b m => .inr (A.stp.free (n' b m))
    · exact (q.stp A.stp).p c dd H' s e
  · exact (h : False).elim
end

/-! ### a def by its body -/
def grd : D → Bool
  | .g _ => true
  | _ => false
/-- the slots at the entry: a parameter that the body sets anew has to be ground -/
def entOk (fz : List Nat) (ds : List D) : Bool := (List.range ds.length).all fun i => fz.contains i || (match ds[i]? with | some d => grd d | none => false)
def endP : SR → PR D
  | .nx _ => .ok (.g .none)
  | .rt d _ => .ok d
  | .err x => .err x
  | _ => .bad
/-- a def's denotation: N slots, of which the first n are its parameters -/
def defP (N n : Nat) (fz : List Nat) (g : SF) : List D → PR D := fun ds => if entOk fz ds = true then endP (g (ds ++ List.replicate (N - n) .hole)) else .bad
theorem paired_get {α β : Type} {R : α → β → Prop} : ∀ {xs : List α} {ys : List β} {i : Nat} {y : β}, Paired R xs ys → ys[i]? = some y → ∃ x, xs[i]? = some x ∧ R x y
  | _, _, i, y, .nil, e => by simp at e
  | _, _, 0, y, .cons r rs, e => by simp at e; subst e; exact ⟨_, rfl, r⟩
  | _, _, i + 1, y, .cons r rs, e => by
    obtain ⟨x, e1, e2⟩ := paired_get (i := i) rs (by simpa using e)
    exact ⟨x, by simpa using e1, e2⟩
theorem env_start0 {K : Fg} {H : Hp} {N ps : List Str} {vs : List V} {ds : List D} {fz : List Nat} {R : Addr → Prop} (os : Paired (fun v d => d = .hole ∨ ∃ fp, See K H v d fp ∧ ∀ b ∈ fp, R b) vs ds) (hR : ∀ b, R b → ∃ o, H b = some o) (hl : ds.length = ps.length) (hN : ps.length ≤ N.length)
    (he : ∀ i d, ds[i]? = some d → i ∉ fz → d = .hole ∨ grd d = true) :
    EnvOk K H fz R (L2.start N vs) (ds ++ List.replicate (N.length - ps.length) .hole) (fun _ => []) := by
  have hv : vs.length = ds.length := Paired.length os
  have slot : ∀ i d, (ds ++ List.replicate (N.length - ps.length) D.hole)[i]? = some d → d = .hole ∨ (i < ds.length ∧ ds[i]? = some d) := fun i d hd => by
    by_cases hi : i < ds.length
    · rw [List.getElem?_append_left hi] at hd; exact .inr ⟨hi, hd⟩
    · rw [List.getElem?_append_right (by omega)] at hd
      rw [List.getElem?_replicate] at hd
      split at hd
      · cases hd; exact .inl rfl
      · cases hd
  have at1 : ∀ i d, i < ds.length → ds[i]? = some d → d = .hole ∨ ∃ v fp, (L2.start N vs)[i]? = some (some v) ∧ See K H v d fp ∧ ∀ b ∈ fp, R b := fun i d hi hd => by
    obtain ⟨v, e1, e | ⟨fp, e2, e3⟩⟩ := paired_get os hd
    · exact .inl e
    · refine .inr ⟨v, fp, ?_, e2, e3⟩
      unfold L2.start
      rw [List.getElem?_append_left (by simpa [hv] using hi), List.getElem?_map, e1]; rfl
  refine ⟨?_, fun i d hd hi => ?_, fun i d hd hi => ?_, fun _ _ => rfl, fun _ _ _ b m => (by cases m), fun b h => ⟨hR b h, fun j m => (by cases m)⟩⟩
  · unfold L2.start; simp [hv, hl]
  · rcases slot i d hd with h | ⟨h1, h2⟩
    · exact .inl h
    · rcases at1 i d h1 h2 with h | ⟨v, fp, e1, e2, e3⟩
      · exact .inl h
      · rcases he i d h2 hi with h | h
        · exact .inl h
        · refine .inr ⟨v, e1, ?_⟩
          cases d with
          | g x => exact .g (see_g e2).1
          | _ => cases h
  · rcases slot i d hd with h | ⟨h1, h2⟩
    · exact .inl h
    · rcases at1 i d h1 h2 with h | ⟨v, fp, e1, e2, e3⟩
      · exact .inl h
      · exact .inr ⟨v, fp, e1, e2, e3⟩
theorem entOk_at {fz : List Nat} {ds : List D} (he : entOk fz ds = true) {i : Nat} {d : D} (hd : ds[i]? = some d) (hi : i ∉ fz) : grd d = true := by
  have hlt : i < ds.length := by
    rcases Nat.lt_or_ge i ds.length with h | h
    · exact h
    · rw [List.getElem?_eq_none h] at hd; cases hd
  have := List.all_eq_true.mp he i (List.mem_range.mpr hlt)
  rw [hd] at this
  have hc : fz.contains i = false := by
    cases q : fz.contains i with
    | false => rfl
    | true => exact absurd (List.contains_iff_mem.mp q) hi
  rw [hc] at this
  exact this
theorem env_start {K : Fg} {H : Hp} {N ps : List Str} {vs : List V} {ds : List D} {fz : List Nat} (os : SeeL K H vs ds) (hl : ds.length = ps.length) (hN : ps.length ≤ N.length) (he : entOk fz ds = true) :
    EnvOk K H fz (fun b => ∃ o, H b = some o) (L2.start N vs) (ds ++ List.replicate (N.length - ps.length) .hole) (fun _ => []) :=
  env_start0 (Paired.mapP os fun _ _ ⟨fp, e⟩ => .inr ⟨fp, e, fun b m => see_live e m⟩) (fun _ h => h) hl hN fun i d hd hi => .inr (entOk_at he hd hi)
section
variable {P : Program} {w : World} {K : Fg} {mg : Str → Option Value} {base : Heap} {cl : String → Option Addr}
/-- THE RULE for a def that changes nothing of its callers' -/
theorem fnok_of {x qual : Str} {st : Stmt} {f : Addr} {fd : FuncData} {N ps : List Str} {k : Nat} {fz : List Nat} {g : SF} (F : Fun K x qual st f fd) (S : FnScope N ps (defScope st))
    (hbody : ∀ (cdv : Value) (A : Around) (outer : List Env) (s : Shared) (H : Hp) (E : XK), Room k (A.deeper (envOfC qual (defScope st) s.heap.objs.size f cdv)) →
      Ss (cxOf (L2.CX P w) P w K mg base N qual (defScope st) f cdv A outer s H E) ⟨fun c dd _ H' => E c dd H', cl⟩ fz [] (defBody st) g) : FnOk P w K mg base (L2.CX P w) (k + 1) f fd ps (spP K cl ps.length (defP N.length ps.length fz g)) := by
  have hpl : ps.length ≤ N.length := by have := congrArg List.length S.pre; rw [List.length_take] at this; omega
  refine F.okX S (fun vs H Q E ⟨ds, h1, h2, _⟩ => h1.length.trans h2) (fun cdv A outer s H vs Q E hr ⟨ds, h1, h2, h3⟩ => ⟨_, (hbody cdv A outer s H E hr).ps, ?_⟩)
  unfold defP at h3
  split at h3
  · rename_i he
    refine ⟨_, _, _, env_start h1 h2 hpl he, ?_⟩
    have same : ∀ {H' : Hp} {F' : Nat → List Addr}, Stp H (fun _ => []) H' F' → Same H H' := fun s b o e => s.keep b o e fun i m => by cases m
    cases e1 : g (ds ++ List.replicate (N.length - ps.length) .hole) with
    | nx e => rw [e1] at h3; exact fun σ' H' F' a => h3 .non H' [] (same a.stp) (.g .non) (by simp)
    | rt d e =>
      rw [e1] at h3
      exact fun σ' v H' F' fv a o n p => h3 v H' fv (same a.stp) o fun b m => (p b m).resolve_left fun ⟨j, q⟩ => by cases q
    | err x =>
      rw [e1] at h3
      exact fun σ' c dd H' hl _ k l _ q => h3 c dd H' (fun b o e => k b o e fun i m => by cases m) q
    | bk e => rw [e1] at h3; exact (h3 : False).elim
    | ct e => rw [e1] at h3; exact (h3 : False).elim
    | bad => rw [e1] at h3; exact h3
  · exact (h3 : False).elim
theorem fk_of {x qual : Str} {st : Stmt} {f : Addr} {fd : FuncData} {N ps : List Str} {k : Nat} {fz : List Nat} {g : SF} (F : Fun K x qual st f fd) (S : FnScope N ps (defScope st)) (hb : Binds K fd ps []) (hm : mg x = some (.ref f)) (hk : PySem.W.keepIn K (.ref f) = true)
    (hbody : ∀ (cdv : Value) (A : Around) (outer : List Env) (s : Shared) (H : Hp) (E : XK), Room k (A.deeper (envOfC qual (defScope st) s.heap.objs.size f cdv)) →
      Ss (cxOf (L2.CX P w) P w K mg base N qual (defScope st) f cdv A outer s H E) ⟨fun c dd _ H' => E c dd H', cl⟩ fz [] (defBody st) g) : Fk P w K mg base cl (k + 1) x ps.length (defP N.length ps.length fz g) := ⟨f, fd, ps, rfl, fnok_of F S hbody, hm, hk, hb⟩
end
end Ow

set_option Elab.async false
set_option linter.all false
set_option maxRecDepth 100000
set_option maxHeartbeats 1000000
/-! OwK: defs that write into their first parameter; calls of them. -/
namespace Ow
open PySem PySem.Spec PyProof.Rows L2

/-- arguments, seen, with where they stand -/
abbrev SeeLZ (K : Fg) (Z : Addr → Prop) (H H' : Hp) : List V → List D → Prop := Paired fun v d => ∃ fp, See K H' v d fp ∧ ∀ b ∈ fp, Z b ∨ H b = none
def tPZ (K : Fg) (y : Wi) (f : PL) : TA := fun σ H Q => ∃ env Z, RdEnv K Z H σ env ∧ (f env).post (fun ds => ∀ vs H', Same H H' → SeeLZ K Z H H' vs ds → Q vs H') (EP' K y σ H)
structure PArgZ (X : Cx) (y : Wi) (es : List Expr) (f : PL) : Prop where
  pa : PA X es (tPZ X.K y f)
section
variable {X : Cx} {y : Wi} {fz : List Nat} {e : Expr} {es : List Expr} {pos p p2 : Pos} {x xd : Str} {k n : Nat} {G : List D → PR (D × D)}
theorem pz_nil : PArgZ X y [] pNil := ⟨pa_imp pa_nil fun _ H _ ⟨_, _, _, q⟩ => q [] H (Same.refl H) .nil⟩
theorem pz_cons {f : PF} {g : PL} (h : P X y e f) (h' : PArgZ X y es g) (hs : starEach (e :: es) X.env = (false, eval e X.env) :: starEach es X.env := by rfl) : PArgZ X y (e :: es) (pCons f g) := by
  refine ⟨pa_imp (pa_cons h.pe h'.pa hs) fun σ H Q q => ?_⟩
  obtain ⟨env, Z, hR, h⟩ := q
  refine ⟨env, Z, hR, (PR.post_bind h).mono (fun p h v H1 fp s1 o => ?_) fun x q => q⟩
  refine ⟨env, Z, hR.same s1, (PR.post_bind h).mono (fun ds h vs H2 s2 os => ?_) fun x q => q.same s1⟩
  exact h (v :: vs) H2 (s1.trans s2) (.cons ⟨fp, o.see.same s2, o.prov⟩ (Paired.mapP os fun _ _ ⟨fp, e1, e2⟩ => ⟨fp, e1, fun b m => (e2 b m).imp id s1.free⟩))

/-- behind a def that writes into what stood at F0 -/
structure Wrote (K : Fg) (H : Hp) (F0 : List Addr) (v0 v : V) (r d' : D) (H' : Hp) (F0' fp : List Addr) : Prop where
  keep : ∀ b o, H b = some o → b ∉ F0 → H' b = some o
  live : ∀ b o, H b = some o → ∃ o', H' b = some o'
  imm : Tk H H'
  arg : Own K H' v0 d' F0'
  argN : ∀ b ∈ F0', b ∈ F0 ∨ H b = none
  res : Own K H' v r fp
  resN : ∀ b ∈ fp, b ∈ F0 ∨ H b = none
  dis : ∀ b ∈ fp, b ∉ F0'
def spD (K : Fg) (cl : String → Option Addr) (n : Nat) (G : List D → PR (D × D)) : Sp := fun vs H Q E => ∃ v0 d0 F0 vs' ds, vs = v0 :: vs' ∧ Own K H v0 d0 F0 ∧ Paired (fun v d => ∃ fp, See K H v d fp ∧ ∀ b ∈ fp, b ∉ F0) vs' ds ∧ ds.length + 1 = n ∧
  (G (d0 :: ds)).post (fun rd => ∀ v H' fp F0', Wrote K H F0 v0 v rd.1 rd.2 H' F0' fp → Q v H') (fun x => ∀ c dd H', (∀ b o, H b = some o → b ∉ F0 → H' b = some o) → (∀ b o, H b = some o → ∃ o', H' b = some o') → Tk H H' → ErrOk K ⟨fun _ _ _ _ => False, cl⟩ x H' c dd → E c dd H')
structure Fd (P : Program) (w : World) (K : Fg) (mg : Str → Option Value) (base : Heap) (cl : String → Option Addr) (k : Nat) (x : Str) (n : Nat) (G : List D → PR (D × D)) : Prop where
  ex : ∃ (f : Addr) (fd : FuncData) (ps : List Str), ps.length = n ∧ FnOk P w K mg base (L2.CX P w) k f fd ps (spD K cl n G) ∧ mg x = some (.ref f) ∧ PySem.W.keepIn K (.ref f) = true ∧ Binds K fd ps []
def ownAt (i : Nat) (env : List D) : PR D := match env[i]? with
  | some (.g _) => .bad
  | some .hole => .bad
  | some d => .ok d
  | none => .bad
theorem ownAt_post {i : Nat} {env : List D} {ok : D → Prop} {er : Ex → Prop} (h : (ownAt i env).post ok er) : ∃ d, env[i]? = some d ∧ d ≠ .hole ∧ ok d := by
  unfold ownAt at h
  split at h
  · exact (h : False).elim
  · exact (h : False).elim
  · rename_i d h1 h2 e
    exact ⟨d, e, fun z => h2 z, h⟩
  · exact (h : False).elim
def setNH (i : Nat) (d : D) (env : List D) : IR D → IR D := fun r => match d with
  | .hole => .bad
  | _ => r
theorem setNH_post {i : Nat} {d : D} {env : List D} {r : IR D} {ok : D → List D → Prop} {er : Ex → Prop} (h : (setNH i d env r).post ok er) : d ≠ .hole ∧ r.post ok er := by
  unfold setNH at h
  split at h
  · exact (h : False).elim
  · rename_i hne; exact ⟨fun z => hne z, h⟩
def iFunD (i n : Nat) (G : List D → PR (D × D)) (f : PL) : IF := fun env => (IR.ofP (ownAt i env) env).bind fun d env => (IR.ofP (f (env.set i .hole)) env).bind fun ds env =>
  if ds.length + 1 = n then (IR.ofP (G (d :: ds)) env).bind fun rd env => setNH i rd.2 env (.ok rd.1 (env.set i rd.2)) else .bad
theorem EnvOk.keep {K : Fg} {H H' : Hp} {fz : List Nat} {R : Addr → Prop} {σ : L2.St} {env : List D} {F : Nat → List Addr} (e : EnvOk K H fz R σ env F) (k : ∀ b o, H b = some o → (∃ j, b ∈ F j) ∨ R b → H' b = some o) (t : Tk H H') : EnvOk K H' fz R σ env F where
  len := e.len
  own := fun i d hd hf => (e.own i d hd hf).imp id fun ⟨v, h1, h2⟩ => ⟨v, h1, Rel.frame t d v _ (fun b m o e' => k b o e' (.inl ⟨i, m⟩)) h2⟩
  frz := fun i d hd hf => (e.frz i d hd hf).imp id fun ⟨v, fp, h1, h2, h3⟩ => ⟨v, fp, h1, Rel.frame t d v _ (fun b m o e' => SeeC.keep (fun o q => k b o q (.inr (h3 b m))) e') h2, h3⟩
  nil := e.nil
  dis := e.dis
  out := fun b h => ⟨(e.out b h).1.elim fun o q => ⟨o, k b o q (.inr h)⟩, (e.out b h).2⟩
theorem updF_updF {F : Nat → List Addr} {i : Nat} {f g : List Addr} : updF (updF F i f) i g = updF F i g := by
  funext j
  by_cases h : j = i
  · subst h; rw [updF_same, updF_same]
  · rw [updF_ne h, updF_ne h, updF_ne h]
theorem set_self {α : Type} {l : List α} {i : Nat} {a : α} (h : l[i]? = some a) : l.set i a = l := by
  apply List.ext_getElem?
  intro j
  by_cases hj : i = j
  · subst hj
    have hlt : i < l.length := by
      rcases Nat.lt_or_ge i l.length with q | q
      · exact q
      · rw [List.getElem?_eq_none q] at h; cases h
    rw [List.getElem?_set_self hlt, h]
  · rw [List.getElem?_set_ne hj]
theorem i_fund {i : Nat} {f : PL} (hi : fz.contains i = false) (tk : Takes X y.W) (F : Fd X.prog X.w X.K X.mg X.base y.cl k x n G) (hr : Room k X.A) (hg : Gl X x) (hd : PE X (.Name xd p2) (tVar i)) (ha : PArgZ X y es f) (hdb : (x == ("__debug__" : Str)) = false := by decide)
    (hs : starEach (.Name xd p2 :: es) X.env = (false, eval (.Name xd p2) X.env) :: starEach es X.env := by rfl) (hpl : (backTo pos (starEach es X.env)).any (·.1) = false := by rfl) : I X y fz (.Call (.Name x p) (.Name xd p2 :: es) [] pos) (iFunD i n G f) := by
  have hi : i ∉ fz := fun m => by rw [List.contains_iff_mem.mpr m] at hi; cases hi
  obtain ⟨f0, fd, ps, hn, F, hm, hk, hb⟩ := F.ex
  refine ⟨pe_imp (pe_callS F hr hg hm hk hb (fun σ => passAt tk σ) (pa_cons hd ha.pa hs) hdb hs hpl) fun σ H Q q => ?_⟩
  obtain ⟨env, F1, R, he, h⟩ := q
  obtain ⟨d, e1, dh, h⟩ := ownAt_post (IR.post_ofP (IR.post_bind h))
  rcases he.own i d e1 hi with rfl | ⟨v0, e2, e3⟩
  · exact absurd rfl dh
  have hlt : i < env.length := by
    rcases Nat.lt_or_ge i env.length with q | q
    · exact q
    · rw [List.getElem?_eq_none q] at e1; cases e1
  refine ⟨v0, e2, env.set i .hole, fun b => (∃ o, H b = some o) ∧ b ∉ F1 i, ⟨by rw [List.length_set]; exact he.len, fun j dj hj => ?_⟩, (IR.post_ofP (IR.post_bind h)).mono (fun ds h vs H1 s1 os => ?_) fun x q => q.p⟩
  · by_cases hji : j = i
    · subst hji
      rw [List.getElem?_set_self hlt] at hj
      cases hj; exact .inl rfl
    · rw [List.getElem?_set_ne (Ne.symm hji)] at hj
      by_cases hf : j ∈ fz
      · rcases he.frz j dj hj hf with q | ⟨v, fp, q1, q2, q3⟩
        · exact .inl q
        · exact .inr ⟨v, fp, q1, q2, fun b m => ⟨(he.out b (q3 b m)).1, (he.out b (q3 b m)).2 i⟩⟩
      · rcases he.own j dj hj hf with q | ⟨v, q1, q2⟩
        · exact .inl q
        · exact .inr ⟨v, F1 j, q1, q2.see, fun b m => ⟨q2.live m, he.dis j i hji b m⟩⟩
  split at h
  · rename_i hz
    refine ⟨v0, d, F1 i, vs, ds, rfl, e3.same s1, Paired.mapP os fun _ _ ⟨fp, q1, q2⟩ => ⟨fp, q1, fun b m m' => ?_⟩, hz, (IR.post_ofP (IR.post_bind h)).mono (fun rd q v H' fp F0' W => ?_) fun x q c dd H' k l t er => ?_⟩
    · rcases q2 b m with q | q
      · exact q.2 m'
      · obtain ⟨o, z⟩ := e3.live m'
        rw [q] at z; cases z
    · obtain ⟨hne, q⟩ := setNH_post q
      have fr : ∀ b, H1 b = none → H b = none := fun b => s1.free
      have st : Stp H F1 H' (updF F1 i F0') := ⟨fun b o z nn => W.keep b o (s1 _ _ z) (nn i), fun b o z => W.live b o (s1 _ _ z), (Tk.same s1).trans W.imm, fun j b m => by
        by_cases hj : j = i
        · subst hj
          rw [updF_same] at m
          exact (W.argN b m).imp (fun m => ⟨j, m⟩) (fr b)
        · rw [updF_ne hj] at m; exact .inl ⟨j, m⟩⟩
      have e4 := ((he.same s1).drop i).keep (H' := H') (fun b o z m => by
        refine W.keep b o z fun m' => ?_
        rcases m with ⟨j, m⟩ | m
        · by_cases hj : j = i
          · subst hj; rw [updF_same] at m; cases m
          · rw [updF_ne hj] at m; exact he.dis j i hj b m m'
        · exact (he.out b m).2 i m') W.imm
      have e5 := e4.put (i := i) (v := v0) (d := rd.2) (fp := F0') hi (by simpa using hlt) hne W.arg (fun b m j hj m' => by
        rw [updF_ne hj] at m'
        rcases W.argN b m with q | q
        · exact he.dis i j (Ne.symm hj) b q m'
        · obtain ⟨o, z⟩ := he.live m'
          rw [s1.free q] at z; cases z) (fun b m => he.notR ((W.argN b m).imp (fun m => ⟨i, m⟩) (fr b)))
      rw [set_self e2, List.set_set, updF_updF] at e5
      refine q v H' _ fp ⟨st, e5, fun j hj => ?_⟩ W.res (fun b m j m' => ?_) fun b m => (W.resN b m).imp (fun m => ⟨i, m⟩) (fr b)
      · have hji : j ≠ i := fun z => hi (z ▸ hj)
        rw [List.getElem?_set_ne (Ne.symm hji)]
      · by_cases hj : j = i
        · subst hj; rw [updF_same] at m'; exact W.dis b m m'
        · rw [updF_ne hj] at m'
          rcases W.resN b m with q | q
          · exact he.dis i j (Ne.symm hj) b q m'
          · obtain ⟨o, z⟩ := he.live m'
            rw [s1.free q] at z; cases z
    · exact q c dd H' (fun b o z nn => k b o (s1 _ _ z) (nn i)) (fun b o z => l b o (s1 _ _ z)) ((Tk.same s1).trans t) er
  · exact (h : False).elim
end
def dAt0 (e : List D) : PR D := match e with
  | .hole :: _ => .bad
  | d :: _ => .ok d
  | [] => .bad
theorem dAt0_post {e : List D} {ok : D → Prop} {er : Ex → Prop} (h : (dAt0 e).post ok er) : ∃ d, e[0]? = some d ∧ d ≠ .hole ∧ ok d := by
  unfold dAt0 at h
  split at h
  · exact (h : False).elim
  · rename_i d r hn; exact ⟨d, rfl, fun z => hn z, h⟩
  · exact (h : False).elim
def endD : SR → PR (D × D)
  | .nx e => (dAt0 e).bind fun d => .ok (.g .none, d)
  | .rt r e => (dAt0 e).bind fun d => .ok (r, d)
  | .err x => .err x
  | _ => .bad
def isHole : D → Bool
  | .hole => true
  | _ => false
def defD (N n : Nat) (fz : List Nat) (g : SF) : List D → PR (D × D) := fun ds => match ds with
  | [] => .bad
  | d0 :: ds => if isHole d0 = false ∧ entOk fz (.g .none :: ds) = true then endD (g (d0 :: ds ++ List.replicate (N - n) .hole)) else .bad
section
variable {P : Program} {w : World} {K : Fg} {mg : Str → Option Value} {base : Heap} {cl : String → Option Addr}
theorem fd_of {x qual : Str} {st : Stmt} {f : Addr} {fd : FuncData} {N ps : List Str} {k : Nat} {fz : List Nat} {g : SF} (F : Fun K x qual st f fd) (S : FnScope N ps (defScope st)) (hb : Binds K fd ps []) (hm : mg x = some (.ref f)) (hk : PySem.W.keepIn K (.ref f) = true)
    (hf : fz.contains 0 = false)
    (hbody : ∀ (cdv : Value) (A : Around) (outer : List Env) (s : Shared) (H : Hp) (E : XK), Room k (A.deeper (envOfC qual (defScope st) s.heap.objs.size f cdv)) →
      Ss (cxOf (L2.CX P w) P w K mg base N qual (defScope st) f cdv A outer s H E) ⟨fun c dd _ H' => E c dd H', cl⟩ fz [0] (defBody st) g) : Fd P w K mg base cl (k + 1) x ps.length (defD N.length ps.length fz g) := by
  have hpl : ps.length ≤ N.length := by have := congrArg List.length S.pre; rw [List.length_take] at this; omega
  have hf : 0 ∉ fz := fun m => by rw [List.contains_iff_mem.mpr m] at hf; cases hf
  refine ⟨f, fd, ps, rfl, F.okX S (fun vs H Q E ⟨v0, d0, F0, vs', ds, e0, _, h2, h3, _⟩ => by rw [e0, List.length_cons, Paired.length h2]; exact h3) (fun cdv A outer s H vs Q E hr ⟨v0, d0, F0, vs', ds, e0, h1, h2, h3, h4⟩ => ⟨_, (hbody cdv A outer s H E hr).ps, ?_⟩), hm, hk, hb⟩
  subst e0
  unfold defD at h4
  dsimp only at h4
  split at h4
  · rename_i hent
    obtain ⟨hd0, hent⟩ := hent
    have hd0 : d0 ≠ .hole := fun z => by subst z; cases hd0
    have hlen : (D.hole :: ds).length = ps.length := by rw [List.length_cons]; exact h3
    have e1 : EnvOk K H fz (fun b => (∃ o, H b = some o) ∧ b ∉ F0) (L2.start N (v0 :: vs')) ((D.hole :: ds) ++ List.replicate (N.length - ps.length) .hole) (fun _ => []) :=
      env_start0 (.cons (.inl rfl) (Paired.mapP h2 fun _ _ ⟨fp, q1, q2⟩ => .inr ⟨fp, q1, fun b m => ⟨see_live q1 m, q2 b m⟩⟩)) (fun _ h => h.1) hlen hpl fun i d hd hi => by
        cases i with
        | zero => simp at hd; exact .inl hd.symm
        | succ i => exact .inr (entOk_at hent (i := i + 1) (by simpa using hd) hi)
    have e2 := e1.put (i := 0) (v := v0) (d := d0) (fp := F0) hf (by simp) hd0 h1 (fun b m j _ m' => by cases m') (fun b m q => q.2 m)
    have e3 : (L2.start N (v0 :: vs')).set 0 (some v0) = L2.start N (v0 :: vs') := by unfold L2.start; simp
    rw [e3] at e2
    have e4 : (D.hole :: ds ++ List.replicate (N.length - ps.length) D.hole).set 0 d0 = d0 :: ds ++ List.replicate (N.length - ps.length) D.hole := by simp
    rw [e4] at e2
    refine ⟨_, _, _, e2, ?_⟩
    have fin : ∀ {r : D} {e : List D} {d' : D} {σ' : L2.St} {v : V} {H' : Hp} {F' : Nat → List Addr} {fv : List Addr}, e[0]? = some d' → AftS K fz [0] (fun b => (∃ o, H b = some o) ∧ b ∉ F0) (L2.start N (v0 :: vs')) H (updF (fun _ => []) 0 F0) (d0 :: ds ++ List.replicate (N.length - ps.length) .hole) σ' H' F' e →
        Own K H' v r fv → (∀ b ∈ fv, ∀ i, b ∉ F' i) → (∀ b ∈ fv, (∃ j, b ∈ updF (fun _ => []) 0 F0 j) ∨ H b = none) → d' = .hole ∨ Wrote K H F0 v0 v r d' H' (F' 0) fv := fun {r e d' σ' v H' F' fv} he A o n p => by
      have pr : ∀ b, (∃ j, b ∈ updF (fun _ => []) 0 F0 j) → b ∈ F0 := fun b ⟨j, m⟩ => by
        by_cases hj : j = 0
        · subst hj; rw [updF_same] at m; exact m
        · rw [updF_ne hj] at m; cases m
      have np : ∀ b, b ∉ F0 → ∀ i, b ∉ updF (fun _ => []) 0 F0 i := fun b hb i m => hb (pr b ⟨i, m⟩)
      rcases A.ok.own 0 d' he hf with q | ⟨v1, q1, q2⟩
      · exact .inl q
      · have := A.pin 0 (.inr (by simp))
        rw [q1] at this
        have e5 : (L2.start N (v0 :: vs'))[0]? = some (some v0) := by unfold L2.start; simp
        rw [e5] at this
        cases this
        exact .inr ⟨fun b o z nn => A.stp.keep b o z (np b nn), A.stp.live, A.stp.imm, q2, fun b m => (A.stp.new 0 b m).imp (pr b) id, o, fun b m => (p b m).imp (pr b) id, fun b m => n b m 0⟩
    cases e5 : g (d0 :: ds ++ List.replicate (N.length - ps.length) .hole) with
    | nx e =>
      rw [e5] at h4
      obtain ⟨d', q1, q2, q3⟩ := dAt0_post (PR.post_bind h4)
      exact fun σ' H' F' a => q3 .non H' [] (F' 0) ((fin (r := .g .none) q1 a (.g .non) (by simp) (by simp)).resolve_left q2)
    | rt d e =>
      rw [e5] at h4
      obtain ⟨d', q1, q2, q3⟩ := dAt0_post (PR.post_bind h4)
      exact fun σ' v H' F' fv a o n p => q3 v H' fv (F' 0) ((fin q1 a o n p).resolve_left q2)
    | err x =>
      rw [e5] at h4
      exact fun σ' c dd H' hl _ k l t q => h4 c dd H' (fun b o e nn => k b o e fun i m => by
        by_cases hi : i = 0
        · subst hi; rw [updF_same] at m; exact nn m
        · rw [updF_ne hi] at m; cases m) l t q
    | bk e => rw [e5] at h4; exact (h4 : False).elim
    | ct e => rw [e5] at h4; exact (h4 : False).elim
    | bad => rw [e5] at h4; exact (h4 : False).elim
  · exact (h4 : False).elim
end
end Ow

set_option Elab.async false
set_option linter.all false
set_option maxRecDepth 100000
set_option maxHeartbeats 1000000
/-! OwL: the program's own errors: raised, caught. -/
namespace Ow
open PySem PySem.Spec PyProof.Rows L2

/-- __init__(self, code, place) of the base class -/
def spI (K : Fg) : Sp := fun vs H Q E => ∃ a C v1 v2, vs = [.ref a, v1, v2] ∧ OexC K C ∧ PySem.W.findIn K (.ref C) "code" = some none ∧ PySem.W.findIn K (.ref C) "place" = some none ∧ H a = some (exo a C none) ∧
  ∀ dx, H dx = none → dx ≠ a → Q .non (upd (upd (upd H dx (exd dx [(("code" : Str), v1)])) a (exo a C (some dx))) dx (exd dx [(("place" : Str), v2), (("code" : Str), v1)]))
def iniS : Scope := { kind := .function, names := [(PySem.Str.ofString "self", .local), (PySem.Str.ofString "code", .local), (PySem.Str.ofString "place", .local)], isGenerator := false, isCoroutine := false, more := [] }
def iniB (q1 q2 q3 q4 q5 q6 q7 q8 : Pos) : List Stmt := [.Assign [.Attribute (.Name "self" q1) "code" q2] (.Name "code" q3) q4, .Assign [.Attribute (.Name "self" q5) "place" q6] (.Name "place" q7) q8]
def iniA (p1 p2 p3 p4 : Pos) : Arguments := { posonlyargs := [], args := [{ arg := "self", annotation := none, pos := p1 }, { arg := "code", annotation := none, pos := p2 }, { arg := "place", annotation := none, pos := p3 }], vararg := none, kwonlyargs := [], kw_defaults := [], kwarg := none, defaults := [.Constant (.int 0) 0 p4] }
section
variable {P : Program} {w : World} {K : Fg} {mg : Str → Option Value} {base : Heap} {p1 p2 p3 p4 q1 q2 q3 q4 q5 q6 q7 q8 : Pos} {dvs : List V} {f : Addr} {fd : FuncData} {qual : Str}
theorem scI : FnScope ["self", "code", "place"] ["self", "code", "place"] iniS := ⟨rfl, rfl, rfl, by decide +kernel, rfl, by decide +kernel, by decide +kernel⟩
theorem ok_ini (F : FunD K "__init__" qual (iniA p1 p2 p3 p4) (iniB q1 q2 q3 q4 q5 q6 q7 q8) iniS dvs [] f fd) : FnOk P w K mg base (L2.CX P w) 1 f fd ["self", "code", "place"] (spI K) := by
  refine F.ok scI (fun vs H Q E ⟨a, C, v1, v2, e, _⟩ => by rw [e]; rfl) fun cdv A outer s H vs Q E hr ⟨a, C, v1, v2, e, T, n1, n2, ea, q⟩ => ?_
  subst e
  refine ⟨_, pss_cons (ps_ost (pv 0) (pv 1)) (pss_one (ps_ost (pv 0) (pv 2))), ?_⟩
  refine ⟨v1, rfl, .ref a, rfl, a, C, rfl, T, n1, .inl ⟨ea, fun dx nd ne => ?_⟩⟩
  refine ⟨v2, rfl, .ref a, rfl, a, C, rfl, T, n2, .inr ⟨dx, [(("code" : Str), v1)], upd_same, ?_, by simp, q dx nd ne⟩⟩
  rw [upd_ne ne, upd_same]
end
/-- an error class of the program's: its name in the text is x, nm in the denotations -/
structure Xc (X : Cx) (cl : String → Option Addr) (x : Str) (nm : String) (C : Addr) : Prop where
  o : OexC X.K C
  nc : PySem.W.findIn X.K (.ref C) "code" = some none
  np : PySem.W.findIn X.K (.ref C) "place" = some none
  g : X.mg x = some (.ref C)
  c : cl nm = some C
  ini : ∃ fI fd ds, PySem.W.findIn X.K (.ref C) "__init__" = some (some (.ref fI)) ∧ PySem.W.typeIn X.K (.ref fI) = some (.type "function") ∧ FnOk X.prog X.w X.K X.mg X.base (L2.CX X.prog X.w) 1 fI fd ["self", "code", "place"] (spI X.K) ∧
    Binds X.K fd ["self", "code", "place"] [] ∧ Vals [.int 0] ds ∧ Binds X.K fd ["self", "code", "place"] ds
section
variable {X : Cx} {y : Wi} {fz pn : List Nat} {a b e : Expr} {es : List Expr} {pos pos2 p : Pos} {x : Str} {nm : String} {C : Addr}
def err1 (nm : String) : List D → PR Ex
  | [.g c] => .ok ⟨nm, c, .int 0⟩
  | _ => .bad
def err2 (nm : String) : List D → PR Ex
  | [.g c, .g p] => .ok ⟨nm, c, p⟩
  | _ => .bad
def sRaise1 (nm : String) (f : PL) : SF := fun env => (IR.ofP ((f env).bind (err1 nm)) env).toS fun x _ => .err x
def sRaise2 (nm : String) (f : PL) : SF := fun env => (IR.ofP ((f env).bind (err2 nm)) env).toS fun x _ => .err x
theorem upd_upd {H : Hp} {a : Addr} {o u : HO} : upd (upd H a o) a u = upd H a u := by
  funext b
  by_cases h : b = a
  · subst h; rw [upd_same, upd_same]
  · rw [upd_ne h, upd_ne h, upd_ne h]
/-- what a made error leaves -/
theorem made_ok {K : Fg} {H1 : Hp} {a C : Addr} {v1 v2 : V} {Q : XK} (ha : H1 a = none) (h : ∀ d H', Same H1 H' → H' d = some (.xd [(("place" : Str), v2), (("code" : Str), v1)]) → Q (.ref C) (some d) H') (T : OexC K C) (n1 : PySem.W.findIn K (.ref C) "code" = some none) (n2 : PySem.W.findIn K (.ref C) "place" = some none) :
    spI K [.ref a, v1, v2] (upd H1 a (exo a C none)) (fun v H2 => v = .non ∧ ∃ (d : Addr) (fs : List (Str × V)), H2 a = some (exo a C (some d)) ∧ H2 d = some (exd d fs) ∧ H1 d = none ∧ Q (.ref C) (some d) (upd (del H2 a) d (.xd fs))) (fun _ _ _ => False) := by
  refine ⟨a, C, v1, v2, rfl, T, n1, n2, upd_same, fun dx nd ne => ⟨rfl, dx, _, ?_, upd_same, ?_, h dx _ (fun b o q => ?_) upd_same⟩⟩
  · rw [upd_ne (Ne.symm ne), upd_same]
  · rw [upd_ne ne] at nd; exact nd
  · rw [upd_ne ne] at nd
    have hb : b ≠ a := ne_of_none q ha
    have hd : b ≠ dx := ne_of_none q nd
    rw [upd_ne hd, del_ne hb, upd_ne hd, upd_ne hb, upd_ne hd, upd_ne hb]; exact q
theorem str_ne : (("code" : Str) == ("place" : Str)) = false := by decide
theorem str_ne' : (("place" : Str) == ("code" : Str)) = false := by decide
theorem lk_code {v1 v2 : V} : List.lookup ("code" : Str) [(("place" : Str), v2), (("code" : Str), v1)] = some v1 := by simp [List.lookup, str_ne]
theorem lk_place {v1 v2 : V} : List.lookup ("place" : Str) [(("place" : Str), v2), (("code" : Str), v1)] = some v2 := by simp [List.lookup]
theorem err1_post {ds : List D} {ok : Ex → Prop} {er : Ex → Prop} (h : (err1 nm ds).post ok er) : ∃ c, ds = [.g c] ∧ ok ⟨nm, c, .int 0⟩ := by
  unfold err1 at h
  split at h
  · exact ⟨_, rfl, h⟩
  · exact (h : False).elim
theorem err2_post {ds : List D} {ok : Ex → Prop} {er : Ex → Prop} (h : (err2 nm ds).post ok er) : ∃ c p, ds = [.g c, .g p] ∧ ok ⟨nm, c, p⟩ := by
  unfold err2 at h
  split at h
  · exact ⟨_, _, rfl, h⟩
  · exact (h : False).elim
theorem s_raise1 {f : PL} (hc : X.calm = true) (tk : Takes X y.W) (T : Xc X y.cl x nm C) (hr : Room 2 X.A) (hg : Gl X x) (ha : PArg X y [a] f) (hdb : (x == ("__debug__" : Str)) = false := by decide)
    (he : starEach [a] X.env = (false, eval a X.env) :: starEach [] X.env := by rfl) (hpl : (backTo pos (starEach [] X.env)).any (·.1) = false := by rfl) : S X y fz pn (.Raise (some (.Call (.Name x p) [a] [] pos)) none pos2) (sRaise1 nm f) := by
  obtain ⟨fI, fd, ds, iC, tI, F1, _, hd, hb⟩ := T.ini
  refine ⟨ps_imp (ps_raise hc tk (pmk_oex T.o iC tI F1 hr hb hd passL hg T.g ha.pa hdb he hpl)) fun Dn σ H q => ?_⟩
  obtain ⟨env, F, R, he, q⟩ := q
  refine ⟨env, _, he.rd, (PR.post_bind (IR.post_ofP (Sat.ofI q))).mono (fun ds h vs H1 s1 os => ?_) fun x q => q.p⟩
  obtain ⟨c, rfl, h⟩ := err1_post h
  obtain ⟨v1, fp, rfl, hv⟩ := seeL1 os
  refine ⟨by simp, fun a na => made_ok (v1 := v1) (v2 := .int 0) (Q := fun cls d H' => y.W cls d σ H') na (fun d H' s ed => ?_) T.o T.nc T.np⟩
  have sA := s1.trans s
  exact h σ _ _ H' rfl (fun _ _ => rfl) (fun b o q _ => sA b o q) (fun b o q => ⟨o, sA b o q⟩) (Tk.same sA) ⟨C, d, _, v1, .int 0, T.c, rfl, rfl, ed, lk_code, lk_place, (see_g hv).1.frame (Tk.same s), .int 0⟩
theorem s_raise2 {f : PL} (hc : X.calm = true) (tk : Takes X y.W) (T : Xc X y.cl x nm C) (hr : Room 2 X.A) (hg : Gl X x) (ha : PArg X y [a, b] f) (hdb : (x == ("__debug__" : Str)) = false := by decide)
    (he : starEach [a, b] X.env = (false, eval a X.env) :: starEach [b] X.env := by rfl) (hpl : (backTo pos (starEach [b] X.env)).any (·.1) = false := by rfl) : S X y fz pn (.Raise (some (.Call (.Name x p) [a, b] [] pos)) none pos2) (sRaise2 nm f) := by
  obtain ⟨fI, fd, ds, iC, tI, F1, hb, _, _⟩ := T.ini
  refine ⟨ps_imp (ps_raise hc tk (pmk_oex (dvs := []) T.o iC tI F1 hr hb .nil passL hg T.g ha.pa hdb he hpl)) fun Dn σ H q => ?_⟩
  obtain ⟨env, F, R, he, q⟩ := q
  refine ⟨env, _, he.rd, (PR.post_bind (IR.post_ofP (Sat.ofI q))).mono (fun ds h vs H1 s1 os => ?_) fun x q => q.p⟩
  obtain ⟨c, pl, rfl, h⟩ := err2_post h
  obtain ⟨v1, v2, fp, fq, rfl, hv, hv2⟩ := seeL2 os
  refine ⟨by simp, fun a na => made_ok (v1 := v1) (v2 := v2) (Q := fun cls d H' => y.W cls d σ H') na (fun d H' s ed => ?_) T.o T.nc T.np⟩
  have sA := s1.trans s
  exact h σ _ _ H' rfl (fun _ _ => rfl) (fun b o q _ => sA b o q) (fun b o q => ⟨o, sA b o q⟩) (Tk.same sA) ⟨C, d, _, v1, v2, T.c, rfl, rfl, ed, lk_code, lk_place, (see_g hv).1.frame (Tk.same s), (see_g hv2).1.frame (Tk.same s)⟩

/-! ### try: .. except C as e: return e.code | return (e.code, e.place) -/
def maskF (fz : List Nat) : Nat → List D → List D
  | _, [] => []
  | i, d :: ds => (if fz.contains i then d else .hole) :: maskF fz (i + 1) ds
theorem maskF_get {fz : List Nat} : ∀ {ds : List D} {j i : Nat}, (maskF fz j ds)[i]? = (ds[i]?).map fun d => if fz.contains (j + i) then d else .hole
  | [], _, _ => by simp [maskF]
  | d :: ds, j, 0 => by simp [maskF]
  | d :: ds, j, i + 1 => by
    simp only [maskF, List.getElem?_cons_succ]
    rw [maskF_get, Nat.add_right_comm, Nat.add_assoc]
theorem maskF_length {fz : List Nat} : ∀ {ds : List D} {j : Nat}, (maskF fz j ds).length = ds.length
  | [], _ => rfl
  | d :: ds, j => by simp [maskF, maskF_length]
def sTry (i : Nat) (nm : String) (both : Bool) (fz : List Nat) (g : SF) : SF := fun env => match g env with
  | .err x => if env.length ≤ i then .bad else if x.cls == nm then .rt (.g (if both then .tuple [x.code, x.place] else x.code)) (maskF fz 0 env) else .err x
  | r => r
/-- behind an error that the body let out: what a suite may lean on -/
theorem aft_err {K : Fg} {R : Addr → Prop} {σ σ' : L2.St} {H H' : Hp} {F : Nat → List Addr} {env : List D} (he : EnvOk K H fz R σ env F) (hl : σ'.length = σ.length) (pi : ∀ i, i ∈ fz ∨ i ∈ pn → σ'[i]? = σ[i]?) (k : ∀ b o, H b = some o → (∀ i, b ∉ F i) → H' b = some o) (l : ∀ b o, H b = some o → ∃ o', H' b = some o') (t : Tk H H') :
    AftS K fz pn R σ H F env σ' H' (fun _ => []) (maskF fz 0 env) := by
  have get : ∀ i d, (maskF fz 0 env)[i]? = some d → (i ∈ fz ∧ env[i]? = some d) ∨ (i ∉ fz ∧ d = .hole) := fun i d h => by
    rw [maskF_get, Option.map_eq_some_iff] at h
    obtain ⟨d', h1, h2⟩ := h
    rw [Nat.zero_add] at h2
    by_cases hi : i ∈ fz
    · rw [if_pos (List.contains_iff_mem.mpr hi)] at h2
      subst h2; exact .inl ⟨hi, h1⟩
    · rw [if_neg (fun z => hi (List.contains_iff_mem.mp z))] at h2
      exact .inr ⟨hi, h2.symm⟩
  refine ⟨⟨k, l, t, fun i b m => by cases m⟩, ⟨by rw [maskF_length, hl]; exact he.len, fun i d h hi => ?_, fun i d h hi => ?_, fun _ _ => rfl, fun _ _ _ b m => (by cases m), fun b r => ⟨?_, fun j m => (by cases m)⟩⟩, fun i hi => ?_, pi, hl⟩
  · rcases get i d h with ⟨q, _⟩ | ⟨_, q⟩
    · exact absurd q hi
    · exact .inl q
  · rcases get i d h with ⟨_, q⟩ | ⟨q, _⟩
    · rcases he.frz i d q hi with z | ⟨v, fp, e1, e2, e3⟩
      · exact .inl z
      · refine .inr ⟨v, fp, (pi i (.inl hi)).trans e1, ?_, e3⟩
        exact Rel.frame t d v fp (fun b m _ e => SeeC.keep (fun o q => k b o q (he.out b (e3 b m)).2) e) e2
    · exact absurd hi q
  · obtain ⟨⟨o, e⟩, n⟩ := he.out b r
    exact ⟨o, k b o e n⟩
  · rw [maskF_get]
    cases e : env[i]? with
    | none => rfl
    | some d => rw [Option.map_some, if_pos (by rw [Nat.zero_add]; exact List.contains_iff_mem.mpr hi)]
structure Cat (X : Cx) (y : Wi) (x : Str) (nm : String) (C : Addr) : Prop where
  xf : XfC X.K C
  nc : PySem.W.findIn X.K (.ref C) "code" = some none
  np : PySem.W.findIn X.K (.ref C) "place" = some none
  nam : Names X x (.ref C)
  c : y.cl nm = some C
  one : ∀ n' C', y.cl n' = some C' → PySem.W.exmOne X.K (.ref C') (.ref C) = some (n' == nm)
variable {n : Str} {i : Nat} {body : List Stmt} {np pos' pe pe2 pc pl pr pt : Pos} {g : SF} {kt : Nat}
/-- the body's reading, where the suite's is told -/
theorem try_sat {K : Fg} {both : Bool} {R : Addr → Prop} {σ : L2.St} {H : Hp} {F : Nat → List Addr} {env : List D} {Dn : Ends} {W : WX} (he : EnvOk K H fz R σ env F) (q : Sat K y fz pn R σ H F env (sTry i nm both fz g env) Dn)
    (hW : ∀ x σ' c dd H', i < σ'.length → σ'.length = σ.length → (∀ i, i ∈ fz ∨ i ∈ pn → σ'[i]? = σ[i]?) → Tk H H' → ErrOk K y x H' c dd → (x.cls == nm) = true → (∀ v H'' fv, Same H' H'' → Own K H'' v (.g (if both then .tuple [x.code, x.place] else x.code)) fv → (∀ b ∈ fv, H' b = none) → Dn.rt v H'') → W c dd σ' H')
    (hO : ∀ x σ' c dd H', ErrOk K y x H' c dd → (x.cls == nm) = false → y.W c dd σ' H' → W c dd σ' H') : Sat K ⟨W, y.cl⟩ fz pn R σ H F env (g env) Dn := by
  unfold sTry at q
  cases e1 : g env with
  | nx e => rw [e1] at q; exact q
  | rt d e => rw [e1] at q; exact q
  | bk e => rw [e1] at q; exact q
  | ct e => rw [e1] at q; exact q
  | bad => rw [e1] at q; exact q
  | err x =>
    rw [e1] at q
    dsimp only at q
    refine fun σ' c dd H' hl pi k l t er => ?_
    split at q
    · exact (q : False).elim
    rename_i hlt
    have hlt : i < σ'.length := by rw [hl, ← he.len]; omega
    cases e2 : x.cls == nm with
    | true =>
      rw [e2, if_pos rfl] at q
      have A := aft_err he hl pi k l t
      refine hW x σ' c dd H' hlt hl pi t er e2 fun v H'' fv s o nf => ?_
      have A2 := A.trans (Aft.same A.ok s).s
      exact q σ' v H'' _ fv A2 o (fun b m i m' => by cases m') fun b m => .inr (A.stp.free (nf b m))
    | false =>
      rw [e2, if_neg (by decide)] at q
      exact hO x σ' c dd H' er e2 (q σ' c dd H' hl pi k l t er)
theorem s_tryC (hs : X.stack = X.env :: X.outer) (hf : X.env.frame = some X.env.locals) (hN : X.N.Nodup) (hi : X.N[i]? = some n) (hln : X.env.kindOf n = some .local) (tk : Takes X y.W) (T : Cat X y x nm C) (hif : free fz pn i = true)
    (hv : ∀ a pn', PE (X.suite a pn') (.Name n pe) (tVar i)) (hb : ∀ (W : WX) (pn' : List (Addr × Obj)) (xe : Value → Shared → Prop), Takes (X.tr pn' xe) W → PassesOwn (model X.prog X.w) X.A X.env xe → Ss (X.tr pn' xe) ⟨W, y.cl⟩ fz pn body g) (hat : attributeBase (.Name n pe) "code" X.env (eval (.Name n pe) X.env) = eval (.Name n pe) X.env := by rfl) :
    S X y fz pn (.Try body [.ExceptHandler (some (.Name x np)) (some n) [.Return (some (.Attribute (.Name n pe) "code" pc)) pr] pos'] [] [] pos) (sTry i nm false fz g) := by
  refine ⟨ps_imp (ps_try_as (c := .ref C) (tb := fun W => tS X.K ⟨W, y.cl⟩ fz pn g) (ts := fun a cls d => tRet (tXf a cls d C "code" (tVar i))) (Wout := y.W) hs hf hN hi hln T.nam tk (fun W pn' xe tk' ps => (hb W pn' xe tk' ps).ps) fun a oe cls d pn' hz hfs => pss_one (ps_ret (pe_xf T.xf T.nc hz hfs (hv a _) hat))) fun Dn σ H q => ?_⟩
  obtain ⟨env, F, R, he, q⟩ := q
  refine ⟨env, F, R, he, try_sat he q (fun x σ' c dd H' hlt hl pi t er ec h => ?_) fun x σ' c dd H' er ec h => ?_⟩
  · obtain ⟨C', d, fs, v1, v2, h1, rfl, rfl, h4, h5, h6, h7, h8⟩ := er
    have e1 := T.one _ _ h1
    refine ⟨true, by rw [e1, ec], fun _ a na => ?_, fun z => (by cases z)⟩
    have eC : C' = C := by
      have : x.cls = nm := beq_iff_eq.mp ec
      rw [this, T.c] at h1; exact (Option.some.inj h1).symm
    subst eC
    refine ⟨.ref a, by rw [List.getElem?_set_self hlt], rfl, rfl, d, fs, v1, rfl, h4, h5, ?_⟩
    exact h v1 H' [] (Same.refl _) (.g h7) (by simp)
  · obtain ⟨C', d, fs, v1, v2, h1, rfl, rfl, h4, h5, h6, h7, h8⟩ := er
    refine ⟨false, by rw [T.one _ _ h1, ec], fun z => (by cases z), fun _ => h⟩
theorem s_tryCP (hs : X.stack = X.env :: X.outer) (hf : X.env.frame = some X.env.locals) (hN : X.N.Nodup) (hi : X.N[i]? = some n) (hln : X.env.kindOf n = some .local) (tk : Takes X y.W) (T : Cat X y x nm C) (hif : free fz pn i = true)
    (hv : ∀ a pn' p, PE (X.suite a pn') (.Name n p) (tVar i)) (hb : ∀ (W : WX) (pn' : List (Addr × Obj)) (xe : Value → Shared → Prop), Takes (X.tr pn' xe) W → PassesOwn (model X.prog X.w) X.A X.env xe → Ss (X.tr pn' xe) ⟨W, y.cl⟩ fz pn body g) (hat : attributeBase (.Name n pe) "code" X.env (eval (.Name n pe) X.env) = eval (.Name n pe) X.env := by rfl)
    (hat2 : attributeBase (.Name n pe2) "place" X.env (eval (.Name n pe2) X.env) = eval (.Name n pe2) X.env := by rfl)
    (hst : ∀ a pn', starEach [.Attribute (.Name n pe) "code" pc, .Attribute (.Name n pe2) "place" pl] (X.suite a pn').env = (false, eval (.Attribute (.Name n pe) "code" pc) (X.suite a pn').env) :: starEach [.Attribute (.Name n pe2) "place" pl] (X.suite a pn').env := by intros; rfl)
    (hst2 : ∀ a pn', starEach [.Attribute (.Name n pe2) "place" pl] (X.suite a pn').env = (false, eval (.Attribute (.Name n pe2) "place" pl) (X.suite a pn').env) :: starEach [] (X.suite a pn').env := by intros; rfl) :
    S X y fz pn (.Try body [.ExceptHandler (some (.Name x np)) (some n) [.Return (some (.Tuple [.Attribute (.Name n pe) "code" pc, .Attribute (.Name n pe2) "place" pl] kt pt)) pr] pos'] [] [] pos) (sTry i nm true fz g) := by
  refine ⟨ps_imp (ps_try_as (c := .ref C) (tb := fun W => tS X.K ⟨W, y.cl⟩ fz pn g) (ts := fun a cls d => tRet (tTup (tCons (tXf a cls d C "code" (tVar i)) (tCons (tXf a cls d C "place" (tVar i)) tNil)))) (Wout := y.W) hs hf hN hi hln T.nam tk (fun W pn' xe tk' ps => (hb W pn' xe tk' ps).ps)
    fun a oe cls d pn' hz hfs => pss_one (ps_ret (pe_tup (pa_cons (pe_xf T.xf T.nc hz hfs (hv a _ _) hat) (pa_cons (pe_xf T.xf T.np hz hfs (hv a _ _) hat2) pa_nil (hst2 a _)) (hst a _))))) fun Dn σ H q => ?_⟩
  obtain ⟨env, F, R, he, q⟩ := q
  refine ⟨env, F, R, he, try_sat he q (fun x σ' c dd H' hlt hl pi t er ec h => ?_) fun x σ' c dd H' er ec h => ?_⟩
  · obtain ⟨C', d, fs, v1, v2, h1, rfl, rfl, h4, h5, h6, h7, h8⟩ := er
    have e1 := T.one _ _ h1
    refine ⟨true, by rw [e1, ec], fun _ a na => ?_, fun z => (by cases z)⟩
    have eC : C' = C := by
      have : x.cls = nm := beq_iff_eq.mp ec
      rw [this, T.c] at h1; exact (Option.some.inj h1).symm
    subst eC
    refine ⟨.ref a, by rw [List.getElem?_set_self hlt], rfl, rfl, d, fs, v1, rfl, h4, h5, .ref a, by rw [List.getElem?_set_self hlt], rfl, rfl, d, fs, v2, rfl, h4, h6, by rw [sizeLine_eq]; simp, fun p np => ?_⟩
    exact h _ _ [] (same_upd np) (.g (.tup upd_same (.cons (h7.frame (Tk.same (same_upd np))) (.cons (h8.frame (Tk.same (same_upd np))) .nil)))) (by simp)
  · obtain ⟨C', d, fs, v1, v2, h1, rfl, rfl, h4, h5, h6, h7, h8⟩ := er
    refine ⟨false, by rw [T.one _ _ h1, ec], fun z => (by cases z), fun _ => h⟩
end
end Ow

set_option Elab.async false
set_option linter.all false
set_option maxRecDepth 100000
set_option maxHeartbeats 1000000
/-! OwM: list comprehensions that write nothing. -/
namespace Ow
open PySem PySem.Spec PyProof.Rows L2

/-! ### targets over what is only read -/
mutual
def bindR : Pat → D → List D → Option (List D)
  | .nm i, d, env => putD i d env
  | .tp ps, d, env => match d with
    | .g (.tuple xs) => bindRs ps (xs.map .g) env
    | .tp ds => bindRs ps ds env
    | _ => none
def bindRs : List Pat → List D → List D → Option (List D)
  | [], [], env => some env
  | p :: ps, d :: ds, env => (bindR p d env).bind fun env => bindRs ps ds env
  | _, _, _ => none
end
/-- what such a target asks -/
abbrev RdS (K : Fg) (Z : Addr → Prop) (H : Hp) (σ : L2.St) (env : List D) : Prop := RdEnv K Z H σ env
theorem RdS.same {K : Fg} {Z : Addr → Prop} {H H' : Hp} {σ : L2.St} {env : List D} (h : RdS K Z H σ env) (s : Same H H') : RdS K Z H' σ env := RdEnv.same h s
theorem RdS.len {K : Fg} {Z : Addr → Prop} {H : Hp} {σ : L2.St} {env : List D} (h : RdS K Z H σ env) : env.length = σ.length := h.1
structure GP (X : Cx) (tg : Expr) (p : Pat) : Prop where
  pg : PG X tg fun v σ H Q => ∃ env Z d fp env', RdS X.K Z H σ env ∧ See X.K H v d fp ∧ (∀ b ∈ fp, Z b) ∧ bindR p d env = some env' ∧ ∀ σ', RdS X.K Z H σ' env' → σ'.length = σ.length → (∀ j, j ∉ p.slots → σ'[j]? = σ[j]?) → Q σ' H
structure GPs (X : Cx) (tg : List Expr) (p : List Pat) : Prop where
  pg : PGs X tg fun vs σ H Q => ∃ env Z ds fp env', RdS X.K Z H σ env ∧ SeeAll X.K H vs ds fp ∧ (∀ b ∈ fp, Z b) ∧ bindRs p ds env = some env' ∧ ∀ σ', RdS X.K Z H σ' env' → σ'.length = σ.length → (∀ j, j ∉ slotsL p → σ'[j]? = σ[j]?) → Q σ' H
section
variable {X : Cx} {y : Wi} {a b c e tg : Expr} {es : List Expr} {pos : Pos}
theorem RdS.put {K : Fg} {Z : Addr → Prop} {H : Hp} {σ : L2.St} {env : List D} {i : Nat} {v : V} {d : D} {fp : List Addr} (h : RdS K Z H σ env) (hs : See K H v d fp) (hz : ∀ b ∈ fp, Z b) : RdS K Z H (σ.set i (some v)) (env.set i d) := by
  refine ⟨by simp [h.1], fun j d' hj => ?_⟩
  by_cases hji : j = i
  · subst hji
    by_cases hlt : j < env.length
    · rw [List.getElem?_set_self hlt] at hj
      cases hj
      refine .inr ⟨v, fp, ?_, hs, hz⟩
      rw [List.getElem?_set_self (by rw [← h.1]; exact hlt)]
    · rw [List.getElem?_eq_none (by simpa using hlt)] at hj; cases hj
  · rw [List.getElem?_set_ne (Ne.symm hji)] at hj
    rw [List.getElem?_set_ne (Ne.symm hji)]
    exact h.2 j d' hj
theorem gp_name {i : Nat} (hg : PG X e (gName i)) : GP X e (.nm i) := by
  refine ⟨pg_imp hg fun v σ H Q q => ?_⟩
  obtain ⟨env, Z, d, fp, env', he, hs, hz, hb, q⟩ := q
  obtain ⟨hd, hlt, rfl⟩ := putD_some hb
  refine q _ (he.put hs hz) (by simp) fun j hj => ?_
  have : j ≠ i := fun z => hj (by simp [Pat.slots, z])
  rw [List.getElem?_set_ne (Ne.symm this)]
theorem gps_nil : GPs X [] [] := by
  refine ⟨pgs_imp pgs_nil fun vs σ H Q q => ?_⟩
  obtain ⟨env, Z, ds, fp, env', he, hs, hz, hb, q⟩ := q
  cases ds with
  | nil =>
    cases hs
    simp only [bindRs] at hb
    cases hb
    exact ⟨rfl, q _ he rfl fun _ _ => rfl⟩
  | cons d ds => simp [bindRs] at hb
theorem gps_cons {p : Pat} {ps : List Pat} (h1 : GP X e p) (h2 : GPs X es ps) (hs : (assignEach (e :: es) X.env).map (·.2) = assign e X.env :: (assignEach es X.env).map (·.2) := by rfl) : GPs X (e :: es) (p :: ps) := by
  refine ⟨pgs_imp (pgs_cons h1.pg h2.pg hs) fun vs σ H Q q => ?_⟩
  obtain ⟨env, Z, ds, fp, env', he, hs, hz, hb, q⟩ := q
  cases ds with
  | nil => simp [bindRs] at hb
  | cons d ds =>
    cases hs with
    | cons s1 s2 _ =>
      simp only [bindRs, Option.bind_eq_some_iff] at hb
      obtain ⟨env1, b1, b2⟩ := hb
      refine ⟨_, _, rfl, env, Z, d, _, env1, he, s1, fun b m => hz b (List.mem_append_left _ m), b1, fun σ1 A1 l1 f1 => ⟨env1, Z, ds, _, env', A1, s2, fun b m => hz b (List.mem_append_right _ m), b2, fun σ2 A2 l2 f2 => q σ2 A2 (l2.trans l1) fun j hj => ?_⟩⟩
      simp only [slotsL, List.mem_append, not_or] at hj
      exact (f2 j hj.2).trans (f1 j hj.1)
theorem bindRs_len : ∀ {ps : List Pat} {ds : List D} {env env' : List D}, bindRs ps ds env = some env' → ds.length = ps.length
  | [], [], _, _, _ => rfl
  | [], _ :: _, _, _, h => by simp [bindRs] at h
  | _ :: _, [], _, _, h => by simp [bindRs] at h
  | p :: ps, d :: ds, env, env', h => by
    simp only [bindRs, Option.bind_eq_some_iff] at h
    obtain ⟨env1, _, b2⟩ := h
    simp [bindRs_len b2]
theorem gp_tup {ps : List Pat} {k : Nat} {n : Nat} (hc : X.calm = true) (h : GPs X es ps) (hn : (assignEach es X.env).length = n := by rfl) (hst : (assignEach es X.env).findIdx? (·.1) = none := by rfl) (hps : ps.length = n := by rfl) : GP X (.Tuple es k pos) (.tp ps) := by
  refine ⟨pg_imp (pg_tup hc h.pg hn hst) fun v σ H Q q => ?_⟩
  obtain ⟨env, Z, d, fp, env', he, hs, hz, hb, q⟩ := q
  unfold bindR at hb
  cases d with
  | g x =>
    cases x with
    | tuple xs =>
      obtain ⟨a, vs, rfl, h1, h2⟩ := see_tup hs
      have hl := bindRs_len hb
      rw [List.length_map] at hl
      exact ⟨a, vs, rfl, h1, by rw [h2.length, hl, hps], env, Z, _, _, env', he, h2.rel, by simp, hb, q⟩
    | _ => cases hb
  | tp ds =>
    cases hs with
    | tp h1 h2 => exact ⟨_, _, rfl, h1, by rw [h2.length, bindRs_len hb, hps], env, Z, _, _, env', he, h2, hz, hb, q⟩
  | _ => cases hb

/-! ### tests -/
structure PTs' (X : Cx) (y : Wi) (ifs : List Expr) (f : PB) : Prop where
  pt : PTs X ifs (tPB X.K y f)
def pYes : PB := fun _ => .ok true
theorem pts'_nil : PTs' X y [] pYes := ⟨⟨fun pins s σ H Q I ⟨env, Z, hR, q⟩ => pts_nil.run pins s σ H Q I (q H (Same.refl H))⟩⟩
theorem pts'_one {f : PB} (h : PTst X y c f) : PTs' X y [c] f := ⟨pts_one h.pt⟩

/-! ### the loop -/
/-- the new list at D, made since H1, holds acc -/
def Acc (K : Fg) (H1 : Hp) (Dd : Addr) (acc : List D) (H : Hp) : Prop := Same H1 H ∧ ∃ vs fps, H Dd = some (.lst vs) ∧ OwnAll K H vs acc fps ∧ Dd ∉ fps ∧ ∀ b ∈ fps, H1 b = none
theorem Acc.same {K : Fg} {H1 H H' : Hp} {Dd : Addr} {acc : List D} (h : Acc K H1 Dd acc H) (s : Same H H') : Acc K H1 Dd acc H' := by
  obtain ⟨s1, vs, fps, e1, e2, e3, e4⟩ := h
  exact ⟨s1.trans s, vs, fps, s _ _ e1, e2.same s, e3, e4⟩
theorem Acc.push {K : Fg} {H1 H H' : Hp} {Dd : Addr} {acc : List D} {v : V} {r : D} {fp : List Addr} (h : Acc K H1 Dd acc H) (hd : H1 Dd = none) (s : Same H H') (o : Own K H' v r fp) (n : ∀ b ∈ fp, H b = none) :
    ∃ vs, H' Dd = some (.lst vs) ∧ vs.length = acc.length ∧ Acc K H1 Dd (acc ++ [r]) (upd H' Dd (.lst (vs ++ [v]))) := by
  obtain ⟨s1, vs, fps, e1, e2, e3, e4⟩ := h
  have s2 := s1.trans s
  have eD := s _ _ e1
  have nD : Dd ∉ fp := fun m => by rw [n _ m] at e1; cases e1
  have tk : Tk H' (upd H' Dd (.lst (vs ++ [v]))) := fun b ob q i => by
    have : b ≠ Dd := fun z => by rw [z, eD] at q; cases q; cases i
    rw [upd_ne this]; exact q
  refine ⟨vs, eD, e2.length, fun b ob q => ?_, vs ++ [v], fps ++ fp, upd_same, ?_, ?_, ?_⟩
  · rw [upd_ne (ne_of_none q hd)]; exact s2 _ _ q
  · have o1 : OwnAll K (upd H' Dd (.lst (vs ++ [v]))) vs acc fps := RelAll.frame tk acc vs fps (fun b m ob q => by rw [upd_ne (fun z => e3 (by rw [← z]; exact m))]; exact q) (e2.same s)
    have o2 : Own K (upd H' Dd (.lst (vs ++ [v]))) v r fp := Rel.frame tk r v fp (fun b m ob q => by rw [upd_ne (fun z => nD (by rw [← z]; exact m))]; exact q) o
    have o3 := RelAll.cons o2 RelAll.nil (by simp)
    rw [List.append_nil] at o3
    refine RelAll.app o1 o3 fun b m m' => ?_
    obtain ⟨ob, q⟩ := e2.live m
    rw [n b m'] at q; cases q
  · intro m
    rcases List.mem_append.mp m with m | m
    · exact e3 m
    · exact nD m
  · intro b m
    rcases List.mem_append.mp m with m | m
    · exact e4 b m
    · exact s1.free (n b m)
def goL (p : Pat) (c : PB) (bg : List D → PR (List D)) (env : List D) : List D → PR (List D)
  | [] => .ok []
  | d :: ds => match bindR p d env with
    | none => .bad
    | some e => (c e).bind fun b => if b = true then (bg e).bind fun rs => (goL p c bg env ds).bind fun qs => .ok (rs ++ qs) else goL p c bg env ds
theorem PR.bind_ok_iff {α β : Type} {r : PR α} {g : α → PR β} {b : β} (h : r.bind g = .ok b) : ∃ a, r = .ok a ∧ g a = .ok b := by
  cases r with
  | ok a => exact ⟨a, rfl, h⟩
  | err x => cases h
  | bad => cases h
def SB (Dd : Addr) (H H' : Hp) : Prop := ∀ b o, b ≠ Dd → H b = some o → H' b = some o
theorem SB.trans {Dd : Addr} {H H1 H2 : Hp} (a : SB Dd H H1) (b : SB Dd H1 H2) : SB Dd H H2 := fun c o n h => b c o n (a c o n h)
theorem SB.of {Dd : Addr} {H H' : Hp} (s : Same H H') : SB Dd H H' := fun b o _ h => s b o h
theorem SB.tk {Dd : Addr} {H H' : Hp} {vs : List V} (s : SB Dd H H') (h : H Dd = some (.lst vs)) : Tk H H' := fun b o q i => s b o (fun z => by rw [z, h] at q; cases q; cases i) q
theorem Acc.at {K : Fg} {H1 H : Hp} {Dd : Addr} {acc : List D} (h : Acc K H1 Dd acc H) : ∃ vs, H Dd = some (.lst vs) := h.2.imp fun _ ⟨_, e, _⟩ => e
theorem RdS.sb {K : Fg} {Dd : Addr} {H H' : Hp} {σ : L2.St} {env : List D} (h : RdS K (fun b => b ≠ Dd) H σ env) (s : SB Dd H H') (t : Tk H H') : RdS K (fun b => b ≠ Dd) H' σ env :=
  ⟨h.1, fun i d hd => (h.2 i d hd).imp id fun ⟨v, fp, e1, e2, e3⟩ => ⟨v, fp, e1, Rel.frame t d v fp (fun b m _ q => SeeC.keep (fun o z => s b o (e3 b m) z) q) e2, e3⟩⟩
def GPr (K : Fg) (p : Pat) : TG := fun v σ H Q => ∃ env Z d fp env', RdS K Z H σ env ∧ See K H v d fp ∧ (∀ b ∈ fp, Z b) ∧ bindR p d env = some env' ∧ ∀ σ', RdS K Z H σ' env' → σ'.length = σ.length → (∀ j, j ∉ p.slots → σ'[j]? = σ[j]?) → Q σ' H
def JOk (K : Fg) (Dd : Addr) (Hs : Hp) (J : It) (items : List D) : Prop := ∀ H2, SB Dd Hs H2 → Tk Hs H2 → ∀ i, (∀ d, items[i]? = some d → J.go i H2 ∧ ∀ x H3, J.yld i H2 x H3 → Same H2 H3 ∧ ∃ fp, See K H3 x d fp ∧ ∀ b ∈ fp, b ≠ Dd) ∧ (items.length ≤ i → J.stop i H2)
/-- what is still to come gives rs -/
def Rest (K : Fg) (H1 : Hp) (Dd : Addr) (Hs : Hp) (acc : List D) (r : PR (List D)) (Qe : Hp → Prop) : Prop := ∃ rs, r = .ok rs ∧ acc.length + rs.length ≤ sizeLine ∧ ∀ H', Acc K H1 Dd (acc ++ rs) H' → SB Dd Hs H' → Qe H'
theorem lc_loop {K : Fg} {y0 : Wi} {H1 Hs : Hp} {Dd : Addr} {items acc0 : List D} {J : It} {p : Pat} {c : PB} {bg : List D → PR (List D)} {tt : TT} {Body : L2.St → Hp → (Hp → Prop) → Prop} {σw : L2.St} {env : List D} {vs : List Nat} {Qe : Hp → Prop}
    (hJ : JOk K Dd Hs J items) (ht : ∀ σ H Q, tPB K y0 c σ H Q → tt σ H Q) (hsl : ∀ j ∈ p.slots, j ∈ vs)
    (hB : ∀ σ2 e H3 (Nx : Hp → Prop) acc, RdS K (fun b => b ≠ Dd) H3 σ2 e → Acc K H1 Dd acc H3 → (σ2.length = σw.length ∧ ∀ j, j ∉ vs → σ2[j]? = σw[j]?) → Rest K H1 Dd H3 acc (bg e) Nx → Body σ2 H3 Nx)
    (hR : RdS K (fun b => b ≠ Dd) Hs σw env) (h0 : Acc K H1 Dd acc0 Hs) (h : Rest K H1 Dd Hs acc0 (goL p c bg env items) Qe) :
    ∃ W : Nat → Nat → Hp → Prop, (∃ m, W 0 m Hs) ∧ ∀ i m H, W i m H →
      (J.stop i H ∧ Qe H) ∨ (J.go i H ∧ ∃ Nx : Hp → Prop, (∀ H', Nx H' → ∃ m', m' < m ∧ W (i + 1) m' H') ∧ ∀ x H', J.yld i H x H' → GPr K p x σw H' fun σ2 H2 => (σ2.length = σw.length ∧ ∀ j, j ∉ vs → σ2[j]? = σw[j]?) ∧ tt σ2 H2 fun b H3 => if b = true then Body σ2 H3 Nx else Nx H3) := by
  obtain ⟨vs0, e0⟩ := h0.at
  refine ⟨fun i m H => m = items.length - i ∧ i ≤ items.length ∧ SB Dd Hs H ∧ ∃ acc, Acc K H1 Dd acc H ∧ Rest K H1 Dd H acc (goL p c bg env (items.drop i)) Qe, ⟨_, rfl, Nat.zero_le _, fun _ _ _ q => q, acc0, h0, by simpa using h⟩, ?_⟩
  rintro i m H ⟨rfl, hi, sH, acc, hA, rs, hr, hz, hq⟩
  have tH := sH.tk e0
  have hJ2 := hJ H sH tH i
  by_cases hlt : i < items.length
  · obtain ⟨hgo, hy⟩ := hJ2.1 items[i] (by simp [hlt])
    rw [List.drop_eq_getElem_cons hlt] at hr
    unfold goL at hr
    refine .inr ⟨hgo, fun H' => ∃ m', m' < items.length - i ∧ m' = items.length - (i + 1) ∧ i + 1 ≤ items.length ∧ SB Dd Hs H' ∧ ∃ acc, Acc K H1 Dd acc H' ∧ Rest K H1 Dd H' acc (goL p c bg env (items.drop (i + 1))) Qe, fun H' q => q, fun x H' hyy => ?_⟩
    obtain ⟨s1, fp, hx, hfp⟩ := hy x H' hyy
    have hR1 := (hR.sb sH tH).same s1
    cases e1 : bindR p items[i] env with
    | none => rw [e1] at hr; cases hr
    | some e =>
      rw [e1] at hr
      obtain ⟨b, e2, hr⟩ := PR.bind_ok_iff hr
      refine ⟨env, _, items[i], fp, e, hR1, hx, hfp, e1, fun σ2 r2 l2 f2 => ⟨⟨l2, fun j hj => f2 j fun m => hj (hsl j m)⟩, ht σ2 H' _ ⟨e, _, r2, ?_⟩⟩⟩
      rw [e2]
      intro H3 s3
      have sH3 : SB Dd H H3 := SB.of (s1.trans s3)
      cases b with
      | false =>
        rw [if_neg (by decide)] at hr ⊢
        refine ⟨_, by omega, rfl, hlt, sH.trans sH3, acc, hA.same (s1.trans s3), rs, hr, hz, fun H4 a4 s4 => hq H4 a4 (sH3.trans s4)⟩
      | true =>
        rw [if_pos rfl] at hr ⊢
        obtain ⟨rs1, e3, hr⟩ := PR.bind_ok_iff hr
        obtain ⟨qs, e4, hr⟩ := PR.bind_ok_iff hr
        cases hr
        rw [List.length_append] at hz
        refine hB σ2 e H3 _ acc (r2.same s3) (hA.same (s1.trans s3)) ⟨l2, fun j hj => f2 j fun m => hj (hsl j m)⟩ ⟨rs1, e3, by omega, fun H4 a4 s4 => ?_⟩
        refine ⟨_, by omega, rfl, hlt, (sH.trans sH3).trans s4, _, a4, qs, e4, by rw [List.length_append]; omega, fun H5 a5 s5 => hq H5 ?_ ((sH3.trans s4).trans s5)⟩
        rw [← List.append_assoc]; exact a5
  · have e : i = items.length := by omega
    subst e
    rw [List.drop_length] at hr
    cases hr
    refine .inl ⟨hJ2.2 (Nat.le_refl _), hq H ?_ fun _ _ _ q => q⟩
    simpa using hA

def wipeD (env : List D) : List Nat → List D
  | [] => env
  | v :: vs => (wipeD env vs).set v .hole
theorem wipeD_length {env : List D} : ∀ vs : List Nat, (wipeD env vs).length = env.length
  | [] => rfl
  | v :: vs => by unfold wipeD; rw [List.length_set, wipeD_length vs]
theorem wipeD_in {env : List D} {i : Nat} {d : D} : ∀ {vs : List Nat}, i ∈ vs → (wipeD env vs)[i]? = some d → d = .hole
  | v :: vs, m, h => by
    unfold wipeD at h
    by_cases hv : v = i
    · subst hv
      rw [List.getElem?_set] at h
      rw [if_pos rfl] at h
      split at h
      · cases h; rfl
      · cases h
    · rw [List.getElem?_set_ne hv] at h
      exact wipeD_in ((List.mem_cons.mp m).resolve_left fun z => hv z.symm) h
theorem wipeD_out {env : List D} {i : Nat} : ∀ {vs : List Nat}, i ∉ vs → (wipeD env vs)[i]? = env[i]?
  | [], _ => rfl
  | v :: vs, h => by
    have h1 : v ≠ i := fun e => h (by rw [e]; exact List.mem_cons_self)
    have h2 : i ∉ vs := fun m => h (List.mem_cons_of_mem _ m)
    unfold wipeD
    rw [List.getElem?_set_ne h1]
    exact wipeD_out h2
theorem wipe_in {σ : L2.St} {i : Nat} : ∀ {vs : List Nat}, i ∈ vs → i < σ.length → (wipe σ vs)[i]? = some none
  | v :: vs, m, h => by
    unfold wipe
    by_cases hv : v = i
    · subst hv
      rw [List.getElem?_set_self (by rw [wipe_length]; exact h)]
    · rw [List.getElem?_set_ne hv]
      exact wipe_in ((List.mem_cons.mp m).resolve_left fun z => hv z.symm) h
theorem wipe_eq {σ2 σ3 : L2.St} {vs : List Nat} (hl : σ2.length = σ3.length) (h : ∀ j, j ∉ vs → σ2[j]? = σ3[j]?) : wipe σ2 vs = wipe σ3 vs := by
  apply List.ext_getElem?
  intro j
  by_cases hj : j ∈ vs
  · by_cases hlt : j < σ2.length
    · rw [wipe_in hj hlt, wipe_in hj (by rw [← hl]; exact hlt)]
    · rw [List.getElem?_eq_none (by rw [wipe_length]; omega), List.getElem?_eq_none (by rw [wipe_length]; omega)]
  · rw [wipe_out hj, wipe_out hj, h j hj]
theorem RdS.wipe {K : Fg} {Z : Addr → Prop} {H : Hp} {σ : L2.St} {env : List D} (h : RdS K Z H σ env) (vs : List Nat) : RdS K Z H (wipe σ vs) (wipeD env vs) := by
  refine ⟨by rw [wipe_length, wipeD_length]; exact h.1, fun i d hd => ?_⟩
  by_cases hi : i ∈ vs
  · exact .inl (wipeD_in hi hd)
  · rw [wipeD_out hi] at hd
    rw [wipe_out hi]
    exact h.2 i d hd
theorem RdS.weak {K : Fg} {Z Z' : Addr → Prop} {H : Hp} {σ : L2.St} {env : List D} (h : RdS K Z H σ env) (z : ∀ b o, H b = some o → Z' b) : RdS K Z' H σ env :=
  ⟨h.1, fun i d hd => (h.2 i d hd).imp id fun ⟨v, fp, e1, e2, e3⟩ => ⟨v, fp, e1, e2, fun b m => (see_live e2 m).elim fun o q => z b o q⟩⟩
def bgE (f : PF) : List D → PR (List D) := fun e => (f e).bind fun v => (ownD v).bind fun r => .ok [r]
def endLc (r : PR (List D)) : PR Pv := match r with
  | .ok rs => if rs.length ≤ sizeLine then .ok (.own (.lst rs)) else .bad
  | _ => .bad
def pLc (vs : List Nat) (fi : PW') (p : Pat) (c : PB) (f : PF) : PF := fun env => (fi env).bind fun w => endLc (goL p c (bgE f) (wipeD env vs) w.items)
theorem endLc_post {r : PR (List D)} {ok : Pv → Prop} {er : Ex → Prop} (h : (endLc r).post ok er) : ∃ rs, r = .ok rs ∧ rs.length ≤ sizeLine ∧ ok (.own (.lst rs)) := by
  unfold endLc at h
  split at h
  · rename_i rs
    split at h
    · rename_i hz; exact ⟨rs, rfl, hz, h⟩
    · exact (h : False).elim
  · exact (h : False).elim
def y0 (y : Wi) : Wi := ⟨fun _ _ _ _ => False, y.cl⟩
/-- the walk's iterator, seen from the new list -/
theorem jok_of {K : Fg} {Z : Addr → Prop} {H H1 : Hp} {J : It} {w : Walk} {Dd : Addr} (h : ItOk K Z H H1 J w) (hd : H1 Dd = none) : JOk K Dd (upd H1 Dd (.lst [])) J w.items := by
  obtain ⟨zp, _, _, z3, z4⟩ := h
  intro H2 sb tk i
  have s : Same H1 (upd H1 Dd (.lst [])) := same_upd hd
  have hz : ∀ b ∈ zp, b ≠ Dd := fun b m e => by
    obtain ⟨o, q⟩ := z3 b m
    rw [e, hd] at q; cases q
  obtain ⟨a1, a2⟩ := z4 H2 ((Tk.same s).trans tk) (fun b m o q => sb b o (hz b m) (s _ _ q)) i
  refine ⟨fun d hd' => ?_, a2⟩
  obtain ⟨b1, b2⟩ := a1 d hd'
  refine ⟨b1, fun x H3 hy => ?_⟩
  obtain ⟨c1, fp, c2, c3⟩ := b2 x H3 hy
  exact ⟨c1, fp, c2, fun b m => hz b (c3 b m)⟩
/-- .. and of a second source, begun within -/
theorem jok_in {K : Fg} {H H1 : Hp} {J : It} {w : Walk} {Dd : Addr} {vs : List V} (h : ItOk K (fun b => b ≠ Dd) H H1 J w) (hd : H Dd = some (.lst vs)) : JOk K Dd H1 J w.items := by
  obtain ⟨zp, _, z2, z3, z4⟩ := h
  intro H2 sb tk i
  have hz : ∀ b ∈ zp, b ≠ Dd := fun b m => (z2 b m).elim id fun q e => by rw [e, hd] at q; cases q
  obtain ⟨a1, a2⟩ := z4 H2 tk (fun b m o q => sb b o (hz b m) q) i
  refine ⟨fun d hd' => ?_, a2⟩
  obtain ⟨b1, b2⟩ := a1 d hd'
  refine ⟨b1, fun x H3 hy => ?_⟩
  obtain ⟨c1, fp, c2, c3⟩ := b2 x H3 hy
  exact ⟨c1, fp, c2, fun b m => hz b (c3 b m)⟩
theorem acc_new {K : Fg} {H1 : Hp} {Dd : Addr} (hd : H1 Dd = none) : Acc K H1 Dd [] (upd H1 Dd (.lst [])) := ⟨same_upd hd, [], [], upd_same, .nil, by simp, by simp⟩
variable {iter elt : Expr} {ifs : List Expr} {scope : Scope} {own : List (Str × Nat)}
theorem lc_main {K : Fg} {p : Pat} {c : PB} {f : PF} {vs : List Nat} {σ : L2.St} {H H1 : Hp} {Q : VK} {env : List D} {Z : Addr → Prop} {J : It} {items : List D} {er : Ex → Prop} {Dd : Addr} (hsl : ∀ j ∈ p.slots, j ∈ vs) (hR : RdEnv K Z H σ env) (s1 : Same H H1) (hj : JOk K Dd (upd H1 Dd (.lst [])) J items) (hd : H1 Dd = none)
    (h : (endLc (goL p c (bgE f) (wipeD env vs) items)).post (fun p => ∀ v H' fp, Same H H' → PvOk K Z H H' v p fp → Q v H') er) : ∃ W : Nat → Nat → Hp → Prop, (∃ m, W 0 m (upd H1 Dd (.lst []))) ∧ ∀ i m H, W i m H →
      (J.stop i H ∧ Q (.ref Dd) H) ∨ (J.go i H ∧ ∃ Nx : Hp → Prop, (∀ H', Nx H' → ∃ m', m' < m ∧ W (i + 1) m' H') ∧ ∀ x H', J.yld i H x H' → GPr K p x (L2.wipe σ vs) H' fun σ2 H2 => L2.wipe σ2 vs = L2.wipe σ vs ∧ tPB K (y0 y) c σ2 H2 fun b H3 =>
        if b = true then tP K (y0 y) f σ2 H3 fun y H4 => ∃ acc, H4 Dd = some (.lst acc) ∧ acc.length < sizeLine ∧ Nx (upd H4 Dd (.lst (acc ++ [y]))) else Nx H3) := by
  obtain ⟨rs, e1, hz, h⟩ := endLc_post h
  have live : ∀ b o, H1 b = some o → b ≠ Dd := fun b o q e => by rw [e, hd] at q; cases q
  have hR2 : RdS K (fun b => b ≠ Dd) (upd H1 Dd (.lst [])) (L2.wipe σ vs) (wipeD env vs) := ((RdS.weak (hR.same s1) live).same (same_upd hd)).wipe _
  have hB : ∀ σ2 e H3 (Nx : Hp → Prop) acc, RdS K (fun b => b ≠ Dd) H3 σ2 e → Acc K H1 Dd acc H3 → (σ2.length = (L2.wipe σ vs).length ∧ ∀ j, j ∉ vs → σ2[j]? = (L2.wipe σ vs)[j]?) → Rest K H1 Dd H3 acc (bgE f e) Nx →
      tP K (y0 y) f σ2 H3 fun v H4 => ∃ acc, H4 Dd = some (.lst acc) ∧ acc.length < sizeLine ∧ Nx (upd H4 Dd (.lst (acc ++ [v]))) := fun σ2 e H3 Nx acc hr ha _ ⟨rs, e1, e2, e3⟩ => by
    obtain ⟨v, e4, e5⟩ := PR.bind_ok_iff e1
    obtain ⟨r, e6, e7⟩ := PR.bind_ok_iff e5
    cases e7
    cases v with
    | bor d => cases e6
    | own d =>
      cases e6
      refine ⟨e, _, hr, ?_⟩
      rw [e4]
      intro v H4 fp s4 o4
      obtain ⟨us, a1, a2, a3⟩ := ha.push hd s4 o4.1 o4.2
      exact ⟨us, a1, by rw [a2]; simp at e2; omega, e3 _ a3 fun b o n q => by rw [upd_ne n]; exact s4 _ _ q⟩
  have hE : Rest K H1 Dd (upd H1 Dd (.lst [])) [] (goL p c (bgE f) (wipeD env vs) items) fun H' => Q (.ref Dd) H' := ⟨rs, e1, by simpa using hz, fun H' ⟨sA, us, fps, a1, a2, a3, a4⟩ _ => by
    refine h (.ref Dd) H' (Dd :: fps) (s1.trans sA) ⟨.lst a1 (by simpa using a2) a3, fun b m => ?_⟩
    rcases List.mem_cons.mp m with rfl | m
    · exact s1.free hd
    · exact s1.free (a4 b m)⟩
  obtain ⟨W, w0, wS⟩ := lc_loop (tt := tPB K (y0 y) c) hj (fun _ _ _ q => q) hsl hB hR2 (acc_new hd) hE
  refine ⟨W, w0, fun i m H' hW => (wS i m H' hW).imp id fun ⟨g1, Nx, g2, g3⟩ => ⟨g1, Nx, g2, fun x H2 hy => ?_⟩⟩
  obtain ⟨env3, Z3, d3, fp3, env3', q1, q2, q3, q4, q5⟩ := g3 x H2 hy
  exact ⟨env3, Z3, d3, fp3, env3', q1, q2, q3, q4, fun σ' r1 l1 f1 => ⟨wipe_eq ((q5 σ' r1 l1 f1).1.1.trans (wipe_length _ _)) fun j hj => ((q5 σ' r1 l1 f1).1.2 j hj).trans (wipe_out hj), (q5 σ' r1 l1 f1).2⟩⟩
theorem tLc_of {K : Fg} {fi : PW'} {p : Pat} {c : PB} {f : PF} {vs : List Nat} {σ : L2.St} {H : Hp} {Q : VK} (hsl : ∀ j ∈ p.slots, j ∈ vs) (q : tP K y (pLc vs fi p c f) σ H Q) : tLc (tPI K y fi) (GPr K p) (tPB K (y0 y) c) (tP K (y0 y) f) vs σ H Q := by
  obtain ⟨env, Z, hR, h⟩ := q
  refine ⟨env, Z, hR, (PR.post_bind h).mono (fun w h J H1 s1 hw Dd hd => ?_) fun x q => q⟩
  exact lc_main hsl hR s1 (jok_of hw hd) hd h
theorem p_lc {fi : PW'} {p : Pat} {c : PB} {f : PF} (hc : X.calm = true) (hN : X.N.Nodup) (hi : PIt X y tg iter fi) (ok : BlkOk X.N X.env.scope scope own) (hsl : ∀ j ∈ p.slots, j ∈ own.map (·.2))
    (hg : ∀ (s : Shared) (H : Hp) (C : Addr) (cl : List (Str × Addr)) (fp : List Addr), GP (X.blk s H scope (compEnvC scope cl C X.env) fp) tg p)
    (ht : ∀ (s : Shared) (H : Hp) (C : Addr) (cl : List (Str × Addr)) (fp : List Addr), PTs' (X.blk s H scope (compEnvC scope cl C X.env) fp) (y0 y) ifs c)
    (he : ∀ (s : Shared) (H : Hp) (C : Addr) (cl : List (Str × Addr)) (fp : List Addr), P (X.blk s H scope (compEnvC scope cl C X.env) fp) (y0 y) elt f) (hs : ∀ x, foldedSetIterable iter X.env x = pure x := by intro _; rfl) :
    P X y (.ListComp elt [⟨tg, iter, ifs, 0⟩] scope pos) (pLc (own.map (·.2)) fi p c f) := by
  refine ⟨pe_imp (pe_lc (g := GPr X.K p) (tt := tPB X.K (y0 y) c) (te := tP X.K (y0 y) f) hc hN hi.pi ok (fun s H C cl fp => (hg s H C cl fp).pg) (fun s H C cl fp => (ht s H C cl fp).pt) (fun s H C cl fp => (he s H C cl fp).pe) hs) fun σ H Q q => tLc_of hsl q⟩
/-- two clauses -/
def bg2 (vs1 : List Nat) (fi1 : PW') (p1 : Pat) (c1 : PB) (f : PF) : List D → PR (List D) := fun e => (fi1 e).bind fun w => goL p1 c1 (bgE f) (wipeD e vs1) w.items
def pLc2 (vs vs1 : List Nat) (fi : PW') (p : Pat) (c : PB) (fi1 : PW') (p1 : Pat) (c1 : PB) (f : PF) : PF := fun env => (fi env).bind fun w => endLc (goL p c (bg2 vs1 fi1 p1 c1 f) (wipeD env vs) w.items)
theorem tLc2_of {K : Fg} {vs vs1 : List Nat} {fi fi1 : PW'} {p p1 : Pat} {c c1 : PB} {f : PF} {σ : L2.St} {H : Hp} {Q : VK} (hsl : ∀ j ∈ p.slots, j ∈ vs) (hsl1 : ∀ j ∈ p1.slots, j ∈ vs1) (q : tP K y (pLc2 vs vs1 fi p c fi1 p1 c1 f) σ H Q) :
    tLc2 (tPI K y fi) (GPr K p) (tPB K (y0 y) c) (tPI K (y0 y) fi1) (GPr K p1) (tPB K (y0 y) c1) (tP K (y0 y) f) vs vs1 σ H Q := by
  obtain ⟨env, Z, hR, h⟩ := q
  refine ⟨env, Z, hR, (PR.post_bind h).mono (fun w h J H1 s1 hw Dd hd => ?_) fun x q => q⟩
  obtain ⟨rs, e1, hz, h⟩ := endLc_post h
  have live : ∀ b o, H1 b = some o → b ≠ Dd := fun b o q e => by rw [e, hd] at q; cases q
  have hR2 : RdS K (fun b => b ≠ Dd) (upd H1 Dd (.lst [])) (L2.wipe σ vs) (wipeD env vs) := ((RdS.weak (hR.same s1) live).same (same_upd hd)).wipe _
  have hB1 : ∀ σ2 e H3 (Nx : Hp → Prop) acc, RdS K (fun b => b ≠ Dd) H3 σ2 e → Acc K H1 Dd acc H3 → Rest K H1 Dd H3 acc (bgE f e) Nx →
      tP K (y0 y) f σ2 H3 fun v H4 => ∃ acc, H4 Dd = some (.lst acc) ∧ acc.length < sizeLine ∧ Nx (upd H4 Dd (.lst (acc ++ [v]))) := fun σ2 e H3 Nx acc hr ha ⟨rs, e1, e2, e3⟩ => by
    obtain ⟨v, e4, e5⟩ := PR.bind_ok_iff e1
    obtain ⟨r, e6, e7⟩ := PR.bind_ok_iff e5
    cases e7
    cases v with
    | bor d => cases e6
    | own d =>
      cases e6
      refine ⟨e, _, hr, ?_⟩
      rw [e4]
      intro v H4 fp s4 o4
      obtain ⟨us, a1, a2, a3⟩ := ha.push hd s4 o4.1 o4.2
      exact ⟨us, a1, by rw [a2]; simp at e2; omega, e3 _ a3 fun b o n q => by rw [upd_ne n]; exact s4 _ _ q⟩
  have hB : ∀ σ2 e H3 (Nx : Hp → Prop) acc, RdS K (fun b => b ≠ Dd) H3 σ2 e → Acc K H1 Dd acc H3 → (σ2.length = (L2.wipe σ vs).length ∧ ∀ j, j ∉ vs → σ2[j]? = (L2.wipe σ vs)[j]?) → Rest K H1 Dd H3 acc (bg2 vs1 fi1 p1 c1 f e) Nx →
      tPI K (y0 y) fi1 σ2 H3 fun J1 H4 => ∃ W1 : Nat → Nat → Hp → Prop, (∃ m, W1 0 m H4) ∧ ∀ j k H, W1 j k H →
      (J1.stop j H ∧ Nx H) ∨ (J1.go j H ∧ ∃ Nx1 : Hp → Prop, (∀ H', Nx1 H' → ∃ k', k' < k ∧ W1 (j + 1) k' H') ∧ ∀ x H', J1.yld j H x H' → GPr K p1 x (L2.wipe σ2 vs1) H' fun σ3 H5 => L2.wipe σ3 vs1 = L2.wipe σ2 vs1 ∧ tPB K (y0 y) c1 σ3 H5 fun b H6 =>
        if b = true then tP K (y0 y) f σ3 H6 fun y H7 => ∃ acc, H7 Dd = some (.lst acc) ∧ acc.length < sizeLine ∧ Nx1 (upd H7 Dd (.lst (acc ++ [y]))) else Nx1 H6) := fun σ2 e H3 Nx acc hr ha _ ⟨rs, e1, e2, e3⟩ => by
    obtain ⟨w1, e4, e5⟩ := PR.bind_ok_iff e1
    refine ⟨e, _, hr, ?_⟩
    rw [e4]
    intro J1 H4 s4 hw1
    obtain ⟨vs0, a0⟩ := ha.at
    obtain ⟨W, w0, wS⟩ := lc_loop (tt := tPB K (y0 y) c1) (Qe := Nx) (acc0 := acc) (bg := bgE f) (env := wipeD e vs1) (σw := L2.wipe σ2 vs1) (vs := vs1) (Body := fun σ2 H3 Nx => tP K (y0 y) f σ2 H3 fun v H4 => ∃ acc, H4 Dd = some (.lst acc) ∧ acc.length < sizeLine ∧ Nx (upd H4 Dd (.lst (acc ++ [v])))) (jok_in hw1 a0) (fun _ _ _ q => q) hsl1 (fun σ2 e H3 Nx acc hr ha _ hx => hB1 σ2 e H3 Nx acc hr ha hx) ((hr.same s4).wipe vs1) (ha.same s4) ⟨rs, e5, e2, fun H5 a5 s5 => e3 H5 a5 ((SB.of s4).trans s5)⟩
    refine ⟨W, w0, fun i m H' hW => (wS i m H' hW).imp id fun ⟨g1, Nx, g2, g3⟩ => ⟨g1, Nx, g2, fun x H2 hy => ?_⟩⟩
    obtain ⟨env3, Z3, d3, fp3, env3', q1, q2, q3, q4, q5⟩ := g3 x H2 hy
    exact ⟨env3, Z3, d3, fp3, env3', q1, q2, q3, q4, fun σ' r1 l1 f1 => ⟨wipe_eq ((q5 σ' r1 l1 f1).1.1.trans (wipe_length _ _)) fun j hj => ((q5 σ' r1 l1 f1).1.2 j hj).trans (wipe_out hj), (q5 σ' r1 l1 f1).2⟩⟩
  have hE : Rest K H1 Dd (upd H1 Dd (.lst [])) [] (goL p c (bg2 vs1 fi1 p1 c1 f) (wipeD env vs) w.items) fun H' => Q (.ref Dd) H' := ⟨rs, e1, by simpa using hz, fun H' ⟨sA, us, fps, a1, a2, a3, a4⟩ _ => by
    refine h (.ref Dd) H' (Dd :: fps) (s1.trans sA) ⟨.lst a1 (by simpa using a2) a3, fun b m => ?_⟩
    rcases List.mem_cons.mp m with rfl | m
    · exact s1.free hd
    · exact s1.free (a4 b m)⟩
  obtain ⟨W, w0, wS⟩ := lc_loop (tt := tPB K (y0 y) c) (jok_of hw hd) (fun _ _ _ q => q) hsl hB hR2 (acc_new hd) hE
  refine ⟨W, w0, fun i m H' hW => (wS i m H' hW).imp id fun ⟨g1, Nx, g2, g3⟩ => ⟨g1, Nx, g2, fun x H2 hy => ?_⟩⟩
  obtain ⟨env3, Z3, d3, fp3, env3', q1, q2, q3, q4, q5⟩ := g3 x H2 hy
  exact ⟨env3, Z3, d3, fp3, env3', q1, q2, q3, q4, fun σ' r1 l1 f1 => ⟨wipe_eq ((q5 σ' r1 l1 f1).1.1.trans (wipe_length _ _)) fun j hj => ((q5 σ' r1 l1 f1).1.2 j hj).trans (wipe_out hj), (q5 σ' r1 l1 f1).2⟩⟩
theorem p_lc2 {tg1 iter1 : Expr} {ifs1 : List Expr} {vs1 : List Nat} {fi fi1 : PW'} {p p1 : Pat} {c c1 : PB} {f : PF} (hc : X.calm = true) (hN : X.N.Nodup) (hi : PIt X y tg iter fi) (ok : BlkOk X.N X.env.scope scope own) (hsl : ∀ j ∈ p.slots, j ∈ own.map (·.2)) (hsl1 : ∀ j ∈ p1.slots, j ∈ vs1) (hv : ∀ i ∈ vs1, i ∈ own.map (·.2))
    (hg : ∀ (s : Shared) (H : Hp) (C : Addr) (cl : List (Str × Addr)) (fp : List Addr), GP (X.blk s H scope (compEnvC scope cl C X.env) fp) tg p)
    (ht : ∀ (s : Shared) (H : Hp) (C : Addr) (cl : List (Str × Addr)) (fp : List Addr), PTs' (X.blk s H scope (compEnvC scope cl C X.env) fp) (y0 y) ifs c)
    (hi1 : ∀ (s : Shared) (H : Hp) (C : Addr) (cl : List (Str × Addr)) (fp : List Addr), PIt (X.blk s H scope (compEnvC scope cl C X.env) fp) (y0 y) tg1 iter1 fi1)
    (hg1 : ∀ (s : Shared) (H : Hp) (C : Addr) (cl : List (Str × Addr)) (fp : List Addr), GP (X.blk s H scope (compEnvC scope cl C X.env) fp) tg1 p1)
    (ht1 : ∀ (s : Shared) (H : Hp) (C : Addr) (cl : List (Str × Addr)) (fp : List Addr), PTs' (X.blk s H scope (compEnvC scope cl C X.env) fp) (y0 y) ifs1 c1)
    (he : ∀ (s : Shared) (H : Hp) (C : Addr) (cl : List (Str × Addr)) (fp : List Addr), P (X.blk s H scope (compEnvC scope cl C X.env) fp) (y0 y) elt f) (hs : ∀ x, foldedSetIterable iter X.env x = pure x := by intro _; rfl) (hs1 : ∀ env x, foldedSetIterable iter1 env x = pure x := by intro _ _; rfl) :
    P X y (.ListComp elt [⟨tg, iter, ifs, 0⟩, ⟨tg1, iter1, ifs1, 0⟩] scope pos) (pLc2 (own.map (·.2)) vs1 fi p c fi1 p1 c1 f) := by
  refine ⟨pe_imp (pe_lc2 (wi1 := tPI X.K (y0 y) fi1) (g := GPr X.K p) (tt := tPB X.K (y0 y) c) (te := tP X.K (y0 y) f) (g1 := GPr X.K p1) (tt1 := tPB X.K (y0 y) c1) hc hN hi.pi ok hv (fun s H C cl fp => (hg s H C cl fp).pg) (fun s H C cl fp => (ht s H C cl fp).pt) (fun s H C cl fp => (hi1 s H C cl fp).pi) (fun s H C cl fp => (hg1 s H C cl fp).pg)
    (fun s H C cl fp => (ht1 s H C cl fp).pt) (fun s H C cl fp => (he s H C cl fp).pe) hs hs1) fun σ H Q q => tLc2_of hsl hsl1 q⟩

/-! ### name = [..] on one line -/
variable {fz pn : List Nat} {i : Nat} {x : Str} {py spos : Pos}
theorem tI_p {K : Fg} {f : PF} {σ : L2.St} {H : Hp} {Q : VK} (q : tI K y fz (iP f) σ H Q) : tP K y f σ H Q := by
  obtain ⟨env, F, R, he, h⟩ := q
  refine ⟨env, _, he.rd, (IR.post_ofP (IR.post_bind h)).mono (fun p h v H' fp s o => ?_) fun x q => q.p⟩
  cases p with
  | bor d => exact (h : False).elim
  | own d =>
    refine h v H' F fp (Aft.same he s) o.1 (fun b m i m' => ?_) fun b m => .inr (o.2 b m)
    obtain ⟨ob, e⟩ := he.live m'
    rw [o.2 b m] at e; cases e
theorem tS_set {K : Fg} {f : IF} {Dn : Ends} {σ : L2.St} {H : Hp} (hf : free fz pn i = true) (q : tS K y fz pn (sSet i f) Dn σ H) : tAsg (tI K y fz f) (gName i) Dn σ H := by
  obtain ⟨env, F, R, he, q⟩ := q
  refine ⟨env, F, R, he, (Sat.ofI q).mono (fun d e q v H' F' fv A o n p => ?_) fun x q => q⟩
  obtain ⟨e', e1, q⟩ := Sat.opS q
  obtain ⟨hd, hlt, rfl⟩ := putD_some e1
  exact q _ _ _ (AftS.put A he hf hlt hd o n p)
theorem s_setLc {fi : PW'} {p : Pat} {c : PB} {f : PF} (hf : free fz pn i = true) (hy : X.N[i]? = some x) (hyl : X.env.scope.names.lookup x = some .local) (hsw : swapsWith (.ListComp elt [⟨tg, iter, ifs, 0⟩] scope pos) (some (.Name x py)) spos.line X.env = pure true)
    (hc : X.calm = true) (hN : X.N.Nodup) (hi : PIt X y tg iter fi) (ok : BlkOk X.N X.env.scope scope own) (hsl : ∀ j ∈ p.slots, j ∈ own.map (·.2))
    (hg : ∀ (s : Shared) (H : Hp) (C : Addr) (cl : List (Str × Addr)) (fp : List Addr), GP (X.blk s H scope (compEnvC scope cl C X.env) fp) tg p)
    (ht : ∀ (s : Shared) (H : Hp) (C : Addr) (cl : List (Str × Addr)) (fp : List Addr), PTs' (X.blk s H scope (compEnvC scope cl C X.env) fp) (y0 y) ifs c)
    (he : ∀ (s : Shared) (H : Hp) (C : Addr) (cl : List (Str × Addr)) (fp : List Addr), P (X.blk s H scope (compEnvC scope cl C X.env) fp) (y0 y) elt f) (hs : ∀ x, foldedSetIterable iter X.env x = pure x := by intro _; rfl) :
    S X y fz pn (.Assign [.Name x py] (.ListComp elt [⟨tg, iter, ifs, 0⟩] scope pos) spos) (sSet i (iP (pLc (own.map (·.2)) fi p c f))) :=
  ⟨ps_imp (ps_setLc (g := GPr X.K p) (tt := tPB X.K (y0 y) c) (te := tP X.K (y0 y) f) hc hN hy hyl hsw hi.pi ok (fun s H C cl fp => (hg s H C cl fp).pg) (fun s H C cl fp => (ht s H C cl fp).pt) (fun s H C cl fp => (he s H C cl fp).pe) hs) fun _ _ _ q => tLc_of hsl (tI_p (tS_set hf q))⟩
theorem s_setLc2 {tg1 iter1 : Expr} {ifs1 : List Expr} {vs1 : List Nat} {fi fi1 : PW'} {p p1 : Pat} {c c1 : PB} {f : PF} (hf : free fz pn i = true) (hy : X.N[i]? = some x) (hyl : X.env.scope.names.lookup x = some .local) (hsw : swapsWith (.ListComp elt [⟨tg, iter, ifs, 0⟩, ⟨tg1, iter1, ifs1, 0⟩] scope pos) (some (.Name x py)) spos.line X.env = pure true)
    (hc : X.calm = true) (hN : X.N.Nodup) (hi : PIt X y tg iter fi) (ok : BlkOk X.N X.env.scope scope own) (hsl : ∀ j ∈ p.slots, j ∈ own.map (·.2)) (hsl1 : ∀ j ∈ p1.slots, j ∈ vs1) (hv : ∀ i ∈ vs1, i ∈ own.map (·.2))
    (hg : ∀ (s : Shared) (H : Hp) (C : Addr) (cl : List (Str × Addr)) (fp : List Addr), GP (X.blk s H scope (compEnvC scope cl C X.env) fp) tg p)
    (ht : ∀ (s : Shared) (H : Hp) (C : Addr) (cl : List (Str × Addr)) (fp : List Addr), PTs' (X.blk s H scope (compEnvC scope cl C X.env) fp) (y0 y) ifs c)
    (hi1 : ∀ (s : Shared) (H : Hp) (C : Addr) (cl : List (Str × Addr)) (fp : List Addr), PIt (X.blk s H scope (compEnvC scope cl C X.env) fp) (y0 y) tg1 iter1 fi1)
    (hg1 : ∀ (s : Shared) (H : Hp) (C : Addr) (cl : List (Str × Addr)) (fp : List Addr), GP (X.blk s H scope (compEnvC scope cl C X.env) fp) tg1 p1)
    (ht1 : ∀ (s : Shared) (H : Hp) (C : Addr) (cl : List (Str × Addr)) (fp : List Addr), PTs' (X.blk s H scope (compEnvC scope cl C X.env) fp) (y0 y) ifs1 c1)
    (he : ∀ (s : Shared) (H : Hp) (C : Addr) (cl : List (Str × Addr)) (fp : List Addr), P (X.blk s H scope (compEnvC scope cl C X.env) fp) (y0 y) elt f) (hs : ∀ x, foldedSetIterable iter X.env x = pure x := by intro _; rfl) (hs1 : ∀ env x, foldedSetIterable iter1 env x = pure x := by intro _ _; rfl) :
    S X y fz pn (.Assign [.Name x py] (.ListComp elt [⟨tg, iter, ifs, 0⟩, ⟨tg1, iter1, ifs1, 0⟩] scope pos) spos) (sSet i (iP (pLc2 (own.map (·.2)) vs1 fi p c fi1 p1 c1 f))) :=
  ⟨ps_imp (ps_setLc2 (wi1 := tPI X.K (y0 y) fi1) (g := GPr X.K p) (tt := tPB X.K (y0 y) c) (te := tP X.K (y0 y) f) (g1 := GPr X.K p1) (tt1 := tPB X.K (y0 y) c1) hc hN hy hyl hsw hi.pi ok hv (fun s H C cl fp => (hg s H C cl fp).pg) (fun s H C cl fp => (ht s H C cl fp).pt) (fun s H C cl fp => (hi1 s H C cl fp).pi)
    (fun s H C cl fp => (hg1 s H C cl fp).pg) (fun s H C cl fp => (ht1 s H C cl fp).pt) (fun s H C cl fp => (he s H C cl fp).pe) hs hs1) fun _ _ _ q => tLc2_of hsl hsl1 (tI_p (tS_set hf q))⟩
end
end Ow

set_option Elab.async false
set_option linter.all false
set_option maxRecDepth 100000
set_option maxHeartbeats 1000000
/-! OwN: list comprehensions whose items may write (draws). -/
namespace Ow
open PySem PySem.Spec PyProof.Rows L2

def GIr (K : Fg) (fz pn : List Nat) (p : Pat) : TG := fun v σ H Q => ∃ env F R d fp env', EnvOk K H fz R σ env F ∧ See K H v d fp ∧ bindP p d env = some env' ∧ ∀ σ' F', AftS K fz pn R σ H F env σ' H F' env' → (∀ j, j ∉ p.slots → σ'[j]? = σ[j]?) → Q σ' H
def simpleSlots (vs : List Nat) (env : List D) : Bool := vs.all fun v => match env[v]? with
  | some (.g _) => true
  | some .hole => true
  | none => true
  | _ => false
def goI (vs : List Nat) (p : Pat) (c : IB) (f : IF) : List D → List D → IR (List D)
  | [], env => .ok [] env
  | d :: ds, env => match bindP p d env with
    | none => .bad
    | some e => (c e).bind fun b e => if b = true then (f e).bind fun r e => if simpleSlots vs e = true then (goI vs p c f ds (wipeD e vs)).bind fun rs e => .ok (r :: rs) e else .bad else if simpleSlots vs e = true then goI vs p c f ds (wipeD e vs) else .bad
def restD (env0 : List D) : List Nat → List D → List D
  | [], env => env
  | v :: vs, env => match env0[v]? with
    | some d => (restD env0 vs env).set v d
    | none => restD env0 vs env
def endI (vs : List Nat) (env0 : List D) (r : IR (List D)) : IR D := match r with
  | .ok rs e => if rs.length ≤ sizeLine then .ok (.lst rs) (restD env0 vs e) else .bad
  | _ => .bad
def iLc (vs : List Nat) (fi : PW') (p : Pat) (c : IB) (f : IF) : IF := fun env => (IR.ofP (fi env) env).bind fun w env => if w.lent = false ∧ simpleSlots vs env = true then endI vs env (goI vs p c f w.items (wipeD env vs)) else .bad
theorem endI_post {vs : List Nat} {env0 : List D} {r : IR (List D)} {ok : D → List D → Prop} {er : Ex → Prop} (h : (endI vs env0 r).post ok er) : ∃ rs e, r = .ok rs e ∧ rs.length ≤ sizeLine ∧ ok (.lst rs) (restD env0 vs e) := by
  unfold endI at h
  split at h
  · rename_i rs e
    split at h
    · rename_i hz; exact ⟨rs, e, rfl, hz, h⟩
    · exact (h : False).elim
  · exact (h : False).elim
theorem IR.bind_ok_iff {α β : Type} {r : IR α} {g : α → List D → IR β} {b : β} {e' : List D} (h : r.bind g = .ok b e') : ∃ a e, r = .ok a e ∧ g a e = .ok b e' := by
  cases r with
  | ok a e => exact ⟨a, e, rfl, h⟩
  | err x => cases h
  | bad => cases h
section
variable {K : Fg} {H H' H1 : Hp} {fz pn : List Nat} {R : Addr → Prop} {σ : L2.St} {env : List D} {F F1 : Nat → List Addr}
theorem EnvOk.wipe (e : EnvOk K H fz R σ env F) {vs : List Nat} (hs : simpleSlots vs env = true) : EnvOk K H fz R (L2.wipe σ vs) (wipeD env vs) F := by
  have gr : ∀ i ∈ vs, F i = [] := fun i hi => by
    have := List.all_eq_true.mp hs i hi
    by_cases hf : i ∈ fz
    · exact e.nil i (.inl hf)
    · cases q : env[i]? with
      | none => exact e.nil i (.inr (.inl q))
      | some d =>
        rw [q] at this
        cases d with
        | g x =>
          rcases e.own i _ q hf with z | ⟨v, _, o⟩
          · cases z
          · exact (see_g o).2
        | hole => exact e.nil i (.inr (.inr q))
        | _ => cases this
  refine ⟨by rw [wipe_length, wipeD_length]; exact e.len, fun i d hd hf => ?_, fun i d hd hf => ?_, fun i hi => ?_, e.dis, e.out⟩
  · by_cases hi : i ∈ vs
    · exact .inl (wipeD_in hi hd)
    · rw [wipeD_out hi] at hd
      rw [wipe_out hi]
      exact e.own i d hd hf
  · by_cases hi : i ∈ vs
    · exact .inl (wipeD_in hi hd)
    · rw [wipeD_out hi] at hd
      rw [wipe_out hi]
      exact e.frz i d hd hf
  · by_cases hv : i ∈ vs
    · exact gr i hv
    · rw [wipeD_out hv] at hi
      exact e.nil i hi
theorem restD_length {env0 : List D} {env : List D} : ∀ vs : List Nat, (restD env0 vs env).length = env.length
  | [] => rfl
  | v :: vs => by
    unfold restD
    split
    · rw [List.length_set, restD_length vs]
    · exact restD_length vs
theorem restD_out {env0 : List D} {env : List D} {i : Nat} : ∀ {vs : List Nat}, i ∉ vs → (restD env0 vs env)[i]? = env[i]?
  | [], _ => rfl
  | v :: vs, h => by
    have h1 : v ≠ i := fun e => h (by rw [e]; exact List.mem_cons_self)
    have h2 : i ∉ vs := fun m => h (List.mem_cons_of_mem _ m)
    unfold restD
    split
    · rw [List.getElem?_set_ne h1]; exact restD_out h2
    · exact restD_out h2
theorem restD_in {env0 : List D} {env : List D} {i : Nat} (hl : env.length = env0.length) : ∀ {vs : List Nat}, i ∈ vs → (restD env0 vs env)[i]? = env0[i]?
  | v :: vs, m => by
    unfold restD
    by_cases hv : v = i
    · subst hv
      split
      · rename_i d q
        have hlt : v < env0.length := by
          rcases Nat.lt_or_ge v env0.length with z | z
          · exact z
          · rw [List.getElem?_eq_none z] at q; cases q
        rw [List.getElem?_set_self (by rw [restD_length]; omega), q]
      · rename_i q
        rw [q, List.getElem?_eq_none]
        rw [restD_length]
        rcases Nat.lt_or_ge v env0.length with z | z
        · rw [List.getElem?_eq_getElem z] at q; cases q
        · omega
    · have := (List.mem_cons.mp m).resolve_left fun z => hv z.symm
      split
      · rw [List.getElem?_set_ne hv]; exact restD_in hl this
      · exact restD_in hl this
/-- behind the block: the outer slots stand again -/
theorem EnvOk.rest (e0 : EnvOk K H fz R σ env F) {vs : List Nat} (hs : simpleSlots vs env = true) {env2 : List D} {F2 : Nat → List Addr} (e : EnvOk K H' fz R (L2.wipe σ vs) env2 F2) (hv : ∀ i ∈ vs, ∀ d, env2[i]? = some d → d = .hole) (t : Tk H H') : EnvOk K H' fz R σ (restD env vs env2) F2 := by
  have hl : env2.length = env.length := by rw [e.len, wipe_length, e0.len]
  have n2 : ∀ i ∈ vs, F2 i = [] := fun i hi => by
    cases q : env2[i]? with
    | none => exact e.nil i (.inr (.inl q))
    | some d =>
      have := hv i hi d q
      subst this
      exact e.nil i (.inr (.inr q))
  have sl : ∀ i ∈ vs, ∀ d, env[i]? = some d → d = .hole ∨ ∃ v x, d = .g x ∧ σ[i]? = some (some v) ∧ Gp K H' v x := fun i hi d hd => by
    have := List.all_eq_true.mp hs i hi
    rw [hd] at this
    cases d with
    | g x =>
      by_cases hf : i ∈ fz
      · rcases e0.frz i _ hd hf with z | ⟨v, fp, q1, q2, _⟩
        · cases z
        · exact .inr ⟨v, x, rfl, q1, (see_g q2).1.frame t⟩
      · rcases e0.own i _ hd hf with z | ⟨v, q1, q2⟩
        · cases z
        · exact .inr ⟨v, x, rfl, q1, (see_g q2).1.frame t⟩
    | hole => exact .inl rfl
    | _ => cases this
  refine ⟨by rw [restD_length, hl]; exact e0.len, fun i d hd hf => ?_, fun i d hd hf => ?_, fun i hi => ?_, e.dis, e.out⟩
  · by_cases hi : i ∈ vs
    · rw [restD_in hl hi] at hd
      rw [n2 i hi]
      rcases sl i hi d hd with z | ⟨v, x, rfl, q1, q2⟩
      · exact .inl z
      · exact .inr ⟨v, q1, .g q2⟩
    · rw [restD_out hi] at hd
      rw [← wipe_out (σ := σ) hi]
      exact e.own i d hd hf
  · by_cases hi : i ∈ vs
    · rw [restD_in hl hi] at hd
      rcases sl i hi d hd with z | ⟨v, x, rfl, q1, q2⟩
      · exact .inl z
      · exact .inr ⟨v, [], q1, .g q2, by simp⟩
    · rw [restD_out hi] at hd
      rw [← wipe_out (σ := σ) hi]
      exact e.frz i d hd hf
  · by_cases hv' : i ∈ vs
    · exact n2 i hv'
    · rw [restD_out hv'] at hi
      exact e.nil i hi
/-- the new list, besides the slots -/
structure AccI (K : Fg) (H1 : Hp) (F1 : Nat → List Addr) (Dd : Addr) (acc : List D) (H : Hp) (F : Nat → List Addr) : Prop where
  it : ∃ vs fps, H Dd = some (.lst vs) ∧ OwnAll K H vs acc fps ∧ Dd ∉ fps ∧ (∀ b ∈ fps, (∃ j, b ∈ F1 j) ∨ H1 b = none) ∧ ∀ b ∈ fps, ∀ i, b ∉ F i
  out : ∀ i, Dd ∉ F i
theorem AccI.stp {F' : Nat → List Addr} {Dd : Addr} {acc : List D} (h : AccI K H1 F1 Dd acc H F) (s : Stp H F H' F') : AccI K H1 F1 Dd acc H' F' := by
  obtain ⟨⟨vs, fps, e1, e2, e3, e4, e5⟩, e6⟩ := h
  refine ⟨⟨vs, fps, s.keep _ _ e1 e6, e2.stp s e5, e3, e4, fun b m => ?_⟩, s.out e1 e6⟩
  obtain ⟨o, q⟩ := e2.live m
  exact s.out q (e5 b m)
theorem AccI.push {H3 : Hp} {F4 : Nat → List Addr} {Dd : Addr} {acc : List D} {v : V} {r : D} {fp : List Addr} (h : AccI K H1 F1 Dd acc H3 F4) (s3 : Stp H3 F4 H F) (e : EnvOk K H fz R σ env F) (hd : H1 Dd = none) (hR : ¬ R Dd) (o : Own K H v r fp) (n : ∀ b ∈ fp, ∀ i, b ∉ F i) (p : ∀ b ∈ fp, (∃ j, b ∈ F1 j) ∨ H1 b = none)
    (pv : ∀ b ∈ fp, (∃ j, b ∈ F4 j) ∨ H3 b = none) (s : Stp H1 F1 H F) : ∃ vs, H Dd = some (.lst vs) ∧ vs.length = acc.length ∧ AccI K H1 F1 Dd (acc ++ [r]) (upd H Dd (.lst (vs ++ [v]))) F ∧ EnvOk K (upd H Dd (.lst (vs ++ [v]))) fz R σ env F ∧ Stp H1 F1 (upd H Dd (.lst (vs ++ [v]))) F := by
  obtain ⟨⟨vs, fps, e1, e2, e3, e4, e5⟩, e6⟩ := h
  have nf : ∀ b ∈ fps, b ∉ fp := fun b m m' => by
    rcases pv b m' with ⟨j, q⟩ | q
    · exact e5 b m j q
    · obtain ⟨o, z⟩ := e2.live m
      rw [q] at z; cases z
  have nD : Dd ∉ fp := fun m => by
    rcases pv _ m with ⟨j, q⟩ | q
    · exact e6 j q
    · rw [q] at e1; cases e1
  have e5' : ∀ b ∈ fps, ∀ i, b ∉ F i := fun b m => by
    obtain ⟨o, q⟩ := e2.live m
    exact s3.out q (e5 b m)
  replace e2 := e2.stp s3 e5
  have e6' := s3.out e1 e6
  replace e1 := s3.keep _ _ e1 e6
  clear e5 e6
  have e5 := e5'
  have e6 := e6'
  have tk : Tk H (upd H Dd (.lst (vs ++ [v]))) := fun b ob q i => by
    have : b ≠ Dd := fun z => by rw [z, e1] at q; cases q; cases i
    rw [upd_ne this]; exact q
  refine ⟨vs, e1, e2.length, ⟨⟨vs ++ [v], fps ++ fp, upd_same, ?_, ?_, ?_, ?_⟩, e6⟩, e.keep (fun b ob q m => ?_) tk, ⟨fun b ob q nn => ?_, fun b ob q => ?_, s.imm.trans tk, s.new⟩⟩
  · have o1 : OwnAll K (upd H Dd (.lst (vs ++ [v]))) vs acc fps := RelAll.frame tk acc vs fps (fun b m ob q => by rw [upd_ne (fun z => e3 (by rw [← z]; exact m))]; exact q) e2
    have o2 : Own K (upd H Dd (.lst (vs ++ [v]))) v r fp := Rel.frame tk r v fp (fun b m ob q => by rw [upd_ne (fun z => nD (by rw [← z]; exact m))]; exact q) o
    have o3 := RelAll.cons o2 RelAll.nil (by simp)
    rw [List.append_nil] at o3
    exact RelAll.app o1 o3 nf
  · intro m
    rcases List.mem_append.mp m with m | m
    · exact e3 m
    · exact nD m
  · intro b m
    rcases List.mem_append.mp m with m | m
    · exact e4 b m
    · exact p b m
  · intro b m
    rcases List.mem_append.mp m with m | m
    · exact e5 b m
    · exact n b m
  · have : b ≠ Dd := fun z => by
      subst z
      rcases m with ⟨j, m⟩ | m
      · exact e6 j m
      · exact hR m
    rw [upd_ne this]; exact q
  · rw [upd_ne (ne_of_none q hd)]; exact s.keep b ob q nn
  · rw [upd_ne (ne_of_none q hd)]; exact s.live b ob q
/-- what holds ahead of each turn -/
structure TurnI (K : Fg) (fz : List Nat) (R : Addr → Prop) (σw : L2.St) (H1 : Hp) (F1 : Nat → List Addr) (env0 : List D) (vs : List Nat) (Dd : Addr) (acc : List D) (e : List D) (H : Hp) (F : Nat → List Addr) : Prop where
  ok : EnvOk K H fz R σw e F
  stp : Stp H1 F1 H F
  hol : ∀ i ∈ vs, ∀ d, e[i]? = some d → d = .hole
  fix : ∀ i ∈ fz, i ∉ vs → e[i]? = env0[i]?
  acc : AccI K H1 F1 Dd acc H F
def RestI (K : Fg) (fz : List Nat) (R : Addr → Prop) (σw : L2.St) (H1 : Hp) (F1 : Nat → List Addr) (env0 : List D) (vs : List Nat) (Dd : Addr) (acc : List D) (r : IR (List D)) (Qe : Hp → Prop) : Prop :=
  ∃ rs e, r = .ok rs e ∧ acc.length + rs.length ≤ sizeLine ∧ ∀ H' F', TurnI K fz R σw H1 F1 env0 vs Dd (acc ++ rs) e H' F' → Qe H'
theorem lcI_loop {y0 : Wi} {items : List D} {J : It} {p : Pat} {c : IB} {f : IF} {vs : List Nat} {Dd : Addr} {env0 e1 : List D} {Qe : Hp → Prop} {Hs : Hp}
    (hJ : ∀ H2 F2, Stp H1 F1 H2 F2 → ∀ i, (∀ d, items[i]? = some d → J.go i H2 ∧ ∀ x H3, J.yld i H2 x H3 → Same H2 H3 ∧ ∃ fp, See K H3 x d fp) ∧ (items.length ≤ i → J.stop i H2)) (hsl : ∀ j ∈ p.slots, j ∈ vs)
    (hd : H1 Dd = none) (hR : ¬ R Dd) (h0 : TurnI K fz R (L2.wipe σ vs) H1 F1 env0 vs Dd [] e1 Hs F1) (h : RestI K fz R (L2.wipe σ vs) H1 F1 env0 vs Dd [] (goI vs p c f items e1) Qe) :
    ∃ W : Nat → Nat → Hp → Prop, (∃ m, W 0 m Hs) ∧ ∀ i m H, W i m H →
      (J.stop i H ∧ Qe H) ∨ (J.go i H ∧ ∃ Nx : Hp → Prop, (∀ H', Nx H' → ∃ m', m' < m ∧ W (i + 1) m' H') ∧ ∀ x H', J.yld i H x H' → GIr K fz pn p x (L2.wipe σ vs) H' fun σ2 H2 => L2.wipe σ2 vs = L2.wipe σ vs ∧ tIB K y0 fz c σ2 H2 fun b H3 =>
        if b = true then tI K y0 fz f σ2 H3 fun y H4 => ∃ acc, H4 Dd = some (.lst acc) ∧ acc.length < sizeLine ∧ Nx (upd H4 Dd (.lst (acc ++ [y]))) else Nx H3) := by
  refine ⟨fun i m H => m = items.length - i ∧ i ≤ items.length ∧ ∃ e F2 acc, TurnI K fz R (L2.wipe σ vs) H1 F1 env0 vs Dd acc e H F2 ∧ RestI K fz R (L2.wipe σ vs) H1 F1 env0 vs Dd acc (goI vs p c f (items.drop i) e) Qe, ⟨_, rfl, Nat.zero_le _, e1, F1, [], h0, by simpa using h⟩, ?_⟩
  rintro i m H ⟨rfl, hi, e, F2, acc, T, rs, ee, hr, hz, hq⟩
  have hJ2 := hJ H F2 T.stp i
  by_cases hlt : i < items.length
  · obtain ⟨hgo, hy⟩ := hJ2.1 items[i] (by simp [hlt])
    rw [List.drop_eq_getElem_cons hlt] at hr
    unfold goI at hr
    refine .inr ⟨hgo, fun H' => ∃ m', m' < items.length - i ∧ m' = items.length - (i + 1) ∧ i + 1 ≤ items.length ∧ ∃ e F2 acc, TurnI K fz R (L2.wipe σ vs) H1 F1 env0 vs Dd acc e H' F2 ∧ RestI K fz R (L2.wipe σ vs) H1 F1 env0 vs Dd acc (goI vs p c f (items.drop (i + 1)) e) Qe, fun H' q => q, fun x H' hyy => ?_⟩
    obtain ⟨s1, fp, hx⟩ := hy x H' hyy
    cases eb : bindP p items[i] e with
    | none => rw [eb] at hr; cases hr
    | some e2 =>
      rw [eb] at hr
      refine ⟨e, F2, R, items[i], fp, e2, T.ok.same s1, hx, eb, fun σ2 F3 A3 ag => ?_⟩
      have wq : L2.wipe σ2 vs = L2.wipe σ vs := wipe_eq (A3.len.trans (wipe_length _ _)) fun j hj => (ag j fun m => hj (hsl j m)).trans (wipe_out hj)
      refine ⟨wq, e2, F3, R, A3.ok, ?_⟩
      obtain ⟨b, e3, ec, hr⟩ := IR.bind_ok_iff hr
      rw [ec]
      intro H3 F4 A4
      have S0 : Stp H F2 H3 F4 := ((Stp.same (F := F2) s1).trans A3.stp).trans A4.stp
      have fix4 : ∀ i ∈ fz, i ∉ vs → e3[i]? = env0[i]? := fun i h1 h2 => (A4.fix i h1).trans ((A3.fix i h1).trans (T.fix i h1 h2))
      -- the turn's end
      have fin : ∀ {e4 : List D} {H5 : Hp} {F5 : Nat → List Addr} {acc' : List D}, EnvOk K H5 fz R σ2 e4 F5 → Stp H1 F1 H5 F5 → (∀ i ∈ fz, i ∉ vs → e4[i]? = env0[i]?) → AccI K H1 F1 Dd acc' H5 F5 → simpleSlots vs e4 = true → TurnI K fz R (L2.wipe σ vs) H1 F1 env0 vs Dd acc' (wipeD e4 vs) H5 F5 := fun {e4 H5 F5 acc'} o s fx a ss =>
        ⟨by rw [← wq]; exact o.wipe ss, s, fun i hi d hd => wipeD_in hi hd, fun i h1 h2 => by rw [wipeD_out h2]; exact fx i h1 h2, a⟩
      cases b with
      | false =>
        rw [if_neg (by decide)] at hr ⊢
        split at hr
        · rename_i ss
          exact ⟨_, by omega, rfl, hlt, _, F4, acc, fin A4.ok (T.stp.trans S0) fix4 (T.acc.stp S0) ss, rs, ee, hr, hz, hq⟩
        · cases hr
      | true =>
        rw [if_pos rfl] at hr ⊢
        obtain ⟨r, e4, ef, hr⟩ := IR.bind_ok_iff hr
        refine ⟨e3, F4, R, A4.ok, ?_⟩
        rw [ef]
        intro v H5 F5 fv A5 o n pv
        split at hr
        · rename_i ss
          obtain ⟨qs, e5, eg, hr⟩ := IR.bind_ok_iff hr
          cases hr
          rw [List.length_cons] at hz
          have S1 := S0.trans A5.stp
          have S2 := T.stp.trans S1
          have live : ∀ b, H3 b = none → H b = none := fun b q => S0.free q
          obtain ⟨vs', a1, a2, a3, a4, a5⟩ := (T.acc.stp S0).push A5.stp A5.ok hd hR o n (fun b m => T.stp.nu (S0.nu (pv b m))) pv S2
          exact ⟨vs', a1, by rw [a2]; omega, _, by omega, rfl, hlt, _, F5, _, fin a4 a5 (fun i h1 h2 => (A5.fix i h1).trans (fix4 i h1 h2)) a3 ss, qs, _, eg, by rw [List.length_append]; simp; omega, fun H' F' T' => hq H' F' (by rw [List.append_assoc] at T'; exact T')⟩
        · cases hr
  · have e : i = items.length := by omega
    subst e
    rw [List.drop_length] at hr
    cases hr
    exact .inl ⟨hJ2.2 (Nat.le_refl _), hq H F2 (by simpa using T)⟩

/-! ### the rule -/
theorem TurnI.new {env : List D} {vs : List Nat} {Dd : Addr} (e : EnvOk K H1 fz R σ env F1) (hs : simpleSlots vs env = true) (hd : H1 Dd = none) : TurnI K fz R (L2.wipe σ vs) H1 F1 env vs Dd [] (wipeD env vs) (upd H1 Dd (.lst [])) F1 :=
  ⟨(e.wipe hs).same (same_upd hd), Stp.same (same_upd hd), fun i hi d h => wipeD_in hi h, fun i _ h => wipeD_out h, ⟨⟨[], [], upd_same, .nil, by simp, by simp, by simp⟩, fresh_out e hd⟩⟩
theorem tLcI_of {y : Wi} {fi : PW'} {p : Pat} {c : IB} {f : IF} {vs : List Nat} {Q : VK} (hsl : ∀ j ∈ p.slots, j ∈ vs) (q : tI K y fz (iLc vs fi p c f) σ H Q) : tLc (tPI K y fi) (GIr K fz pn p) (tIB K (y0 y) fz c) (tI K (y0 y) fz f) vs σ H Q := by
  obtain ⟨env, F, R, he, h⟩ := q
  refine ⟨env, _, he.rd, (IR.post_ofP (IR.post_bind h)).mono (fun w h J H1 s1 hw Dd hd => ?_) fun x q => q.p⟩
  split at h
  · rename_i hc
    obtain ⟨hl, hs⟩ := hc
    obtain ⟨rs, e, eg, hz, h⟩ := endI_post h
    obtain ⟨zp, z1, z2, z3, z4⟩ := hw
    have he1 := he.same s1
    have hRD : ¬ R Dd := fun r => by
      obtain ⟨⟨o, q⟩, _⟩ := he1.out Dd r
      rw [hd] at q; cases q
    obtain ⟨W, w0, wS⟩ := lcI_loop (y0 := y0 y) (pn := pn) (fz := fz) (R := R) (F1 := F) (H1 := H1) (σ := σ) (p := p) (c := c) (f := f) (vs := vs) (J := J) (Qe := fun H' => Q (.ref Dd) H') (items := w.items) (env0 := env)
      (fun H2 F2 s i => by
        obtain ⟨a1, a2⟩ := z4 H2 s.imm (fun b m o q => s.keep b o q (fresh_out he (z1 hl b m))) i
        refine ⟨fun d hd => ⟨(a1 d hd).1, fun x H3 hy => ?_⟩, a2⟩
        obtain ⟨q1, fp, q2, _⟩ := (a1 d hd).2 x H3 hy
        exact ⟨q1, fp, q2⟩) hsl hd hRD (TurnI.new he1 hs hd) ⟨rs, e, eg, by simpa using hz, fun H' F' T => by
        obtain ⟨⟨us, fps, a1, a2, a3, a4, a5⟩, a6⟩ := T.acc
        refine h (.ref Dd) H' F' (Dd :: fps) ⟨(Stp.same (F := F) s1).trans T.stp, he1.rest hs T.ok T.hol T.stp.imm, fun i hi => ?_⟩ (.lst a1 (by simpa using a2) a3) (fun b m => ?_) fun b m => ?_
        · by_cases hv : i ∈ vs
          · rw [restD_in _ hv]
            rw [T.ok.len, wipe_length, he.len]
          · rw [restD_out hv]; exact T.fix i hi hv
        · rcases List.mem_cons.mp m with rfl | m
          · exact a6
          · exact a5 b m
        · rcases List.mem_cons.mp m with rfl | m
          · exact .inr (s1.free hd)
          · exact (a4 b m).imp id s1.free⟩
    exact ⟨W, w0, wS⟩
  · exact (h : False).elim
structure ITs (X : Cx) (y : Wi) (fz : List Nat) (ifs : List Expr) (f : IB) : Prop where
  pt : PTs X ifs (tIB X.K y fz f)
end
section
variable {X : Cx} {y : Wi} {fz pn : List Nat} {c e tg iter elt : Expr} {ifs : List Expr} {scope : Scope} {own : List (Str × Nat)} {pos : Pos} {i : Nat} {x : Str} {py spos : Pos}
def iYes : IB := fun env => .ok true env
theorem its_nil : ITs X y fz [] iYes := ⟨⟨fun pins s σ H Q I ⟨env, F, R, he, q⟩ => pts_nil.run pins s σ H Q I (q H F (Aft.same he (Same.refl H)))⟩⟩
theorem its_one {f : IB} (h : ITst X y fz c f) : ITs X y fz [c] f := ⟨pts_one h.pt⟩
theorem i_lc {fi : PW'} {p : Pat} {c : IB} {f : IF} (hc : X.calm = true) (hN : X.N.Nodup) (hi : PIt X y tg iter fi) (ok : BlkOk X.N X.env.scope scope own) (hsl : ∀ j ∈ p.slots, j ∈ own.map (·.2))
    (hg : ∀ (s : Shared) (H : Hp) (C : Addr) (cl : List (Str × Addr)) (fp : List Addr), G (X.blk s H scope (compEnvC scope cl C X.env) fp) (y0 y) fz pn tg p)
    (ht : ∀ (s : Shared) (H : Hp) (C : Addr) (cl : List (Str × Addr)) (fp : List Addr), ITs (X.blk s H scope (compEnvC scope cl C X.env) fp) (y0 y) fz ifs c)
    (he : ∀ (s : Shared) (H : Hp) (C : Addr) (cl : List (Str × Addr)) (fp : List Addr), I (X.blk s H scope (compEnvC scope cl C X.env) fp) (y0 y) fz elt f) (hs : ∀ x, foldedSetIterable iter X.env x = pure x := by intro _; rfl) :
    I X y fz (.ListComp elt [⟨tg, iter, ifs, 0⟩] scope pos) (iLc (own.map (·.2)) fi p c f) :=
  ⟨pe_imp (pe_lc (g := GIr X.K fz pn p) (tt := tIB X.K (y0 y) fz c) (te := tI X.K (y0 y) fz f) hc hN hi.pi ok (fun s H C cl fp => (hg s H C cl fp).pg) (fun s H C cl fp => (ht s H C cl fp).pt) (fun s H C cl fp => (he s H C cl fp).pe) hs) fun _ _ _ q => tLcI_of hsl q⟩
theorem s_setLcI {fi : PW'} {p : Pat} {c : IB} {f : IF} (hf : free fz pn i = true) (hy : X.N[i]? = some x) (hyl : X.env.scope.names.lookup x = some .local) (hsw : swapsWith (.ListComp elt [⟨tg, iter, ifs, 0⟩] scope pos) (some (.Name x py)) spos.line X.env = pure true)
    (hc : X.calm = true) (hN : X.N.Nodup) (hi : PIt X y tg iter fi) (ok : BlkOk X.N X.env.scope scope own) (hsl : ∀ j ∈ p.slots, j ∈ own.map (·.2))
    (hg : ∀ (s : Shared) (H : Hp) (C : Addr) (cl : List (Str × Addr)) (fp : List Addr), G (X.blk s H scope (compEnvC scope cl C X.env) fp) (y0 y) fz pn tg p)
    (ht : ∀ (s : Shared) (H : Hp) (C : Addr) (cl : List (Str × Addr)) (fp : List Addr), ITs (X.blk s H scope (compEnvC scope cl C X.env) fp) (y0 y) fz ifs c)
    (he : ∀ (s : Shared) (H : Hp) (C : Addr) (cl : List (Str × Addr)) (fp : List Addr), I (X.blk s H scope (compEnvC scope cl C X.env) fp) (y0 y) fz elt f) (hs : ∀ x, foldedSetIterable iter X.env x = pure x := by intro _; rfl) :
    S X y fz pn (.Assign [.Name x py] (.ListComp elt [⟨tg, iter, ifs, 0⟩] scope pos) spos) (sSet i (iLc (own.map (·.2)) fi p c f)) :=
  ⟨ps_imp (ps_setLc (g := GIr X.K fz pn p) (tt := tIB X.K (y0 y) fz c) (te := tI X.K (y0 y) fz f) hc hN hy hyl hsw hi.pi ok (fun s H C cl fp => (hg s H C cl fp).pg) (fun s H C cl fp => (ht s H C cl fp).pt) (fun s H C cl fp => (he s H C cl fp).pe) hs) fun _ _ _ q => tLcI_of hsl (tS_set hf q)⟩
end
end Ow

set_option Elab.async false
set_option linter.all false
set_option maxRecDepth 100000
set_option maxHeartbeats 1000000
/-! OwO: lists that are written: places within a slot's tree. -/
namespace Ow
open PySem PySem.Spec PyProof.Rows L2

def sub : List Nat → D → Option D
  | [], d => some d
  | i :: p, .lst ds => match ds[i]? with
    | some d => sub p d
    | none => none
  | _ :: _, _ => none
def putAt : List Nat → D → D → D
  | [], d', _ => d'
  | i :: p, d', .lst ds => match ds[i]? with
    | some d => .lst (ds.set i (putAt p d' d))
    | none => .lst ds
  | _ :: _, _, d => d
inductive AtP (H : Hp) : V → List Nat → V → Prop
  | nil {v : V} : AtP H v [] v
  | cons {a : Addr} {vs : List V} {i : Nat} {w v : V} {p : List Nat} : H a = some (.lst vs) → vs[i]? = some w → AtP H w p v → AtP H (.ref a) (i :: p) v
theorem AtP.same {H H' : Hp} (s : Same H H') {v0 v : V} {p : List Nat} (h : AtP H v0 p v) : AtP H' v0 p v := by
  induction h with
  | nil => exact .nil
  | cons h1 h2 _ ih => exact .cons (s _ _ h1) h2 ih
theorem AtP.snoc {H : Hp} {v0 : V} {p : List Nat} {a : Addr} {vs : List V} {i : Nat} {w : V} (h : AtP H v0 p (.ref a)) (ha : H a = some (.lst vs)) (hw : vs[i]? = some w) : AtP H v0 (p ++ [i]) w := by
  generalize hv : V.ref a = v at h
  induction h with
  | nil => subst hv; exact .cons ha hw .nil
  | cons h1 h2 _ ih => exact .cons h1 h2 (ih hv)
section
variable {K : Fg} {H H' : Hp} {C C' : Addr → HO → Prop}
theorem See.sub {v0 : V} {p : List Nat} {v : V} (h : AtP H v0 p v) : ∀ {d0 d : D} {fp : List Addr}, See K H v0 d0 fp → Ow.sub p d0 = some d → ∃ fp', See K H v d fp' := by
  induction h with
  | nil =>
    intro d0 d fp hs e
    simp only [Ow.sub] at e
    cases e; exact ⟨fp, hs⟩
  | cons h1 h2 _ ih =>
    intro d0 d fp hs e
    cases d0 with
    | lst ds =>
      obtain ⟨a', vs', fp', e1, e2, e3, e4⟩ := see_lst hs
      cases e1
      rw [h1] at e2; cases e2
      simp only [Ow.sub] at e
      split at e
      · rename_i d1 q
        obtain ⟨w, f, q1, q2, _⟩ := e3.get q
        rw [h2] at q1; cases q1
        exact ih q2 e
      · cases e
    | _ => simp [Ow.sub] at e
theorem RelAll.zip : ∀ {ds : List D} {vs : List V} {fp : List Addr} {i : Nat} {d : D}, RelAll K H C vs ds fp → ds[i]? = some d → ∃ v f, vs[i]? = some v ∧ Rel K H C v d f ∧ (∀ b ∈ f, b ∈ fp) ∧
    ∀ {H' : Hp} {C' : Addr → HO → Prop} {d' : D} {f' : List Addr}, Rel K H' C' v d' f' → (∀ b ∈ fp, b ∉ f → ∀ o, C b o → C' b o) → Tk H H' → (∀ b ∈ f', b ∈ fp → b ∈ f) → ∃ fp', RelAll K H' C' vs (ds.set i d') fp' ∧ ∀ b ∈ fp', (b ∈ fp ∧ b ∉ f) ∨ b ∈ f'
  | [], _, _, _, _, h, e => by simp at e
  | d0 :: ds, _, _, 0, d, h, e => by
    cases h with
    | @cons v vs _ _ f1 f2 h1 h2 h3 =>
      simp at e; subst e
      refine ⟨v, f1, rfl, h1, fun b m => List.mem_append_left _ m, fun {H' C' d' f'} r k t n => ?_⟩
      have r2 : RelAll K H' C' vs ds f2 := RelAll.frame t ds vs f2 (fun b m o q => k b (List.mem_append_right _ m) (fun m' => h3 b m' m) o q) h2
      refine ⟨f' ++ f2, .cons r r2 fun b m m' => h3 b (n b m (List.mem_append_right _ m')) m', fun b m => ?_⟩
      rcases List.mem_append.mp m with m | m
      · exact .inr m
      · exact .inl ⟨List.mem_append_right _ m, fun m' => h3 b m' m⟩
  | d0 :: ds, _, _, i + 1, d, h, e => by
    cases h with
    | @cons v vs _ _ f1 f2 h1 h2 h3 =>
      obtain ⟨w, f, e1, e2, e3, e4⟩ := RelAll.zip (i := i) h2 (by simpa using e)
      refine ⟨w, f, by simpa using e1, e2, fun b m => List.mem_append_right _ (e3 b m), fun {H' C' d' f'} r k t n => ?_⟩
      obtain ⟨fp', q1, q2⟩ := e4 r (fun b m => k b (List.mem_append_right _ m)) t fun b m m' => n b m (List.mem_append_right _ m')
      have r1 : Rel K H' C' v d0 f1 := Rel.frame t d0 v f1 (fun b m o q => k b (List.mem_append_left _ m) (fun m' => h3 b m (e3 b m')) o q) h1
      refine ⟨f1 ++ fp', .cons r1 q1 fun b m m' => ?_, fun b m => ?_⟩
      · rcases q2 b m' with q | q
        · exact h3 b m q.1
        · exact h3 b m (e3 b (n b q (List.mem_append_left _ m)))
      · rcases List.mem_append.mp m with m | m
        · exact .inl ⟨List.mem_append_left _ m, fun m' => h3 b m (e3 b m')⟩
        · rcases q2 b m with q | q
          · exact .inl ⟨List.mem_append_right _ q.1, q.2⟩
          · exact .inr q
/-- a place within an owned tree, and what it is replaced by -/
theorem own_zip {v0 : V} {p : List Nat} {v : V} (h : AtP H v0 p v) : ∀ {d0 d : D} {F0 : List Addr}, Own K H v0 d0 F0 → Ow.sub p d0 = some d → ∃ fp, Own K H v d fp ∧ (∀ b ∈ fp, b ∈ F0) ∧
    ∀ {H' : Hp} {d' : D} {fp' : List Addr}, Own K H' v d' fp' → (∀ b o, b ∈ F0 → b ∉ fp → H b = some o → H' b = some o) → Tk H H' → (∀ b ∈ fp', b ∈ F0 → b ∈ fp) → ∃ F0', Own K H' v0 (putAt p d' d0) F0' ∧ ∀ b ∈ F0', (b ∈ F0 ∧ b ∉ fp) ∨ b ∈ fp' := by
  induction h with
  | nil =>
    intro d0 d F0 ho e
    simp only [Ow.sub] at e
    cases e
    exact ⟨F0, ho, fun _ m => m, fun {H' d' fp'} o _ _ _ => ⟨fp', o, fun b m => .inr m⟩⟩
  | @cons aa us ii ww vv pp h1 h2 _ ih =>
    intro d0 d F0 ho e
    cases d0 with
    | lst ds =>
      cases ho with
      | @lst _ vs _ fl q1 q2 q3 =>
        rw [h1] at q1; cases q1
        simp only [Ow.sub] at e
        split at e
        · rename_i d1 qd
          obtain ⟨w, f, z1, z2, z3, z4⟩ := q2.zip qd
          rw [h2] at z1; cases z1
          obtain ⟨fp, w1, w2, w3⟩ := ih z2 e
          have na : ∀ b ∈ fp, b ≠ aa := fun b m e => q3 (by rw [← e]; exact z3 b (w2 b m))
          refine ⟨fp, w1, fun b m => List.mem_cons_of_mem _ (z3 b (w2 b m)), fun {H' d' fp'} o k t n => ?_⟩
          obtain ⟨F1, u1, u2⟩ := w3 o (fun b o m => k b o (List.mem_cons_of_mem _ (z3 b m))) t fun b m m' => n b m (List.mem_cons_of_mem _ (z3 b m'))
          obtain ⟨fp2, y1, y2⟩ := z4 u1 (fun b m m' o q => k b o (List.mem_cons_of_mem _ m) (fun m2 => m' (w2 b m2)) q) t fun b m m' => by
            rcases u2 b m with q | q
            · exact q.1
            · exact w2 b (n b q (List.mem_cons_of_mem _ m'))
          have ka : H' aa = some (.lst us) := k aa _ List.mem_cons_self (fun m => na aa m rfl) h1
          have nf2 : aa ∉ fp2 := fun m => by
            rcases y2 aa m with q | q
            · exact q3 q.1
            · rcases u2 aa q with q | q
              · exact q3 (z3 aa q.1)
              · exact na aa (n aa q List.mem_cons_self) rfl
          have ep : putAt (ii :: pp) d' (.lst ds) = D.lst (ds.set ii (putAt pp d' d1)) := by
            simp only [putAt, qd]
          rw [ep]
          refine ⟨aa :: fp2, .lst ka y1 nf2, fun b m => ?_⟩
          rcases List.mem_cons.mp m with rfl | m
          · exact .inl ⟨List.mem_cons_self, fun m => na _ m rfl⟩
          · rcases y2 b m with q | q
            · exact .inl ⟨List.mem_cons_of_mem _ q.1, fun m2 => q.2 (w2 b m2)⟩
            · rcases u2 b q with q | q
              · exact .inl ⟨List.mem_cons_of_mem _ (z3 b q.1), q.2⟩
              · exact .inr q
        · cases e
    | _ => simp [Ow.sub] at e
theorem RelAll.setAt : ∀ {ds : List D} {vs : List V} {fp : List Addr} {j : Nat} {v : V} {r : D} {f : List Addr}, RelAll K H C vs ds fp → Rel K H C v r f → (∀ b ∈ f, b ∉ fp) → ∃ fp', RelAll K H C (vs.set j v) (ds.set j r) fp' ∧ ∀ b ∈ fp', b ∈ fp ∨ b ∈ f
  | [], _, fp, j, v, r, f, h, _, _ => by cases h; exact ⟨[], by simpa using RelAll.nil, by simp⟩
  | d :: ds, _, _, 0, v, r, f, h, hr, n => by
    cases h with
    | @cons _ vs _ _ f1 f2 h1 h2 h3 =>
      refine ⟨f ++ f2, .cons hr h2 fun b m m' => n b m (List.mem_append_right _ m'), fun b m => ?_⟩
      rcases List.mem_append.mp m with m | m
      · exact .inr m
      · exact .inl (List.mem_append_right _ m)
  | d :: ds, _, _, j + 1, v, r, f, h, hr, n => by
    cases h with
    | @cons w vs _ _ f1 f2 h1 h2 h3 =>
      obtain ⟨fp', q1, q2⟩ := RelAll.setAt (j := j) h2 hr fun b m m' => n b m (List.mem_append_right _ m')
      refine ⟨f1 ++ fp', .cons h1 q1 fun b m m' => ?_, fun b m => ?_⟩
      · rcases q2 b m' with q | q
        · exact h3 b m q
        · exact n b q (List.mem_append_left _ m)
      · rcases List.mem_append.mp m with m | m
        · exact .inl (List.mem_append_left _ m)
        · exact (q2 b m).imp (fun m => List.mem_append_right _ m) id
theorem RelAll.eraseAt : ∀ {ds : List D} {vs : List V} {fp : List Addr} {i : Nat} {d : D}, RelAll K H C vs ds fp → ds[i]? = some d → ∃ v f fp', vs[i]? = some v ∧ Rel K H C v d f ∧ RelAll K H C (vs.eraseIdx i) (ds.eraseIdx i) fp' ∧ (∀ b ∈ f, b ∉ fp') ∧ (∀ b ∈ f, b ∈ fp) ∧ ∀ b ∈ fp', b ∈ fp
  | [], _, _, _, _, h, e => by simp at e
  | d0 :: ds, _, _, 0, d, h, e => by
    cases h with
    | @cons v vs _ _ f1 f2 h1 h2 h3 =>
      simp at e; subst e
      exact ⟨v, f1, f2, rfl, h1, by simpa using h2, h3, fun b m => List.mem_append_left _ m, fun b m => List.mem_append_right _ m⟩
  | d0 :: ds, _, _, i + 1, d, h, e => by
    cases h with
    | @cons v vs _ _ f1 f2 h1 h2 h3 =>
      obtain ⟨w, f, fp', e1, e2, e3, e4, e5, e6⟩ := RelAll.eraseAt (i := i) h2 (by simpa using e)
      refine ⟨w, f, f1 ++ fp', by simpa using e1, e2, .cons h1 e3 fun b m m' => h3 b m (e6 b m'), fun b m m' => ?_, fun b m => List.mem_append_right _ (e5 b m), fun b m => ?_⟩
      · rcases List.mem_append.mp m' with m' | m'
        · exact h3 b m' (e5 b m)
        · exact e4 b m m'
      · rcases List.mem_append.mp m with m | m
        · exact List.mem_append_left _ m
        · exact List.mem_append_right _ (e6 b m)
end
/-! ### places as expressions -/
abbrev PPf := List D → PR (List Nat)
def tPth (K : Fg) (y : Wi) (r : Nat) (f : PPf) : TE := fun σ H Q => ∃ env Z, RdEnv K Z H σ env ∧ (f env).post (fun p => ∀ v H', Same H H' → (∀ v0, σ[r]? = some (some v0) → AtP H' v0 p v) → Q v H') (EP' K y σ H)
structure PPth (X : Cx) (y : Wi) (r : Nat) (e : Expr) (f : PPf) : Prop where
  pe : PE X e (tPth X.K y r f)
section
variable {X : Cx} {y : Wi} {fz pn : List Nat} {a b c e o : Expr} {es : List Expr} {pos apos cpos : Pos} {r : Nat} {x : Str}
def rootP (r : Nat) : PPf := fun env => match env[r]? with
  | some (.lst _) => .ok []
  | _ => .bad
theorem pth_root (h : PE X (.Name x pos) (tVar r)) : PPth X y r (.Name x pos) (rootP r) := by
  refine ⟨pe_imp h fun σ H Q q => ?_⟩
  obtain ⟨env, Z, hR, h⟩ := q
  unfold rootP at h
  split at h
  · rename_i ds e1
    rcases hR.2 r _ e1 with z | ⟨v, fp, e2, _, _⟩
    · cases z
    · exact ⟨v, e2, h v H (Same.refl H) fun v0 q => by rw [e2] at q; cases q; exact .nil⟩
  · exact (h : False).elim
def atPath (r : Nat) (p : List Nat) (env : List D) : Option (List D) := match env[r]? with
  | some d => match sub p d with
    | some (.lst ds) => some ds
    | _ => none
  | none => none
theorem atPath_some {p : List Nat} {env : List D} {ds : List D} (h : atPath r p env = some ds) : ∃ d0, env[r]? = some d0 ∧ sub p d0 = some (.lst ds) := by
  unfold atPath at h
  split at h
  · rename_i d e
    split at h
    · rename_i ds' e2
      cases h; exact ⟨d, e, e2⟩
    · cases h
  · cases h
theorem sub_hole {p : List Nat} {ds : List D} (h : sub p .hole = some (.lst ds)) : False := by
  cases p <;> simp [sub] at h
def idxP (fo : PPf) (r : Nat) (fi : PF) : PPf := fun env => (fo env).bind fun p => (fi env).bind fun k => (PR.of (intOf k.d)).bind fun k => (PR.of ((atPath r p env).bind fun ds => ixN ds.length k)).bind fun j => .ok (p ++ [j])
theorem ixN_lt {n : Nat} {k : Int} {j : Nat} (h : ixN n k = some j) : j < n := (ixN_seq h).2.1
theorem pth_ix {fo : PPf} {fi : PF} (ho : PPth X y r o fo) (hi : P X y b fi) (hs : PlainIx b) : PPth X y r (.Subscript o b pos) (idxP fo r fi) := by
  refine ⟨pe_imp (pe_ix ix_list ho.pe hi.pe hs) fun σ H Q q => ?_⟩
  obtain ⟨env, Z, hR, h⟩ := q
  refine ⟨env, Z, hR, (PR.post_bind h).mono (fun p h v H1 s1 hp => ?_) fun x q => q⟩
  refine ⟨env, Z, hR.same s1, (PR.post_bind h).mono (fun k h w H2 fk s2 ok => ?_) fun x q => q.same s1⟩
  obtain ⟨ki, e1, h⟩ := PR.post_of (PR.post_bind h)
  obtain ⟨j, e2, h⟩ := PR.post_of (PR.post_bind h)
  rw [Option.bind_eq_some_iff] at e2
  obtain ⟨ds, e2, e3⟩ := e2
  obtain ⟨d0, e4, e5⟩ := atPath_some e2
  have hk := intOf_some e1
  have hw := ok.see
  rw [hk] at hw
  have := see_int hw
  subst this
  rcases (hR.same (s1.trans s2)).2 r _ e4 with z | ⟨v0, fp, q1, q2, _⟩
  · subst z; exact (sub_hole e5).elim
  · have hat := (hp v0 q1).same s2
    obtain ⟨fp', q3⟩ := See.sub hat q2 e5
    obtain ⟨aa, vs, fl, rfl, z1, z2, _⟩ := see_lst q3
    have hj : j < vs.length := by rw [z2.length]; exact ixN_lt e3
    refine ⟨aa, vs, ki, vs[j], rfl, rfl, SqL.of z1, ?_, h _ H2 (s1.trans s2) fun v0' q => ?_⟩
    · unfold atI
      rw [z2.length, e3]
      simp [hj]
    · rw [q1] at q; cases q
      exact hat.snoc z1 (by simp [hj])
/-! ### a slot's tree is written -/
theorem env_write {K : Fg} {H : Hp} {R : Addr → Prop} {σ : L2.St} {env : List D} {F : Nat → List Addr} (he : EnvOk K H fz R σ env F) (hr : r ∉ fz) {d0 d : D} {v0 v : V} {p : List Nat} (hd : env[r]? = some d0) (hσ : σ[r]? = some (some v0)) (ho : Own K H v0 d0 (F r)) (hs : sub p d0 = some d) (hat : AtP H v0 p v) :
    ∃ fp, Own K H v d fp ∧ (∀ b ∈ fp, b ∈ F r) ∧ ∀ (H' : Hp) (d' : D) (fp' : List Addr), (∀ b o, b ∉ fp → H b = some o → H' b = some o) → (∀ b o, H b = some o → ∃ o', H' b = some o') → Tk H H' → Own K H' v d' fp' → (∀ b ∈ fp', b ∈ fp ∨ ((∀ j, b ∉ F j) ∧ ¬ R b)) → putAt p d' d0 ≠ .hole →
      ∃ F', EnvOk K H' fz R σ (env.set r (putAt p d' d0)) F' ∧ (∀ j, j ≠ r → F' j = F j) ∧ ∀ b ∈ F' r, (b ∈ F r ∧ b ∉ fp) ∨ b ∈ fp' := by
  obtain ⟨fp, q1, q2, q3⟩ := own_zip hat ho hs
  refine ⟨fp, q1, q2, fun H' d' fp' k l t o' n nh => ?_⟩
  obtain ⟨F0', w1, w2⟩ := q3 o' (fun b o _ m z => k b o m z) t fun b m m' => (n b m).elim id fun z => absurd m' (z.1 r)
  have hlt : r < env.length := by
    rcases Nat.lt_or_ge r env.length with z | z
    · exact z
    · rw [List.getElem?_eq_none z] at hd; cases hd
  have e1 := (he.drop r).keep (H' := H') (fun b o z m => by
    refine k b o (fun m' => ?_) z
    rcases m with ⟨j, m⟩ | m
    · by_cases hj : j = r
      · subst hj; rw [updF_same] at m; cases m
      · rw [updF_ne hj] at m; exact he.dis j r hj b m (q2 b m')
    · exact (he.out b m).2 r (q2 b m')) t
  have e2 := e1.put (i := r) (v := v0) (d := putAt p d' d0) (fp := F0') hr (by simpa using hlt) nh w1 (fun b m j hj m' => by
    rw [updF_ne hj] at m'
    rcases w2 b m with z | z
    · exact he.dis r j (Ne.symm hj) b z.1 m'
    · rcases n b z with z | z
      · exact he.dis r j (Ne.symm hj) b (q2 b z) m'
      · exact z.1 j m') (fun b m rb => by
    rcases w2 b m with z | z
    · exact (he.out b rb).2 r z.1
    · rcases n b z with z | z
      · exact (he.out b rb).2 r (q2 b z)
      · exact z.2 rb)
  rw [set_self hσ, List.set_set, updF_updF] at e2
  exact ⟨_, e2, fun j hj => updF_ne hj, fun b m => by
    rw [updF_same] at m
    exact w2 b m⟩
/-- .. seen from where the statement began -/
theorem aft_write {K : Fg} {R : Addr → Prop} {σ : L2.St} {H0 H : Hp} {env0 env : List D} {F0 F : Nat → List Addr} (A : Aft K fz R σ H0 F0 env0 H F env) (e0 : EnvOk K H0 fz R σ env0 F0) (hr : fz.contains r = false) {ds : List D} {p : List Nat} (hp : atPath r p env = some ds) {v : V} (hat : ∀ v0, σ[r]? = some (some v0) → AtP H v0 p v) :
    ∃ aa vs fl, v = .ref aa ∧ H aa = some (.lst vs) ∧ OwnAll K H vs ds fl ∧ aa ∉ fl ∧ (∀ b ∈ aa :: fl, b ∈ F r) ∧ ∀ (vs' : List V) (ds' : List D) (fl' : List Addr), OwnAll K (upd H aa (.lst vs')) vs' ds' fl' → aa ∉ fl' → (∀ b ∈ fl', b ∈ fl ∨ ((∀ j, b ∉ F j) ∧ ((∃ j, b ∈ F0 j) ∨ H0 b = none))) →
      ∃ F', Aft K fz R σ H0 F0 env0 (upd H aa (.lst vs')) F' (env.set r (putAt p (.lst ds') (env.getD r .hole))) ∧ (∀ j, j ≠ r → F' j = F j) ∧ ∀ b ∈ F' r, (b ∈ F r ∧ b ∉ aa :: fl) ∨ b = aa ∨ b ∈ fl' := by
  have hr : r ∉ fz := fun m => by rw [List.contains_iff_mem.mpr m] at hr; cases hr
  obtain ⟨d0, e1, e2⟩ := atPath_some hp
  rcases A.ok.own r d0 e1 hr with z | ⟨v0, q1, q2⟩
  · subst z; exact (sub_hole e2).elim
  obtain ⟨fp, w1, w2, w3⟩ := env_write A.ok hr e1 q1 q2 e2 (hat v0 q1)
  cases w1 with
  | @lst aa vs _ fl z1 z2 z3 =>
    refine ⟨aa, vs, fl, rfl, z1, z2, z3, w2, fun vs' ds' fl' o' na n => ?_⟩
    have eg : env.getD r .hole = d0 := by simp [List.getD, e1]
    rw [eg]
    have tk : Tk H (upd H aa (.lst vs')) := fun b ob q i => by
      have : b ≠ aa := fun z => by rw [z, z1] at q; cases q; cases i
      rw [upd_ne this]; exact q
    have nh : putAt p (.lst ds') d0 ≠ .hole := by
      cases p with
      | nil => simp [putAt]
      | cons i p =>
        cases d0 with
        | lst xs =>
          simp only [putAt]
          split <;> simp
        | _ => simp [sub] at e2
    obtain ⟨F', u1, u2, u3⟩ := w3 (upd H aa (.lst vs')) (.lst ds') (aa :: fl') (fun b o m q => by rw [upd_ne (fun z => m (by rw [z]; exact List.mem_cons_self))]; exact q) (fun b o q => by
      by_cases hb : b = aa
      · exact ⟨_, by rw [hb, upd_same]⟩
      · exact ⟨o, by rw [upd_ne hb]; exact q⟩) tk (.lst upd_same o' na) (fun b m => by
      rcases List.mem_cons.mp m with rfl | m
      · exact .inl List.mem_cons_self
      · rcases n b m with q | q
        · exact .inl (List.mem_cons_of_mem _ q)
        · exact .inr ⟨q.1, e0.notR q.2⟩) nh
    have naa : ∀ b o, H0 b = some o → (∀ i, b ∉ F0 i) → b ≠ aa := fun b o q nn z => A.stp.out q nn r (w2 b (by rw [z]; exact List.mem_cons_self))
    refine ⟨F', ⟨⟨fun b o q nn => ?_, fun b o q => ?_, A.stp.imm.trans tk, fun i b m => ?_⟩, u1, fun i hi => ?_⟩, u2, fun b m => ?_⟩
    · rw [upd_ne (naa b o q nn)]; exact A.stp.keep b o q nn
    · obtain ⟨o', q⟩ := A.stp.live b o q
      by_cases hb : b = aa
      · exact ⟨_, by rw [hb, upd_same]⟩
      · exact ⟨o', by rw [upd_ne hb]; exact q⟩
    · by_cases hi : i = r
      · subst hi
        rcases u3 b m with q | q
        · exact A.stp.new i b q.1
        · rcases List.mem_cons.mp q with rfl | q
          · exact A.stp.new i _ (w2 _ List.mem_cons_self)
          · rcases n b q with q | q
            · exact A.stp.new i b (w2 b (List.mem_cons_of_mem _ q))
            · exact q.2
      · rw [u2 i hi] at m; exact A.stp.new i b m
    · have hir : i ≠ r := fun z => hr (z ▸ hi)
      rw [List.getElem?_set_ne (Ne.symm hir)]
      exact A.fix i hi
    · rcases u3 b m with q | q
      · exact .inl q
      · rcases List.mem_cons.mp q with q | q
        · exact .inr (.inl q)
        · exact .inr (.inr q)

/-! ### append, extend, pop, insert -/
def wr (r : Nat) (p : List Nat) (ds : List D) (env : List D) : List D := env.set r (putAt p (.lst ds) (env.getD r .hole))
/-- a method of the list in a slot: the arguments may write -/
def iMeth (r : Nat) (G : List D → List D → Option (D × List D)) (f : IL) : IF := fun env => (IR.ofP (rootP r env) env).bind fun _ env => (f env).bind fun as env => (IR.ofP (PR.of (atPath r [] env)) env).bind fun ds env => (IR.ofP (PR.of (G ds as)) env).bind fun res env => .ok res.1 (wr r [] res.2 env)
/-- .. of a list at a place: the arguments write nothing -/
def iMethP (r : Nat) (G : List D → List D → Option (D × List D)) (fp : PPf) (f : PL) : IF := fun env => (IR.ofP (fp env) env).bind fun p env => (IR.ofP (PR.of (atPath r p env)) env).bind fun ds env => (IR.ofP (f env) env).bind fun as env => (IR.ofP (PR.of (G ds as)) env).bind fun res env => .ok res.1 (wr r p res.2 env)
/-- what a list's method does, by data: the result, the list's new items (of the items that it had and of the arguments) -/
def MethOk (K : Fg) (id : String) (rr : V → List V → Hp → VK → Prop) (G : List D → List D → Option (D × List D)) : Prop :=
  ∀ (H : Hp) (aa : Addr) (vs us : List V) (ds as : List D) (fl fa : List Addr) (res : D × List D) (Q : VK), H aa = some (.lst vs) → OwnAll K H vs ds fl → OwnAll K H us as fa → aa ∉ fl → aa ∉ fa → (∀ b ∈ fl, b ∉ fa) → G ds as = some res →
    (∀ v vs' fl' fv, OwnAll K (upd H aa (.lst vs')) vs' res.2 fl' → Own K (upd H aa (.lst vs')) v res.1 fv → (∀ b ∈ fv, b ∉ fl') → (∀ b ∈ fl', b ∈ fl ∨ b ∈ fa) → (∀ b ∈ fv, b ∈ fl ∨ b ∈ fa) → Q v (upd H aa (.lst vs'))) → rr (.ref aa) us H Q
/-- the slot's list is at its place still -/
theorem meth_end {K : Fg} {R : Addr → Prop} {σ : L2.St} {H0 H : Hp} {env0 env : List D} {F0 F : Nat → List Addr} {id : String} {rr : V → List V → Hp → VK → Prop} {G : List D → List D → Option (D × List D)} (M : MethOk K id rr G) (A : Aft K fz R σ H0 F0 env0 H F env) (e0 : EnvOk K H0 fz R σ env0 F0) (hr : fz.contains r = false)
    {ds as : List D} {p : List Nat} (hp : atPath r p env = some ds) {v : V} (hat : ∀ v0, σ[r]? = some (some v0) → AtP H v0 p v) {us : List V} {fa : List Addr} (oa : OwnAll K H us as fa) (na : ∀ b ∈ fa, ∀ i, b ∉ F i) (pa : ∀ b ∈ fa, (∃ j, b ∈ F0 j) ∨ H0 b = none) {res : D × List D} (hG : G ds as = some res) {Q : VK}
    (q : ∀ v H' F' fv, Aft K fz R σ H0 F0 env0 H' F' (wr r p res.2 env) → Own K H' v res.1 fv → (∀ b ∈ fv, ∀ i, b ∉ F' i) → (∀ b ∈ fv, (∃ j, b ∈ F0 j) ∨ H0 b = none) → Q v H') : ∃ aa vs, v = .ref aa ∧ H aa = some (.lst vs) ∧ rr v us H Q := by
  obtain ⟨aa, vs, fl, rfl, h1, h2, h3, h4, h5⟩ := aft_write A e0 hr hp hat
  have nfa : ∀ b ∈ aa :: fl, b ∉ fa := fun b m m' => na b m' r (h4 b m)
  refine ⟨aa, vs, rfl, h1, M H aa vs us ds as fl fa res Q h1 h2 oa h3 (nfa aa List.mem_cons_self) (fun b m => nfa b (List.mem_cons_of_mem _ m)) hG fun w vs' fl' fv o1 o2 d1 n1 n2 => ?_⟩
  have naa : aa ∉ fl' := fun m => by
    rcases n1 aa m with z | z
    · exact h3 z
    · exact nfa aa List.mem_cons_self z
  obtain ⟨F', B, u1, u2⟩ := h5 vs' res.2 fl' o1 naa fun b m => by
    rcases n1 b m with z | z
    · exact .inl z
    · exact .inr ⟨na b z, pa b z⟩
  refine q w _ F' fv B o2 (fun b m i m' => ?_) fun b m => ?_
  · by_cases hi : i = r
    · subst hi
      rcases u2 b m' with z | z | z
      · rcases n2 b m with y | y
        · exact z.2 (List.mem_cons_of_mem _ y)
        · exact na b y i z.1
      · subst z
        rcases n2 b m with y | y
        · exact h3 y
        · exact nfa b List.mem_cons_self y
      · exact d1 b m z
    · rw [u1 i hi] at m'
      rcases n2 b m with y | y
      · exact A.ok.dis r i (Ne.symm hi) b (h4 b (List.mem_cons_of_mem _ y)) m'
      · exact na b y i m'
  · rcases n2 b m with y | y
    · exact A.stp.new r b (h4 b (List.mem_cons_of_mem _ y))
    · exact pa b y

theorem i_meth1 {id : String} {name : Str} {rr : V → List V → Hp → VK → Prop} {G : List D → List D → Option (D × List D)} {f : IL} (hr : fz.contains r = false) (slot : Slot "list" name id) (hty : typeOf (.builtin id) = pure (.type "method_descriptor")) (hm : MtR X id rr) (M : MethOk X.K id rr G)
    (ho : PE X (.Name x pos) (tVar r)) (ha : IArg X y fz (e :: es) f) (hbase : attributeBase (.Name x pos) name X.env (eval (.Name x pos) X.env) = eval (.Name x pos) X.env := by rfl)
    (hfew : ((backTo cpos (starEach (e :: es) X.env)).all (fun x => !x.1) && (backToKw cpos (keywordEach [] X.env)).all (fun x => x.1.isSome)
      && decide ((e :: es).length + ([] : List Keyword).length + (if ([] : List Keyword).isEmpty then 0 else 1) < 30)) = true := by rfl)
    (hline : (apos.endLine == cpos.line) = true := by rfl) (hs : starEach (e :: es) X.env = (false, eval e X.env) :: starEach es X.env := by rfl) (hplain : (backTo cpos (starEach es X.env)).any (·.1) = false := by rfl) : I X y fz (.Call (.Attribute (.Name x pos) name apos) (e :: es) [] cpos) (iMeth r G f) := by
  refine ⟨pe_imp (pe_bm F.plainAttrs_list slot hty hm ho ha.pa hbase hfew hline hs hplain) fun σ H Q q => ?_⟩
  obtain ⟨env, F, R, he, h⟩ := q
  have hri : r ∉ fz := fun m => by rw [List.contains_iff_mem.mpr m] at hr; cases hr
  have h := IR.post_ofP (IR.post_bind h)
  unfold rootP at h
  split at h
  · rename_i ds0 e1
    rcases he.own r _ e1 hri with z | ⟨v0, e2, e3⟩
    · cases z
    refine ⟨v0, e2, ?_, env, F, R, he, ?_⟩
    · generalize F r = fr at e3
      cases e3 with
      | lst q1 _ _ => exact .inl ⟨rfl, _, SqL.of q1⟩
    · refine (IR.post_bind h).mono (fun as env1 h us H1 F1 fa A oa na pa => ?_) fun x q => q
      obtain ⟨ds, e4, h⟩ := PR.post_of (IR.post_ofP (IR.post_bind h))
      obtain ⟨res, e5, h⟩ := PR.post_of (IR.post_ofP (IR.post_bind h))
      obtain ⟨aa, vs, _, _, g⟩ := meth_end M A he hr e4 (v := v0) (fun v1 q => by rw [e2] at q; cases q; exact .nil) oa na pa e5 h
      exact g
  · exact (h : False).elim
theorem i_meth0 {id : String} {name : Str} {rr : V → List V → Hp → VK → Prop} {G : List D → List D → Option (D × List D)} {fp : PPf} (hr : fz.contains r = false) (slot : Slot "list" name id) (hty : typeOf (.builtin id) = pure (.type "method_descriptor")) (hm : MtR X id rr) (M : MethOk X.K id rr G)
    (ho : PPth X y r o fp) (hbase : attributeBase o name X.env (eval o X.env) = eval o X.env := by rfl) (hline : (apos.endLine == cpos.line) = true := by rfl) : I X y fz (.Call (.Attribute o name apos) [] [] cpos) (iMethP r G fp pNil) := by
  refine ⟨pe_imp (pe_bm0 F.plainAttrs_list slot hty hm ho.pe hbase hline) fun σ H Q q => ?_⟩
  obtain ⟨env, F, R, he, h⟩ := q
  refine ⟨env, _, he.rd, (IR.post_ofP (IR.post_bind h)).mono (fun p h v H1 s1 hat => ?_) fun x q => q.p⟩
  obtain ⟨ds, e4, h⟩ := PR.post_of (IR.post_ofP (IR.post_bind h))
  obtain ⟨res, e5, h⟩ := PR.post_of (IR.post_ofP (IR.post_bind (show ((IR.ofP (PR.of (G ds [])) env).bind fun res env => IR.ok res.1 (wr r p res.2 env)).post _ _ from h)))
  obtain ⟨aa, vs, e6, e7, g⟩ := meth_end (id := id) M (Aft.same he s1) he hr e4 hat .nil (by simp) (by simp) e5 h
  subst e6
  exact ⟨.inl ⟨rfl, _, SqL.of e7⟩, g⟩
theorem i_methP {id : String} {name : Str} {rr : V → List V → Hp → VK → Prop} {G : List D → List D → Option (D × List D)} {fp : PPf} {f : PL} (hr : fz.contains r = false) (slot : Slot "list" name id) (hty : typeOf (.builtin id) = pure (.type "method_descriptor")) (hm : MtR X id rr) (M : MethOk X.K id rr G)
    (ho : PPth X y r o fp) (ha : POwn X y (e :: es) f) (hbase : attributeBase o name X.env (eval o X.env) = eval o X.env := by rfl)
    (hfew : ((backTo cpos (starEach (e :: es) X.env)).all (fun x => !x.1) && (backToKw cpos (keywordEach [] X.env)).all (fun x => x.1.isSome)
      && decide ((e :: es).length + ([] : List Keyword).length + (if ([] : List Keyword).isEmpty then 0 else 1) < 30)) = true := by rfl)
    (hline : (apos.endLine == cpos.line) = true := by rfl) (hs : starEach (e :: es) X.env = (false, eval e X.env) :: starEach es X.env := by rfl) (hplain : (backTo cpos (starEach es X.env)).any (·.1) = false := by rfl) : I X y fz (.Call (.Attribute o name apos) (e :: es) [] cpos) (iMethP r G fp f) := by
  refine ⟨pe_imp (pe_bm F.plainAttrs_list slot hty hm ho.pe ha.pa hbase hfew hline hs hplain) fun σ H Q q => ?_⟩
  obtain ⟨env, F, R, he, h⟩ := q
  refine ⟨env, _, he.rd, (IR.post_ofP (IR.post_bind h)).mono (fun p h v H1 s1 hat => ?_) fun x q => q.p⟩
  obtain ⟨ds, e4, h⟩ := PR.post_of (IR.post_ofP (IR.post_bind h))
  have he1 := he.same s1
  have ty : tyV X.K "list" v H1 := by
    obtain ⟨aa, vs, fl, rfl, h1, _⟩ := aft_write (Aft.same he s1) he hr e4 hat
    exact .inl ⟨rfl, _, SqL.of h1⟩
  refine ⟨ty, env, _, he1.rd, (IR.post_ofP (IR.post_bind h)).mono (fun as h us H2 fa s2 oa n => ?_) fun x q => (q.stp (Stp.same s1)).p⟩
  obtain ⟨res, e5, h⟩ := PR.post_of (IR.post_ofP (IR.post_bind h))
  obtain ⟨aa, vs, e6, e7, g⟩ := meth_end (id := id) M (Aft.same he (s1.trans s2)) he hr e4 (fun v0 q => (hat v0 q).same s2) oa (fun b m => fresh_out he1 (n b m)) (fun b m => .inr (s1.free (n b m))) e5 h
  exact g
/-- append -/
def gApp : List D → List D → Option (D × List D) := fun ds as => match as with
  | [d] => if ds.length < 16777216 then some (.g .none, ds ++ [d]) else none
  | _ => none
theorem m_app {K : Fg} : MethOk K "list.append" rAppend gApp := by
  intro H aa vs us ds as fl fa res Q h1 h2 h3 n1 n2 n3 hG q
  match as, h3, hG with
  | [d], h3, hG =>
    cases h3 with
    | @cons v _ _ _ f1 _ r1 r2 _ =>
      cases r2
      rw [List.append_nil] at n2 n3 q
      simp only [gApp] at hG
      split at hG
      · rename_i hz
        cases hG
        have tk : Tk H (upd H aa (.lst (vs ++ [v]))) := fun b ob q i => by
          have : b ≠ aa := fun z => by rw [z, h1] at q; cases q; cases i
          rw [upd_ne this]; exact q
        refine ⟨aa, vs, v, rfl, rfl, h1, by rw [h2.length, sizeLine_eq]; exact hz, q .non (vs ++ [v]) (fl ++ f1) [] ?_ (.g .non) (by simp) (fun b m => List.mem_append.mp m) (by simp)⟩
        have o1 := RelAll.frame tk ds vs fl (C' := fun a o => upd H aa (.lst (vs ++ [v])) a = some o) (fun b m ob q => by rw [upd_ne (fun z => n1 (by rw [← z]; exact m))]; exact q) h2
        have o2 := Rel.frame tk d v f1 (C' := fun a o => upd H aa (.lst (vs ++ [v])) a = some o) (fun b m ob q => by rw [upd_ne (fun z => n2 (by rw [← z]; exact m))]; exact q) r1
        have o3 := RelAll.cons o2 RelAll.nil (by simp)
        rw [List.append_nil] at o3
        exact RelAll.app o1 o3 n3
      · cases hG
  | [], h3, hG => cases hG
  | _ :: _ :: _, h3, hG => cases hG
theorem tk_upd {H : Hp} {aa : Addr} {vs vs' : List V} (h1 : H aa = some (.lst vs)) : Tk H (upd H aa (.lst vs')) := fun b ob q i => by
  have : b ≠ aa := fun z => by rw [z, h1] at q; cases q; cases i
  rw [upd_ne this]; exact q
theorem RelAll.updF {K : Fg} {H : Hp} {aa : Addr} {vs vs' ws : List V} {ds : List D} {fl : List Addr} (h1 : H aa = some (.lst vs)) (h : OwnAll K H ws ds fl) (n : aa ∉ fl) : OwnAll K (upd H aa (.lst vs')) ws ds fl :=
  RelAll.frame (tk_upd h1) ds ws fl (fun b m ob q => by rw [upd_ne (fun z => n (by rw [← z]; exact m))]; exact q) h
theorem Rel.updF {K : Fg} {H : Hp} {aa : Addr} {vs vs' : List V} {w : V} {d : D} {fl : List Addr} (h1 : H aa = some (.lst vs)) (h : Own K H w d fl) (n : aa ∉ fl) : Own K (upd H aa (.lst vs')) w d fl :=
  Rel.frame (tk_upd h1) d w fl (fun b m ob q => by rw [upd_ne (fun z => n (by rw [← z]; exact m))]; exact q) h
/-- extend by a list -/
def gExt : List D → List D → Option (D × List D) := fun ds as => match as with
  | [.lst es] => if ds.length + es.length ≤ 16777216 then some (.g .none, ds ++ es) else none
  | _ => none
theorem m_ext {K : Fg} : MethOk K "list.extend" rExtend gExt := by
  intro H aa vs us ds as fl fa res Q h1 h2 h3 n1 n2 n3 hG q
  unfold gExt at hG
  split at hG
  · rename_i es
    cases h3 with
    | @cons v _ _ _ f1 _ r1 r2 _ =>
      cases r2
      rw [List.append_nil] at n2 n3 q
      split at hG
      · rename_i hz
        cases hG
        cases r1 with
        | @lst b ws _ fw w1 w2 w3 =>
          have nb : aa ∉ fw := fun m => n2 (List.mem_cons_of_mem _ m)
          refine ⟨aa, b, vs, ws, rfl, rfl, h1, w1, by rw [h2.length, w2.length, sizeLine_eq]; exact hz, q .non (vs ++ ws) (fl ++ fw) [] (RelAll.app (RelAll.updF h1 h2 n1) (RelAll.updF h1 w2 nb) fun b m m' => n3 b m (List.mem_cons_of_mem _ m')) (.g .non) (by simp) (fun b m => ?_) (by simp)⟩
          exact (List.mem_append.mp m).imp id fun m => List.mem_cons_of_mem _ m
      · cases hG
  · cases hG
theorem eraseIdx_last {α : Type} : ∀ (xs : List α), xs.eraseIdx (xs.length - 1) = xs.dropLast
  | [] => rfl
  | [x] => rfl
  | x :: y :: xs => by
    have ih := eraseIdx_last (y :: xs)
    simp only [List.length_cons, Nat.add_sub_cancel] at ih ⊢
    rw [List.eraseIdx_cons_succ, ih]; rfl
/-- pop() -/
def gPop : List D → List D → Option (D × List D) := fun ds as => match as with
  | [] => match ds[ds.length - 1]? with
    | some d => some (d, ds.eraseIdx (ds.length - 1))
    | none => none
  | _ => none
theorem m_pop {K : Fg} : MethOk K "list.pop" rPop gPop := by
  intro H aa vs us ds as fl fa res Q h1 h2 h3 n1 n2 n3 hG q
  unfold gPop at hG
  split at hG
  · cases h3
    split at hG
    · rename_i d e
      cases hG
      obtain ⟨v, f, fp', e1, e2, e3, e4, e5, e6⟩ := h2.eraseAt e
      rw [← h2.length] at e1 e3
      rw [eraseIdx_last vs] at e3
      exact ⟨aa, vs, v, rfl, rfl, h1, e1, q v vs.dropLast fp' f (RelAll.updF h1 (by rw [← h2.length]; exact e3) fun m => n1 (e6 _ m)) (Rel.updF h1 e2 fun m => n1 (e5 _ m)) e4 (fun b m => .inl (e6 b m)) fun b m => .inl (e5 b m)⟩
    · cases hG
  · cases hG
/-- pop(i) -/
def gPopAt : List D → List D → Option (D × List D) := fun ds as => match as with
  | [.g (.int i)] => if -9223372036854775808 ≤ i ∧ i < 9223372036854775808 then (match ixN ds.length i with
    | some j => match ds[j]? with
      | some d => some (d, ds.eraseIdx j)
      | none => none
    | none => none) else none
  | _ => none
theorem m_popAt {K : Fg} : MethOk K "list.pop" rPopAt gPopAt := by
  intro H aa vs us ds as fl fa res Q h1 h2 h3 n1 n2 n3 hG q
  unfold gPopAt at hG
  split at hG
  · rename_i i
    cases h3 with
    | @cons w _ _ _ f1 _ r1 r2 _ =>
      cases r2
      have := see_int r1
      subst this
      split at hG
      · rename_i hz
        split at hG
        · rename_i j ej
          split at hG
          · rename_i d e
            cases hG
            obtain ⟨v, f, fp', e1, e2, e3, e4, e5, e6⟩ := h2.eraseAt e
            refine ⟨aa, vs, i, j, v, rfl, rfl, h1, by omega, by omega, by rw [h2.length]; exact (ixN_seq ej).1, e1, q v (vs.eraseIdx j) fp' f (RelAll.updF h1 e3 fun m => n1 (e6 _ m)) (Rel.updF h1 e2 fun m => n1 (e5 _ m)) e4 (fun b m => .inl (e6 b m)) fun b m => .inl (e5 b m)⟩
          · cases hG
        · cases hG
      · cases hG
  · cases hG
end
end Ow

set_option Elab.async false
set_option linter.all false
set_option maxRecDepth 100000
set_option maxHeartbeats 1000000
/-! OwP: more that is walked; loops over a list of the def's own, which is lent meanwhile. -/
namespace Ow
open PySem PySem.Spec PyProof.Rows L2

/-! ### enumerate(tuple) -/
def IteT (K : Fg) (a : Addr) (n : Nat) : It :=
  ⟨fun i H => ∃ (xs : List V) (x : V), SqT K H a xs ∧ xs.length = n ∧ xs[i]? = some x, fun i H v H' => ∃ T x, v = .ref T ∧ H T = none ∧ H' = upd H T (.tup [.int (i : Nat), x]) ∧ ∀ xs, SqT K H a xs → xs[i]? = some x, fun i H => ∃ xs : List V, SqT K H a xs ∧ xs.length = n ∧ n ≤ i⟩
theorem turn_enumT {P : Program} {w : World} {K : Fg} {elts : List Expr} {kk : Nat} {tpos : Pos} (a e it : Addr) (n : Nat) :
    Turn P w K (.Tuple elts kk tpos) (IteT K a n) [e, it] e (fun i h => i ≤ n ∧ (∃ old, IsEnum h e it ((i : Nat) : Int) old) ∧ h.IsTupleIter it a i ∧ e ≠ it ∧ a ≠ it ∧ a ≠ e) where
  mem := by simp
  obj := fun i h st b hb => by
    obtain ⟨_, ⟨old, he⟩, ⟨o, ho, hc, hd⟩, _⟩ := st
    have e' : b = e ∨ b = it := by simpa using hb
    rcases e' with z | z
    · rw [z]; exact ⟨_, he, fun v q => nomatch q⟩
    · rw [z]; exact ⟨o, ho, fun v q => by rw [hd] at q; cases q⟩
  keep := fun i h h' st k => let ⟨hn, ⟨old, he⟩, hi, hne⟩ := st; ⟨hn, ⟨old, k e (by simp) _ he⟩, hi.at fun o q => k it (by simp) o q, hne⟩
  item := by
    intro X hP hw hK hc i pins s σ H E I hf st hg
    subst hP hw hK
    obtain ⟨hin, ⟨old, he⟩, hit, hne, hai, hae⟩ := st
    obtain ⟨xs, x, hq, hxn, hx⟩ := hg
    obtain ⟨its, rv, p, hz⟩ := I.tuple hq
    obtain ⟨u, hu, ru⟩ := rv.get hx
    have hlt : i < its.toArray.size := by
      rcases Nat.lt_or_ge i its.length with z | z
      · simpa using z
      · rw [List.getElem?_eq_none z] at hu; cases hu
    have W := WalksT.enumFrom (prog := X.prog) (w := X.w) (A := X.A) 0 (Draws.tuple (prog := X.prog) (w := X.w) (A := X.A.in1) (I.ok.hd hc) it a hai its.toArray) e hne (by simp; exact ⟨hne, Ne.symm hae⟩) (by simp)
    refine W.item i s _ _ hlt ⟨⟨old, by simpa using he⟩, hit, p⟩ fun T vals h' tk hPt hle hT hmid hk => ?_
    obtain ⟨t, u', hu', rfl⟩ := hPt
    have hTw := W.apart i T h' hmid
    refine ⟨_, rfl, W.go elts kk tpos i T { s with heap := h', toks := tk } _ _ hmid fun h'' st'' hk2 => ?_⟩
    obtain ⟨⟨old', he'⟩, hit', _⟩ := st''
    have eu : u' = u := by
      have : its[i]? = some u' := by simpa using hu'
      rw [hu] at this; exact (Option.some.inj this).symm
    subst eu
    have hT2 : ∃ oT, h''.get? T = some oT ∧ oT.cls = .type "tuple" ∧ ∃ n, oT.data = .seq #[.int (0 + (i : Int)) t, u'] n := by
      obtain ⟨oT, q1, q2, n, q3⟩ := hT
      exact ⟨oT, hk2 T oT hTw q1, q2, n, q3⟩
    have new : ObjOk X.prog X.w (upd H T (.tup [.int (i : Nat), x])) h'' T (.tup [.int (i : Nat), x]) :=
      ⟨by show 2 ≤ sizeLine; decide, [.int (0 + (i : Int)) t, u'], .cons ⟨t, by rw [Int.zero_add]⟩ (.cons ru .nil), hT2⟩
    have I1 : Inv X pins σ (upd H T (.tup [.int (i : Nat), x])) { s with heap := h'', toks := tk } :=
      I.turnedNew (t' := tk) (ch := [e, it]) (fun b ob hb q => hk2 b ob hb (hk b ob hb q)) hf hle new
    refine ⟨.ref T, _, I1, rfl, ⟨T, x, rfl, I.hok.fresh hle, rfl, fun ys hy => by rw [I.tuple_inj hy hq]; exact hx⟩, ⟨by have := rv.length; simp at hlt; omega, ⟨old', by simpa using he'⟩, hit', hne, hai, hae⟩, fun b hb => ?_⟩
    have hb' : b ≠ T := fun z => by
      subst z
      exact hTw hb
    rw [upd_ne hb']
    exact (hf b hb).1
  done := by
    intro X hP hw hK hc i pins s σ H E I hf st hg
    subst hP hw hK
    obtain ⟨hin, ⟨old, he⟩, hit, hne, hai, hae⟩ := st
    obtain ⟨xs, hq, hxn, hx⟩ := hg
    obtain ⟨its, rv, p, hz⟩ := I.tuple hq
    have hl := rv.length
    have en : i = its.toArray.size := by simp only [List.size_toArray]; omega
    have D := Draws.tuple (prog := X.prog) (w := X.w) (A := X.A.in1) (I.ok.hd hc) it a hai its.toArray
    obtain ⟨f0, f1, f2, f3, f4, f5⟩ := hf it (by simp)
    exact wpAny_pyNext_enum_endD D he (show s.heap.IsTupleIter it a its.toArray.size ∧ s.heap.IsTuple a its.toArray from ⟨by rw [← en]; exact hit, p⟩) fun h' eb => ⟨rfl, I.turned (t' := s.toks) (fun b o hb q => eb b o hb q) f0 f1 f3 f4 f5⟩
  self := fun A i s Q E st h => let ⟨_, ⟨_, he⟩, _⟩ := st; wpAny_pyIter_enum he h
/-! ### sources: lists, tuples -/
section
variable {X : Cx} {y : Wi} {a b c e tg : Expr} {es elts : List Expr} {pos p tpos : Pos} {kk : Nat}
def iEnumA (K : Fg) (ta : TA) : TI := fun σ H R => ta σ H fun vs H1 => ∃ a xs, vs = [.ref a] ∧ ((SqL K H1 a xs ∧ R (Ite K a) H1) ∨ (SqT K H1 a xs ∧ R (IteT K a xs.length) H1))
theorem meets_enumerate_new1 {v : Value} {o : Obj} {H : Heap → Prop} (B : Begins v o H) :
    Meets (Builtin.«enumerate.__new__» ⟨[.type "enumerate", v], []⟩) (fun _ R s => H s.heap ∧
      R (.ok (.ret (.ref (s.heap.push o).objs.size))) { s with heap := (s.heap.push o).push { cls := .type "enumerate", data := .fields #[.none, .bool false, .ref s.heap.objs.size, rawInt 0, .none, .none] } }) :=
  .of_wp fun prog w A R s h => by
    obtain ⟨hp, g, d, tk, os⟩ := s; obtain ⟨h1, h⟩ := h
    have hsub := sub_enumerate
    have q1 : ∀ {A' : Around} {E : Value → Shared → Prop} {Q : Value → Shared → Prop}, Q (.ref hp.objs.size) ⟨hp.push o, g, d, tk, os⟩ → wpAny (model prog w) A' (pyIter v) Q E ⟨hp, g, d, tk, os⟩ :=
      fun q => B.iter prog w _ _ ⟨hp, g, d, tk, os⟩ _ h1 q
    wp_walk using q1
    refine wpAny_stack_any fun st => wpAny_pure ?_
    split
    · rename_i c _ _ _ _ _
      cases (c == Value.type "enumerate")
      · wp_walk using q1
        exact ⟨_, rfl, h⟩
      · wp_walk using q1
        exact ⟨_, rfl, h⟩
    · wp_walk using q1
      exact ⟨_, rfl, h⟩
theorem call_enumerate_1 {prog : Program} {w : World} {A : Around} {E : Value → Shared → Prop} {s : Shared} {v : Value} {o : Obj} {H : Heap → Prop} {Q : Value → Shared → Prop} (B : Begins v o H) (h1 : H s.heap)
    (h : ∀ h', IsEnum h' (s.heap.objs.size + 1) s.heap.objs.size 0 .none → h'.get? s.heap.objs.size = some o → h'.objs.size = s.heap.objs.size + 2 →
      (∀ b o, s.heap.get? b = some o → h'.get? b = some o) → Q (.ref (s.heap.objs.size + 1)) { s with heap := h' }) :
    wpAny (model prog w) A (call (.type "enumerate") [v]) Q E s := by
  refine callType_new F.called_enumerate (by decide) (F.typeCall_enumerate_1 _) (F.newCall_enumerate_1 _) (fun obj => F.args_object_init_2 obj _) F.entry_enumerate_new (meets_enumerate_new1 B) ⟨h1, ?_⟩
  have hz : (s.heap.push o).objs.size = s.heap.objs.size + 1 := Heap.size_push ..
  show _ ∧ _
  rw [hz]
  have he : IsEnum ((s.heap.push o).push { cls := .type "enumerate", data := .fields #[.none, .bool false, .ref s.heap.objs.size, rawInt 0, .none, .none] }) (s.heap.objs.size + 1) s.heap.objs.size 0 .none := by
    have := Heap.get?_push_size (s.heap.push o) (o := { cls := .type "enumerate", data := .fields #[.none, .bool false, .ref s.heap.objs.size, rawInt 0, .none, .none] }) rfl
    rw [hz] at this; exact this
  refine ⟨⟨_, he, rfl⟩, h _ he (Heap.get?_push_of_some _ (Heap.get?_push_size _ B.free)) (by rw [Heap.size_push, hz]) fun b o x => Heap.get?_push_of_some _ (Heap.get?_push_of_some _ x)⟩
theorem pi_enumA {ta : TA} (hg : Gl X "enumerate") (hm : X.mg "enumerate" = none) (ha : PA X [e] ta) (hs : starEach [e] X.env = [(false, eval e X.env)] := by rfl) :
    PI X (.Tuple elts kk tpos) (.Call (.Name "enumerate" p) [e] [] pos) (iEnumA X.K ta) := by
  refine ⟨fun pins s σ H R I h => ?_⟩
  refine Call_ (ld_blt I hg hm boot_enumerate (PyProof.Rows.callWith_type1 (thn (ha.run pos pins s σ H _ I h) fun us s1 ⟨vs, H1, I1, r1, q1⟩ => ?_) hs rfl))
  obtain ⟨a, xs, ex, q⟩ := q1
  subst ex
  cases r1 with
  | cons r rr =>
    cases rr
    cases r
    have fresh : ∀ b ∈ [s1.heap.objs.size + 1, s1.heap.objs.size], FpOk X pins H1 b := fun b hb => by
      have e' : b = s1.heap.objs.size + 1 ∨ b = s1.heap.objs.size := by simpa using hb
      have hle : s1.heap.objs.size ≤ b := by
        rcases e' with z | z
        · rw [z]; exact Nat.le_add_right _ _
        · rw [z]; exact Nat.le_refl _
      exact I1.fpOk hle (I1.hok.fresh hle)
    rcases q with ⟨hq, q⟩ | ⟨hq, q⟩
    · obtain ⟨its, rv, p', hz⟩ := I1.list hq
      refine call_enumerate_list p'.isList fun h' he hit hsz hk => wpAny_pyIter_enum he ?_
      have I2 : Inv X pins σ H1 { s1 with heap := h' } := I1.kept (t' := s1.toks) hk
      exact ⟨s1.heap.objs.size + 1, [s1.heap.objs.size + 1, s1.heap.objs.size], _, _, H1, rfl, I2, turn_enum a (s1.heap.objs.size + 1) s1.heap.objs.size, ⟨⟨.none, he⟩, hit, Nat.succ_ne_self _⟩, fresh, q⟩
    · obtain ⟨its, rv, p', hz⟩ := I1.tuple hq
      refine call_enumerate_1 (begins_tuple a its.toArray) p' fun h' he hit hsz hk => wpAny_pyIter_enum he ?_
      have I2 : Inv X pins σ H1 { s1 with heap := h' } := I1.kept (t' := s1.toks) hk
      have la : a < s1.heap.objs.size := by obtain ⟨_, q, _⟩ := id p'; exact Heap.lt_size q
      exact ⟨s1.heap.objs.size + 1, [s1.heap.objs.size + 1, s1.heap.objs.size], _, _, H1, rfl, I2, turn_enumT a (s1.heap.objs.size + 1) s1.heap.objs.size xs.length, ⟨Nat.zero_le _, ⟨.none, he⟩, ⟨_, hit, rfl, rfl⟩, Nat.succ_ne_self _, Nat.ne_of_lt la, Nat.ne_of_lt (Nat.lt_succ_of_lt la)⟩, fresh, q⟩

/-! ### what they give, by data -/
theorem see_tupR {K : Fg} {H : Hp} {a : Addr} {vs : List V} {ds : List D} {fp : List Addr} (h : H a = some (.tup vs)) (o : SeeAll K H vs ds fp) : See K H (.ref a) (mkTup ds) fp := by
  unfold mkTup
  cases e : gAll ds with
  | none => exact .tp (SqT.of h) o
  | some xs =>
    have e' := gAll_some e
    subst e'
    obtain ⟨h1, rfl⟩ := RelAll.ground o
    exact .g (.tup h h1)
def enumL : Nat → List D → List D
  | _, [] => []
  | n, d :: ds => mkTup [.g (.int n), d] :: enumL (n + 1) ds
theorem enumL_get : ∀ {ds : List D} {n i : Nat}, (enumL n ds)[i]? = (ds[i]?).map fun d => mkTup [.g (.int (n + i : Nat)), d]
  | [], _, _ => by simp [enumL]
  | d :: ds, n, 0 => by simp [enumL]
  | d :: ds, n, i + 1 => by
    simp only [enumL, List.getElem?_cons_succ]
    rw [enumL_get, show n + 1 + i = n + (i + 1) by omega]
theorem enumL_length : ∀ {ds : List D} {n : Nat}, (enumL n ds).length = ds.length
  | [], _ => rfl
  | d :: ds, n => by simp [enumL, enumL_length]
def seqWalk : D → Option (Bool × List D)
  | .lst ds => some (true, ds)
  | .g (.tuple xs) => some (false, xs.map .g)
  | .tp ds => some (false, ds)
  | .ft xs => some (false, xs.map .g)
  | .scr ns => some (true, ns.map fun i => .g (.int i))
  | _ => none
def isBor : Pv → Bool
  | .own _ => false
  | .bor _ => true
/-- a source: a list or a tuple, and what may be read of it later -/
structure SrcOk (K : Fg) (Z : Addr → Prop) (H0 H : Hp) (a : Addr) (vs : List V) (ds : List D) (isL lent : Bool) : Prop where
  now : if isL = true then SqL K H a vs else SqT K H a vs
  len : vs.length = ds.length
  ex : ∃ zp : List Addr, (lent = false → ∀ b ∈ zp, H0 b = none) ∧ (∀ b ∈ zp, Z b ∨ H0 b = none) ∧ (∀ b ∈ zp, ∃ o, H b = some o) ∧ ∀ H2, Tk H H2 → (∀ b ∈ zp, ∀ o, H b = some o → H2 b = some o) →
    (if isL = true then SqL K H2 a vs else SqT K H2 a vs) ∧ ∃ fp, SeeAll K H2 vs ds fp ∧ ∀ b ∈ fp, b ∈ zp
theorem gpInts {K : Fg} {H : Hp} {C : Addr → HO → Prop} : ∀ {ns : List Int}, RelAll K H C (ns.map V.int) (ns.map fun i => D.g (.int i)) []
  | [] => .nil
  | n :: ns => by
    have := RelAll.cons (C := C) (f1 := []) (f2 := []) (.g (.int n)) (gpInts (K := K) (H := H) (ns := ns)) (by simp)
    simpa using this
theorem src_of {K : Fg} {Z : Addr → Prop} {H0 H : Hp} {v : V} {p : Pv} {fp : List Addr} {isL : Bool} {ds : List D} (o : PvOk K Z H0 H v p fp) (h : seqWalk p.d = some (isL, ds)) : ∃ a vs, v = .ref a ∧ SrcOk K Z H0 H a vs ds isL (isBor p) := by
  have hs := o.see
  have hl : isBor p = false → ∀ b ∈ fp, H0 b = none := fun e => by
    cases p with
    | own d => exact o.2
    | bor d => cases e
  have hz := o.prov
  generalize p.d = d at hs h
  unfold seqWalk at h
  split at h
  · cases h
    obtain ⟨a, vs, fl, rfl, h1, h2, rfl⟩ := see_lst hs
    refine ⟨a, vs, rfl, ⟨SqL.of h1, h2.length, a :: fl, hl, hz, fun b m => see_live hs m, fun H2 t k => ⟨SqL.of (k a List.mem_cons_self _ h1), fl, ?_, fun b m => List.mem_cons_of_mem _ m⟩⟩⟩
    exact RelAll.frame t _ vs fl (fun b m _ e => SeeC.keep (fun o q => k b (List.mem_cons_of_mem _ m) o q) e) h2
  · cases h
    obtain ⟨a, vs, rfl, h1, h2⟩ := see_tup hs
    exact ⟨a, vs, rfl, ⟨h1, by rw [h2.length]; simp, [], by simp, by simp, by simp, fun H2 t _ => ⟨t.sqT h1, [], (GpAll.frame t _ _ h2).rel, by simp⟩⟩⟩
  · cases h
    cases hs with
    | tp h1 h2 =>
      refine ⟨_, _, rfl, ⟨h1, h2.length, fp, hl, hz, fun b m => see_live (.tp h1 h2) m, fun H2 t k => ⟨t.sqT h1, fp, ?_, fun b m => m⟩⟩⟩
      exact RelAll.frame t _ _ fp (fun b m _ e => SeeC.keep (fun o q => k b m o q) e) h2
  · cases h
    cases hs with
    | ft h1 h2 h3 h4 =>
      refine ⟨_, _, rfl, ⟨.inl (.inr ⟨_, h1⟩), by rw [h4.length]; simp, [], by simp, by simp, by simp, fun H2 t _ => ⟨.inl (.inr ⟨_, t _ _ h1 rfl⟩), [], (GpAll.frame t _ _ h4).rel, by simp⟩⟩⟩
  · cases h
    rename_i ns
    cases hs with
    | scr h1 => exact ⟨_, _, rfl, ⟨h1.1, by simp, [], by simp, by simp, by simp, fun H2 t _ => ⟨h1.2 _ t, [], gpInts, by simp⟩⟩⟩
  · cases h
def wEnum (f : PF) : PW' := fun env => (f env).bind fun p => (PR.of (seqWalk p.d)).bind fun s => .ok ⟨enumL 0 s.2, isBor p⟩
theorem pit_enum {f : PF} (hg : Gl X "enumerate") (hm : X.mg "enumerate" = none) (h : P X y e f) (hs : starEach [e] X.env = [(false, eval e X.env)] := by rfl) (hs2 : starEach [e] X.env = (false, eval e X.env) :: starEach [] X.env := by rfl) :
    PIt X y (.Tuple elts kk tpos) (.Call (.Name "enumerate" p) [e] [] pos) (wEnum f) := by
  refine ⟨pi_imp (pi_enumA hg hm (pa_cons h.pe pa_nil hs2) hs) fun σ H R q => ?_⟩
  obtain ⟨env, Z, hR, h⟩ := q
  refine ⟨env, Z, hR, (PR.post_bind h).mono (fun p h v H1 fp s1 o => ?_) fun x q => q⟩
  obtain ⟨⟨isL, ds⟩, e1, h⟩ := PR.post_of (PR.post_bind h)
  obtain ⟨a, vs, rfl, S⟩ := src_of o e1
  obtain ⟨zp, z1, z2, z3, z4⟩ := S.ex
  have item : ∀ {H2 H3 : Hp} {i : Nat} {d d' : D} {x : V} {T : Addr}, Tk H1 H2 → (∀ b ∈ zp, ∀ o, H1 b = some o → H2 b = some o) → ds[i]? = some d' → d = mkTup [.g (.int (0 + i : Nat)), d'] → H2 T = none → H3 = upd H2 T (.tup [.int (i : Nat), x]) → vs[i]? = some x → Same H2 H3 ∧ ∃ fp, See X.K H3 (.ref T) d fp ∧ ∀ b ∈ fp, b ∈ zp := fun {H2 H3 i d d' x T} t k e2 e3 nT eH ex => by
    subst eH e3
    obtain ⟨_, fpa, w1, w2⟩ := z4 H2 t k
    obtain ⟨v', f, u1, u2, u3⟩ := w1.get e2
    rw [ex] at u1; cases u1
    refine ⟨same_upd nT, f, ?_, fun b m => w2 b (u3 b m)⟩
    rw [Nat.zero_add]
    have := RelAll.cons (f1 := []) (f2 := f ++ []) (Rel.g (C := SeeC (upd H2 T (.tup [.int (i : Nat), x]))) (.int (i : Int))) (RelAll.cons (See.same (same_upd nT) u2) RelAll.nil (by simp)) (by simp)
    simp only [List.nil_append, List.append_nil] at this
    exact see_tupR upd_same this
  cases isL with
  | true =>
    refine ⟨a, vs, rfl, .inl ⟨S.now, h _ H1 s1 ⟨zp, z1, z2, z3, fun H2 t k i => ⟨fun d hd => ?_, fun hi => ?_⟩⟩⟩⟩
    · rw [enumL_get, Option.map_eq_some_iff] at hd
      obtain ⟨d', e2, e3⟩ := hd
      obtain ⟨w0, fpa, w1, w2⟩ := z4 H2 t k
      obtain ⟨v', f, u1, _⟩ := w1.get e2
      refine ⟨⟨vs, v', w0, u1⟩, fun x H3 hy => ?_⟩
      obtain ⟨T, x', rfl, nT, eH, hx⟩ := hy
      exact item t k e2 e3.symm nT eH (hx vs w0)
    · obtain ⟨w0, _⟩ := z4 H2 t k
      rw [enumL_length] at hi
      exact ⟨vs, w0, by rw [S.len]; exact hi⟩
  | false =>
    refine ⟨a, vs, rfl, .inr ⟨S.now, h _ H1 s1 ⟨zp, z1, z2, z3, fun H2 t k i => ⟨fun d hd => ?_, fun hi => ?_⟩⟩⟩⟩
    · rw [enumL_get, Option.map_eq_some_iff] at hd
      obtain ⟨d', e2, e3⟩ := hd
      obtain ⟨w0, fpa, w1, w2⟩ := z4 H2 t k
      obtain ⟨v', f, u1, _⟩ := w1.get e2
      refine ⟨⟨vs, v', w0, rfl, u1⟩, fun x H3 hy => ?_⟩
      obtain ⟨T, x', rfl, nT, eH, hx⟩ := hy
      exact item t k e2 e3.symm nT eH (hx vs w0)
    · obtain ⟨w0, _⟩ := z4 H2 t k
      rw [enumL_length] at hi
      exact ⟨vs, w0, rfl, by rw [S.len]; exact hi⟩

/-! ### range with a step; zip; reversed -/
def stepL (lo c : Int) (n : Nat) : List D := (List.range n).map fun (i : Nat) => .g (.int (lo + i * c))
theorem stepL_get {lo c : Int} {n i : Nat} : (stepL lo c n)[i]? = if i < n then some (.g (.int (lo + i * c))) else none := by
  unfold stepL
  rw [List.getElem?_map]
  by_cases h : i < n
  · rw [if_pos h, List.getElem?_range h]; rfl
  · rw [if_neg h, List.getElem?_eq_none (by simpa using h)]; rfl
/-- downwards, by one -/
def wRngDn (f : PL) : PW' := fun env => (f env).bind fun
  | [d, d', d2] => (PR.of (intOf d)).bind fun i => (PR.of (intOf d')).bind fun j => (PR.of (intOf d2)).bind fun c => if c = -1 ∧ -4611686018427387904 ≤ i ∧ i < 4611686018427387904 ∧ -4611686018427387904 ≤ j ∧ j < 4611686018427387904 then .ok ⟨stepL i (-1) (i - j).toNat, false⟩ else .bad
  | _ => .bad
theorem itOk_rngC {K : Fg} {Z : Addr → Prop} {H H' : Hp} {lo c : Int} {n : Nat} : ItOk K Z H H' (Itc lo c n) ⟨stepL lo c n, false⟩ := by
  refine ⟨[], by simp, by simp, by simp, fun H2 _ _ i => ⟨fun d hd => ?_, fun hi => ?_⟩⟩
  · rw [stepL_get] at hd
    split at hd
    · rename_i hi
      cases hd
      refine ⟨hi, fun x H3 hy => ?_⟩
      obtain ⟨rfl, rfl⟩ := hy
      exact ⟨Same.refl _, [], .g (.int _), by simp⟩
    · cases hd
  · show n ≤ i
    simpa [stepL] using hi
theorem seeL3 {K : Fg} {H : Hp} {vs : List V} {d e g : D} (h : SeeL K H vs [d, e, g]) : ∃ v w u fp fq fr, vs = [v, w, u] ∧ See K H v d fp ∧ See K H w e fq ∧ See K H u g fr := by
  cases h with
  | cons h1 h =>
    cases h with
    | cons h2 h =>
      cases h with
      | cons h3 h =>
        cases h
        obtain ⟨f1, h1⟩ := h1
        obtain ⟨f2, h2⟩ := h2
        obtain ⟨f3, h3⟩ := h3
        exact ⟨_, _, _, f1, f2, f3, rfl, h1, h2, h3⟩
theorem pit_rngDn {f : PL} (hg : Gl X "range") (hm : X.mg "range" = none) (ha : PArg X y [a, b, c] f) (hs : starEach [a, b, c] X.env = (false, eval a X.env) :: starEach [b, c] X.env := by rfl) (hpl : (backTo pos (starEach [b, c] X.env)).any (·.1) = false := by rfl) :
    PIt X y tg (.Call (.Name "range" p) [a, b, c] [] pos) (wRngDn f) := by
  refine ⟨pi_imp (pi_range3 hg hm ha.pa hs hpl) fun σ H R q => ?_⟩
  obtain ⟨env, Z, hR, h⟩ := q
  refine ⟨env, Z, hR, (PR.post_bind h).mono (fun ds h vs H1 s1 os => ?_) fun x q => q⟩
  match ds, os, h with
  | [d, d', d2], os, h =>
    obtain ⟨i, e1, k1⟩ := PR.post_of (PR.post_bind h)
    obtain ⟨j, e2, k2⟩ := PR.post_of (PR.post_bind k1)
    obtain ⟨cc, e3, k3⟩ := PR.post_of (PR.post_bind k2)
    have := intOf_some e1; subst this
    have := intOf_some e2; subst this
    have := intOf_some e3; subst this
    obtain ⟨v, w, u, fp, fq, fr, rfl, hv, hw, hu⟩ := seeL3 os
    have := see_int hv; subst this
    have := see_int hw; subst this
    have := see_int hu; subst this
    split at k3
    · rename_i hz
      obtain ⟨rfl, hz⟩ := hz
      exact ⟨i, j, -1, (i - j).toNat, rfl, RgC.neg (by omega) (by omega) (by omega) (by omega), k3 _ H1 s1 itOk_rngC⟩
    · exact (k3 : False).elim
  | [], _, h => exact (h : False).elim
  | [_], _, h => exact (h : False).elim
  | [_, _], _, h => exact (h : False).elim
  | _ :: _ :: _ :: _ :: _, _, h => exact (h : False).elim
def zipG : List PyData → List PyData → List D
  | d :: ds, e :: es => .g (.tuple [d, e]) :: zipG ds es
  | _, _ => []
theorem zipG_get : ∀ {ds es : List PyData} {i : Nat} {d : D}, (zipG ds es)[i]? = some d → ∃ d1 e1, ds[i]? = some d1 ∧ es[i]? = some e1 ∧ d = .g (.tuple [d1, e1])
  | [], _, _, _, h => by simp [zipG] at h
  | _ :: _, [], _, _, h => by simp [zipG] at h
  | d :: ds, e :: es, 0, _, h => by simp [zipG] at h; exact ⟨d, e, rfl, rfl, h.symm⟩
  | d :: ds, e :: es, i + 1, x, h => by
    simp only [zipG, List.getElem?_cons_succ] at h
    simpa using zipG_get h
theorem zipG_length : ∀ {ds es : List PyData}, (zipG ds es).length = min ds.length es.length
  | [], _ => by simp [zipG]
  | _ :: _, [] => by simp [zipG]
  | d :: ds, e :: es => by simp only [zipG, List.length_cons]; rw [zipG_length]; omega
def wZip (f g : PF) : PW' := fun env => (f env).bind fun p => (g env).bind fun q => (PR.of (seqWalk p.d)).bind fun s => (PR.of (seqWalk q.d)).bind fun t => (PR.of (gAll s.2)).bind fun xs => (PR.of (gAll t.2)).bind fun ys => if (s.1 == t.1) = true then .ok ⟨zipG xs ys, isBor p || isBor q⟩ else .bad
theorem SrcOk.same {K : Fg} {Z : Addr → Prop} {H0 H H' : Hp} {a : Addr} {vs : List V} {ds : List D} {isL lent : Bool} (h : SrcOk K Z H0 H a vs ds isL lent) (s : Same H H') : SrcOk K Z H0 H' a vs ds isL lent := by
  obtain ⟨n, l, zp, z1, z2, z3, z4⟩ := h
  have nx := z4 H' (Tk.same s) (fun b _ o q => s b o q)
  exact ⟨nx.1, l, zp, z1, z2, fun b m => (z3 b m).imp fun o q => s b o q, fun H2 t k => z4 H2 ((Tk.same s).trans t) fun b m o q => k b m o (s b o q)⟩
theorem SrcOk.weak {K : Fg} {Z : Addr → Prop} {H0 H1 H : Hp} {a : Addr} {vs : List V} {ds : List D} {isL lent : Bool} (h : SrcOk K Z H1 H a vs ds isL lent) (s : Same H0 H1) : SrcOk K Z H0 H a vs ds isL lent := by
  obtain ⟨n, l, zp, z1, z2, z3, z4⟩ := h
  exact ⟨n, l, zp, fun e b m => s.free (z1 e b m), fun b m => (z2 b m).imp id s.free, z3, z4⟩
theorem pit_zip {f g : PF} (hg : Gl X "zip") (hm : X.mg "zip" = none) (h1 : P X y a f) (h2 : P X y b g) (hs : starEach [a, b] X.env = (false, eval a X.env) :: starEach [b] X.env := by rfl) (hs2 : starEach [b] X.env = (false, eval b X.env) :: starEach [] X.env := by rfl) (hpl : (backTo pos (starEach [b] X.env)).any (·.1) = false := by rfl) :
    PIt X y (.Tuple elts kk tpos) (.Call (.Name "zip" p) [a, b] [] pos) (wZip f g) := by
  refine ⟨pi_imp (RZ.pi_zipA hg hm (pa_cons h1.pe (pa_cons h2.pe pa_nil hs2) hs) hs hpl) fun σ H R q => ?_⟩
  obtain ⟨env, Z, hR, h⟩ := q
  refine ⟨env, Z, hR, (PR.post_bind h).mono (fun p h v1 H1 fp1 s1 o1 => ?_) fun x q => q⟩
  refine ⟨env, Z, hR.same s1, (PR.post_bind h).mono (fun q h v2 H2 fp2 s2 o2 => ?_) fun x q => q.same s1⟩
  obtain ⟨⟨l1, ds⟩, e1, h⟩ := PR.post_of (PR.post_bind h)
  obtain ⟨⟨l2, es⟩, e2, h⟩ := PR.post_of (PR.post_bind h)
  obtain ⟨a1, us, rfl, S1⟩ := src_of o1 e1
  obtain ⟨a2, ws, rfl, S2⟩ := src_of o2 e2
  obtain ⟨xs, e3, h5⟩ := PR.post_of (PR.post_bind h)
  obtain ⟨ys, e4, h6⟩ := PR.post_of (PR.post_bind h5)
  split at h6
  · rename_i el
    have el : l1 = l2 := by simpa using el
    subst el
    have hx := gAll_some e3
    have hy := gAll_some e4
    dsimp only at hx hy
    subst hx hy
    have T1 := S1.same s2
    have T2 := S2.weak s1
    obtain ⟨zp, z1, z2, z3, z4⟩ := T1.ex
    obtain ⟨yp, y1, y2, y3, y4⟩ := T2.ex
    have lu : us.length = xs.length := by rw [T1.len]; simp
    have lw : ws.length = ys.length := by rw [T2.len]; simp
    have item : ∀ {H3 H4 : Hp} {i : Nat} {d : D} {x x' : V} {T : Addr}, Tk H2 H3 → (∀ b ∈ zp ++ yp, ∀ o, H2 b = some o → H3 b = some o) → (zipG xs ys)[i]? = some d → H3 T = none → H4 = upd H3 T (.tup [x, x']) → us[i]? = some x → ws[i]? = some x' → Same H3 H4 ∧ ∃ fp, See X.K H4 (.ref T) d fp ∧ ∀ b ∈ fp, b ∈ zp ++ yp := fun {H3 H4 i d x x' T} t k hd nT eH ex ex' => by
      obtain ⟨d1, d2, q1, q2, rfl⟩ := zipG_get hd
      subst eH
      obtain ⟨_, fpa, w1, w2⟩ := z4 H3 t fun b m => k b (List.mem_append_left _ m)
      obtain ⟨_, fpb, w3, w4⟩ := y4 H3 t fun b m => k b (List.mem_append_right _ m)
      obtain ⟨w1, _⟩ := RelAll.ground w1
      obtain ⟨w3, _⟩ := RelAll.ground w3
      obtain ⟨v', u1, u2⟩ := w1.get q1
      obtain ⟨v2', u4, u5⟩ := w3.get q2
      rw [ex] at u1; cases u1
      rw [ex'] at u4; cases u4
      exact ⟨same_upd nT, [], .g (.tup upd_same (.cons (u2.frame (Tk.same (same_upd nT))) (.cons (u5.frame (Tk.same (same_upd nT))) .nil))), by simp⟩
    have it : ∀ J : It, (∀ H3, Tk H2 H3 → (∀ b ∈ zp ++ yp, ∀ o, H2 b = some o → H3 b = some o) → ∀ i, (∀ d, (zipG xs ys)[i]? = some d → J.go i H3 ∧ ∀ x H4, J.yld i H3 x H4 → Same H3 H4 ∧ ∃ fp, See X.K H4 x d fp ∧ ∀ b ∈ fp, b ∈ zp ++ yp) ∧ ((zipG xs ys).length ≤ i → J.stop i H3)) → R J H2 := fun J hJ => by
      refine h6 J H2 (s1.trans s2) ⟨zp ++ yp, fun e b m => ?_, fun b m => ?_, fun b m => ?_, hJ⟩
      · have e : isBor p = false ∧ isBor q = false := by simpa using e
        rcases List.mem_append.mp m with m | m
        · exact z1 e.1 b m
        · exact y1 e.2 b m
      · rcases List.mem_append.mp m with m | m
        · exact z2 b m
        · exact y2 b m
      · rcases List.mem_append.mp m with m | m
        · exact z3 b m
        · exact y3 b m
    cases l1 with
    | true =>
      refine ⟨a1, a2, us, ws, rfl, .inl ⟨T1.now, T2.now, it _ fun H3 t k i => ⟨fun d hd => ?_, fun hi => ?_⟩⟩⟩
      · obtain ⟨w0, _⟩ := z4 H3 t fun b m => k b (List.mem_append_left _ m)
        obtain ⟨w1, _⟩ := y4 H3 t fun b m => k b (List.mem_append_right _ m)
        obtain ⟨d1, d2, q1, q2, _⟩ := zipG_get hd
        have i1 : i < us.length := by rw [lu]; exact (List.getElem?_eq_some_iff.mp q1).1
        have i2 : i < ws.length := by rw [lw]; exact (List.getElem?_eq_some_iff.mp q2).1
        refine ⟨⟨us, ws, us[i], ws[i], w0, w1, by simp [i1], by simp [i2]⟩, fun x H4 hy => ?_⟩
        obtain ⟨T, x1, x2, rfl, nT, eH, hx1, hx2⟩ := hy
        exact item t k hd nT eH (hx1 us w0) (hx2 ws w1)
      · obtain ⟨w0, _⟩ := z4 H3 t fun b m => k b (List.mem_append_left _ m)
        obtain ⟨w1, _⟩ := y4 H3 t fun b m => k b (List.mem_append_right _ m)
        rw [zipG_length] at hi
        exact ⟨us, ws, w0, w1, by omega⟩
    | false =>
      refine ⟨a1, a2, us, ws, rfl, .inr ⟨T1.now, T2.now, it _ fun H3 t k i => ⟨fun d hd => ?_, fun hi => ?_⟩⟩⟩
      · obtain ⟨w0, _⟩ := z4 H3 t fun b m => k b (List.mem_append_left _ m)
        obtain ⟨w1, _⟩ := y4 H3 t fun b m => k b (List.mem_append_right _ m)
        obtain ⟨d1, d2, q1, q2, _⟩ := zipG_get hd
        have i1 : i < us.length := by rw [lu]; exact (List.getElem?_eq_some_iff.mp q1).1
        have i2 : i < ws.length := by rw [lw]; exact (List.getElem?_eq_some_iff.mp q2).1
        refine ⟨⟨us, ws, us[i], ws[i], w0, w1, by simp [i1], by simp [i2]⟩, fun x H4 hy => ?_⟩
        obtain ⟨T, x1, x2, rfl, nT, eH, hx1, hx2⟩ := hy
        exact item t k hd nT eH (hx1 us w0) (hx2 ws w1)
      · obtain ⟨w0, _⟩ := z4 H3 t fun b m => k b (List.mem_append_left _ m)
        obtain ⟨w1, _⟩ := y4 H3 t fun b m => k b (List.mem_append_right _ m)
        rw [zipG_length] at hi
        exact ⟨us, ws, w0, w1, by omega⟩
  · exact (h6 : False).elim
end
end Ow

set_option Elab.async false
set_option linter.all false
set_option maxRecDepth 100000
set_option maxHeartbeats 1000000
/-! OwQ: loops over a list of the def's own, which is lent meanwhile. -/
namespace Ow
open PySem PySem.Spec PyProof.Rows L2
section
variable {X : Cx} {y : Wi} {a b c e tg : Expr} {es elts : List Expr} {pos p tpos : Pos} {kk : Nat}
/-- a source's own items -/
theorem SrcOk.walk {K : Fg} {Z : Addr → Prop} {H0 H : Hp} {a : Addr} {vs : List V} {ds : List D} {isL lent : Bool} (S : SrcOk K Z H0 H a vs ds isL lent) : ItOk K Z H0 H (if isL = true then Itl K a else Itt K a) ⟨ds, lent⟩ := by
  obtain ⟨zp, z1, z2, z3, z4⟩ := S.ex
  refine ⟨zp, z1, z2, z3, fun H2 t k i => ⟨fun d hd => ?_, fun hi => ?_⟩⟩
  · obtain ⟨w0, fp, w1, w2⟩ := z4 H2 t k
    obtain ⟨v, f, e1, e2, e3⟩ := w1.get hd
    cases isL with
    | true =>
      refine ⟨⟨vs, v, w0, e1⟩, fun x H3 hy => ?_⟩
      obtain ⟨rfl, hx⟩ := hy
      have := hx vs w0
      rw [e1] at this; cases this
      exact ⟨Same.refl _, f, e2, fun b m => w2 b (e3 b m)⟩
    | false =>
      refine ⟨⟨vs, v, w0, e1⟩, fun x H3 hy => ?_⟩
      obtain ⟨rfl, hx⟩ := hy
      have := hx vs w0
      rw [e1] at this; cases this
      exact ⟨Same.refl _, f, e2, fun b m => w2 b (e3 b m)⟩
  · obtain ⟨w0, _⟩ := z4 H2 t k
    cases isL with
    | true => exact ⟨vs, w0, by rw [S.len]; exact hi⟩
    | false => exact ⟨vs, w0, by rw [S.len]; exact hi⟩
def strL (z : Str) : List D := z.cps.toList.map fun c => .g (.str ⟨#[c]⟩)
def walkA (p : Pv) : Option Walk := match p.d with
  | .g (.str z) => some ⟨strL z, false⟩
  | d => (seqWalk d).map fun s => ⟨s.2, isBor p⟩
def wSeqA (f : PF) : PW' := fun env => (f env).bind fun p => PR.of (walkA p)
theorem pit_seqA {f : PF} (h : P X y e f) : PIt X y tg e (wSeqA f) := by
  refine ⟨pi_imp (pi_seq h.pe) fun σ H R q => ?_⟩
  obtain ⟨env, Z, hR, h⟩ := q
  refine ⟨env, Z, hR, (PR.post_bind h).mono (fun p h v H1 fp s1 o1 => ?_) fun x q => q⟩
  obtain ⟨w, e1, q⟩ := PR.post_of h
  have main : (seqWalk p.d).map (fun s => (⟨s.2, isBor p⟩ : Walk)) = some w → (∃ a, v = .ref a ∧ (∃ xs, SqL X.K H1 a xs) ∧ R (Itl X.K a) H1) ∨ (∃ a, v = .ref a ∧ (∃ xs, SqT X.K H1 a xs) ∧ R (Itt X.K a) H1) ∨ (∃ z, v = .str z ∧ R (Its z) H1) := fun e1 => by
    rw [Option.map_eq_some_iff] at e1
    obtain ⟨⟨isL, ds⟩, e2, rfl⟩ := e1
    obtain ⟨a, vs, rfl, S⟩ := src_of o1 e2
    have n := S.now
    have k := S.walk
    cases isL with
    | true => exact .inl ⟨a, rfl, ⟨vs, n⟩, q _ H1 s1 k⟩
    | false => exact .inr (.inl ⟨a, rfl, ⟨vs, n⟩, q _ H1 s1 k⟩)
  unfold walkA at e1
  split at e1
  · rename_i z hz
    cases e1
    have hs := o1.see
    rw [hz] at hs
    have := see_str hs; subst this
    exact .inr (.inr ⟨z, rfl, q _ H1 s1 itOk_str⟩)
  · exact main e1

/-! ### for over what slot r holds -/
/-- only slot r, what is ground and what is lent already may be seen -/
def maskL (r : Nat) (fz : List Nat) : Nat → List D → List D
  | _, [] => []
  | i, d :: ds => (if i == r || fz.contains i || grd d then d else .hole) :: maskL r fz (i + 1) ds
theorem maskL_get {r : Nat} {fz : List Nat} : ∀ {ds : List D} {j i : Nat}, (maskL r fz j ds)[i]? = (ds[i]?).map fun d => if (j + i == r || fz.contains (j + i) || grd d) = true then d else .hole
  | [], _, _ => by simp [maskL]
  | d :: ds, j, 0 => by simp [maskL]
  | d :: ds, j, i + 1 => by
    simp only [maskL, List.getElem?_cons_succ]
    rw [maskL_get, Nat.add_right_comm, Nat.add_assoc]
theorem maskL_length {r : Nat} {fz : List Nat} : ∀ {ds : List D} {j : Nat}, (maskL r fz j ds).length = ds.length
  | [], _ => rfl
  | d :: ds, j => by simp [maskL, maskL_length]
def sForL (r : Nat) (fz : List Nat) (p : Pat) (f : PW') (g : SF) : SF := fun env => (IR.ofP (f (maskL r fz 0 env)) env).toS fun w env => forGo p g w.items env
variable {fz pn : List Nat} {body : List Stmt} {r : Nat}
/-- slot r is lent -/
theorem EnvOk.lend {K : Fg} {H : Hp} {R : Addr → Prop} {σ : L2.St} {env : List D} {F : Nat → List Addr} (e : EnvOk K H fz R σ env F) (hr : r ∉ fz) : EnvOk K H (r :: fz) (fun b => R b ∨ b ∈ F r) σ env (updF F r []) where
  len := e.len
  own := fun i d hd hf => by
    have h1 : i ≠ r := fun z => hf (by rw [z]; exact List.mem_cons_self)
    rw [updF_ne h1]
    exact e.own i d hd fun z => hf (List.mem_cons_of_mem _ z)
  frz := fun i d hd hf => by
    rcases List.mem_cons.mp hf with rfl | hf
    · exact (e.own i d hd hr).imp id fun ⟨v, q1, q2⟩ => ⟨v, _, q1, q2.see, fun b m => .inr m⟩
    · exact (e.frz i d hd hf).imp id fun ⟨v, fp, q1, q2, q3⟩ => ⟨v, fp, q1, q2, fun b m => .inl (q3 b m)⟩
  nil := fun i hi => by
    by_cases h1 : i = r
    · subst h1; exact updF_same
    · rw [updF_ne h1]
      refine e.nil i (hi.imp (fun z => (List.mem_cons.mp z).resolve_left h1) id)
  dis := fun i j hij b m => by
    by_cases h1 : i = r
    · subst h1; rw [updF_same] at m; cases m
    · rw [updF_ne h1] at m
      by_cases h2 : j = r
      · subst h2; rw [updF_same]; simp
      · rw [updF_ne h2]; exact e.dis i j hij b m
  out := fun b h => by
    rcases h with h | h
    · refine ⟨(e.out b h).1, fun j m => ?_⟩
      by_cases h2 : j = r
      · subst h2; rw [updF_same] at m; cases m
      · rw [updF_ne h2] at m; exact (e.out b h).2 j m
    · refine ⟨e.live h, fun j m => ?_⟩
      by_cases h2 : j = r
      · subst h2; rw [updF_same] at m; cases m
      · rw [updF_ne h2] at m; exact e.dis r j (Ne.symm h2) b h m
/-- .. and stands again afterwards -/
theorem AftS.back {K : Fg} {H H' : Hp} {R : Addr → Prop} {σ σ' : L2.St} {env e' : List D} {F F' : Nat → List Addr} (e : EnvOk K H fz R σ env F) (hr : r ∉ fz) (A : AftS K (r :: fz) pn (fun b => R b ∨ b ∈ F r) σ H (updF F r []) env σ' H' F' e') : AftS K fz pn R σ H F env σ' H' (updF F' r (F r)) e' := by
  have n0 : ∀ b, (∀ i, b ∉ F i) → ∀ i, b ∉ updF F r [] i := fun b h i m => by
    by_cases h1 : i = r
    · subst h1; rw [updF_same] at m; cases m
    · rw [updF_ne h1] at m; exact h i m
  have nr : ∀ b, b ∈ F r → ∀ i, b ∉ updF F r [] i := fun b h i m => by
    by_cases h1 : i = r
    · subst h1; rw [updF_same] at m; cases m
    · rw [updF_ne h1] at m; exact e.dis r i (Ne.symm h1) b h m
  have fr : F' r = [] := A.ok.nil r (.inl List.mem_cons_self)
  refine ⟨⟨fun b o q nn => A.stp.keep b o q (n0 b nn), A.stp.live, A.stp.imm, fun i b m => ?_⟩, ⟨A.ok.len, fun i d hd hf => ?_, fun i d hd hf => ?_, fun i hi => ?_, fun i j hij b m => ?_, fun b h => ?_⟩, fun i hi => A.fix i (List.mem_cons_of_mem _ hi), fun i hi => A.pin i (hi.imp (fun z => List.mem_cons_of_mem _ z) id), A.len⟩
  · by_cases h1 : i = r
    · subst h1; rw [updF_same] at m; exact .inl ⟨i, m⟩
    · rw [updF_ne h1] at m
      rcases A.stp.new i b m with ⟨j, q⟩ | q
      · by_cases h2 : j = r
        · subst h2; rw [updF_same] at q; cases q
        · rw [updF_ne h2] at q; exact .inl ⟨j, q⟩
      · exact .inr q
  · by_cases h1 : i = r
    · subst h1
      rw [updF_same]
      have hd0 := hd
      rw [A.fix i List.mem_cons_self] at hd
      rcases e.own i d hd hr with z | ⟨v, q1, q2⟩
      · exact .inl z
      · exact .inr ⟨v, by rw [A.pin i (.inl List.mem_cons_self)]; exact q1, q2.stp A.stp nr⟩
    · rw [updF_ne h1]
      exact A.ok.own i d hd fun z => (List.mem_cons.mp z).elim h1 hf
  · have hd0 := hd
    rw [A.fix i (List.mem_cons_of_mem _ hf)] at hd
    rcases e.frz i d hd hf with z | ⟨v, fp, q1, q2, q3⟩
    · exact .inl z
    · exact .inr ⟨v, fp, by rw [A.pin i (.inl (List.mem_cons_of_mem _ hf))]; exact q1, q2.stp A.stp fun b m => n0 b (e.out b (q3 b m)).2, q3⟩
  · by_cases h1 : i = r
    · subst h1
      rw [updF_same]
      rw [A.fix i List.mem_cons_self] at hi
      exact e.nil i hi
    · rw [updF_ne h1]
      exact A.ok.nil i (hi.imp (fun z => List.mem_cons_of_mem _ z) id)
  · by_cases h1 : i = r
    · subst h1
      rw [updF_same] at m
      rw [updF_ne (Ne.symm hij)]
      exact (A.ok.out b (.inr m)).2 j
    · rw [updF_ne h1] at m
      by_cases h2 : j = r
      · subst h2
        rw [updF_same]
        exact fun m' => (A.ok.out b (.inr m')).2 i m
      · rw [updF_ne h2]; exact A.ok.dis i j hij b m
  · refine ⟨(A.ok.out b (.inl h)).1, fun j m => ?_⟩
    by_cases h2 : j = r
    · subst h2; rw [updF_same] at m; exact (e.out b h).2 j m
    · rw [updF_ne h2] at m; exact (A.ok.out b (.inl h)).2 j m
theorem Sat.lend {K : Fg} {H : Hp} {R : Addr → Prop} {σ : L2.St} {env : List D} {F : Nat → List Addr} {s : SR} {Dn : Ends} (e : EnvOk K H fz R σ env F) (hr : r ∉ fz) (h : Sat K y fz pn R σ H F env s Dn) : Sat K y (r :: fz) pn (fun b => R b ∨ b ∈ F r) σ H (updF F r []) env s Dn := by
  have n0 : ∀ b, (∀ i, b ∉ F i) → ∀ i, b ∉ updF F r [] i := fun b h i m => by
    by_cases h1 : i = r
    · subst h1; rw [updF_same] at m; cases m
    · rw [updF_ne h1] at m; exact h i m
  cases s with
  | nx e' => exact fun σ' H' F' A => h σ' H' _ (A.back e hr)
  | bk e' => exact fun σ' H' F' A => h σ' H' _ (A.back e hr)
  | ct e' => exact fun σ' H' F' A => h σ' H' _ (A.back e hr)
  | rt d e' =>
    intro σ' v H' F' fv A o n p
    refine h σ' v H' _ fv (A.back e hr) o (fun b m i m' => ?_) fun b m => ?_
    · by_cases h1 : i = r
      · subst h1
        rw [updF_same] at m'
        rcases p b m with ⟨j, q⟩ | q
        · by_cases h2 : j = i
          · subst h2; rw [updF_same] at q; cases q
          · rw [updF_ne h2] at q; exact e.dis i j (Ne.symm h2) b m' q
        · obtain ⟨ob, z⟩ := e.live m'
          rw [q] at z; cases z
      · rw [updF_ne h1] at m'; exact n b m i m'
    · rcases p b m with ⟨j, q⟩ | q
      · by_cases h2 : j = r
        · subst h2; rw [updF_same] at q; cases q
        · rw [updF_ne h2] at q; exact .inl ⟨j, q⟩
      · exact .inr q
  | err x => exact fun σ' c dd H' hl pi k l t er => h σ' c dd H' hl (fun i hi => pi i (hi.imp (fun z => List.mem_cons_of_mem _ z) id)) (fun b o q nn => k b o q (n0 b nn)) l t er
  | bad => exact h
theorem s_forL {p : Pat} {f : PW'} {g : SF} (hr : fz.contains r = false) (hp : PassesOwn (model X.prog X.w) X.A X.env X.xe) (hc : X.calm = true) (hi : PIt X y tg e f) (hg : G X y (r :: fz) pn tg p) (hb : Ss X y (r :: fz) pn body g) (hs : ∀ x, foldedSetIterable e X.env x = pure x := by intro _; rfl) :
    S X y fz pn (.For tg e body [] pos) (sForL r fz p f g) := by
  have hri : r ∉ fz := fun m => by rw [List.contains_iff_mem.mpr m] at hr; cases hr
  refine ⟨ps_imp (ps_for hp hc hi.pi hg.pg hb.ps hs) fun Dn σ H q => ?_⟩
  obtain ⟨env, F, R, he, q⟩ := q
  have hm : RdEnv X.K (fun b => R b ∨ b ∈ F r) H σ (maskL r fz 0 env) := by
    refine ⟨by rw [maskL_length]; exact he.len, fun i d hd => ?_⟩
    rw [maskL_get, Option.map_eq_some_iff] at hd
    obtain ⟨d', h1, h2⟩ := hd
    rw [Nat.zero_add] at h2
    split at h2
    · rename_i hcd
      subst h2
      by_cases hf : i ∈ fz
      · exact (he.frz i d' h1 hf).imp id fun ⟨v, fp, q1, q2, q3⟩ => ⟨v, fp, q1, q2, fun b m => .inl (q3 b m)⟩
      · rcases he.own i d' h1 hf with z | ⟨v, q1, q2⟩
        · exact .inl z
        · refine .inr ⟨v, F i, q1, q2.see, fun b m => ?_⟩
          by_cases hir : i = r
          · subst hir; exact .inr m
          · have hc2 : fz.contains i = false := by
              cases qq : fz.contains i with
              | false => rfl
              | true => exact absurd (List.contains_iff_mem.mp qq) hf
            have hgd : grd d' = true := by
              rw [hc2] at hcd
              simpa [hir] using hcd
            cases d' with
            | g x => rw [(see_g q2).2] at m; cases m
            | _ => cases hgd
    · exact .inl h2.symm
  refine ⟨maskL r fz 0 env, _, hm, (IR.post_ofP (Sat.ofI q)).mono (fun w q J H1 s1 hw => ?_) fun x q => q.p⟩
  obtain ⟨zp, z1, z2, z3, z4⟩ := hw
  have A := (Aft.same (K := X.K) he s1).s (pn := pn)
  have q1 := Sat.lend A.ok hri (Sat.up A q)
  refine for_core (A.ok.lend hri) (fun b m => ?_) z4 (fun v σ H Q q => q) (fun Dn σ H q => q) q1
  rcases z2 b m with z | z
  · exact ⟨z3 b m, ((he.same s1).lend hri |>.out b z).2⟩
  · exact ⟨z3 b m, fun j m' => by
      by_cases h2 : j = r
      · subst h2; rw [updF_same] at m'; cases m'
      · rw [updF_ne h2] at m'; exact fresh_out he z j m'⟩
end
end Ow

set_option Elab.async false
set_option linter.all false
set_option maxRecDepth 100000
set_option maxHeartbeats 1000000
/-! OwR: x[i] = e, dicts written, .get. -/
namespace Ow
open PySem PySem.Spec PyProof.Rows L2

section
variable {X : Cx} {y : Wi} {fz pn : List Nat} {a b c e o : Expr} {es : List Expr} {pos spos apos cpos p2 : Pos} {r : Nat} {x : Str}
/-! ### lists -/
def setLD (r : Nat) (p : List Nat) (k d : D) (e : List D) : Option (List D) := (atPath r p e).bind fun ds => (intOf k).bind fun k => (ixN ds.length k).bind fun j => some (wr r p (ds.set j d) e)
def sSubL (r : Nat) (fp : PPf) (fi : PF) (f : IF) : SF := fun env => (f env).toS fun d e => (IR.ofP (fp e) e).toS fun p e => (IR.ofP (fi e) e).toS fun k e => OpS (setLD r p k.d d e)
theorem s_subL {fp : PPf} {fi : PF} {f : IF} (hr : fz.contains r = false) (h : I X y fz e f) (ho : PPth X y r o fp) (hi : P X y b fi) (hs : swapsWithSole [.Subscript o b pos] e spos.line X.env = pure false := by rfl) (hw : swappedStores [.Subscript o b pos] e X.env = pure none := by rfl)
    (h1 : (assignEach [.Subscript o b pos] X.env).map (·.2) = [assign (.Subscript o b pos) X.env] := by rfl)
    (ha : ∀ v, assign (.Subscript o b pos) X.env v = (do
      let ov ← holding [v] (eval o X.env)
      let iv ← holding [v, ov] (eval b X.env)
      standAt pos
      holding [v, ov, iv] (setItem ov iv v)
      release [v, ov, iv] []) := by intro _; rfl) : S X y fz pn (.Assign [.Subscript o b pos] e spos) (sSubL r fp fi f) := by
  refine ⟨ps_imp (ps_asg h.pe (pg_sub ho.pe hi.pe set_list ha) hs hw h1) fun Dn σ H q => ?_⟩
  obtain ⟨env, F, R, he, q⟩ := q
  refine ⟨env, F, R, he, (Sat.ofI q).mono (fun d e q v H1 F1 fv A ov n p => ?_) fun x q => q⟩
  refine ⟨e, _, A.ok.rd, (IR.post_ofP (Sat.ofI q)).mono (fun pt q o H2 s2 hat => ?_) fun x q => (q.stp A.stp).p⟩
  have A2 := A.trans (Aft.same A.ok s2)
  refine ⟨e, _, A2.ok.rd, (IR.post_ofP (Sat.ofI q)).mono (fun k q w H3 fk s3 ok => ?_) fun x q => (q.stp A2.stp).p⟩
  have A3 := A2.trans (Aft.same A2.ok s3)
  obtain ⟨e', e1, q⟩ := Sat.opS q
  unfold setLD at e1
  simp only [Option.bind_eq_some_iff] at e1
  obtain ⟨ds, e1, ki, e2, j, e3, e4⟩ := e1
  cases e4
  have hk := intOf_some e2
  have hw := ok.see
  rw [hk] at hw
  have := see_int hw
  subst this
  obtain ⟨aa, vs, fl, rfl, h1, h2, h3, h4, h5⟩ := aft_write A3 he hr e1 fun v0 q => (hat v0 q).same s3
  have ov3 := (ov.same s2).same s3
  have nv : ∀ b ∈ fv, b ∉ aa :: fl := fun b m m' => n b m r (h4 b m')
  refine ⟨aa, vs, ki, j, rfl, rfl, h1, by rw [h2.length]; exact e3, ?_⟩
  have o1 : OwnAll X.K (upd H3 aa (.lst (vs.set j v))) vs ds fl := RelAll.updF h1 h2 h3
  have o2 : Own X.K (upd H3 aa (.lst (vs.set j v))) v d fv := Rel.updF h1 ov3 fun m => nv _ m List.mem_cons_self
  obtain ⟨fp', u1, u2⟩ := o1.setAt (j := j) o2 fun b m m' => nv b m (List.mem_cons_of_mem _ m')
  obtain ⟨F', B, _, _⟩ := h5 _ _ fp' u1 (fun m => (u2 _ m).elim h3 fun m => nv _ m List.mem_cons_self) fun b m => (u2 b m).imp id fun m => ⟨n b m, p b m⟩
  exact q σ _ F' B.s

/-! ### dicts -/
theorem aft_root {K : Fg} {R : Addr → Prop} {σ : L2.St} {H0 H : Hp} {env0 env : List D} {F0 F : Nat → List Addr} (A : Aft K fz R σ H0 F0 env0 H F env) (e0 : EnvOk K H0 fz R σ env0 F0) (hr : r ∉ fz) {d0 : D} (hd : env[r]? = some d0) (hne : d0 ≠ .hole) :
    ∃ v0, σ[r]? = some (some v0) ∧ Own K H v0 d0 (F r) ∧ ∀ (H' : Hp) (d' : D) (fp' : List Addr), (∀ b o, b ∉ F r → H b = some o → H' b = some o) → (∀ b o, H b = some o → ∃ o', H' b = some o') → Tk H H' → Own K H' v0 d' fp' →
      (∀ b ∈ fp', b ∈ F r ∨ ((∀ j, b ∉ F j) ∧ ((∃ j, b ∈ F0 j) ∨ H0 b = none))) → d' ≠ .hole → ∃ F', Aft K fz R σ H0 F0 env0 H' F' (env.set r d') := by
  rcases A.ok.own r d0 hd hr with z | ⟨v0, q1, q2⟩
  · exact absurd z hne
  refine ⟨v0, q1, q2, fun H' d' fp' k l t o n nh => ?_⟩
  have hlt : r < env.length := by
    rcases Nat.lt_or_ge r env.length with z | z
    · exact z
    · rw [List.getElem?_eq_none z] at hd; cases hd
  have e1 := (A.ok.drop r).keep (H' := H') (fun b o z m => by
    refine k b o (fun m' => ?_) z
    rcases m with ⟨j, m⟩ | m
    · by_cases hj : j = r
      · subst hj; rw [updF_same] at m; cases m
      · rw [updF_ne hj] at m; exact A.ok.dis j r hj b m m'
    · exact (A.ok.out b m).2 r m') t
  have e2 := e1.put (i := r) (v := v0) (d := d') (fp := fp') hr (by simpa using hlt) nh o (fun b m j hj m' => by
    rw [updF_ne hj] at m'
    rcases n b m with z | z
    · exact A.ok.dis r j (Ne.symm hj) b z m'
    · exact z.1 j m') (fun b m rb => by
    rcases n b m with z | z
    · exact (A.ok.out b rb).2 r z
    · exact e0.notR z.2 rb)
  rw [set_self q1, List.set_set, updF_updF] at e2
  refine ⟨_, ⟨⟨fun b o q nn => k b o (A.stp.out q nn r) (A.stp.keep b o q nn), fun b o q => ?_, A.stp.imm.trans t, fun i b m => ?_⟩, e2, fun i hi => ?_⟩⟩
  · obtain ⟨o', q⟩ := A.stp.live b o q
    exact l b o' q
  · by_cases hi : i = r
    · subst hi
      rw [updF_same] at m
      rcases n b m with z | z
      · exact A.stp.new i b z
      · exact z.2
    · rw [updF_ne hi] at m; exact A.stp.new i b m
  · have hir : i ≠ r := fun z => hr (z ▸ hi)
    rw [List.getElem?_set_ne (Ne.symm hir)]
    exact A.fix i hi
def putVs : List PyData → List D → PyData → D → List D
  | k :: ks, v :: vs, x, d => (if PyData.eqv k x = true then d else v) :: putVs ks vs x d
  | _, _, _, _ => []
theorem put_same {K : Fg} {H : Hp} {C : Addr → HO → Prop} {κ : Type} [DecidableEq κ] {f : κ → PyData} (hf : ∀ k k', PyData.eqv (f k) (f k') = decide (k = k')) {v : V} {d : D} (hr : Rel K H C v d []) : ∀ {kvs : List (κ × V)} {ds : List D} {fp : List Addr} {k : κ}, RelAll K H C (kvs.map (·.2)) ds fp →
    ∃ fp', RelAll K H C ((kvs.map fun kv => if kv.1 = k then (kv.1, v) else kv).map (·.2)) (putVs (kvs.map fun kv => f kv.1) ds (f k) d) fp' ∧ ∀ b ∈ fp', b ∈ fp
  | [], ds, _, _, h => by cases h; exact ⟨[], .nil, by simp⟩
  | kv :: kvs, [], _, _, h => by cases h
  | kv :: kvs, d' :: ds, _, k, h => by
    simp only [List.map_cons] at h ⊢
    cases h with
    | @cons _ _ _ _ f1 f2 h1 h2 h3 =>
      obtain ⟨fp', u1, u2⟩ := put_same hf hr (k := k) h2
      rw [putVs, hf]
      by_cases hk : kv.1 = k
      · rw [if_pos hk, decide_eq_true hk, if_pos rfl]
        have := RelAll.cons hr u1 (by simp)
        exact ⟨_, this, fun b m => List.mem_append_right _ (u2 b (by simpa using m))⟩
      · rw [if_neg hk, decide_eq_false hk, if_neg (by decide)]
        refine ⟨f1 ++ fp', .cons h1 u1 fun b m m' => h3 b m (u2 b m'), fun b m => ?_⟩
        rcases List.mem_append.mp m with m | m
        · exact List.mem_append_left _ m
        · exact List.mem_append_right _ (u2 b m)
theorem any_keys {κ : Type} [DecidableEq κ] {f : κ → PyData} (hf : ∀ k k', PyData.eqv (f k) (f k') = decide (k = k')) {k : κ} : ∀ {kvs : List (κ × V)}, ((kvs.map fun kv => f kv.1).any fun z => PyData.eqv z (f k)) = kvs.any fun kv => decide (kv.1 = k)
  | [] => rfl
  | kv :: kvs => by simp only [List.map_cons, List.any_cons]; rw [any_keys hf, hf]
theorem keys_same {κ : Type} [DecidableEq κ] {f : κ → PyData} {k : κ} {v : V} : ∀ {kvs : List (κ × V)}, (kvs.map fun kv => if kv.1 = k then (kv.1, v) else kv).map (fun kv => f kv.1) = kvs.map fun kv => f kv.1
  | [] => rfl
  | kv :: kvs => by
    simp only [List.map_cons]
    rw [keys_same]
    by_cases h : kv.1 = k
    · rw [if_pos h]
    · rw [if_neg h]
def isTK : D → Bool
  | .dct _ _ => true
  | _ => false
def mkDic (t : Bool) (ks : List PyData) (vs : List D) : D := if t = true then .dct ks vs else .dic ks vs
/-- c[x] = d -/
def putDic (c : D) (x : PyData) (d : D) : Option D := (dPart c x).bind fun p => if p.1.length < 16777216 then
  (if (p.1.any fun k => PyData.eqv k x) = true then (if grd d = true then some (mkDic (isTK c) p.1 (putVs p.1 p.2 x d)) else none) else some (mkDic (isTK c) (p.1 ++ [x]) (p.2 ++ [d]))) else none
theorem grd_fp {K : Fg} {H : Hp} {C : Addr → HO → Prop} {v : V} {d : D} {fp : List Addr} (h : Rel K H C v d fp) (g : grd d = true) : fp = [] := by
  cases d with
  | g x => cases h; rfl
  | _ => cases g
theorem put_any {K : Fg} {H : Hp} {v0 w v : V} {c d d' : D} {x : PyData} {F0 fd : List Addr} (ho : Own K H v0 c F0) (hw : Gp K H w x) (hv : Own K H v d fd) (hn : ∀ b ∈ fd, b ∉ F0) (h : putDic c x d = some d') :
    ∃ a H', v0 = .ref a ∧ PutU K H a w v H' ∧ (∀ b o, b ∉ F0 → H b = some o → H' b = some o) ∧ (∀ b o, H b = some o → ∃ o', H' b = some o') ∧ Tk H H' ∧ d' ≠ .hole ∧ ∃ fp', Own K H' v0 d' fp' ∧ ∀ b ∈ fp', b ∈ F0 ∨ b ∈ fd := by
  unfold putDic at h
  rw [Option.bind_eq_some_iff] at h
  obtain ⟨⟨ks, vs⟩, e1, h⟩ := h
  split at h
  · rename_i hz
    dsimp only at hz h
    -- what stays
    have stay : ∀ {a : Addr} {fl : List Addr} {o o' : HO}, H a = some o → mobj o = true → F0 = a :: fl → (∀ b ob, b ∉ F0 → H b = some ob → upd H a o' b = some ob) ∧ (∀ b ob, H b = some ob → ∃ ob', upd H a o' b = some ob') ∧ Tk H (upd H a o') := fun {a fl o o'} ha hm e => by
      refine ⟨fun b ob n q => ?_, fun b ob q => ?_, fun b ob q i => ?_⟩
      · rw [upd_ne (fun z => n (by rw [e, z]; exact List.mem_cons_self))]; exact q
      · by_cases hb : b = a
        · exact ⟨_, by rw [hb, upd_same]⟩
        · exact ⟨ob, by rw [upd_ne hb]; exact q⟩
      · have : b ≠ a := fun z => by
          rw [z, ha] at q; cases q
          cases o <;> first | (cases i; done) | (cases hm; done)
        rw [upd_ne this]; exact q
    unfold dPart at e1
    split at e1
    · split at e1
      · rename_i hk
        cases e1
        cases ho with
        | @dic a kvs _ _ fl q1 q0 q2 q3 =>
          subst q0
          obtain ⟨k, rfl, rfl⟩ := flatK_key hk hw
          have hz' : kvs.length < sizeLine := by rw [sizeLine_eq]; simpa using hz
          refine ⟨a, _, rfl, .inl (.inl ⟨kvs, k, q1, rfl, hz', rfl⟩), (stay q1 rfl rfl).1, (stay q1 rfl rfl).2.1, (stay q1 rfl rfl).2.2, ?_⟩
          have tk := (stay (o' := .dK (putK kvs k v)) q1 rfl rfl).2.2
          have o1 : OwnAll K (upd H a (.dK (putK kvs k v))) (kvs.map (·.2)) vs fl := RelAll.frame tk _ _ fl (fun b m ob q => by rw [upd_ne (fun z => q3 (by rw [← z]; exact m))]; exact q) q2
          have o2 : Own K (upd H a (.dK (putK kvs k v))) v d fd := Rel.frame tk _ _ fd (fun b m ob q => by rw [upd_ne (fun z => hn b m (by rw [z]; exact List.mem_cons_self))]; exact q) hv
          rw [any_keys key_eqv] at h
          split at h
          · rename_i ha
            split at h
            · rename_i hg
              cases h
              have := grd_fp o2 hg; subst this
              obtain ⟨fp', u1, u2⟩ := put_same key_eqv o2 (k := k) o1
              refine ⟨by simp [mkDic, isTK], a :: fp', ?_, fun b m => ?_⟩
              · have e : putK kvs k v = kvs.map (fun kv => if kv.1 = k then (kv.1, v) else kv) := by unfold putK; rw [if_pos ha]
                show Own K _ _ (.dic _ _) _
                exact .dic upd_same (by rw [e, keys_same]) (by rw [e]; rw [e] at u1; exact u1) fun m => q3 (u2 _ m)
              · exact .inl ((List.mem_cons.mp m).elim (fun z => by rw [z]; exact List.mem_cons_self) fun m => List.mem_cons_of_mem _ (u2 b m))
            · cases h
          · rename_i ha
            cases h
            have e : putK kvs k v = kvs ++ [(k, v)] := by unfold putK; rw [if_neg ha]
            refine ⟨by simp [mkDic, isTK], a :: (fl ++ fd), ?_, fun b m => ?_⟩
            · have o3 := RelAll.cons o2 RelAll.nil (by simp)
              rw [List.append_nil] at o3
              show Own K _ _ (.dic _ _) _
              refine .dic upd_same (by rw [e]; simp) (by rw [e, List.map_append]; rw [e] at o1 o3; exact RelAll.app o1 o3 fun b m m' => hn b m' (List.mem_cons_of_mem _ m)) fun m => ?_
              rcases List.mem_append.mp m with m | m
              · exact q3 m
              · exact hn _ m List.mem_cons_self
            · rcases List.mem_cons.mp m with rfl | m
              · exact .inl List.mem_cons_self
              · exact (List.mem_append.mp m).imp (fun m => List.mem_cons_of_mem _ m) id
      · cases e1
    · split at e1
      · rename_i hk
        cases e1
        cases ho with
        | @dct a es _ _ fl q1 q0 qk q2 q3 =>
          subst q0
          obtain ⟨k, b0, ek, rfl, kb⟩ := nkB_at hk hw
          rw [ek] at h
          have e1 : es.map (fun e => e.1.data) = (kvN es).map fun kv => kv.1.data := by unfold kvN; rw [List.map_map]; rfl
          have e2 : es.map (·.2.2) = (kvN es).map (·.2) := by unfold kvN; rw [List.map_map]; rfl
          have hz' : es.length < sizeLine := by rw [sizeLine_eq]; simpa using hz
          refine ⟨a, _, rfl, .inr ⟨es, k, b0, q1, qk, rfl, kb, hz', rfl⟩, (stay q1 rfl rfl).1, (stay q1 rfl rfl).2.1, (stay q1 rfl rfl).2.2, ?_⟩
          have tk := (stay (o' := NkO a (putN es k b0 v)) q1 rfl rfl).2.2
          have o1 : OwnAll K (upd H a (NkO a (putN es k b0 v))) ((kvN es).map (·.2)) vs fl := by
            rw [← e2]
            exact RelAll.frame tk _ _ fl (fun b m ob q => by rw [upd_ne (fun z => q3 (by rw [← z]; exact m))]; exact q) q2
          have o2 : Own K (upd H a (NkO a (putN es k b0 v))) v d fd := Rel.frame tk _ _ fd (fun b m ob q => by rw [upd_ne (fun z => hn b m (by rw [z]; exact List.mem_cons_self))]; exact q) hv
          have ks2 : NkKs K (upd H a (NkO a (putN es k b0 v))) (putN es k b0 v) := fun e m => by
            refine NkK.frame ?_ tk
            unfold putN at m
            split at m
            · obtain ⟨e0, m0, rfl⟩ := List.mem_map.mp m
              split
              · exact qk e0 m0
              · exact qk e0 m0
            · rcases List.mem_append.mp m with m | m
              · exact qk e m
              · rw [List.mem_singleton.mp m]; exact kb
          have ha0 : (es.any fun e => decide (e.1 = k)) = (kvN es).any fun kv => decide (kv.1 = k) := by unfold kvN; rw [List.any_map]; rfl
          rw [e1, any_keys key_eqvN] at h
          split at h
          · rename_i ha
            have e3 : putN es k b0 v = es.map (fun e => if e.1 = k then (e.1, e.2.1, v) else e) := by unfold putN; rw [ha0, if_pos ha]
            have e4 : (putN es k b0 v).map (·.2.2) = ((kvN es).map fun kv => if kv.1 = k then (kv.1, v) else kv).map (·.2) := by
              rw [e3]
              unfold kvN
              rw [List.map_map, List.map_map, List.map_map]
              refine List.map_congr_left fun e _ => ?_
              show (if e.1 = k then (e.1, e.2.1, v) else e).2.2 = (if e.1 = k then (e.1, v) else (e.1, e.2.2)).2
              by_cases h : e.1 = k
              · rw [if_pos h, if_pos h]
              · rw [if_neg h, if_neg h]
            have e5 : (putN es k b0 v).map (fun e => e.1.data) = (kvN es).map fun kv => kv.1.data := by
              rw [e3, ← e1, List.map_map]
              refine List.map_congr_left fun e _ => ?_
              show (if e.1 = k then (e.1, e.2.1, v) else e).1.data = _
              by_cases h : e.1 = k
              · rw [if_pos h]
              · rw [if_neg h]
            split at h
            · rename_i hg
              cases h
              have := grd_fp o2 hg; subst this
              obtain ⟨fp', u1, u2⟩ := put_same key_eqvN o2 (k := k) o1
              refine ⟨by simp [mkDic, isTK], a :: fp', ?_, fun b m => ?_⟩
              · show Own K _ _ (.dct _ _) _
                exact .dct upd_same e5.symm ks2 (by rw [e4]; exact u1) fun m => q3 (u2 _ m)
              · exact .inl ((List.mem_cons.mp m).elim (fun z => by rw [z]; exact List.mem_cons_self) fun m => List.mem_cons_of_mem _ (u2 b m))
            · cases h
          · rename_i ha
            cases h
            have e3 : putN es k b0 v = es ++ [(k, b0, v)] := by unfold putN; rw [ha0, if_neg ha]
            refine ⟨by simp [mkDic, isTK], a :: (fl ++ fd), ?_, fun b m => ?_⟩
            · have o3 := RelAll.cons o2 RelAll.nil (by simp)
              rw [List.append_nil] at o3
              show Own K _ _ (.dct _ _) _
              refine .dct upd_same (by rw [e3, ← e1, List.map_append]; rfl) ks2 ?_ fun m => ?_
              · have o4 := RelAll.app o1 o3 fun b m m' => hn b m' (List.mem_cons_of_mem _ m)
                rw [← e2] at o4
                rw [show (putN es k b0 v).map (·.2.2) = es.map (·.2.2) ++ [v] from by rw [e3, List.map_append]; rfl]
                exact o4
              · rcases List.mem_append.mp m with m | m
                · exact q3 m
                · exact hn _ m List.mem_cons_self
            · rcases List.mem_cons.mp m with rfl | m
              · exact .inl List.mem_cons_self
              · exact (List.mem_append.mp m).imp (fun m => List.mem_cons_of_mem _ m) id
      · cases e1
    · cases e1
  · cases h
def putSl (r : Nat) (k d : D) (e : List D) : Option (List D) := match e[r]?, k with
  | some c, .g x => (putDic c x d).map fun c => e.set r c
  | _, _ => none
def liveAt (r : Nat) (e : List D) : PR Unit := match e[r]? with
  | some .hole => .bad
  | some _ => .ok ()
  | none => .bad
theorem liveAt_post {r : Nat} {e : List D} {ok : Unit → Prop} {er : Ex → Prop} (h : (liveAt r e).post ok er) : (∃ c, e[r]? = some c ∧ c ≠ .hole) ∧ ok () := by
  unfold liveAt at h
  split at h
  · exact (h : False).elim
  · rename_i c hn e1; exact ⟨⟨c, e1, fun z => hn z⟩, h⟩
  · exact (h : False).elim
def sPut (r : Nat) (fi : PF) (f : IF) : SF := fun env => (f env).toS fun d e => (IR.ofP (liveAt r e) e).toS fun _ e => (IR.ofP (fi e) e).toS fun k e => OpS (putSl r k.d d e)
theorem putDic_hole {x : PyData} {d : D} : putDic .hole x d = none := by cases x <;> rfl
theorem s_put {fi : PF} {f : IF} (hu : X.A.units + 64 < cLine) (hr : fz.contains r = false) (h : I X y fz e f) (ho : PE X (.Name x p2) (tVar r)) (hi : P X y b fi) (hs : swapsWithSole [.Subscript (.Name x p2) b pos] e spos.line X.env = pure false := by rfl) (hw : swappedStores [.Subscript (.Name x p2) b pos] e X.env = pure none := by rfl)
    (h1 : (assignEach [.Subscript (.Name x p2) b pos] X.env).map (·.2) = [assign (.Subscript (.Name x p2) b pos) X.env] := by rfl)
    (ha : ∀ v, assign (.Subscript (.Name x p2) b pos) X.env v = (do
      let ov ← holding [v] (eval (.Name x p2) X.env)
      let iv ← holding [v, ov] (eval b X.env)
      standAt pos
      holding [v, ov, iv] (setItem ov iv v)
      release [v, ov, iv] []) := by intro _; rfl) : S X y fz pn (.Assign [.Subscript (.Name x p2) b pos] e spos) (sPut r fi f) := by
  have hri : r ∉ fz := fun m => by rw [List.contains_iff_mem.mpr m] at hr; cases hr
  refine ⟨ps_imp (ps_asg h.pe (pg_sub ho hi.pe (set_u hu) ha) hs hw h1) fun Dn σ H q => ?_⟩
  obtain ⟨env, F, R, he, q⟩ := q
  refine ⟨env, F, R, he, (Sat.ofI q).mono (fun d e q v H1 F1 fv A ov n p => ?_) fun x q => q⟩
  obtain ⟨⟨c, hc, hne⟩, q⟩ := liveAt_post (IR.post_ofP (Sat.ofI q))
  obtain ⟨v0, q1, rd⟩ : ∃ v0, σ[r]? = some (some v0) ∧ RdEnv X.K (fun b => ∃ o, H1 b = some o) H1 σ e := by
    rcases A.ok.own r c hc hri with z | ⟨v0, z1, _⟩
    · exact absurd z hne
    · exact ⟨v0, z1, A.ok.rd⟩
  refine ⟨v0, q1, e, _, rd, (IR.post_ofP (Sat.ofI q)).mono (fun k q w H2 fk s2 ok => ?_) fun x q => (q.stp A.stp).p⟩
  have A2 := A.trans (Aft.same A.ok s2)
  obtain ⟨e', e1, q⟩ := Sat.opS q
  unfold putSl at e1
  split at e1
  · rename_i c x hc hk
    rw [Option.map_eq_some_iff] at e1
    obtain ⟨c', e1, rfl⟩ := e1
    have hne : c ≠ .hole := fun z => by rw [z, putDic_hole] at e1; cases e1
    obtain ⟨v1, z1, z2, z3⟩ := aft_root A2 he hri hc hne
    rw [q1] at z1; cases z1
    have hw := ok.see
    rw [hk] at hw
    obtain ⟨a, H', rfl, w1, w2, w3, w4, w5, fp', w6, w7⟩ := put_any z2 (see_g hw).1 (ov.same s2) (fun b m m' => n b m r m') e1
    refine ⟨a, H', rfl, w1, ?_⟩
    obtain ⟨F', B⟩ := z3 H' c' fp' w2 w3 w4 w6 (fun b m => (w7 b m).imp id fun m => ⟨n b m, p b m⟩) w5
    exact q σ H' F' B.s
  · cases e1

def tNewU : TE := fun _ H Q => ∀ p, H p = none → Q (.ref p) (upd H p (NkO p []))
theorem pe_newU : PE X (.Dict [] [] pos) tNewU := ⟨fun pins s σ H Q I h => by
  have hb : (s.heap.objs.size == sysModules) = false := by
    have := I.big
    simp only [beq_eq_false_iff_ne, ne_eq]
    exact fun z => Nat.lt_irrefl _ (z ▸ this)
  have hg : (s.heap.push { cls := .type "dict", data := .dict #[] }).get? s.heap.objs.size = some { cls := .type "dict", data := .dict #[] } := Heap.get?_push_size _ rfl
  obtain ⟨_, _, _, q1, q2, _⟩ := Heap.DictOfH.new (knd := nestedKind X.prog X.w) s.heap
  rw [hg] at q1
  cases q1
  exact wpAny_Dict_empty ⟨.ref s.heap.objs.size, _, I.laid (a := s.heap.objs.size) (o := NkO s.heap.objs.size []) (t' := s.toks) (fun _ _ q => Heap.get?_push_of_some _ q) (Nat.le_refl _) (nkO_ok ⟨Nat.zero_le _, hb, [], .nil, _, #[], 0, hg, q2, rfl, fun _ => rfl, List.nodup_nil⟩), rfl, h _ (I.hok.fresh (Nat.le_refl _))⟩⟩
def pDicT : PF := fun _ => .ok (.own (.dct [] []))
theorem p_dicT : P X y (.Dict [] [] pos) pDicT := by
  refine ⟨pe_imp pe_newU fun σ H Q q => ?_⟩
  obtain ⟨env, Z, hR, h⟩ := q
  intro p np
  exact h _ _ [p] (same_upd np) ⟨.dct upd_same rfl (fun _ m => nomatch m) .nil (by simp), by simpa using np⟩
/-- d.get(k, z) -/
def isD : D → Bool
  | .dic _ _ => true
  | .dct _ _ => true
  | _ => false
def getDF (c k : D) (z : Pv) : Option Pv := match k with
  | .g x => (dPart c x).bind fun p => match dGet p.1 p.2 x with
    | some d => toPv d
    | none => some z
  | _ => none
def pGet2 (fc fk fz : PF) : PF := fun env => (fc env).bind fun c => if isD c.d = true then (fk env).bind fun k => (fz env).bind fun z => PR.of (getDF c.d k.d z) else .bad
theorem isD_see {K : Fg} {H : Hp} {v : V} {d : D} {fp : List Addr} (h : See K H v d fp) (e : isD d = true) : ∃ a, v = .ref a ∧ IsU H a := by
  cases d with
  | dic ks vs =>
    obtain ⟨a, kvs, _, rfl, h1, _⟩ := see_dic h
    exact ⟨a, rfl, .inl (.inl ⟨kvs, h1⟩)⟩
  | dct ks vs =>
    obtain ⟨a, es, _, rfl, h1, _⟩ := see_dct h
    exact ⟨a, rfl, .inr ⟨es, h1⟩⟩
  | _ => cases e
theorem p_get2 {fc fk fz : PF} (hu : X.A.units + 64 < cLine) (hc : P X y o fc) (hk : P X y a fk) (hz : P X y b fz) (m : M2 X o "get" apos a b cpos) : P X y (.Call (.Attribute o "get" apos) [a, b] [] cpos) (pGet2 fc fk fz) := by
  refine ⟨pe_imp (pe_getU hu hc.pe hk.pe hz.pe m) fun σ H Q q => ?_⟩
  obtain ⟨env, Z, hR, h⟩ := q
  refine ⟨env, Z, hR, (PR.post_bind h).mono (fun c h v1 H1 fp1 s1 o1 => ?_) fun x q => q⟩
  split at h
  · rename_i hd
    obtain ⟨aa, rfl, dd⟩ := isD_see o1.see hd
    refine ⟨aa, rfl, dd, env, Z, hR.same s1, (PR.post_bind h).mono (fun k h v2 H2 fp2 s2 o2 => ?_) fun x q => q.same s1⟩
    refine ⟨env, Z, (hR.same s1).same s2, (PR.post_bind h).mono (fun z h v3 H3 fp3 s3 o3 => ?_) fun x q => q.same (s1.trans s2)⟩
    obtain ⟨p, e1, q⟩ := PR.post_of h
    unfold getDF at e1
    split at e1
    · rename_i x hx
      rw [Option.bind_eq_some_iff] at e1
      obtain ⟨⟨ks, vs⟩, e2, e3⟩ := e1
      have s23 := s2.trans s3
      have hk2 := (o2.see.same s3)
      rw [hx] at hk2
      obtain ⟨a', r, ea, g1, _, g3, g4⟩ := dget_any (o1.see.same s23) e2 (see_g hk2).1
      cases ea
      refine ⟨r, g1, ?_⟩
      split at e3
      · rename_i d e4
        obtain ⟨u, f, rfl, e5, e6⟩ := g3 d e4
        refine q u H3 f (s1.trans s23) ?_
        have := toPv_see e5 e3
        cases p with
        | own r => exact ⟨this.1, by rw [this.2]; simp⟩
        | bor r => exact ⟨this.1, fun b m => (o1.prov b (e6 b (this.2 b m)))⟩
      · rename_i e4
        cases e3
        rw [g4 e4]
        exact q v3 H3 fp3 (s1.trans s23) (o3.weak (s1.trans s2))
    · cases e1
  · exact (h : False).elim
end
end Ow

set_option Elab.async false
set_option linter.all false
set_option maxRecDepth 100000
set_option maxHeartbeats 1000000
/-! OwS: loops and comprehensions over a dict's keys. -/
namespace Ow
open PySem PySem.Spec PyProof.Rows L2

def dKeys : D → Option (List PyData)
  | .dic ks _ => some ks
  | .dct ks _ => some ks
  | _ => none
/-- each key with its value, where all values are ground -/
def dItems : D → Option (List D)
  | .dic ks vs => (gAll vs).map fun xs => (ks.zip xs).map fun p => .g (.tuple [p.1, p.2])
  | .dct ks vs => (gAll vs).map fun xs => (ks.zip xs).map fun p => .g (.tuple [p.1, p.2])
  | _ => none
def dKeysL (c : D) : Option (List D) := (dKeys c).map (·.map .g)
/-- what the iterator over a locked dict gives -/
def KJ (K : Fg) (H : Hp) (d : Addr) (od : Obj) (u : HO) (xs : List D) (J : It) : Prop := ∀ H2, Tk H H2 → H2 d = some (.frz od u) → ∀ i,
  (∀ x, xs[i]? = some x → J.go i H2 ∧ ∀ v H3, J.yld i H2 v H3 → Same H2 H3 ∧ See K H3 v x []) ∧ (xs.length ≤ i → J.stop i H2)
theorem KJ.frame {K : Fg} {H H' : Hp} {d : Addr} {od : Obj} {u : HO} {xs : List D} {J : It} (h : KJ K H d od u xs J) (t : Tk H H') : KJ K H' d od u xs J := fun H2 t2 e => h H2 (t.trans t2) e
abbrev F1 := Addr → Obj → List (Key × V) → It
abbrev F2 := Addr → Obj → List NE → It
def DJ (f1 : F1) (f2 : F2) (K : Fg) (H : Hp) (d : Addr) (od : Obj) (u : HO) (xs : List D) : Prop := (∃ kvs, u = .dK kvs ∧ KJ K H d od u xs (f1 d od kvs)) ∨ ∃ es, u = NkO d es ∧ KJ K H d od u xs (f2 d od es)
theorem DJ.frame {f1 : F1} {f2 : F2} {K : Fg} {H H' : Hp} {d : Addr} {od : Obj} {u : HO} {xs : List D} (h : DJ f1 f2 K H d od u xs) (t : Tk H H') : DJ f1 f2 K H' d od u xs :=
  h.imp (fun ⟨kvs, e, q⟩ => ⟨kvs, e, q.frame t⟩) fun ⟨es, e, q⟩ => ⟨es, e, q.frame t⟩
def iDict (f1 : F1) (f2 : F2) (td : TE) : TI := fun σ H R => td σ H fun x H1 => ∃ d o, x = .ref d ∧ ((∃ kvs, H1 d = some (.frz o (.dK kvs)) ∧ R (f1 d o kvs) H1) ∨ ∃ es, H1 d = some (.frz o (NkO d es)) ∧ R (f2 d o es) H1)
theorem gp_key {K : Fg} {H : Hp} (k : Key) : Gp K H (kV k) (keyD k) := by
  cases k with
  | inl i => exact .int i
  | inr x => exact .str x
theorem gp_keys {K : Fg} {H : Hp} : ∀ (k : List Key), GpAll K H (k.map kV) (k.map keyD)
  | [] => .nil
  | k :: ks => .cons (gp_key k) (gp_keys ks)
theorem kj_keysK {K : Fg} {H : Hp} {d : Addr} {od : Obj} (kvs : List (Key × V)) : KJ K H d od (.dK kvs) ((kvs.map fun kv => keyD kv.1).map .g) (Itk d od kvs) := fun H2 t e i => by
  refine ⟨fun x hx => ?_, fun hi => ⟨e, by simpa using hi⟩⟩
  simp only [List.getElem?_map, Option.map_eq_some_iff] at hx
  obtain ⟨_, ⟨kv, h1, rfl⟩, rfl⟩ := hx
  refine ⟨⟨e, (List.getElem?_eq_some_iff.mp h1).1⟩, fun v H3 hy => ?_⟩
  obtain ⟨rfl, k, w, h2, rfl⟩ := hy
  rw [h1] at h2; cases h2
  exact ⟨Same.refl _, .g (gp_key k)⟩
theorem kj_keysU {K : Fg} {H : Hp} {d : Addr} {od : Obj} (es : List NE) (hk : NkKs K H es) : KJ K H d od (NkO d es) ((es.map fun e => e.1.data).map .g) (ItU d od es) := fun H2 t e i => by
  refine ⟨fun x hx => ?_, fun hi => ⟨e, by simpa using hi⟩⟩
  simp only [List.getElem?_map, Option.map_eq_some_iff] at hx
  obtain ⟨_, ⟨en, h1, rfl⟩, rfl⟩ := hx
  refine ⟨⟨e, (List.getElem?_eq_some_iff.mp h1).1⟩, fun v H3 hy => ?_⟩
  obtain ⟨rfl, e2, h2, rfl⟩ := hy
  rw [h1] at h2; cases h2
  exact ⟨Same.refl _, .g ((hk en (List.mem_of_getElem? h1)).frame t).1⟩
theorem zip_item {K : Fg} {H H2 : Hp} (t : Tk H H2) {α : Type} {f : α → PyData} {g : α → V} : ∀ {l : List α} {xs : List PyData} {i : Nat} {x : D}, GpAll K H (l.map g) xs → (((l.map f).zip xs).map fun p => D.g (.tuple [p.1, p.2]))[i]? = some x →
    ∃ e y, l[i]? = some e ∧ x = .g (.tuple [f e, y]) ∧ Gp K H2 (g e) y
  | [], _, _, _, h, e => by cases h; simp at e
  | a :: l, [], _, _, h, e => by cases h
  | a :: l, y :: xs, 0, x, h, e => by
    simp only [List.map_cons] at h
    cases h with
    | cons h1 h2 =>
      simp at e
      subst e
      exact ⟨a, y, rfl, rfl, h1.frame t⟩
  | a :: l, y :: xs, i + 1, x, h, e => by
    simp only [List.map_cons] at h
    cases h with
    | cons h1 h2 =>
      obtain ⟨b, z, q1, q2, q3⟩ := zip_item t (i := i) h2 (by simpa using e)
      exact ⟨b, z, by simpa using q1, q2, q3⟩
theorem zip_len {K : Fg} {H : Hp} {α : Type} {f : α → PyData} {g : α → V} {l : List α} {xs : List PyData} (h : GpAll K H (l.map g) xs) : (((l.map f).zip xs).map fun p => D.g (.tuple [p.1, p.2])).length = l.length := by
  have := h.length
  rw [List.length_map] at this
  rw [List.length_map, List.length_zip, List.length_map]
  omega
theorem same_new {H : Hp} {T : Addr} {o : HO} (n : H T = none) : Same H (upd H T o) := fun b u q => by rw [upd_ne (fun z => by rw [z, n] at q; cases q)]; exact q
theorem kj_itemsK {K : Fg} {H : Hp} {d : Addr} {od : Obj} (kvs : List (Key × V)) {xs : List PyData} (hx : GpAll K H (kvs.map (·.2)) xs) : KJ K H d od (.dK kvs) (((kvs.map fun kv => keyD kv.1).zip xs).map fun p => .g (.tuple [p.1, p.2])) (Iti d od kvs) := fun H2 t e i => by
  refine ⟨fun x hi => ?_, fun hi => ⟨e, by rw [zip_len hx] at hi; exact hi⟩⟩
  obtain ⟨kv, y, h1, rfl, g⟩ := zip_item t hx hi
  refine ⟨⟨e, (List.getElem?_eq_some_iff.mp h1).1⟩, fun v H3 hy => ?_⟩
  obtain ⟨T, k, w, h2, rfl, n, rfl⟩ := hy
  rw [h1] at h2; cases h2
  have s := same_new (o := .tup [kV k, w]) n
  exact ⟨s, .g (.tup upd_same (.cons (gp_key k) (.cons (g.frame (Tk.same s)) .nil)))⟩
theorem kj_itemsU {K : Fg} {H : Hp} {d : Addr} {od : Obj} (es : List NE) (hk : NkKs K H es) {xs : List PyData} (hx : GpAll K H (es.map (·.2.2)) xs) : KJ K H d od (NkO d es) (((es.map fun e => e.1.data).zip xs).map fun p => .g (.tuple [p.1, p.2])) (ItP d od es) := fun H2 t e i => by
  refine ⟨fun x hi => ?_, fun hi => ⟨e, by rw [zip_len hx] at hi; exact hi⟩⟩
  obtain ⟨en, y, h1, rfl, g⟩ := zip_item t hx hi
  refine ⟨⟨e, (List.getElem?_eq_some_iff.mp h1).1⟩, fun v H3 hy => ?_⟩
  obtain ⟨T, e2, h2, rfl, n, rfl⟩ := hy
  rw [h1] at h2; cases h2
  have s := same_new (o := .tup [.ref en.2.1, en.2.2]) n
  exact ⟨s, .g (.tup upd_same (.cons ((hk en (List.mem_of_getElem? h1)).frame (t.trans (Tk.same s))).1 (.cons (g.frame (Tk.same s)) .nil)))⟩
/-- how a dict is walked: its keys, its items -/
structure Sel (f1 : F1) (f2 : F2) (sel : D → Option (List D)) : Prop where
  h : ∀ {K : Fg} {H : Hp} {C : Addr → HO → Prop} {v : V} {c : D} {fp : List Addr} {xs : List D}, Rel K H C v c fp → sel c = some xs → ∃ d u, v = .ref d ∧ isDic u = true ∧ C d u ∧ d ∈ fp ∧ ∀ od, DJ f1 f2 K H d od u xs
theorem sel_keys : Sel Itk ItU dKeysL := ⟨fun {K H C v c fp xs} h e => by
  unfold dKeysL at e
  rw [Option.map_eq_some_iff] at e
  obtain ⟨ks, e, rfl⟩ := e
  cases c with
  | dic ks' vs =>
    cases e
    cases h with
    | dic h1 h2 h3 h4 => exact ⟨_, _, rfl, rfl, h1, List.mem_cons_self, fun od => .inl ⟨_, rfl, by rw [h2]; exact kj_keysK _⟩⟩
  | dct ks' vs =>
    cases e
    cases h with
    | dct h1 h2 hk h3 h4 => exact ⟨_, _, rfl, rfl, h1, List.mem_cons_self, fun od => .inr ⟨_, rfl, by rw [h2]; exact kj_keysU _ hk⟩⟩
  | _ => cases e⟩
theorem sel_items : Sel Iti ItP dItems := ⟨fun {K H C v c fp xs} h e => by
  cases c with
  | dic ks' vs =>
    unfold dItems at e
    rw [Option.map_eq_some_iff] at e
    obtain ⟨ys, e, rfl⟩ := e
    have := gAll_some e
    subst this
    cases h with
    | dic h1 h2 h3 h4 => exact ⟨_, _, rfl, rfl, h1, List.mem_cons_self, fun od => .inl ⟨_, rfl, by rw [h2]; exact kj_itemsK _ h3.ground.1⟩⟩
  | dct ks' vs =>
    unfold dItems at e
    rw [Option.map_eq_some_iff] at e
    obtain ⟨ys, e, rfl⟩ := e
    have := gAll_some e
    subst this
    cases h with
    | dct h1 h2 hk h3 h4 => exact ⟨_, _, rfl, rfl, h1, List.mem_cons_self, fun od => .inr ⟨_, rfl, by rw [h2]; exact kj_itemsU _ hk h3.ground.1⟩⟩
  | _ => cases e⟩
theorem see_dk {f1 : F1} {f2 : F2} {sel : D → Option (List D)} (sl : Sel f1 f2 sel) {K : Fg} {H : Hp} {v : V} {c : D} {fp : List Addr} {xs : List D} (h : See K H v c fp) (e : sel c = some xs) : ∃ d u, v = .ref d ∧ isDic u = true ∧ (H d = some u ∨ ∃ od, H d = some (.frz od u)) ∧ ∀ od, DJ f1 f2 K H d od u xs := by
  obtain ⟨d, u, rfl, hu, hc, _, hj⟩ := sl.h h e
  refine ⟨d, u, rfl, hu, ?_, hj⟩
  rcases hc with z | ⟨ob, _, z⟩
  · exact .inl z
  · exact .inr ⟨ob, z⟩
theorem mut_dic {u : HO} (h : isDic u = true) : Mut (some u) := by
  cases u <;> first | exact trivial | cases h
section
variable {K : Fg} {H : Hp} {d : Addr} {od : Obj} {u : HO}
/-- what is seen stays seen when a dict is locked -/
theorem SeeC.lock (hd : H d = some u) (hu : isDic u = true) {b : Addr} {o : HO} (h : SeeC H b o) : SeeC (upd H d (.frz od u)) b o := by
  by_cases hb : b = d
  · subst hb
    rcases h with h | ⟨ob, e, h⟩
    · rw [hd] at h; cases h
      exact .inr ⟨od, hu, upd_same⟩
    · rw [hd] at h; cases h; cases hu
  · rcases h with h | ⟨ob, e, h⟩
    · exact .inl (by rw [upd_ne hb]; exact h)
    · exact .inr ⟨ob, e, by rw [upd_ne hb]; exact h⟩
theorem tk_lock (hd : H d = some u) (hu : isDic u = true) : Tk H (upd H d (.frz od u)) := fun b o q i => by
  have : b ≠ d := fun z => by
    rw [z, hd] at q; cases q
    cases u <;> first | (cases i; done) | (cases hu; done)
  rw [upd_ne this]; exact q
theorem See.lock (hd : H d = some u) (hu : isDic u = true) {v : V} {x : D} {fp : List Addr} (h : See K H v x fp) : See K (upd H d (.frz od u)) v x fp :=
  Rel.frame (tk_lock hd hu) x v fp (fun _ _ _ e => SeeC.lock hd hu e) h
theorem RdEnv.lock (hd : H d = some u) (hu : isDic u = true) {Z : Addr → Prop} {σ : L2.St} {env : List D} (h : RdEnv K Z H σ env) : RdEnv K Z (upd H d (.frz od u)) σ env :=
  ⟨h.1, fun i x e => (h.2 i x e).imp id fun ⟨v, fp, e1, e2, e3⟩ => ⟨v, fp, e1, e2.lock hd hu, e3⟩⟩
/-- .. and unlocked again -/
theorem same_unlock {H' : Hp} (hd : H d = some u) (s : Same (upd H d (.frz od u)) H') : Same H (upd H' d u) := fun b o q => by
  by_cases hb : b = d
  · subst hb; rw [hd] at q; cases q; exact upd_same
  · rw [upd_ne hb]; exact s b o (by rw [upd_ne hb]; exact q)
end
/-- a comprehension's walk: over a dict's keys -/
def wKeys (f : PF) : PW' := fun env => (f env).bind fun p => (PR.of (dKeys p.d)).bind fun ks => .ok ⟨ks.map .g, isBor p⟩
section
variable {X : Cx} {y : Wi} {a b c e tg iter elt : Expr} {es : List Expr} {ifs : List Expr} {scope : Scope} {own : List (Str × Nat)} {pos p2 spos py : Pos} {fz pn : List Nat} {body : List Stmt} {r i : Nat} {x xs : Str}
theorem pe_or {e : Expr} {t u : TE} (h1 : PE X e t) (h2 : PE X e u) : PE X e (fun σ H Q => t σ H Q ∨ u σ H Q) := ⟨fun pins s σ H Q I q => q.elim (fun q => h1.run pins s σ H Q I q) fun q => h2.run pins s σ H Q I q⟩
theorem ps_or {e : Stmt} {t u : TS} (h1 : PS X e t) (h2 : PS X e u) : PS X e (fun D σ H => t D σ H ∨ u D σ H) := ⟨fun pins s σ H D I q => q.elim (fun q => h1.run pins s σ H D I q) fun q => h2.run pins s σ H D I q⟩
/-- the keys of the dict in slot r, where it is locked -/
def kKeys (r : Nat) : PF := fun env => match env[r]? with
  | some .hole => .bad
  | some d => .ok (.bor d)
  | none => .bad
/-- [elt for tg in d ..] -/
def pLcX (sel : D → Option (List D)) (r : Nat) (vs : List Nat) (p : Pat) (c : PB) (f : PF) : PF := fun env => (PR.of ((env[r]?).bind sel)).bind fun xs => endLc (goL p c (bgE f) (wipeD env vs) xs)
def pLcK (r : Nat) (vs : List Nat) (p : Pat) (c : PB) (f : PF) : PF := fun env => (PR.of ((env[r]?).bind dKeys)).bind fun ks => endLc (goL p c (bgE f) (wipeD env vs) (ks.map .g))
theorem pLcK_eq (r : Nat) (vs : List Nat) (p : Pat) (c : PB) (f : PF) : pLcX dKeysL r vs p c f = pLcK r vs p c f := by
  funext env
  unfold pLcX pLcK dKeysL
  cases env[r]? with
  | none => rfl
  | some d => show (PR.of ((dKeys d).map _)).bind _ = (PR.of (dKeys d)).bind _; cases dKeys d <;> rfl
/-- the reading where the dict is locked -/
theorem tLcK_of {f1 : F1} {f2 : F2} {K : Fg} {p : Pat} {c : PB} {f : PF} {vs : List Nat} {σ : L2.St} {H : Hp} {Q : VK} {env : List D} {Z : Addr → Prop} {xs : List D} {cd : D} (hsl : ∀ j ∈ p.slots, j ∈ vs) (hR : RdEnv K Z H σ env) (hc : env[r]? = some cd) (hne : cd ≠ .hole)
    (hl : ∀ v, σ[r]? = some (some v) → ∃ d u od, v = .ref d ∧ H d = some (.frz od u) ∧ DJ f1 f2 K H d od u xs)
    (q : (endLc (goL p c (bgE f) (wipeD env vs) xs)).post (fun p => ∀ v H' fp, Same H H' → PvOk K Z H H' v p fp → Q v H') (EP' K y σ H)) : tLc (iDict f1 f2 (tVar r)) (GPr K p) (tPB K (y0 y) c) (tP K (y0 y) f) vs σ H Q := by
  rcases hR.2 r cd hc with z | ⟨v, fp, e1, e2, e3⟩
  · exact absurd z hne
  obtain ⟨d, u, od, rfl, hd, hJ⟩ := hl v e1
  refine ⟨.ref d, e1, d, od, rfl, ?_⟩
  have main : ∀ J, KJ K H d od u xs J → ∀ Dd, H Dd = none → ∃ W : Nat → Nat → Hp → Prop, (∃ m, W 0 m (upd H Dd (.lst []))) ∧ ∀ i m H, W i m H →
      (J.stop i H ∧ Q (.ref Dd) H) ∨ (J.go i H ∧ ∃ Nx : Hp → Prop, (∀ H', Nx H' → ∃ m', m' < m ∧ W (i + 1) m' H') ∧ ∀ x H', J.yld i H x H' → GPr K p x (L2.wipe σ vs) H' fun σ2 H2 => L2.wipe σ2 vs = L2.wipe σ vs ∧ tPB K (y0 y) c σ2 H2 fun b H3 =>
        if b = true then tP K (y0 y) f σ2 H3 fun y H4 => ∃ acc, H4 Dd = some (.lst acc) ∧ acc.length < sizeLine ∧ Nx (upd H4 Dd (.lst (acc ++ [y]))) else Nx H3) := fun J hJ => by
    intro Dd nd
    refine lc_main hsl hR (Same.refl H) (fun H2 sb tk i => ?_) nd q
    have hne : d ≠ Dd := fun z => by rw [z, nd] at hd; cases hd
    have := hJ H2 ((Tk.same (same_upd nd)).trans tk) (sb d _ hne (by rw [upd_ne hne]; exact hd)) i
    exact ⟨fun x hx => ⟨(this.1 x hx).1, fun v H3 hy => ⟨((this.1 x hx).2 v H3 hy).1, [], ((this.1 x hx).2 v H3 hy).2, by simp⟩⟩, this.2⟩
  rcases hJ with ⟨kvs, rfl, h⟩ | ⟨es, rfl, h⟩
  · exact .inl ⟨kvs, hd, main _ h⟩
  · exact .inr ⟨es, hd, main _ h⟩

/-- over a dict in slot r, locked meanwhile if it is not yet -/
theorem tLcK_or {f1 : F1} {f2 : F2} {sel : D → Option (List D)} (sl : Sel f1 f2 sel) {K : Fg} {p : Pat} {c : PB} {f : PF} {vs : List Nat} {σ : L2.St} {H : Hp} {Q : VK} (hsl : ∀ j ∈ p.slots, j ∈ vs) (q : tP K y (pLcX sel r vs p c f) σ H Q) :
    tLc (iDict f1 f2 (tVar r)) (GPr K p) (tPB K (y0 y) c) (tP K (y0 y) f) vs σ H Q ∨ tLockE (tLc (iDict f1 f2 (tVar r)) (GPr K p) (tPB K (y0 y) c) (tP K (y0 y) f) vs) σ H Q := by
  obtain ⟨env, Z, hR, h⟩ := q
  obtain ⟨xs, e1, h⟩ := PR.post_of (PR.post_bind h)
  rw [Option.bind_eq_some_iff] at e1
  obtain ⟨cd, hc, hk⟩ := e1
  rcases hR.2 r cd hc with z | ⟨v, fp, e1, e2, e3⟩
  · subst z
    obtain ⟨_, _, z, _⟩ := sl.h (K := K) (H := H) (C := fun _ _ => False) (v := .non) .hole hk
    cases z
  have hne : cd ≠ .hole := fun z => by
    subst z
    obtain ⟨_, _, z, _⟩ := sl.h (K := K) (H := H) (C := fun _ _ => False) (v := .non) .hole hk
    cases z
  obtain ⟨d, u, rfl, hu, hd | ⟨od, hd⟩, hJ⟩ := see_dk sl e2 hk
  · refine .inr ⟨d, u, hd, mut_dic hu, fun od => ?_⟩
    have hR2 := RdEnv.lock (od := od) hd hu hR
    refine tLcK_of (y := ⟨fun _ _ _ _ => True, y.cl⟩) hsl hR2 hc hne (fun v q => by rw [e1] at q; cases q; exact ⟨d, u, od, rfl, upd_same, (hJ od).frame (tk_lock hd hu)⟩) ?_
    obtain ⟨rs, e4, e5, e6⟩ := endLc_post h
    rw [e4]
    unfold endLc
    dsimp only
    rw [if_pos e5]
    intro v H' fp s o
    have s2 := same_unlock (od := od) hd s
    have hd' : H' d = some (.frz od u) := s d _ upd_same
    refine ⟨hd', e6 v (upd H' d u) fp s2 ⟨?_, fun b m => ?_⟩⟩
    · have nd : d ∉ fp := fun m => by
        have := o.2 d m
        rw [upd_same] at this; cases this
      refine Rel.frame (fun b ob q i => ?_) _ v fp (fun b m ob q => by rw [upd_ne (fun z => nd (by rw [← z]; exact m))]; exact q) o.1
      have : b ≠ d := fun z => by rw [z, hd'] at q; cases q; cases u <;> first | (cases i; done) | (cases hu; done)
      rw [upd_ne this]; exact q
    · have := o.2 b m
      by_cases hb : b = d
      · subst hb; rw [upd_same] at this; cases this
      · rw [upd_ne hb] at this; exact this
  · exact .inl (tLcK_of hsl hR hc hne (fun v q => by rw [e1] at q; cases q; exact ⟨d, u, od, rfl, hd, hJ od⟩) h)
theorem p_lcX {f1 : F1} {f2 : F2} {sel : D → Option (List D)} {iter : Expr} (sl : Sel f1 f2 sel) {p : Pat} {c : PB} {f : PF} (hc : X.calm = true) (hN : X.N.Nodup) (hn : PI X tg iter (iDict f1 f2 (tVar r))) (ok : BlkOk X.N X.env.scope scope own) (hsl : ∀ j ∈ p.slots, j ∈ own.map (·.2))
    (hg : ∀ (s : Shared) (H : Hp) (C : Addr) (cl : List (Str × Addr)) (fp : List Addr), GP (X.blk s H scope (compEnvC scope cl C X.env) fp) tg p)
    (ht : ∀ (s : Shared) (H : Hp) (C : Addr) (cl : List (Str × Addr)) (fp : List Addr), PTs' (X.blk s H scope (compEnvC scope cl C X.env) fp) (y0 y) ifs c)
    (he : ∀ (s : Shared) (H : Hp) (C : Addr) (cl : List (Str × Addr)) (fp : List Addr), P (X.blk s H scope (compEnvC scope cl C X.env) fp) (y0 y) elt f) (hs : ∀ z, foldedSetIterable iter X.env z = pure z := by intro _; rfl) :
    P X y (.ListComp elt [⟨tg, iter, ifs, 0⟩] scope pos) (pLcX sel r (own.map (·.2)) p c f) := by
  have h1 := pe_lc (g := GPr X.K p) (tt := tPB X.K (y0 y) c) (te := tP X.K (y0 y) f) hc hN hn ok (fun s H C cl fp => (hg s H C cl fp).pg) (fun s H C cl fp => (ht s H C cl fp).pt) (fun s H C cl fp => (he s H C cl fp).pe) hs (elt := elt) (pos := pos)
  exact ⟨pe_imp (pe_or h1 (pe_lock h1)) fun _ _ _ q => tLcK_or sl hsl q⟩
theorem p_lcK {p : Pat} {c : PB} {f : PF} (hc : X.calm = true) (hN : X.N.Nodup) (hn : PE X (.Name x p2) (tVar r)) (ok : BlkOk X.N X.env.scope scope own) (hsl : ∀ j ∈ p.slots, j ∈ own.map (·.2))
    (hg : ∀ (s : Shared) (H : Hp) (C : Addr) (cl : List (Str × Addr)) (fp : List Addr), GP (X.blk s H scope (compEnvC scope cl C X.env) fp) tg p)
    (ht : ∀ (s : Shared) (H : Hp) (C : Addr) (cl : List (Str × Addr)) (fp : List Addr), PTs' (X.blk s H scope (compEnvC scope cl C X.env) fp) (y0 y) ifs c)
    (he : ∀ (s : Shared) (H : Hp) (C : Addr) (cl : List (Str × Addr)) (fp : List Addr), P (X.blk s H scope (compEnvC scope cl C X.env) fp) (y0 y) elt f) (hs : ∀ z, foldedSetIterable (.Name x p2) X.env z = pure z := by intro _; rfl) :
    P X y (.ListComp elt [⟨tg, .Name x p2, ifs, 0⟩] scope pos) (pLcK r (own.map (·.2)) p c f) := by
  rw [← pLcK_eq]
  exact p_lcX sel_keys hc hN (pi_keysA hn) ok hsl hg ht he hs

/-! ### for over a dict of the def's own -/
theorem EnvOk.lendD {K : Fg} {H : Hp} {R : Addr → Prop} {σ : L2.St} {env : List D} {F : Nat → List Addr} {d : Addr} {od : Obj} {u : HO} (e : EnvOk K H fz R σ env F) (hr : r ∉ fz) (hd : H d = some u) (hu : isDic u = true) (hF : d ∈ F r) : EnvOk K (upd H d (.frz od u)) (r :: fz) (fun b => R b ∨ b ∈ F r) σ env (updF F r []) := by
  have e1 := e.lend hr
  have nd : ∀ i, d ∉ updF F r [] i := (e1.out d (.inr hF)).2
  have tk := tk_lock (od := od) hd hu
  refine ⟨e1.len, fun i x hi hf => (e1.own i x hi hf).imp id fun ⟨v, q1, q2⟩ => ⟨v, q1, Rel.frame tk x v _ (fun b m ob q => by rw [upd_ne (fun z => nd i (by rw [← z]; exact m))]; exact q) q2⟩,
    fun i x hi hf => (e1.frz i x hi hf).imp id fun ⟨v, fp, q1, q2, q3⟩ => ⟨v, fp, q1, q2.lock hd hu, q3⟩, e1.nil, e1.dis, fun b h => ⟨?_, (e1.out b h).2⟩⟩
  obtain ⟨o, q⟩ := (e1.out b h).1
  by_cases hb : b = d
  · exact ⟨_, by rw [hb, upd_same]⟩
  · exact ⟨o, by rw [upd_ne hb]; exact q⟩
/-- behind the loop: unlocked -/
theorem AftS.unlock {K : Fg} {H H' : Hp} {R : Addr → Prop} {σ σ' : L2.St} {env e' : List D} {F F' : Nat → List Addr} {d : Addr} {od : Obj} {u : HO} (e : EnvOk K H fz R σ env F) (hr : r ∉ fz) (hd : H d = some u) (hu : isDic u = true) (hF : d ∈ F r)
    (A : AftS K (r :: fz) pn (fun b => R b ∨ b ∈ F r) σ (upd H d (.frz od u)) (updF F r []) env σ' H' F' e') : H' d = some (.frz od u) ∧ (∀ i, d ∉ F' i) ∧ AftS K fz pn R σ H F env σ' (upd H' d u) (updF F' r (F r)) e' := by
  have e1 := e.lend hr
  have nd : ∀ i, d ∉ updF F r [] i := (e1.out d (.inr hF)).2
  have hd' : H' d = some (.frz od u) := A.stp.keep d _ upd_same nd
  have nd' : ∀ i, d ∉ F' i := A.stp.out (upd_same (H := H) (a := d) (o := .frz od u)) nd
  have k1 : ∀ b o, b ≠ d → H b = some o → upd H d (.frz od u) b = some o := fun b o n q => by rw [upd_ne n]; exact q
  have tk : Tk H (upd H' d u) := fun b o q i => by
    have nb : b ≠ d := fun z => by
      rw [z, hd] at q; cases q
      cases u <;> first | (cases i; done) | (cases hu; done)
    rw [upd_ne nb]
    exact A.stp.imm b o (k1 b o nb q) i
  have tk' : Tk H' (upd H' d u) := fun b o q i => by
    have nb : b ≠ d := fun z => by
      rw [z, hd'] at q; cases q
      cases u <;> first | (cases i; done) | (cases hu; done)
    rw [upd_ne nb]; exact q
  have B : AftS K (r :: fz) pn (fun b => R b ∨ b ∈ F r) σ H (updF F r []) env σ' (upd H' d u) F' e' := by
    refine ⟨⟨fun b o q nn => ?_, fun b o q => ?_, tk, fun i b m => ?_⟩, ⟨A.ok.len, fun i x hi hf => ?_, fun i x hi hf => ?_, A.ok.nil, A.ok.dis, fun b h => ⟨?_, (A.ok.out b h).2⟩⟩, A.fix, A.pin, A.len⟩
    · by_cases hb : b = d
      · subst hb; rw [hd] at q; cases q; exact upd_same
      · rw [upd_ne hb]; exact A.stp.keep b o (k1 b o hb q) nn
    · by_cases hb : b = d
      · exact ⟨_, by rw [hb, upd_same]⟩
      · obtain ⟨o', z⟩ := A.stp.live b o (k1 b o hb q)
        exact ⟨o', by rw [upd_ne hb]; exact z⟩
    · have nb : b ≠ d := fun z => nd' i (by rw [← z]; exact m)
      refine (A.stp.new i b m).imp id fun q => ?_
      rw [upd_ne nb] at q; exact q
    · refine (A.ok.own i x hi hf).imp id fun ⟨v, q1, q2⟩ => ⟨v, q1, Rel.frame tk' x v _ (fun b m ob q => by rw [upd_ne (fun z => nd' i (by rw [← z]; exact m))]; exact q) q2⟩
    · -- what is lent stood so before
      have hi0 := hi
      rw [A.fix i hf] at hi
      rcases e1.frz i x hi hf with z | ⟨v, fp, q1, q2, q3⟩
      · exact .inl z
      · refine .inr ⟨v, fp, by rw [A.pin i (.inl hf)]; exact q1, ?_, q3⟩
        refine Rel.frame tk x v fp (fun b m o q => SeeC.keep (fun o z => ?_) q) q2
        by_cases hb : b = d
        · subst hb; rw [hd] at z; cases z; exact upd_same
        · rw [upd_ne hb]; exact A.stp.keep b o (k1 b o hb z) (e1.out b (q3 b m)).2
    · obtain ⟨o, q⟩ := (A.ok.out b h).1
      by_cases hb : b = d
      · exact ⟨_, by rw [hb, upd_same]⟩
      · exact ⟨o, by rw [upd_ne hb]; exact q⟩
  exact ⟨hd', nd', B.back e hr⟩
def sForX (sel : D → Option (List D)) (r : Nat) (p : Pat) (g : SF) : SF := fun env => match env[r]? with
  | some c => match sel c with
    | some xs => forGo p g xs env
    | none => .bad
  | none => .bad
def sForD (r : Nat) (p : Pat) (g : SF) : SF := fun env => match env[r]? with
  | some c => match dKeys c with
    | some ks => forGo p g (ks.map .g) env
    | none => .bad
  | none => .bad
theorem sForD_eq (r : Nat) (p : Pat) (g : SF) : sForX dKeysL r p g = sForD r p g := by
  funext env
  unfold sForX sForD dKeysL
  cases env[r]? with
  | none => rfl
  | some d => dsimp only; cases dKeys d <;> rfl
theorem s_forX {f1 : F1} {f2 : F2} {sel : D → Option (List D)} {iter : Expr} (sl : Sel f1 f2 sel) {p : Pat} {g : SF} (hr : fz.contains r = false) (hp : PassesOwn (model X.prog X.w) X.A X.env X.xe) (hc : X.calm = true) (hn : PI X tg iter (iDict f1 f2 (tVar r))) (hg : G X y (r :: fz) pn tg p) (hb : Ss X y (r :: fz) pn body g) (hs : ∀ z, foldedSetIterable iter X.env z = pure z := by intro _; rfl) :
    S X y fz pn (.For tg iter body [] pos) (sForX sel r p g) := by
  have hri : r ∉ fz := fun m => by rw [List.contains_iff_mem.mpr m] at hr; cases hr
  refine ⟨ps_imp (ps_lock (ps_for hp hc hn hg.pg hb.ps hs)) fun Dn σ H q => ?_⟩
  obtain ⟨env, F, R, he, q⟩ := q
  unfold sForX at q
  split at q
  · rename_i c hc
    split at q
    · rename_i xs hk
      rcases he.own r c hc hri with z | ⟨v, e1, e2⟩
      · subst z
        obtain ⟨_, _, z, _⟩ := sl.h (K := X.K) (H := H) (C := fun _ _ => False) (v := .non) .hole hk
        cases z
      obtain ⟨d, u, rfl, hu, hd, hF, hJ⟩ := sl.h e2 hk
      refine ⟨d, u, hd, mut_dic hu, fun od => ?_⟩
      have E1 := he.lendD (od := od) hri hd hu hF
      have nd : ∀ i, d ∉ updF F r [] i := ((he.lend hri).out d (.inr hF)).2
      have sat : Sat X.K y (r :: fz) pn (fun b => R b ∨ b ∈ F r) σ (upd H d (.frz od u)) (updF F r []) env (forGo p g xs env) ⟨fun σ' H' => H' d = some (.frz od u) ∧ Dn.nx σ' (upd H' d u), fun v H' => H' d = some (.frz od u) ∧ Dn.rt v (upd H' d u), fun σ' H' => H' d = some (.frz od u) ∧ Dn.bk σ' (upd H' d u), fun σ' H' => H' d = some (.frz od u) ∧ Dn.ct σ' (upd H' d u)⟩ := by
        have n0 : ∀ b, (∀ i, b ∉ F i) → ∀ i, b ∉ updF F r [] i := fun b h i m => by
          by_cases h1 : i = r
          · subst h1; rw [updF_same] at m; cases m
          · rw [updF_ne h1] at m; exact h i m
        cases e5 : forGo p g xs env with
        | nx e => rw [e5] at q; exact fun σ' H' F' A => ⟨(A.unlock he hri hd hu hF).1, q σ' _ _ (A.unlock he hri hd hu hF).2.2⟩
        | bk e => rw [e5] at q; exact fun σ' H' F' A => ⟨(A.unlock he hri hd hu hF).1, q σ' _ _ (A.unlock he hri hd hu hF).2.2⟩
        | ct e => rw [e5] at q; exact fun σ' H' F' A => ⟨(A.unlock he hri hd hu hF).1, q σ' _ _ (A.unlock he hri hd hu hF).2.2⟩
        | rt x e =>
          rw [e5] at q
          intro σ' v H' F' fv A o n p
          obtain ⟨a1, a2, a3⟩ := A.unlock he hri hd hu hF
          have ndv : d ∉ fv := fun m => by
            rcases p d m with ⟨j, z⟩ | z
            · exact nd j z
            · rw [upd_same] at z; cases z
          refine ⟨a1, q σ' v _ _ fv a3 ?_ (fun b m i m' => ?_) fun b m => ?_⟩
          · refine Rel.frame (fun b ob q i => ?_) x v fv (fun b m ob q => by rw [upd_ne (fun z => ndv (by rw [← z]; exact m))]; exact q) o
            have nb : b ≠ d := fun z => by
              rw [z, a1] at q; cases q
              cases u <;> first | (cases i; done) | (cases hu; done)
            rw [upd_ne nb]; exact q
          · by_cases h1 : i = r
            · subst h1
              rw [updF_same] at m'
              rcases p b m with ⟨j, z⟩ | z
              · exact ((he.lend hri).out b (.inr m')).2 j z
              · obtain ⟨ob, z2⟩ := he.live m'
                have nb : b ≠ d := fun e => ndv (by rw [← e]; exact m)
                rw [upd_ne nb, z2] at z; cases z
            · rw [updF_ne h1] at m'; exact n b m i m'
          · rcases p b m with ⟨j, z⟩ | z
            · by_cases h2 : j = r
              · subst h2; rw [updF_same] at z; cases z
              · rw [updF_ne h2] at z; exact .inl ⟨j, z⟩
            · have nb : b ≠ d := fun e => ndv (by rw [← e]; exact m)
              rw [upd_ne nb] at z; exact .inr z
        | err x =>
          rw [e5] at q
          intro σ' c dd H' hl pi k l t er
          refine q σ' c dd H' hl (fun i hi => pi i (hi.imp (fun z => List.mem_cons_of_mem _ z) id)) (fun b o z nn => ?_) (fun b o z => ?_) (fun b o z i => ?_) er
          · have nb : b ≠ d := fun e => nn r (by rw [e]; exact hF)
            exact k b o (by rw [upd_ne nb]; exact z) (n0 b nn)
          · by_cases hb : b = d
            · exact ⟨_, by rw [hb]; exact k d _ upd_same nd⟩
            · exact l b o (by rw [upd_ne hb]; exact z)
          · have nb : b ≠ d := fun e => by
              rw [e, hd] at z; cases z
              cases u <;> first | (cases i; done) | (cases hu; done)
            exact t b o (by rw [upd_ne nb]; exact z) i
        | bad => rw [e5] at q; exact q
      have key : ∀ J, KJ X.K H d od u xs J → ∃ W : Nat → Nat → L2.St → Hp → Prop, _ := fun J hJ => for_core (tgt := fun v σ H Q => ∃ env F R d fp env', EnvOk X.K H (r :: fz) R σ env F ∧ See X.K H v d fp ∧ bindP p d env = some env' ∧ ∀ σ' F', AftS X.K (r :: fz) pn R σ H F env σ' H F' env' → (∀ j, j ∉ p.slots → σ'[j]? = σ[j]?) → Q σ' H) (tb := tS X.K y (r :: fz) pn g) (zp := [d]) (J := J) E1 (fun b m => by
          have e : b = d := by simpa using m
          rw [e]
          exact ⟨⟨_, upd_same⟩, nd⟩) (fun H2 t k i => by
          have := hJ H2 ((tk_lock hd hu).trans t) (k d (by simp) _ upd_same) i
          exact ⟨fun x hx => ⟨(this.1 x hx).1, fun v H3 hy => ⟨((this.1 x hx).2 v H3 hy).1, [], ((this.1 x hx).2 v H3 hy).2, by simp⟩⟩, this.2⟩) (fun v σ H Q q => q) (fun Dn σ H q => q) sat
      refine ⟨.ref d, e1, d, od, rfl, ?_⟩
      rcases hJ od with ⟨kvs, rfl, h⟩ | ⟨es, rfl, h⟩
      · exact .inl ⟨kvs, upd_same, key _ h⟩
      · exact .inr ⟨es, upd_same, key _ h⟩
    · exact (q : False).elim
  · exact (q : False).elim
theorem s_forD {p : Pat} {g : SF} (hr : fz.contains r = false) (hp : PassesOwn (model X.prog X.w) X.A X.env X.xe) (hc : X.calm = true) (hn : PE X (.Name x p2) (tVar r)) (hg : G X y (r :: fz) pn tg p) (hb : Ss X y (r :: fz) pn body g) (hs : ∀ z, foldedSetIterable (.Name x p2) X.env z = pure z := by intro _; rfl) :
    S X y fz pn (.For tg (.Name x p2) body [] pos) (sForD r p g) := by
  rw [← sForD_eq]
  exact s_forX sel_keys hr hp hc (pi_keysA hn) hg hb hs
end
end Ow

set_option Elab.async false
set_option linter.all false
set_option maxRecDepth 100000
set_option maxHeartbeats 1000000
/-! OwT: sorted. -/
namespace Ow
open PySem PySem.Spec PyProof.Rows L2

inductive Ty where
  | int
  | str
  | tupOf (t : Ty)
  | tupL (ts : List Ty)
mutual
def hasTy : Ty → PyData → Bool
  | .int, .int _ => true
  | .str, .str _ => true
  | .tupOf t, .tuple xs => xs.all (hasTy t)
  | .tupL ts, .tuple xs => hasTys ts xs
  | _, _ => false
def hasTys : List Ty → List PyData → Bool
  | [], [] => true
  | t :: ts, x :: xs => hasTy t x && hasTys ts xs
  | _, _ => false
end
mutual
theorem ty_alike : ∀ (t : Ty) (x y : PyData), hasTy t x = true → hasTy t y = true → PySem.W.alike x y = true
  | .int, x, y, hx, hy => by cases x <;> cases y <;> simp [hasTy] at hx hy <;> rfl
  | .str, x, y, hx, hy => by cases x <;> cases y <;> simp [hasTy] at hx hy <;> rfl
  | .tupOf t, x, y, hx, hy => by
    cases x with
    | tuple xs =>
      cases y with
      | tuple ys =>
        simp only [hasTy, List.all_eq_true] at hx hy
        show PySem.W.alikeAll xs ys = true
        exact ty_alikeOf t xs ys hx hy
      | _ => simp [hasTy] at hy
    | _ => simp [hasTy] at hx
  | .tupL ts, x, y, hx, hy => by
    cases x with
    | tuple xs =>
      cases y with
      | tuple ys =>
        simp only [hasTy] at hx hy
        show PySem.W.alikeAll xs ys = true
        exact ty_alikes ts xs ys hx hy
      | _ => simp [hasTy] at hy
    | _ => simp [hasTy] at hx
theorem ty_alikeOf : ∀ (t : Ty) (xs ys : List PyData), (∀ x ∈ xs, hasTy t x = true) → (∀ x ∈ ys, hasTy t x = true) → PySem.W.alikeAll xs ys = true
  | t, [], _, _, _ => rfl
  | t, _ :: _, [], _, _ => rfl
  | t, x :: xs, y :: ys, hx, hy => by
    show (PySem.W.alike x y && PySem.W.alikeAll xs ys) = true
    rw [ty_alike t x y (hx x List.mem_cons_self) (hy y List.mem_cons_self), ty_alikeOf t xs ys (fun z m => hx z (List.mem_cons_of_mem _ m)) fun z m => hy z (List.mem_cons_of_mem _ m)]
    rfl
theorem ty_alikes : ∀ (ts : List Ty) (xs ys : List PyData), hasTys ts xs = true → hasTys ts ys = true → PySem.W.alikeAll xs ys = true
  | [], [], _, _, _ => rfl
  | [], _ :: _, _, h, _ => by simp [hasTys] at h
  | _ :: _, [], _, h, _ => by simp [hasTys] at h
  | _ :: _, _ :: _, [], _, h => by simp [hasTys] at h
  | t :: ts, x :: xs, y :: ys, hx, hy => by
    simp only [hasTys, Bool.and_eq_true] at hx hy
    show (PySem.W.alike x y && PySem.W.alikeAll xs ys) = true
    rw [ty_alike t x y hx.1 hy.1, ty_alikes ts xs ys hx.2 hy.2]
    rfl
end
mutual
theorem ty_eqv : ∀ (t : Ty) (x y : PyData), hasTy t x = true → hasTy t y = true → PyData.eqv x y = true → x = y
  | .int, x, y, hx, hy, h => by cases x <;> cases y <;> simp [hasTy] at hx hy <;> simpa [PyData.eqv] using h
  | .str, x, y, hx, hy, h => by cases x <;> cases y <;> simp [hasTy] at hx hy <;> simpa [PyData.eqv] using h
  | .tupOf t, x, y, hx, hy, h => by
    cases x with
    | tuple xs =>
      cases y with
      | tuple ys =>
        simp only [hasTy, List.all_eq_true] at hx hy
        rw [ty_eqvOf t xs ys hx hy (by simpa [PyData.eqv] using h)]
      | _ => simp [hasTy] at hy
    | _ => simp [hasTy] at hx
  | .tupL ts, x, y, hx, hy, h => by
    cases x with
    | tuple xs =>
      cases y with
      | tuple ys =>
        simp only [hasTy] at hx hy
        rw [ty_eqvs ts xs ys hx hy (by simpa [PyData.eqv] using h)]
      | _ => simp [hasTy] at hy
    | _ => simp [hasTy] at hx
theorem ty_eqvOf : ∀ (t : Ty) (xs ys : List PyData), (∀ x ∈ xs, hasTy t x = true) → (∀ x ∈ ys, hasTy t x = true) → PyData.eqvAll xs ys = true → xs = ys
  | t, [], [], _, _, _ => rfl
  | t, [], _ :: _, _, _, h => by simp [PyData.eqvAll] at h
  | t, _ :: _, [], _, _, h => by simp [PyData.eqvAll] at h
  | t, x :: xs, y :: ys, hx, hy, h => by
    rw [PySem.W.eqv_all_cons, Bool.and_eq_true] at h
    rw [ty_eqv t x y (hx x List.mem_cons_self) (hy y List.mem_cons_self) h.1, ty_eqvOf t xs ys (fun z m => hx z (List.mem_cons_of_mem _ m)) (fun z m => hy z (List.mem_cons_of_mem _ m)) h.2]
theorem ty_eqvs : ∀ (ts : List Ty) (xs ys : List PyData), hasTys ts xs = true → hasTys ts ys = true → PyData.eqvAll xs ys = true → xs = ys
  | [], [], [], _, _, _ => rfl
  | [], _ :: _, _, h, _, _ => by simp [hasTys] at h
  | [], [], _ :: _, _, h, _ => by simp [hasTys] at h
  | _ :: _, [], _, h, _, _ => by simp [hasTys] at h
  | _ :: _, _ :: _, [], _, h, _ => by simp [hasTys] at h
  | t :: ts, x :: xs, y :: ys, hx, hy, h => by
    simp only [hasTys, Bool.and_eq_true] at hx hy
    rw [PySem.W.eqv_all_cons, Bool.and_eq_true] at h
    rw [ty_eqv t x y hx.1 hy.1 h.1, ty_eqvs ts xs ys hx.2 hy.2 h.2]
end
/-! ### the order -/
abbrev leD : PyData → PyData → Bool := PySem.W.dataLe false id
def insD (le : PyData → PyData → Bool) (x : PyData) : List PyData → List PyData
  | [] => [x]
  | y :: ys => if le x y = true then x :: y :: ys else y :: insD le x ys
def sortL (le : PyData → PyData → Bool) : List PyData → List PyData
  | [] => []
  | x :: xs => insD le x (sortL le xs)
theorem insD_perm (le : PyData → PyData → Bool) (x : PyData) : ∀ xs, (insD le x xs).Perm (x :: xs)
  | [] => List.Perm.refl _
  | y :: ys => by
    unfold insD
    split
    · exact List.Perm.refl _
    · exact ((insD_perm le x ys).cons y).trans (List.Perm.swap x y ys)
theorem sortL_perm (le : PyData → PyData → Bool) : ∀ xs, (sortL le xs).Perm xs
  | [] => List.Perm.refl _
  | x :: xs => (insD_perm le x _).trans ((sortL_perm le xs).cons x)
theorem insD_sorted {le : PyData → PyData → Bool} (tr : ∀ a b c, le a b = true → le b c = true → le a c = true) (tot : ∀ a b, (le a b || le b a) = true) (x : PyData) : ∀ xs, xs.Pairwise (fun a b => le a b = true) → (insD le x xs).Pairwise fun a b => le a b = true
  | [], _ => by simp [insD]
  | y :: ys, h => by
    rw [List.pairwise_cons] at h
    unfold insD
    split
    · rename_i hxy
      rw [List.pairwise_cons]
      refine ⟨fun z m => ?_, List.pairwise_cons.mpr h⟩
      rcases List.mem_cons.mp m with rfl | m
      · exact hxy
      · exact tr _ _ _ hxy (h.1 z m)
    · rename_i hxy
      rw [List.pairwise_cons]
      refine ⟨fun z m => ?_, insD_sorted tr tot x ys h.2⟩
      rcases List.mem_cons.mp ((insD_perm le x ys).mem_iff.mp m) with rfl | m
      · have := tot z y
        rw [Bool.or_eq_true] at this
        exact this.resolve_left hxy
      · exact h.1 z m
theorem sortL_sorted {le : PyData → PyData → Bool} (tr : ∀ a b c, le a b = true → le b c = true → le a c = true) (tot : ∀ a b, (le a b || le b a) = true) : ∀ xs, (sortL le xs).Pairwise fun a b => le a b = true
  | [] => by simp [sortL]
  | x :: xs => insD_sorted tr tot x _ (sortL_sorted tr tot xs)
theorem toks_ne {x y : PyData} (ha : PySem.W.alike x y = true) (h : PyData.eqv x y = false) : PySem.W.keyToks x ≠ PySem.W.keyToks y := fun e => by
  have k := (PySem.W.toks_eqv x y ha).2 h
  rw [e] at k
  have k1 := (k [] [.inl 0]).trans (k [] []).symm
  rw [PySem.W.lex_pre, PySem.W.lex_pre] at k1
  exact absurd k1 (by decide +kernel)
theorem leD_antisymm {t : Ty} {x y : PyData} (hx : hasTy t x = true) (hy : hasTy t y = true) (h1 : leD x y = true) (h2 : leD y x = true) : x = y := by
  have e : PySem.W.keyToks x = PySem.W.keyToks y := by
    have a1 : (!(PyProof.Rows.listOrd PyProof.Rows.itemOrd).blt (PySem.W.keyToks y) (PySem.W.keyToks x)) = true := h1
    have a2 : (!(PyProof.Rows.listOrd PyProof.Rows.itemOrd).blt (PySem.W.keyToks x) (PySem.W.keyToks y)) = true := h2
    rw [Bool.not_eq_true'] at a1 a2
    exact (PyProof.Rows.listOrd PyProof.Rows.itemOrd).total _ _ a2 a1
  cases q : PyData.eqv x y with
  | true => exact ty_eqv t x y hx hy q
  | false => exact absurd e (toks_ne (ty_alike t x y hx hy) q)
theorem sortL_eq {t : Ty} {xs : List PyData} (h : ∀ x ∈ xs, hasTy t x = true) : sortL leD xs = xs.mergeSort leD := by
  have T := PySem.W.sortLe_total (PyProof.Rows.listOrd PyProof.Rows.itemOrd) false fun b : PyData => PySem.W.keyToks (id b)
  have tot : ∀ a b, (leD a b || leD b a) = true := fun a b => by rw [Bool.or_eq_true]; exact T.total a b
  refine List.Perm.eq_of_pairwise (le := fun a b => leD a b = true) (fun a b ma mb h1 h2 => ?_) (sortL_sorted T.trans tot xs) (List.pairwise_mergeSort T.trans tot xs) ((sortL_perm leD xs).trans (List.mergeSort_perm xs leD).symm)
  exact leD_antisymm (t := t) (h a ((sortL_perm leD xs).mem_iff.mp ma)) (h b ((List.mergeSort_perm xs leD).mem_iff.mp mb)) h1 h2
end Ow
namespace Ow
open PySem PySem.Spec PyProof.Rows L2
def srtSrc : D → Option (List PyData)
  | .lst ds => gAll ds
  | .g (.tuple xs) => some xs
  | .dic ks _ => some ks
  | .dct ks _ => some ks
  | .scr ns => some (ns.map .int)
  | _ => none
theorem paired_of_get {α β : Type} {R : α → β → Prop} : ∀ {as : List α} {bs : List β}, as.length = bs.length → (∀ (j : Nat) (a : α) (b : β), as[j]? = some a → bs[j]? = some b → R a b) → Paired R as bs
  | [], [], _, _ => .nil
  | [], _ :: _, h, _ => by simp at h
  | _ :: _, [], h, _ => by simp at h
  | a :: as, b :: bs, h, g => .cons (g 0 a b rfl rfl) (paired_of_get (by simpa using h) fun j a b e1 e2 => g (j + 1) a b (by simpa using e1) (by simpa using e2))
theorem gpIntsV {K : Fg} {H : Hp} : ∀ {ns : List Int}, GpAll K H (ns.map V.int) (ns.map PyData.int)
  | [] => .nil
  | n :: ns => .cons (.int n) gpIntsV
section
variable {X : Cx}
/-- the items of what is sorted, collected -/
theorem src_coll {pins : List (Addr × Obj)} {s : Shared} {σ : L2.St} {H : Hp} {v : V} {u : Value} {d : D} {fp : List Addr} {xs : List PyData} (I : Inv X pins σ H s) (hs : See X.K H v d fp) (e : srtSrc d = some xs) (rv : RelV v u) (hL : xs.length ≤ sizeLine)
    {A' : Around} {Q : List Value → Shared → Prop} {E : Value → Shared → Prop} (hh : A'.handled = none) (q : ∀ h' tk acc vs, (∀ b o, s.heap.get? b = some o → h'.get? b = some o) → Vals vs acc → GpAll X.K H vs xs → Q acc { s with heap := h', toks := tk }) :
    wpAny (model X.prog X.w) A' (collect u) Q E s := by
  have seqc : ∀ a vs, v = .ref a → (SqL X.K H a vs ∨ SqT X.K H a vs) → GpAll X.K H vs xs → wpAny (model X.prog X.w) A' (collect u) Q E s := fun a vs ev hq g => by
    subst ev
    obtain rfl : u = Value.ref a := rv
    rcases hq with hq | hq
    · obtain ⟨its, r, pl, hz⟩ := I.list hq
      obtain ⟨o, ho, hc, n, hd⟩ := pl.isList
      refine wpAny_collect_seq a (.inl rfl) ho hc hd (fun h' k => ?_) (by rw [List.size_toArray, ← r.length]; exact hz)
      exact q h' s.toks its vs k r g
    · obtain ⟨its, r, pl, hz⟩ := I.tuple hq
      obtain ⟨o, ho, hc, n, hd⟩ := (show s.heap.IsTuple a its.toArray from pl)
      refine wpAny_collect_seq a (.inr rfl) ho hc hd (fun h' k => ?_) (by rw [List.size_toArray, ← r.length]; exact hz)
      exact q h' s.toks its vs k r g
  unfold srtSrc at e
  split at e
  · obtain ⟨a, vs, fa, rfl, h1, h2, _⟩ := see_lst hs
    exact seqc a vs rfl (.inl (SqL.of h1)) (seeAll_ground e h2)
  · cases e
    obtain ⟨a, vs, rfl, h1, h2⟩ := see_tup hs
    exact seqc a vs rfl (.inr h1) h2
  · cases e
    obtain ⟨a, kvs, fp', rfl, h1, rfl, h3, _⟩ := see_dic hs
    obtain rfl : u = Value.ref a := rv
    obtain ⟨z, lo, vs, rel, dd⟩ := dk_rd I.hok h1
    obtain ⟨ep, hat⟩ := dd.dictAt
    have hl : kvs.length = vs.length := Paired.length rel
    refine PySem.W.kdu_collect (A := A') (PySem.W.kdl_dict (knd := mixKind X.prog X.w) (kvs := vs) (ep := ep) lo) hh hat (by rw [← hl]; exact z) fun h' tk acc hk hacc => ?_
    refine q h' tk acc.toList (kvs.map fun kv => kV kv.1) hk (paired_of_get (by have h9 : acc.toList.length = acc.size := Array.length_toList; have h8 := hacc.1; rw [List.length_map]; omega) fun j w x e1 e2 => ?_) ?_
    · obtain ⟨k, y, e3, e4⟩ := hacc.2 j x (by rw [← Array.getElem?_toList]; exact e2)
      rw [List.getElem?_map, Option.map_eq_some_iff] at e1
      obtain ⟨kv, e5, rfl⟩ := e1
      obtain ⟨kv', e6, e7, _⟩ := L2.paired_get rel e5
      rw [e3] at e6; cases e6
      rw [show kv.1 = k from e7]
      exact relV_key e4
    · have : ∀ l : List (Key × V), GpAll X.K H (l.map fun kv => kV kv.1) (l.map fun kv => keyD kv.1) := fun l => by
        induction l with
        | nil => exact .nil
        | cons kv l ih => exact .cons (gp_key kv.1) ih
      exact this kvs
  · cases e
    obtain ⟨a, kvs, fp', rfl, h1, rfl, hk, h3, _⟩ := see_dct hs
    obtain rfl : u = Value.ref a := rv
    obtain ⟨z, hs', ks, pr, o, es, ep, ho, hx, hdt, he, hn⟩ := nkO_inj (rd_of I.hok h1)
    have he := he X.w
    have l1 : es.size = ks.length := by rw [← Array.length_toList, he, List.length_map]
    have l2 : kvs.length = ks.length := Paired.length pr
    refine PySem.W.kdu_collect (A := A') (kdl_raw hs' hx hdt) hh ho (by omega) fun h' tk acc hk' hacc => ?_
    have at1 : ∀ (j : Nat) (p : NE), kvs[j]? = some p → acc.toList[j]? = some (.ref p.2.1) := fun j p e1 => by
      obtain ⟨b, e2, _, e4, _⟩ := nkp_get pr e1
      have hlt : j < acc.toList.length := by
        have h9 : acc.toList.length = acc.size := Array.length_toList
        have h8 := hacc.1
        have := (List.getElem?_eq_some_iff.mp e2).1
        omega
      obtain ⟨en, hen, hv⟩ := hacc.2 j acc.toList[j] (by rw [← Array.getElem?_toList]; simp [hlt])
      have qe : es[j]? = some (entW X.w b) := by rw [← Array.getElem?_toList, he, List.getElem?_map, e2]; rfl
      rw [hen] at qe
      have e5 : en = entW X.w b := Option.some.inj qe
      rw [List.getElem?_eq_getElem hlt, hv, e5, e4]
      rfl
    have ex : ∀ (n : Nat), n ≤ kvs.length → ∃ vs, Vals vs (acc.toList.take n) ∧ GpAll X.K H vs ((kvs.take n).map fun e => e.1.data) := fun n => by
      induction n with
      | zero => exact fun _ => ⟨[], by simp; exact .nil, by simp; exact .nil⟩
      | succ n ih =>
        intro hn'
        obtain ⟨vs, i1, i2⟩ := ih (Nat.le_of_lt hn')
        have e2 := at1 n kvs[n] (by simp [Nat.lt_of_succ_le hn'])
        refine ⟨vs ++ [.ref kvs[n].2.1], ?_, ?_⟩
        · rw [List.take_succ, e2]
          exact i1.append (.cons rfl .nil)
        · rw [List.take_succ, List.getElem?_eq_getElem (Nat.lt_of_succ_le hn'), List.map_append]
          exact GpAll.app i2 (.cons (hk _ (List.getElem_mem _)).1 .nil)
    obtain ⟨vs, i1, i2⟩ := ex kvs.length (Nat.le_refl _)
    rw [List.take_length] at i2
    rw [List.take_of_length_le (by have h9 : acc.toList.length = acc.size := Array.length_toList; have h8 := hacc.1; omega)] at i1
    exact q h' tk acc.toList vs hk' i1 i2
  · cases e
    cases hs with
    | scr h1 => exact seqc _ _ rfl (.inl h1.1) gpIntsV
  · cases e

theorem each_of {K : Fg} {H : Hp} : ∀ {xs : List PyData} {vs : List V} {us : List Value}, Vals vs us → GpAll K H vs xs → PySem.W.EachIs (fun u x => ∃ v, RelV v u ∧ Gp K H v x) us xs
  | [], _, _, r, g => by cases g; cases r; exact .nil
  | x :: xs, _, _, r, g => by
    cases g with
    | cons g1 g2 =>
      cases r with
      | cons r1 r2 => exact .cons ⟨_, r1, g1⟩ (each_of r2 g2)
theorem of_each {K : Fg} {H : Hp} : ∀ {xs : List PyData} {us : List Value}, PySem.W.EachIs (fun u x => ∃ v, RelV v u ∧ Gp K H v x) us xs → ∃ vs, Vals vs us ∧ GpAll K H vs xs
  | [], _, h => by cases h; exact ⟨[], .nil, .nil⟩
  | x :: xs, _, h => by
    cases h with
    | cons h1 h2 =>
      obtain ⟨v, r, g⟩ := h1
      obtain ⟨vs, rs, gs⟩ := of_each h2
      exact ⟨v :: vs, .cons r rs, .cons g gs⟩
def sortableB (xs : List PyData) : Bool := (xs.all fun x => match x with | .tuple (_ :: _) => true | _ => false) || xs.all fun x => match x with | .int _ => true | .str _ => true | _ => false
theorem sortableB_ok {xs : List PyData} (h : sortableB xs = true) : PySem.W.Sortable (xs.map id) := by
  rw [List.map_id]
  unfold sortableB at h
  rw [Bool.or_eq_true, List.all_eq_true, List.all_eq_true] at h
  rcases h with h | h
  · refine .inl fun d hd => ?_
    have := h d hd
    split at this
    · exact ⟨_, _, rfl⟩
    · cases this
  · refine .inr fun d hd => ?_
    have := h d hd
    cases d with
    | int i => exact ⟨nofun, nofun⟩
    | str i => exact ⟨nofun, nofun⟩
    | _ => cases this
/-- sorted(x) -/
def fSorted (t : Ty) : List D → Option D
  | [d] => (srtSrc d).bind fun xs => if xs.length ≤ 16777216 ∧ xs.all (fun x => hasTy t x && okD x) = true ∧ sortableB xs = true then some (.lst ((sortL leD xs).map .g)) else none
  | _ => none
theorem v_sorted (t : Ty) (hc : X.calm = true) (hu : X.A.units + 2 + 64 < cLine) : VN X (.builtin "sorted") (fSorted t) := by
  intro pins s σ H vs us Q I r ⟨ds, d, hs, hF, q⟩
  unfold fSorted at hF
  split at hF
  · rename_i d0
    rw [Option.bind_eq_some_iff] at hF
    obtain ⟨xs, e1, hF⟩ := hF
    split at hF
    · rename_i hz
      obtain ⟨hz, ht, hso⟩ := hz
      cases hF
      obtain ⟨v, fp, rfl, hv⟩ := seeL1 hs
      obtain ⟨u, rfl, rv⟩ := vals1 r
      rw [List.all_eq_true] at ht
      have ty : ∀ x ∈ xs, hasTy t x = true := fun x m => ((Bool.and_eq_true _ _).mp (ht x m)).1
      have ok : ∀ x ∈ xs, okD x = true := fun x m => ((Bool.and_eq_true _ _).mp (ht x m)).2
      have hL : xs.length ≤ sizeLine := by rw [sizeLine_eq]; exact hz
      refine Calls.call_function_entry PyProof.Rows.kind_sorted PyProof.Rows.plain_sorted PyProof.Rows.entry_sorted (PyProof.Rows.args_sorted1 _) ?_
      unfold Builtin.«sorted»
      refine wpAny_bind (m := checkCount "sorted" 1 1 _) (wpAny_pure ?_)
      refine wpAny_bind (src_coll (A' := X.A.in1) I hv e1 rv hL (I.ok.hd hc) fun h' tk acc ws hk rw' g => ?_)
      have I1 : Inv X pins σ H { s with heap := h', toks := tk } := I.kept hk
      have la : acc.length = xs.length := by rw [← rw'.length, g.length]
      refine wpAny_bind (wpAny_newList ?_ (by rw [la]; exact hL))
      have hoL : (h'.push (seqObj "list" acc.toArray 0)).get? h'.objs.size = some (seqObj "list" acc.toArray 0) := Heap.get?_push_size _ rfl
      show wpAny _ _ _ _ _ { s with heap := h'.push (seqObj "list" acc.toArray 0), toks := tk }
      have e := each_of rw' g
      have keep : ∀ b o, h'.get? b = some o → (PySem.W.sortingHeap (h'.push (seqObj "list" acc.toArray 0)) h'.objs.size acc).get? b = some o := fun b o z => PySem.W.sortingHeap_old (Nat.ne_of_lt (Heap.lt_size z)) (Heap.get?_push_of_some _ z)
      have er : PySem.W.EachIs (fun u x => ∃ as, Reads (PySem.W.sortingHeap (h'.push (seqObj "list" acc.toArray 0)) h'.objs.size acc) u (id x) as) acc xs := e.mono fun u x ⟨v, r1, g1⟩ => by
        obtain ⟨as, rd⟩ := Dp.reads I1 x v u (Gp.dp x v g1) r1
        exact ⟨as, PyProof.Rows.Reads.keeps keep rd⟩
      have al : PySem.W.AllAlike (xs.map id) := by
        rw [List.map_id]
        exact fun a ha b hb => ty_alike t a b (ty a ha) (ty b hb)
      have out := PySem.W.sortVals_data false e er al
      obtain ⟨ws', o1, o2⟩ := of_each out
      have S : PySem.W.SortsAt X.prog X.w X.A.in1.in1 { s with heap := PySem.W.sortingHeap (h'.push (seqObj "list" acc.toArray 0)) h'.objs.size acc, toks := tk } (PySem.W.dataKind (PySem.W.sortingHeap (h'.push (seqObj "list" acc.toArray 0)) h'.objs.size acc) (xs.map id)) acc :=
        PySem.W.SortsAt.data (s := { s with heap := PySem.W.sortingHeap (h'.push (seqObj "list" acc.toArray 0)) h'.objs.size acc, toks := tk }) (PySem.W.each_map (R := fun v d => ∃ as, Reads _ v d as) id er) al (sortableB_ok hso) (PySem.W.bound_map fun x m => by
          have := SeqAt.depth_of_shaped (ok x m)
          show X.A.units + 1 + 1 + (id x).depth < cLine
          show X.A.units + 1 + 1 + x.depth < cLine
          omega)
      refine wpAny_bind (wpAny_holding (wpAny_call_entry PyProof.Rows.slot_list_sort ⟨_, hoL, rfl⟩ PyProof.Rows.entry_list_sort
        (PySem.W.list_sort_vals (s := { s with heap := h'.push (seqObj "list" acc.toArray 0), toks := tk }) hoL S (by rw [la]; exact hL) ⟨_, rfl, ?_⟩)
        (PyProof.Rows.args_list_sort _)))
      obtain ⟨e', he'⟩ := PyProof.Rows.sortedHeap_at (vs := acc) (out := (PySem.W.sortVals (PySem.W.dataKind (PySem.W.sortingHeap (h'.push (seqObj "list" acc.toArray 0)) h'.objs.size acc) (xs.map id)) false acc acc).toArray) hoL
      rw [← sortL_eq ty] at o2
      have lw : ws'.length = xs.length := by rw [o2.length, (sortL_perm leD xs).length_eq]
      refine wpAny_pure ⟨_, rfl, .ref h'.objs.size, upd H h'.objs.size (.lst ws'), I1.laid (t' := tk) (fun b u e => ?_) (Nat.le_refl _)
        (show ObjOk X.prog X.w _ _ _ (.lst ws') from ⟨by rw [lw]; exact hL, _, e', o1, he'⟩), rfl, fin_lst q (I1.hok.fresh (Nat.le_refl _)) o2⟩
      have hb : b < h'.objs.size := Heap.lt_size e
      rw [PyProof.Rows.sortedHeap_old (Nat.ne_of_lt hb) (by rw [size_push']; exact Nat.lt_succ_of_lt hb)]
      exact Heap.get?_push_of_some _ e
    · cases hF
  · cases hF
end
end Ow

set_option Elab.async false
set_option linter.all false
set_option maxRecDepth 100000
set_option maxHeartbeats 1000000
/-! OwU: tuples with methods (made by tuple(x)); targets x[i], y[j] = a tuple of ground things. -/
namespace Ow
open PySem PySem.Spec PyProof.Rows L2

section
variable {X : Cx} {y : Wi} {fz pn : List Nat} {a b c e o tg : Expr} {es : List Expr} {pos spos apos cpos p : Pos} {r : Nat} {x name : Str}
/-! ### tuple(x), the object known -/
theorem call_tupleF : CallR X (.type "tuple") (fun xs H Q => ∃ p ys, xs = [.ref p] ∧ SqL X.K H p ys ∧ ∀ l o, H l = none → o.cls = .type "tuple" → o.dict = none → Q (.ref l) (upd H l (.frz o (.tup ys)))) := by
  intro pins s σ H xs us Q I r h
  obtain ⟨p, ys, rfl, hq, q⟩ := h
  obtain ⟨u, rfl, rx⟩ := vals1 r
  cases rx
  obtain ⟨its, r', pl, hz⟩ := I.list hq
  have hlen := r'.length
  refine call_tuple_list pl.isList (fun h' kp => ?_) (by simp only [List.size_toArray] <;> omega)
  have I1 : Inv X pins σ H { s with heap := h' } := I.kept (t' := s.toks) kp
  have I2 : Inv X pins σ (upd H h'.objs.size (.frz { cls := .type "tuple", data := .seq its.toArray } (.tup ys))) { s with heap := h'.push { cls := .type "tuple", data := .seq its.toArray } } :=
    I1.laid (t' := s.toks) (fun b o e => Heap.get?_push_of_some _ e) (Nat.le_refl _) (show ObjOk X.prog X.w _ _ _ (.frz _ (.tup ys)) from ⟨Heap.get?_push_size _ rfl, hz, its, r', IsTup.new _ _⟩)
  exact ⟨.ref h'.objs.size, _, I2, rfl, q _ _ (I1.hok.fresh (Nat.le_refl _)) rfl rfl⟩
def fTupleF : List D → Option D
  | [.lst ds] => (gAll ds).map .ft
  | _ => none
theorem v_tupleF : VN X (.type "tuple") fTupleF := by
  intro pins s σ H xs us Q I r ⟨ds, d, hs, hF, q⟩
  unfold fTupleF at hF
  split at hF
  · rename_i ds
    rw [Option.map_eq_some_iff] at hF
    obtain ⟨xs, e1, rfl⟩ := hF
    obtain ⟨v, fp, rfl, h⟩ := seeL1 hs
    obtain ⟨a, vs, fa, rfl, h1, h2, _⟩ := see_lst h
    have g := seeAll_ground e1 h2
    exact call_tupleF pins s σ H _ us Q I r ⟨a, vs, rfl, SqL.of h1, fun l o nl c1 c2 => q _ _ [] (same_upd nl) (.ft upd_same c1 c2 (GpAll.frame (Tk.same (same_upd nl)) _ _ g)) (by simp)⟩
  · cases hF

/-! ### methods of such a tuple -/
def tyF (x : V) (H : Hp) : Prop := ∃ p o vs, x = .ref p ∧ H p = some (.frz o (.tup vs)) ∧ o.cls = .type "tuple" ∧ o.dict = none
theorem tyF_is {pins : List (Addr × Obj)} {σ : L2.St} {H : Hp} {s : Shared} {x : V} {v : Value} (I : Inv X pins σ H s) (r : RelV x v) (ty : tyF x H) :
    s.TypeIs v "tuple" ∧ ∀ a, v = .ref a → ∃ ob, s.heap.get? a = some ob ∧ ob.dict = none := by
  obtain ⟨p, o, vs, rfl, h, hc, hd⟩ := ty
  cases r
  have e : s.heap.get? p = some o := (I.hok p _ h).1
  exact ⟨⟨o, e, hc⟩, fun a q => by cases q; exact ⟨o, e, hd⟩⟩
def tBF (rr : V → List V → Hp → VK → Prop) (to : TE) (t : TA) : TE := fun σ H Q => to σ H fun x H1 => tyF x H1 ∧ t σ H1 fun xs H2 => rr x xs H2 Q
theorem pe_bmF {id : String} {rr : V → List V → Hp → VK → Prop} {to : TE} {t : TA} (slot : Slot "tuple" name id) (hty : typeOf (.builtin id) = pure (.type "method_descriptor")) (hm : MtR X id rr) (ho : PE X o to) (ha : PA X (e :: es) t)
    (hbase : attributeBase o name X.env (eval o X.env) = eval o X.env := by rfl)
    (hfew : ((backTo cpos (starEach (e :: es) X.env)).all (fun x => !x.1) && (backToKw cpos (keywordEach [] X.env)).all (fun x => x.1.isSome)
      && decide ((e :: es).length + ([] : List Keyword).length + (if ([] : List Keyword).isEmpty then 0 else 1) < 30)) = true := by rfl)
    (hline : (apos.endLine == cpos.line) = true := by rfl) (hs : starEach (e :: es) X.env = (false, eval e X.env) :: starEach es X.env := by rfl) (hplain : (backTo cpos (starEach es X.env)).any (·.1) = false := by rfl) :
    PE X (.Call (.Attribute o name apos) (e :: es) [] cpos) (tBF rr to t) := by
  refine ⟨fun pins s σ H Q I h => ?_⟩
  refine wpAny_Call_method_late hbase hfew hline rfl (thn (ho.run pins s σ H _ I h) fun v s1 ⟨x, H1, I1, r1, ty, q1⟩ => ?_)
  obtain ⟨h1, h2⟩ := tyF_is I1 r1 ty
  refine ⟨"tuple", id, F.plainAttrs_tuple, slot, hty, h1, h2, ?_⟩
  have hA := ha.run cpos pins s1 σ H1 _ I1 q1
  rw [hs] at hA ⊢
  refine Calls.callWith_builtin (by show (false || (backTo cpos (starEach es X.env)).any (·.1)) = false; rw [hplain] <;> rfl) (Calls.evalArgs_plain ?_)
  exact thn hA fun us s2 ⟨vs, H2, I2, r2, q2⟩ => hm pins s2 σ H2 x vs v us Q I2 r1 r2 q2
/-- the first place of an equal one -/
def idxD : List PyData → PyData → Nat → Option Nat
  | [], _, _ => none
  | z :: zs, d, n => if PyData.eqv z d = true then some n else idxD zs d (n + 1)
theorem idxD_some : ∀ {zs : List PyData} {d : PyData} {n j : Nat}, idxD zs d n = some j → ∃ i, j = n + i ∧ ∃ z, zs[i]? = some z ∧ PyData.eqv z d = true ∧ ∀ (m : Nat) (z' : PyData), m < i → zs[m]? = some z' → PyData.eqv z' d = false
  | [], _, _, _, h => by cases h
  | z :: zs, d, n, j, h => by
    unfold idxD at h
    split at h
    · rename_i hz
      cases h
      exact ⟨0, rfl, z, rfl, hz, fun m _ hm => absurd hm (Nat.not_lt_zero _)⟩
    · rename_i hz
      obtain ⟨i, rfl, z2, h1, h2, h3⟩ := idxD_some h
      refine ⟨i + 1, by omega, z2, by simpa using h1, h2, fun m z' hm e => ?_⟩
      cases m with
      | zero =>
        simp only [List.getElem?_cons_zero, Option.some.injEq] at e
        subst e
        simpa using hz
      | succ m => exact h3 m z' (by omega) (by simpa using e)
def rIndexT (K : Fg) : V → List V → Hp → VK → Prop := fun x xs H Q => ∃ (v : V) (d : PyData) (ds : List PyData) (j : Nat), xs = [v] ∧ Dp K H x (.tuple ds) ∧ Dp K H v d ∧
  SeqAt.shaped (.tuple ds) = true ∧ SeqAt.shaped d = true ∧ idxD ds d 0 = some j ∧ Q (.int (j : Nat)) H
theorem mt_indexT (hu : X.A.units + 65 < cLine) : MtR X "tuple.index" (rIndexT X.K) := by
  intro pins s σ H x xs v us Q I rx rxs h
  obtain ⟨yv, d, ds, j, rfl, hl, hy, sl, sd, hj, q⟩ := h
  obtain ⟨i, e0, z, hz, hzj, hno⟩ := idxD_some hj
  have e0 : j = i := by omega
  subst e0
  cases rxs with
  | cons ry rt =>
    rename_i uy ut
    cases rt
    obtain ⟨bs, r1⟩ := Dp.reads I d yv uy hy ry
    have hxs : PyData.canLayAll0 ds = true := SeqAt.canLay_of_shaped sl
    have hroom : X.A.units + 1 + min (PyData.depthAll ds) d.depth < cLine := by
      have e1 : d.depth ≤ 64 := SeqAt.depth_of_shaped sd
      have e2 := Nat.min_le_right (PyData.depthAll ds) d.depth
      omega
    cases hl with
    | tup hs ha =>
      cases rx
      obtain ⟨its, rv, ⟨⟨cls, dd, data, sls⟩, ho, hc, n, hdt⟩, hlen⟩ := I.tuple hs
      simp only at hc hdt
      subst hc hdt
      obtain ⟨as, h4⟩ := Dp.readsAll I ds _ its ha rv
      have hn : its.length = ds.length := SeqAt.ReadsAll.length ds its as h4
      have hmap : its.map (SeqAt.readOf s.heap) = ds := SeqAt.readsAll_map ds its as hxs h4
      obtain ⟨hjd, _⟩ := List.getElem?_eq_some_iff.mp hz
      have hjl : j < its.length := by omega
      have hj2 : j < its.toArray.size := by simpa using hjl
      have at_ : ∀ (m : Nat) (hm : m < its.length) (z' : PyData), ds[m]? = some z' → SeqAt.readOf s.heap its[m] = z' := by
        intro m hml z' hz'
        rw [← hmap, List.getElem?_map, List.getElem?_eq_getElem hml] at hz'
        exact Option.some.inj hz'
      refine call_meets PySem.F.slot_tuple_index ⟨_, ho, rfl⟩ PySem.F.entry_tuple_index (PySem.F.args_tuple_index_2 _ _)
        (SeqAt.tuple_index2_found _ its.toArray n dd sls uy (fun m => match its[m]? with | some u => PyData.eqv (SeqAt.readOf s.heap u) d | none => false) j hj2 (Nat.zero_le _) hj2 ?_ ?_) ⟨ho, ?_, ?_⟩
      · rw [List.getElem?_eq_getElem hjl]
        show PyData.eqv (SeqAt.readOf s.heap its[j]) d = true
        rw [at_ j hjl z hz]
        exact hzj
      · intro m hm _ hmj
        have hml : m < its.length := by omega
        have hmd : m < ds.length := by omega
        have hz' : ds[m]? = some ds[m] := List.getElem?_eq_getElem hmd
        rw [List.getElem?_eq_getElem hml]
        show PyData.eqv (SeqAt.readOf s.heap its[m]) d = false
        rw [at_ m hml _ hz']
        exact hno m _ hmj hz'
      · intro m hm
        have hml : m < its.length := by simpa using hm
        have := SeqAt.items_eqAt (vs := its.toArray) (show ReadsAll s.heap its.toArray.toList ds as from h4) r1 hxs (SeqAt.canLay_of_shaped sd) hroom its.toArray[m] (Array.getElem_mem hm)
        rw [List.getElem?_eq_getElem hml]
        simpa using this
      · exact ⟨.int (j : Nat), H, I.tok _, ⟨_, rfl⟩, q⟩
def ftOf : D → Option (List PyData)
  | .ft xs => some xs
  | _ => none
def pIdxT (f : PF) (g : PL) : PF := fun env => (f env).bind fun p => (PR.of (ftOf p.d)).bind fun xs => (g env).bind fun ds => match ds with
  | [d] => (PR.of (toPD d)).bind fun x => if SeqAt.shaped (.tuple xs) = true ∧ SeqAt.shaped x = true then (PR.of (idxD xs x 0)).bind fun j => .ok (.own (.g (.int j))) else .bad
  | _ => .bad
/-- t.index(x) -/
theorem p_idxT {f : PF} {g : PL} (hu : X.A.units + 65 < cLine) (ho : P X y o f) (ha : PArg X y [e] g)
    (hbase : attributeBase o "index" X.env (eval o X.env) = eval o X.env := by rfl)
    (hfew : ((backTo cpos (starEach [e] X.env)).all (fun x => !x.1) && (backToKw cpos (keywordEach [] X.env)).all (fun x => x.1.isSome)
      && decide ([e].length + ([] : List Keyword).length + (if ([] : List Keyword).isEmpty then 0 else 1) < 30)) = true := by rfl)
    (hline : (apos.endLine == cpos.line) = true := by rfl) (hs : starEach [e] X.env = (false, eval e X.env) :: starEach [] X.env := by rfl) (hplain : (backTo cpos (starEach [] X.env)).any (·.1) = false := by rfl) :
    P X y (.Call (.Attribute o "index" apos) [e] [] cpos) (pIdxT f g) := by
  refine ⟨pe_imp (pe_bmF F.slot_tuple_index F.type_tuple_index (mt_indexT hu) ho.pe ha.pa hbase hfew hline hs hplain) fun σ H Q q => ?_⟩
  obtain ⟨env, Z, hR, h⟩ := q
  refine ⟨env, Z, hR, (PR.post_bind h).mono (fun p h v H1 fp s1 o1 => ?_) fun x q => q⟩
  obtain ⟨xs, e1, h⟩ := PR.post_of (PR.post_bind h)
  have hs1 := o1.see
  unfold ftOf at e1
  split at e1
  · rename_i xs' hd
    cases e1
    rw [hd] at hs1
    cases hs1 with
    | ft h1 h2 h3 h4 =>
      refine ⟨⟨_, _, _, rfl, h1, h2, h3⟩, env, Z, hR.same s1, (PR.post_bind h).mono (fun ds h vs H2 s2 os => ?_) fun x q => q.same s1⟩
      split at h
      · rename_i d
        obtain ⟨x, e2, h⟩ := PR.post_of (PR.post_bind h)
        split at h
        · rename_i hz
          obtain ⟨j, e3, h⟩ := PR.post_of (PR.post_bind h)
          obtain ⟨w, fq, rfl, hw⟩ := seeL1 os
          exact ⟨w, x, _, j, rfl, .tup (.inl (.inr ⟨_, s2 _ _ h1⟩)) (GpAll.dp _ _ (GpAll.frame (Tk.same s2) _ _ h4)), See.dp d w fq x hw e2, hz.1, hz.2, e3, h _ H2 [] (s1.trans s2) ⟨.g (.int _), by simp⟩⟩
        · exact (h : False).elim
      · exact (h : False).elim
  · cases e1
/-! ### targets that store ground things -/
structure GE (X : Cx) (y : Wi) (fz pn : List Nat) (tg : Expr) (b : PyData → List D → Option (List D)) : Prop where
  pg : PG X tg fun v σ H Q => ∃ env F R x env', EnvOk X.K H fz R σ env F ∧ Gp X.K H v x ∧ b x env = some env' ∧ ∀ σ' H' F', AftS X.K fz pn R σ H F env σ' H' F' env' → Q σ' H'
structure GEs (X : Cx) (y : Wi) (fz pn : List Nat) (tg : List Expr) (b : List PyData → List D → Option (List D)) : Prop where
  pg : PGs X tg fun vs σ H Q => ∃ env F R xs env', EnvOk X.K H fz R σ env F ∧ GpAll X.K H vs xs ∧ b xs env = some env' ∧ ∀ σ' H' F', AftS X.K fz pn R σ H F env σ' H' F' env' → Q σ' H'
def bNm (i : Nat) : PyData → List D → Option (List D) := fun x env => putD i (.g x) env
theorem ge_name {i : Nat} (hf : free fz pn i = true) (hg : PG X tg (gName i)) : GE X y fz pn tg (bNm i) := by
  refine ⟨pg_imp hg fun v σ H Q q => ?_⟩
  obtain ⟨env, F, R, x, env', he, hs, hb, q⟩ := q
  obtain ⟨hd, hlt, rfl⟩ := putD_some hb
  exact q _ _ _ (AftS.put (fp := []) (Aft.same he (Same.refl H)) he hf hlt hd (.g hs) (by simp) (by simp))
def bSub (r : Nat) (fp : PPf) (fi : PF) : PyData → List D → Option (List D) := fun x env => match fp env, fi env with
  | .ok p, .ok k => setLD r p k.d (.g x) env
  | _, _ => none
theorem ge_sub {fp : PPf} {fi : PF} (hr : fz.contains r = false) (ho : PPth X y r o fp) (hi : P X y b fi)
    (ha : ∀ v, assign (.Subscript o b pos) X.env v = (do
      let ov ← holding [v] (eval o X.env)
      let iv ← holding [v, ov] (eval b X.env)
      standAt pos
      holding [v, ov, iv] (setItem ov iv v)
      release [v, ov, iv] []) := by intro _; rfl) : GE X y fz pn (.Subscript o b pos) (bSub r fp fi) := by
  refine ⟨pg_imp (pg_sub ho.pe hi.pe set_list ha) fun v σ H Q q => ?_⟩
  obtain ⟨env, F, R, x, env', he, hx, hb, q⟩ := q
  unfold bSub at hb
  split at hb
  · rename_i pt k e1 e2
    have A0 : Aft X.K fz R σ H F env H F env := Aft.same he (Same.refl H)
    refine ⟨env, _, he.rd, ?_⟩
    rw [e1]
    refine fun o H2 s2 hat => ?_
    have A2 := A0.trans (Aft.same he s2)
    refine ⟨env, _, A2.ok.rd, ?_⟩
    rw [e2]
    refine fun w H3 fk s3 ok => ?_
    have A3 := A2.trans (Aft.same A2.ok s3)
    unfold setLD at hb
    simp only [Option.bind_eq_some_iff] at hb
    obtain ⟨ds, e1, ki, e2, j, e3, e4⟩ := hb
    cases e4
    have hk := intOf_some e2
    have hw := ok.see
    rw [hk] at hw
    have := see_int hw
    subst this
    obtain ⟨aa, vs, fl, rfl, h1, h2, h3, h4, h5⟩ := aft_write A3 he hr e1 fun v0 q => (hat v0 q).same s3
    refine ⟨aa, vs, ki, j, rfl, rfl, h1, by rw [h2.length]; exact e3, ?_⟩
    have o1 : OwnAll X.K (upd H3 aa (.lst (vs.set j v))) vs ds fl := RelAll.updF h1 h2 h3
    have hx3 : Gp X.K H3 v x := Gp.frame (Tk.same (s2.trans s3)) _ _ hx
    have o2 : Own X.K (upd H3 aa (.lst (vs.set j v))) v (.g x) [] := Rel.updF h1 (.g hx3) (by simp)
    obtain ⟨fp', u1, u2⟩ := o1.setAt (j := j) o2 (by simp)
    obtain ⟨F', B, _, _⟩ := h5 _ _ fp' u1 (fun m => (u2 _ m).elim h3 fun m => by cases m) fun b m => (u2 b m).imp id fun m => by cases m
    exact q σ _ F' B.s
  · cases hb
def bNil : List PyData → List D → Option (List D) := fun xs env => match xs with
  | [] => some env
  | _ => none
def bCons (b : PyData → List D → Option (List D)) (bs : List PyData → List D → Option (List D)) : List PyData → List D → Option (List D) := fun xs env => match xs with
  | x :: xs => (b x env).bind fun env => bs xs env
  | [] => none
theorem ges_nil : GEs X y fz pn [] bNil := by
  refine ⟨pgs_imp pgs_nil fun vs σ H Q q => ?_⟩
  obtain ⟨env, F, R, xs, env', he, hs, hb, q⟩ := q
  cases xs with
  | nil => cases hs; cases hb; exact ⟨rfl, q _ _ _ (AftS.refl he)⟩
  | cons x xs => cases hb
theorem ges_cons {b : PyData → List D → Option (List D)} {bs : List PyData → List D → Option (List D)} (h1 : GE X y fz pn e b) (h2 : GEs X y fz pn es bs) (hs : (assignEach (e :: es) X.env).map (·.2) = assign e X.env :: (assignEach es X.env).map (·.2) := by rfl) : GEs X y fz pn (e :: es) (bCons b bs) := by
  refine ⟨pgs_imp (pgs_cons h1.pg h2.pg hs) fun vs σ H Q q => ?_⟩
  obtain ⟨env, F, R, xs, env', he, hs, hb, q⟩ := q
  cases xs with
  | nil => cases hb
  | cons x xs =>
    cases hs with
    | cons s1 s2 =>
      simp only [bCons, Option.bind_eq_some_iff] at hb
      obtain ⟨env1, b1, b2⟩ := hb
      exact ⟨_, _, rfl, env, F, R, x, env1, he, s1, b1, fun σ1 H1 F1 A1 => ⟨env1, F1, R, xs, env', A1.ok, GpAll.frame A1.stp.imm _ _ s2, b2, fun σ2 H2 F2 A2 => q σ2 H2 F2 (A1.trans A2)⟩⟩
def bTup (n : Nat) (bs : List PyData → List D → Option (List D)) : PyData → List D → Option (List D) := fun x env => match x with
  | .tuple xs => if xs.length = n then bs xs env else none
  | _ => none
theorem ge_tup {k : Nat} {n : Nat} {bs : List PyData → List D → Option (List D)} (hc : X.calm = true) (h : GEs X y fz pn es bs) (hn : (assignEach es X.env).length = n := by rfl) (hst : (assignEach es X.env).findIdx? (·.1) = none := by rfl) : GE X y fz pn (.Tuple es k pos) (bTup n bs) := by
  refine ⟨pg_imp (pg_tup hc h.pg hn hst) fun v σ H Q q => ?_⟩
  obtain ⟨env, F, R, x, env', he, hs, hb, q⟩ := q
  unfold bTup at hb
  split at hb
  · rename_i xs
    split at hb
    · rename_i hl
      cases hs with
      | tup h1 h2 => exact ⟨_, _, rfl, SqT.of h1, by rw [h2.length]; exact hl, env, F, R, _, env', he, h2, hb, q⟩
    · cases hb
  · cases hb
def sAsgE (b : PyData → List D → Option (List D)) (f : IF) : SF := fun env => (f env).toS fun d e => OpS ((gOf d).bind fun x => b x e)
theorem s_asgE {b : PyData → List D → Option (List D)} {f : IF} (h : I X y fz e f) (hg : GE X y fz pn tg b) (hs : swapsWithSole [tg] e pos.line X.env = pure false := by rfl) (hw : swappedStores [tg] e X.env = pure none := by rfl)
    (h1 : (assignEach [tg] X.env).map (·.2) = [assign tg X.env] := by rfl) : S X y fz pn (.Assign [tg] e pos) (sAsgE b f) := by
  refine ⟨ps_imp (ps_asg h.pe hg.pg hs hw h1) fun Dn σ H q => ?_⟩
  obtain ⟨env, F, R, he, q⟩ := q
  refine ⟨env, F, R, he, (Sat.ofI q).mono (fun d e q v H' F' fv A o n p => ?_) fun x q => q⟩
  obtain ⟨e', e1, q'⟩ := Sat.opS q
  rw [Option.bind_eq_some_iff] at e1
  obtain ⟨x, e1, e2⟩ := e1
  clear q
  unfold gOf at e1
  split at e1
  · cases e1
    cases o with
    | g hx => exact ⟨e, F', R, x, e', A.ok, hx, e2, fun σ' H2 F2 A2 => q' σ' H2 F2 (A.s.trans A2)⟩
  · cases e1
end
end Ow

set_option Elab.async false
set_option linter.all false
set_option maxRecDepth 100000
set_option maxHeartbeats 1000000
/-! OwV: what a derivation asks of its surroundings, in one bundle; the rules as the printed derivations call them. -/
namespace Ow
open PySem PySem.Spec PyProof.Rows L2

/-- the built-in names are not the program's -/
structure Bi (mg : Str → Option Value) : Prop where
  n_len : mg "len" = none
  n_range : mg "range" = none
  n_sum : mg "sum" = none
  n_any : mg "any" = none
  n_all : mg "all" = none
  n_max : mg "max" = none
  n_min : mg "min" = none
  n_abs : mg "abs" = none
  n_int : mg "int" = none
  n_bool : mg "bool" = none
  n_tuple : mg "tuple" = none
  n_list : mg "list" = none
  n_sorted : mg "sorted" = none
  n_enumerate : mg "enumerate" = none
  n_zip : mg "zip" = none
  n_set : mg "set" = none
  n_isinstance : mg "isinstance" = none
  n_reversed : mg "reversed" = none
  n_str : mg "str" = none
/-- what a def's body (or a comprehension in it) may lean on -/
structure Ct (X : Cx) (y : Wi) (k : Nat) : Prop where
  hc : X.calm = true
  nd : X.N.Nodup
  hr : Room k X.A
  tk : Takes X y.W
  hp : PassesOwn (model X.prog X.w) X.A X.env X.xe
  B : Bi X.mg
section
variable {X : Cx} {y : Wi} {k : Nat}
theorem Ct.u (c : Ct X y k) : X.A.units + 64 < cLine := by have := c.hr.un; omega
theorem Ct.u5 (c : Ct X y k) : X.A.units + 65 < cLine := by have := c.hr.un; omega
theorem Ct.u6 (c : Ct X y k) : X.A.units + 2 + 64 < cLine := by have := c.hr.un; omega
theorem Ct.u1 (c : Ct X y k) : X.A.units + 1 < cLine := by have := c.hr.un; omega
theorem Ct.rm (c : Ct X y k) {j : Nat} (h : j ≤ k) : Room j X.A := c.hr.mono h
theorem Ct.blk (c : Ct X y k) (s : Shared) (H : Hp) (scope : Scope) (ce : Env) (fp : List Addr) : Ct (X.blk s H scope ce fp) (y0 y) k := ⟨c.hc, c.nd, c.hr, takes0, PassesOwn.never, c.B⟩
end
theorem Ct.of {P : Program} {w : World} {K : Fg} {mg : Str → Option Value} {base : Heap} {N : List Str} {qual : Str} {scope : Scope} {f : Addr} {cd : Value} {A : Around} {outer : List Env} {s : Shared} {H : Hp} {E : XK} {cl : String → Option Addr} {k : Nat}
    (nd : N.Nodup) (hr : Room k (A.deeper (envOfC qual scope s.heap.objs.size f cd))) (B : Bi mg) : Ct (cxOf (L2.CX P w) P w K mg base N qual scope f cd A outer s H E) ⟨fun c dd _ H' => E c dd H', cl⟩ k :=
  ⟨rfl, nd, hr, takes_of rfl rfl rfl rfl, passes_of rfl, B⟩
theorem Ct.tr {X : Cx} {y : Wi} {k : Nat} {W : WX} {pn' : List (Addr × Obj)} {xe : Value → Shared → Prop} (c : Ct X y k) (tk : Takes (X.tr pn' xe) W) (hp : PassesOwn (model X.prog X.w) X.A X.env xe) : Ct (X.tr pn' xe) ⟨W, y.cl⟩ k := ⟨c.hc, c.nd, c.hr, tk, hp, c.B⟩
section
variable {X : Cx} {y : Wi} {k : Nat} {fz pn : List Nat} {a b d e o tg : Expr} {es : List Expr} {pos spos apos cpos p p' : Pos} {x : Str} {f : PL} {g : IL}
/-! ### names -/
theorem pv' (i : Nat) {x : Str} {pos : Pos} (hN : X.N[i]? = some x := by rfl) (hv : Vis X.env.scope x := by first | exact Or.inl rfl | exact Or.inr (Or.inl rfl) | exact Or.inr (Or.inr rfl)) (hd : (x == ("__debug__" : Str)) = false := by decide)
    (hcd : (x == ("__classdict__" : Str)) = false := by decide) : PE X (.Name x pos) (tVar i) := pe_var hN hv hd hcd
theorem p_v (i : Nat) {x : Str} {pos : Pos} (hN : X.N[i]? = some x := by rfl) (hv : Vis X.env.scope x := by first | exact Or.inl rfl | exact Or.inr (Or.inl rfl) | exact Or.inr (Or.inr rfl)) (hd : (x == ("__debug__" : Str)) = false := by decide)
    (hcd : (x == ("__classdict__" : Str)) = false := by decide) : P X y (.Name x pos) (pVar i) := p_var (pe_var hN hv hd hcd)
theorem i_v (i : Nat) {x : Str} {pos : Pos} (hi : fz.contains i = false := by rfl) (hN : X.N[i]? = some x := by rfl) (hv : Vis X.env.scope x := by first | exact Or.inl rfl | exact Or.inr (Or.inl rfl) | exact Or.inr (Or.inr rfl)) (hd : (x == ("__debug__" : Str)) = false := by decide)
    (hcd : (x == ("__classdict__" : Str)) = false := by decide) : I X y fz (.Name x pos) (iMove i) := i_move hi (pe_var hN hv hd hcd)
theorem p_gi {x : Str} {i : Int} (hm : ∃ t, X.mg x = some (.int i t)) (hg : Gl X x := by rfl) (hd : (x == ("__debug__" : Str)) = false := by decide) : P X y (.Name x pos) (pC (.int i)) := by
  obtain ⟨t, hm⟩ := hm
  exact p_globI hg hm hd
/-! ### operators -/
def fPow : D → D → Option D
  | .g (.int a), .g (.int b) => if 0 ≤ b ∧ b ≤ 1000000 ∧ a.natAbs < 18446744073709551616 then some (.g (.int (a ^ b.toNat))) else none
  | _, _ => none
theorem v_pow : V2 X (binaryOp .Pow) fPow := by
  intro pins s σ H x y v u Q I rx ry ⟨d, e, f1, f2, r, hd, he, hF, q⟩
  unfold fPow at hF
  split at hF
  · split at hF
    · rename_i hz
      cases hF
      have := see_int hd; subst this
      have := see_int he; subst this
      exact op_pow pins s σ H _ _ v u Q I rx ry ⟨_, _, rfl, rfl, ⟨hz.1, hz.2.1, hz.2.2⟩, fin_int q⟩
    · cases hF
  · cases hF
variable {fa fb fd : PF} {ga gb : IF} {F F' : D → D → Option D}
theorem p_add (ha : P X y a fa) (hb : P X y b fb) : P X y (.BinOp a .Add b pos) (pBin fAdd fa fb) := p_bin v_add ha hb
theorem i_add (ha : I X y fz a ga) (hb : I X y fz b gb) : I X y fz (.BinOp a .Add b pos) (iBin fAdd ga gb) := i_bin v_add ha hb
theorem p_sub (ha : P X y a fa) (hb : P X y b fb) : P X y (.BinOp a .Sub b pos) (pBin fSub fa fb) := p_bin v_sub ha hb
theorem i_sub (ha : I X y fz a ga) (hb : I X y fz b gb) : I X y fz (.BinOp a .Sub b pos) (iBin fSub ga gb) := i_bin v_sub ha hb
theorem p_mul (ha : P X y a fa) (hb : P X y b fb) : P X y (.BinOp a .Mult b pos) (pBin fMul fa fb) := p_bin v_mul ha hb
theorem i_mul (ha : I X y fz a ga) (hb : I X y fz b gb) : I X y fz (.BinOp a .Mult b pos) (iBin fMul ga gb) := i_bin v_mul ha hb
theorem p_mod (ha : P X y a fa) (hb : P X y b fb) : P X y (.BinOp a .Mod b pos) (pBin fMod fa fb) := p_bin v_mod ha hb
theorem i_mod (ha : I X y fz a ga) (hb : I X y fz b gb) : I X y fz (.BinOp a .Mod b pos) (iBin fMod ga gb) := i_bin v_mod ha hb
theorem p_div (ha : P X y a fa) (hb : P X y b fb) : P X y (.BinOp a .FloorDiv b pos) (pBin fDiv fa fb) := p_bin v_div ha hb
theorem i_div (ha : I X y fz a ga) (hb : I X y fz b gb) : I X y fz (.BinOp a .FloorDiv b pos) (iBin fDiv ga gb) := i_bin v_div ha hb
theorem p_pow (ha : P X y a fa) (hb : P X y b fb) : P X y (.BinOp a .Pow b pos) (pBin fPow fa fb) := p_bin v_pow ha hb
theorem i_pow (ha : I X y fz a ga) (hb : I X y fz b gb) : I X y fz (.BinOp a .Pow b pos) (iBin fPow ga gb) := i_bin v_pow ha hb
theorem c_eq (c : Ct X y k) : V2 X (compareOp .Eq) fEq := v_eq c.u
theorem c_ne (c : Ct X y k) : V2 X (compareOp .NotEq) fNe := v_ne c.u
theorem c_lt (c : Ct X y k) : V2 X (compareOp .Lt) fLt := v_lt c.u
theorem c_gt (c : Ct X y k) : V2 X (compareOp .Gt) fGt := v_gt c.u
theorem c_le (c : Ct X y k) : V2 X (compareOp .LtE) fLe := v_le c.u
theorem c_ge (c : Ct X y k) : V2 X (compareOp .GtE) fGe := v_ge c.u
theorem c_in (c : Ct X y k) : V2 X (compareOp .In) fIn := v_in c.u5
theorem c_notIn (c : Ct X y k) : V2 X (compareOp .NotIn) fNotIn := v_notIn c.u5
theorem p_c1 {op : CmpOp} (ho : V2 X (compareOp op) F) (ha : P X y a fa) (hb : P X y b fb) (hm : behindInMarks op b = false := by with_unfolding_all rfl) : P X y (.Compare a [op] [b] pos) (pBin F fa fb) := p_cmp ho ha hb hm
theorem pt_c1 {op : CmpOp} (ho : V2 X (compareOp op) F) (ha : P X y a fa) (hb : P X y b fb) (hm : behindInMarks op b = false := by with_unfolding_all rfl) : PTst X y (.Compare a [op] [b] pos) (pTst (pBin F fa fb)) := pt_ofCmp ho ha hb hm
theorem i_c1 {op : CmpOp} (ho : V2 X (compareOp op) F) (ha : I X y fz a ga) (hb : I X y fz b gb) (hm : behindInMarks op b = false := by with_unfolding_all rfl) : I X y fz (.Compare a [op] [b] pos) (iBin F ga gb) := i_cmp ho ha hb hm
theorem it_c1 {op : CmpOp} (ho : V2 X (compareOp op) F) (ha : I X y fz a ga) (hb : I X y fz b gb) (hm : behindInMarks op b = false := by with_unfolding_all rfl) : ITst X y fz (.Compare a [op] [b] pos) (iTst (iBin F ga gb)) := it_cmp ho ha hb hm
theorem p_at (c : Ct X y k) (ha : P X y a fa) (hb : P X y b fb) (hs : PlainIx b := by intro _ _; rfl) : P X y (.Subscript a b pos) (pIx fa fb) := p_ix c.u ha hb hs
theorem pth_v (i : Nat) {x : Str} {pos : Pos} (hN : X.N[i]? = some x := by rfl) (hv : Vis X.env.scope x := by first | exact Or.inl rfl | exact Or.inr (Or.inl rfl) | exact Or.inr (Or.inr rfl)) (hd : (x == ("__debug__" : Str)) = false := by decide)
    (hcd : (x == ("__classdict__" : Str)) = false := by decide) : PPth X y i (.Name x pos) (rootP i) := pth_root (pe_var hN hv hd hcd)
theorem pth_at {r : Nat} {fo : PPf} (ho : PPth X y r o fo) (hi : P X y b fb) (hs : PlainIx b := by intro _ _; rfl) : PPth X y r (.Subscript o b pos) (idxP fo r fb) := pth_ix ho hi hs
/-! ### built-ins by name -/
theorem pb_len (c : Ct X y k) (ha : PArg X y (e :: es) f) (hg : Gl X "len" := by rfl) (he : starEach (e :: es) X.env = (false, eval e X.env) :: starEach es X.env := by rfl) (hpl : (backTo pos (starEach es X.env)).any (·.1) = false := by rfl) : P X y (.Call (.Name "len" p) (e :: es) [] pos) (pCall fLen f) := p_callB v_len hg c.B.n_len boot_len ha (he := he) (hpl := hpl)
theorem ib_len (c : Ct X y k) (ha : IArg X y fz (e :: es) g) (hg : Gl X "len" := by rfl) (he : starEach (e :: es) X.env = (false, eval e X.env) :: starEach es X.env := by rfl) (hpl : (backTo pos (starEach es X.env)).any (·.1) = false := by rfl) : I X y fz (.Call (.Name "len" p) (e :: es) [] pos) (iCall fLen g) := i_callB v_len hg c.B.n_len boot_len ha (he := he) (hpl := hpl)
theorem pb_sum (c : Ct X y k) (ha : PArg X y (e :: es) f) (hg : Gl X "sum" := by rfl) (he : starEach (e :: es) X.env = (false, eval e X.env) :: starEach es X.env := by rfl) (hpl : (backTo pos (starEach es X.env)).any (·.1) = false := by rfl) : P X y (.Call (.Name "sum" p) (e :: es) [] pos) (pCall fSum f) := p_callB (v_sum c.hc) hg c.B.n_sum boot_sum ha (he := he) (hpl := hpl)
theorem ib_sum (c : Ct X y k) (ha : IArg X y fz (e :: es) g) (hg : Gl X "sum" := by rfl) (he : starEach (e :: es) X.env = (false, eval e X.env) :: starEach es X.env := by rfl) (hpl : (backTo pos (starEach es X.env)).any (·.1) = false := by rfl) : I X y fz (.Call (.Name "sum" p) (e :: es) [] pos) (iCall fSum g) := i_callB (v_sum c.hc) hg c.B.n_sum boot_sum ha (he := he) (hpl := hpl)
theorem pb_any (c : Ct X y k) (ha : PArg X y (e :: es) f) (hg : Gl X "any" := by rfl) (he : starEach (e :: es) X.env = (false, eval e X.env) :: starEach es X.env := by rfl) (hpl : (backTo pos (starEach es X.env)).any (·.1) = false := by rfl) : P X y (.Call (.Name "any" p) (e :: es) [] pos) (pCall fAny f) := p_callB (v_any c.hc) hg c.B.n_any boot_any ha (he := he) (hpl := hpl)
theorem ib_any (c : Ct X y k) (ha : IArg X y fz (e :: es) g) (hg : Gl X "any" := by rfl) (he : starEach (e :: es) X.env = (false, eval e X.env) :: starEach es X.env := by rfl) (hpl : (backTo pos (starEach es X.env)).any (·.1) = false := by rfl) : I X y fz (.Call (.Name "any" p) (e :: es) [] pos) (iCall fAny g) := i_callB (v_any c.hc) hg c.B.n_any boot_any ha (he := he) (hpl := hpl)
theorem pb_all (c : Ct X y k) (ha : PArg X y (e :: es) f) (hg : Gl X "all" := by rfl) (he : starEach (e :: es) X.env = (false, eval e X.env) :: starEach es X.env := by rfl) (hpl : (backTo pos (starEach es X.env)).any (·.1) = false := by rfl) : P X y (.Call (.Name "all" p) (e :: es) [] pos) (pCall fAll f) := p_callB (v_all c.hc) hg c.B.n_all boot_all ha (he := he) (hpl := hpl)
theorem ib_all (c : Ct X y k) (ha : IArg X y fz (e :: es) g) (hg : Gl X "all" := by rfl) (he : starEach (e :: es) X.env = (false, eval e X.env) :: starEach es X.env := by rfl) (hpl : (backTo pos (starEach es X.env)).any (·.1) = false := by rfl) : I X y fz (.Call (.Name "all" p) (e :: es) [] pos) (iCall fAll g) := i_callB (v_all c.hc) hg c.B.n_all boot_all ha (he := he) (hpl := hpl)
theorem pb_max1 (c : Ct X y k) (ha : PArg X y (e :: es) f) (hg : Gl X "max" := by rfl) (he : starEach (e :: es) X.env = (false, eval e X.env) :: starEach es X.env := by rfl) (hpl : (backTo pos (starEach es X.env)).any (·.1) = false := by rfl) : P X y (.Call (.Name "max" p) (e :: es) [] pos) (pCall fMax1 f) := p_callB (v_max1 c.hc) hg c.B.n_max boot_max ha (he := he) (hpl := hpl)
theorem ib_max1 (c : Ct X y k) (ha : IArg X y fz (e :: es) g) (hg : Gl X "max" := by rfl) (he : starEach (e :: es) X.env = (false, eval e X.env) :: starEach es X.env := by rfl) (hpl : (backTo pos (starEach es X.env)).any (·.1) = false := by rfl) : I X y fz (.Call (.Name "max" p) (e :: es) [] pos) (iCall fMax1 g) := i_callB (v_max1 c.hc) hg c.B.n_max boot_max ha (he := he) (hpl := hpl)
theorem pb_max2 (c : Ct X y k) (ha : PArg X y (e :: es) f) (hg : Gl X "max" := by rfl) (he : starEach (e :: es) X.env = (false, eval e X.env) :: starEach es X.env := by rfl) (hpl : (backTo pos (starEach es X.env)).any (·.1) = false := by rfl) : P X y (.Call (.Name "max" p) (e :: es) [] pos) (pCall fMax2 f) := p_callB (v_max2 c.hc) hg c.B.n_max boot_max ha (he := he) (hpl := hpl)
theorem ib_max2 (c : Ct X y k) (ha : IArg X y fz (e :: es) g) (hg : Gl X "max" := by rfl) (he : starEach (e :: es) X.env = (false, eval e X.env) :: starEach es X.env := by rfl) (hpl : (backTo pos (starEach es X.env)).any (·.1) = false := by rfl) : I X y fz (.Call (.Name "max" p) (e :: es) [] pos) (iCall fMax2 g) := i_callB (v_max2 c.hc) hg c.B.n_max boot_max ha (he := he) (hpl := hpl)
theorem pb_min1 (c : Ct X y k) (ha : PArg X y (e :: es) f) (hg : Gl X "min" := by rfl) (he : starEach (e :: es) X.env = (false, eval e X.env) :: starEach es X.env := by rfl) (hpl : (backTo pos (starEach es X.env)).any (·.1) = false := by rfl) : P X y (.Call (.Name "min" p) (e :: es) [] pos) (pCall fMin1 f) := p_callB (v_min1 c.hc) hg c.B.n_min boot_min ha (he := he) (hpl := hpl)
theorem ib_min1 (c : Ct X y k) (ha : IArg X y fz (e :: es) g) (hg : Gl X "min" := by rfl) (he : starEach (e :: es) X.env = (false, eval e X.env) :: starEach es X.env := by rfl) (hpl : (backTo pos (starEach es X.env)).any (·.1) = false := by rfl) : I X y fz (.Call (.Name "min" p) (e :: es) [] pos) (iCall fMin1 g) := i_callB (v_min1 c.hc) hg c.B.n_min boot_min ha (he := he) (hpl := hpl)
theorem pb_min2 (c : Ct X y k) (ha : PArg X y (e :: es) f) (hg : Gl X "min" := by rfl) (he : starEach (e :: es) X.env = (false, eval e X.env) :: starEach es X.env := by rfl) (hpl : (backTo pos (starEach es X.env)).any (·.1) = false := by rfl) : P X y (.Call (.Name "min" p) (e :: es) [] pos) (pCall fMin2 f) := p_callB (v_min2 c.hc) hg c.B.n_min boot_min ha (he := he) (hpl := hpl)
theorem ib_min2 (c : Ct X y k) (ha : IArg X y fz (e :: es) g) (hg : Gl X "min" := by rfl) (he : starEach (e :: es) X.env = (false, eval e X.env) :: starEach es X.env := by rfl) (hpl : (backTo pos (starEach es X.env)).any (·.1) = false := by rfl) : I X y fz (.Call (.Name "min" p) (e :: es) [] pos) (iCall fMin2 g) := i_callB (v_min2 c.hc) hg c.B.n_min boot_min ha (he := he) (hpl := hpl)
theorem pb_abs (c : Ct X y k) (ha : PArg X y (e :: es) f) (hg : Gl X "abs" := by rfl) (he : starEach (e :: es) X.env = (false, eval e X.env) :: starEach es X.env := by rfl) (hpl : (backTo pos (starEach es X.env)).any (·.1) = false := by rfl) : P X y (.Call (.Name "abs" p) (e :: es) [] pos) (pCall fAbs f) := p_callB v_abs hg c.B.n_abs boot_abs ha (he := he) (hpl := hpl)
theorem ib_abs (c : Ct X y k) (ha : IArg X y fz (e :: es) g) (hg : Gl X "abs" := by rfl) (he : starEach (e :: es) X.env = (false, eval e X.env) :: starEach es X.env := by rfl) (hpl : (backTo pos (starEach es X.env)).any (·.1) = false := by rfl) : I X y fz (.Call (.Name "abs" p) (e :: es) [] pos) (iCall fAbs g) := i_callB v_abs hg c.B.n_abs boot_abs ha (he := he) (hpl := hpl)
theorem pb_int (c : Ct X y k) (ha : PArg X y (e :: es) f) (hg : Gl X "int" := by rfl) (he : starEach (e :: es) X.env = (false, eval e X.env) :: starEach es X.env := by rfl) (hpl : (backTo pos (starEach es X.env)).any (·.1) = false := by rfl) : P X y (.Call (.Name "int" p) (e :: es) [] pos) (pCall fInt f) := p_callTy v_int hg c.B.n_int boot_int ha (he := he) (hpl := hpl)
theorem ib_int (c : Ct X y k) (ha : IArg X y fz (e :: es) g) (hg : Gl X "int" := by rfl) (he : starEach (e :: es) X.env = (false, eval e X.env) :: starEach es X.env := by rfl) (hpl : (backTo pos (starEach es X.env)).any (·.1) = false := by rfl) : I X y fz (.Call (.Name "int" p) (e :: es) [] pos) (iCall fInt g) := i_callTy v_int hg c.B.n_int boot_int ha (he := he) (hpl := hpl)
theorem pb_bool (c : Ct X y k) (ha : PArg X y (e :: es) f) (hg : Gl X "bool" := by rfl) (he : starEach (e :: es) X.env = (false, eval e X.env) :: starEach es X.env := by rfl) (hpl : (backTo pos (starEach es X.env)).any (·.1) = false := by rfl) : P X y (.Call (.Name "bool" p) (e :: es) [] pos) (pCall fBool f) := p_callTy v_bool hg c.B.n_bool boot_bool ha (he := he) (hpl := hpl)
theorem ib_bool (c : Ct X y k) (ha : IArg X y fz (e :: es) g) (hg : Gl X "bool" := by rfl) (he : starEach (e :: es) X.env = (false, eval e X.env) :: starEach es X.env := by rfl) (hpl : (backTo pos (starEach es X.env)).any (·.1) = false := by rfl) : I X y fz (.Call (.Name "bool" p) (e :: es) [] pos) (iCall fBool g) := i_callTy v_bool hg c.B.n_bool boot_bool ha (he := he) (hpl := hpl)
theorem pb_tuple (c : Ct X y k) (ha : PArg X y (e :: es) f) (hg : Gl X "tuple" := by rfl) (he : starEach (e :: es) X.env = (false, eval e X.env) :: starEach es X.env := by rfl) (hpl : (backTo pos (starEach es X.env)).any (·.1) = false := by rfl) : P X y (.Call (.Name "tuple" p) (e :: es) [] pos) (pCall fTuple f) := p_callTy v_tuple hg c.B.n_tuple boot_tuple ha (he := he) (hpl := hpl)
theorem ib_tuple (c : Ct X y k) (ha : IArg X y fz (e :: es) g) (hg : Gl X "tuple" := by rfl) (he : starEach (e :: es) X.env = (false, eval e X.env) :: starEach es X.env := by rfl) (hpl : (backTo pos (starEach es X.env)).any (·.1) = false := by rfl) : I X y fz (.Call (.Name "tuple" p) (e :: es) [] pos) (iCall fTuple g) := i_callTy v_tuple hg c.B.n_tuple boot_tuple ha (he := he) (hpl := hpl)
theorem pb_tupleF (c : Ct X y k) (ha : PArg X y (e :: es) f) (hg : Gl X "tuple" := by rfl) (he : starEach (e :: es) X.env = (false, eval e X.env) :: starEach es X.env := by rfl) (hpl : (backTo pos (starEach es X.env)).any (·.1) = false := by rfl) : P X y (.Call (.Name "tuple" p) (e :: es) [] pos) (pCall fTupleF f) := p_callTy v_tupleF hg c.B.n_tuple boot_tuple ha (he := he) (hpl := hpl)
theorem ib_tupleF (c : Ct X y k) (ha : IArg X y fz (e :: es) g) (hg : Gl X "tuple" := by rfl) (he : starEach (e :: es) X.env = (false, eval e X.env) :: starEach es X.env := by rfl) (hpl : (backTo pos (starEach es X.env)).any (·.1) = false := by rfl) : I X y fz (.Call (.Name "tuple" p) (e :: es) [] pos) (iCall fTupleF g) := i_callTy v_tupleF hg c.B.n_tuple boot_tuple ha (he := he) (hpl := hpl)
theorem pb_list (c : Ct X y k) (ha : PArg X y (e :: es) f) (hg : Gl X "list" := by rfl) (he : starEach (e :: es) X.env = (false, eval e X.env) :: starEach es X.env := by rfl) (hpl : (backTo pos (starEach es X.env)).any (·.1) = false := by rfl) : P X y (.Call (.Name "list" p) (e :: es) [] pos) (pCall fList f) := p_callTy v_list hg c.B.n_list boot_list ha (he := he) (hpl := hpl)
theorem ib_list (c : Ct X y k) (ha : IArg X y fz (e :: es) g) (hg : Gl X "list" := by rfl) (he : starEach (e :: es) X.env = (false, eval e X.env) :: starEach es X.env := by rfl) (hpl : (backTo pos (starEach es X.env)).any (·.1) = false := by rfl) : I X y fz (.Call (.Name "list" p) (e :: es) [] pos) (iCall fList g) := i_callTy v_list hg c.B.n_list boot_list ha (he := he) (hpl := hpl)
theorem pb_sorted (t : Ty) (c : Ct X y k) (ha : PArg X y (e :: es) f) (hg : Gl X "sorted" := by rfl) (he : starEach (e :: es) X.env = (false, eval e X.env) :: starEach es X.env := by rfl) (hpl : (backTo pos (starEach es X.env)).any (·.1) = false := by rfl) : P X y (.Call (.Name "sorted" p) (e :: es) [] pos) (pCall (fSorted t) f) := p_callB (v_sorted t c.hc c.u6) hg c.B.n_sorted boot_sorted ha (he := he) (hpl := hpl)
theorem ib_sorted (t : Ty) (c : Ct X y k) (ha : IArg X y fz (e :: es) g) (hg : Gl X "sorted" := by rfl) (he : starEach (e :: es) X.env = (false, eval e X.env) :: starEach es X.env := by rfl) (hpl : (backTo pos (starEach es X.env)).any (·.1) = false := by rfl) : I X y fz (.Call (.Name "sorted" p) (e :: es) [] pos) (iCall (fSorted t) g) := i_callB (v_sorted t c.hc c.u6) hg c.B.n_sorted boot_sorted ha (he := he) (hpl := hpl)
/-! ### walks -/
theorem w_rng1 (c : Ct X y k) (ha : PArg X y [a] f) (hg : Gl X "range" := by rfl) (hs : starEach [a] X.env = [(false, eval a X.env)] := by rfl) : PIt X y tg (.Call (.Name "range" p) [a] [] pos) (wRng1 f) := pit_rng1 hg c.B.n_range ha hs
theorem w_rng2 (c : Ct X y k) (ha : PArg X y [a, b] f) (hg : Gl X "range" := by rfl) (hs : starEach [a, b] X.env = [(false, eval a X.env), (false, eval b X.env)] := by rfl) (hs2 : starEach [b] X.env = [(false, eval b X.env)] := by rfl) : PIt X y tg (.Call (.Name "range" p) [a, b] [] pos) (wRng2 f) := pit_rng2 hg c.B.n_range ha hs hs2
/-! ### statements -/
theorem s_setN (c : Ct X y k) (i : Nat) {x : Str} {ge : IF} (h : I X y fz e ge) (hf : free fz pn i = true := by rfl) (hi : X.N[i]? = some x := by rfl) (hx : Loc X.env.scope x := by first | exact .inl rfl | exact .inr rfl) (hs : swapsWith e (some (.Name x p')) pos.line X.env = pure false := by rfl) (hfn : X.fn x = true ∨ X.env.scope.names.lookup x = some .local := by first | exact .inl rfl | exact .inr rfl) :
    S X y fz pn (.Assign [.Name x p'] e pos) (sSet i ge) := s_set hf (ps_set c.nd hi hx h.pe hs hfn)
theorem g_n (c : Ct X y k) (i : Nat) {x : Str} (hf : free fz pn i = true := by rfl) (hi : X.N[i]? = some x := by rfl) (hx : Loc X.env.scope x := by first | exact .inl rfl | exact .inr rfl) (hfn : X.fn x = true ∨ X.env.scope.names.lookup x = some .local := by first | exact .inl rfl | exact .inr rfl) : G X y fz pn (.Name x pos) (.nm i) := g_name hf (pg_name c.nd hi hx hfn)
theorem gp_n (c : Ct X y k) (i : Nat) {x : Str} (hi : X.N[i]? = some x := by rfl) (hx : Loc X.env.scope x := by first | exact .inl rfl | exact .inr rfl) (hfn : X.fn x = true ∨ X.env.scope.names.lookup x = some .local := by first | exact .inl rfl | exact .inr rfl) : GP X (.Name x pos) (.nm i) := gp_name (pg_name c.nd hi hx hfn)
theorem ge_n (c : Ct X y k) (i : Nat) {x : Str} (hf : free fz pn i = true := by rfl) (hi : X.N[i]? = some x := by rfl) (hx : Loc X.env.scope x := by first | exact .inl rfl | exact .inr rfl) (hfn : X.fn x = true ∨ X.env.scope.names.lookup x = some .local := by first | exact .inl rfl | exact .inr rfl) : GE X y fz pn (.Name x pos) (bNm i) := ge_name hf (pg_name c.nd hi hx hfn)
end
end Ow

set_option Elab.async false
set_option linter.all false
set_option maxRecDepth 100000
set_option maxHeartbeats 1000000
/-! OwW: more rules as the printed derivations call them. -/
namespace Ow
open PySem PySem.Spec PyProof.Rows L2

/-- an error class of the program, raised and caught by its name -/
def Er (P : Program) (w : World) (K : Fg) (mg : Str → Option Value) (base : Heap) (cl : String → Option Addr) (x : Str) (nm : String) : Prop :=
  ∃ C, OexC K C ∧ PySem.W.findIn K (.ref C) "code" = some none ∧ PySem.W.findIn K (.ref C) "place" = some none ∧ mg x = some (.ref C) ∧ cl nm = some C ∧
    (∃ fI fd ds, PySem.W.findIn K (.ref C) "__init__" = some (some (.ref fI)) ∧ PySem.W.typeIn K (.ref fI) = some (.type "function") ∧ FnOk P w K mg base (L2.CX P w) 1 fI fd ["self", "code", "place"] (spI K) ∧
      Binds K fd ["self", "code", "place"] [] ∧ Vals [.int 0] ds ∧ Binds K fd ["self", "code", "place"] ds) ∧
    XfC K C ∧ ∀ n' C', cl n' = some C' → PySem.W.exmOne K (.ref C') (.ref C) = some (n' == nm)
section
variable {X : Cx} {y : Wi} {k : Nat} {fz pn : List Nat} {a b d e o tg iter elt : Expr} {es ifs : List Expr} {pos pos2 spos apos cpos p p' p2 : Pos} {x n : Str} {nm : String} {f : PL} {g : IL} {body : List Stmt} {scope : Scope}
theorem s_r1 (c : Ct X y k) (T : Er X.prog X.w X.K X.mg X.base y.cl x nm) (ha : PArg X y [a] f) (hk : 2 ≤ k := by decide) (hg : Gl X x := by rfl) (hdb : (x == ("__debug__" : Str)) = false := by decide)
    (he : starEach [a] X.env = (false, eval a X.env) :: starEach [] X.env := by rfl) (hpl : (backTo pos (starEach [] X.env)).any (·.1) = false := by rfl) : S X y fz pn (.Raise (some (.Call (.Name x p) [a] [] pos)) none pos2) (sRaise1 nm f) := by
  obtain ⟨C, h1, h2, h3, h4, h5, h6, h7, h8⟩ := T
  exact s_raise1 c.hc c.tk ⟨h1, h2, h3, h4, h5, h6⟩ (c.rm hk) hg ha hdb he hpl
theorem s_r2 (c : Ct X y k) (T : Er X.prog X.w X.K X.mg X.base y.cl x nm) (ha : PArg X y [a, b] f) (hk : 2 ≤ k := by decide) (hg : Gl X x := by rfl) (hdb : (x == ("__debug__" : Str)) = false := by decide)
    (he : starEach [a, b] X.env = (false, eval a X.env) :: starEach [b] X.env := by rfl) (hpl : (backTo pos (starEach [b] X.env)).any (·.1) = false := by rfl) : S X y fz pn (.Raise (some (.Call (.Name x p) [a, b] [] pos)) none pos2) (sRaise2 nm f) := by
  obtain ⟨C, h1, h2, h3, h4, h5, h6, h7, h8⟩ := T
  exact s_raise2 c.hc c.tk ⟨h1, h2, h3, h4, h5, h6⟩ (c.rm hk) hg ha hdb he hpl
/-! ### loops -/
variable {pw : PW'} {pt : Pat} {h : SF}
theorem f_for (c : Ct X y k) (hi : PIt X y tg e pw) (hg : G X y fz pn tg pt) (hb : Ss X y fz pn body h) (hs : ∀ x, foldedSetIterable e X.env x = pure x := by intro _; rfl) : S X y fz pn (.For tg e body [] pos) (sFor pt pw h) := s_for c.hp c.hc hi hg hb hs
theorem f_forL (c : Ct X y k) (r : Nat) (hi : PIt X y tg e pw) (hg : G X y (r :: fz) pn tg pt) (hb : Ss X y (r :: fz) pn body h) (hr : fz.contains r = false := by rfl) (hs : ∀ x, foldedSetIterable e X.env x = pure x := by intro _; rfl) : S X y fz pn (.For tg e body [] pos) (sForL r fz pt pw h) := s_forL hr c.hp c.hc hi hg hb hs
theorem f_forD (c : Ct X y k) (r : Nat) (hn : PE X (.Name x p2) (tVar r)) (hg : G X y (r :: fz) pn tg pt) (hb : Ss X y (r :: fz) pn body h) (hr : fz.contains r = false := by rfl) (hs : ∀ z, foldedSetIterable (.Name x p2) X.env z = pure z := by intro _; rfl) : S X y fz pn (.For tg (.Name x p2) body [] pos) (sForD r pt h) := s_forD hr c.hp c.hc hn hg hb hs
theorem f_while (c : Ct X y k) (m : Nat) {ib : IB} (hc : ITst X y fz e ib) (hb : Ss X y fz pn body h) : S X y fz pn (.While e body [] pos) (sWhile m ib h) := s_while c.hp hc hb
/-! ### comprehensions -/
variable {own : List (Str × Nat)} {tt : PB} {pf : PF}
theorem all_mem {xs ys : List Nat} (h : (xs.all fun j => ys.contains j) = true) : ∀ j ∈ xs, j ∈ ys := fun j m => List.contains_iff_mem.mp (List.all_eq_true.mp h j m)
theorem q_lc (c : Ct X y k) (own : List (Str × Nat)) (hi : PIt X y tg iter pw)
    (hg : ∀ (s : Shared) (H : Hp) (C : Addr) (cl : List (Str × Addr)) (fp : List Addr), Ct (X.blk s H scope (compEnvC scope cl C X.env) fp) (y0 y) k → GP (X.blk s H scope (compEnvC scope cl C X.env) fp) tg pt)
    (ht : ∀ (s : Shared) (H : Hp) (C : Addr) (cl : List (Str × Addr)) (fp : List Addr), Ct (X.blk s H scope (compEnvC scope cl C X.env) fp) (y0 y) k → PTs' (X.blk s H scope (compEnvC scope cl C X.env) fp) (y0 y) ifs tt)
    (he : ∀ (s : Shared) (H : Hp) (C : Addr) (cl : List (Str × Addr)) (fp : List Addr), Ct (X.blk s H scope (compEnvC scope cl C X.env) fp) (y0 y) k → P (X.blk s H scope (compEnvC scope cl C X.env) fp) (y0 y) elt pf)
    (ok : blkC X.N X.env.scope scope own = true := by kernel_rfl) (hsl : (pt.slots.all fun j => (own.map (·.2)).contains j) = true := by rfl) (hs : ∀ x, foldedSetIterable iter X.env x = pure x := by intro _; rfl) :
    P X y (.ListComp elt [⟨tg, iter, ifs, 0⟩] scope pos) (pLc (own.map (·.2)) pw pt tt pf) :=
  p_lc c.hc c.nd hi (blkOk_by ok) (all_mem hsl) (fun s H C cl fp => hg s H C cl fp (c.blk s H scope _ fp)) (fun s H C cl fp => ht s H C cl fp (c.blk s H scope _ fp)) (fun s H C cl fp => he s H C cl fp (c.blk s H scope _ fp)) hs
theorem q_setLc (c : Ct X y k) (i : Nat) {x : Str} {py : Pos} (own : List (Str × Nat)) (hi : PIt X y tg iter pw)
    (hg : ∀ (s : Shared) (H : Hp) (C : Addr) (cl : List (Str × Addr)) (fp : List Addr), Ct (X.blk s H scope (compEnvC scope cl C X.env) fp) (y0 y) k → GP (X.blk s H scope (compEnvC scope cl C X.env) fp) tg pt)
    (ht : ∀ (s : Shared) (H : Hp) (C : Addr) (cl : List (Str × Addr)) (fp : List Addr), Ct (X.blk s H scope (compEnvC scope cl C X.env) fp) (y0 y) k → PTs' (X.blk s H scope (compEnvC scope cl C X.env) fp) (y0 y) ifs tt)
    (he : ∀ (s : Shared) (H : Hp) (C : Addr) (cl : List (Str × Addr)) (fp : List Addr), Ct (X.blk s H scope (compEnvC scope cl C X.env) fp) (y0 y) k → P (X.blk s H scope (compEnvC scope cl C X.env) fp) (y0 y) elt pf)
    (hf : free fz pn i = true := by rfl) (hy : X.N[i]? = some x := by rfl) (hyl : X.env.scope.names.lookup x = some .local := by rfl) (hsw : swapsWith (.ListComp elt [⟨tg, iter, ifs, 0⟩] scope pos) (some (.Name x py)) spos.line X.env = pure true := by rfl) (ok : blkC X.N X.env.scope scope own = true := by kernel_rfl) (hsl : (pt.slots.all fun j => (own.map (·.2)).contains j) = true := by rfl) (hs : ∀ x, foldedSetIterable iter X.env x = pure x := by intro _; rfl) :
    S X y fz pn (.Assign [.Name x py] (.ListComp elt [⟨tg, iter, ifs, 0⟩] scope pos) spos) (sSet i (iP (pLc (own.map (·.2)) pw pt tt pf))) :=
  s_setLc hf hy hyl hsw c.hc c.nd hi (blkOk_by ok) (all_mem hsl) (fun s H C cl fp => hg s H C cl fp (c.blk s H scope _ fp)) (fun s H C cl fp => ht s H C cl fp (c.blk s H scope _ fp)) (fun s H C cl fp => he s H C cl fp (c.blk s H scope _ fp)) hs
theorem q_lc2 {tg1 iter1 : Expr} {ifs1 : List Expr} {pw1 : PW'} {pt1 : Pat} {tt1 : PB} (c : Ct X y k) (own : List (Str × Nat)) (vs1 : List Nat) (hi : PIt X y tg iter pw)
    (hg : ∀ (s : Shared) (H : Hp) (C : Addr) (cl : List (Str × Addr)) (fp : List Addr), Ct (X.blk s H scope (compEnvC scope cl C X.env) fp) (y0 y) k → GP (X.blk s H scope (compEnvC scope cl C X.env) fp) tg pt)
    (ht : ∀ (s : Shared) (H : Hp) (C : Addr) (cl : List (Str × Addr)) (fp : List Addr), Ct (X.blk s H scope (compEnvC scope cl C X.env) fp) (y0 y) k → PTs' (X.blk s H scope (compEnvC scope cl C X.env) fp) (y0 y) ifs tt)
    (hi1 : ∀ (s : Shared) (H : Hp) (C : Addr) (cl : List (Str × Addr)) (fp : List Addr), Ct (X.blk s H scope (compEnvC scope cl C X.env) fp) (y0 y) k → PIt (X.blk s H scope (compEnvC scope cl C X.env) fp) (y0 y) tg1 iter1 pw1)
    (hg1 : ∀ (s : Shared) (H : Hp) (C : Addr) (cl : List (Str × Addr)) (fp : List Addr), Ct (X.blk s H scope (compEnvC scope cl C X.env) fp) (y0 y) k → GP (X.blk s H scope (compEnvC scope cl C X.env) fp) tg1 pt1)
    (ht1 : ∀ (s : Shared) (H : Hp) (C : Addr) (cl : List (Str × Addr)) (fp : List Addr), Ct (X.blk s H scope (compEnvC scope cl C X.env) fp) (y0 y) k → PTs' (X.blk s H scope (compEnvC scope cl C X.env) fp) (y0 y) ifs1 tt1)
    (he : ∀ (s : Shared) (H : Hp) (C : Addr) (cl : List (Str × Addr)) (fp : List Addr), Ct (X.blk s H scope (compEnvC scope cl C X.env) fp) (y0 y) k → P (X.blk s H scope (compEnvC scope cl C X.env) fp) (y0 y) elt pf)
    (ok : blkC X.N X.env.scope scope own = true := by kernel_rfl) (hsl : (pt.slots.all fun j => (own.map (·.2)).contains j) = true := by rfl) (hsl1 : (pt1.slots.all fun j => vs1.contains j) = true := by rfl) (hv : (vs1.all fun j => (own.map (·.2)).contains j) = true := by rfl) (hs : ∀ x, foldedSetIterable iter X.env x = pure x := by intro _; rfl) (hs1 : ∀ env x, foldedSetIterable iter1 env x = pure x := by intro _ _; rfl) :
    P X y (.ListComp elt [⟨tg, iter, ifs, 0⟩, ⟨tg1, iter1, ifs1, 0⟩] scope pos) (pLc2 (own.map (·.2)) vs1 pw pt tt pw1 pt1 tt1 pf) :=
  p_lc2 c.hc c.nd hi (blkOk_by ok) (all_mem hsl) (all_mem hsl1) (all_mem hv) (fun s H C cl fp => hg s H C cl fp (c.blk s H scope _ fp)) (fun s H C cl fp => ht s H C cl fp (c.blk s H scope _ fp)) (fun s H C cl fp => hi1 s H C cl fp (c.blk s H scope _ fp)) (fun s H C cl fp => hg1 s H C cl fp (c.blk s H scope _ fp)) (fun s H C cl fp => ht1 s H C cl fp (c.blk s H scope _ fp)) (fun s H C cl fp => he s H C cl fp (c.blk s H scope _ fp)) hs hs1
theorem q_setLc2 {tg1 iter1 : Expr} {ifs1 : List Expr} {pw1 : PW'} {pt1 : Pat} {tt1 : PB} (c : Ct X y k) (i : Nat) {x : Str} {py : Pos} (own : List (Str × Nat)) (vs1 : List Nat) (hi : PIt X y tg iter pw)
    (hg : ∀ (s : Shared) (H : Hp) (C : Addr) (cl : List (Str × Addr)) (fp : List Addr), Ct (X.blk s H scope (compEnvC scope cl C X.env) fp) (y0 y) k → GP (X.blk s H scope (compEnvC scope cl C X.env) fp) tg pt)
    (ht : ∀ (s : Shared) (H : Hp) (C : Addr) (cl : List (Str × Addr)) (fp : List Addr), Ct (X.blk s H scope (compEnvC scope cl C X.env) fp) (y0 y) k → PTs' (X.blk s H scope (compEnvC scope cl C X.env) fp) (y0 y) ifs tt)
    (hi1 : ∀ (s : Shared) (H : Hp) (C : Addr) (cl : List (Str × Addr)) (fp : List Addr), Ct (X.blk s H scope (compEnvC scope cl C X.env) fp) (y0 y) k → PIt (X.blk s H scope (compEnvC scope cl C X.env) fp) (y0 y) tg1 iter1 pw1)
    (hg1 : ∀ (s : Shared) (H : Hp) (C : Addr) (cl : List (Str × Addr)) (fp : List Addr), Ct (X.blk s H scope (compEnvC scope cl C X.env) fp) (y0 y) k → GP (X.blk s H scope (compEnvC scope cl C X.env) fp) tg1 pt1)
    (ht1 : ∀ (s : Shared) (H : Hp) (C : Addr) (cl : List (Str × Addr)) (fp : List Addr), Ct (X.blk s H scope (compEnvC scope cl C X.env) fp) (y0 y) k → PTs' (X.blk s H scope (compEnvC scope cl C X.env) fp) (y0 y) ifs1 tt1)
    (he : ∀ (s : Shared) (H : Hp) (C : Addr) (cl : List (Str × Addr)) (fp : List Addr), Ct (X.blk s H scope (compEnvC scope cl C X.env) fp) (y0 y) k → P (X.blk s H scope (compEnvC scope cl C X.env) fp) (y0 y) elt pf)
    (hf : free fz pn i = true := by rfl) (hy : X.N[i]? = some x := by rfl) (hyl : X.env.scope.names.lookup x = some .local := by rfl) (hsw : swapsWith (.ListComp elt [⟨tg, iter, ifs, 0⟩, ⟨tg1, iter1, ifs1, 0⟩] scope pos) (some (.Name x py)) spos.line X.env = pure true := by rfl) (ok : blkC X.N X.env.scope scope own = true := by kernel_rfl) (hsl : (pt.slots.all fun j => (own.map (·.2)).contains j) = true := by rfl) (hsl1 : (pt1.slots.all fun j => vs1.contains j) = true := by rfl) (hv : (vs1.all fun j => (own.map (·.2)).contains j) = true := by rfl) (hs : ∀ x, foldedSetIterable iter X.env x = pure x := by intro _; rfl) (hs1 : ∀ env x, foldedSetIterable iter1 env x = pure x := by intro _ _; rfl) :
    S X y fz pn (.Assign [.Name x py] (.ListComp elt [⟨tg, iter, ifs, 0⟩, ⟨tg1, iter1, ifs1, 0⟩] scope pos) spos) (sSet i (iP (pLc2 (own.map (·.2)) vs1 pw pt tt pw1 pt1 tt1 pf))) :=
  s_setLc2 hf hy hyl hsw c.hc c.nd hi (blkOk_by ok) (all_mem hsl) (all_mem hsl1) (all_mem hv) (fun s H C cl fp => hg s H C cl fp (c.blk s H scope _ fp)) (fun s H C cl fp => ht s H C cl fp (c.blk s H scope _ fp)) (fun s H C cl fp => hi1 s H C cl fp (c.blk s H scope _ fp)) (fun s H C cl fp => hg1 s H C cl fp (c.blk s H scope _ fp)) (fun s H C cl fp => ht1 s H C cl fp (c.blk s H scope _ fp)) (fun s H C cl fp => he s H C cl fp (c.blk s H scope _ fp)) hs hs1
theorem q_lcK (c : Ct X y k) (r : Nat) (own : List (Str × Nat)) {xk : Str} {pk : Pos} (hn : PE X (.Name xk pk) (tVar r))
    (hg : ∀ (s : Shared) (H : Hp) (C : Addr) (cl : List (Str × Addr)) (fp : List Addr), Ct (X.blk s H scope (compEnvC scope cl C X.env) fp) (y0 y) k → GP (X.blk s H scope (compEnvC scope cl C X.env) fp) tg pt)
    (ht : ∀ (s : Shared) (H : Hp) (C : Addr) (cl : List (Str × Addr)) (fp : List Addr), Ct (X.blk s H scope (compEnvC scope cl C X.env) fp) (y0 y) k → PTs' (X.blk s H scope (compEnvC scope cl C X.env) fp) (y0 y) ifs tt)
    (he : ∀ (s : Shared) (H : Hp) (C : Addr) (cl : List (Str × Addr)) (fp : List Addr), Ct (X.blk s H scope (compEnvC scope cl C X.env) fp) (y0 y) k → P (X.blk s H scope (compEnvC scope cl C X.env) fp) (y0 y) elt pf)
    (ok : blkC X.N X.env.scope scope own = true := by kernel_rfl) (hsl : (pt.slots.all fun j => (own.map (·.2)).contains j) = true := by rfl) (hs : ∀ z, foldedSetIterable (.Name xk pk) X.env z = pure z := by intro _; rfl) :
    P X y (.ListComp elt [⟨tg, .Name xk pk, ifs, 0⟩] scope pos) (pLcK r (own.map (·.2)) pt tt pf) :=
  p_lcK c.hc c.nd hn (blkOk_by ok) (all_mem hsl) (fun s H C cl fp => hg s H C cl fp (c.blk s H scope _ fp)) (fun s H C cl fp => ht s H C cl fp (c.blk s H scope _ fp)) (fun s H C cl fp => he s H C cl fp (c.blk s H scope _ fp)) hs
variable {tti : IB} {gi : IF}
theorem q_lcI (c : Ct X y k) (own : List (Str × Nat)) (hi : PIt X y tg iter pw)
    (hg : ∀ (s : Shared) (H : Hp) (C : Addr) (cl : List (Str × Addr)) (fp : List Addr), Ct (X.blk s H scope (compEnvC scope cl C X.env) fp) (y0 y) k → G (X.blk s H scope (compEnvC scope cl C X.env) fp) (y0 y) fz pn tg pt)
    (ht : ∀ (s : Shared) (H : Hp) (C : Addr) (cl : List (Str × Addr)) (fp : List Addr), Ct (X.blk s H scope (compEnvC scope cl C X.env) fp) (y0 y) k → ITs (X.blk s H scope (compEnvC scope cl C X.env) fp) (y0 y) fz ifs tti)
    (he : ∀ (s : Shared) (H : Hp) (C : Addr) (cl : List (Str × Addr)) (fp : List Addr), Ct (X.blk s H scope (compEnvC scope cl C X.env) fp) (y0 y) k → I (X.blk s H scope (compEnvC scope cl C X.env) fp) (y0 y) fz elt gi)
    (ok : blkC X.N X.env.scope scope own = true := by kernel_rfl) (hsl : (pt.slots.all fun j => (own.map (·.2)).contains j) = true := by rfl) (hs : ∀ x, foldedSetIterable iter X.env x = pure x := by intro _; rfl) :
    I X y fz (.ListComp elt [⟨tg, iter, ifs, 0⟩] scope pos) (iLc (own.map (·.2)) pw pt tti gi) :=
  i_lc c.hc c.nd hi (blkOk_by ok) (all_mem hsl) (fun s H C cl fp => hg s H C cl fp (c.blk s H scope _ fp)) (fun s H C cl fp => ht s H C cl fp (c.blk s H scope _ fp)) (fun s H C cl fp => he s H C cl fp (c.blk s H scope _ fp)) hs
theorem q_setLcI (c : Ct X y k) (i : Nat) {x : Str} {py : Pos} (own : List (Str × Nat)) (hi : PIt X y tg iter pw)
    (hg : ∀ (s : Shared) (H : Hp) (C : Addr) (cl : List (Str × Addr)) (fp : List Addr), Ct (X.blk s H scope (compEnvC scope cl C X.env) fp) (y0 y) k → G (X.blk s H scope (compEnvC scope cl C X.env) fp) (y0 y) fz pn tg pt)
    (ht : ∀ (s : Shared) (H : Hp) (C : Addr) (cl : List (Str × Addr)) (fp : List Addr), Ct (X.blk s H scope (compEnvC scope cl C X.env) fp) (y0 y) k → ITs (X.blk s H scope (compEnvC scope cl C X.env) fp) (y0 y) fz ifs tti)
    (he : ∀ (s : Shared) (H : Hp) (C : Addr) (cl : List (Str × Addr)) (fp : List Addr), Ct (X.blk s H scope (compEnvC scope cl C X.env) fp) (y0 y) k → I (X.blk s H scope (compEnvC scope cl C X.env) fp) (y0 y) fz elt gi)
    (hf : free fz pn i = true := by rfl) (hy : X.N[i]? = some x := by rfl) (hyl : X.env.scope.names.lookup x = some .local := by rfl) (hsw : swapsWith (.ListComp elt [⟨tg, iter, ifs, 0⟩] scope pos) (some (.Name x py)) spos.line X.env = pure true := by rfl) (ok : blkC X.N X.env.scope scope own = true := by kernel_rfl) (hsl : (pt.slots.all fun j => (own.map (·.2)).contains j) = true := by rfl) (hs : ∀ x, foldedSetIterable iter X.env x = pure x := by intro _; rfl) :
    S X y fz pn (.Assign [.Name x py] (.ListComp elt [⟨tg, iter, ifs, 0⟩] scope pos) spos) (sSet i (iLc (own.map (·.2)) pw pt tti gi)) :=
  s_setLcI hf hy hyl hsw c.hc c.nd hi (blkOk_by ok) (all_mem hsl) (fun s H C cl fp => hg s H C cl fp (c.blk s H scope _ fp)) (fun s H C cl fp => ht s H C cl fp (c.blk s H scope _ fp)) (fun s H C cl fp => he s H C cl fp (c.blk s H scope _ fp)) hs
/-! ### walks -/
variable {pg qg : PF} {elts : List Expr} {kk : Nat} {tpos : Pos}
theorem w_enum (c : Ct X y k) (h : P X y e pg) (hg : Gl X "enumerate" := by rfl) (hs : starEach [e] X.env = [(false, eval e X.env)] := by rfl) (hs2 : starEach [e] X.env = (false, eval e X.env) :: starEach [] X.env := by rfl) :
    PIt X y (.Tuple elts kk tpos) (.Call (.Name "enumerate" p) [e] [] pos) (wEnum pg) := pit_enum hg c.B.n_enumerate h hs hs2
theorem w_zip (c : Ct X y k) (h1 : P X y a pg) (h2 : P X y b qg) (hg : Gl X "zip" := by rfl) (hs : starEach [a, b] X.env = (false, eval a X.env) :: starEach [b] X.env := by rfl) (hs2 : starEach [b] X.env = (false, eval b X.env) :: starEach [] X.env := by rfl) (hpl : (backTo pos (starEach [b] X.env)).any (·.1) = false := by rfl) :
    PIt X y (.Tuple elts kk tpos) (.Call (.Name "zip" p) [a, b] [] pos) (wZip pg qg) := pit_zip hg c.B.n_zip h1 h2 hs hs2 hpl
theorem w_rngDn (c : Ct X y k) (ha : PArg X y [a, b, d] f) (hg : Gl X "range" := by rfl) (hs : starEach [a, b, d] X.env = (false, eval a X.env) :: starEach [b, d] X.env := by rfl) (hpl : (backTo pos (starEach [b, d] X.env)).any (·.1) = false := by rfl) :
    PIt X y tg (.Call (.Name "range" p) [a, b, d] [] pos) (wRngDn f) := pit_rngDn hg c.B.n_range ha hs hpl
/-! ### calls of the program's defs -/
variable {m nn : Nat} {Gd : List D → PR D} {Gdd : List D → PR (D × D)}
theorem p_fn (c : Ct X y k) (F : Fk X.prog X.w X.K X.mg X.base y.cl m x nn Gd) (ha : PArg X y (e :: es) f) (hk : m ≤ k := by decide) (hg : Gl X x := by rfl) (hdb : (x == ("__debug__" : Str)) = false := by decide)
    (he : starEach (e :: es) X.env = (false, eval e X.env) :: starEach es X.env := by rfl) (hpl : (backTo pos (starEach es X.env)).any (·.1) = false := by rfl) : P X y (.Call (.Name x p) (e :: es) [] pos) (pFun nn Gd f) := p_fun c.tk F (c.rm hk) hg ha hdb he hpl
theorem i_fn (c : Ct X y k) (F : Fk X.prog X.w X.K X.mg X.base y.cl m x nn Gd) (ha : IArg X y fz (e :: es) g) (hk : m ≤ k := by decide) (hg : Gl X x := by rfl) (hdb : (x == ("__debug__" : Str)) = false := by decide)
    (he : starEach (e :: es) X.env = (false, eval e X.env) :: starEach es X.env := by rfl) (hpl : (backTo pos (starEach es X.env)).any (·.1) = false := by rfl) : I X y fz (.Call (.Name x p) (e :: es) [] pos) (iFun nn Gd g) := i_fun c.tk F (c.rm hk) hg ha hdb he hpl
theorem i_fnd (c : Ct X y k) (i : Nat) {xd : Str} (F : Fd X.prog X.w X.K X.mg X.base y.cl m x nn Gdd) (hd : PE X (.Name xd p2) (tVar i)) (ha : PArgZ X y es f) (hk : m ≤ k := by decide) (hi : fz.contains i = false := by rfl) (hg : Gl X x := by rfl) (hdb : (x == ("__debug__" : Str)) = false := by decide)
    (hs : starEach (.Name xd p2 :: es) X.env = (false, eval (.Name xd p2) X.env) :: starEach es X.env := by rfl) (hpl : (backTo pos (starEach es X.env)).any (·.1) = false := by rfl) : I X y fz (.Call (.Name x p) (.Name xd p2 :: es) [] pos) (iFunD i nn Gdd f) := i_fund hi c.tk F (c.rm hk) hg hd ha hdb hs hpl
/-! ### assignments -/
theorem q_par (c : Ct X y k) (i j : Nat) {x x' : Str} {px py pt : Pos} {kt k2 : Nat} {pt2 : Pos} (h : IArg X y fz [a, b] g) (hi : free fz pn i = true := by rfl) (hj : free fz pn j = true := by rfl) (hij : i ≠ j := by decide) (h1 : X.N[i]? = some x := by rfl) (h2 : X.N[j]? = some x' := by rfl)
    (hx : X.env.scope.names.lookup x = some .local := by rfl) (hy : X.env.scope.names.lookup x' = some .local := by rfl)
    (hw : swappedStores [.Tuple [.Name x px, .Name x' py] kt pt] (.Tuple [a, b] k2 pt2) X.env = pure (some [x, x']) := by rfl)
    (hs : swapsWithSole [.Tuple [.Name x px, .Name x' py] kt pt] (.Tuple [a, b] k2 pt2) pos.line X.env = pure false := by rfl) :
    S X y fz pn (.Assign [.Tuple [.Name x px, .Name x' py] kt pt] (.Tuple [a, b] k2 pt2) pos) (sPar i j g) := s_par hi hj (ps_par c.hc c.nd h1 h2 hij hx hy h.pa hw hs) hij
/-! ### try -/
theorem s_try (c : Ct X y k) (i : Nat) {np pos' pe pc pr : Pos} (T : Er X.prog X.w X.K X.mg X.base y.cl x nm)
    (hb : ∀ (W : WX) (pn' : List (Addr × Obj)) (xe : Value → Shared → Prop), Ct (X.tr pn' xe) ⟨W, y.cl⟩ k → Ss (X.tr pn' xe) ⟨W, y.cl⟩ fz pn body h)
    (hv : ∀ a pn', PE (X.suite a pn') (.Name n pe) (tVar i)) (hs : X.stack = X.env :: X.outer := by rfl) (hf : X.env.frame = some X.env.locals := by rfl) (hi : X.N[i]? = some n := by rfl) (hln : X.env.kindOf n = some .local := by rfl)
    (hif : free fz pn i = true := by rfl) (hat : attributeBase (.Name n pe) "code" X.env (eval (.Name n pe) X.env) = eval (.Name n pe) X.env := by rfl) (hg : Gl X x := by rfl) (hdb : (x == ("__debug__" : Str)) = false := by decide) :
    S X y fz pn (.Try body [.ExceptHandler (some (.Name x np)) (some n) [.Return (some (.Attribute (.Name n pe) "code" pc)) pr] pos'] [] [] pos) (sTry i nm false fz h) := by
  obtain ⟨C, h1, h2, h3, h4, h5, h6, h7, h8⟩ := T
  exact s_tryC (C := C) hs hf c.nd hi hln c.tk ⟨h7, h2, h3, ⟨hg, hdb, .inl h4⟩, h5, h8⟩ hif hv (fun W pn' xe tk hp => hb W pn' xe (c.tr tk hp)) hat
end
end Ow

set_option Elab.async false
set_option linter.all false
set_option maxRecDepth 100000
set_option maxHeartbeats 1000000
/-! OwX: menu[an index that draws]. -/
namespace Ow
open PySem PySem.Spec PyProof.Rows L2
section
variable {X : Cx} {y : Wi} {k : Nat} {fz pn : List Nat} {b : Expr} {pos p2 : Pos} {x : Str} {r : Nat}
def iPick (r : Nat) (gb : IF) : IF := fun env => match env[r]? with
  | some .hole => .bad
  | some d0 => (gb env).bind fun k env => match ixD d0 k with
    | some (.own (.g x)) => .ok (.g x) env
    | _ => .bad
  | none => .bad
theorem i_pick {gb : IF} (c : Ct X y k) (r : Nat) (hn : PE X (.Name x p2) (tVar r)) (hb : I X y fz b gb) (hr : fz.contains r = true := by rfl) (hs : PlainIx b := by intro _ _; rfl) : I X y fz (.Subscript (.Name x p2) b pos) (iPick r gb) := by
  have hri : r ∈ fz := List.contains_iff_mem.mp hr
  refine ⟨pe_imp (pe_ix (v_ix c.u) hn hb.pe hs) fun σ H Q q => ?_⟩
  obtain ⟨env, F, R, he, h⟩ := q
  unfold iPick at h
  split at h
  · exact (h : False).elim
  · rename_i d0 hh e1
    rcases he.frz r d0 e1 hri with z | ⟨v, fp, q1, q2, q3⟩
    · exact (hh z).elim
    refine ⟨v, q1, env, F, R, he, (IR.post_bind h).mono (fun kd env1 h w H1 F1 fk A ok n p => ?_) fun x q => q⟩
    split at h
    · rename_i gx e2
      have e3 : env1[r]? = some d0 := by rw [A.fix r hri]; exact e1
      rcases A.ok.frz r d0 e3 hri with z | ⟨v', fp', q4, q5, q6⟩
      · exact (hh z).elim
      rw [q1] at q4; cases q4
      exact ⟨d0, kd, fp', fk, _, q5, ok.see, e2, fun u fu z => h u H1 F1 fu A z.1 (by rw [z.2]; simp) (by rw [z.2]; simp)⟩
    · exact (h : False).elim
  · exact (h : False).elim
end
end Ow

set_option Elab.async false
set_option linter.all false
set_option maxRecDepth 100000
set_option maxHeartbeats 2000000
/-! OwE: a - sign, chains of three, for over items. -/
namespace Ow
open PySem PySem.Spec PyProof.Rows L2
section
variable {X : Cx} {y : Wi} {k : Nat} {fz pn : List Nat} {a b c d e tg iter elt : Expr} {es : List Expr} {pos p2 spos apos cpos : Pos} {body : List Stmt} {pt : Pat} {h : SF}
/-! ### -x -/
def pNeg (f : PF) : PF := fun env => (f env).bind fun p => match p.d with
  | .g (.int i) => .ok (.own (.g (.int (-i))))
  | _ => .bad
theorem p_neg {f : PF} (ha : P X y a f) : P X y (.UnaryOp .USub a pos) (pNeg f) := by
  refine ⟨pe_imp (pe_un un_neg ha.pe) fun σ H Q ⟨env, Z, hR, h⟩ => ⟨env, Z, hR, (PR.post_bind h).mono (fun p h v H1 fp s o => ?_) fun x q => q⟩⟩
  split at h
  · rename_i i hi
    have z := o.see
    rw [hi] at z
    exact ⟨i, see_int z, h _ H1 [] s ⟨.g (.int _), by simp⟩⟩
  · exact (h : False).elim
/-! ### a op b op' c op'' d -/
def goB (d : D) (yes : PR Pv) : PR Pv := match d with
  | .g (.bool true) => yes
  | .g (.bool false) => .ok (.own (.g (.bool false)))
  | _ => .bad
theorem goB_post {d : D} {yes : PR Pv} {ok : Pv → Prop} {er : Ex → Prop} (h : (goB d yes).post ok er) : (d = .g (.bool true) ∧ yes.post ok er) ∨ (d = .g (.bool false) ∧ ok (.own (.g (.bool false)))) := by
  unfold goB at h
  split at h
  · exact .inl ⟨rfl, h⟩
  · exact .inr ⟨rfl, h⟩
  · exact h.elim
def pCh3 (F F' F'' : D → D → Option D) (fa fb fc fd : PF) : PF := fun env => (fa env).bind fun a => (fb env).bind fun b => (PR.of (F a.d b.d)).bind fun t => goB t ((fc env).bind fun c => (PR.of (F' b.d c.d)).bind fun t => goB t ((fd env).bind fun d => (PR.of (F'' c.d d.d)).bind fun t => .ok (.own t)))
def tCh3 (r r' r'' : R2) (ta tb tc td : TE) : TE := fun σ H Q => ta σ H fun x H1 => tb σ H1 fun y H2 => r x y H2 fun z H3 => ∃ k, z = .bl k ∧
  (if k = true then tc σ H3 fun w H4 => r' y w H4 fun z H5 => ∃ k, z = .bl k ∧ (if k = true then td σ H5 fun u H6 => r'' w u H6 Q else Q (.bl false) H5) else Q (.bl false) H3)
theorem pe_ch3 {op op' op'' : CmpOp} {r r' r'' : R2} {ta tb tc td : TE} (ho : OpR X (compareOp op) r) (ho' : OpR X (compareOp op') r') (ho'' : OpR X (compareOp op'') r'') (ha : PE X a ta) (hb : PE X b tb) (hc : PE X c tc) (hd : PE X d td)
    (hm : lastMarks [op, op', op''] [b, c, d] = false := by with_unfolding_all rfl) : PE X (.Compare a [op, op', op''] [b, c, d] pos) (tCh3 r r' r'' ta tb tc td) := by
  refine ⟨fun pins s σ H Q I h => Compare_chain (thn (ha.run pins s σ H _ I h) fun v s1 ⟨x, H1, I1, r1, q1⟩ => chain_link (thn (hb.run pins s1 σ H1 _ I1 q1) fun u s2 ⟨y, H2, I2, r2, q2⟩ => thn (ho pins s2 σ H2 x y v u _ I2 r1 r2 q2) fun t s3 ⟨z, H3, I3, r3, k, e, q3⟩ => ?_)) hm⟩
  subst e; cases r3
  refine wpAny_truthy_bool ?_
  cases k with
  | false => exact ite_ff ⟨.bl false, H3, I3, rfl, q3⟩
  | true =>
    refine ite_tt (chain_link (thn (hc.run pins s3 σ H3 _ I3 q3) fun w s4 ⟨z4, H4, I4, r4, q4⟩ => thn (ho' pins s4 σ H4 y z4 u w _ I4 r2 r4 q4) fun t s5 ⟨z5, H5, I5, r5, k, e, q5⟩ => ?_))
    subst e; cases r5
    refine wpAny_truthy_bool ?_
    cases k with
    | false => exact ite_ff ⟨.bl false, H5, I5, rfl, q5⟩
    | true => exact ite_tt (chain_last (thn (hd.run pins s5 σ H5 _ I5 q5) fun w' s6 ⟨z6, H6, I6, r6, q6⟩ => ho'' pins s6 σ H6 z4 z6 w w' Q I6 r4 r6 q6))
theorem pt_ch3 {op op' op'' : CmpOp} {r r' r'' : R2} {ta tb tc td : TE} (ho : OpR X (compareOp op) r) (ho' : OpR X (compareOp op') r') (ho'' : OpR X (compareOp op'') r'') (ha : PE X a ta) (hb : PE X b tb) (hc : PE X c tc) (hd : PE X d td)
    (hm : lastMarks [op, op', op''] [b, c, d] = false := by with_unfolding_all rfl) : PT X (.Compare a [op, op', op''] [b, c, d] pos) (tTest (tCh3 r r' r'' ta tb tc td)) := by
  refine ⟨fun pins s σ H Q I h => isTrue_chain (thn (ha.run pins s σ H _ I h) fun v s1 ⟨x, H1, I1, r1, q1⟩ => test_link (thn (hb.run pins s1 σ H1 _ I1 q1) fun u s2 ⟨y, H2, I2, r2, q2⟩ => thn (ho pins s2 σ H2 x y v u _ I2 r1 r2 q2) fun t s3 ⟨z, H3, I3, r3, k, e, q3⟩ => ?_)) hm⟩
  subst e; cases r3
  refine wpAny_truthy_bool ?_
  cases k with
  | false =>
    obtain ⟨k', e', q'⟩ := q3
    cases e'
    exact ite_ff ⟨H3, I3, q'⟩
  | true =>
    refine ite_tt (test_link (thn (hc.run pins s3 σ H3 _ I3 q3) fun w s4 ⟨z4, H4, I4, r4, q4⟩ => thn (ho' pins s4 σ H4 y z4 u w _ I4 r2 r4 q4) fun t s5 ⟨z5, H5, I5, r5, k, e, q5⟩ => ?_))
    subst e; cases r5
    refine wpAny_truthy_bool ?_
    cases k with
    | false =>
      obtain ⟨k', e', q'⟩ := q5
      cases e'
      exact ite_ff ⟨H5, I5, q'⟩
    | true =>
      refine ite_tt (test_last (thn (hd.run pins s5 σ H5 _ I5 q5) fun w' s6 ⟨z6, H6, I6, r6, q6⟩ => thn (ho'' pins s6 σ H6 z4 z6 w w' _ I6 r4 r6 q6) fun t s7 ⟨z7, H7, I7, r7, k, e, q7⟩ => ?_))
      subst e; cases r7
      exact wpAny_truthy_bool ⟨H7, I7, q7⟩
theorem tP_ch3 {K : Fg} {F F' F'' : D → D → Option D} {fa fb fc fd : PF} {σ : L2.St} {H : Hp} {Q : VK} (h : tP K y (pCh3 F F' F'' fa fb fc fd) σ H Q) : tCh3 (rV2 K F) (rV2 K F') (rV2 K F'') (tP K y fa) (tP K y fb) (tP K y fc) (tP K y fd) σ H Q := by
  obtain ⟨env, Z, hR, h⟩ := h
  refine ⟨env, Z, hR, (PR.post_bind h).mono (fun a h v1 H1 fp1 s1 o1 => ?_) fun x q => q⟩
  refine ⟨env, Z, hR.same s1, (PR.post_bind h).mono (fun b h v2 H2 fp2 s2 o2 => ?_) fun x q => q.same s1⟩
  obtain ⟨r, e, q⟩ := PR.post_of (PR.post_bind h)
  refine ⟨a.d, b.d, fp1, fp2, r, o1.see.same s2, o2.see, e, fun v H3 fp s o n => ?_⟩
  have s3 := (s1.trans s2).trans s
  rcases goB_post q with ⟨rfl, q⟩ | ⟨rfl, q⟩
  · obtain ⟨rfl, rfl⟩ := own_bool o
    refine ⟨true, rfl, ?_⟩
    rw [if_pos rfl]
    refine ⟨env, Z, hR.same s3, (PR.post_bind q).mono (fun c h v4 H4 fp4 s4 o4 => ?_) fun x q => q.same s3⟩
    obtain ⟨r', e', q⟩ := PR.post_of (PR.post_bind h)
    refine ⟨b.d, c.d, fp2, fp4, r', (o2.see.same s).same s4, o4.see, e', fun v H5 fp s' o n => ?_⟩
    have s5 := (s3.trans s4).trans s'
    rcases goB_post q with ⟨rfl, q⟩ | ⟨rfl, q⟩
    · obtain ⟨rfl, rfl⟩ := own_bool o
      refine ⟨true, rfl, ?_⟩
      rw [if_pos rfl]
      refine ⟨env, Z, hR.same s5, (PR.post_bind q).mono (fun d h v6 H6 fp6 s6 o6 => ?_) fun x q => q.same s5⟩
      obtain ⟨r'', e'', q⟩ := PR.post_of (PR.post_bind h)
      have s7 := s5.trans s6
      exact ⟨c.d, d.d, fp4, fp6, r'', (o4.see.same s').same s6, o6.see, e'', fun v H7 fp7 s8 o8 n8 => q v H7 fp7 (s7.trans s8) ⟨o8, fun b m => s7.free (n8 b m)⟩⟩
    · obtain ⟨rfl, rfl⟩ := own_bool o
      refine ⟨false, rfl, ?_⟩
      rw [if_neg (by decide)]
      exact q (.bl false) H5 [] s5 ⟨.g (.bl false), by simp⟩
  · obtain ⟨rfl, rfl⟩ := own_bool o
    refine ⟨false, rfl, ?_⟩
    rw [if_neg (by decide)]
    exact q (.bl false) H3 [] s3 ⟨.g (.bl false), by simp⟩
theorem p_ch3 {op op' op'' : CmpOp} {F F' F'' : D → D → Option D} {fa fb fc fd : PF} (ho : V2 X (compareOp op) F) (ho' : V2 X (compareOp op') F') (ho'' : V2 X (compareOp op'') F'') (ha : P X y a fa) (hb : P X y b fb) (hc : P X y c fc) (hd : P X y d fd)
    (hm : lastMarks [op, op', op''] [b, c, d] = false := by with_unfolding_all rfl) : P X y (.Compare a [op, op', op''] [b, c, d] pos) (pCh3 F F' F'' fa fb fc fd) := ⟨pe_imp (pe_ch3 ho ho' ho'' ha.pe hb.pe hc.pe hd.pe hm) fun _ _ _ q => tP_ch3 q⟩
theorem pt_ofCh3 {op op' op'' : CmpOp} {F F' F'' : D → D → Option D} {fa fb fc fd : PF} (ho : V2 X (compareOp op) F) (ho' : V2 X (compareOp op') F') (ho'' : V2 X (compareOp op'') F'') (ha : P X y a fa) (hb : P X y b fb) (hc : P X y c fc) (hd : P X y d fd)
    (hm : lastMarks [op, op', op''] [b, c, d] = false := by with_unfolding_all rfl) : PTst X y (.Compare a [op, op', op''] [b, c, d] pos) (pTst (pCh3 F F' F'' fa fb fc fd)) := ⟨pt_imp (pt_ch3 ho ho' ho'' ha.pe hb.pe hc.pe hd.pe hm) fun _ _ _ q => tP_ch3 (tPB_tst q)⟩
/-! ### for over items -/
def sForI (r : Nat) (p : Pat) (g : SF) : SF := sForX dItems r p g
theorem f_forI {elts : List Expr} {kk : Nat} {tpos : Pos} (c : Ct X y k) (r : Nat) (hn : PE X e (tVar r)) (hg : G X y (r :: fz) pn (.Tuple elts kk tpos) pt) (hb : Ss X y (r :: fz) pn body h) (hr : fz.contains r = false := by rfl)
    (hbase : attributeBase e "items" X.env (eval e X.env) = eval e X.env := by rfl) (hline : (apos.endLine == cpos.line) = true := by rfl)
    (hs : ∀ z, foldedSetIterable (.Call (.Attribute e "items" apos) [] [] cpos) X.env z = pure z := by intro _; rfl) : S X y fz pn (.For (.Tuple elts kk tpos) (.Call (.Attribute e "items" apos) [] [] cpos) body [] pos) (sForI r pt h) :=
  s_forX sel_items hr c.hp c.hc (pi_itemsA hn hbase hline) hg hb hs
end
end Ow

set_option Elab.async false
set_option linter.all false
set_option maxRecDepth 100000
set_option maxHeartbeats 3200000
/-! OwE2: set(x) of a list or a tuple, by its update loop. -/
namespace Ow
open PySem PySem.Spec PyProof.Rows L2
/-- a new set, before anything is put in -/
def set0 (w : World) : Obj := { cls := .type "set", dict := none, data := .set #[] 0 (.fresh 0 0 (!w.params.followText "set-order")) }
def isq (T : String) (items : Array Value) (h : Heap) (l : Addr) : Prop := if T = "list" then h.IsList l items else h.IsTuple l items
section
variable {P : Program} {w : World} {A : Around} {E : Value → Shared → Prop} {s : Shared}
theorem set_gen {l : Addr} {items : Array Value} {T it : String} {OK : Shared → Prop} {Q : Value → Shared → Prop} (hT : (T = "list" ∧ it = "list_iterator") ∨ (T = "tuple" ∧ it = "tuple_iterator")) (hl : isq T items s.heap l)
    (h : ∀ R : Result → Shared → Prop, (∀ s', OK s' → R (.ok (.ret .none)) s') → codeAny (model P w) A.in1.in1 (.builtin "set.update.loop" ⟨[.ref s.heap.objs.size, .ref (s.heap.push (set0 w)).objs.size], []⟩) R { s with heap := (s.heap.push (set0 w)).push { cls := .type it, data := .fields #[.ref l, .int 0 0] } })
    (hq : ∀ s', OK s' → Q (.ref s.heap.objs.size) s') : wpAny (model P w) A (call (.type "set") [.ref l]) Q E s := by
  obtain ⟨c, tl, hmro⟩ := F.called_set.mro
  have hmade := F.called_set.made; have hsub := F.called_set.sub; have h1 := F.called_set.notType; have h2 := F.called_set.canCreate; have hct := F.typeCall_set_1 (.ref l)
  refine wpAny_call (codeAny_of_tree ?_); show wpAny _ _ (callAny (.type "set") _) _ _ _
  refine wpAny_pure ⟨Code.quiet_builtin _ (by decide +kernel), codeAny_builtin F.entry_type_call ?_⟩; rw [Around.under_plain (weight_type_call_type "set" [.ref l] []) rfl]
  repeat (any_goals (first | assumption | wp_step))
  refine codeAny_mono (code_set_led1 (.ref l) (E := E) (Q₁ := fun obj s₁ => obj = .ref s.heap.objs.size ∧ s₁ = { s with heap := s.heap.push (set0 w) }) ⟨rfl, rfl⟩) fun r s₁ hr => ?_
  cases r with
  | error e => exact hr
  | ok fl =>
    cases fl with
    | ret obj =>
      obtain ⟨rfl, rfl⟩ := hr
      have hS : (s.heap.push (set0 w)).get? s.heap.objs.size = some (set0 w) := Heap.get?_push_size _ rfl
      have hTy : Shared.TypeIs { s with heap := s.heap.push (set0 w) } (.ref s.heap.objs.size) "set" := ⟨_, hS, rfl⟩
      have hli := F.called_set.init.lookup; have hbi := F.called_set.init.bind (.ref s.heap.objs.size)
      repeat (any_goals (first | assumption | wp_step))
      refine codeAny_mono (codeAny_call_builtin (R := wants (fun r s₂ => r = .none ∧ OK s₂) E) F.called_set.init.plain F.entry_set_init (check_set_init_1 hTy ?_)) fun r₂ s₂ hr₂ => ?_
      · rcases hT with ⟨rfl, rfl⟩ | ⟨rfl, rfl⟩
        · have hl : s.heap.IsList l items := hl
          have hl1 : (s.heap.push (set0 w)).IsList l items := hl.push _
          obtain ⟨⟨ocls, odict, odata, oslots⟩, hol, rfl, nl, rfl⟩ := hl
          have hol' := Heap.get?_push_of_some (set0 w) hol
          have hsls := F.sub_list_set; have hslf := F.sub_list_frozenset
          have hne : (Value.type "list" == Value.type "dict") = false := by decide
          unfold Builtin.«set.__init__» noKeywords Builtin.Frozenset.updateFrom; generalize hPI : pyIter = PI
          wp_walk
          subst hPI
          refine wpAny_pyIter_list hl1 (wpAny_bind (wpAny_runValue (h _ fun s' o => ?_)))
          show wpAny _ _ _ _ _ _
          refine wpAny_pure ?_; show wpAny _ _ (ret Value.none) _ _ _
          exact wpAny_pure ⟨rfl, o⟩
        · have hl : s.heap.IsTuple l items := hl
          have hl1 : (s.heap.push (set0 w)).IsTuple l items := hl.push _
          obtain ⟨⟨ocls, odict, odata, oslots⟩, hol, rfl, nl, rfl⟩ := hl
          have hol' := Heap.get?_push_of_some (set0 w) hol
          have hsls := F.sub_tuple_set; have hslf := F.sub_tuple_frozenset
          have hne : (Value.type "tuple" == Value.type "dict") = false := by decide
          unfold Builtin.«set.__init__» noKeywords Builtin.Frozenset.updateFrom; generalize hPI : pyIter = PI
          wp_walk
          subst hPI
          refine wpAny_pyIter_tuple hl1 (wpAny_bind (wpAny_runValue (h _ fun s' o => ?_)))
          show wpAny _ _ _ _ _ _
          refine wpAny_pure ?_; show wpAny _ _ (ret Value.none) _ _ _
          exact wpAny_pure ⟨rfl, o⟩
      · cases r₂ with
        | error e => exact hr₂
        | ok fl₂ =>
          cases fl₂ with
          | ret r =>
            obtain ⟨rfl, o⟩ := hr₂
            repeat (any_goals (first | assumption | wp_step))
            exact hq _ o
          | _ => exact hr₂.elim
    | _ => exact hr.elim
end
end Ow

set_option Elab.async false
set_option linter.all false
set_option maxRecDepth 100000
set_option maxHeartbeats 3200000
/-! OwE3: sorted(set(x)): ints, pairs of small ints. -/
namespace Ow
open PySem PySem.Spec PyProof.Rows L2
/-! ### ints, ascending, each once -/
def insU (i : Int) : List Int → List Int
  | [] => [i]
  | j :: l => if i < j then i :: j :: l else if i = j then j :: l else j :: insU i l
def uniqI : List Int → List Int
  | [] => []
  | i :: l => insU i (uniqI l)
theorem mem_insU {i k : Int} : ∀ {l : List Int}, k ∈ insU i l ↔ k = i ∨ k ∈ l
  | [] => by simp [insU]
  | j :: l => by
    unfold insU
    by_cases h1 : i < j
    · rw [if_pos h1]; simp
    · rw [if_neg h1]
      by_cases h2 : i = j
      · rw [if_pos h2]; subst h2; simp
      · rw [if_neg h2, List.mem_cons, mem_insU (l := l), List.mem_cons]
        constructor
        · rintro (h | h | h)
          · exact .inr (.inl h)
          · exact .inl h
          · exact .inr (.inr h)
        · rintro (h | h | h)
          · exact .inr (.inl h)
          · exact .inl h
          · exact .inr (.inr h)
theorem insU_up {i : Int} : ∀ {l : List Int}, l.Pairwise (· < ·) → (insU i l).Pairwise (· < ·)
  | [], _ => by simp [insU]
  | j :: l, h => by
    unfold insU
    rw [List.pairwise_cons] at h
    by_cases h1 : i < j
    · rw [if_pos h1, List.pairwise_cons, List.pairwise_cons]
      refine ⟨fun k hk => ?_, h⟩
      rcases List.mem_cons.mp hk with rfl | hk
      · exact h1
      · have := h.1 k hk; omega
    · rw [if_neg h1]
      by_cases h2 : i = j
      · rw [if_pos h2, List.pairwise_cons]; exact h
      · rw [if_neg h2, List.pairwise_cons]
        refine ⟨fun k hk => ?_, insU_up h.2⟩
        rcases mem_insU.mp hk with rfl | hk
        · omega
        · exact h.1 k hk
theorem uniqI_up : ∀ l : List Int, (uniqI l).Pairwise (· < ·)
  | [] => .nil
  | i :: l => insU_up (uniqI_up l)
theorem mem_uniqI {k : Int} : ∀ {l : List Int}, k ∈ uniqI l ↔ k ∈ l
  | [] => by simp [uniqI]
  | i :: l => by rw [uniqI, mem_insU, mem_uniqI, List.mem_cons]
theorem up_ext : ∀ {a b : List Int}, a.Pairwise (· < ·) → b.Pairwise (· < ·) → (∀ k, k ∈ a ↔ k ∈ b) → a = b
  | [], [], _, _, _ => rfl
  | [], j :: b, _, _, h => by have := (h j).mpr List.mem_cons_self; cases this
  | i :: a, [], _, _, h => by have := (h i).mp List.mem_cons_self; cases this
  | i :: a, j :: b, ha, hb, h => by
    rw [List.pairwise_cons] at ha hb
    have h1 := (h i).mp List.mem_cons_self
    have h2 := (h j).mpr List.mem_cons_self
    have e : i = j := by
      rcases List.mem_cons.mp h1 with e | h1
      · exact e
      · rcases List.mem_cons.mp h2 with e | h2
        · exact e.symm
        · have := ha.1 j h2; have := hb.1 i h1; omega
    subst e
    rw [up_ext ha.2 hb.2 fun k => ?_]
    constructor
    · intro m
      rcases List.mem_cons.mp ((h k).mp (List.mem_cons_of_mem _ m)) with e | m'
      · subst e; have := ha.1 k m; omega
      · exact m'
    · intro m
      rcases List.mem_cons.mp ((h k).mpr (List.mem_cons_of_mem _ m)) with e | m'
      · subst e; have := hb.1 k m; omega
      · exact m'
section
variable {P : Program} {w : World} {A : Around} {E : Value → Shared → Prop} {s : Shared}
theorem fresh_none (s : Shared) {b : Addr} (hb : s.heap.objs.size ≤ b) : s.heap.get? b = none := by
  cases q : s.heap.get? b with
  | none => rfl
  | some o => exact absurd (Nat.lt_of_lt_of_le (Heap.lt_size q) hb) (Nat.lt_irrefl _)
/-- what the loop leaves -/
def Left (s : Shared) (G : Heap → Prop) (s' : Shared) : Prop := ∃ h' tk, s' = { s with heap := h', toks := tk } ∧ (∀ b o, s.heap.get? b = some o → h'.get? b = some o) ∧ G h'
theorem left_of {s1 s' : Shared} {wr : List Addr} {G : Heap → Prop} {h1 : Heap} (m : Moved wr (fun a b => b = a) { s with heap := h1 } s') (hw : ∀ b ∈ wr, s.heap.objs.size ≤ b) (hk : ∀ b o, s.heap.get? b = some o → h1.get? b = some o) (g : G s'.heap) : Left s G s' := by
  refine ⟨s'.heap, s'.toks, ?_, fun b o e => m.heap b o (fun z => ?_) (hk b o e), g⟩
  · obtain ⟨h', g2, d', tk', os'⟩ := s'
    have e1 : g2 = s.gens := m.gens
    have e2 : d' = s.drawn := m.drawn
    have e3 : os' = s.os := m.os
    subst e1 e2 e3
    rfl
  · rw [fresh_none s (hw b z)] at e; cases e
theorem set_ints {l : Addr} {items : Array Value} {T : String} {ns : List Int} {Q : Value → Shared → Prop} (hT : T = "list" ∨ T = "tuple") (hh : A.handled = none) (hl : isq T items s.heap l) (hit : IntsAre items.toList ns) (hb : ns.length + 1 < scanBound)
    (h : ∀ (h' : Heap) (tk c : Nat), SetR w h' s.heap.objs.size (fun j => decide (j ∈ ns)) c → c ≤ ns.length → (∀ b o, s.heap.get? b = some o → h'.get? b = some o) → Q (.ref s.heap.objs.size) { s with heap := h', toks := tk }) :
    wpAny (model P w) A (call (.type "set") [.ref l]) Q E s := by
  have hisz : items.size = ns.length := by rw [← Array.length_toList]; exact IntsAre.length hit
  have hval : ∀ (i : Nat) (v : Value), items[i]? = some v → ∃ k t, ns[i]? = some k ∧ v = .int k t := fun i v hv => by
    have hi : i < ns.length := by rw [← hisz]; exact (Array.getElem?_eq_some_iff.mp hv).1
    obtain ⟨t, e⟩ := PyProof.Rows.IntsAre.int_at hit i v (by rw [Array.getElem?_toList]; exact hv)
    exact ⟨ns[i], t, List.getElem?_eq_getElem hi, by rw [e, List.getD_eq_getElem?_getD, List.getElem?_eq_getElem hi]; rfl⟩
  have hh3 : A.in1.in1.in1.handled = none := by simp [hh]
  have hz : (s.heap.push (set0 w)).objs.size = s.heap.objs.size + 1 := Heap.size_push ..
  have hlS : l < s.heap.objs.size := by
    rcases hT with rfl | rfl
    · obtain ⟨_, e, _⟩ := (show s.heap.IsList l items from hl); exact Heap.lt_size e
    · obtain ⟨_, e, _⟩ := (show s.heap.IsTuple l items from hl); exact Heap.lt_size e
  have hneI : l ≠ (s.heap.push (set0 w)).objs.size := by rw [hz]; exact Nat.ne_of_lt (Nat.lt_succ_of_lt hlS)
  have hSf : s.heap.objs.size ∉ [(s.heap.push (set0 w)).objs.size, l] := by
    rw [hz]; simp only [List.mem_cons, List.mem_singleton, List.not_mem_nil, or_false, not_or]; exact ⟨Nat.ne_of_lt (Nat.lt_succ_self _), Nat.ne_of_gt hlS⟩
  have run : ∀ {it : String} {St : Nat → Heap → Prop}, Walks P w A.in1.in1.in1 (s.heap.push (set0 w)).objs.size [(s.heap.push (set0 w)).objs.size, l] [(s.heap.push (set0 w)).objs.size] items.size (fun i v => items[i]? = some v) St →
      St 0 ((s.heap.push (set0 w)).push { cls := .type it, data := .fields #[.ref l, .int 0 0] }) → ∀ R : Result → Shared → Prop, (∀ s', Left s (fun h' => ∃ c, SetR w h' s.heap.objs.size (fun j => decide (j ∈ ns)) c ∧ c ≤ ns.length) s' → R (.ok (.ret .none)) s') →
      codeAny (model P w) A.in1.in1 (.builtin "set.update.loop" ⟨[.ref s.heap.objs.size, .ref (s.heap.push (set0 w)).objs.size], []⟩) R { s with heap := (s.heap.push (set0 w)).push { cls := .type it, data := .fields #[.ref l, .int 0 0] } } := fun {it St} W st R hR => by
    refine set_update_ints W.toS s.heap.objs.size hSf ns hisz hb hval (items.size - 0) 0 _ (by omega) (Nat.zero_le _) st ⟨0, Nat.le_refl 0, setR_new_at (Heap.get?_push_of_some _ (Heap.get?_push_size _ rfl))⟩ fun s' c m hc R1 => hR s' ?_
    refine left_of (s1 := s) m (fun b hb => ?_) (fun b o e => Heap.get?_push_of_some _ (Heap.get?_push_of_some _ e)) ⟨c, R1, by rw [← hisz]; exact hc⟩
    rw [hz] at hb
    simp only [List.mem_cons, List.mem_singleton, List.not_mem_nil, or_false] at hb
    rcases hb with rfl | rfl
    · exact Nat.le_refl _
    · exact Nat.le_succ _
  have fin : ∀ s', Left s (fun h' => ∃ c, SetR w h' s.heap.objs.size (fun j => decide (j ∈ ns)) c ∧ c ≤ ns.length) s' → Q (.ref s.heap.objs.size) s' := by
    rintro s' ⟨h', tk, rfl, k, c, R1, hc⟩
    exact h h' tk c R1 hc k
  rcases hT with rfl | rfl
  · exact set_gen (.inl ⟨rfl, rfl⟩) hl (run (Walks.list hh3 _ l hneI items) ⟨⟨_, Heap.get?_push_size _ rfl, rfl, rfl⟩, Heap.IsList.push (Heap.IsList.push (show s.heap.IsList l items from hl) _) _⟩) fin
  · exact set_gen (.inr ⟨rfl, rfl⟩) hl (run (Walks.tuple hh3 _ l hneI items) ⟨⟨_, Heap.get?_push_size _ rfl, rfl, rfl⟩, Heap.IsTuple.push (Heap.IsTuple.push (show s.heap.IsTuple l items from hl) _) _⟩) fin
theorem set_tups {l : Addr} {items : Array Value} {T : String} {ks : List (Addr × List Int)} {Q : Value → Shared → Prop} (hT : T = "list" ∨ T = "tuple") (hh : A.handled = none) (hl : isq T items s.heap l) (hit : items.toList = ks.map fun p => Value.ref p.1)
    (hk : ∀ p ∈ ks, IsT P w s.heap p.2 p.1) (hfew : ks.length < 64) (hu : A.units + 3 < cLine)
    (h : ∀ (h' : Heap) (tk : Nat) L es ep t, SetTR P w h' s.heap.objs.size L es ep t → Got ks ks.length L → (∀ b o, s.heap.get? b = some o → h'.get? b = some o) → Q (.ref s.heap.objs.size) { s with heap := h', toks := tk }) :
    wpAny (model P w) A (call (.type "set") [.ref l]) Q E s := by
  have hisz : items.size = ks.length := by rw [← Array.length_toList, hit, List.length_map]
  have hval : ∀ (i : Nat) (v : Value), items[i]? = some v → ∃ p, ks[i]? = some p ∧ v = .ref p.1 := fun i v hv => by
    rw [← Array.getElem?_toList, hit, List.getElem?_map, Option.map_eq_some_iff] at hv
    obtain ⟨p, e1, e2⟩ := hv
    exact ⟨p, e1, e2.symm⟩
  have hh3 : A.in1.in1.in1.handled = none := by simp [hh]
  have hz : (s.heap.push (set0 w)).objs.size = s.heap.objs.size + 1 := Heap.size_push ..
  have hlS : l < s.heap.objs.size := by
    rcases hT with rfl | rfl
    · obtain ⟨_, e, _⟩ := (show s.heap.IsList l items from hl); exact Heap.lt_size e
    · obtain ⟨_, e, _⟩ := (show s.heap.IsTuple l items from hl); exact Heap.lt_size e
  have hneI : l ≠ (s.heap.push (set0 w)).objs.size := by rw [hz]; exact Nat.ne_of_lt (Nat.lt_succ_of_lt hlS)
  have hSf : s.heap.objs.size ∉ [(s.heap.push (set0 w)).objs.size, l] := by
    rw [hz]; simp only [List.mem_cons, List.mem_singleton, List.not_mem_nil, or_false, not_or]; exact ⟨Nat.ne_of_lt (Nat.lt_succ_self _), Nat.ne_of_gt hlS⟩
  have keep : ∀ {it : String} b o, s.heap.get? b = some o → ((s.heap.push (set0 w)).push { cls := .type it, data := .fields #[.ref l, .int 0 0] }).get? b = some o := fun b o e => Heap.get?_push_of_some _ (Heap.get?_push_of_some _ e)
  have run : ∀ {it : String} {St : Nat → Heap → Prop}, Walks P w A.in1.in1.in1 (s.heap.push (set0 w)).objs.size [(s.heap.push (set0 w)).objs.size, l] [(s.heap.push (set0 w)).objs.size] items.size (fun i v => items[i]? = some v) St →
      St 0 ((s.heap.push (set0 w)).push { cls := .type it, data := .fields #[.ref l, .int 0 0] }) → ∀ R : Result → Shared → Prop, (∀ s', Left s (fun h' => ∃ L es ep t, SetTR P w h' s.heap.objs.size L es ep t ∧ Got ks ks.length L) s' → R (.ok (.ret .none)) s') →
      codeAny (model P w) A.in1.in1 (.builtin "set.update.loop" ⟨[.ref s.heap.objs.size, .ref (s.heap.push (set0 w)).objs.size], []⟩) R { s with heap := (s.heap.push (set0 w)).push { cls := .type it, data := .fields #[.ref l, .int 0 0] } } := fun {it St} W st R hR => by
    refine set_update_tups W.toS s.heap.objs.size hSf ks hisz hfew hval s.heap hk (fresh_none s (Nat.le_refl _)) (fun b hb => fresh_none s (by rw [List.mem_singleton.mp hb, hz]; omega)) (show A.units + 1 + 1 + 1 < cLine by omega) (items.size - 0) 0 _ (by omega) (Nat.zero_le _) st keep
      ⟨[], #[], 0, _, setTR_fresh (Heap.get?_push_of_some _ (Heap.get?_push_size _ rfl)), Got.zero ks⟩ fun s' L es ep t m S1 g kp => hR s' ?_
    refine left_of (s1 := s) m (fun b hb => ?_) keep ⟨L, es, ep, t, S1, by rw [← hisz]; exact g⟩
    rw [hz] at hb
    simp only [List.mem_cons, List.mem_singleton, List.not_mem_nil, or_false] at hb
    rcases hb with rfl | rfl
    · exact Nat.le_refl _
    · exact Nat.le_succ _
  have fin : ∀ s', Left s (fun h' => ∃ L es ep t, SetTR P w h' s.heap.objs.size L es ep t ∧ Got ks ks.length L) s' → Q (.ref s.heap.objs.size) s' := by
    rintro s' ⟨h', tk, rfl, k, L, es, ep, t, S1, g⟩
    exact h h' tk L es ep t S1 g k
  rcases hT with rfl | rfl
  · exact set_gen (.inl ⟨rfl, rfl⟩) hl (run (Walks.list hh3 _ l hneI items) ⟨⟨_, Heap.get?_push_size _ rfl, rfl, rfl⟩, Heap.IsList.push (Heap.IsList.push (show s.heap.IsList l items from hl) _) _⟩) fin
  · exact set_gen (.inr ⟨rfl, rfl⟩) hl (run (Walks.tuple hh3 _ l hneI items) ⟨⟨_, Heap.get?_push_size _ rfl, rfl, rfl⟩, Heap.IsTuple.push (Heap.IsTuple.push (show s.heap.IsTuple l items from hl) _) _⟩) fin
end
/-! ### sorted(set(x)) -/
section
variable {X : Cx}
theorem sq_at {pins : List (Addr × Obj)} {σ : L2.St} {H : Hp} {s : Shared} {a : Addr} {vs : List V} (I : Inv X pins σ H s) (h : SqL X.K H a vs ∨ SqT X.K H a vs) : ∃ T its, (T = "list" ∨ T = "tuple") ∧ Vals vs its ∧ isq T its.toArray s.heap a := by
  rcases h with h | h
  · obtain ⟨its, rv, pl, _⟩ := I.list h
    exact ⟨"list", its, .inl rfl, rv, pl.isList⟩
  · obtain ⟨its, rv, pl, _⟩ := I.tuple h
    exact ⟨"tuple", its, .inr rfl, rv, pl⟩
def rSetI (K : Fg) (w : World) : List V → Hp → VK → Prop := fun xs H Q => ∃ (a : Addr) (ns : List Int), xs = [.ref a] ∧ (SqL K H a (ns.map V.int) ∨ SqT K H a (ns.map V.int)) ∧ ns.length < 64 ∧ ∀ p n, H p = none → n < 64 → Q (.ref p) (upd H p (SetO w p (fun j => decide (j ∈ ns)) n))
theorem cr_setI (hc : X.calm = true) : CallR X (.type "set") (rSetI X.K X.w) := by
  intro pins s σ H xs us Q I r ⟨a, ns, e, hq, hf, q⟩
  subst e
  rw [Vals.ref1 r]
  obtain ⟨T, its, hT, rv, hl⟩ := sq_at I hq
  have hi : IntsAre its ns := ints_of_items (items_of_vals (P := X.prog) (w := X.w) rv)
  refine set_ints hT (I.ok.hd hc) hl (by simpa using hi) (by unfold scanBound; omega) fun h' tk c R1 hcn k => ?_
  have hn : H s.heap.objs.size = none := I.hok.fresh (Nat.le_refl _)
  exact ⟨.ref s.heap.objs.size, _, I.laid (t' := tk) k (Nat.le_refl _) (setO_new R1), rfl, q _ _ hn (by omega)⟩
def rSetP (K : Fg) (P : Program) (w : World) : List V → Hp → VK → Prop := fun xs H Q => ∃ (l : Addr) (ks : List (Addr × List Int)), xs = [V.ref l] ∧ (SqL K H l (ks.map fun p => V.ref p.1) ∨ SqT K H l (ks.map fun p => V.ref p.1)) ∧ (∀ p ∈ ks, SqT K H p.1 (p.2.map V.int)) ∧ ks.length < 64 ∧
  ∀ a L, H a = none → (∀ p ∈ L, p ∈ ks) → (∀ p ∈ ks, p.2 ∈ L.map (·.2)) → Q (.ref a) (upd H a (SetTO P w a L))
theorem cr_setP (hc : X.calm = true) (hu : X.A.units + 64 < cLine) : CallR X (.type "set") (rSetP X.K X.prog X.w) := by
  intro pins s σ H xs us Q I r ⟨l, ks, e, hl, hk, hf, q⟩
  subst e
  rw [Vals.ref1 r]
  obtain ⟨T, its, hT, rv, hs⟩ := sq_at I hl
  have hn : H s.heap.objs.size = none := I.hok.fresh (Nat.le_refl _)
  refine set_tups hT (I.ok.hd hc) hs (by simpa using refs_of_vals rv) (fun p hp => I.isT (hk p hp)) hf (by omega) fun h' tk L es ep t R g k => ?_
  exact ⟨.ref s.heap.objs.size, _, I.laid (t' := tk) k (Nat.le_refl _) (setTO_new R.t0), rfl, q _ L hn (fun p hp => List.mem_of_mem_take (g.sub p hp)) fun p hp => g.all p (by rw [List.take_length]; exact hp)⟩
end
/-- the codes of pairs of small ints -/
def gPairs : List PyData → Option (List Int)
  | [] => some []
  | .tuple [.int a, .int b] :: xs => if (0 ≤ a ∧ a < 64) ∧ 0 ≤ b ∧ b < 64 then (gPairs xs).map ((a * 64 + b) :: ·) else none
  | _ :: _ => none
def unPair (c : Int) : D := .g (.tuple [.int (c / 64), .int (c % 64)])
def fSortSet (d : D) : Option D := (seqG d).bind fun xs => if xs.length < 64 then (match gInts xs with
  | some ns => some (.lst ((uniqI ns).map fun i => .g (.int i)))
  | none => (gPairs xs).map fun cs => .lst ((uniqI cs).map unPair)) else none
/-- the tuples' addresses -/
theorem pairs_at {K : Fg} {H : Hp} : ∀ {xs : List PyData} {vs : List V} {cs : List Int}, gPairs xs = some cs → GpAll K H vs xs → ∃ ks : List (Addr × List Int), vs = ks.map (fun p => V.ref p.1) ∧ ks.length = xs.length ∧ cs = ks.map (fun p => TS.code 64 p.2) ∧
    ∀ p ∈ ks, ∃ a b, p.2 = [a, b] ∧ (0 ≤ a ∧ a < 64) ∧ (0 ≤ b ∧ b < 64) ∧ H p.1 = some (.tup [.int a, .int b])
  | [], _, _, e, h => by
    cases h
    simp only [gPairs, Option.some.injEq] at e
    exact ⟨[], rfl, rfl, e.symm, by simp⟩
  | x :: xs, _, cs, e, h => by
    unfold gPairs at e
    split at e
    · rename_i q; cases q
    · rename_i a b xs' q
      cases q
      split at e
      · rename_i hz
        rw [Option.map_eq_some_iff] at e
        obtain ⟨cs', e, rfl⟩ := e
        cases h with
        | cons h1 h2 =>
          obtain ⟨ks, rfl, hl, rfl, hk⟩ := pairs_at e h2
          cases h1 with
          | @tup t ws _ q1 q2 =>
            cases q2 with
            | cons q3 q4 =>
              cases q4 with
              | cons q5 q6 =>
                cases q3
                cases q5
                cases q6
                refine ⟨(t, [a, b]) :: ks, rfl, by simp [hl], by rw [List.map_cons, code_pair], fun p hp => ?_⟩
                rcases List.mem_cons.mp hp with rfl | hp
                · exact ⟨a, b, rfl, hz.1, hz.2, q1⟩
                · exact hk p hp
      · cases e
    · cases e
section
variable {X : Cx} {y : Wi} {a b c e : Expr} {es : List Expr} {pos pos2 p p2 : Pos} {k : Nat}
def pSortSet (f : PL) : PF := fun env => (f env).bind fun ds => match ds with
  | [d] => (PR.of (fSortSet d)).bind fun d => .ok (.own d)
  | _ => .bad
theorem code_un {a b : Int} (h1 : 0 ≤ a ∧ a < 64) (h2 : 0 ≤ b ∧ b < 64) : unPair (TS.code 64 [a, b]) = .g (.tuple [.int a, .int b]) := by
  rw [code_pair]
  unfold unPair
  rw [show (a * 64 + b) / 64 = a from by omega, show (a * 64 + b) % 64 = b from by omega]
theorem p_sortSet {f : PL} (c : Ct X y k) (ha : PArg X y [e] f) (hg : Gl X "sorted" := by rfl) (hg2 : Gl X "set" := by rfl)
    (he : starEach [.Call (.Name "set" p2) [e] [] pos2] X.env = (false, eval (.Call (.Name "set" p2) [e] [] pos2) X.env) :: starEach [] X.env := by rfl)
    (he2 : starEach [e] X.env = (false, eval e X.env) :: starEach [] X.env := by rfl) (hm : X.mg "sorted" = none) (hm2 : X.mg "set" = none) (hb : bootBuiltins "sorted" = some (.builtin "sorted")) :
    P X y (.Call (.Name "sorted" p) [.Call (.Name "set" p2) [e] [] pos2] [] pos) (pSortSet f) := by
  have i1 := pe_callTy (pos := pos2) (p := p2) (cr_setI (X := X) c.hc) hg2 hm2 PyProof.Rows.boot_set ha.pa (he := he2) (hpl := rfl)
  have i2 := pe_callTy (pos := pos2) (p := p2) (cr_setP (X := X) c.hc c.u) hg2 hm2 PyProof.Rows.boot_set ha.pa (he := he2) (hpl := rfl)
  have j1 := pe_callB (pos := pos) (p := p) (cr_sortedSet (X := X) c.hc) hg hm hb (pa_cons i1 pa_nil he) (he := he) (hpl := rfl)
  have j2 := pe_callB (pos := pos) (p := p) (cr_sortedT (X := X) c.hc) hg hm hb (pa_cons i2 pa_nil he) (he := he) (hpl := rfl)
  refine ⟨pe_imp (pe_or j1 j2) fun σ H Q ⟨env, Z, hR, h⟩ => ?_⟩
  cases e1 : f env with
  | err x =>
    unfold pSortSet at h
    rw [e1] at h
    exact .inl ⟨env, Z, hR, by rw [e1]; exact h⟩
  | bad => unfold pSortSet at h; rw [e1] at h; exact (h : False).elim
  | ok ds =>
    unfold pSortSet at h
    rw [e1, PR.bind_ok] at h
    split at h
    · rename_i d
      obtain ⟨r, e2, h⟩ := PR.post_of (PR.post_bind h)
      unfold fSortSet at e2
      rw [Option.bind_eq_some_iff] at e2
      obtain ⟨xs, e2, e3⟩ := e2
      split at e3
      · rename_i hz
        split at e3
        · rename_i ns e4
          cases e3
          refine .inl ⟨env, Z, hR, ?_⟩
          rw [e1]
          intro vs H1 s1 os
          obtain ⟨v, fp, rfl, hv⟩ := seeL1 os
          obtain ⟨a, ws, rfl, h1, h2⟩ := see_seqG hv e2
          have e5 := gInts_some e4
          rw [e5] at h2 hz
          have e6 := gp_ints h2
          rw [List.length_map] at hz
          refine ⟨a, ns, rfl, by rw [← e6]; exact h1, hz, fun p n hp hn => ⟨p, _, n, rfl, upd_same, hn, fun ks p' up mem _ hp' => ?_⟩⟩
          have e7 : ks = uniqI ns := up_ext up (uniqI_up ns) fun k => by rw [mem, mem_uniqI]; simp
          subst e7
          have s2 : Same H1 (upd (upd H1 p (SetO X.w p (fun j => decide (j ∈ ns)) n)) p' (.lst ((uniqI ns).map V.int))) := (same_upd hp).trans (same_upd hp')
          refine h _ _ [p'] (s1.trans s2) ⟨?_, fun b m => ?_⟩
          · rw [show ((uniqI ns).map fun i => D.g (.int i)) = ((uniqI ns).map PyData.int).map .g from by rw [List.map_map]; rfl]
            exact .lst upd_same (GpAll.rel gpIntsV) (by simp)
          · rw [List.mem_singleton.mp m]
            exact (s1.trans (same_upd hp)).free hp'
        · rw [Option.map_eq_some_iff] at e3
          obtain ⟨cs, e4, rfl⟩ := e3
          refine .inr ⟨env, Z, hR, ?_⟩
          rw [e1]
          intro vs H1 s1 os
          obtain ⟨v, fp, rfl, hv⟩ := seeL1 os
          obtain ⟨a, ws, rfl, h1, h2⟩ := see_seqG hv e2
          obtain ⟨ks, rfl, hl, rfl, hk⟩ := pairs_at e4 h2
          have sq : ∀ p ∈ ks, SqT X.K H1 p.1 (p.2.map V.int) := fun p hp => by
            obtain ⟨a, b, q1, _, _, q2⟩ := hk p hp
            rw [q1]
            exact SqT.of q2
          refine ⟨a, ks, rfl, h1, sq, by rw [hl]; exact hz, fun p L hp l1 l2 => ⟨p, L, 2, 64, rfl, upd_same, fun q hq => ?_, by omega, fun q hq => ?_, fun L' p' pm nd _ pw hp' => ?_⟩⟩
          · obtain ⟨a, b, q1, _, _, q2⟩ := hk q (l1 q hq)
            rw [q1]
            exact SqT.of (by rw [upd_ne (fun z => by rw [z, hp] at q2; cases q2)]; exact q2)
          · obtain ⟨a, b, q1, q2, q3, _⟩ := hk q (l1 q hq)
            rw [q1]
            refine ⟨rfl, fun m hm => ?_⟩
            simp only [List.mem_cons, List.not_mem_nil, or_false] at hm
            rcases hm with rfl | rfl
            · exact q2
            · exact q3
          · have s2 : Same H1 (upd (upd H1 p (SetTO X.prog X.w p L)) p' (.lst (L'.map fun q => V.ref q.1))) := (same_upd hp).trans (same_upd hp')
            have inK : ∀ q ∈ L', q ∈ ks := fun q hq => l1 q (pm.mem_iff.mp hq)
            have e7 : L'.map (fun q => TS.code 64 q.2) = uniqI (ks.map fun q => TS.code 64 q.2) := by
              refine up_ext ?_ (uniqI_up _) fun c => ?_
              · rw [List.pairwise_map]
                rw [List.Nodup, List.pairwise_map] at nd
                refine List.Pairwise.imp_of_mem (fun {q r} mq mr hh => ?_) (pw.and nd)
                obtain ⟨a1, b1, u1, u2, u3, _⟩ := hk q (inK q mq)
                obtain ⟨a2, b2, v1, v2, v3, _⟩ := hk r (inK r mr)
                rw [u1, v1, code_pair, code_pair] at hh
                rw [u1, v1, code_pair, code_pair]
                have : ¬ (a1 = a2 ∧ b1 = b2) := fun z => hh.2 (by rw [z.1, z.2])
                omega
              · rw [mem_uniqI, List.mem_map, List.mem_map]
                constructor
                · rintro ⟨q, m, rfl⟩
                  exact ⟨q, inK q m, rfl⟩
                · rintro ⟨q, m, rfl⟩
                  obtain ⟨q', m', e'⟩ := List.mem_map.mp (l2 q m)
                  exact ⟨q', pm.mem_iff.mpr m', by rw [e']⟩
            refine h _ _ [p'] (s1.trans s2) ⟨?_, fun b m => ?_⟩
            · rw [← e7, List.map_map]
              have e8 : L'.map (unPair ∘ fun q => TS.code 64 q.2) = (L'.map fun q => PyData.tuple (q.2.map .int)).map D.g := by
                rw [List.map_map]
                refine List.map_congr_left fun q m => ?_
                obtain ⟨a1, b1, u1, u2, u3, _⟩ := hk q (inK q m)
                show unPair (TS.code 64 q.2) = .g (.tuple (q.2.map .int))
                rw [u1, code_un u2 u3]
                rfl
              rw [e8]
              refine .lst upd_same (GpAll.rel ?_) (by simp)
              have : ∀ l : List (Addr × List Int), (∀ q ∈ l, q ∈ ks) → GpAll X.K (upd (upd H1 p (SetTO X.prog X.w p L)) p' (.lst (L'.map fun q => V.ref q.1))) (l.map fun q => V.ref q.1) (l.map fun q => PyData.tuple (q.2.map .int)) := fun l => by
                induction l with
                | nil => exact fun _ => .nil
                | cons q l ih =>
                  intro hh
                  obtain ⟨a1, b1, u1, _, _, u2⟩ := hk q (hh q List.mem_cons_self)
                  refine .cons (.tup (s2 _ _ u2) ?_) (ih fun r m => hh r (List.mem_cons_of_mem _ m))
                  rw [u1]
                  exact .cons (.int a1) (.cons (.int b1) .nil)
              exact this L' inK
            · rw [List.mem_singleton.mp m]
              exact (s1.trans (same_upd hp)).free hp'
      · cases e3
    · exact (h : False).elim
end
end Ow

set_option Elab.async false
set_option linter.all false
set_option maxRecDepth 100000
set_option maxHeartbeats 2000000
/-! OwE4: list(range(..)), min of tuples. -/
namespace Ow
open PySem PySem.Spec PyProof.Rows L2
section
variable {X : Cx}
/-! ### list(range(..)) -/
theorem cr_rng1 : CallR X (.type "range") (fun vs H Q => ∃ j, vs = [V.int j] ∧ ∀ p, H p = none → Q (.ref p) (upd H p (.rng 0 j))) := by
  intro pins s σ H vs us Q I r ⟨j, e, q⟩
  subst e
  obtain ⟨u1, rfl, t, rfl⟩ := vals1 r
  exact call_range_1 ⟨.ref s.heap.objs.size, upd H s.heap.objs.size (.rng 0 j), I.laid (t' := s.toks + 1 + 1) (fun b o e => Heap.get?_push_of_some _ e) (Nat.le_refl _) ⟨s.toks, t, s.toks + 1, Heap.get?_push_size _ rfl⟩, rfl, q _ (I.hok.fresh (Nat.le_refl _))⟩
def rngI (i j : Int) : List Int := (List.range (j - i).toNat).map fun (k : Nat) => i + k
theorem rng_size (i j : Int) : Builtin.Range.rangeSize i j 1 = ((j - i).toNat : Int) := by
  rw [rangeSize_one]
  by_cases h : i < j
  · rw [if_pos h]; omega
  · rw [if_neg h]; omega
def rListR : List V → Hp → VK → Prop := fun xs H Q => ∃ (p : Addr) (i j : Int), xs = [.ref p] ∧ H p = some (.rng i j) ∧ (-1048576 ≤ i ∧ i ≤ 1048576) ∧ (-1048576 ≤ j ∧ j ≤ 1048576) ∧ ∀ l, H l = none → Q (.ref l) (upd H l (.lst ((rngI i j).map V.int)))
theorem cr_listR (hc : X.calm = true) : CallR X (.type "list") rListR := by
  intro pins s σ H xs us Q I r ⟨p, i, j, e, hp, h1, h2, q⟩
  subst e
  rw [Vals.ref1 r]
  obtain ⟨t, u, v, hr⟩ := I.hok p _ hp
  refine call_list_range (I.ok.hd hc) hr (small_one (by omega) (by omega) (by omega) (by omega)) (rng_size i j) (by omega) fun h' tk acc c' hk hS hacc => ?_
  have hv : Vals ((rngI i j).map V.int) acc.toList := by
    refine paired_of_get ?_ fun k a b e1 e2 => ?_
    · have := hacc.1
      rw [List.length_map]
      unfold rngI
      rw [List.length_map, List.length_range, Array.length_toList]
      exact this.symm
    · rw [Array.getElem?_toList] at e2
      obtain ⟨t, rfl⟩ := hacc.2 k b e2
      unfold rngI at e1
      simp only [List.getElem?_map, Option.map_eq_some_iff] at e1
      obtain ⟨z, ⟨m, e3, rfl⟩, rfl⟩ := e1
      have : m = k := by
        rw [List.getElem?_range (by have := (List.getElem?_eq_some_iff.mp e3).1; simpa using this)] at e3
        exact (Option.some.inj e3).symm
      subst this
      exact ⟨t, by rw [Int.mul_one]⟩
  have hl : ((rngI i j).map V.int).length ≤ sizeLine := by unfold rngI; rw [List.length_map, List.length_map, List.length_range, sizeLine_eq]; omega
  exact ⟨.ref s.heap.objs.size, _, I.laid (t' := tk) (o := .lst ((rngI i j).map V.int)) hk (Nat.le_refl _) ⟨hl, acc.toList, c', hv, hS⟩, rfl, q _ (I.hok.fresh (Nat.le_refl _))⟩
def rngBd (i j : Int) : Bool := decide (-1048576 ≤ i) && decide (i ≤ 1048576) && decide (-1048576 ≤ j) && decide (j ≤ 1048576)
theorem rngBd_ok {i j : Int} (h : rngBd i j = true) : (-1048576 ≤ i ∧ i ≤ 1048576) ∧ (-1048576 ≤ j ∧ j ≤ 1048576) := by
  unfold rngBd at h
  simp only [Bool.and_eq_true, decide_eq_true_eq] at h
  omega
def rngOf : List D → Option (Int × Int)
  | [.g (.int j)] => if rngBd 0 j = true then some (0, j) else none
  | [.g (.int i), .g (.int j)] => if rngBd i j = true then some (i, j) else none
  | _ => none
def pListRng (f : PL) : PF := fun env => (f env).bind fun ds => (PR.of (rngOf ds)).bind fun r => .ok (.own (.lst ((rngI r.1 r.2).map fun i => .g (.int i))))
end
section
variable {X : Cx} {y : Wi} {k : Nat} {a b e : Expr} {es : List Expr} {pos pos2 p p2 : Pos}
theorem own_ints {K : Fg} {H : Hp} {l : Addr} {ns : List Int} : Own K (upd H l (.lst (ns.map V.int))) (.ref l) (.lst (ns.map fun i => .g (.int i))) [l] := by
  rw [show (ns.map fun i => D.g (.int i)) = (ns.map PyData.int).map .g from by rw [List.map_map]; rfl]
  exact .lst upd_same (GpAll.rel gpIntsV) (by simp)
theorem listR_fin {K : Fg} {H0 H1 : Hp} {Z : Addr → Prop} {Q : VK} {q : Addr} {i j : Int} (s1 : Same H0 H1) (hq : H1 q = none) (hb : rngBd i j = true) (h : ∀ v H' fp, Same H0 H' → PvOk K Z H0 H' v (.own (.lst ((rngI i j).map fun i => .g (.int i)))) fp → Q v H') :
    rListR [.ref q] (upd H1 q (.rng i j)) Q := by
  obtain ⟨b1, b2⟩ := rngBd_ok hb
  refine ⟨q, i, j, rfl, upd_same, b1, b2, fun l hl => h _ _ [l] ((s1.trans (same_upd hq)).trans (same_upd hl)) ⟨own_ints, fun b m => ?_⟩⟩
  rw [List.mem_singleton.mp m]
  exact (s1.trans (same_upd hq)).free hl
theorem p_listRng {es : List Expr} {f : PL} (c : Ct X y k) (ha : PArg X y (a :: es) f) (hg : Gl X "list" := by rfl) (hg2 : Gl X "range" := by rfl)
    (he : starEach [.Call (.Name "range" p2) (a :: es) [] pos2] X.env = (false, eval (.Call (.Name "range" p2) (a :: es) [] pos2) X.env) :: starEach [] X.env := by rfl) (he2 : starEach (a :: es) X.env = (false, eval a X.env) :: starEach es X.env := by rfl) (hpl : (backTo pos2 (starEach es X.env)).any (·.1) = false := by rfl) :
    P X y (.Call (.Name "list" p) [.Call (.Name "range" p2) (a :: es) [] pos2] [] pos) (pListRng f) := by
  have i1 := pe_callTy (pos := pos2) (p := p2) (cr_rng1 (X := X)) hg2 c.B.n_range boot_range ha.pa (he := he2) (hpl := hpl)
  have i2 := pe_callTy (pos := pos2) (p := p2) (cr_range2 (X := X)) hg2 c.B.n_range boot_range ha.pa (he := he2) (hpl := hpl)
  have j1 := pe_callTy (pos := pos) (p := p) (cr_listR (X := X) c.hc) hg c.B.n_list PyProof.Rows.boot_list (pa_cons (PE.mk fun pins s σ H Q I q => (pe_or i1 i2).run pins s σ H Q I q) pa_nil he) (he := he) (hpl := rfl)
  refine ⟨pe_imp j1 fun σ H Q ⟨env, Z, hR, h⟩ => ?_⟩
  show (tCB _ (tPA X.K y f) σ H _) ∨ (tCB _ (tPA X.K y f) σ H _)
  cases e1 : f env with
  | err x =>
    unfold pListRng at h
    rw [e1] at h
    exact .inl ⟨env, Z, hR, by rw [e1]; exact h⟩
  | bad => unfold pListRng at h; rw [e1] at h; exact (h : False).elim
  | ok ds =>
    unfold pListRng at h
    rw [e1, PR.bind_ok] at h
    obtain ⟨r, e2, h⟩ := PR.post_of (PR.post_bind h)
    unfold rngOf at e2
    split at e2
    · split at e2
      · rename_i hb
        cases e2
        refine .inl ⟨env, Z, hR, ?_⟩
        rw [e1]
        intro vs H1 s1 os
        obtain ⟨v, fp, rfl, hv⟩ := seeL1 os
        have := see_int hv; subst this
        exact ⟨_, rfl, fun q hq => listR_fin s1 hq hb h⟩
      · cases e2
    · split at e2
      · rename_i hb
        cases e2
        refine .inr ⟨env, Z, hR, ?_⟩
        rw [e1]
        intro vs H1 s1 os
        obtain ⟨v, u, fp, fp', rfl, hv, hu⟩ := seeL2 os
        have := see_int hv; subst this
        have := see_int hu; subst this
        exact ⟨_, _, rfl, fun q hq => listR_fin s1 hq hb h⟩
      · cases e2
    · cases e2
end
/-! ### min of tuples -/
def fMinT (t : Ty) : List D → Option D
  | [.lst ds] => (gAll ds).bind fun xs => match xs with
    | x :: l => if (x :: l).all (fun x => hasTy t x && okD x) = true then some (.g (PySem.W.minD x l)) else none
    | [] => none
  | _ => none
theorem depth_all : ∀ {xs : List PyData}, (∀ x ∈ xs, x.depth ≤ 64) → PyData.depthAll xs ≤ 64
  | [], _ => by simp [PyData.depthAll]
  | x :: xs, h => by
    have h1 := h x List.mem_cons_self
    have h2 := depth_all fun y m => h y (List.mem_cons_of_mem x m)
    simp only [PyData.depthAll]
    omega
theorem v_minT {X : Cx} (t : Ty) (hc : X.calm = true) (hu : X.A.units + 2 + 64 < cLine) : VN X (.builtin "min") (fMinT t) := by
  intro pins s σ H vs us Q I r ⟨ds, d, hs, hF, q⟩
  unfold fMinT at hF
  split at hF
  · rw [Option.bind_eq_some_iff] at hF
    obtain ⟨xs, e1, hF⟩ := hF
    split at hF
    · rename_i x l
      split at hF
      · rename_i hz
        cases hF
        rw [List.all_eq_true] at hz
        have ty : ∀ z ∈ x :: l, hasTy t z = true := fun z m => ((Bool.and_eq_true _ _).mp (hz z m)).1
        have ok : ∀ z ∈ x :: l, okD z = true := fun z m => ((Bool.and_eq_true _ _).mp (hz z m)).2
        obtain ⟨v, fp, rfl, hv⟩ := seeL1 hs
        obtain ⟨a, ws, fa, e2, h1, h2, _⟩ := see_lst hv
        subst e2
        rw [Vals.ref1 r]
        have g := seeAll_ground e1 h2
        obtain ⟨its, rv, pl, _⟩ := I.list (SqL.of h1)
        obtain ⟨as, rd⟩ := Dp.readsAll I _ ws its (GpAll.dp _ _ g) rv
        have al : PySem.W.AlikeAll (x :: l) := ⟨fun a ha b hb => ty_alike t a b (ty a ha) (ty b hb), fun z m e => by
          have := ty z m
          subst e
          cases t <;> simp [hasTy] at this⟩
        have hd : X.A.units + 1 + PyData.depthAll (x :: l) < cLine := by
          have := depth_all fun z m => SeqAt.depth_of_shaped (ok z m)
          omega
        refine PySem.W.min_list_data (I.ok.hd hc) pl.isList (by simpa using rd) al hd fun i u h' tk bs hi rm k => ?_
        have hi' : its[i]? = some u := by simpa using hi
        have hl : i < its.length := (List.getElem?_eq_some_iff.mp hi').1
        have l1 := rv.length
        have l2 := g.length
        have hw : ws[i]? = some ws[i] := List.getElem?_eq_getElem (by omega)
        have hx : (x :: l)[i]? = some (x :: l)[i] := List.getElem?_eq_getElem (by omega)
        obtain ⟨w', e3, g3⟩ := g.get hx
        rw [hw] at e3
        cases e3
        obtain ⟨u', e4, r4⟩ := rv.get hw
        rw [hi'] at e4
        cases e4
        obtain ⟨as', rd'⟩ := Dp.reads I _ _ _ (Gp.dp _ _ g3) r4
        have e5 := (Reads.unique (PyProof.Rows.Reads.keeps k rd') _ _ rm).1
        rw [e5] at g3
        exact ⟨ws[i], H, I.kept (t' := tk) k, r4, q _ H [] (Same.refl H) (.g g3) (by simp)⟩
      · cases hF
    · cases hF
  · cases hF
section
variable {X : Cx} {y : Wi} {k : Nat} {a b e : Expr} {es : List Expr} {pos pos2 p p2 : Pos} {fz : List Nat} {f : PL} {g : IL}
theorem pb_minT (t : Ty) (c : Ct X y k) (ha : PArg X y (e :: es) f) (hg : Gl X "min" := by rfl) (he : starEach (e :: es) X.env = (false, eval e X.env) :: starEach es X.env := by rfl) (hpl : (backTo pos (starEach es X.env)).any (·.1) = false := by rfl) : P X y (.Call (.Name "min" p) (e :: es) [] pos) (pCall (fMinT t) f) := p_callB (v_minT t c.hc c.u6) hg c.B.n_min PyProof.Rows.boot_min ha (he := he) (hpl := hpl)
theorem pb_sortSet {f : PL} (c : Ct X y k) (ha : PArg X y [e] f) (hg : Gl X "sorted" := by rfl) (hg2 : Gl X "set" := by rfl)
    (he : starEach [.Call (.Name "set" p2) [e] [] pos2] X.env = (false, eval (.Call (.Name "set" p2) [e] [] pos2) X.env) :: starEach [] X.env := by rfl)
    (he2 : starEach [e] X.env = (false, eval e X.env) :: starEach [] X.env := by rfl) : P X y (.Call (.Name "sorted" p) [.Call (.Name "set" p2) [e] [] pos2] [] pos) (pSortSet f) :=
  p_sortSet c ha hg hg2 he he2 c.B.n_sorted c.B.n_set boot_sorted
end
end Ow

set_option Elab.async false
set_option linter.all false
set_option maxRecDepth 100000
set_option maxHeartbeats 2000000
/-! OwE5: for row in table: where the body writes the row. -/
namespace Ow
open PySem PySem.Spec PyProof.Rows L2
/-- each row is moved into slot i, the body runs, the row goes back -/
def rowsGo (r i : Nat) (g : SF) : List D → List D → List D → SR
  | done, [], env => .nx (env.set r (.lst done))
  | done, x :: xs, env => match x with
    | .hole => .bad
    | x => match g (env.set i x) with
      | .nx e => match e[i]? with
        | some .hole => .bad
        | some d => rowsGo r i g (done ++ [d]) xs ((e.set i .hole).set r .hole)
        | none => .bad
      | .err x => .err x
      | _ => .bad
def sForR (r i : Nat) (g : SF) : SF := fun env => match env[r]? with
  | some (.lst ds) => if i < env.length then rowsGo r i g [] ds ((env.set i .hole).set r .hole) else .bad
  | _ => .bad
section
variable {K : Fg} {H H' : Hp} {fz pn : List Nat} {R : Addr → Prop} {σ : L2.St} {env : List D} {F : Nat → List Addr}
theorem EnvOk.grow (e : EnvOk K H fz R σ env F) {S : Addr → Prop} (h : ∀ b, S b → (∃ o, H b = some o) ∧ ∀ j, b ∉ F j) : EnvOk K H fz (fun b => R b ∨ S b) σ env F where
  len := e.len
  own := e.own
  frz := fun i d hi hf => (e.frz i d hi hf).imp id fun ⟨v, fp, h1, h2, h3⟩ => ⟨v, fp, h1, h2, fun b m => .inl (h3 b m)⟩
  nil := e.nil
  dis := e.dis
  out := fun b hb => hb.elim (e.out b) (h b)
/-- behind a body: what was added to R is given up -/
theorem EnvOk.shrink {S : Addr → Prop} {σ' : L2.St} {env' e' : List D} {F0 F' : Nat → List Addr} (e : EnvOk K H fz R σ env F) (hf : ∀ j ∈ fz, e'[j]? = env[j]?) (hs : ∀ j ∈ fz, σ'[j]? = σ[j]?) (st : Stp H F0 H' F') (h0 : ∀ b, R b → ∀ j, b ∉ F0 j)
    (a : EnvOk K H' fz (fun b => R b ∨ S b) σ' e' F') : EnvOk K H' fz R σ' e' F' where
  len := a.len
  own := a.own
  frz := fun i d hi hfi => by
    rw [hf i hfi] at hi
    rcases e.frz i d hi hfi with z | ⟨v, fp, q1, q2, q3⟩
    · exact .inl z
    · exact .inr ⟨v, fp, by rw [hs i hfi]; exact q1, q2.stp st fun b m => h0 b (q3 b m), q3⟩
  nil := a.nil
  dis := a.dis
  out := fun b hb => a.out b (.inl hb)
theorem RelAll.split {C : Addr → HO → Prop} : ∀ {vs : List V} {d : D} {ds : List D} {fp : List Addr}, RelAll K H C vs (d :: ds) fp → ∃ v ws f1 f2, vs = v :: ws ∧ fp = f1 ++ f2 ∧ Rel K H C v d f1 ∧ RelAll K H C ws ds f2 ∧ ∀ b ∈ f1, b ∉ f2
  | _, _, _, _, .cons h1 h2 h3 => ⟨_, _, _, _, rfl, rfl, h1, h2, h3⟩
end
/-- what holds before turn k -/
structure RowsIn (K : Fg) (fz pn : List Nat) (R : Addr → Prop) (σ : L2.St) (H : Hp) (F : Nat → List Addr) (env : List D) (r i : Nat) (a : Addr) (vs : List V) (k : Nat) (done rest : List D) (σ2 : L2.St) (H2 : Hp) (F2 : Nat → List Addr) (env2 : List D) (fpd fpr : List Addr) : Prop where
  ok : EnvOk K H2 fz R σ2 env2 F2
  stp : Stp H F H2 (updF F2 r (a :: (fpd ++ fpr)))
  fix : ∀ j ∈ fz, env2[j]? = env[j]?
  pin : ∀ j, j ∈ fz ∨ j ∈ pn ∨ j = r → σ2[j]? = σ[j]?
  len : σ2.length = σ.length
  at' : H2 a = some (.lst vs)
  rd : OwnAll K H2 (vs.take k) done fpd
  rr : OwnAll K H2 (vs.drop k) rest fpr
  dis : ∀ b ∈ fpd, b ∉ fpr
  na : a ∉ fpd ∧ a ∉ fpr
  ap : ∀ b, b = a ∨ b ∈ fpd ∨ b ∈ fpr → (∀ j, b ∉ F2 j) ∧ ¬ R b
  f0 : F2 r = [] ∧ F2 i = []
section
variable {X : Cx} {y : Wi} {k : Nat} {fz pn : List Nat} {tg e : Expr} {pos p2 : Pos} {body : List Stmt} {g : SF} {r i : Nat}
theorem rows_turn {K : Fg} {R : Addr → Prop} {σ : L2.St} {H : Hp} {F : Nat → List Addr} {env : List D} {a : Addr} {vs : List V} {k : Nat} {done rest : List D} {x : D} {σ2 : L2.St} {H2 : Hp} {F2 : Nat → List Addr} {env2 : List D} {fpd fpr : List Addr} {v : V}
    (hr : r ∉ fz) (hi : i ∉ fz) (hip : i ∉ pn) (hir : i ≠ r) (hlt : i < env2.length) (hx : x ≠ .hole) (I : RowsIn K fz pn R σ H F env r i a vs k done (x :: rest) σ2 H2 F2 env2 fpd fpr) (hv : vs[k]? = some v) {Dn : L2.Ends} {Nx : L2.St → Hp → Prop}
    (q : match g (env2.set i x) with
      | .nx e => match e[i]? with
        | some .hole => False
        | some d => ∀ σ3 H3 F3 fpd' fpr', RowsIn K fz pn R σ H F env r i a vs (k + 1) (done ++ [d]) rest σ3 H3 F3 ((e.set i .hole).set r .hole) fpd' fpr' → Nx σ3 H3
        | none => False
      | .err x => ES K y fz pn σ H F x
      | _ => False) : tS K y fz (r :: i :: pn) g { Dn with nx := Nx, ct := Nx, bk := Dn.nx } (σ2.set i (some v)) H2 := by
  obtain ⟨v', ws, f1, f2, e1, rfl, h1, h2, h3⟩ := RelAll.split I.rr
  have hk : k < vs.length := (List.getElem?_eq_some_iff.mp hv).1
  rw [List.drop_eq_getElem_cons hk] at e1
  have e2 : vs[k] = v' ∧ vs.drop (k + 1) = ws := by injection e1 with e3 e4; exact ⟨e3, e4⟩
  obtain ⟨rfl, rfl⟩ := e2
  have e3 : v = vs[k] := by rw [List.getElem?_eq_getElem hk] at hv; exact (Option.some.inj hv).symm
  subst e3
  have apf : ∀ b, b ∈ f1 → (∀ j, b ∉ F2 j) ∧ ¬ R b := fun b m => I.ap b (.inr (.inr (List.mem_append_left _ m)))
  let S : Addr → Prop := fun b => b = a ∨ b ∈ fpd ∨ b ∈ f2
  have liveS : ∀ b, S b → ∃ o, H2 b = some o := fun b hb => by
    rcases hb with rfl | hb | hb
    · exact ⟨_, I.at'⟩
    · exact OwnAll.live I.rd hb
    · exact OwnAll.live h2 hb
  have outS : ∀ b, S b → ∀ j, b ∉ F2 j := fun b hb => (I.ap b (by
    rcases hb with rfl | hb | hb
    · exact .inl rfl
    · exact .inr (.inl hb)
    · exact .inr (.inr (List.mem_append_right _ hb)))).1
  have nRS : ∀ b ∈ f1, ¬ (R b ∨ S b) := fun b m z => by
    rcases z with z | rfl | z | z
    · exact (apf b m).2 z
    · exact I.na.2 (List.mem_append_left _ m)
    · exact I.dis b z (List.mem_append_left _ m)
    · exact h3 b m z
  have E3 := (I.ok.grow (S := S) fun b hb => ⟨liveS b hb, outS b hb⟩).put hi hlt hx h1 (fun b m j _ => (apf b m).1 j) nRS
  refine ⟨env2.set i x, updF F2 i f1, _, E3, ?_⟩
  have main : ∀ e d, e[i]? = some d → d ≠ .hole → (∀ σ3 H3 F3 fpd' fpr', RowsIn K fz pn R σ H F env r i a vs (k + 1) (done ++ [d]) rest σ3 H3 F3 ((e.set i .hole).set r .hole) fpd' fpr' → Nx σ3 H3) →
      ∀ σ' H' F', AftS K fz (r :: i :: pn) (fun b => R b ∨ S b) (σ2.set i (some vs[k])) H2 (updF F2 i f1) (env2.set i x) σ' H' F' e → Nx σ' H' := fun e d hd hne q σ' H' F' A => by
    have hiσ : i < σ2.length := by rw [← I.ok.len]; exact hlt
    have pi : σ'[i]? = some (some vs[k]) := by rw [A.pin i (.inr (List.mem_cons_of_mem _ List.mem_cons_self)), List.getElem?_set_self hiσ]
    obtain ⟨w, ew, ow⟩ : ∃ w, σ'[i]? = some (some w) ∧ Own K H' w d (F' i) := (A.ok.own i d hd hi).resolve_left hne
    rw [pi] at ew
    cases ew
    have nF : ∀ b, R b ∨ S b → ∀ j, b ∉ updF F2 i f1 j := fun b hb => (E3.out b hb).2
    have nF' : ∀ b, R b ∨ S b → ∀ j, b ∉ F' j := fun b hb => (A.ok.out b hb).2
    have ne : ∀ j ∈ fz, i ≠ j := fun j hj z => hi (by rw [z]; exact hj)
    have ner : ∀ j ∈ fz, r ≠ j := fun j hj z => hr (by rw [z]; exact hj)
    have fixj : ∀ j ∈ fz, e[j]? = env2[j]? := fun j hj => by rw [A.fix j hj, List.getElem?_set_ne (ne j hj)]
    have sigj : ∀ j ∈ fz, σ'[j]? = σ2[j]? := fun j hj => by rw [A.pin j (.inl hj), List.getElem?_set_ne (ne j hj)]
    have E4 := EnvOk.shrink (σ' := σ') (e' := e) (env' := e) I.ok fixj sigj A.stp (fun b hb => nF b (.inl hb)) A.ok
    have E5 := (E4.drop i).drop r
    refine q σ' H' _ (fpd ++ F' i) f2 ⟨E5, I.stp.trans ⟨fun b o hb hn => ?_, A.stp.live, A.stp.imm, fun j b m => ?_⟩, fun j hj => ?_, fun j hj => ?_, ?_, A.stp.keep a _ I.at' (nF a (.inr (.inl rfl))), ?_, OwnAll.stp A.stp h2 (fun b m => nF b (.inr (.inr (.inr m)))), fun b m m' => ?_, ⟨fun m => ?_, fun m => I.na.2 (List.mem_append_right _ m)⟩, fun b hb => ?_, ?_⟩
    · refine A.stp.keep b o hb fun j m => ?_
      by_cases hj : j = i
      · subst hj
        rw [updF_same] at m
        exact hn r (by rw [updF_same]; exact List.mem_cons_of_mem _ (List.mem_append_right _ (List.mem_append_left _ m)))
      · rw [updF_ne hj] at m
        by_cases hjr : j = r
        · subst hjr; rw [I.f0.1] at m; cases m
        · exact hn j (by rw [updF_ne hjr]; exact m)
    · have low : ∀ j, b ∈ F' j → (∃ j, b ∈ updF F2 r (a :: (fpd ++ (f1 ++ f2))) j) ∨ H2 b = none := fun j m => by
        refine (A.stp.new j b m).imp (fun ⟨j2, m2⟩ => ?_) id
        by_cases hj : j2 = i
        · rw [hj, updF_same] at m2
          exact ⟨r, by rw [updF_same]; exact List.mem_cons_of_mem _ (List.mem_append_right _ (List.mem_append_left _ m2))⟩
        · rw [updF_ne hj] at m2
          by_cases hjr : j2 = r
          · rw [hjr, I.f0.1] at m2; cases m2
          · exact ⟨j2, by rw [updF_ne hjr]; exact m2⟩
      by_cases hjr : j = r
      · subst hjr
        rw [updF_same] at m
        rcases List.mem_cons.mp m with rfl | m
        · exact .inl ⟨j, by rw [updF_same]; exact List.mem_cons_self⟩
        · rcases List.mem_append.mp m with m | m
          · rcases List.mem_append.mp m with m | m
            · exact .inl ⟨j, by rw [updF_same]; exact List.mem_cons_of_mem _ (List.mem_append_left _ m)⟩
            · exact low i m
          · exact .inl ⟨j, by rw [updF_same]; exact List.mem_cons_of_mem _ (List.mem_append_right _ (List.mem_append_right _ m))⟩
      · rw [updF_ne hjr, updF_ne hjr] at m
        by_cases hj : j = i
        · subst hj; rw [updF_same] at m; cases m
        · rw [updF_ne hj] at m; exact low j m
    · rw [List.getElem?_set_ne (ner j hj), List.getElem?_set_ne (ne j hj), fixj j hj]
      exact I.fix j hj
    · by_cases hj2 : j = i
      · subst hj2
        rcases hj with hj | hj | hj
        · exact absurd hj hi
        · exact absurd hj hip
        · exact absurd hj hir
      · rw [A.pin j (hj.imp id fun z => z.elim (fun z => List.mem_cons_of_mem _ (List.mem_cons_of_mem _ z)) fun z => by rw [z]; exact List.mem_cons_self), List.getElem?_set_ne (Ne.symm hj2)]
        exact I.pin j hj
    · rw [A.len, List.length_set]; exact I.len
    · have e5 : vs.take (k + 1) = vs.take k ++ [vs[k]] := by rw [List.take_succ, List.getElem?_eq_getElem hk]; rfl
      rw [e5]
      have o1 := RelAll.cons ow RelAll.nil (by simp)
      rw [List.append_nil] at o1
      exact RelAll.app (OwnAll.stp A.stp I.rd fun b m => nF b (.inr (.inr (.inl m)))) o1 fun b m m' => nF' b (.inr (.inr (.inl m))) i m'
    · rcases List.mem_append.mp m with m | m
      · exact I.dis b m (List.mem_append_right _ m')
      · exact nF' b (.inr (.inr (.inr m'))) i m
    · rcases List.mem_append.mp m with m | m
      · exact I.na.1 m
      · exact nF' a (.inr (.inl rfl)) i m
    · have drp : ∀ {b}, (∀ j, j ≠ i → b ∉ F' j) → ∀ j, b ∉ updF (updF F' i []) r [] j := fun {b} h j m => by
        by_cases hjr : j = r
        · subst hjr; rw [updF_same] at m; cases m
        · rw [updF_ne hjr] at m
          by_cases hj : j = i
          · subst hj; rw [updF_same] at m; cases m
          · rw [updF_ne hj] at m; exact h j hj m
      rcases hb with rfl | hb | hb
      · exact ⟨drp fun j _ => nF' b (.inr (.inl rfl)) j, (I.ap b (.inl rfl)).2⟩
      · rcases List.mem_append.mp hb with hb | hb
        · exact ⟨drp fun j _ => nF' b (.inr (.inr (.inl hb))) j, (I.ap b (.inr (.inl hb))).2⟩
        · exact ⟨drp fun j hj => A.ok.dis i j (Ne.symm hj) b hb, fun z => nF' b (.inl z) i hb⟩
      · exact ⟨drp fun j _ => nF' b (.inr (.inr (.inr hb))) j, (I.ap b (.inr (.inr (List.mem_append_right _ hb)))).2⟩
    · exact ⟨updF_same, by rw [updF_ne hir, updF_same]⟩
  cases e1 : g (env2.set i x) with
  | nx e =>
    rw [e1] at q
    dsimp only at q
    cases e2 : e[i]? with
    | none => rw [e2] at q; exact q.elim
    | some d =>
      rw [e2] at q
      by_cases hd : d = .hole
      · subst hd; exact q.elim
      · refine main e d e2 hd ?_
        cases d with
        | hole => exact absurd rfl hd
        | _ => exact q
  | err x =>
    rw [e1] at q
    have q : ES K y fz pn σ H F x := q
    have nb : ∀ b, (∀ j, b ∉ updF F2 r (a :: (fpd ++ (f1 ++ f2))) j) → ∀ j, b ∉ updF F2 i f1 j := fun b hn j m => by
      by_cases hj : j = i
      · rw [hj, updF_same] at m
        exact hn r (by rw [updF_same]; exact List.mem_cons_of_mem _ (List.mem_append_right _ (List.mem_append_left _ m)))
      · rw [updF_ne hj] at m
        by_cases hjr : j = r
        · rw [hjr, I.f0.1] at m; cases m
        · exact hn j (by rw [updF_ne hjr]; exact m)
    intro σ' c dd H' hl pi kp lv tk er
    refine q σ' c dd H' (by rw [hl, List.length_set]; exact I.len) (fun j hj => ?_) (fun b o hb hn => ?_) (fun b o hb => ?_) (I.stp.imm.trans tk) er
    · have hj2 : i ≠ j := fun z => hj.elim (fun m => hi (by rw [z]; exact m)) fun m => hip (by rw [z]; exact m)
      rw [pi j (hj.imp id fun m => List.mem_cons_of_mem _ (List.mem_cons_of_mem _ m)), List.getElem?_set_ne hj2]
      exact I.pin j (hj.imp id .inl)
    · exact kp b o (I.stp.keep b o hb hn) (nb b (I.stp.out hb hn))
    · obtain ⟨o', h'⟩ := I.stp.live b o hb
      exact lv b o' h'
  | _ => rw [e1] at q; exact q.elim
theorem s_forR {xr : Str} (hr : fz.contains r = false) (hf : free fz pn i = true) (hir : (i == r) = false) (hp : PassesOwn (model X.prog X.w) X.A X.env X.xe) (hc : X.calm = true) (hn : PE X (.Name xr p2) (tVar r)) (hg : PG X tg (gName i)) (hb : Ss X y fz (r :: i :: pn) body g) (hs : ∀ z, foldedSetIterable (.Name xr p2) X.env z = pure z := by intro _; rfl) :
    S X y fz pn (.For tg (.Name xr p2) body [] pos) (sForR r i g) := by
  have hri : r ∉ fz := fun m => by rw [List.contains_iff_mem.mpr m] at hr; cases hr
  obtain ⟨hi, hip⟩ := free_iff hf
  have hne : i ≠ r := fun z => by rw [z, beq_self_eq_true] at hir; cases hir
  refine ⟨ps_imp (ps_for hp hc (pi_seq hn) hg hb.ps hs) fun Dn σ H q => ?_⟩
  obtain ⟨env, F, R, he, q⟩ := q
  unfold sForR at q
  split at q
  · rename_i ds hd
    split at q
    · rename_i hlt
      rcases he.own r _ hd hri with z | ⟨v, e1, e2⟩
      · cases z
      generalize hfr : F r = fr at e2
      cases e2 with
      | @lst a vs _ fl h1 h2 h3 =>
        refine ⟨.ref a, e1, .inl ⟨a, rfl, ⟨vs, SqL.of h1⟩, ?_⟩⟩
        have hl := h2.length
        refine ⟨fun k m σ2 H2 => m = ds.length - k ∧ k ≤ ds.length ∧ ∃ F2 env2 fpd fpr done, RowsIn X.K fz pn R σ H F env r i a vs k done (ds.drop k) σ2 H2 F2 env2 fpd fpr ∧ Sat X.K y fz pn R σ H F env (rowsGo r i g done (ds.drop k) env2) Dn, ⟨_, rfl, Nat.zero_le _, updF (updF F i []) r [], (env.set i .hole).set r .hole, [], fl, [], ?_, by simpa using q⟩, ?_⟩
        · have af : ∀ b, b = a ∨ b ∈ fl → b ∈ F r := fun b hb => by
            rw [hfr]
            rcases hb with rfl | hb
            · exact List.mem_cons_self
            · exact List.mem_cons_of_mem _ hb
          refine ⟨(he.drop i).drop r, ⟨fun b o h _ => h, fun b o h => ⟨o, h⟩, Tk.refl H, fun j b m => .inl ?_⟩, fun j hj => ?_, fun _ _ => rfl, rfl, h1, by simpa using RelAll.nil, by simpa using h2, by simp, ⟨by simp, h3⟩, fun b hb => ?_, updF_same, by rw [updF_ne hne, updF_same]⟩
          · by_cases hj : j = r
            · rw [hj, updF_same] at m
              exact ⟨r, af b (by simpa using m)⟩
            · rw [updF_ne hj, updF_ne hj] at m
              by_cases hj2 : j = i
              · rw [hj2, updF_same] at m; cases m
              · rw [updF_ne hj2] at m; exact ⟨j, m⟩
          · rw [List.getElem?_set_ne (fun z => hri (by rw [z]; exact hj)), List.getElem?_set_ne (fun z => hi (by rw [z]; exact hj))]
          · have hb : b ∈ F r := af b (by simpa using hb)
            refine ⟨fun j m => ?_, fun z => (he.out b z).2 r hb⟩
            by_cases hj : j = r
            · rw [hj, updF_same] at m; cases m
            · rw [updF_ne hj] at m
              by_cases hj2 : j = i
              · rw [hj2, updF_same] at m; cases m
              · rw [updF_ne hj2] at m
                exact he.dis r j (Ne.symm hj) b hb m
        · rintro k m σ2 H2 ⟨rfl, hk, F2, env2, fpd, fpr, done, I, qs⟩
          by_cases hlt2 : k < ds.length
          · have hx : ds.drop k = ds[k] :: ds.drop (k + 1) := List.drop_eq_getElem_cons hlt2
            rw [hx] at I qs
            refine .inr ⟨⟨vs, vs[k], SqL.of I.at', List.getElem?_eq_getElem (by omega)⟩, fun σ' H' => ∃ F3 env3 fpd' fpr' done', RowsIn X.K fz pn R σ H F env r i a vs (k + 1) done' (ds.drop (k + 1)) σ' H' F3 env3 fpd' fpr' ∧ Sat X.K y fz pn R σ H F env (rowsGo r i g done' (ds.drop (k + 1)) env3) Dn,
              fun σ' H' h => ⟨_, by omega, rfl, hlt2, h⟩, fun x H3 hy => ?_⟩
            obtain ⟨rfl, hy⟩ := hy
            have hv := hy vs (SqL.of I.at')
            have hle : i < env2.length := by rw [I.ok.len, I.len, ← he.len]; exact hlt
            unfold rowsGo at qs
            by_cases hh : ds[k] = .hole
            · rw [hh] at qs; exact (qs : False).elim
            have qs2 : Sat X.K y fz pn R σ H F env (match g (env2.set i ds[k]) with
              | .nx e => match e[i]? with
                | some .hole => .bad
                | some d => rowsGo r i g (done ++ [d]) (ds.drop (k + 1)) ((e.set i .hole).set r .hole)
                | none => .bad
              | .err x => .err x
              | _ => .bad) Dn := by
              generalize ds[k] = d0 at hh qs
              cases d0 with
              | hole => exact absurd rfl hh
              | _ => exact qs
            refine rows_turn hri hi hip hne hle hh I hv ?_
            cases e5 : g (env2.set i ds[k]) with
            | nx e =>
              rw [e5] at qs2
              dsimp only at qs2 ⊢
              cases e6 : e[i]? with
              | none => rw [e6] at qs2; exact qs2
              | some d =>
                rw [e6] at qs2
                cases d with
                | hole => exact qs2
                | _ => exact fun σ3 H3 F3 fpd' fpr' I3 => ⟨F3, _, fpd', fpr', _, I3, qs2⟩
            | _ => rw [e5] at qs2; exact qs2
          · have ek : k = ds.length := by omega
            subst ek
            rw [List.drop_length] at I qs
            refine .inl ⟨⟨vs, SqL.of I.at', by omega⟩, ?_⟩
            have hrr := I.rr
            rw [show vs.drop ds.length = [] from List.drop_of_length_le (by omega)] at hrr
            generalize hfp : fpr = fq at hrr
            cases hrr
            subst hfp
            have hrd := I.rd
            rw [List.take_of_length_le (by omega)] at hrd
            have hrl : r < env2.length := by
              rw [I.ok.len, I.len, ← he.len]
              rcases Nat.lt_or_ge r env.length with z | z
              · exact z
              · rw [List.getElem?_eq_none z] at hd; cases hd
            have own : Own X.K H2 (.ref a) (.lst done) (a :: fpd) := .lst I.at' hrd I.na.1
            have E := EnvOk.put (d := .lst done) I.ok hri hrl (fun z => by cases z) own (fun b m j _ => (I.ap b (by
              rcases List.mem_cons.mp m with rfl | m
              · exact .inl rfl
              · exact .inr (.inl m))).1 j) fun b m => (I.ap b (by
              rcases List.mem_cons.mp m with rfl | m
              · exact .inl rfl
              · exact .inr (.inl m))).2
            have es : σ2[r]? = some (some (.ref a)) := by rw [I.pin r (.inr (.inr rfl))]; exact e1
            rw [set_self es] at E
            have st := I.stp
            rw [List.append_nil] at st
            exact qs σ2 H2 _ ⟨st, E, fun j hj => by rw [List.getElem?_set_ne (fun z => hri (by rw [z]; exact hj))]; exact I.fix j hj, fun j hj => I.pin j (hj.imp id fun z => .inl z), I.len⟩
    · exact (q : False).elim
  · exact (q : False).elim
theorem f_forR {xi xr : Str} {p : Pos} (c : Ct X y k) (r i : Nat) (hn : PE X (.Name xr p2) (tVar r)) (hb : Ss X y fz (r :: i :: pn) body g) (hN : X.N[i]? = some xi := by rfl) (hx : Loc X.env.scope xi := by first | exact .inl rfl | exact .inr rfl) (hfn : X.fn xi = true ∨ X.env.scope.names.lookup xi = some .local := by first | exact .inl rfl | exact .inr rfl)
    (hr : fz.contains r = false := by rfl) (hf : free fz pn i = true := by rfl) (hir : (i == r) = false := by rfl) (hs : ∀ z, foldedSetIterable (.Name xr p2) X.env z = pure z := by intro _; rfl) : S X y fz pn (.For (.Name xi p) (.Name xr p2) body [] pos) (sForR r i g) :=
  s_forR hr hf hir c.hp c.hc hn (pg_name c.nd hN hx hfn) hb hs
end
end Ow

set_option Elab.async false
set_option linter.all false
set_option maxRecDepth 100000
set_option maxHeartbeats 2000000
/-! OwE6: {k: v}, k a tuple; a statement that is never reached. -/
namespace Ow
open PySem PySem.Spec PyProof.Rows L2
def tDict1 (K : Fg) (tk tv : TE) : TE := fun σ H Q => ∀ d, H d = none → tk σ (upd H d (NkO d [])) fun y H2 => tv σ H2 fun v H3 => ∃ (k : NestedKey) (b : Addr), y = .ref b ∧ NkK K H3 k b ∧ H3 d = some (NkO d []) ∧ Q (.ref d) (upd H3 d (NkO d [(k, b, v)]))
section
variable {X : Cx} {y : Wi} {ek ev : Expr} {pos : Pos}
theorem pe_dict1 {tk tv : TE} (hu : X.A.units + 64 < cLine) (hk : PE X ek tk) (hv : PE X ev tv)
    (hs : (evalEachOpt [some ek] X.env).zip ((evalEach [ev] X.env).map fun v => do let x ← v; standAt pos; pure x) = [(some (eval ek X.env), do let x ← eval ev X.env; standAt pos; pure x)] := by rfl) : PE X (.Dict [some ek] [ev] pos) (tDict1 X.K tk tv) := by
  refine ⟨fun pins s σ H Q I h => ?_⟩
  have hb : (s.heap.objs.size == sysModules) = false := by
    have := I.big
    simp only [beq_eq_false_iff_ne, ne_eq]
    exact fun z => Nat.lt_irrefl _ (z ▸ this)
  have hg : (s.heap.push { cls := .type "dict", data := .dict #[] }).get? s.heap.objs.size = some { cls := .type "dict", data := .dict #[] } := Heap.get?_push_size _ rfl
  have hn : H s.heap.objs.size = none := I.hok.fresh (Nat.le_refl _)
  obtain ⟨_, _, _, q1, q2, _⟩ := Heap.DictOfH.new (knd := nestedKind X.prog X.w) s.heap
  rw [hg] at q1
  cases q1
  have I1 : Inv X pins σ (upd H s.heap.objs.size (NkO s.heap.objs.size [])) { s with heap := s.heap.push { cls := .type "dict", data := .dict #[] } } :=
    I.laid (a := s.heap.objs.size) (o := NkO s.heap.objs.size []) (t' := s.toks) (fun _ _ q => Heap.get?_push_of_some _ q) (Nat.le_refl _) (nkO_ok ⟨Nat.zero_le _, hb, [], .nil, _, #[], 0, hg, q2, rfl, fun _ => rfl, List.nodup_nil⟩)
  rw [arm_eval_Dict, hs, show [(some (eval ek X.env), (do let x ← eval ev X.env; standAt pos; pure x : Sem Value))] = [(eval ek X.env, (do let x ← eval ev X.env; standAt pos; pure x : Sem Value))].map (fun p => (some p.1, p.2)) from rfl, dictDisplay_pairs _ (by simp) (by simp)]
  refine wpAny_bind (wpAny_standAt (wpAny_bind (wpAny_subDictH (knd := nestedKind X.prog X.w) (A := X.A) (show X.A.units + 8 < cLine by omega) (by simp) ?_)))
  refine evalPairs_cons (thn (hk.run pins _ σ _ _ I1 (h _ hn)) fun kv s1 ⟨yk, H2, I2, rk, q2⟩ => ?_)
  refine wpAny_bind (thn (hv.run pins s1 σ H2 _ I2 q2) fun vv s2 ⟨yv, H3, I3, rv, k, b, e1, kb, hd, q3⟩ => ?_)
  subst e1
  obtain rfl : kv = Value.ref b := rk
  refine wpAny_bind (wpAny_standAt (wpAny_pure ?_))
  refine evalPairs_nil ⟨[(k, b, vv)], ⟨rfl, rfl, kb.is I3, trivial⟩, ?_, fun h' tk dd hs' => ?_⟩
  · obtain ⟨_, _, xs, rel, dd⟩ := nk_dict I3 (.inl hd) (fun _ m => nomatch m)
    cases rel
    exact dd
  · obtain ⟨q, zs, ep, hq, h2, h3, h4, _, h5⟩ := dd
    have h4 : zs.toList = [(k, b, vv)].map (entW X.w) := h4
    exact wpAny_pure ⟨.ref s.heap.objs.size, _, d_write (t' := tk) I3 (by rw [hd]; exact True.intro) hs' ⟨q, hq⟩ (nkO_ok (es := [(k, b, yv)]) ⟨by rw [sizeLine_eq]; simp, hb, [(k, b, vv)], .cons ⟨rfl, rfl, rv⟩ .nil, q, zs, ep, hq, h2, h3, fun w => by rw [h4]; simp only [List.map_cons, List.map_nil]; unfold entW; rw [hash_w X.w w k kb.2.2], h5⟩), rfl, q3⟩
def pDict1 (fk fv : PF) : PF := fun env => (fk env).bind fun k => (fv env).bind fun v => match k.d, v with
  | .g (.tuple xs), .own (.g x) => if nkB 4 (.tuple xs) = true then .ok (.own (.dct [.tuple xs] [.g x])) else .bad
  | _, _ => .bad
theorem p_dict1 {k : Nat} {fk fv : PF} (c : Ct X y k) (hk : P X y ek fk) (hv : P X y ev fv)
    (hs : (evalEachOpt [some ek] X.env).zip ((evalEach [ev] X.env).map fun v => do let x ← v; standAt pos; pure x) = [(some (eval ek X.env), do let x ← eval ev X.env; standAt pos; pure x)] := by rfl) : P X y (.Dict [some ek] [ev] pos) (pDict1 fk fv) := by
  refine ⟨pe_imp (pe_dict1 c.u hk.pe hv.pe hs) fun σ H Q ⟨env, Z, hR, h⟩ => ?_⟩
  intro d hd
  have s0 := same_upd (o := NkO d []) hd
  refine ⟨env, Z, hR.same s0, (PR.post_bind h).mono (fun a h v1 H1 fp1 s1 o1 => ?_) fun x q => q.same s0⟩
  refine ⟨env, Z, (hR.same s0).same s1, (PR.post_bind h).mono (fun b h v2 H2 fp2 s2 o2 => ?_) fun x q => (q.same s0).same s1⟩
  have s02 := (s0.trans s1).trans s2
  split at h
  · rename_i xs x e1 
    split at h
    · rename_i hz
      have k1 := (o1.see.same s2)
      rw [e1] at k1
      obtain ⟨g1, _⟩ := see_g k1
      obtain ⟨k, b, ek, rfl, kb⟩ := nkB_at hz g1
      obtain ⟨g2, _⟩ := see_g o2.see
      have hd2 : H2 d = some (NkO d []) := (s1.trans s2) d _ upd_same
      refine ⟨k, b, rfl, kb, hd2, ?_⟩
      have tk : Tk H2 (upd H2 d (NkO d [(k, b, v2)])) := fun b o q i => by
        rw [upd_ne (fun z => by rw [z, hd2] at q; cases q; cases i)]; exact q
      have s3 : Same H (upd H2 d (NkO d [(k, b, v2)])) := fun b o q => by
        rw [upd_ne (fun z => by rw [z, hd] at q; cases q)]
        exact s02 b o q
      refine h _ _ [d] s3 ⟨?_, fun b m => ?_⟩
      · rw [ek]
        refine .dct upd_same rfl (fun e m => ?_) ?_ (by simp)
        · rw [List.mem_singleton.mp m]; exact kb.frame tk
        · have o : RelAll X.K (upd H2 d (NkO d [(k, b, v2)])) (fun a o => upd H2 d (NkO d [(k, b, v2)]) a = some o) [v2] [.g x] ([] ++ []) := .cons (.g (g2.frame tk)) .nil (by simp)
          exact o
      · rw [List.mem_singleton.mp m]; exact hd
    · exact (h : False).elim
  · exact (h : False).elim
end
/-! ### what is never reached -/
def sBad : SF := fun _ => .bad
theorem s_bad {X : Cx} {y : Wi} {fz pn : List Nat} {st : Stmt} : S X y fz pn st sBad := ⟨⟨fun _ _ _ _ _ _ ⟨_, _, _, _, q⟩ => q.elim⟩⟩
end Ow

set_option Elab.async false
set_option linter.all false
set_option maxRecDepth 100000
set_option maxHeartbeats 1000000
/-! OwZ: what the top has written, for the defs; the end. -/
namespace Ow
open PySem PySem.Spec PyProof.Rows L2
def Df (K : Fg) (mg : Str → Option Value) (x : Str) (st : Stmt) (ps : List Str) : Prop := ∃ f fd, Fun K x x st f fd ∧ Binds K fd ps [] ∧ mg x = some (.ref f) ∧ PySem.W.keepIn K (.ref f) = true
section
variable {K : Fg} {h : Heap} {mg : Str → Option Value}
/-- how a def's parameters are bound -/
def BindsBy (x : Str) (st : Stmt) (ps : List Str) : Prop := ∀ (kV doc pm : Value) (an : Option Addr) (cdv ct : Value) (us : List Value), us.length = ps.length → bindArgs (PySem.W.fnOf x x (defArgs st) (defBody st) (defScope st) .none kV doc pm an cdv ct) ⟨us, []⟩ = pure (ps.zip us)
theorem df_mk {x : Str} {st : Stmt} {ps : List Str} {f : Addr} {oc : Value} {od an : Option Addr} {osl : Array (Option Value)} {kV doc pm cdv ct : Value} (G : h.Ns mainGlobals mg) (X : K.In h) (hb : BindsBy x st ps)
    (a : PySem.W.nsIn K mainGlobals x = some (some (.ref f))) (l : K.lookup f = some ⟨oc, od, .func (PySem.W.fnOf x x (defArgs st) (defBody st) (defScope st) .none kV doc pm an cdv ct), osl⟩)
    (c : PySem.W.codeIn K cdv x = true) (k : PySem.W.keepIn K (.ref f) = true) : Df K mg x st ps := by
  have F := fun_mk (st := st) l c k
  exact ⟨f, _, F, F.binds (ps := ps) fun kV doc pm an cdv ct us hl => hb kV doc pm an cdv ct us hl, PySem.W.mg_of X G a, k⟩
theorem int_mk {x : Str} {i : Int} {t : Tok} (G : h.Ns mainGlobals mg) (X : K.In h) (a : PySem.W.nsIn K mainGlobals x = some (some (.int i t))) : ∃ t, mg x = some (.int i t) := ⟨t, PySem.W.mg_of X G a⟩
theorem none_mk {x : Str} (G : h.Ns mainGlobals mg) (X : K.In h) (a : PySem.W.nsIn K mainGlobals x = some none) : mg x = none := PySem.W.mg_none_of X G a
variable {P : Program} {w : World} {base : Heap} {cl : String → Option Addr}
theorem er_mk {x : Str} {nm : String} {C fI Tt : Addr} {nmq q : Str} {N : Addr} {bs bm : List Value} {sn : List Str} {sub : List Value} {ab : Bool} {col : Option Bool} {dd : Option Addr} {m0 m1 m2 m3 m5 : Option Value}
    {qual : Str} {p1 p2 p3 p4 q1 q2 q3 q4 q5 q6 q7 q8 : Pos} {oc : Value} {od an : Option Addr} {osl : Array (Option Value)} {kV doc pm cdv ct : Value} {oT : Obj} {n : Nat} {t : Tok}
    (G : h.Ns mainGlobals mg) (X : K.In h)
    (aC : PySem.W.nsIn K mainGlobals x = some (some (.ref C)))
    (xL : K.lookup C = some (excClassObj nmq q C N bs bm true sn sub ab col dd m0 m1 m2 m3 m5 "ValueError.__new__"))
    (rf : PySem.HandSPX.refsVE bm = true)
    (sa : PySem.W.findIn K (.ref C) "__setattr__" = some (some (.builtin "object.__setattr__")))
    (eC : PySem.W.subIn K (.ref C) (.type "BaseException") = some true) (tC : PySem.W.typeIn K (.ref C) = some (.type "type")) (kC : PySem.W.keepIn K (.ref C) = true)
    (nc : PySem.W.findIn K (.ref C) "code" = some none) (np : PySem.W.findIn K (.ref C) "place" = some none)
    (iI : PySem.W.findIn K (.ref C) "__init__" = some (some (.ref fI))) (tI : PySem.W.typeIn K (.ref fI) = some (.type "function"))
    (lI : K.lookup fI = some ⟨oc, od, .func (PySem.W.fnOf "__init__" qual (iniA p1 p2 p3 p4) (iniB q1 q2 q3 q4 q5 q6 q7 q8) iniS (.ref Tt) kV doc pm an cdv ct), osl⟩) (cI : PySem.W.codeIn K cdv qual = true) (kI : PySem.W.keepIn K (.ref fI) = true)
    (lT : K.lookup Tt = some oT) (dT : oT.data = .seq #[.int 0 t] n)
    (xf : XfC K C) (hcl : cl nm = some C) (one : ∀ n' C', cl n' = some C' → PySem.W.exmOne K (.ref C') (.ref C) = some (n' == nm)) : Er P w K mg base cl x nm := by
  have hv : Vals [.int 0] [Value.int 0 t] := .cons ⟨t, rfl⟩ .nil
  have F : FunD K "__init__" qual (iniA p1 p2 p3 p4) (iniB q1 q2 q3 q4 q5 q6 q7 q8) iniS [.int 0] [] fI _ := ⟨⟨oc, od, .ref Tt, kV, doc, pm, an, cdv, ct, osl, rfl, lI, cI, .inr ⟨by simp, Tt, oT, [Value.int 0 t], n, rfl, lT, dT, hv⟩, .inl rfl⟩, kI⟩
  obtain ⟨d1, v1, b1⟩ := F.binds1 (ps := ["self", "code", "place"]) 3 1 (by simp) (by simp) fun T kV doc pm an cdv ct us its hu hi => match us, its, hu, hi with | [_, _, _], [_], _, _ => ⟨_, rfl, rfl⟩
  obtain ⟨d2, v2, b2⟩ := F.binds1 (ps := ["self", "code", "place"]) 2 0 (by simp) (by simp) fun T kV doc pm an cdv ct us its hu hi => match us, its, hu, hi with | [_, _], [_], _, _ => ⟨_, rfl, rfl⟩
  have e1 : d1 = [] := by cases v1; rfl
  subst e1
  exact ⟨C, ⟨⟨nmq, q, N, bs, bm, sn, sub, ab, col, dd, m0, m1, m2, m3, m5, xL, rf⟩, sa, eC, tC, kC⟩, nc, np, PySem.W.mg_of X G aC, hcl, ⟨fI, _, d2, iI, tI, ok_ini F, b1, v2, b2⟩, xf, one⟩
/-- where the classes stand -/
def clN (K : Fg) (names : List String) : String → Option Addr := fun nm => if names.contains nm = true then (match PySem.W.nsIn K mainGlobals (Str.ofString nm) with | some (some (.ref C)) => some C | _ => none) else none
theorem clN_at {K : Fg} {names : List String} {nm : String} {C : Addr} (hn : names.contains nm = true) (a : PySem.W.nsIn K mainGlobals (Str.ofString nm) = some (some (.ref C))) : clN K names nm = some C := by
  unfold clN
  rw [if_pos hn, a]
theorem clN_one {K : Fg} {names : List String} {C : Addr} {nm : String} (h : ∀ n ∈ names, ∃ C', PySem.W.nsIn K mainGlobals (Str.ofString n) = some (some (.ref C')) ∧ PySem.W.exmOne K (.ref C') (.ref C) = some (n == nm)) : ∀ n' C', clN K names n' = some C' → PySem.W.exmOne K (.ref C') (.ref C) = some (n' == nm) := by
  intro n' C' e
  unfold clN at e
  split at e
  · rename_i hn
    obtain ⟨C2, h1, h2⟩ := h n' (List.contains_iff_mem.mp hn)
    rw [h1] at e
    cases e
    exact h2
  · cases e
theorem exm_of {K : Fg} {S T : Addr} {b : Bool} (h1 : PySem.W.subIn K (.ref T) (.type "BaseException") = some true) (h2 : PySem.W.isClsIn K T = true) (h3 : PySem.W.typeIn K (.ref T) = some (.type "type")) (h4 : PySem.W.subIn K (.ref S) (.ref T) = some b) : PySem.W.exmOne K (.ref S) (.ref T) = some b := by
  have h2' : (PySem.W.clsIn K T).isSome = true := h2
  simp [PySem.W.exmOne, PySem.W.kitCls, h1, h2', h3, h4]
theorem xf_of {K : Fg} {C : Addr} (ga : PySem.W.findIn K (.ref C) "__getattribute__" = some (some (.builtin "BaseException.__getattribute__"))) (gg : PySem.W.findIn K (.ref C) "__getattr__" = some none) (exC : PySem.W.subIn K (.ref C) (.type "BaseException") = some true) (hdC : PySem.W.hasDictIn K C = true) : XfC K C := ⟨ga, gg, exC, hdC⟩
theorem one1 {K : Fg} {C : Addr} {nm : String} (a : PySem.W.nsIn K mainGlobals (Str.ofString nm) = some (some (.ref C))) (e : PySem.W.exmOne K (.ref C) (.ref C) = some true) : ∀ n ∈ [nm], ∃ C', PySem.W.nsIn K mainGlobals (Str.ofString n) = some (some (.ref C')) ∧ PySem.W.exmOne K (.ref C') (.ref C) = some (n == nm) := by
  intro n hn
  simp only [List.mem_singleton] at hn
  subst hn
  exact ⟨C, a, by rw [e]; simp⟩
theorem bindsTo_of {x : Str} {st : Stmt} {f : Addr} {fd : FuncData} {K : Fg} {ps : List Str} (F : Fun K x x st f fd) (hb : BindsBy x st ps) (s : Shared) (us : List Value) (hl : us.length = ps.length) : BindsTo s fd ⟨us, []⟩ (ps.zip us) := by
  obtain ⟨oc, od, kV, doc, pm, an, cdv, ct, osl, rfl, lk, hcd⟩ := F.ex
  exact .of_eq (hb kV doc pm an cdv ct us hl)
theorem sqF_of {K : Fg} {H : Hp} {a : Addr} {vs : List V} (hO : L2.Only H) (h : SqL K H a vs) : SqF K H a vs := by
  refine ⟨h, fun H' t => ?_⟩
  rcases h with (h | ⟨ob, h⟩) | h
  · rcases hO a with e | ⟨o, xs, e⟩
    · rw [e] at h; cases h
    · rw [e] at h; cases h
  · exact .inl (.inr ⟨ob, t _ _ h rfl⟩)
  · exact .inr h
theorem hCX {P : Program} {w : World} (H : Hp) (s : Shared) (e : Value) (s' : Shared) : L2.CX P w [] H s (fun _ _ _ => False) e s' → False := by
  intro h
  obtain ⟨_, _, _, _, _, _, _, _, _, _, _, _, h⟩ := h
  exact h
end
/-- the law's promise -/
theorem sp_law {K : Fg} {cl : String → Option Addr} {G : List D → PR D} (hG : ∀ ns : List Int, ns.length ≤ 63 → G [.scr ns] = .ok (.g (.bool true))) {H : Hp} {a : Addr} {ns : List Int} (hl : ns.length ≤ 63) (hS : SqF K H a (ns.map V.int)) :
    spP K cl 1 G [.ref a] H (fun v _ => v = .bl true) fun _ _ _ => False := by
  refine ⟨[.scr ns], .cons ⟨[], .scr hS⟩ .nil, rfl, ?_⟩
  rw [hG ns hl]
  intro v H' fp s o n
  cases o with
  | g o => cases o; rfl
end Ow

set_option Elab.async false
set_option linter.all false
set_option maxRecDepth 100000
set_option maxHeartbeats 1000000
/-! OwYa (printed by mkYa.py): quick twins: the slots as a tree. -/
namespace Ow
open PySem
noncomputable section
structure O8 where
  a0 : D
  a1 : D
  a2 : D
  a3 : D
  a4 : D
  a5 : D
  a6 : D
  a7 : D
structure T where
  r0 : O8
  r1 : O8
  r2 : O8
  r3 : O8
def O8.toL (o : O8) : List D := [o.a0, o.a1, o.a2, o.a3, o.a4, o.a5, o.a6, o.a7]
def full (e : T) : List D := e.r0.toL ++ e.r1.toL ++ e.r2.toL ++ e.r3.toL
def toL (N : Nat) (e : T) : List D := (full e).take N
class LtC (i N : Nat) : Prop where
  h : i < N
/-- the slot at i -/
class TwG (i : Nat) (g : outParam (T → D)) : Prop where
  h : ∀ e, (full e)[i]? = some (g e)
abbrev CSet := (ρ : Type) → D → T → (T → PR ρ) → PR ρ
class TwS' (i : Nat) (s : outParam CSet) : Prop where
  h : ∀ v e, ∃ e', (∀ (ρ : Type) (k : T → PR ρ), s ρ v e k = k e') ∧ full e' = (full e).set i v
instance (n : Nat) : LtC 0 (n + 1) := ⟨by omega⟩
def gt0 (e : T) : D := T.rec (motive := fun _ => D) (fun r0 r1 r2 r3 => O8.rec (motive := fun _ => D) (fun a0 a1 a2 a3 a4 a5 a6 a7 => a0) r0) e
instance : TwG 0 gt0 := ⟨fun e => rfl⟩
def st0 (ρ : Type) (v : D) (e : T) (k : T → PR ρ) : PR ρ := T.rec (motive := fun _ => PR ρ) (fun r0 r1 r2 r3 => O8.rec (motive := fun _ => PR ρ) (fun a0 a1 a2 a3 a4 a5 a6 a7 => k (T.mk (O8.mk v a1 a2 a3 a4 a5 a6 a7) r1 r2 r3)) r0) e
instance : TwS' 0 st0 := ⟨fun v e => ⟨_, fun _ _ => rfl, rfl⟩⟩
instance (n : Nat) : LtC 1 (n + 2) := ⟨by omega⟩
def gt1 (e : T) : D := T.rec (motive := fun _ => D) (fun r0 r1 r2 r3 => O8.rec (motive := fun _ => D) (fun a0 a1 a2 a3 a4 a5 a6 a7 => a1) r0) e
instance : TwG 1 gt1 := ⟨fun e => rfl⟩
def st1 (ρ : Type) (v : D) (e : T) (k : T → PR ρ) : PR ρ := T.rec (motive := fun _ => PR ρ) (fun r0 r1 r2 r3 => O8.rec (motive := fun _ => PR ρ) (fun a0 a1 a2 a3 a4 a5 a6 a7 => k (T.mk (O8.mk a0 v a2 a3 a4 a5 a6 a7) r1 r2 r3)) r0) e
instance : TwS' 1 st1 := ⟨fun v e => ⟨_, fun _ _ => rfl, rfl⟩⟩
instance (n : Nat) : LtC 2 (n + 3) := ⟨by omega⟩
def gt2 (e : T) : D := T.rec (motive := fun _ => D) (fun r0 r1 r2 r3 => O8.rec (motive := fun _ => D) (fun a0 a1 a2 a3 a4 a5 a6 a7 => a2) r0) e
instance : TwG 2 gt2 := ⟨fun e => rfl⟩
def st2 (ρ : Type) (v : D) (e : T) (k : T → PR ρ) : PR ρ := T.rec (motive := fun _ => PR ρ) (fun r0 r1 r2 r3 => O8.rec (motive := fun _ => PR ρ) (fun a0 a1 a2 a3 a4 a5 a6 a7 => k (T.mk (O8.mk a0 a1 v a3 a4 a5 a6 a7) r1 r2 r3)) r0) e
instance : TwS' 2 st2 := ⟨fun v e => ⟨_, fun _ _ => rfl, rfl⟩⟩
instance (n : Nat) : LtC 3 (n + 4) := ⟨by omega⟩
def gt3 (e : T) : D := T.rec (motive := fun _ => D) (fun r0 r1 r2 r3 => O8.rec (motive := fun _ => D) (fun a0 a1 a2 a3 a4 a5 a6 a7 => a3) r0) e
instance : TwG 3 gt3 := ⟨fun e => rfl⟩
def st3 (ρ : Type) (v : D) (e : T) (k : T → PR ρ) : PR ρ := T.rec (motive := fun _ => PR ρ) (fun r0 r1 r2 r3 => O8.rec (motive := fun _ => PR ρ) (fun a0 a1 a2 a3 a4 a5 a6 a7 => k (T.mk (O8.mk a0 a1 a2 v a4 a5 a6 a7) r1 r2 r3)) r0) e
instance : TwS' 3 st3 := ⟨fun v e => ⟨_, fun _ _ => rfl, rfl⟩⟩
instance (n : Nat) : LtC 4 (n + 5) := ⟨by omega⟩
def gt4 (e : T) : D := T.rec (motive := fun _ => D) (fun r0 r1 r2 r3 => O8.rec (motive := fun _ => D) (fun a0 a1 a2 a3 a4 a5 a6 a7 => a4) r0) e
instance : TwG 4 gt4 := ⟨fun e => rfl⟩
def st4 (ρ : Type) (v : D) (e : T) (k : T → PR ρ) : PR ρ := T.rec (motive := fun _ => PR ρ) (fun r0 r1 r2 r3 => O8.rec (motive := fun _ => PR ρ) (fun a0 a1 a2 a3 a4 a5 a6 a7 => k (T.mk (O8.mk a0 a1 a2 a3 v a5 a6 a7) r1 r2 r3)) r0) e
instance : TwS' 4 st4 := ⟨fun v e => ⟨_, fun _ _ => rfl, rfl⟩⟩
instance (n : Nat) : LtC 5 (n + 6) := ⟨by omega⟩
def gt5 (e : T) : D := T.rec (motive := fun _ => D) (fun r0 r1 r2 r3 => O8.rec (motive := fun _ => D) (fun a0 a1 a2 a3 a4 a5 a6 a7 => a5) r0) e
instance : TwG 5 gt5 := ⟨fun e => rfl⟩
def st5 (ρ : Type) (v : D) (e : T) (k : T → PR ρ) : PR ρ := T.rec (motive := fun _ => PR ρ) (fun r0 r1 r2 r3 => O8.rec (motive := fun _ => PR ρ) (fun a0 a1 a2 a3 a4 a5 a6 a7 => k (T.mk (O8.mk a0 a1 a2 a3 a4 v a6 a7) r1 r2 r3)) r0) e
instance : TwS' 5 st5 := ⟨fun v e => ⟨_, fun _ _ => rfl, rfl⟩⟩
instance (n : Nat) : LtC 6 (n + 7) := ⟨by omega⟩
def gt6 (e : T) : D := T.rec (motive := fun _ => D) (fun r0 r1 r2 r3 => O8.rec (motive := fun _ => D) (fun a0 a1 a2 a3 a4 a5 a6 a7 => a6) r0) e
instance : TwG 6 gt6 := ⟨fun e => rfl⟩
def st6 (ρ : Type) (v : D) (e : T) (k : T → PR ρ) : PR ρ := T.rec (motive := fun _ => PR ρ) (fun r0 r1 r2 r3 => O8.rec (motive := fun _ => PR ρ) (fun a0 a1 a2 a3 a4 a5 a6 a7 => k (T.mk (O8.mk a0 a1 a2 a3 a4 a5 v a7) r1 r2 r3)) r0) e
instance : TwS' 6 st6 := ⟨fun v e => ⟨_, fun _ _ => rfl, rfl⟩⟩
instance (n : Nat) : LtC 7 (n + 8) := ⟨by omega⟩
def gt7 (e : T) : D := T.rec (motive := fun _ => D) (fun r0 r1 r2 r3 => O8.rec (motive := fun _ => D) (fun a0 a1 a2 a3 a4 a5 a6 a7 => a7) r0) e
instance : TwG 7 gt7 := ⟨fun e => rfl⟩
def st7 (ρ : Type) (v : D) (e : T) (k : T → PR ρ) : PR ρ := T.rec (motive := fun _ => PR ρ) (fun r0 r1 r2 r3 => O8.rec (motive := fun _ => PR ρ) (fun a0 a1 a2 a3 a4 a5 a6 a7 => k (T.mk (O8.mk a0 a1 a2 a3 a4 a5 a6 v) r1 r2 r3)) r0) e
instance : TwS' 7 st7 := ⟨fun v e => ⟨_, fun _ _ => rfl, rfl⟩⟩
instance (n : Nat) : LtC 8 (n + 9) := ⟨by omega⟩
def gt8 (e : T) : D := T.rec (motive := fun _ => D) (fun r0 r1 r2 r3 => O8.rec (motive := fun _ => D) (fun a0 a1 a2 a3 a4 a5 a6 a7 => a0) r1) e
instance : TwG 8 gt8 := ⟨fun e => rfl⟩
def st8 (ρ : Type) (v : D) (e : T) (k : T → PR ρ) : PR ρ := T.rec (motive := fun _ => PR ρ) (fun r0 r1 r2 r3 => O8.rec (motive := fun _ => PR ρ) (fun a0 a1 a2 a3 a4 a5 a6 a7 => k (T.mk r0 (O8.mk v a1 a2 a3 a4 a5 a6 a7) r2 r3)) r1) e
instance : TwS' 8 st8 := ⟨fun v e => ⟨_, fun _ _ => rfl, rfl⟩⟩
instance (n : Nat) : LtC 9 (n + 10) := ⟨by omega⟩
def gt9 (e : T) : D := T.rec (motive := fun _ => D) (fun r0 r1 r2 r3 => O8.rec (motive := fun _ => D) (fun a0 a1 a2 a3 a4 a5 a6 a7 => a1) r1) e
instance : TwG 9 gt9 := ⟨fun e => rfl⟩
def st9 (ρ : Type) (v : D) (e : T) (k : T → PR ρ) : PR ρ := T.rec (motive := fun _ => PR ρ) (fun r0 r1 r2 r3 => O8.rec (motive := fun _ => PR ρ) (fun a0 a1 a2 a3 a4 a5 a6 a7 => k (T.mk r0 (O8.mk a0 v a2 a3 a4 a5 a6 a7) r2 r3)) r1) e
instance : TwS' 9 st9 := ⟨fun v e => ⟨_, fun _ _ => rfl, rfl⟩⟩
instance (n : Nat) : LtC 10 (n + 11) := ⟨by omega⟩
def gt10 (e : T) : D := T.rec (motive := fun _ => D) (fun r0 r1 r2 r3 => O8.rec (motive := fun _ => D) (fun a0 a1 a2 a3 a4 a5 a6 a7 => a2) r1) e
instance : TwG 10 gt10 := ⟨fun e => rfl⟩
def st10 (ρ : Type) (v : D) (e : T) (k : T → PR ρ) : PR ρ := T.rec (motive := fun _ => PR ρ) (fun r0 r1 r2 r3 => O8.rec (motive := fun _ => PR ρ) (fun a0 a1 a2 a3 a4 a5 a6 a7 => k (T.mk r0 (O8.mk a0 a1 v a3 a4 a5 a6 a7) r2 r3)) r1) e
instance : TwS' 10 st10 := ⟨fun v e => ⟨_, fun _ _ => rfl, rfl⟩⟩
instance (n : Nat) : LtC 11 (n + 12) := ⟨by omega⟩
def gt11 (e : T) : D := T.rec (motive := fun _ => D) (fun r0 r1 r2 r3 => O8.rec (motive := fun _ => D) (fun a0 a1 a2 a3 a4 a5 a6 a7 => a3) r1) e
instance : TwG 11 gt11 := ⟨fun e => rfl⟩
def st11 (ρ : Type) (v : D) (e : T) (k : T → PR ρ) : PR ρ := T.rec (motive := fun _ => PR ρ) (fun r0 r1 r2 r3 => O8.rec (motive := fun _ => PR ρ) (fun a0 a1 a2 a3 a4 a5 a6 a7 => k (T.mk r0 (O8.mk a0 a1 a2 v a4 a5 a6 a7) r2 r3)) r1) e
instance : TwS' 11 st11 := ⟨fun v e => ⟨_, fun _ _ => rfl, rfl⟩⟩
instance (n : Nat) : LtC 12 (n + 13) := ⟨by omega⟩
def gt12 (e : T) : D := T.rec (motive := fun _ => D) (fun r0 r1 r2 r3 => O8.rec (motive := fun _ => D) (fun a0 a1 a2 a3 a4 a5 a6 a7 => a4) r1) e
instance : TwG 12 gt12 := ⟨fun e => rfl⟩
def st12 (ρ : Type) (v : D) (e : T) (k : T → PR ρ) : PR ρ := T.rec (motive := fun _ => PR ρ) (fun r0 r1 r2 r3 => O8.rec (motive := fun _ => PR ρ) (fun a0 a1 a2 a3 a4 a5 a6 a7 => k (T.mk r0 (O8.mk a0 a1 a2 a3 v a5 a6 a7) r2 r3)) r1) e
instance : TwS' 12 st12 := ⟨fun v e => ⟨_, fun _ _ => rfl, rfl⟩⟩
instance (n : Nat) : LtC 13 (n + 14) := ⟨by omega⟩
def gt13 (e : T) : D := T.rec (motive := fun _ => D) (fun r0 r1 r2 r3 => O8.rec (motive := fun _ => D) (fun a0 a1 a2 a3 a4 a5 a6 a7 => a5) r1) e
instance : TwG 13 gt13 := ⟨fun e => rfl⟩
def st13 (ρ : Type) (v : D) (e : T) (k : T → PR ρ) : PR ρ := T.rec (motive := fun _ => PR ρ) (fun r0 r1 r2 r3 => O8.rec (motive := fun _ => PR ρ) (fun a0 a1 a2 a3 a4 a5 a6 a7 => k (T.mk r0 (O8.mk a0 a1 a2 a3 a4 v a6 a7) r2 r3)) r1) e
instance : TwS' 13 st13 := ⟨fun v e => ⟨_, fun _ _ => rfl, rfl⟩⟩
instance (n : Nat) : LtC 14 (n + 15) := ⟨by omega⟩
def gt14 (e : T) : D := T.rec (motive := fun _ => D) (fun r0 r1 r2 r3 => O8.rec (motive := fun _ => D) (fun a0 a1 a2 a3 a4 a5 a6 a7 => a6) r1) e
instance : TwG 14 gt14 := ⟨fun e => rfl⟩
def st14 (ρ : Type) (v : D) (e : T) (k : T → PR ρ) : PR ρ := T.rec (motive := fun _ => PR ρ) (fun r0 r1 r2 r3 => O8.rec (motive := fun _ => PR ρ) (fun a0 a1 a2 a3 a4 a5 a6 a7 => k (T.mk r0 (O8.mk a0 a1 a2 a3 a4 a5 v a7) r2 r3)) r1) e
instance : TwS' 14 st14 := ⟨fun v e => ⟨_, fun _ _ => rfl, rfl⟩⟩
instance (n : Nat) : LtC 15 (n + 16) := ⟨by omega⟩
def gt15 (e : T) : D := T.rec (motive := fun _ => D) (fun r0 r1 r2 r3 => O8.rec (motive := fun _ => D) (fun a0 a1 a2 a3 a4 a5 a6 a7 => a7) r1) e
instance : TwG 15 gt15 := ⟨fun e => rfl⟩
def st15 (ρ : Type) (v : D) (e : T) (k : T → PR ρ) : PR ρ := T.rec (motive := fun _ => PR ρ) (fun r0 r1 r2 r3 => O8.rec (motive := fun _ => PR ρ) (fun a0 a1 a2 a3 a4 a5 a6 a7 => k (T.mk r0 (O8.mk a0 a1 a2 a3 a4 a5 a6 v) r2 r3)) r1) e
instance : TwS' 15 st15 := ⟨fun v e => ⟨_, fun _ _ => rfl, rfl⟩⟩
instance (n : Nat) : LtC 16 (n + 17) := ⟨by omega⟩
def gt16 (e : T) : D := T.rec (motive := fun _ => D) (fun r0 r1 r2 r3 => O8.rec (motive := fun _ => D) (fun a0 a1 a2 a3 a4 a5 a6 a7 => a0) r2) e
instance : TwG 16 gt16 := ⟨fun e => rfl⟩
def st16 (ρ : Type) (v : D) (e : T) (k : T → PR ρ) : PR ρ := T.rec (motive := fun _ => PR ρ) (fun r0 r1 r2 r3 => O8.rec (motive := fun _ => PR ρ) (fun a0 a1 a2 a3 a4 a5 a6 a7 => k (T.mk r0 r1 (O8.mk v a1 a2 a3 a4 a5 a6 a7) r3)) r2) e
instance : TwS' 16 st16 := ⟨fun v e => ⟨_, fun _ _ => rfl, rfl⟩⟩
instance (n : Nat) : LtC 17 (n + 18) := ⟨by omega⟩
def gt17 (e : T) : D := T.rec (motive := fun _ => D) (fun r0 r1 r2 r3 => O8.rec (motive := fun _ => D) (fun a0 a1 a2 a3 a4 a5 a6 a7 => a1) r2) e
instance : TwG 17 gt17 := ⟨fun e => rfl⟩
def st17 (ρ : Type) (v : D) (e : T) (k : T → PR ρ) : PR ρ := T.rec (motive := fun _ => PR ρ) (fun r0 r1 r2 r3 => O8.rec (motive := fun _ => PR ρ) (fun a0 a1 a2 a3 a4 a5 a6 a7 => k (T.mk r0 r1 (O8.mk a0 v a2 a3 a4 a5 a6 a7) r3)) r2) e
instance : TwS' 17 st17 := ⟨fun v e => ⟨_, fun _ _ => rfl, rfl⟩⟩
instance (n : Nat) : LtC 18 (n + 19) := ⟨by omega⟩
def gt18 (e : T) : D := T.rec (motive := fun _ => D) (fun r0 r1 r2 r3 => O8.rec (motive := fun _ => D) (fun a0 a1 a2 a3 a4 a5 a6 a7 => a2) r2) e
instance : TwG 18 gt18 := ⟨fun e => rfl⟩
def st18 (ρ : Type) (v : D) (e : T) (k : T → PR ρ) : PR ρ := T.rec (motive := fun _ => PR ρ) (fun r0 r1 r2 r3 => O8.rec (motive := fun _ => PR ρ) (fun a0 a1 a2 a3 a4 a5 a6 a7 => k (T.mk r0 r1 (O8.mk a0 a1 v a3 a4 a5 a6 a7) r3)) r2) e
instance : TwS' 18 st18 := ⟨fun v e => ⟨_, fun _ _ => rfl, rfl⟩⟩
instance (n : Nat) : LtC 19 (n + 20) := ⟨by omega⟩
def gt19 (e : T) : D := T.rec (motive := fun _ => D) (fun r0 r1 r2 r3 => O8.rec (motive := fun _ => D) (fun a0 a1 a2 a3 a4 a5 a6 a7 => a3) r2) e
instance : TwG 19 gt19 := ⟨fun e => rfl⟩
def st19 (ρ : Type) (v : D) (e : T) (k : T → PR ρ) : PR ρ := T.rec (motive := fun _ => PR ρ) (fun r0 r1 r2 r3 => O8.rec (motive := fun _ => PR ρ) (fun a0 a1 a2 a3 a4 a5 a6 a7 => k (T.mk r0 r1 (O8.mk a0 a1 a2 v a4 a5 a6 a7) r3)) r2) e
instance : TwS' 19 st19 := ⟨fun v e => ⟨_, fun _ _ => rfl, rfl⟩⟩
instance (n : Nat) : LtC 20 (n + 21) := ⟨by omega⟩
def gt20 (e : T) : D := T.rec (motive := fun _ => D) (fun r0 r1 r2 r3 => O8.rec (motive := fun _ => D) (fun a0 a1 a2 a3 a4 a5 a6 a7 => a4) r2) e
instance : TwG 20 gt20 := ⟨fun e => rfl⟩
def st20 (ρ : Type) (v : D) (e : T) (k : T → PR ρ) : PR ρ := T.rec (motive := fun _ => PR ρ) (fun r0 r1 r2 r3 => O8.rec (motive := fun _ => PR ρ) (fun a0 a1 a2 a3 a4 a5 a6 a7 => k (T.mk r0 r1 (O8.mk a0 a1 a2 a3 v a5 a6 a7) r3)) r2) e
instance : TwS' 20 st20 := ⟨fun v e => ⟨_, fun _ _ => rfl, rfl⟩⟩
instance (n : Nat) : LtC 21 (n + 22) := ⟨by omega⟩
def gt21 (e : T) : D := T.rec (motive := fun _ => D) (fun r0 r1 r2 r3 => O8.rec (motive := fun _ => D) (fun a0 a1 a2 a3 a4 a5 a6 a7 => a5) r2) e
instance : TwG 21 gt21 := ⟨fun e => rfl⟩
def st21 (ρ : Type) (v : D) (e : T) (k : T → PR ρ) : PR ρ := T.rec (motive := fun _ => PR ρ) (fun r0 r1 r2 r3 => O8.rec (motive := fun _ => PR ρ) (fun a0 a1 a2 a3 a4 a5 a6 a7 => k (T.mk r0 r1 (O8.mk a0 a1 a2 a3 a4 v a6 a7) r3)) r2) e
instance : TwS' 21 st21 := ⟨fun v e => ⟨_, fun _ _ => rfl, rfl⟩⟩
instance (n : Nat) : LtC 22 (n + 23) := ⟨by omega⟩
def gt22 (e : T) : D := T.rec (motive := fun _ => D) (fun r0 r1 r2 r3 => O8.rec (motive := fun _ => D) (fun a0 a1 a2 a3 a4 a5 a6 a7 => a6) r2) e
instance : TwG 22 gt22 := ⟨fun e => rfl⟩
def st22 (ρ : Type) (v : D) (e : T) (k : T → PR ρ) : PR ρ := T.rec (motive := fun _ => PR ρ) (fun r0 r1 r2 r3 => O8.rec (motive := fun _ => PR ρ) (fun a0 a1 a2 a3 a4 a5 a6 a7 => k (T.mk r0 r1 (O8.mk a0 a1 a2 a3 a4 a5 v a7) r3)) r2) e
instance : TwS' 22 st22 := ⟨fun v e => ⟨_, fun _ _ => rfl, rfl⟩⟩
instance (n : Nat) : LtC 23 (n + 24) := ⟨by omega⟩
def gt23 (e : T) : D := T.rec (motive := fun _ => D) (fun r0 r1 r2 r3 => O8.rec (motive := fun _ => D) (fun a0 a1 a2 a3 a4 a5 a6 a7 => a7) r2) e
instance : TwG 23 gt23 := ⟨fun e => rfl⟩
def st23 (ρ : Type) (v : D) (e : T) (k : T → PR ρ) : PR ρ := T.rec (motive := fun _ => PR ρ) (fun r0 r1 r2 r3 => O8.rec (motive := fun _ => PR ρ) (fun a0 a1 a2 a3 a4 a5 a6 a7 => k (T.mk r0 r1 (O8.mk a0 a1 a2 a3 a4 a5 a6 v) r3)) r2) e
instance : TwS' 23 st23 := ⟨fun v e => ⟨_, fun _ _ => rfl, rfl⟩⟩
instance (n : Nat) : LtC 24 (n + 25) := ⟨by omega⟩
def gt24 (e : T) : D := T.rec (motive := fun _ => D) (fun r0 r1 r2 r3 => O8.rec (motive := fun _ => D) (fun a0 a1 a2 a3 a4 a5 a6 a7 => a0) r3) e
instance : TwG 24 gt24 := ⟨fun e => rfl⟩
def st24 (ρ : Type) (v : D) (e : T) (k : T → PR ρ) : PR ρ := T.rec (motive := fun _ => PR ρ) (fun r0 r1 r2 r3 => O8.rec (motive := fun _ => PR ρ) (fun a0 a1 a2 a3 a4 a5 a6 a7 => k (T.mk r0 r1 r2 (O8.mk v a1 a2 a3 a4 a5 a6 a7))) r3) e
instance : TwS' 24 st24 := ⟨fun v e => ⟨_, fun _ _ => rfl, rfl⟩⟩
instance (n : Nat) : LtC 25 (n + 26) := ⟨by omega⟩
def gt25 (e : T) : D := T.rec (motive := fun _ => D) (fun r0 r1 r2 r3 => O8.rec (motive := fun _ => D) (fun a0 a1 a2 a3 a4 a5 a6 a7 => a1) r3) e
instance : TwG 25 gt25 := ⟨fun e => rfl⟩
def st25 (ρ : Type) (v : D) (e : T) (k : T → PR ρ) : PR ρ := T.rec (motive := fun _ => PR ρ) (fun r0 r1 r2 r3 => O8.rec (motive := fun _ => PR ρ) (fun a0 a1 a2 a3 a4 a5 a6 a7 => k (T.mk r0 r1 r2 (O8.mk a0 v a2 a3 a4 a5 a6 a7))) r3) e
instance : TwS' 25 st25 := ⟨fun v e => ⟨_, fun _ _ => rfl, rfl⟩⟩
instance (n : Nat) : LtC 26 (n + 27) := ⟨by omega⟩
def gt26 (e : T) : D := T.rec (motive := fun _ => D) (fun r0 r1 r2 r3 => O8.rec (motive := fun _ => D) (fun a0 a1 a2 a3 a4 a5 a6 a7 => a2) r3) e
instance : TwG 26 gt26 := ⟨fun e => rfl⟩
def st26 (ρ : Type) (v : D) (e : T) (k : T → PR ρ) : PR ρ := T.rec (motive := fun _ => PR ρ) (fun r0 r1 r2 r3 => O8.rec (motive := fun _ => PR ρ) (fun a0 a1 a2 a3 a4 a5 a6 a7 => k (T.mk r0 r1 r2 (O8.mk a0 a1 v a3 a4 a5 a6 a7))) r3) e
instance : TwS' 26 st26 := ⟨fun v e => ⟨_, fun _ _ => rfl, rfl⟩⟩
instance (n : Nat) : LtC 27 (n + 28) := ⟨by omega⟩
def gt27 (e : T) : D := T.rec (motive := fun _ => D) (fun r0 r1 r2 r3 => O8.rec (motive := fun _ => D) (fun a0 a1 a2 a3 a4 a5 a6 a7 => a3) r3) e
instance : TwG 27 gt27 := ⟨fun e => rfl⟩
def st27 (ρ : Type) (v : D) (e : T) (k : T → PR ρ) : PR ρ := T.rec (motive := fun _ => PR ρ) (fun r0 r1 r2 r3 => O8.rec (motive := fun _ => PR ρ) (fun a0 a1 a2 a3 a4 a5 a6 a7 => k (T.mk r0 r1 r2 (O8.mk a0 a1 a2 v a4 a5 a6 a7))) r3) e
instance : TwS' 27 st27 := ⟨fun v e => ⟨_, fun _ _ => rfl, rfl⟩⟩
instance (n : Nat) : LtC 28 (n + 29) := ⟨by omega⟩
def gt28 (e : T) : D := T.rec (motive := fun _ => D) (fun r0 r1 r2 r3 => O8.rec (motive := fun _ => D) (fun a0 a1 a2 a3 a4 a5 a6 a7 => a4) r3) e
instance : TwG 28 gt28 := ⟨fun e => rfl⟩
def st28 (ρ : Type) (v : D) (e : T) (k : T → PR ρ) : PR ρ := T.rec (motive := fun _ => PR ρ) (fun r0 r1 r2 r3 => O8.rec (motive := fun _ => PR ρ) (fun a0 a1 a2 a3 a4 a5 a6 a7 => k (T.mk r0 r1 r2 (O8.mk a0 a1 a2 a3 v a5 a6 a7))) r3) e
instance : TwS' 28 st28 := ⟨fun v e => ⟨_, fun _ _ => rfl, rfl⟩⟩
instance (n : Nat) : LtC 29 (n + 30) := ⟨by omega⟩
def gt29 (e : T) : D := T.rec (motive := fun _ => D) (fun r0 r1 r2 r3 => O8.rec (motive := fun _ => D) (fun a0 a1 a2 a3 a4 a5 a6 a7 => a5) r3) e
instance : TwG 29 gt29 := ⟨fun e => rfl⟩
def st29 (ρ : Type) (v : D) (e : T) (k : T → PR ρ) : PR ρ := T.rec (motive := fun _ => PR ρ) (fun r0 r1 r2 r3 => O8.rec (motive := fun _ => PR ρ) (fun a0 a1 a2 a3 a4 a5 a6 a7 => k (T.mk r0 r1 r2 (O8.mk a0 a1 a2 a3 a4 v a6 a7))) r3) e
instance : TwS' 29 st29 := ⟨fun v e => ⟨_, fun _ _ => rfl, rfl⟩⟩
instance (n : Nat) : LtC 30 (n + 31) := ⟨by omega⟩
def gt30 (e : T) : D := T.rec (motive := fun _ => D) (fun r0 r1 r2 r3 => O8.rec (motive := fun _ => D) (fun a0 a1 a2 a3 a4 a5 a6 a7 => a6) r3) e
instance : TwG 30 gt30 := ⟨fun e => rfl⟩
def st30 (ρ : Type) (v : D) (e : T) (k : T → PR ρ) : PR ρ := T.rec (motive := fun _ => PR ρ) (fun r0 r1 r2 r3 => O8.rec (motive := fun _ => PR ρ) (fun a0 a1 a2 a3 a4 a5 a6 a7 => k (T.mk r0 r1 r2 (O8.mk a0 a1 a2 a3 a4 a5 v a7))) r3) e
instance : TwS' 30 st30 := ⟨fun v e => ⟨_, fun _ _ => rfl, rfl⟩⟩
instance (n : Nat) : LtC 31 (n + 32) := ⟨by omega⟩
def gt31 (e : T) : D := T.rec (motive := fun _ => D) (fun r0 r1 r2 r3 => O8.rec (motive := fun _ => D) (fun a0 a1 a2 a3 a4 a5 a6 a7 => a7) r3) e
instance : TwG 31 gt31 := ⟨fun e => rfl⟩
def st31 (ρ : Type) (v : D) (e : T) (k : T → PR ρ) : PR ρ := T.rec (motive := fun _ => PR ρ) (fun r0 r1 r2 r3 => O8.rec (motive := fun _ => PR ρ) (fun a0 a1 a2 a3 a4 a5 a6 a7 => k (T.mk r0 r1 r2 (O8.mk a0 a1 a2 a3 a4 a5 a6 v))) r3) e
instance : TwS' 31 st31 := ⟨fun v e => ⟨_, fun _ _ => rfl, rfl⟩⟩
def h8 : O8 := O8.mk .hole .hole .hole .hole .hole .hole .hole .hole
class Le32 (N : Nat) : Prop where
  h : N ≤ 32
instance : Le32 0 := ⟨by decide⟩
instance : Le32 1 := ⟨by decide⟩
instance : Le32 2 := ⟨by decide⟩
instance : Le32 3 := ⟨by decide⟩
instance : Le32 4 := ⟨by decide⟩
instance : Le32 5 := ⟨by decide⟩
instance : Le32 6 := ⟨by decide⟩
instance : Le32 7 := ⟨by decide⟩
instance : Le32 8 := ⟨by decide⟩
instance : Le32 9 := ⟨by decide⟩
instance : Le32 10 := ⟨by decide⟩
instance : Le32 11 := ⟨by decide⟩
instance : Le32 12 := ⟨by decide⟩
instance : Le32 13 := ⟨by decide⟩
instance : Le32 14 := ⟨by decide⟩
instance : Le32 15 := ⟨by decide⟩
instance : Le32 16 := ⟨by decide⟩
instance : Le32 17 := ⟨by decide⟩
instance : Le32 18 := ⟨by decide⟩
instance : Le32 19 := ⟨by decide⟩
instance : Le32 20 := ⟨by decide⟩
instance : Le32 21 := ⟨by decide⟩
instance : Le32 22 := ⟨by decide⟩
instance : Le32 23 := ⟨by decide⟩
instance : Le32 24 := ⟨by decide⟩
instance : Le32 25 := ⟨by decide⟩
instance : Le32 26 := ⟨by decide⟩
instance : Le32 27 := ⟨by decide⟩
instance : Le32 28 := ⟨by decide⟩
instance : Le32 29 := ⟨by decide⟩
instance : Le32 30 := ⟨by decide⟩
instance : Le32 31 := ⟨by decide⟩
instance : Le32 32 := ⟨by decide⟩
/-- two slots are not the same -/
class NeC (i r : Nat) : Prop where
  h : i ≠ r
instance : NeC 1 0 := ⟨by decide⟩
instance : NeC 2 0 := ⟨by decide⟩
instance : NeC 3 0 := ⟨by decide⟩
instance : NeC 4 0 := ⟨by decide⟩
instance : NeC 5 0 := ⟨by decide⟩
instance : NeC 6 0 := ⟨by decide⟩
instance : NeC 7 0 := ⟨by decide⟩
instance : NeC 8 0 := ⟨by decide⟩
instance : NeC 9 0 := ⟨by decide⟩
instance : NeC 10 0 := ⟨by decide⟩
instance : NeC 11 0 := ⟨by decide⟩
instance : NeC 12 0 := ⟨by decide⟩
instance : NeC 13 0 := ⟨by decide⟩
instance : NeC 14 0 := ⟨by decide⟩
instance : NeC 15 0 := ⟨by decide⟩
instance : NeC 16 0 := ⟨by decide⟩
instance : NeC 17 0 := ⟨by decide⟩
instance : NeC 18 0 := ⟨by decide⟩
instance : NeC 19 0 := ⟨by decide⟩
instance : NeC 20 0 := ⟨by decide⟩
instance : NeC 21 0 := ⟨by decide⟩
instance : NeC 22 0 := ⟨by decide⟩
instance : NeC 23 0 := ⟨by decide⟩
instance : NeC 24 0 := ⟨by decide⟩
instance : NeC 25 0 := ⟨by decide⟩
instance : NeC 26 0 := ⟨by decide⟩
instance : NeC 27 0 := ⟨by decide⟩
instance : NeC 28 0 := ⟨by decide⟩
instance : NeC 29 0 := ⟨by decide⟩
instance : NeC 30 0 := ⟨by decide⟩
instance : NeC 31 0 := ⟨by decide⟩
instance : NeC 0 1 := ⟨by decide⟩
instance : NeC 2 1 := ⟨by decide⟩
instance : NeC 3 1 := ⟨by decide⟩
instance : NeC 4 1 := ⟨by decide⟩
instance : NeC 5 1 := ⟨by decide⟩
instance : NeC 6 1 := ⟨by decide⟩
instance : NeC 7 1 := ⟨by decide⟩
instance : NeC 8 1 := ⟨by decide⟩
instance : NeC 9 1 := ⟨by decide⟩
instance : NeC 10 1 := ⟨by decide⟩
instance : NeC 11 1 := ⟨by decide⟩
instance : NeC 12 1 := ⟨by decide⟩
instance : NeC 13 1 := ⟨by decide⟩
instance : NeC 14 1 := ⟨by decide⟩
instance : NeC 15 1 := ⟨by decide⟩
instance : NeC 16 1 := ⟨by decide⟩
instance : NeC 17 1 := ⟨by decide⟩
instance : NeC 18 1 := ⟨by decide⟩
instance : NeC 19 1 := ⟨by decide⟩
instance : NeC 20 1 := ⟨by decide⟩
instance : NeC 21 1 := ⟨by decide⟩
instance : NeC 22 1 := ⟨by decide⟩
instance : NeC 23 1 := ⟨by decide⟩
instance : NeC 24 1 := ⟨by decide⟩
instance : NeC 25 1 := ⟨by decide⟩
instance : NeC 26 1 := ⟨by decide⟩
instance : NeC 27 1 := ⟨by decide⟩
instance : NeC 28 1 := ⟨by decide⟩
instance : NeC 29 1 := ⟨by decide⟩
instance : NeC 30 1 := ⟨by decide⟩
instance : NeC 31 1 := ⟨by decide⟩
instance : NeC 0 2 := ⟨by decide⟩
instance : NeC 1 2 := ⟨by decide⟩
instance : NeC 3 2 := ⟨by decide⟩
instance : NeC 4 2 := ⟨by decide⟩
instance : NeC 5 2 := ⟨by decide⟩
instance : NeC 6 2 := ⟨by decide⟩
instance : NeC 7 2 := ⟨by decide⟩
instance : NeC 8 2 := ⟨by decide⟩
instance : NeC 9 2 := ⟨by decide⟩
instance : NeC 10 2 := ⟨by decide⟩
instance : NeC 11 2 := ⟨by decide⟩
instance : NeC 12 2 := ⟨by decide⟩
instance : NeC 13 2 := ⟨by decide⟩
instance : NeC 14 2 := ⟨by decide⟩
instance : NeC 15 2 := ⟨by decide⟩
instance : NeC 16 2 := ⟨by decide⟩
instance : NeC 17 2 := ⟨by decide⟩
instance : NeC 18 2 := ⟨by decide⟩
instance : NeC 19 2 := ⟨by decide⟩
instance : NeC 20 2 := ⟨by decide⟩
instance : NeC 21 2 := ⟨by decide⟩
instance : NeC 22 2 := ⟨by decide⟩
instance : NeC 23 2 := ⟨by decide⟩
instance : NeC 24 2 := ⟨by decide⟩
instance : NeC 25 2 := ⟨by decide⟩
instance : NeC 26 2 := ⟨by decide⟩
instance : NeC 27 2 := ⟨by decide⟩
instance : NeC 28 2 := ⟨by decide⟩
instance : NeC 29 2 := ⟨by decide⟩
instance : NeC 30 2 := ⟨by decide⟩
instance : NeC 31 2 := ⟨by decide⟩
instance : NeC 0 99 := ⟨by decide⟩
instance : NeC 1 99 := ⟨by decide⟩
instance : NeC 2 99 := ⟨by decide⟩
instance : NeC 3 99 := ⟨by decide⟩
instance : NeC 4 99 := ⟨by decide⟩
instance : NeC 5 99 := ⟨by decide⟩
instance : NeC 6 99 := ⟨by decide⟩
instance : NeC 7 99 := ⟨by decide⟩
instance : NeC 8 99 := ⟨by decide⟩
instance : NeC 9 99 := ⟨by decide⟩
instance : NeC 10 99 := ⟨by decide⟩
instance : NeC 11 99 := ⟨by decide⟩
instance : NeC 12 99 := ⟨by decide⟩
instance : NeC 13 99 := ⟨by decide⟩
instance : NeC 14 99 := ⟨by decide⟩
instance : NeC 15 99 := ⟨by decide⟩
instance : NeC 16 99 := ⟨by decide⟩
instance : NeC 17 99 := ⟨by decide⟩
instance : NeC 18 99 := ⟨by decide⟩
instance : NeC 19 99 := ⟨by decide⟩
instance : NeC 20 99 := ⟨by decide⟩
instance : NeC 21 99 := ⟨by decide⟩
instance : NeC 22 99 := ⟨by decide⟩
instance : NeC 23 99 := ⟨by decide⟩
instance : NeC 24 99 := ⟨by decide⟩
instance : NeC 25 99 := ⟨by decide⟩
instance : NeC 26 99 := ⟨by decide⟩
instance : NeC 27 99 := ⟨by decide⟩
instance : NeC 28 99 := ⟨by decide⟩
instance : NeC 29 99 := ⟨by decide⟩
instance : NeC 30 99 := ⟨by decide⟩
instance : NeC 31 99 := ⟨by decide⟩
end
end Ow

set_option Elab.async false
set_option linter.all false
set_option maxRecDepth 100000
set_option maxHeartbeats 1000000
/-! OwYb: quick twins of expressions: answers are handed on. -/
namespace Ow
open PySem PySem.Spec PyProof.Rows L2
noncomputable section
/-! ### what is left out may be bad -/
def PR.le {ρ : Type} (a b : PR ρ) : Prop := a = .bad ∨ a = b
theorem PR.le.rfl' {ρ : Type} {a : PR ρ} : PR.le a a := .inr rfl
theorem PR.le.bad' {ρ : Type} {b : PR ρ} : PR.le .bad b := .inl rfl
theorem PR.le.trans {ρ : Type} {a b c : PR ρ} (h : PR.le a b) (g : PR.le b c) : PR.le a c := by
  rcases h with h | h
  · exact .inl h
  · subst h; exact g
theorem PR.le.ok {ρ : Type} {b : PR ρ} {r : ρ} {a : PR ρ} (h : PR.le a b) (e : a = .ok r) : b = .ok r := by
  rcases h with h | h
  · rw [h] at e; cases e
  · rw [← h]; exact e
theorem PR.le.er {ρ : Type} {b : PR ρ} {x : Ex} {a : PR ρ} (h : PR.le a b) (e : a = .err x) : b = .err x := by
  rcases h with h | h
  · rw [h] at e; cases e
  · rw [← h]; exact e
theorem PR.bb {α β γ : Type} (r : PR α) (f : α → PR β) (k : β → PR γ) : (r.bind f).bind k = r.bind fun a => (f a).bind k := by cases r <;> rfl
def PR.run {α ρ : Type} (r : PR α) (k : α → PR ρ) : PR ρ := PR.rec (motive := fun _ => PR ρ) k .err .bad r
theorem PR.run_eq {α ρ : Type} (r : PR α) (k : α → PR ρ) : r.run k = r.bind k := by cases r <;> rfl
theorem PR.le_run {α ρ : Type} {r r' : PR α} {k k' : α → PR ρ} (h : PR.le r r') (hk : ∀ a, PR.le (k a) (k' a)) : PR.le (r.run k) (r'.bind k') := by
  rcases h with h | h
  · subst h; exact .inl rfl
  · subst h
    cases r with
    | ok a => exact hk a
    | err x => exact .inr rfl
    | bad => exact .inl rfl
/-! ### data, taken apart -/
def dsel {α : Type} (d : D) (fg : PyData → α) (o h : α) : α := D.rec (motive_1 := fun _ => α) (motive_2 := fun _ => Unit) fg (fun _ _ => o) (fun _ _ => o) (fun _ _ _ => o) (fun _ _ _ => o) (fun _ => o) (fun _ => o) h () (fun _ _ _ _ => ()) d
/-- a list's items, or other -/
def dlst {α : Type} (d : D) (fl : List D → α) (o : α) : α := D.rec (motive_1 := fun _ => α) (motive_2 := fun _ => Unit) (fun _ => o) (fun ds _ => fl ds) (fun _ _ => o) (fun _ _ _ => o) (fun _ _ _ => o) (fun _ => o) (fun _ => o) o () (fun _ _ _ _ => ()) d
def psel {α : Type} (x : PyData) (non : α) (b : Bool → α) (i : Int → α) (s : Str → α) (t : List PyData → α) (o : α) : α :=
  PyData.rec (motive_1 := fun _ => α) (motive_2 := fun _ => Unit) (motive_3 := fun _ => Unit) (motive_4 := fun _ => Unit) non b i s (fun _ _ => o) (fun xs _ => t xs) (fun _ _ => o) () (fun _ _ _ _ => ()) () (fun _ _ _ _ => ()) (fun _ _ _ _ => ()) x
/-- an int, or other -/
def pint {α : Type} (x : PyData) (i : Int → α) (o : α) : α :=
  PyData.rec (motive_1 := fun _ => α) (motive_2 := fun _ => Unit) (motive_3 := fun _ => Unit) (motive_4 := fun _ => Unit) o (fun _ => o) i (fun _ => o) (fun _ _ => o) (fun _ _ => o) (fun _ _ => o) () (fun _ _ _ _ => ()) () (fun _ _ _ _ => ()) (fun _ _ _ _ => ()) x
def pbool {α : Type} (x : PyData) (i : Bool → α) (o : α) : α :=
  PyData.rec (motive_1 := fun _ => α) (motive_2 := fun _ => Unit) (motive_3 := fun _ => Unit) (motive_4 := fun _ => Unit) o i (fun _ => o) (fun _ => o) (fun _ _ => o) (fun _ _ => o) (fun _ _ => o) () (fun _ _ _ _ => ()) () (fun _ _ _ _ => ()) (fun _ _ _ _ => ()) x
def bsel {α : Type} (b : Bool) (t f : α) : α := Bool.rec (motive := fun _ => α) f t b
def lsel {β α : Type} (l : List β) (n : α) (c : β → List β → α) : α := List.rec (motive := fun _ => α) n (fun h t _ => c h t) l
def osel {β α : Type} (l : Option β) (n : α) (c : β → α) : α := Option.rec (motive := fun _ => α) n c l
def lenR {β : Type} (l : List β) : Nat := List.rec (motive := fun _ => Nat) 0 (fun _ _ ih => Nat.succ ih) l
theorem lenR_eq {β : Type} (l : List β) : lenR l = l.length := by
  induction l with
  | nil => rfl
  | cons a l ih => show Nat.succ (lenR l) = _; rw [ih]; rfl
def lenOk {β α : Type} (l : List β) (t f : α) : α := bsel (Nat.ble (lenR l) 16777216) t f
theorem ble_eq (a b : Nat) : Nat.ble a b = decide (a ≤ b) := by
  by_cases h : a ≤ b
  · rw [decide_eq_true h, Nat.ble_eq.mpr h]
  · rw [decide_eq_false h]
    cases e : Nat.ble a b with
    | false => rfl
    | true => exact absurd (Nat.ble_eq.mp e) h
theorem bsel_dec {α : Type} {p : Prop} [Decidable p] (t f : α) : bsel (decide p) t f = if p then t else f := by
  by_cases h : p
  · rw [decide_eq_true h, if_pos h]; rfl
  · rw [decide_eq_false h, if_neg h]; rfl
theorem lenOk_eq {β α : Type} (l : List β) (t f : α) : lenOk l t f = if l.length ≤ sizeLine then t else f := by
  unfold lenOk
  rw [ble_eq, bsel_dec, lenR_eq]
  rfl
theorem bsel_eq {α : Type} (b : Bool) (t f : α) : bsel b t f = if b = true then t else f := by cases b <;> rfl
def mapG (xs : List PyData) : List D := List.rec (motive := fun _ => List D) [] (fun x _ ih => .g x :: ih) xs
theorem mapG_eq (xs : List PyData) : mapG xs = xs.map .g := by
  induction xs with
  | nil => rfl
  | cons a l ih => show D.g a :: mapG l = _; rw [ih]; rfl
def gAllK {α : Type} (ds : List D) (k : List PyData → α) (no : α) : α := List.rec (motive := fun _ => (List PyData → α) → α) (fun k => k []) (fun d _ ih k => dsel d (fun x => ih fun xs => k (x :: xs)) no no) ds k
theorem gAllK_eq {α : Type} (ds : List D) (k : List PyData → α) (no : α) : gAllK ds k no = match gAll ds with | some xs => k xs | none => no := by
  induction ds generalizing k with
  | nil => rfl
  | cons d ds ih =>
    show dsel d (fun x => gAllK ds (fun xs => k (x :: xs)) no) no no = _
    cases d with
    | g x =>
      show gAllK ds (fun xs => k (x :: xs)) no = _
      rw [ih]
      simp only [gAll]
      cases gAll ds <;> rfl
    | _ => rfl
def appR {β : Type} (a b : List β) : List β := List.rec (motive := fun _ => List β) b (fun x _ ih => x :: ih) a
theorem appR_eq {β : Type} (a b : List β) : appR a b = a ++ b := by
  induction a with
  | nil => rfl
  | cons x a ih => show x :: appR a b = _; rw [ih]; rfl
def nthR {β α : Type} (l : List β) (n : Nat) (k : β → α) (no : α) : α := List.rec (motive := fun _ => Nat → α) (fun _ => no) (fun x _ ih n => Nat.rec (motive := fun _ => α) (k x) (fun m _ => ih m) n) l n
theorem nthR_eq {β α : Type} (l : List β) (n : Nat) (k : β → α) (no : α) : nthR l n k no = match l[n]? with | some x => k x | none => no := by
  induction l generalizing n with
  | nil => rfl
  | cons x l ih =>
    cases n with
    | zero => rfl
    | succ n =>
      show nthR l n k no = _
      rw [ih]; rfl

/-! ### expressions that write nothing -/
/-- the slots' data: what the tree tells of a slot stands there (a hole tells nothing); at pr, where the tree has a hole, stands px -/
structure Sim (N pr : Nat) (px : D) (e : T) (env : List D) : Prop where
  len : env.length = N
  here : ∀ i, i < N → ∀ d, (full e)[i]? = some d → d = .hole ∨ env[i]? = some d
  pin : pr < N → (full e)[pr]? = some .hole → env[pr]? = some px
theorem Sim.get {N pr i : Nat} {px : D} [hl : LtC i N] {g : T → D} [hg : TwG i g] {e : T} {env : List D} (sm : Sim N pr px e env) : g e = .hole ∨ env[i]? = some (g e) := sm.here i hl.h _ (hg.h e)
theorem Sim.lt {N pr i : Nat} {px : D} [hl : LtC i N] {e : T} {env : List D} (sm : Sim N pr px e env) : i < env.length := by rw [sm.len]; exact hl.h
theorem Sim.set {N pr i : Nat} {px : D} {s : CSet} [hs : TwS' i s] {e : T} {env : List D} (sm : Sim N pr px e env) (v : D) (hv : v ≠ .hole ∨ i ≠ pr) : ∃ e', (∀ (ρ : Type) (k : T → PR ρ), s ρ v e k = k e') ∧ Sim N pr px e' (env.set i v) := by
  obtain ⟨e', h1, h2⟩ := hs.h v e
  refine ⟨e', h1, by rw [List.length_set]; exact sm.len, fun j hj d hd => ?_, fun hp hd => ?_⟩
  · rw [h2] at hd
    by_cases hji : i = j
    · subst hji
      rw [List.getElem?_set_self (by rw [sm.len]; exact hj)]
      by_cases hfl : i < (full e).length
      · rw [List.getElem?_set_self hfl] at hd
        exact .inr hd
      · rw [List.getElem?_eq_none (by rw [List.length_set]; omega)] at hd
        cases hd
    · rw [List.getElem?_set_ne hji] at hd ⊢
      exact sm.here j hj d hd
  · rw [h2] at hd
    by_cases hji : i = pr
    · subst hji
      by_cases hfl : i < (full e).length
      · rw [List.getElem?_set_self hfl] at hd
        cases hd
        rcases hv with hv | hv
        · exact absurd rfl hv
        · exact absurd rfl hv
      · rw [List.getElem?_eq_none (by rw [List.length_set]; omega)] at hd
        cases hd
    · rw [List.getElem?_set_ne hji] at hd ⊢
      exact sm.pin hp hd
abbrev CPt := (ρ : Type) → T → (D → PR ρ) → (D → PR ρ) → PR ρ
class TwP (N pr : Nat) (px : D) (f : PF) (c : outParam CPt) : Prop where
  h : ∀ (ρ : Type) (e : T) (env : List D) (sm : Sim N pr px e env) (ko kb : D → PR ρ) (k' : Pv → PR ρ), (∀ d, PR.le (ko d) (k' (.own d))) → (∀ d, PR.le (kb d) (k' (.bor d))) → PR.le (c ρ e ko kb) ((f env).bind k')
theorem TwP.hh {N pr : Nat} {px : D} {f : PF} {c : CPt} (t : TwP N pr px f c) {ρ : Type} {e : T} {env : List D} (sm : Sim N pr px e env) {k : D → PR ρ} {k' : Pv → PR ρ} (h : ∀ p : Pv, PR.le (k p.d) (k' p)) : PR.le (c ρ e k k) ((f env).bind k') :=
  t.h ρ e env sm k k k' (fun d => h (.own d)) fun d => h (.bor d)
abbrev CBt := (ρ : Type) → T → PR ρ → PR ρ → PR ρ
class TwB (N pr : Nat) (px : D) (f : PB) (c : outParam CBt) : Prop where
  h : ∀ (ρ : Type) (e : T) (env : List D) (sm : Sim N pr px e env) (kt kf : PR ρ) (k' : Bool → PR ρ), PR.le kt (k' true) → PR.le kf (k' false) → PR.le (c ρ e kt kf) ((f env).bind k')
abbrev CLt := (ρ : Type) → T → (List D → PR ρ) → PR ρ
class TwL (N pr : Nat) (px : D) (f : PL) (c : outParam CLt) : Prop where
  h : ∀ (ρ : Type) (e : T) (env : List D) (sm : Sim N pr px e env) (k : List D → PR ρ) (k' : List D → PR ρ), (∀ d, PR.le (k d) (k' d)) → PR.le (c ρ e k) ((f env).bind k')
abbrev COt := (ρ : Type) → T → (Option Int → PR ρ) → PR ρ
class TwO (N pr : Nat) (px : D) (f : PO') (c : outParam COt) : Prop where
  h : ∀ (ρ : Type) (e : T) (env : List D) (sm : Sim N pr px e env) (k : Option Int → PR ρ) (k' : Option Int → PR ρ), (∀ d, PR.le (k d) (k' d)) → PR.le (c ρ e k) ((f env).bind k')
abbrev CWt := (ρ : Type) → T → (List D → PR ρ) → (List D → PR ρ) → PR ρ
class TwW (N pr : Nat) (px : D) (f : PW') (c : outParam CWt) : Prop where
  h : ∀ (ρ : Type) (e : T) (env : List D) (sm : Sim N pr px e env) (k0 k1 : List D → PR ρ) (k' : Walk → PR ρ), (∀ d, PR.le (k0 d) (k' ⟨d, false⟩)) → (∀ d, PR.le (k1 d) (k' ⟨d, true⟩)) → PR.le (c ρ e k0 k1) ((f env).bind k')
/-! ### operations -/
abbrev CFt := (ρ : Type) → D → D → (D → PR ρ) → PR ρ
class TwF (F : D → D → Option D) (c : outParam CFt) : Prop where
  h : ∀ (ρ : Type) (a b : D) (k k' : D → PR ρ), (∀ d, PR.le (k d) (k' d)) → PR.le (c ρ a b k) ((PR.of (F a b)).bind k')
abbrev CFBt := (ρ : Type) → D → D → PR ρ → PR ρ → PR ρ
class TwFB (F : D → D → Option D) (c : outParam CFBt) : Prop where
  h : ∀ (ρ : Type) (a b : D) (kt kf : PR ρ) (k' : D → PR ρ), PR.le kt (k' (.g (.bool true))) → PR.le kf (k' (.g (.bool false))) → PR.le (c ρ a b kt kf) ((PR.of (F a b)).bind k')
abbrev CNt := (ρ : Type) → List D → (D → PR ρ) → PR ρ
class TwN (F : List D → Option D) (c : outParam CNt) : Prop where
  h : ∀ (ρ : Type) (ds : List D) (k k' : D → PR ρ), (∀ d, PR.le (k d) (k' d)) → PR.le (c ρ ds k) ((PR.of (F ds)).bind k')
def cF0 (F : D → D → Option D) : CFt := fun ρ a b k => osel (F a b) .bad k
theorem twF0 (F : D → D → Option D) : TwF F (cF0 F) := ⟨fun ρ a b k k' h => by
  unfold cF0
  cases F a b with
  | none => exact .inl rfl
  | some d => exact h d⟩
def cN0 (F : List D → Option D) : CNt := fun ρ ds k => osel (F ds) .bad k
theorem twN0 (F : List D → Option D) : TwN F (cN0 F) := ⟨fun ρ a k k' h => by
  unfold cN0
  cases F a with
  | none => exact .inl rfl
  | some d => exact h d⟩
def cFB (c : CFBt) : CFt := fun ρ a b k => c ρ a b (k (.g (.bool true))) (k (.g (.bool false)))
instance (priority := 50) twFB (F : D → D → Option D) (c : CFBt) [t : TwFB F c] : TwF F (cFB c) := ⟨fun ρ a b k k' h => t.h ρ a b _ _ k' (h _) (h _)⟩

variable {N pr : Nat} {px : D}
def cVar (g : T → D) : CPt := fun ρ e ko kb => dsel (g e) (fun x => ko (.g x)) (kb (g e)) .bad
instance twVar (i : Nat) (g : T → D) [LtC i N] [TwG i g] : TwP N pr px (pVar i) (cVar g) := ⟨fun ρ e env sm ko kb k' ho hb => by
  unfold pVar cVar
  rcases sm.get (i := i) (g := g) with z | z
  · rw [z]; exact .inl rfl
  rw [z]
  cases g e with
  | g x => exact ho _
  | hole => exact .inl rfl
  | _ => exact hb _⟩
def cC (x : PyData) : CPt := fun ρ e ko kb => ko (.g x)
instance twC (x : PyData) : TwP N pr px (pC x) (cC x) := ⟨fun ρ e env sm ko kb k' ho hb => ho _⟩
def cBin (cF : CFt) (ca cb : CPt) : CPt := fun ρ e ko kb => (fun k => ca ρ e k k) fun a => (fun k => cb ρ e k k) fun b => cF ρ a b ko
instance twBin (F : D → D → Option D) (fa fb : PF) (cF : CFt) (ca cb : CPt) [tF : TwF F cF] [ta : TwP N pr px fa ca] [tb : TwP N pr px fb cb] : TwP N pr px (pBin F fa fb) (cBin cF ca cb) := ⟨fun ρ e env sm ko kb k' ho hb => by
  unfold pBin cBin
  rw [PR.bb]
  refine ta.hh sm fun a => ?_
  rw [PR.bb]
  refine tb.hh sm fun b => ?_
  rw [PR.bb]
  exact tF.h _ _ _ _ _ fun d => ho d⟩
def cTstBin (cF : CFBt) (ca cb : CPt) : CBt := fun ρ e kt kf => (fun k => ca ρ e k k) fun a => (fun k => cb ρ e k k) fun b => cF ρ a b kt kf
instance (priority := high) twTstBin (F : D → D → Option D) (fa fb : PF) (cF : CFBt) (ca cb : CPt) [tF : TwFB F cF] [ta : TwP N pr px fa ca] [tb : TwP N pr px fb cb] : TwB N pr px (pTst (pBin F fa fb)) (cTstBin cF ca cb) := ⟨fun ρ e env sm kt kf k' ht hf => by
  unfold pTst pBin cTstBin
  rw [PR.bb, PR.bb]
  refine ta.hh sm fun a => ?_
  rw [PR.bb]
  refine tb.hh sm fun b => ?_
  rw [PR.bb]
  exact tF.h _ _ _ _ _ _ ht hf⟩
def asBK {ρ : Type} (d : D) (kt kf : PR ρ) : PR ρ := dsel d (fun x => pbool x (fun b => bsel b kt kf) .bad) .bad .bad
theorem asBK_le {ρ : Type} {d : D} {kt kf : PR ρ} {k' : Bool → PR ρ} (ht : PR.le kt (k' true)) (hf : PR.le kf (k' false)) : PR.le (asBK d kt kf) ((asB (.own d)).bind k') := by
  unfold asBK
  cases d with
  | g x =>
    cases x with
    | bool b => cases b <;> assumption
    | _ => exact .inl rfl
  | _ => exact .inl rfl
def cTst (ca : CPt) : CBt := fun ρ e kt kf => ca ρ e (fun d => asBK d kt kf) (fun _ => .bad)
instance (priority := 20) twTst (f : PF) (ca : CPt) [t : TwP N pr px f ca] : TwB N pr px (pTst f) (cTst ca) := ⟨fun ρ e env sm kt kf k' ht hf => by
  unfold pTst cTst
  rw [PR.bb]
  refine t.h _ _ _ sm _ _ _ (fun d => asBK_le ht hf) fun d => .inl rfl⟩
def cCh (cF cF' : CFBt) (ca cb cc : CPt) : CPt := fun ρ e ko kb => (fun k => ca ρ e k k) fun a => (fun k => cb ρ e k k) fun b => cF ρ a b ((fun k => cc ρ e k k) fun c => cF' ρ b c (ko (.g (.bool true))) (ko (.g (.bool false)))) (ko (.g (.bool false)))
instance twCh (F F' : D → D → Option D) (fa fb fc : PF) (cF cF' : CFBt) (ca cb cc : CPt) [tF : TwFB F cF] [tF' : TwFB F' cF'] [ta : TwP N pr px fa ca] [tb : TwP N pr px fb cb] [tc : TwP N pr px fc cc] : TwP N pr px (pCh F F' fa fb fc) (cCh cF cF' ca cb cc) := ⟨fun ρ e env sm ko kb k' ho hb => by
  unfold pCh cCh
  rw [PR.bb]
  refine ta.hh sm fun a => ?_
  rw [PR.bb]
  refine tb.hh sm fun b => ?_
  rw [PR.bb]
  refine tF.h _ _ _ _ _ _ ?_ (ho _)
  dsimp only
  rw [PR.bb]
  refine tc.hh sm fun c => ?_
  rw [PR.bb]
  exact tF'.h _ _ _ _ _ _ (ho _) (ho _)⟩
def cNot (c : CBt) : CBt := fun ρ e kt kf => c ρ e kf kt
instance twNot (f : PB) (c : CBt) [t : TwB N pr px f c] : TwB N pr px (pNot f) (cNot c) := ⟨fun ρ e env sm kt kf k' ht hf => by
  unfold pNot cNot
  rw [PR.bb]
  exact t.h _ _ _ sm _ _ _ hf ht⟩
def cAnd (c c' : CBt) : CBt := fun ρ e kt kf => c ρ e (c' ρ e kt kf) kf
instance twAnd (f g : PB) (c c' : CBt) [t : TwB N pr px f c] [t' : TwB N pr px g c'] : TwB N pr px (pAnd f g) (cAnd c c') := ⟨fun ρ e env sm kt kf k' ht hf => by
  unfold pAnd cAnd
  rw [PR.bb]
  exact t.h _ _ _ sm _ _ _ (t'.h _ _ _ sm _ _ _ ht hf) hf⟩
def cOr (c c' : CBt) : CBt := fun ρ e kt kf => c ρ e kt (c' ρ e kt kf)
instance twOr (f g : PB) (c c' : CBt) [t : TwB N pr px f c] [t' : TwB N pr px g c'] : TwB N pr px (pOr f g) (cOr c c') := ⟨fun ρ e env sm kt kf k' ht hf => by
  unfold pOr cOr
  rw [PR.bb]
  exact t.h _ _ _ sm _ _ _ ht (t'.h _ _ _ sm _ _ _ ht hf)⟩
def cAndV (c : CBt) (c' : CPt) : CPt := fun ρ e ko kb => c ρ e (c' ρ e ko kb) (ko (.g (.bool false)))
instance twAndV (f g : PF) (c : CBt) (c' : CPt) [t : TwB N pr px (pTst f) c] [t' : TwP N pr px g c'] : TwP N pr px (pAndV f g) (cAndV c c') := ⟨fun ρ e env sm ko kb k' ho hb => by
  unfold pAndV cAndV
  rw [PR.bb]
  exact t.h _ _ _ sm _ _ _ (t'.h _ _ _ sm _ _ _ ho hb) (ho _)⟩
def cOrV (c : CBt) (c' : CPt) : CPt := fun ρ e ko kb => c ρ e (ko (.g (.bool true))) (c' ρ e ko kb)
instance twOrV (f g : PF) (c : CBt) (c' : CPt) [t : TwB N pr px (pTst f) c] [t' : TwP N pr px g c'] : TwP N pr px (pOrV f g) (cOrV c c') := ⟨fun ρ e env sm ko kb k' ho hb => by
  unfold pOrV cOrV
  rw [PR.bb]
  exact t.h _ _ _ sm _ _ _ (ho _) (t'.h _ _ _ sm _ _ _ ho hb)⟩
def cNotV (c : CBt) : CPt := fun ρ e ko kb => c ρ e (ko (.g (.bool false))) (ko (.g (.bool true)))
instance twNotV (f : PF) (c : CBt) [t : TwB N pr px (pTst f) c] : TwP N pr px (pNotV f) (cNotV c) := ⟨fun ρ e env sm ko kb k' ho hb => by
  unfold pNotV cNotV
  rw [PR.bb]
  exact t.h _ _ _ sm _ _ _ (ho _) (ho _)⟩
def cIf (c : CBt) (ca cb : CPt) : CPt := fun ρ e ko kb => c ρ e (ca ρ e ko kb) (cb ρ e ko kb)
instance twIf (b : PB) (f g : PF) (c : CBt) (ca cb : CPt) [t : TwB N pr px b c] [ta : TwP N pr px f ca] [tb : TwP N pr px g cb] : TwP N pr px (pIf b f g) (cIf c ca cb) := ⟨fun ρ e env sm ko kb k' ho hb => by
  unfold pIf cIf
  rw [PR.bb]
  exact t.h _ _ _ sm _ _ _ (ta.h _ _ _ sm _ _ _ ho hb) (tb.h _ _ _ sm _ _ _ ho hb)⟩
def cIsN (neg : Bool) (ca : CPt) : CPt := fun ρ e ko kb => (fun k => ca ρ e k k) fun d => dsel d (fun x => ko (.g (.bool (if neg then !isN (.g x) else isN (.g x))))) (ko (.g (.bool neg))) .bad
instance twIsN (neg : Bool) (f : PF) (ca : CPt) [t : TwP N pr px f ca] : TwP N pr px (pIsN neg f) (cIsN neg ca) := ⟨fun ρ e env sm ko kb k' ho hb => by
  unfold pIsN cIsN
  rw [PR.bb]
  refine t.hh sm fun p => ?_
  cases e : p.d with
  | g x => exact ho _
  | hole => exact .inl rfl
  | _ => cases neg <;> exact ho _⟩
/-! ### arguments -/
def cNil : CLt := fun ρ e k => k []
instance twNil : TwL N pr px pNil cNil := ⟨fun ρ e env sm k k' h => h _⟩
def cCons (c : CPt) (cl : CLt) : CLt := fun ρ e k => (fun k => c ρ e k k) fun d => cl ρ e fun ds => k (d :: ds)
instance twCons (f : PF) (g : PL) (c : CPt) (cl : CLt) [t : TwP N pr px f c] [tl : TwL N pr px g cl] : TwL N pr px (pCons f g) (cCons c cl) := ⟨fun ρ e env sm k k' h => by
  unfold pCons cCons
  rw [PR.bb]
  refine t.hh sm fun p => ?_
  rw [PR.bb]
  exact tl.h _ _ _ sm _ _ fun ds => h _⟩
def cConsO (c : CPt) (cl : CLt) : CLt := fun ρ e k => c ρ e (fun d => cl ρ e fun ds => k (d :: ds)) (fun _ => .bad)
instance twConsO (f : PF) (g : PL) (c : CPt) (cl : CLt) [t : TwP N pr px f c] [tl : TwL N pr px g cl] : TwL N pr px (pConsO f g) (cConsO c cl) := ⟨fun ρ e env sm k k' h => by
  unfold pConsO cConsO
  rw [PR.bb]
  refine t.h _ _ _ sm _ _ _ (fun d => ?_) fun d => .inl rfl
  show PR.le _ (((PR.ok d).bind _).bind _)
  rw [PR.bind_ok, PR.bb]
  exact tl.h _ _ _ sm _ _ fun ds => h _⟩
def mkTupK {α : Type} (ds : List D) (k : D → α) : α := gAllK ds (fun xs => k (.g (.tuple xs))) (k (.tp ds))
theorem mkTupK_eq {α : Type} (ds : List D) (k : D → α) : mkTupK ds k = k (mkTup ds) := by
  unfold mkTupK mkTup
  rw [gAllK_eq]
  cases gAll ds <;> rfl
def cTup (cl : CLt) : CPt := fun ρ e ko kb => cl ρ e fun ds => lenOk ds (mkTupK ds ko) .bad
instance twTup (f : PL) (cl : CLt) [t : TwL N pr px f cl] : TwP N pr px (pTup f) (cTup cl) := ⟨fun ρ e env sm ko kb k' ho hb => by
  unfold pTup cTup
  rw [PR.bb]
  refine t.h _ _ _ sm _ _ fun ds => ?_
  rw [lenOk_eq, mkTupK_eq]
  split
  · exact ho _
  · exact .inl rfl⟩
def cLst (cl : CLt) : CPt := fun ρ e ko kb => cl ρ e fun ds => lenOk ds (ko (.lst ds)) .bad
instance twLst (f : PL) (cl : CLt) [t : TwL N pr px f cl] : TwP N pr px (pLst f) (cLst cl) := ⟨fun ρ e env sm ko kb k' ho hb => by
  unfold pLst cLst
  rw [PR.bb]
  refine t.h _ _ _ sm _ _ fun ds => ?_
  rw [lenOk_eq]
  split
  · exact ho _
  · exact .inl rfl⟩
def cDic0 : CPt := fun ρ e ko kb => ko (.dic [] [])
instance twDic0 : TwP N pr px pDic0 cDic0 := ⟨fun ρ e env sm ko kb k' ho hb => ho _⟩
def cDicT : CPt := fun ρ e ko kb => ko (.dct [] [])
instance twDicT : TwP N pr px pDicT cDicT := ⟨fun ρ e env sm ko kb k' ho hb => ho _⟩
def cCall (cn : CNt) (cl : CLt) : CPt := fun ρ e ko kb => cl ρ e fun ds => cn ρ ds ko
instance twCall (F : List D → Option D) (f : PL) (cn : CNt) (cl : CLt) [tn : TwN F cn] [t : TwL N pr px f cl] : TwP N pr px (pCall F f) (cCall cn cl) := ⟨fun ρ e env sm ko kb k' ho hb => by
  unfold pCall cCall
  rw [PR.bb]
  refine t.h _ _ _ sm _ _ fun ds => ?_
  rw [PR.bb]
  exact tn.h _ _ _ _ fun d => ho d⟩
/-! ### places, slices -/
class TwIx (c : outParam ((ρ : Type) → D → D → (D → PR ρ) → (D → PR ρ) → PR ρ)) : Prop where
  h : ∀ (ρ : Type) (a b : D) (ko kb : D → PR ρ) (k' : Pv → PR ρ), (∀ d, PR.le (ko d) (k' (.own d))) → (∀ d, PR.le (kb d) (k' (.bor d))) → PR.le (c ρ a b ko kb) ((PR.of (ixD a b)).bind k')
def pvK {ρ : Type} (p : Pv) (ko kb : D → PR ρ) : PR ρ := Pv.rec (motive := fun _ => PR ρ) ko kb p
def cIx (cx : (ρ : Type) → D → D → (D → PR ρ) → (D → PR ρ) → PR ρ) (ca cb : CPt) : CPt := fun ρ e ko kb => (fun k => ca ρ e k k) fun a => (fun k => cb ρ e k k) fun b => cx ρ a b ko kb
instance twIx (fa fb : PF) (cx) (ca cb : CPt) [tx : TwIx cx] [ta : TwP N pr px fa ca] [tb : TwP N pr px fb cb] : TwP N pr px (pIx fa fb) (cIx cx ca cb) := ⟨fun ρ e env sm ko kb k' ho hb => by
  unfold pIx cIx
  rw [PR.bb]
  refine ta.hh sm fun a => ?_
  rw [PR.bb]
  exact tb.hh sm fun b => tx.h _ _ _ _ _ _ ho hb⟩
def cNoPart : COt := fun ρ e k => k none
instance twNoPart : TwO N pr px pNoPart cNoPart := ⟨fun ρ e env sm k k' h => h _⟩
def cPart (c : CPt) : COt := fun ρ e k => c ρ e (fun d => dsel d (fun x => pint x (fun i => k (some i)) .bad) .bad .bad) (fun _ => .bad)
instance twPart (f : PF) (c : CPt) [t : TwP N pr px f c] : TwO N pr px (pPart f) (cPart c) := ⟨fun ρ e env sm k k' h => by
  unfold pPart cPart
  rw [PR.bb]
  refine t.h _ _ _ sm _ _ _ (fun d => ?_) fun d => .inl rfl
  cases d with
  | g x =>
    cases x with
    | int i => exact h _
    | _ => exact .inl rfl
  | _ => exact .inl rfl⟩
def cSl (c : CPt) (cl ch : COt) : CPt := fun ρ e ko kb => c ρ e (fun d => cl ρ e fun l => ch ρ e fun h => osel (slD (.own d) l h) .bad ko) (fun d => cl ρ e fun l => ch ρ e fun h => osel (slD (.bor d) l h) .bad ko)
theorem osel_le {ρ : Type} {o : Option D} {k k' : D → PR ρ} (h : ∀ d, PR.le (k d) (k' d)) : PR.le (osel o .bad k) ((PR.of o).bind k') := by
  cases o with
  | none => exact .inl rfl
  | some d => exact h d
instance twSl (f : PF) (lo hi : PO') (c : CPt) (cl ch : COt) [t : TwP N pr px f c] [tl : TwO N pr px lo cl] [th : TwO N pr px hi ch] : TwP N pr px (pSl f lo hi) (cSl c cl ch) := ⟨fun ρ e env sm ko kb k' ho hb => by
  unfold pSl cSl
  rw [PR.bb]
  refine t.h _ _ _ sm _ _ _ (fun d => ?_) fun d => ?_
  all_goals
    rw [PR.bb]
    refine tl.h _ _ _ sm _ _ fun l => ?_
    rw [PR.bb]
    refine th.h _ _ _ sm _ _ fun h => ?_
    rw [PR.bb]
    exact osel_le fun d => ho d⟩
/-! ### calls of defs -/
class TwD (f : List D → PR D) (c : outParam (List D → PR D)) : Prop where
  h : ∀ ds, PR.le (c ds) (f ds)
def lenEq {α : Type} (ds : List D) (n : Nat) (t f : α) : α := bsel (Nat.beq (lenR ds) n) t f
theorem beq_dec (a b : Nat) : Nat.beq a b = decide (a = b) := by
  by_cases h : a = b
  · subst h; simp
  · rw [decide_eq_false h]
    cases e : Nat.beq a b with
    | false => rfl
    | true => exact absurd (Nat.eq_of_beq_eq_true e) h
theorem lenEq_eq {α : Type} (ds : List D) (n : Nat) (t f : α) : lenEq ds n t f = if ds.length = n then t else f := by
  unfold lenEq
  rw [beq_dec, bsel_dec, lenR_eq]
def cFun (n : Nat) (cd : List D → PR D) (cl : CLt) : CPt := fun ρ e ko kb => cl ρ e fun ds => lenEq ds n ((cd ds).run ko) .bad
instance twFun (n : Nat) (G : List D → PR D) (f : PL) (cd : List D → PR D) (cl : CLt) [td : TwD G cd] [t : TwL N pr px f cl] : TwP N pr px (pFun n G f) (cFun n cd cl) := ⟨fun ρ e env sm ko kb k' ho hb => by
  unfold pFun cFun
  rw [PR.bb]
  refine t.h _ _ _ sm _ _ fun ds => ?_
  rw [lenEq_eq]
  split
  · rw [PR.bb]
    exact PR.le_run (td.h ds) fun d => ho d
  · exact .inl rfl⟩
/-! ### get, index -/
def cGet2 (cc ck cz : CPt) : CPt := fun ρ e ko kb => (fun k => cc ρ e k k) fun c => bsel (isD c) ((fun k => ck ρ e k k) fun k => cz ρ e (fun z => osel (getDF c k (.own z)) .bad fun p => pvK p ko kb) (fun z => osel (getDF c k (.bor z)) .bad fun p => pvK p ko kb)) .bad
theorem oselP_le {ρ : Type} {o : Option Pv} {ko kb : D → PR ρ} {k' : Pv → PR ρ} (ho : ∀ d, PR.le (ko d) (k' (.own d))) (hb : ∀ d, PR.le (kb d) (k' (.bor d))) : PR.le (osel o .bad fun p => pvK p ko kb) ((PR.of o).bind k') := by
  cases o with
  | none => exact .inl rfl
  | some d => cases d <;> first | exact ho _ | exact hb _
instance twGet2 (fc fk fz : PF) (cc ck cz : CPt) [tc : TwP N pr px fc cc] [tk : TwP N pr px fk ck] [tz : TwP N pr px fz cz] : TwP N pr px (pGet2 fc fk fz) (cGet2 cc ck cz) := ⟨fun ρ e env sm ko kb k' ho hb => by
  unfold pGet2 cGet2
  rw [PR.bb]
  refine tc.hh sm fun c => ?_
  rw [bsel_eq]
  split
  · rw [PR.bb]
    refine tk.hh sm fun k => ?_
    rw [PR.bb]
    exact tz.h _ _ _ sm _ _ _ (fun z => oselP_le ho hb) fun z => oselP_le ho hb
  · exact .inl rfl⟩
def cIx0 (ρ : Type) (a b : D) (ko kb : D → PR ρ) : PR ρ := osel (ixD a b) .bad fun p => pvK p ko kb
def idxK {α : Type} (o : Option Nat) (k : D → α) (no : α) : α := osel o no fun j => k (.g (.int j))
def cIdxT (c : CPt) (cl : CLt) : CPt := fun ρ e ko kb => (fun k => c ρ e k k) fun d => osel (ftOf d) .bad fun xs => cl ρ e fun ds => lsel ds .bad fun d r => lsel r (osel (toPD d) .bad fun x => bsel (SeqAt.shaped (.tuple xs) && SeqAt.shaped x) (idxK (idxD xs x 0) ko .bad) .bad) fun _ _ => .bad
instance twIdxT (f : PF) (g : PL) (c : CPt) (cl : CLt) [t : TwP N pr px f c] [tl : TwL N pr px g cl] : TwP N pr px (pIdxT f g) (cIdxT c cl) := ⟨fun ρ e env sm ko kb k' ho hb => by
  unfold pIdxT cIdxT
  rw [PR.bb]
  refine t.hh sm fun p => ?_
  rw [PR.bb]
  cases ftOf p.d with
  | none => exact .inl rfl
  | some xs =>
    show PR.le _ (PR.bind ((g env).bind _) k')
    rw [PR.bb]
    refine tl.h _ _ _ sm _ _ fun ds => ?_
    match ds with
    | [] => exact .inl rfl
    | [d] =>
      dsimp only [lsel]
      rw [PR.bb]
      cases toPD d with
      | none => exact .inl rfl
      | some x =>
        show PR.le (bsel _ _ _) (PR.bind (if _ then _ else _) k')
        rw [bsel_eq]
        simp only [Bool.and_eq_true]
        split
        · rw [PR.bb]
          cases idxD xs x 0 with
          | none => exact .inl rfl
          | some j => exact ho _
        · exact .inl rfl
    | _ :: _ :: _ => exact .inl rfl⟩
end
end Ow

set_option Elab.async false
set_option linter.all false
set_option maxRecDepth 100000
set_option maxHeartbeats 1000000
/-! OwYc: quick twins of what writes: expressions, statements, comprehensions, defs. -/
namespace Ow
open PySem PySem.Spec PyProof.Rows L2
noncomputable section
variable {N pr : Nat} {px : D}
def IR.elim {α ρ : Type} (r : IR α) (k : α → List D → PR ρ) : PR ρ := match r with
  | .ok a e => k a e
  | .err x => .err x
  | .bad => .bad
theorem IR.eb {α β ρ : Type} (r : IR α) (f : α → List D → IR β) (k : β → List D → PR ρ) : (r.bind f).elim k = r.elim fun a e => (f a e).elim k := by cases r <;> rfl
theorem IR.eP {α ρ : Type} (r : PR α) (env : List D) (k : α → List D → PR ρ) : (IR.ofP r env).elim k = r.bind fun a => k a env := by cases r <;> rfl
def SR.elim {ρ : Type} (r : SR) (nx : List D → PR ρ) (rt : D → List D → PR ρ) (bk ct : List D → PR ρ) : PR ρ := match r with
  | .nx e => nx e
  | .rt d e => rt d e
  | .bk e => bk e
  | .ct e => ct e
  | .err x => .err x
  | .bad => .bad
theorem IR.eS {α ρ : Type} (r : IR α) (f : α → List D → SR) (nx : List D → PR ρ) (rt : D → List D → PR ρ) (bk ct : List D → PR ρ) : (r.toS f).elim nx rt bk ct = r.elim fun a e => (f a e).elim nx rt bk ct := by cases r <;> rfl
abbrev CIt := (ρ : Type) → T → (D → T → PR ρ) → PR ρ
class TwI (N pr : Nat) (px : D) (f : IF) (c : outParam CIt) : Prop where
  h : ∀ (ρ : Type) (e : T) (env : List D) (sm : Sim N pr px e env) (k : D → T → PR ρ) (k' : D → List D → PR ρ), (∀ d e env, Sim N pr px e env → PR.le (k d e) (k' d env)) → PR.le (c ρ e k) ((f env).elim k')
abbrev CIBt := (ρ : Type) → T → (T → PR ρ) → (T → PR ρ) → PR ρ
class TwIB (N pr : Nat) (px : D) (f : IB) (c : outParam CIBt) : Prop where
  h : ∀ (ρ : Type) (e : T) (env : List D) (sm : Sim N pr px e env) (kt kf : T → PR ρ) (k' : Bool → List D → PR ρ), (∀ e env, Sim N pr px e env → PR.le (kt e) (k' true env)) → (∀ e env, Sim N pr px e env → PR.le (kf e) (k' false env)) → PR.le (c ρ e kt kf) ((f env).elim k')
abbrev CILt := (ρ : Type) → T → (List D → T → PR ρ) → PR ρ
class TwIL (N pr : Nat) (px : D) (f : IL) (c : outParam CILt) : Prop where
  h : ∀ (ρ : Type) (e : T) (env : List D) (sm : Sim N pr px e env) (k : List D → T → PR ρ) (k' : List D → List D → PR ρ), (∀ d e env, Sim N pr px e env → PR.le (k d e) (k' d env)) → PR.le (c ρ e k) ((f env).elim k')
/-! ### expressions -/
def ciP (c : CPt) : CIt := fun ρ e k => c ρ e (fun d => k d e) (fun _ => .bad)
instance twiP (f : PF) (c : CPt) [t : TwP N pr px f c] : TwI N pr px (iP f) (ciP c) := ⟨fun ρ e env sm k k' h => by
  unfold iP ciP
  rw [IR.eb, IR.eP]
  exact t.h _ _ _ sm _ _ _ (fun d => h d e _ sm) fun d => .inl rfl⟩
def ciMove (g : T → D) (s : CSet) : CIt := fun ρ e k => dsel (g e) (fun x => k (.g x) e) (s ρ .hole e fun e' => k (g e) e') .bad
instance twiMove (i : Nat) (g : T → D) (s : CSet) [LtC i N] [TwG i g] [TwS' i s] [ne : NeC i pr] : TwI N pr px (iMove i) (ciMove g s) := ⟨fun ρ e env sm k k' h => by
  unfold iMove ciMove
  rcases sm.get (i := i) (g := g) with z | z
  · rw [z]; exact .inl rfl
  rw [z]
  obtain ⟨e', h1, h2⟩ := sm.set (i := i) (s := s) .hole (.inr ne.h)
  rw [h1]
  cases g e with
  | g x => exact h _ _ _ sm
  | hole => exact .inl rfl
  | _ => exact h _ _ _ h2⟩
def ciBin (cF : CFt) (ca cb : CIt) : CIt := fun ρ e k => ca ρ e fun a e => cb ρ e fun b e => cF ρ a b fun d => k d e
instance twiBin (F : D → D → Option D) (fa fb : IF) (cF : CFt) (ca cb : CIt) [tF : TwF F cF] [ta : TwI N pr px fa ca] [tb : TwI N pr px fb cb] : TwI N pr px (iBin F fa fb) (ciBin cF ca cb) := ⟨fun ρ e env sm k k' h => by
  unfold iBin ciBin
  rw [IR.eb]
  refine ta.h _ _ _ sm _ _ fun a e env sm => ?_
  rw [IR.eb]
  refine tb.h _ _ _ sm _ _ fun b e env sm => ?_
  rw [IR.eP]
  exact tF.h _ _ _ _ _ fun d => h d e _ sm⟩
def ciPB (c : CBt) : CIBt := fun ρ e kt kf => c ρ e (kt e) (kf e)
instance twiPB (f : PB) (c : CBt) [t : TwB N pr px f c] : TwIB N pr px (iPB f) (ciPB c) := ⟨fun ρ e env sm kt kf k' ht hf => by
  unfold iPB ciPB
  rw [IR.eP]
  exact t.h _ _ _ sm _ _ _ (ht e _ sm) (hf e _ sm)⟩
def ciTst (c : CIt) : CIBt := fun ρ e kt kf => c ρ e fun d e => dsel d (fun x => pbool x (fun b => bsel b (kt e) (kf e)) .bad) .bad .bad
instance twiTst (f : IF) (c : CIt) [t : TwI N pr px f c] : TwIB N pr px (iTst f) (ciTst c) := ⟨fun ρ e env sm kt kf k' ht hf => by
  unfold iTst ciTst
  rw [IR.eb]
  refine t.h _ _ _ sm _ _ fun d e env sm => ?_
  cases d with
  | g x =>
    cases x with
    | bool b => cases b <;> first | exact ht e _ sm | exact hf e _ sm
    | _ => exact .inl rfl
  | _ => exact .inl rfl⟩
def ciNot (c : CIBt) : CIBt := fun ρ e kt kf => c ρ e kf kt
instance twiNot (f : IB) (c : CIBt) [t : TwIB N pr px f c] : TwIB N pr px (iNot f) (ciNot c) := ⟨fun ρ e env sm kt kf k' ht hf => by
  unfold iNot ciNot
  rw [IR.eb]
  exact t.h _ _ _ sm _ _ _ hf ht⟩
def ciAnd (c c' : CIBt) : CIBt := fun ρ e kt kf => c ρ e (fun e => c' ρ e kt kf) kf
instance twiAnd (f g : IB) (c c' : CIBt) [t : TwIB N pr px f c] [t' : TwIB N pr px g c'] : TwIB N pr px (iAnd f g) (ciAnd c c') := ⟨fun ρ e env sm kt kf k' ht hf => by
  unfold iAnd ciAnd
  rw [IR.eb]
  exact t.h _ _ _ sm _ _ _ (fun e env sm => t'.h _ _ _ sm _ _ _ ht hf) hf⟩
def ciOr (c c' : CIBt) : CIBt := fun ρ e kt kf => c ρ e kt (fun e => c' ρ e kt kf)
instance twiOr (f g : IB) (c c' : CIBt) [t : TwIB N pr px f c] [t' : TwIB N pr px g c'] : TwIB N pr px (iOr f g) (ciOr c c') := ⟨fun ρ e env sm kt kf k' ht hf => by
  unfold iOr ciOr
  rw [IR.eb]
  exact t.h _ _ _ sm _ _ _ ht (fun e env sm => t'.h _ _ _ sm _ _ _ ht hf)⟩
def ciIf (c : CIBt) (ca cb : CIt) : CIt := fun ρ e k => c ρ e (fun e => ca ρ e k) (fun e => cb ρ e k)
instance twiIf (b : IB) (f g : IF) (c : CIBt) (ca cb : CIt) [t : TwIB N pr px b c] [ta : TwI N pr px f ca] [tb : TwI N pr px g cb] : TwI N pr px (iIf b f g) (ciIf c ca cb) := ⟨fun ρ e env sm k k' h => by
  unfold iIf ciIf
  rw [IR.eb]
  exact t.h _ _ _ sm _ _ _ (fun e env sm => ta.h _ _ _ sm _ _ h) fun e env sm => tb.h _ _ _ sm _ _ h⟩
def ciNil : CILt := fun ρ e k => k [] e
instance twiNil : TwIL N pr px iNil ciNil := ⟨fun ρ e env sm k k' h => h _ _ _ sm⟩
def ciCons (c : CIt) (cl : CILt) : CILt := fun ρ e k => c ρ e fun d e => cl ρ e fun ds e => k (d :: ds) e
instance twiCons (f : IF) (g : IL) (c : CIt) (cl : CILt) [t : TwI N pr px f c] [tl : TwIL N pr px g cl] : TwIL N pr px (iCons f g) (ciCons c cl) := ⟨fun ρ e env sm k k' h => by
  unfold iCons ciCons
  rw [IR.eb]
  refine t.h _ _ _ sm _ _ fun d e env sm => ?_
  rw [IR.eb]
  exact tl.h _ _ _ sm _ _ fun ds e env sm => h _ e _ sm⟩
def ciTup (cl : CILt) : CIt := fun ρ e k => cl ρ e fun ds e => lenOk ds (mkTupK ds fun d => k d e) .bad
instance twiTup (f : IL) (cl : CILt) [t : TwIL N pr px f cl] : TwI N pr px (iTup f) (ciTup cl) := ⟨fun ρ e env sm k k' h => by
  unfold iTup ciTup
  rw [IR.eb]
  refine t.h _ _ _ sm _ _ fun ds e env sm => ?_
  rw [lenOk_eq, mkTupK_eq]
  split
  · exact h _ _ _ sm
  · exact .inl rfl⟩
def ciLst (cl : CILt) : CIt := fun ρ e k => cl ρ e fun ds e => lenOk ds (k (.lst ds) e) .bad
instance twiLst (f : IL) (cl : CILt) [t : TwIL N pr px f cl] : TwI N pr px (iLst f) (ciLst cl) := ⟨fun ρ e env sm k k' h => by
  unfold iLst ciLst
  rw [IR.eb]
  refine t.h _ _ _ sm _ _ fun ds e env sm => ?_
  rw [lenOk_eq]
  split
  · exact h _ _ _ sm
  · exact .inl rfl⟩
def ciCall (cn : CNt) (cl : CILt) : CIt := fun ρ e k => cl ρ e fun ds e => cn ρ ds fun d => k d e
instance twiCall (F : List D → Option D) (f : IL) (cn : CNt) (cl : CILt) [tn : TwN F cn] [t : TwIL N pr px f cl] : TwI N pr px (iCall F f) (ciCall cn cl) := ⟨fun ρ e env sm k k' h => by
  unfold iCall ciCall
  rw [IR.eb]
  refine t.h _ _ _ sm _ _ fun ds e env sm => ?_
  rw [IR.eP]
  exact tn.h _ _ _ _ fun d => h d e _ sm⟩
def ciFun (n : Nat) (cd : List D → PR D) (cl : CILt) : CIt := fun ρ e k => cl ρ e fun ds e => lenEq ds n ((cd ds).run fun d => k d e) .bad
instance twiFun (n : Nat) (G : List D → PR D) (f : IL) (cd : List D → PR D) (cl : CILt) [td : TwD G cd] [t : TwIL N pr px f cl] : TwI N pr px (iFun n G f) (ciFun n cd cl) := ⟨fun ρ e env sm k k' h => by
  unfold iFun ciFun
  rw [IR.eb]
  refine t.h _ _ _ sm _ _ fun ds e env sm => ?_
  rw [lenEq_eq]
  split
  · rw [IR.eP]
    exact PR.le_run (td.h ds) fun d => h d e _ sm
  · exact .inl rfl⟩
/-! ### places; methods of lists -/
abbrev CPPt := (ρ : Type) → T → (List Nat → PR ρ) → PR ρ
class TwPP (N pr : Nat) (px : D) (f : PPf) (c : outParam CPPt) : Prop where
  h : ∀ (ρ : Type) (e : T) (env : List D) (sm : Sim N pr px e env) (k : List Nat → PR ρ) (k' : List Nat → PR ρ), (∀ d, PR.le (k d) (k' d)) → PR.le (c ρ e k) ((f env).bind k')
def cRootP (g : T → D) : CPPt := fun ρ e k => dlst (g e) (fun _ => k []) .bad
instance twRootP (r : Nat) (g : T → D) [LtC r N] [TwG r g] : TwPP N pr px (rootP r) (cRootP g) := ⟨fun ρ e env sm k k' h => by
  unfold rootP cRootP
  rcases sm.get (i := r) (g := g) with z | z
  · rw [z]; exact .inl rfl
  rw [z]
  cases g e with
  | lst ds => exact h _
  | _ => exact .inl rfl⟩
/-- the list at a place -/
def subK {α : Type} (p : List Nat) (d : D) (k : List D → α) (no : α) : α := List.rec (motive := fun _ => D → α) (fun d => dlst d k no) (fun i _ ih d => dlst d (fun ds => nthR ds i ih no) no) p d
theorem subK_eq {α : Type} (p : List Nat) (d : D) (k : List D → α) (no : α) : subK p d k no = match sub p d with | some (.lst ds) => k ds | _ => no := by
  induction p generalizing d with
  | nil => cases d <;> rfl
  | cons i p ih =>
    cases d with
    | lst ds =>
      show nthR ds i (fun d => subK p d k no) no = _
      rw [nthR_eq]
      simp only [sub]
      cases ds[i]? with
      | none => rfl
      | some d => exact ih d
    | _ => rfl
theorem subK_hole {α : Type} (p : List Nat) (k : List D → α) (no : α) : subK p .hole k no = no := by cases p <;> rfl
def setR {α : Type} (l : List α) (i : Nat) (v : α) : List α := List.rec (motive := fun _ => Nat → List α) (fun _ => []) (fun x t ih i => Nat.rec (motive := fun _ => List α) (v :: t) (fun m _ => x :: ih m) i) l i
theorem setR_eq {α : Type} (l : List α) (i : Nat) (v : α) : setR l i v = l.set i v := by
  induction l generalizing i with
  | nil => rfl
  | cons x l ih =>
    cases i with
    | zero => rfl
    | succ i => show x :: setR l i v = _; rw [ih]; rfl
def modR {α : Type} (l : List α) (i : Nat) (f : α → α) : List α := List.rec (motive := fun _ => Nat → List α) (fun _ => []) (fun x t ih i => Nat.rec (motive := fun _ => List α) (f x :: t) (fun m _ => x :: ih m) i) l i
theorem modR_eq {α : Type} (l : List α) (i : Nat) (f : α → α) : modR l i f = match l[i]? with | some x => l.set i (f x) | none => l := by
  induction l generalizing i with
  | nil => rfl
  | cons x l ih =>
    cases i with
    | zero => rfl
    | succ i =>
      show x :: modR l i f = _
      rw [ih]
      simp only [List.getElem?_cons_succ]
      cases l[i]? <;> rfl
def putR (p : List Nat) (d' d : D) : D := List.rec (motive := fun _ => D → D) (fun _ => d') (fun i _ ih d => dlst d (fun ds => .lst (modR ds i ih)) d) p d
theorem putR_eq (p : List Nat) (d' d : D) : putR p d' d = putAt p d' d := by
  induction p generalizing d with
  | nil => cases d <;> rfl
  | cons i p ih =>
    cases d with
    | lst ds =>
      show D.lst (modR ds i (fun d => putR p d' d)) = _
      rw [modR_eq]
      simp only [putAt]
      cases e : ds[i]? with
      | none => rfl
      | some d => simp only [ih]
    | _ => rfl
theorem putR_ne {p : List Nat} {l : List D} {d : D} (h : d ≠ .hole) : putR p (.lst l) d ≠ .hole := by
  cases p with
  | nil => intro z; cases (show D.lst l = .hole from z)
  | cons i p =>
    cases d with
    | lst ds => intro z; cases (show D.lst _ = D.hole from z)
    | _ => exact h
theorem atPath_eq {r : Nat} {env : List D} {d : D} (h : env[r]? = some d) (p : List Nat) {α : Type} (k : List D → α) (no : α) : subK p d k no = match atPath r p env with | some ds => k ds | none => no := by
  unfold atPath
  rw [h, subK_eq]
  dsimp only
  cases sub p d with
  | none => rfl
  | some d' => cases d' <;> rfl
/-- a place in a list of n, by an int -/
def ixK {α : Type} (n : Nat) (i : Int) (k : Nat → α) (no : α) : α := Int.rec (motive := fun _ => α) (fun m => bsel (Nat.ble (Nat.succ m) n) (k m) no) (fun m => bsel (Nat.ble (Nat.succ m) n) (k (Nat.sub n (Nat.succ m))) no) i
theorem ixK_eq {α : Type} (n : Nat) (i : Int) (k : Nat → α) (no : α) : ixK n i k no = match ixN n i with | some j => k j | none => no := by
  unfold ixK ixN
  cases i with
  | ofNat m =>
    dsimp only
    rw [ble_eq, bsel_dec, if_pos (show (0 : Int) ≤ Int.ofNat m from Int.natCast_nonneg m)]
    by_cases h : m < n
    · rw [if_pos (show m.succ ≤ n from h), if_pos (show Int.ofNat m < (n : Int) from Int.ofNat_lt.mpr h)]; rfl
    · rw [if_neg (show ¬ m.succ ≤ n from h), if_neg (show ¬ Int.ofNat m < (n : Int) from fun z => h (Int.ofNat_lt.mp z))]
  | negSucc m =>
    dsimp only
    rw [ble_eq, bsel_dec, if_neg (show ¬ (0 : Int) ≤ Int.negSucc m by omega)]
    by_cases h : m + 1 ≤ n
    · rw [if_pos (show m.succ ≤ n from h), if_pos (show -(n : Int) ≤ Int.negSucc m by omega)]
      have : (Int.negSucc m + (n : Int)).toNat = n - (m + 1) := by omega
      dsimp only
      rw [this]; rfl
    · rw [if_neg (show ¬ m.succ ≤ n from h), if_neg (show ¬ -(n : Int) ≤ Int.negSucc m by omega)]
def cIdxP (co : CPPt) (g : T → D) (ci : CPt) : CPPt := fun ρ e k => co ρ e fun p => (fun k => ci ρ e k k) fun kd => dsel kd (fun x => pint x (fun i => subK p (g e) (fun ds => ixK (lenR ds) i (fun j => k (appR p [j])) .bad) .bad) .bad) .bad .bad
instance twIdxP (fo : PPf) (r : Nat) (fi : PF) (co : CPPt) (g : T → D) (ci : CPt) [to : TwPP N pr px fo co] [LtC r N] [TwG r g] [ti : TwP N pr px fi ci] : TwPP N pr px (idxP fo r fi) (cIdxP co g ci) := ⟨fun ρ e env sm k k' h => by
  unfold idxP cIdxP
  rw [PR.bb]
  refine to.h _ _ _ sm _ _ fun p => ?_
  rw [PR.bb]
  refine ti.hh sm fun q => ?_
  rw [PR.bb]
  cases q.d with
  | g x =>
    cases x with
    | int i =>
      show PR.le (subK p (g e) (fun ds => ixK (lenR ds) i (fun j => k (appR p [j])) .bad) .bad) (PR.bind (PR.bind _ _) k')
      rcases sm.get (i := r) (g := g) with z | z
      · rw [z, subK_hole]; exact .inl rfl
      rw [atPath_eq z, PR.bb]
      cases atPath r p env with
      | none => exact .inl rfl
      | some ds =>
        dsimp only
        rw [ixK_eq, lenR_eq]
        show PR.le _ (PR.bind (PR.of (ixN ds.length i)) _)
        cases ixN ds.length i with
        | none => exact .inl rfl
        | some j => dsimp only; rw [appR_eq]; exact h _
    | _ => exact .inl rfl
  | _ => exact .inl rfl⟩
class TwM (G : List D → List D → Option (D × List D)) (c : outParam ((ρ : Type) → List D → List D → (D → List D → PR ρ) → PR ρ)) : Prop where
  h : ∀ (ρ : Type) (ds as : List D) (k : D → List D → PR ρ) (k' : D × List D → PR ρ), (∀ d l, PR.le (k d l) (k' (d, l))) → PR.le (c ρ ds as k) ((PR.of (G ds as)).bind k')
def cM0 (G : List D → List D → Option (D × List D)) (ρ : Type) (ds as : List D) (k : D → List D → PR ρ) : PR ρ := osel (G ds as) .bad fun r => k r.1 r.2
theorem twM0 (G : List D → List D → Option (D × List D)) : TwM G (cM0 G) := ⟨fun ρ ds as k k' h => by
  unfold cM0
  cases G ds as with
  | none => exact .inl rfl
  | some r => exact h r.1 r.2⟩
instance twgExt : TwM gExt (cM0 gExt) := twM0 gExt
instance twgPop : TwM gPop (cM0 gPop) := twM0 gPop
instance twgPopAt : TwM gPopAt (cM0 gPopAt) := twM0 gPopAt
def cgApp (ρ : Type) (ds as : List D) (k : D → List D → PR ρ) : PR ρ := lsel as .bad fun d r => lsel r (bsel (Nat.ble (Nat.succ (lenR ds)) 16777216) (k (.g .none) (appR ds [d])) .bad) fun _ _ => .bad
instance twgApp : TwM gApp cgApp := ⟨fun ρ ds as k k' h => by
  unfold gApp cgApp
  match as with
  | [] => exact .inl rfl
  | [d] =>
    dsimp only [lsel]
    rw [ble_eq, bsel_dec, lenR_eq, appR_eq]
    by_cases hz : ds.length < 16777216
    · rw [if_pos hz, if_pos (show ds.length.succ ≤ 16777216 from hz)]; exact h _ _
    · rw [if_neg hz, if_neg (show ¬ ds.length.succ ≤ 16777216 from hz)]; exact .inl rfl
  | _ :: _ :: _ => exact .inl rfl⟩
theorem wr_nil {r : Nat} {env : List D} (ds : List D) : wr r [] ds env = env.set r (.lst ds) := by
  unfold wr
  congr 1
theorem getD_of {r : Nat} {env : List D} {d : D} (h : env[r]? = some d) : env.getD r .hole = d := by
  rw [List.getD_eq_getElem?_getD, h]; rfl
def ciMeth (g : T → D) (s : CSet) (cM : (ρ : Type) → List D → List D → (D → List D → PR ρ) → PR ρ) (cl : CILt) : CIt := fun ρ e k => dlst (g e) (fun _ => cl ρ e fun as e => dlst (g e) (fun ds => cM ρ ds as fun d l => s ρ (.lst l) e fun e => k d e) .bad) .bad
instance twiMeth (r : Nat) (G : List D → List D → Option (D × List D)) (f : IL) (g : T → D) (s : CSet) (cM) (cl : CILt) [LtC r N] [TwG r g] [TwS' r s] [tm : TwM G cM] [tl : TwIL N pr px f cl] : TwI N pr px (iMeth r G f) (ciMeth g s cM cl) := ⟨fun ρ e env sm k k' h => by
  unfold iMeth ciMeth
  rw [IR.eb, IR.eP]
  unfold rootP
  rcases sm.get (i := r) (g := g) with z | z
  · rw [z]; exact .inl rfl
  rw [z]
  cases e0 : g e with
  | lst _ =>
    show PR.le (cl ρ e _) (IR.elim (IR.bind _ _) k')
    rw [IR.eb]
    refine tl.h _ _ _ sm _ _ fun as e env sm => ?_
    rw [IR.eb, IR.eP]
    unfold atPath
    rcases sm.get (i := r) (g := g) with z | z
    · rw [z]; exact .inl rfl
    rw [z]
    cases e1 : g e with
    | lst ds =>
      show PR.le (cM ρ ds as _) (IR.elim (IR.bind _ _) k')
      rw [IR.eb, IR.eP]
      refine tm.h _ _ _ _ _ fun d l => ?_
      obtain ⟨e', h1, h2⟩ := sm.set (i := r) (s := s) (.lst l) (.inl (by simp))
      rw [h1]
      show PR.le _ (k' d (wr r [] l env))
      rw [wr_nil]
      exact h _ _ _ h2
    | _ => exact .inl rfl
  | _ => exact .inl rfl⟩
def ciMethP (g : T → D) (s : CSet) (cM : (ρ : Type) → List D → List D → (D → List D → PR ρ) → PR ρ) (cp : CPPt) (cl : CLt) : CIt := fun ρ e k => cp ρ e fun p => subK p (g e) (fun ds => cl ρ e fun as => cM ρ ds as fun d l => s ρ (putR p (.lst l) (g e)) e fun e => k d e) .bad
instance twiMethP (r : Nat) (G : List D → List D → Option (D × List D)) (fp : PPf) (f : PL) (g : T → D) (s : CSet) (cM) (cp : CPPt) (cl : CLt) [LtC r N] [TwG r g] [TwS' r s] [tm : TwM G cM] [tp : TwPP N pr px fp cp] [tl : TwL N pr px f cl] : TwI N pr px (iMethP r G fp f) (ciMethP g s cM cp cl) := ⟨fun ρ e env sm k k' h => by
  unfold iMethP ciMethP
  rw [IR.eb, IR.eP]
  refine tp.h _ _ _ sm _ _ fun p => ?_
  by_cases z0 : g e = .hole
  · rw [z0, subK_hole]; exact .inl rfl
  have z := (sm.get (i := r) (g := g)).resolve_left z0
  rw [IR.eb, IR.eP, atPath_eq z]
  cases atPath r p env with
  | none => exact .inl rfl
  | some ds =>
    show PR.le (cl ρ e _) (IR.elim (IR.bind _ _) k')
    rw [IR.eb, IR.eP]
    refine tl.h _ _ _ sm _ _ fun as => ?_
    rw [IR.eb, IR.eP]
    refine tm.h _ _ _ _ _ fun d l => ?_
    show PR.le _ (k' d (wr r p l env))
    unfold wr
    rw [getD_of z, ← putR_eq]
    have hp : putR p (.lst l) (g e) ≠ .hole := putR_ne z0
    obtain ⟨e', h1, h2⟩ := sm.set (i := r) (s := s) (putR p (.lst l) (g e)) (.inl hp)
    rw [h1]
    exact h _ _ _ h2⟩
end
end Ow

set_option Elab.async false
set_option linter.all false
set_option maxRecDepth 100000
set_option maxHeartbeats 1000000
/-! OwYd: quick twins of statements, loops, comprehensions, defs. -/
namespace Ow
open PySem PySem.Spec PyProof.Rows L2
noncomputable section
variable {N pr : Nat} {px : D}
/-! ### patterns -/
abbrev CPat := (ρ : Type) → D → T → (T → PR ρ) → PR ρ
abbrev CPats := (ρ : Type) → List D → T → (T → PR ρ) → PR ρ
def oelim {ρ : Type} (o : Option (List D)) (k : List D → PR ρ) : PR ρ := match o with | some e => k e | none => .bad
class TwPat (N pr : Nat) (px : D) (p : Pat) (c : outParam CPat) : Prop where
  h : ∀ (ρ : Type) (d : D) (e : T) (env : List D) (sm : Sim N pr px e env) (k : T → PR ρ) (k' : List D → PR ρ), (∀ e env, Sim N pr px e env → PR.le (k e) (k' env)) → PR.le (c ρ d e k) (oelim (bindP p d env) k')
class TwPats (N pr : Nat) (px : D) (p : List Pat) (c : outParam CPats) : Prop where
  h : ∀ (ρ : Type) (d : List D) (e : T) (env : List D) (sm : Sim N pr px e env) (k : T → PR ρ) (k' : List D → PR ρ), (∀ e env, Sim N pr px e env → PR.le (k e) (k' env)) → PR.le (c ρ d e k) (oelim (bindPs p d env) k')
class TwPatR (N pr : Nat) (px : D) (p : Pat) (c : outParam CPat) : Prop where
  h : ∀ (ρ : Type) (d : D) (e : T) (env : List D) (sm : Sim N pr px e env) (k : T → PR ρ) (k' : List D → PR ρ), (∀ e env, Sim N pr px e env → PR.le (k e) (k' env)) → PR.le (c ρ d e k) (oelim (bindR p d env) k')
class TwPatRs (N pr : Nat) (px : D) (p : List Pat) (c : outParam CPats) : Prop where
  h : ∀ (ρ : Type) (d : List D) (e : T) (env : List D) (sm : Sim N pr px e env) (k : T → PR ρ) (k' : List D → PR ρ), (∀ e env, Sim N pr px e env → PR.le (k e) (k' env)) → PR.le (c ρ d e k) (oelim (bindRs p d env) k')
theorem putD_g {i : Nat} [hl : LtC i N] {x : PyData} {e : T} {env : List D} (sm : Sim N pr px e env) : putD i (.g x) env = some (env.set i (.g x)) := by
  show (if i < env.length then some (env.set i (.g x)) else none) = _
  rw [if_pos (sm.lt (i := i))]
theorem putD_of {i : Nat} [hl : LtC i N] {d : D} {e : T} {env : List D} (sm : Sim N pr px e env) (hd : d ≠ .hole) : putD i d env = some (env.set i d) := by
  unfold putD
  split
  · exact absurd rfl hd
  · rw [if_pos (sm.lt (i := i))]
theorem oelim_set {i : Nat} {s : CSet} [hs : TwS' i s] {ρ : Type} {v : D} {e : T} {env : List D} {k : T → PR ρ} {k' : List D → PR ρ} (sm : Sim N pr px e env) (hv : v ≠ .hole) (h : ∀ e env, Sim N pr px e env → PR.le (k e) (k' env)) : PR.le (s ρ v e k) (k' (env.set i v)) := by
  obtain ⟨e', h1, h2⟩ := sm.set (i := i) (s := s) v (.inl hv)
  rw [h1]
  exact h e' _ h2
def cNm (s : CSet) : CPat := fun ρ d e k => dsel d (fun x => s ρ (.g x) e k) .bad .bad
instance twNm (i : Nat) (g : T → D) (s : CSet) [LtC i N] [TwG i g] [TwS' i s] : TwPat N pr px (.nm i) (cNm s) := ⟨fun ρ d e env sm k k' h => by
  unfold cNm bindP
  cases d with
  | g x =>
    dsimp only [dsel]
    rw [putD_g sm]
    exact oelim_set sm (by simp) h
  | _ => exact .inl rfl⟩
def cNmR (s : CSet) : CPat := fun ρ d e k => dsel d (fun x => s ρ (.g x) e k) (s ρ d e k) .bad
instance twNmR (i : Nat) (g : T → D) (s : CSet) [LtC i N] [TwG i g] [TwS' i s] : TwPatR N pr px (.nm i) (cNmR s) := ⟨fun ρ d e env sm k k' h => by
  unfold cNmR bindR
  cases d with
  | hole => exact .inl rfl
  | _ =>
    rw [putD_of sm (by simp)]
    exact oelim_set sm (by simp) h⟩
/-- the items of a tuple -/
def dtup {α : Type} (d : D) (k : List D → α) (no : α) : α := D.rec (motive_1 := fun _ => α) (motive_2 := fun _ => Unit) (fun x => psel x no (fun _ => no) (fun _ => no) (fun _ => no) (fun xs => k (mapG xs)) no) (fun _ _ => no) (fun ds _ => k ds) (fun _ _ _ => no) (fun _ _ _ => no) (fun _ => no) (fun _ => no) no () (fun _ _ _ _ => ()) d
def cTp (c : CPats) : CPat := fun ρ d e k => dtup d (fun ds => c ρ ds e k) .bad
instance twTp (ps : List Pat) (c : CPats) [t : TwPats N pr px ps c] : TwPat N pr px (.tp ps) (cTp c) := ⟨fun ρ d e env sm k k' h => by
  unfold cTp bindP
  cases d with
  | g x =>
    cases x with
    | tuple xs =>
      show PR.le (c ρ (mapG xs) e k) _
      rw [mapG_eq]
      exact t.h _ _ _ _ sm _ _ h
    | _ => exact .inl rfl
  | tp ds => exact t.h _ _ _ _ sm _ _ h
  | _ => exact .inl rfl⟩
instance twTpR (ps : List Pat) (c : CPats) [t : TwPatRs N pr px ps c] : TwPatR N pr px (.tp ps) (cTp c) := ⟨fun ρ d e env sm k k' h => by
  unfold cTp bindR
  cases d with
  | g x =>
    cases x with
    | tuple xs =>
      show PR.le (c ρ (mapG xs) e k) _
      rw [mapG_eq]
      exact t.h _ _ _ _ sm _ _ h
    | _ => exact .inl rfl
  | tp ds => exact t.h _ _ _ _ sm _ _ h
  | _ => exact .inl rfl⟩
def cPs0 : CPats := fun ρ ds e k => lsel ds (k e) fun _ _ => .bad
instance twPs0 : TwPats N pr px [] cPs0 := ⟨fun ρ d e env sm k k' h => by
  cases d with
  | nil => simp only [bindPs]; exact h e _ sm
  | cons _ _ => exact .inl rfl⟩
instance twPsR0 : TwPatRs N pr px [] cPs0 := ⟨fun ρ d e env sm k k' h => by
  cases d with
  | nil => simp only [bindRs]; exact h e _ sm
  | cons _ _ => exact .inl rfl⟩
def cPs1 (c : CPat) (cs : CPats) : CPats := fun ρ ds e k => lsel ds .bad fun d ds => c ρ d e fun e => cs ρ ds e k
theorem oelim_bind {ρ : Type} (o : Option (List D)) (f : List D → Option (List D)) (k : List D → PR ρ) : oelim (o.bind f) k = oelim o fun e => oelim (f e) k := by cases o <;> rfl
instance twPs1 (p : Pat) (ps : List Pat) (c : CPat) (cs : CPats) [t : TwPat N pr px p c] [ts : TwPats N pr px ps cs] : TwPats N pr px (p :: ps) (cPs1 c cs) := ⟨fun ρ d e env sm k k' h => by
  cases d with
  | nil => exact .inl rfl
  | cons d ds =>
    simp only [bindPs]
    rw [oelim_bind]
    exact t.h _ _ _ _ sm _ _ fun e env sm => ts.h _ _ _ _ sm _ _ h⟩
instance twPsR1 (p : Pat) (ps : List Pat) (c : CPat) (cs : CPats) [t : TwPatR N pr px p c] [ts : TwPatRs N pr px ps cs] : TwPatRs N pr px (p :: ps) (cPs1 c cs) := ⟨fun ρ d e env sm k k' h => by
  cases d with
  | nil => exact .inl rfl
  | cons d ds =>
    simp only [bindRs]
    rw [oelim_bind]
    exact t.h _ _ _ _ sm _ _ fun e env sm => ts.h _ _ _ _ sm _ _ h⟩
/-! ### statements -/
/-- tells nothing -/
def deadT : T := T.mk h8 h8 h8 h8
abbrev CSt := (ρ : Type) → T → (T → PR ρ) → (D → T → PR ρ) → (T → PR ρ) → (T → PR ρ) → PR ρ
class TwS (N pr : Nat) (px : D) (g : SF) (c : outParam CSt) : Prop where
  h : ∀ (ρ : Type) (e : T) (env : List D) (sm : Sim N pr px e env) (nx : T → PR ρ) (rt : D → T → PR ρ) (bk ct : T → PR ρ) (nx' : List D → PR ρ) (rt' : D → List D → PR ρ) (bk' ct' : List D → PR ρ), (∀ e env, Sim N pr px e env → PR.le (nx e) (nx' env)) → (∀ d e env, Sim N pr px e env ∨ e = deadT → PR.le (rt d e) (rt' d env)) → (∀ e env, Sim N pr px e env → PR.le (bk e) (bk' env)) → (∀ e env, Sim N pr px e env → PR.le (ct e) (ct' env)) →
    PR.le (c ρ e nx rt bk ct) ((g env).elim nx' rt' bk' ct')
def csNil : CSt := fun ρ e nx rt bk ct => nx e
instance twsNil : TwS N pr px sNil csNil := ⟨fun ρ e env sm nx rt bk ct nx' rt' bk' ct' h1 h2 h3 h4 => h1 e _ sm⟩
theorem sSeq_elim {ρ : Type} (g h : SF) (env : List D) (nx : List D → PR ρ) (rt : D → List D → PR ρ) (bk ct : List D → PR ρ) : (sSeq g h env).elim nx rt bk ct = (g env).elim (fun e => (h e).elim nx rt bk ct) rt bk ct := by
  unfold sSeq
  cases g env <;> rfl
def csSeq (c c' : CSt) : CSt := fun ρ e nx rt bk ct => c ρ e (fun e => c' ρ e nx rt bk ct) rt bk ct
instance twsSeq (g g' : SF) (c c' : CSt) [t : TwS N pr px g c] [t' : TwS N pr px g' c'] : TwS N pr px (sSeq g g') (csSeq c c') := ⟨fun ρ e env sm nx rt bk ct nx' rt' bk' ct' h1 h2 h3 h4 => by
  unfold csSeq
  rw [sSeq_elim]
  exact t.h _ _ _ sm _ _ _ _ _ _ _ _ (fun e env sm => t'.h _ _ _ sm _ _ _ _ _ _ _ _ h1 h2 h3 h4) h2 h3 h4⟩
def csIf (c : CIBt) (ca cb : CSt) : CSt := fun ρ e nx rt bk ct => c ρ e (fun e => ca ρ e nx rt bk ct) (fun e => cb ρ e nx rt bk ct)
instance twsIf (b : IB) (g g' : SF) (c : CIBt) (ca cb : CSt) [t : TwIB N pr px b c] [ta : TwS N pr px g ca] [tb : TwS N pr px g' cb] : TwS N pr px (sIf b g g') (csIf c ca cb) := ⟨fun ρ e env sm nx rt bk ct nx' rt' bk' ct' h1 h2 h3 h4 => by
  unfold sIf csIf
  rw [IR.eS]
  exact t.h _ _ _ sm _ _ _ (fun e env sm => ta.h _ _ _ sm _ _ _ _ _ _ _ _ h1 h2 h3 h4) fun e env sm => tb.h _ _ _ sm _ _ _ _ _ _ _ _ h1 h2 h3 h4⟩
def csRet (c : CIt) : CSt := fun ρ e nx rt bk ct => c ρ e fun d e => rt d e
instance twsRet (f : IF) (c : CIt) [t : TwI N pr px f c] : TwS N pr px (sRet f) (csRet c) := ⟨fun ρ e env sm nx rt bk ct nx' rt' bk' ct' h1 h2 h3 h4 => by
  unfold sRet csRet
  rw [IR.eS]
  exact t.h _ _ _ sm _ _ fun d e env sm => h2 d e _ (.inl sm)⟩
def csRetN : CSt := fun ρ e nx rt bk ct => rt (.g .none) e
instance twsRetN : TwS N pr px sRetN csRetN := ⟨fun ρ e env sm nx rt bk ct nx' rt' bk' ct' h1 h2 h3 h4 => h2 _ _ _ (.inl sm)⟩
def csBreak : CSt := fun ρ e nx rt bk ct => bk e
instance twsBreak : TwS N pr px sBreak csBreak := ⟨fun ρ e env sm nx rt bk ct nx' rt' bk' ct' h1 h2 h3 h4 => h3 _ _ sm⟩
def csCont : CSt := fun ρ e nx rt bk ct => ct e
instance twsCont : TwS N pr px sCont csCont := ⟨fun ρ e env sm nx rt bk ct nx' rt' bk' ct' h1 h2 h3 h4 => h4 _ _ sm⟩
def csDrop (c : CIt) : CSt := fun ρ e nx rt bk ct => c ρ e fun _ e => nx e
instance twsDrop (f : IF) (c : CIt) [t : TwI N pr px f c] : TwS N pr px (sDrop f) (csDrop c) := ⟨fun ρ e env sm nx rt bk ct nx' rt' bk' ct' h1 h2 h3 h4 => by
  unfold sDrop csDrop
  rw [IR.eS]
  exact t.h _ _ _ sm _ _ fun _ e env sm => h1 e _ sm⟩
theorem opS_elim {ρ : Type} (o : Option (List D)) (nx : List D → PR ρ) (rt : D → List D → PR ρ) (bk ct : List D → PR ρ) : (OpS o).elim nx rt bk ct = oelim o nx := by cases o <;> rfl
def csSet (s : CSet) (c : CIt) : CSt := fun ρ e nx rt bk ct => c ρ e fun d e => dsel d (fun x => s ρ (.g x) e nx) (s ρ d e nx) .bad
instance twsSet (i : Nat) (f : IF) (g : T → D) (s : CSet) (c : CIt) [LtC i N] [TwG i g] [TwS' i s] [t : TwI N pr px f c] : TwS N pr px (sSet i f) (csSet s c) := ⟨fun ρ e env sm nx rt bk ct nx' rt' bk' ct' h1 h2 h3 h4 => by
  unfold sSet csSet
  rw [IR.eS]
  refine t.h _ _ _ sm _ _ fun d e env sm => ?_
  rw [opS_elim]
  cases d with
  | hole => exact .inl rfl
  | _ =>
    rw [putD_of sm (by simp)]
    exact oelim_set sm (by simp) h1⟩
def csAsg (cp : CPat) (c : CIt) : CSt := fun ρ e nx rt bk ct => c ρ e fun d e => cp ρ d e nx
instance twsAsg (p : Pat) (f : IF) (cp : CPat) (c : CIt) [tp : TwPat N pr px p cp] [t : TwI N pr px f c] : TwS N pr px (sAsg p f) (csAsg cp c) := ⟨fun ρ e env sm nx rt bk ct nx' rt' bk' ct' h1 h2 h3 h4 => by
  unfold sAsg csAsg
  rw [IR.eS]
  refine t.h _ _ _ sm _ _ fun d e env sm => ?_
  rw [opS_elim]
  exact tp.h _ _ _ _ sm _ _ h1⟩
def putK {ρ : Type} (s : CSet) (d : D) (e : T) (k : T → PR ρ) : PR ρ := dsel d (fun x => s ρ (.g x) e k) (s ρ d e k) .bad
theorem putK_le {i : Nat} {s : CSet} [LtC i N] [TwS' i s] {ρ : Type} {d : D} {e : T} {env : List D} (sm : Sim N pr px e env) {k : T → PR ρ} {k' : List D → PR ρ} (h : ∀ e env, Sim N pr px e env → PR.le (k e) (k' env)) : PR.le (putK s d e k) (oelim (putD i d env) k') := by
  unfold putK
  cases d with
  | hole => exact .inl rfl
  | _ =>
    rw [putD_of sm (by simp)]
    exact oelim_set sm (by simp) h
def csPar (s s' : CSet) (cl : CILt) : CSt := fun ρ e nx rt bk ct => cl ρ e fun ds e => lsel ds .bad fun d r => lsel r .bad fun d' r' => lsel r' (putK s d e fun e => putK s' d' e nx) fun _ _ => .bad
instance twsPar (i j : Nat) (f : IL) (g g' : T → D) (s s' : CSet) (cl : CILt) [LtC i N] [TwG i g] [TwS' i s] [LtC j N] [TwG j g'] [TwS' j s'] [t : TwIL N pr px f cl] : TwS N pr px (sPar i j f) (csPar s s' cl) := ⟨fun ρ e env sm nx rt bk ct nx' rt' bk' ct' h1 h2 h3 h4 => by
  unfold sPar csPar
  rw [IR.eS]
  refine t.h _ _ _ sm _ _ fun ds e env sm => ?_
  match ds with
  | [] => exact .inl rfl
  | [_] => exact .inl rfl
  | [d, d'] =>
    dsimp only [lsel]
    rw [opS_elim, oelim_bind]
    exact putK_le sm fun e env sm => putK_le sm h1
  | _ :: _ :: _ :: _ => exact .inl rfl⟩
/-! ### for, while -/
def cForGo {ρ : Type} (cp : CPat) (cg : CSt) (nx : T → PR ρ) (rt : D → T → PR ρ) (items : List D) (e : T) : PR ρ := List.rec (motive := fun _ => T → PR ρ) nx (fun d _ ih e => cp ρ d e fun e => cg ρ e ih rt nx ih) items e
theorem forGo_elim {ρ : Type} (p : Pat) (g : SF) (d : D) (ds env : List D) (nx : List D → PR ρ) (rt : D → List D → PR ρ) (bk ct : List D → PR ρ) : (forGo p g (d :: ds) env).elim nx rt bk ct = oelim (bindP p d env) fun env => (g env).elim (fun e => (forGo p g ds e).elim nx rt bk ct) rt nx (fun e => (forGo p g ds e).elim nx rt bk ct) := by
  rw [forGo]
  cases bindP p d env with
  | none => rfl
  | some env =>
    dsimp only [oelim]
    cases g env <;> rfl
theorem whileGo_elim {ρ : Type} (c : IB) (g : SF) (n : Nat) (env : List D) (nx : List D → PR ρ) (rt : D → List D → PR ρ) (bk ct : List D → PR ρ) : (whileGo c g (n + 1) env).elim nx rt bk ct = (c env).elim fun b e => if b = true then (g e).elim (fun e => (whileGo c g n e).elim nx rt bk ct) rt nx (fun e => (whileGo c g n e).elim nx rt bk ct) else nx e := by
  rw [whileGo, IR.eS]
  congr 1
  funext b e
  cases b with
  | false => rfl
  | true =>
    rw [if_pos rfl, if_pos rfl]
    cases g e <;> rfl
theorem cForGo_le {p : Pat} {g : SF} {cp : CPat} {cg : CSt} [tp : TwPat N pr px p cp] [t : TwS N pr px g cg] {ρ : Type} {nx : T → PR ρ} {rt : D → T → PR ρ} {nx' : List D → PR ρ} {rt' : D → List D → PR ρ} {bk' ct' : List D → PR ρ} (h1 : ∀ e env, Sim N pr px e env → PR.le (nx e) (nx' env)) (h2 : ∀ d e env, Sim N pr px e env ∨ e = deadT → PR.le (rt d e) (rt' d env)) (items : List D) (e : T) (env : List D) (sm : Sim N pr px e env) :
    PR.le (cForGo cp cg nx rt items e) ((forGo p g items env).elim nx' rt' bk' ct') := by
  induction items generalizing e env with
  | nil => exact h1 e _ sm
  | cons d ds ih =>
    show PR.le (cp ρ d e fun e => cg ρ e (cForGo cp cg nx rt ds) rt nx (cForGo cp cg nx rt ds)) _
    rw [forGo_elim]
    exact tp.h _ _ _ _ sm _ _ fun e env sm => t.h _ _ _ sm _ _ _ _ _ _ _ _ ih h2 h1 ih
def csFor (cp : CPat) (cw : CWt) (cg : CSt) : CSt := fun ρ e nx rt bk ct => cw ρ e (fun items => cForGo cp cg nx rt items e) (fun _ => .bad)
instance twsFor (p : Pat) (f : PW') (g : SF) (cp : CPat) (cw : CWt) (cg : CSt) [tp : TwPat N pr px p cp] [tw : TwW N pr px f cw] [t : TwS N pr px g cg] : TwS N pr px (sFor p f g) (csFor cp cw cg) := ⟨fun ρ e env sm nx rt bk ct nx' rt' bk' ct' h1 h2 h3 h4 => by
  unfold sFor csFor
  rw [IR.eS, IR.eP]
  refine tw.h _ _ _ sm _ _ _ (fun items => ?_) fun items => .inl rfl
  dsimp only
  rw [if_pos rfl]
  exact cForGo_le (t := t) (tp := tp) h1 h2 items e env sm⟩
def cWhile {ρ : Type} (ci : CIBt) (cg : CSt) (nx : T → PR ρ) (rt : D → T → PR ρ) (n : Nat) (e : T) : PR ρ := Nat.rec (motive := fun _ => T → PR ρ) (fun _ => .bad) (fun _ ih e => ci ρ e (fun e => cg ρ e ih rt nx ih) nx) n e
theorem cWhile_le {c : IB} {g : SF} {ci : CIBt} {cg : CSt} [tc : TwIB N pr px c ci] [t : TwS N pr px g cg] {ρ : Type} {nx : T → PR ρ} {rt : D → T → PR ρ} {nx' : List D → PR ρ} {rt' : D → List D → PR ρ} {bk' ct' : List D → PR ρ} (h1 : ∀ e env, Sim N pr px e env → PR.le (nx e) (nx' env)) (h2 : ∀ d e env, Sim N pr px e env ∨ e = deadT → PR.le (rt d e) (rt' d env)) (n : Nat) (e : T) (env : List D) (sm : Sim N pr px e env) :
    PR.le (cWhile ci cg nx rt n e) ((whileGo c g n env).elim nx' rt' bk' ct') := by
  induction n generalizing e env with
  | zero => exact .inl rfl
  | succ n ih =>
    show PR.le (ci ρ e (fun e => cg ρ e (cWhile ci cg nx rt n) rt nx (cWhile ci cg nx rt n)) nx) _
    rw [whileGo_elim]
    refine tc.h _ _ _ sm _ _ _ (fun e env sm => ?_) fun e env sm => h1 e _ sm
    rw [if_pos rfl]
    exact t.h _ _ _ sm _ _ _ _ _ _ _ _ ih h2 h1 ih
def csWhile (n : Nat) (ci : CIBt) (cg : CSt) : CSt := fun ρ e nx rt bk ct => cWhile ci cg nx rt n e
instance twsWhile (n : Nat) (c : IB) (g : SF) (ci : CIBt) (cg : CSt) [tc : TwIB N pr px c ci] [t : TwS N pr px g cg] : TwS N pr px (sWhile n c g) (csWhile n ci cg) := ⟨fun ρ e env sm nx rt bk ct nx' rt' bk' ct' h1 h2 h3 h4 => cWhile_le (t := t) (tc := tc) h1 h2 n e env sm⟩
/-- a slot, seen through a mask -/
def mg1 (b : Bool) (d : D) : D := bsel b d (dsel d .g .hole .hole)
theorem mg1_eq (b : Bool) (d : D) : mg1 b d = if (b || grd d) = true then d else .hole := by
  cases b with
  | true => rfl
  | false => cases d <;> rfl
def mkO (q : Nat → Bool) (b : Nat) (o : O8) : O8 := O8.rec (motive := fun _ => O8) (fun a0 a1 a2 a3 a4 a5 a6 a7 => O8.mk (mg1 (q b) a0) (mg1 (q (b + 1)) a1) (mg1 (q (b + 2)) a2) (mg1 (q (b + 3)) a3) (mg1 (q (b + 4)) a4) (mg1 (q (b + 5)) a5) (mg1 (q (b + 6)) a6) (mg1 (q (b + 7)) a7)) o
def mkT (q : Nat → Bool) (e : T) : T := T.rec (motive := fun _ => T) (fun r0 r1 r2 r3 => T.mk (mkO q 0 r0) (mkO q 8 r1) (mkO q 16 r2) (mkO q 24 r3)) e
theorem maskL_take (r : Nat) (fz : List Nat) : ∀ (l : List D) (n i : Nat), maskL r fz i (l.take n) = (maskL r fz i l).take n
  | [], n, i => by simp [maskL]
  | d :: l, 0, i => by simp [maskL]
  | d :: l, n + 1, i => by simp only [List.take_succ_cons, maskL]; rw [maskL_take r fz l n (i + 1)]
def mq (r : Nat) (fz : List Nat) (i : Nat) : Bool := or (Nat.beq i r) (List.rec (motive := fun _ => Bool) false (fun x _ ih => or (Nat.beq i x) ih) fz)
theorem nbeq (a b : Nat) : Nat.beq a b = (a == b) := by rw [beq_dec, Bool.beq_eq_decide_eq]
theorem mq_eq (r : Nat) (fz : List Nat) (i : Nat) : mq r fz i = (i == r || fz.contains i) := by
  unfold mq
  rw [nbeq]
  congr 1
  induction fz with
  | nil => rfl
  | cons x xs ih =>
    rw [List.contains_cons, ← ih, ← nbeq]
theorem mkT_full (r : Nat) (fz : List Nat) (e : T) : full (mkT (mq r fz) e) = maskL r fz 0 (full e) := by
  obtain ⟨⟨a0, a1, a2, a3, a4, a5, a6, a7⟩, ⟨b0, b1, b2, b3, b4, b5, b6, b7⟩, ⟨c0, c1, c2, c3, c4, c5, c6, c7⟩, ⟨d0, d1, d2, d3, d4, d5, d6, d7⟩⟩ := e
  simp only [full, O8.toL, mkT, mkO, List.cons_append, List.nil_append, maskL, mg1_eq, mq_eq]
theorem maskQ_get (r : Nat) (fz : List Nat) : ∀ (l : List D) (i j : Nat), (maskL r fz i l)[j]? = (l[j]?).map fun d => if (i + j == r || fz.contains (i + j) || grd d) = true then d else .hole
  | [], i, j => by simp [maskL]
  | d :: l, i, 0 => by simp [maskL]
  | d :: l, i, j + 1 => by
    simp only [maskL, List.getElem?_cons_succ]
    rw [maskQ_get r fz l (i + 1) j, show i + 1 + j = i + (j + 1) by omega]
theorem maskQ_len (r : Nat) (fz : List Nat) : ∀ (l : List D) (i : Nat), (maskL r fz i l).length = l.length
  | [], i => rfl
  | d :: l, i => by simp [maskL, maskQ_len r fz l (i + 1)]
/-- .. through a mask: nothing is pinned -/
theorem Sim.mask {e : T} {env : List D} (sm : Sim N pr px e env) (r : Nat) (fz : List Nat) (hN : N ≤ 32) : Sim N 99 .hole (mkT (mq r fz) e) (maskL r fz 0 env) := ⟨by rw [maskQ_len]; exact sm.len, fun i hi d hd => by
  rw [mkT_full, maskQ_get, Option.map_eq_some_iff] at hd
  obtain ⟨d', h1, h2⟩ := hd
  rcases sm.here i hi d' h1 with z | z
  · subst z
    left
    rw [← h2]
    split <;> rfl
  · right
    rw [maskQ_get, z, ← h2]; rfl, fun h => by omega⟩
def csForL (r : Nat) (fz : List Nat) (cp : CPat) (cw : CWt) (cg : CSt) : CSt := fun ρ e nx rt bk ct => (fun k => cw ρ (mkT (mq r fz) e) k k) fun items => cForGo cp cg nx rt items e
instance twsForL (r : Nat) (fz : List Nat) (p : Pat) (f : PW') (g : SF) (cp : CPat) (cw : CWt) (cg : CSt) [hN : Le32 N] [tp : TwPat N pr px p cp] [tw : TwW N 99 .hole f cw] [t : TwS N pr px g cg] : TwS N pr px (sForL r fz p f g) (csForL r fz cp cw cg) := ⟨fun ρ e env sm nx rt bk ct nx' rt' bk' ct' h1 h2 h3 h4 => by
  unfold sForL csForL
  rw [IR.eS, IR.eP]
  exact tw.h _ _ _ (sm.mask r fz hN.h) _ _ _ (fun items => cForGo_le (t := t) (tp := tp) h1 h2 items e env sm) fun items => cForGo_le (t := t) (tp := tp) h1 h2 items e env sm⟩
def keysK {α : Type} (d : D) (k : List PyData → α) (no : α) : α := D.rec (motive_1 := fun _ => α) (motive_2 := fun _ => Unit) (fun _ => no) (fun _ _ => no) (fun _ _ => no) (fun ks _ _ => k ks) (fun ks _ _ => k ks) (fun _ => no) (fun _ => no) no () (fun _ _ _ _ => ()) d
theorem keysK_eq {α : Type} (d : D) (k : List PyData → α) (no : α) : keysK d k no = match dKeys d with | some ks => k ks | none => no := by cases d <;> rfl
def csForD (g : T → D) (cp : CPat) (cg : CSt) : CSt := fun ρ e nx rt bk ct => keysK (g e) (fun ks => cForGo cp cg nx rt (mapG ks) e) .bad
instance twsForD (r : Nat) (p : Pat) (sf : SF) (g : T → D) (cp : CPat) (cg : CSt) [LtC r N] [TwG r g] [tp : TwPat N pr px p cp] [t : TwS N pr px sf cg] : TwS N pr px (sForD r p sf) (csForD g cp cg) := ⟨fun ρ e env sm nx rt bk ct nx' rt' bk' ct' h1 h2 h3 h4 => by
  unfold sForD csForD
  rcases sm.get (i := r) (g := g) with z | z
  · rw [z]; exact .inl rfl
  rw [z, keysK_eq]
  dsimp only
  cases dKeys (g e) with
  | none => exact .inl rfl
  | some ks =>
    dsimp only
    rw [mapG_eq]
    exact cForGo_le (t := t) (tp := tp) h1 h2 _ e env sm⟩
/-! ### comprehensions -/
abbrev CWipe := (ρ : Type) → T → (T → PR ρ) → PR ρ
class TwWi (N pr : Nat) (px : D) (vs : List Nat) (w : outParam CWipe) : Prop where
  h : ∀ (e : T) (env : List D), Sim N pr px e env → ∃ e', (∀ (ρ : Type) (k : T → PR ρ), w ρ e k = k e') ∧ Sim N pr px e' (wipeD env vs)
def cw0 : CWipe := fun ρ e k => k e
instance twWi0 : TwWi N pr px [] cw0 := ⟨fun e env sm => ⟨e, fun _ _ => rfl, sm⟩⟩
def cw1 (s : CSet) (w : CWipe) : CWipe := fun ρ e k => w ρ e fun e => s ρ .hole e k
instance twWi1 (v : Nat) (vs : List Nat) (s : CSet) (w : CWipe) [TwS' v s] [ne : NeC v pr] [tw : TwWi N pr px vs w] : TwWi N pr px (v :: vs) (cw1 s w) := ⟨fun e env sm => by
  obtain ⟨e1, h1, h2⟩ := tw.h e env sm
  obtain ⟨e2, h3, h4⟩ := h2.set (i := v) (s := s) .hole (.inr ne.h)
  refine ⟨e2, fun ρ k => ?_, h4⟩
  unfold cw1; rw [h1, h3]⟩
instance twWiM0 : TwWi N pr px (List.map (fun (x : Str × Nat) => x.2) []) cw0 := twWi0
instance twWiM1 (x : Str) (v : Nat) (vs : List (Str × Nat)) (s : CSet) (w : CWipe) [h : TwS' v s] [ne : NeC v pr] [tw : TwWi N pr px (List.map (fun (x : Str × Nat) => x.2) vs) w] : TwWi N pr px (List.map (fun (x : Str × Nat) => x.2) ((x, v) :: vs)) (cw1 s w) := twWi1 (tw := tw) (N := N) v (List.map (fun (x : Str × Nat) => x.2) vs) s w
def cGo1 (cp : CPat) (cb : CBt) (cf : CPt) (ew : T) (items : List D) (k : List D → PR (List D)) : PR (List D) := List.rec (motive := fun _ => (List D → PR (List D)) → PR (List D)) (fun k => k []) (fun d _ ih k => cp (List D) d ew fun e => cb (List D) e (cf (List D) e (fun r => ih fun qs => k (r :: qs)) fun _ => .bad) (ih k)) items k
theorem goL_le {p : Pat} {c : PB} {bg : List D → PR (List D)} {cp : CPat} {cb : CBt} [tp : TwPatR N pr px p cp] [tb : TwB N pr px c cb] (body : T → (List D → PR (List D)) → PR (List D)) (hb : ∀ e env, Sim N pr px e env → ∀ k k', (∀ l, PR.le (k l) (k' l)) → PR.le (body e k) ((bg env).bind k')) (ew : T) (env : List D) (sm : Sim N pr px ew env) (items : List D) (k k' : List D → PR (List D)) (h : ∀ l, PR.le (k l) (k' l)) :
    PR.le ((List.rec (motive := fun _ => (List D → PR (List D)) → PR (List D)) (fun k => k []) (fun d _ ih k => cp (List D) d ew fun e => cb (List D) e (body e fun rs => ih fun qs => k (appR rs qs)) (ih k)) items) k) ((goL p c bg env items).bind k') := by
  induction items generalizing k k' with
  | nil => exact h _
  | cons d ds ih =>
    dsimp only
    unfold goL
    have key := tp.h (List D) d ew env sm (fun e => cb (List D) e (body e fun rs => (List.rec (motive := fun _ => (List D → PR (List D)) → PR (List D)) (fun k => k []) (fun d _ ih k => cp (List D) d ew fun e => cb (List D) e (body e fun rs => ih fun qs => k (appR rs qs)) (ih k)) ds) fun qs => k (appR rs qs)) ((List.rec (motive := fun _ => (List D → PR (List D)) → PR (List D)) (fun k => k []) (fun d _ ih k => cp (List D) d ew fun e => cb (List D) e (body e fun rs => ih fun qs => k (appR rs qs)) (ih k)) ds) k))
      (fun env1 => ((c env1).bind fun b => if b = true then (bg env1).bind fun rs => (goL p c bg env ds).bind fun qs => .ok (rs ++ qs) else goL p c bg env ds).bind k') (fun e env1 sm1 => by
        rw [PR.bb]
        refine tb.h _ _ _ sm1 _ _ _ ?_ ?_
        · rw [if_pos rfl, PR.bb]
          refine hb _ _ sm1 _ _ fun rs => ?_
          rw [PR.bb]
          refine ih _ _ fun qs => ?_
          rw [appR_eq]
          exact h _
        · rw [if_neg (by decide)]
          exact ih _ _ h)
    cases e1 : bindR p d env with
    | none => rw [e1] at key; exact key
    | some env1 => rw [e1] at key; exact key
theorem cGo1_le {p : Pat} {c : PB} {f : PF} {cp : CPat} {cb : CBt} {cf : CPt} [tp : TwPatR N pr px p cp] [tb : TwB N pr px c cb] [tf : TwP N pr px f cf] (ew : T) (env : List D) (sm : Sim N pr px ew env) (items : List D) (k k' : List D → PR (List D)) (h : ∀ l, PR.le (k l) (k' l)) : PR.le (cGo1 cp cb cf ew items k) ((goL p c (bgE f) env items).bind k') := by
  refine PR.le.trans (.inr ?_) (goL_le (tp := tp) (tb := tb) (fun e k => cf (List D) e (fun r => k [r]) fun _ => .bad) (fun e env sm k k' h => ?_) ew env sm items k k' h)
  · rfl
  · unfold bgE
    rw [PR.bb]
    refine tf.h _ _ _ sm _ _ _ (fun d => h _) fun d => .inl rfl
def finLc {ρ : Type} (r : PR (List D)) (ko : D → PR ρ) : PR ρ := PR.rec (motive := fun _ => PR ρ) (fun rs => lenOk rs (ko (.lst rs)) .bad) (fun _ => .bad) .bad r
theorem finLc_le {ρ : Type} {r r' : PR (List D)} {ko : D → PR ρ} {k' : Pv → PR ρ} (h : PR.le r (r'.bind .ok)) (ho : ∀ d, PR.le (ko d) (k' (.own d))) : PR.le (finLc r ko) ((endLc r').bind k') := by
  have e : r'.bind PR.ok = r' := by cases r' <;> rfl
  rw [e] at h
  rcases h with h | h
  · subst h; exact .inl rfl
  · subst h
    cases r with
    | ok rs =>
      show PR.le (lenOk rs _ _) ((if rs.length ≤ sizeLine then _ else _ : PR Pv).bind k')
      rw [lenOk_eq]
      split
      · exact ho _
      · exact .inl rfl
    | err x => exact .inl rfl
    | bad => exact .inl rfl
def cLc (w : CWipe) (cw : CWt) (cp : CPat) (cb : CBt) (cf : CPt) : CPt := fun ρ e ko kb => (fun k => cw ρ e k k) fun items => w ρ e fun ew => finLc (cGo1 cp cb cf ew items .ok) ko
instance twLc (vs : List Nat) (fi : PW') (p : Pat) (c : PB) (f : PF) (w : CWipe) (cw : CWt) (cp : CPat) (cb : CBt) (cf : CPt) [twi : TwWi N pr px vs w] [tw : TwW N pr px fi cw] [tp : TwPatR N pr px p cp] [tb : TwB N pr px c cb] [tf : TwP N pr px f cf] : TwP N pr px (pLc vs fi p c f) (cLc w cw cp cb cf) := ⟨fun ρ e env sm ko kb k' ho hb => by
  unfold pLc cLc
  rw [PR.bb]
  obtain ⟨ew, h1, h2⟩ := twi.h e env sm
  refine tw.h _ _ _ sm _ _ _ (fun items => ?_) fun items => ?_
  all_goals
    rw [h1]
    exact finLc_le (cGo1_le (tp := tp) (tb := tb) (tf := tf) ew _ h2 items _ _ fun l => .inr rfl) ho⟩
def cGo2 (cp : CPat) (cb : CBt) (w1 : CWipe) (cw1 : CWt) (cp1 : CPat) (cb1 : CBt) (cf : CPt) (ew : T) (items : List D) (k : List D → PR (List D)) : PR (List D) := List.rec (motive := fun _ => (List D → PR (List D)) → PR (List D)) (fun k => k []) (fun d _ ih k => cp (List D) d ew fun e => cb (List D) e ((fun k => cw1 (List D) e k k) fun items1 => w1 (List D) e fun ew1 => cGo1 cp1 cb1 cf ew1 items1 fun rs => ih fun qs => k (appR rs qs)) (ih k)) items k
def cLc2 (w w1 : CWipe) (cw : CWt) (cp : CPat) (cb : CBt) (cw1 : CWt) (cp1 : CPat) (cb1 : CBt) (cf : CPt) : CPt := fun ρ e ko kb => (fun k => cw ρ e k k) fun items => w ρ e fun ew => finLc (cGo2 cp cb w1 cw1 cp1 cb1 cf ew items .ok) ko
instance twLc2 (vs vs1 : List Nat) (fi : PW') (p : Pat) (c : PB) (fi1 : PW') (p1 : Pat) (c1 : PB) (f : PF) (w w1 : CWipe) (cw : CWt) (cp : CPat) (cb : CBt) (cw1 : CWt) (cp1 : CPat) (cb1 : CBt) (cf : CPt) [twi : TwWi N pr px vs w] [twi1 : TwWi N pr px vs1 w1] [tw : TwW N pr px fi cw] [tp : TwPatR N pr px p cp] [tb : TwB N pr px c cb] [tw1 : TwW N pr px fi1 cw1] [tp1 : TwPatR N pr px p1 cp1] [tb1 : TwB N pr px c1 cb1] [tf : TwP N pr px f cf] : TwP N pr px (pLc2 vs vs1 fi p c fi1 p1 c1 f) (cLc2 w w1 cw cp cb cw1 cp1 cb1 cf) := ⟨fun ρ e env sm ko kb k' ho hb => by
  unfold pLc2 cLc2
  rw [PR.bb]
  obtain ⟨ew, h1, h2⟩ := twi.h e env sm
  have key : ∀ items, PR.le (cGo2 cp cb w1 cw1 cp1 cb1 cf ew items .ok) ((goL p c (bg2 vs1 fi1 p1 c1 f) (wipeD env vs) items).bind .ok) := fun items => by
    refine PR.le.trans (.inr ?_) (goL_le (tp := tp) (tb := tb) (fun e k => (fun k => cw1 (List D) e k k) fun items1 => w1 (List D) e fun ew1 => cGo1 cp1 cb1 cf ew1 items1 k) (fun e env sm k k' h => ?_) ew _ h2 items _ _ fun l => .inr rfl)
    · rfl
    · unfold bg2
      rw [PR.bb]
      obtain ⟨ew1, h3, h4⟩ := twi1.h e env sm
      refine tw1.h _ _ _ sm _ _ _ (fun items1 => ?_) fun items1 => ?_
      all_goals
        rw [h3]
        exact cGo1_le (tp := tp1) (tb := tb1) (tf := tf) ew1 _ h4 items1 _ _ h
  refine tw.h _ _ _ sm _ _ _ (fun items => ?_) fun items => ?_
  all_goals
    rw [h1]
    exact finLc_le (key items) ho⟩
def cLcK (g : T → D) (w : CWipe) (cp : CPat) (cb : CBt) (cf : CPt) : CPt := fun ρ e ko kb => keysK (g e) (fun ks => w ρ e fun ew => finLc (cGo1 cp cb cf ew (mapG ks) .ok) ko) .bad
instance twLcK (r : Nat) (vs : List Nat) (p : Pat) (c : PB) (f : PF) (g : T → D) (w : CWipe) (cp : CPat) (cb : CBt) (cf : CPt) [LtC r N] [TwG r g] [twi : TwWi N pr px vs w] [tp : TwPatR N pr px p cp] [tb : TwB N pr px c cb] [tf : TwP N pr px f cf] : TwP N pr px (pLcK r vs p c f) (cLcK g w cp cb cf) := ⟨fun ρ e env sm ko kb k' ho hb => by
  unfold pLcK cLcK
  rcases sm.get (i := r) (g := g) with z | z
  · rw [z]; exact .inl rfl
  rw [PR.bb, z, keysK_eq]
  obtain ⟨ew, h1, h2⟩ := twi.h e env sm
  show PR.le _ ((PR.of (dKeys (g e))).bind _)
  cases dKeys (g e) with
  | none => exact .inl rfl
  | some ks =>
    dsimp only
    rw [h1, mapG_eq]
    exact finLc_le (cGo1_le (tp := tp) (tb := tb) (tf := tf) ew _ h2 _ _ _ fun l => .inr rfl) ho⟩
def cYes : CBt := fun ρ e kt kf => kt
instance twYes : TwB N pr px pYes cYes := ⟨fun ρ e env sm kt kf k' ht hf => ht⟩
end
end Ow

set_option Elab.async false
set_option linter.all false
set_option maxRecDepth 100000
set_option maxHeartbeats 1000000
/-! OwYe: quick twins of walks, stores, raise, try, defs. -/
namespace Ow
open PySem PySem.Spec PyProof.Rows L2
noncomputable section
variable {N pr : Nat} {px : D}
/-! ### walks -/
def intK {α : Type} (d : D) (k : Int → α) (no : α) : α := dsel d (fun x => pint x k no) no no
theorem intK_eq {α : Type} (d : D) (k : Int → α) (no : α) : intK d k no = match intOf d with | some i => k i | none => no := by
  cases d with
  | g x => cases x <;> rfl
  | _ => rfl
theorem ofIntOf {ρ : Type} (d : D) (k : Int → PR ρ) : (PR.of (intOf d)).bind k = intK d k .bad := by
  rw [intK_eq]
  cases intOf d <;> rfl
def natK {α : Type} (i : Int) (k : Nat → α) (no : α) : α := Int.rec (motive := fun _ => α) k (fun _ => no) i
def rngR (n : Nat) (m : Nat) : List D := Nat.rec (motive := fun _ => Nat → List D) (fun _ => []) (fun _ ih m => .g (.int (.ofNat m)) :: ih (Nat.succ m)) n m
theorem rngL_succ (lo : Int) (n : Nat) : rngL lo (n + 1) = .g (.int lo) :: rngL (lo + 1) n := by
  unfold rngL
  rw [List.range_succ_eq_map, List.map_cons, List.map_map]
  congr 1
  · simp
  · refine List.map_congr_left fun i _ => ?_
    show D.g (.int (lo + ((i + 1 : Nat) : Int))) = _
    congr 2
    omega
theorem rngR_eq (n m : Nat) : rngR n m = rngL (m : Int) n := by
  induction n generalizing m with
  | zero => rfl
  | succ n ih =>
    show D.g (.int (.ofNat m)) :: rngR n (Nat.succ m) = _
    rw [ih, rngL_succ]
    rfl
/-- a range from a number that is not negative -/
def rngK {α : Type} (i j : Int) (k : List D → α) (no : α) : α := Int.rec (motive := fun _ => α) (fun a => Int.rec (motive := fun _ => α) (fun b => bsel (and (Nat.ble b 4611686018427387903) (Nat.ble a 4611686018427387903)) (k (rngR (Nat.sub b a) a)) no) (fun _ => no) j) (fun _ => no) i
theorem rngK_le {ρ : Type} {i j : Int} {k : List D → PR ρ} {k' : Walk → PR ρ} (h : ∀ l, PR.le (k l) (k' ⟨l, false⟩)) : PR.le (rngK i j k .bad) ((if -4611686018427387904 ≤ i ∧ i < 4611686018427387904 ∧ -4611686018427387904 ≤ j ∧ j < 4611686018427387904 then PR.ok ⟨rngL i (j - i).toNat, false⟩ else .bad).bind k') := by
  unfold rngK
  cases i with
  | negSucc _ => exact .inl rfl
  | ofNat a =>
    cases j with
    | negSucc _ => exact .inl rfl
    | ofNat b =>
      dsimp only
      rw [bsel_eq]
      split
      · rename_i hz
        rw [Bool.and_eq_true, Nat.ble_eq, Nat.ble_eq] at hz
        rw [if_pos ⟨by simp only [Int.ofNat_eq_natCast]; omega, by simp only [Int.ofNat_eq_natCast]; omega, by simp only [Int.ofNat_eq_natCast]; omega, by simp only [Int.ofNat_eq_natCast]; omega⟩, rngR_eq]
        have : (Int.ofNat b - Int.ofNat a).toNat = b - a := by simp only [Int.ofNat_eq_natCast]; omega
        rw [this]
        exact h _
      · exact .inl rfl
def cRng1 (cl : CLt) : CWt := fun ρ e k0 k1 => cl ρ e fun ds => lsel ds .bad fun d r => lsel r (intK d (fun j => rngK (.ofNat 0) j k0 (k0 [])) .bad) fun _ _ => .bad
def rng1K {α : Type} (j : Int) (k : List D → α) (no : α) : α := Int.rec (motive := fun _ => α) (fun b => bsel (Nat.ble b 4611686018427387903) (k (rngR b 0)) no) (fun m => bsel (Nat.ble m 4611686018427387902) (k []) no) j
def cRng1' (cl : CLt) : CWt := fun ρ e k0 k1 => cl ρ e fun ds => lsel ds .bad fun d r => lsel r (intK d (fun j => rng1K j k0 .bad) .bad) fun _ _ => .bad
instance twRng1 (f : PL) (cl : CLt) [t : TwL N pr px f cl] : TwW N pr px (wRng1 f) (cRng1' cl) := ⟨fun ρ e env sm k0 k1 k' h0 h1 => by
  unfold wRng1 cRng1'
  rw [PR.bb]
  refine t.h _ _ _ sm _ _ fun ds => ?_
  match ds with
  | [] => exact .inl rfl
  | [d] =>
    dsimp only [lsel]
    rw [PR.bb, ofIntOf]
    simp only [intK_eq]
    cases intOf d with
    | none => exact .inl rfl
    | some j =>
      dsimp only
      unfold rng1K
      cases j with
      | ofNat b =>
        dsimp only
        rw [bsel_eq]
        split
        · rename_i hz
          rw [Nat.ble_eq] at hz
          rw [if_pos ⟨by simp only [Int.ofNat_eq_natCast]; omega, by simp only [Int.ofNat_eq_natCast]; omega⟩, rngR_eq]
          exact h0 _
        · exact .inl rfl
      | negSucc m =>
        dsimp only
        rw [bsel_eq]
        split
        · rename_i hz
          rw [Nat.ble_eq] at hz
          rw [if_pos ⟨by omega, by omega⟩]
          exact h0 _
        · exact .inl rfl
  | _ :: _ :: _ => exact .inl rfl⟩
def rng2K {α : Type} (i j : Int) (k : List D → α) (no : α) : α := Int.rec (motive := fun _ => α) (fun a => Int.rec (motive := fun _ => α) (fun b => bsel (and (Nat.ble b 4611686018427387903) (Nat.ble a 4611686018427387903)) (k (rngR (Nat.sub b a) a)) no) (fun b => bsel (and (Nat.ble b 4611686018427387902) (Nat.ble a 4611686018427387903)) (k []) no) j) (fun a => Int.rec (motive := fun _ => α) (fun b => bsel (and (Nat.ble b 4611686018427387903) (Nat.ble a 4611686018427387902)) (k (rngL (.negSucc a) (Int.toNat (Int.ofNat b - Int.negSucc a)))) no) (fun b => bsel (and (Nat.ble b 4611686018427387902) (Nat.ble a 4611686018427387902)) (k (rngL (.negSucc a) (Int.toNat (Int.negSucc b - Int.negSucc a)))) no) j) i
theorem rng2K_le {ρ : Type} {i j : Int} {k : List D → PR ρ} {k' : Walk → PR ρ} (h : ∀ l, PR.le (k l) (k' ⟨l, false⟩)) : PR.le (rng2K i j k .bad) ((if -4611686018427387904 ≤ i ∧ i < 4611686018427387904 ∧ -4611686018427387904 ≤ j ∧ j < 4611686018427387904 then PR.ok ⟨rngL i (j - i).toNat, false⟩ else .bad).bind k') := by
  unfold rng2K
  cases i with
  | negSucc a =>
    cases j with
    | negSucc b =>
      dsimp only
      rw [bsel_eq]
      split
      · rename_i hz
        rw [Bool.and_eq_true, Nat.ble_eq, Nat.ble_eq] at hz
        rw [if_pos ⟨by omega, by omega, by omega, by omega⟩]
        exact h _
      · exact .inl rfl
    | ofNat b =>
      dsimp only
      rw [bsel_eq]
      split
      · rename_i hz
        rw [Bool.and_eq_true, Nat.ble_eq, Nat.ble_eq] at hz
        rw [if_pos ⟨by omega, by omega, by simp only [Int.ofNat_eq_natCast]; omega, by simp only [Int.ofNat_eq_natCast]; omega⟩]
        exact h _
      · exact .inl rfl
  | ofNat a =>
    cases j with
    | negSucc b =>
      dsimp only
      rw [bsel_eq]
      split
      · rename_i hz
        rw [Bool.and_eq_true, Nat.ble_eq, Nat.ble_eq] at hz
        rw [if_pos ⟨by simp only [Int.ofNat_eq_natCast]; omega, by simp only [Int.ofNat_eq_natCast]; omega, by omega, by omega⟩]
        have : (Int.negSucc b - Int.ofNat a).toNat = 0 := by simp only [Int.ofNat_eq_natCast]; omega
        rw [this]
        exact h _
      · exact .inl rfl
    | ofNat b =>
      dsimp only
      rw [bsel_eq]
      split
      · rename_i hz
        rw [Bool.and_eq_true, Nat.ble_eq, Nat.ble_eq] at hz
        rw [if_pos ⟨by simp only [Int.ofNat_eq_natCast]; omega, by simp only [Int.ofNat_eq_natCast]; omega, by simp only [Int.ofNat_eq_natCast]; omega, by simp only [Int.ofNat_eq_natCast]; omega⟩, rngR_eq]
        have : (Int.ofNat b - Int.ofNat a).toNat = b - a := by simp only [Int.ofNat_eq_natCast]; omega
        rw [this]
        exact h _
      · exact .inl rfl
def cRng2 (cl : CLt) : CWt := fun ρ e k0 k1 => cl ρ e fun ds => lsel ds .bad fun d r => lsel r .bad fun d' r => lsel r (intK d (fun i => intK d' (fun j => rng2K i j k0 .bad) .bad) .bad) fun _ _ => .bad
instance twRng2 (f : PL) (cl : CLt) [t : TwL N pr px f cl] : TwW N pr px (wRng2 f) (cRng2 cl) := ⟨fun ρ e env sm k0 k1 k' h0 h1 => by
  unfold wRng2 cRng2
  rw [PR.bb]
  refine t.h _ _ _ sm _ _ fun ds => ?_
  match ds with
  | [] => exact .inl rfl
  | [_] => exact .inl rfl
  | [d, d'] =>
    dsimp only [lsel]
    rw [PR.bb, ofIntOf]
    simp only [intK_eq]
    cases intOf d with
    | none => exact .inl rfl
    | some i =>
      dsimp only
      rw [PR.bb, ofIntOf]
      simp only [intK_eq]
      cases intOf d' with
      | none => exact .inl rfl
      | some j => exact rng2K_le h0
  | _ :: _ :: _ :: _ => exact .inl rfl⟩
def cRngDn (cl : CLt) : CWt := fun ρ e k0 k1 => cl ρ e fun ds => lsel ds .bad fun d r => lsel r .bad fun d' r => lsel r .bad fun d2 r => lsel r (intK d (fun i => intK d' (fun j => intK d2 (fun c => bsel (decide (c = -1 ∧ -4611686018427387904 ≤ i ∧ i < 4611686018427387904 ∧ -4611686018427387904 ≤ j ∧ j < 4611686018427387904)) (k0 (stepL i (-1) (i - j).toNat)) .bad) .bad) .bad) .bad) fun _ _ => .bad
instance twRngDn (f : PL) (cl : CLt) [t : TwL N pr px f cl] : TwW N pr px (wRngDn f) (cRngDn cl) := ⟨fun ρ e env sm k0 k1 k' h0 h1 => by
  unfold wRngDn cRngDn
  rw [PR.bb]
  refine t.h _ _ _ sm _ _ fun ds => ?_
  match ds with
  | [] => exact .inl rfl
  | [_] => exact .inl rfl
  | [_, _] => exact .inl rfl
  | [d, d', d2] =>
    dsimp only [lsel]
    rw [PR.bb, ofIntOf]
    simp only [intK_eq]
    cases intOf d with
    | none => exact .inl rfl
    | some i =>
      dsimp only
      rw [PR.bb, ofIntOf]
      simp only [intK_eq]
      cases intOf d' with
      | none => exact .inl rfl
      | some j =>
        dsimp only
        rw [PR.bb, ofIntOf]
        simp only [intK_eq]
        cases intOf d2 with
        | none => exact .inl rfl
        | some c =>
          dsimp only
          rw [bsel_dec]
          split
          · exact h0 _
          · exact .inl rfl
  | _ :: _ :: _ :: _ :: _ => exact .inl rfl⟩
/-- what may be walked -/
def seqK {α : Type} (d : D) (k : List D → α) (no : α) : α := D.rec (motive_1 := fun _ => α) (motive_2 := fun _ => Unit) (fun x => psel x no (fun _ => no) (fun _ => no) (fun _ => no) (fun xs => k (mapG xs)) no) (fun ds _ => k ds) (fun ds _ => k ds) (fun _ _ _ => no) (fun _ _ _ => no) (fun ns => k (ns.map fun i => .g (.int i))) (fun xs => k (mapG xs)) no () (fun _ _ _ _ => ()) d
theorem seqK_eq {α : Type} (d : D) (k : List D → α) (no : α) : seqK d k no = match seqWalk d with | some s => k s.2 | none => no := by
  cases d with
  | g x =>
    cases x with
    | tuple xs => show k (mapG xs) = _; rw [mapG_eq]; rfl
    | _ => rfl
  | ft xs => show k (mapG xs) = _; rw [mapG_eq]; rfl
  | _ => rfl
def strR (z : Str) : List D := List.rec (motive := fun _ => List D) [] (fun c _ ih => .g (.str ⟨#[c]⟩) :: ih) z.cps.toList
theorem strR_eq (z : Str) : strR z = strL z := by
  unfold strR strL
  induction z.cps.toList with
  | nil => rfl
  | cons c l ih => simp only [List.map_cons, ← ih]
def walkK {α : Type} (d : D) (ks k : List D → α) (no : α) : α := D.rec (motive_1 := fun _ => α) (motive_2 := fun _ => Unit) (fun x => psel x no (fun _ => no) (fun _ => no) (fun z => ks (strR z)) (fun xs => k (mapG xs)) no) (fun ds _ => k ds) (fun ds _ => k ds) (fun _ _ _ => no) (fun _ _ _ => no) (fun ns => k (ns.map fun i => .g (.int i))) (fun xs => k (mapG xs)) no () (fun _ _ _ _ => ()) d
def cSeqA (c : CPt) : CWt := fun ρ e k0 k1 => c ρ e (fun d => walkK d k0 k0 .bad) (fun d => walkK d k0 k1 .bad)
theorem walkK_le {ρ : Type} {p : Pv} {ks k : List D → PR ρ} {k' : Walk → PR ρ} (h0 : ∀ l, PR.le (ks l) (k' ⟨l, false⟩)) (h1 : ∀ l, PR.le (k l) (k' ⟨l, isBor p⟩)) : PR.le (walkK p.d ks k .bad) ((PR.of (walkA p)).bind k') := by
  unfold walkA
  cases p.d with
  | g x =>
    cases x with
    | str z => show PR.le (ks (strR z)) _; rw [strR_eq]; exact h0 _
    | tuple xs => show PR.le (k (mapG xs)) _; rw [mapG_eq]; exact h1 _
    | _ => exact .inl rfl
  | ft xs => show PR.le (k (mapG xs)) _; rw [mapG_eq]; exact h1 _
  | lst _ => exact h1 _
  | tp _ => exact h1 _
  | scr _ => exact h1 _
  | _ => exact .inl rfl
instance twSeqA (f : PF) (c : CPt) [t : TwP N pr px f c] : TwW N pr px (wSeqA f) (cSeqA c) := ⟨fun ρ e env sm k0 k1 k' h0 h1 => by
  unfold wSeqA cSeqA
  rw [PR.bb]
  exact t.h _ _ _ sm _ _ _ (fun d => walkK_le (p := .own d) h0 h0) fun d => walkK_le (p := .bor d) h0 h1⟩
def enumR (ds : List D) (n : Nat) : List D := List.rec (motive := fun _ => Nat → List D) (fun _ => []) (fun d _ ih n => dsel d (fun x => .g (.tuple [.int (.ofNat n), x])) (.tp [.g (.int (.ofNat n)), d]) (.tp [.g (.int (.ofNat n)), d]) :: ih (Nat.succ n)) ds n
theorem enumR_eq (ds : List D) (n : Nat) : enumR ds n = enumL n ds := by
  induction ds generalizing n with
  | nil => rfl
  | cons d ds ih =>
    show _ :: enumR ds (n + 1) = _
    rw [ih, enumL]
    congr 1
    cases d <;> rfl
def cEnum (c : CPt) : CWt := fun ρ e k0 k1 => c ρ e (fun d => seqK d (fun l => k0 (enumR l 0)) .bad) (fun d => seqK d (fun l => k1 (enumR l 0)) .bad)
instance twEnum (f : PF) (c : CPt) [t : TwP N pr px f c] : TwW N pr px (wEnum f) (cEnum c) := ⟨fun ρ e env sm k0 k1 k' h0 h1 => by
  unfold wEnum cEnum
  rw [PR.bb]
  refine t.h _ _ _ sm _ _ _ (fun d => ?_) fun d => ?_
  all_goals
    rw [PR.bb, seqK_eq]
    show PR.le _ ((PR.of (seqWalk d)).bind _)
    cases seqWalk d with
    | none => exact .inl rfl
    | some s =>
      dsimp only
      rw [enumR_eq]
      first | exact h0 _ | exact h1 _⟩
def zipR (xs ys : List PyData) : List D := List.rec (motive := fun _ => List PyData → List D) (fun _ => []) (fun x _ ih ys => lsel ys [] fun y ys => .g (.tuple [x, y]) :: ih ys) xs ys
theorem zipR_eq (xs ys : List PyData) : zipR xs ys = zipG xs ys := by
  induction xs generalizing ys with
  | nil => rfl
  | cons x xs ih =>
    cases ys with
    | nil => rfl
    | cons y ys => show _ :: zipR xs ys = _; rw [ih]; rfl
/-- ground items, and whether it is a list -/
def gseqK {α : Type} (d : D) (kl kt : List PyData → α) (no : α) : α := D.rec (motive_1 := fun _ => α) (motive_2 := fun _ => Unit) (fun x => psel x no (fun _ => no) (fun _ => no) (fun _ => no) (fun xs => kt xs) no) (fun ds _ => gAllK ds kl no) (fun ds _ => gAllK ds kt no) (fun _ _ _ => no) (fun _ _ _ => no) (fun ns => kl (ns.map .int)) (fun xs => kt xs) no () (fun _ _ _ _ => ()) d
theorem gAll_mapInt (ns : List Int) : gAll (ns.map fun i => .g (.int i)) = some (ns.map .int) := by
  have := gAll_map (ns.map .int)
  rw [List.map_map] at this
  exact this
theorem gseqK_eq {α : Type} (d : D) (kl kt : List PyData → α) (no : α) : gseqK d kl kt no = match seqWalk d with
    | some s => (match gAll s.2 with | some xs => if s.1 = true then kl xs else kt xs | none => no)
    | none => no := by
  cases d with
  | g x =>
    cases x with
    | tuple xs => simp only [seqWalk, gAll_map]; rfl
    | _ => rfl
  | lst ds => simp only [seqWalk]; exact gAllK_eq ds kl no
  | tp ds => simp only [seqWalk]; exact gAllK_eq ds kt no
  | scr ns => simp only [seqWalk, gAll_mapInt]; rfl
  | ft xs => simp only [seqWalk, gAll_map]; rfl
  | _ => rfl
def zipK {α : Type} (a b : D) (k : List D → α) (no : α) : α := gseqK a (fun xs => gseqK b (fun ys => k (zipR xs ys)) (fun _ => no) no) (fun xs => gseqK b (fun _ => no) (fun ys => k (zipR xs ys)) no) no
def cZip (c c' : CPt) : CWt := fun ρ e k0 k1 => c ρ e (fun a => c' ρ e (fun b => zipK a b k0 .bad) (fun b => zipK a b k1 .bad)) (fun a => (fun k => c' ρ e k k) (fun b => zipK a b k1 .bad))
theorem zipK_le {ρ : Type} {a b : D} {w : Bool} {k : List D → PR ρ} {k' : Walk → PR ρ} (h : ∀ l, PR.le (k l) (k' ⟨l, w⟩)) :
    PR.le (zipK a b k .bad) (((PR.of (seqWalk a)).bind fun s => (PR.of (seqWalk b)).bind fun t => (PR.of (gAll s.2)).bind fun xs => (PR.of (gAll t.2)).bind fun ys => if (s.1 == t.1) = true then PR.ok (Walk.mk (zipG xs ys) w) else .bad).bind k') := by
  unfold zipK
  simp only [gseqK_eq]
  cases seqWalk a with
  | none => exact .inl rfl
  | some s =>
    dsimp only [PR.of_some, PR.bind_ok]
    cases seqWalk b with
    | none =>
      left
      dsimp only
      cases gAll s.2 with
      | none => rfl
      | some xs => dsimp only; split <;> rfl
    | some t =>
      dsimp only [PR.of_some, PR.bind_ok]
      cases gAll s.2 with
      | none => exact .inl rfl
      | some xs =>
        dsimp only [PR.of_some, PR.bind_ok]
        cases gAll t.2 with
        | none => left; dsimp only; split <;> rfl
        | some ys =>
          obtain ⟨s1, s2⟩ := s
          obtain ⟨t1, t2⟩ := t
          cases s1 <;> cases t1 <;> first | exact .inl rfl | (dsimp only [PR.of_some, PR.bind_ok]; simp only [zipR_eq]; exact h _)
instance twZip (f g : PF) (c c' : CPt) [t : TwP N pr px f c] [t' : TwP N pr px g c'] : TwW N pr px (wZip f g) (cZip c c') := ⟨fun ρ e env sm k0 k1 k' h0 h1 => by
  unfold wZip cZip
  rw [PR.bb]
  refine t.h _ _ _ sm _ _ _ (fun a => ?_) fun a => ?_
  · rw [PR.bb]
    refine t'.h _ _ _ sm _ _ _ (fun b => zipK_le (w := false) h0) fun b => zipK_le (w := true) h1
  · rw [PR.bb]
    refine t'.h _ _ _ sm _ _ _ (fun b => zipK_le (w := true) h1) fun b => zipK_le (w := true) h1⟩
def cwKeys (c : CPt) : CWt := fun ρ e k0 k1 => c ρ e (fun d => keysK d (fun ks => k0 (mapG ks)) .bad) (fun d => keysK d (fun ks => k1 (mapG ks)) .bad)
instance twKeys (f : PF) (c : CPt) [t : TwP N pr px f c] : TwW N pr px (wKeys f) (cwKeys c) := ⟨fun ρ e env sm k0 k1 k' h0 h1 => by
  unfold wKeys cwKeys
  rw [PR.bb]
  refine t.h _ _ _ sm _ _ _ (fun d => ?_) fun d => ?_
  all_goals
    rw [PR.bb, keysK_eq]
    show PR.le _ ((PR.of (dKeys d)).bind _)
    cases dKeys d with
    | none => exact .inl rfl
    | some ks =>
      dsimp only
      rw [mapG_eq]
      first | exact h0 _ | exact h1 _⟩
/-! ### stores -/
def csSubL (g : T → D) (s : CSet) (cp : CPPt) (ci : CPt) (c : CIt) : CSt := fun ρ e nx rt bk ct => c ρ e fun d e => cp ρ e fun p => (fun k => ci ρ e k k) fun kd => subK p (g e) (fun ds => intK kd (fun i => ixK (lenR ds) i (fun j => s ρ (putR p (.lst (setR ds j d)) (g e)) e nx) .bad) .bad) .bad
theorem setLD_le {r : Nat} {g : T → D} {s : CSet} [LtC r N] [TwG r g] [TwS' r s] {ρ : Type} {p : List Nat} {kd d : D} {e : T} {env : List D} (sm : Sim N pr px e env) {k : T → PR ρ} {k' : List D → PR ρ} (h : ∀ e env, Sim N pr px e env → PR.le (k e) (k' env)) :
    PR.le (subK p (g e) (fun ds => intK kd (fun i => ixK (lenR ds) i (fun j => s ρ (putR p (.lst (setR ds j d)) (g e)) e k) .bad) .bad) .bad) (oelim (setLD r p kd d env) k') := by
  unfold setLD
  by_cases z0 : g e = .hole
  · rw [z0, subK_hole]; exact .inl rfl
  have z := (sm.get (i := r) (g := g)).resolve_left z0
  rw [atPath_eq z]
  cases atPath r p env with
  | none => exact .inl rfl
  | some ds =>
    simp only [intK_eq]
    show PR.le _ (oelim ((intOf kd).bind _) k')
    cases intOf kd with
    | none => exact .inl rfl
    | some i =>
      dsimp only
      rw [ixK_eq, lenR_eq]
      show PR.le _ (oelim ((ixN ds.length i).bind _) k')
      cases ixN ds.length i with
      | none => exact .inl rfl
      | some j =>
        dsimp only
        show PR.le _ (k' (wr r p (ds.set j d) env))
        unfold wr
        rw [getD_of z, ← putR_eq, ← setR_eq ds j d]
        exact oelim_set sm (putR_ne z0) h
instance twsSubL (r : Nat) (fp : PPf) (fi : PF) (f : IF) (g : T → D) (s : CSet) (cp : CPPt) (ci : CPt) (c : CIt) [LtC r N] [TwG r g] [TwS' r s] [tp : TwPP N pr px fp cp] [ti : TwP N pr px fi ci] [t : TwI N pr px f c] : TwS N pr px (sSubL r fp fi f) (csSubL g s cp ci c) := ⟨fun ρ e env sm nx rt bk ct nx' rt' bk' ct' h1 h2 h3 h4 => by
  unfold sSubL csSubL
  rw [IR.eS]
  refine t.h _ _ _ sm _ _ fun d e env sm => ?_
  rw [IR.eS, IR.eP]
  refine tp.h _ _ _ sm _ _ fun p => ?_
  rw [IR.eS, IR.eP]
  refine ti.hh sm fun k => ?_
  rw [opS_elim]
  exact setLD_le sm h1⟩
class TwPutD (c : outParam ((ρ : Type) → D → PyData → D → (D → PR ρ) → PR ρ)) : Prop where
  h : ∀ (ρ : Type) (c0 : D) (x : PyData) (d : D) (k : D → PR ρ) (k' : D → PR ρ), (∀ d, d ≠ .hole → PR.le (k d) (k' d)) → PR.le (c ρ c0 x d k) ((PR.of (putDic c0 x d)).bind k')
def csPut (cd : (ρ : Type) → D → PyData → D → (D → PR ρ) → PR ρ) (g : T → D) (s : CSet) (ci : CPt) (c : CIt) : CSt := fun ρ e nx rt bk ct => c ρ e fun d e => dsel (g e) (fun _ => .bad) ((fun k => ci ρ e k k) fun kd => dsel kd (fun x => cd ρ (g e) x d fun c => s ρ c e nx) .bad .bad) .bad
theorem putDic_g {x0 x : PyData} {d : D} : putDic (.g x0) x d = none := by
  unfold putDic dPart
  rfl
instance twsPut (r : Nat) (fi : PF) (f : IF) (cd) (g : T → D) (s : CSet) (ci : CPt) (c : CIt) [tcd : TwPutD cd] [LtC r N] [TwG r g] [TwS' r s] [ti : TwP N pr px fi ci] [t : TwI N pr px f c] : TwS N pr px (sPut r fi f) (csPut cd g s ci c) := ⟨fun ρ e env sm nx rt bk ct nx' rt' bk' ct' h1 h2 h3 h4 => by
  unfold sPut csPut
  rw [IR.eS]
  refine t.h _ _ _ sm _ _ fun d e env sm => ?_
  rw [IR.eS, IR.eP]
  unfold liveAt
  rcases sm.get (i := r) (g := g) with z | z
  · rw [z]; exact .inl rfl
  rw [z]
  have main : PR.le ((fun k => ci ρ e k k) fun kd => dsel kd (fun x => cd ρ (g e) x d fun c => s ρ c e nx) .bad .bad) (((IR.ofP (fi env) env).toS fun k e => OpS (putSl r k.d d e)).elim nx' rt' bk' ct') := by
    rw [IR.eS, IR.eP]
    refine ti.hh sm fun k => ?_
    rw [opS_elim]
    unfold putSl
    rw [z]
    cases k.d with
    | g x =>
      dsimp only [dsel]
      refine PR.le.trans (tcd.h ρ (g e) x d (fun c => s ρ c e nx) (fun c => nx' (env.set r c)) (fun c hc => oelim_set sm hc h1)) (.inr ?_)
      cases putDic (g e) x d <;> rfl
    | _ => exact .inl rfl
  cases e0 : g e with
  | g x0 => exact .inl rfl
  | hole => exact .inl rfl
  | _ => rw [e0] at main; exact main⟩
end
end Ow

set_option Elab.async false
set_option linter.all false
set_option maxRecDepth 100000
set_option maxHeartbeats 1000000
/-! OwYf: quick twins: errors, defs; ints, equality, in, places, dicts. -/
namespace Ow
open PySem PySem.Spec PyProof.Rows L2
noncomputable section
variable {N pr : Nat} {px : D}
/-! ### targets with places -/
class TwGE (N pr : Nat) (px : D) (b : PyData → List D → Option (List D)) (c : outParam ((ρ : Type) → PyData → T → (T → PR ρ) → PR ρ)) : Prop where
  h : ∀ (ρ : Type) (x : PyData) (e : T) (env : List D) (sm : Sim N pr px e env) (k : T → PR ρ) (k' : List D → PR ρ), (∀ e env, Sim N pr px e env → PR.le (k e) (k' env)) → PR.le (c ρ x e k) (oelim (b x env) k')
class TwGEs (N pr : Nat) (px : D) (b : List PyData → List D → Option (List D)) (c : outParam ((ρ : Type) → List PyData → T → (T → PR ρ) → PR ρ)) : Prop where
  h : ∀ (ρ : Type) (x : List PyData) (e : T) (env : List D) (sm : Sim N pr px e env) (k : T → PR ρ) (k' : List D → PR ρ), (∀ e env, Sim N pr px e env → PR.le (k e) (k' env)) → PR.le (c ρ x e k) (oelim (b x env) k')
def cbNm (s : CSet) : (ρ : Type) → PyData → T → (T → PR ρ) → PR ρ := fun ρ x e k => s ρ (.g x) e k
instance twbNm (i : Nat) (s : CSet) [LtC i N] [TwS' i s] : TwGE N pr px (bNm i) (cbNm s) := ⟨fun ρ x e env sm k k' h => by
  unfold bNm cbNm
  rw [putD_g sm]
  exact oelim_set sm (by simp) h⟩
def cbSub (g : T → D) (s : CSet) (cp : CPPt) (ci : CPt) : (ρ : Type) → PyData → T → (T → PR ρ) → PR ρ := fun ρ x e k => PR.rec (motive := fun _ => PR ρ) (fun pk => subK pk.1 (g e) (fun ds => intK pk.2 (fun i => ixK (lenR ds) i (fun j => s ρ (putR pk.1 (.lst (setR ds j (.g x))) (g e)) e k) .bad) .bad) .bad) (fun _ => .bad) .bad (cp (List Nat × D) e fun p => (fun k => ci (List Nat × D) e k k) fun kd => .ok (p, kd))
instance twbSub (r : Nat) (fp : PPf) (fi : PF) (g : T → D) (s : CSet) (cp : CPPt) (ci : CPt) [LtC r N] [TwG r g] [TwS' r s] [tp : TwPP N pr px fp cp] [ti : TwP N pr px fi ci] : TwGE N pr px (bSub r fp fi) (cbSub g s cp ci) := ⟨fun ρ x e env sm k k' h => by
  unfold bSub cbSub
  have key := tp.h (List Nat × D) e env sm (fun p => (fun k => ci (List Nat × D) e k k) fun kd => PR.ok (p, kd)) (fun p => (fi env).bind fun q => PR.ok (p, q.d)) fun p => ti.hh sm fun q => .inr rfl
  rcases key with key | key
  · rw [key]; exact .inl rfl
  · rw [key]
    cases fp env with
    | err _ => exact .inl rfl
    | bad => exact .inl rfl
    | ok p =>
      cases fi env with
      | err _ => exact .inl rfl
      | bad => exact .inl rfl
      | ok q => exact setLD_le sm h⟩
def cbNil : (ρ : Type) → List PyData → T → (T → PR ρ) → PR ρ := fun ρ xs e k => lsel xs (k e) fun _ _ => .bad
instance twbNil : TwGEs N pr px bNil cbNil := ⟨fun ρ x e env sm k k' h => by
  cases x with
  | nil => exact h e _ sm
  | cons _ _ => exact .inl rfl⟩
def cbCons (c : (ρ : Type) → PyData → T → (T → PR ρ) → PR ρ) (cs : (ρ : Type) → List PyData → T → (T → PR ρ) → PR ρ) : (ρ : Type) → List PyData → T → (T → PR ρ) → PR ρ := fun ρ xs e k => lsel xs .bad fun x xs => c ρ x e fun e => cs ρ xs e k
instance twbCons (b : PyData → List D → Option (List D)) (bs : List PyData → List D → Option (List D)) (c cs) [t : TwGE N pr px b c] [ts : TwGEs N pr px bs cs] : TwGEs N pr px (bCons b bs) (cbCons c cs) := ⟨fun ρ x e env sm k k' h => by
  cases x with
  | nil => exact .inl rfl
  | cons x xs =>
    unfold bCons
    rw [oelim_bind]
    exact t.h _ _ _ _ sm _ _ fun e env sm => ts.h _ _ _ _ sm _ _ h⟩
def cbTup (n : Nat) (cs : (ρ : Type) → List PyData → T → (T → PR ρ) → PR ρ) : (ρ : Type) → PyData → T → (T → PR ρ) → PR ρ := fun ρ x e k => psel x .bad (fun _ => .bad) (fun _ => .bad) (fun _ => .bad) (fun xs => bsel (Nat.beq (lenR xs) n) (cs ρ xs e k) .bad) .bad
instance twbTup (n : Nat) (bs : List PyData → List D → Option (List D)) (cs) [ts : TwGEs N pr px bs cs] : TwGE N pr px (bTup n bs) (cbTup n cs) := ⟨fun ρ x e env sm k k' h => by
  cases x with
  | tuple xs =>
    show PR.le (bsel _ _ _) (oelim (if xs.length = n then _ else _) k')
    rw [beq_dec, bsel_dec, lenR_eq]
    split
    · exact ts.h _ _ _ _ sm _ _ h
    · exact .inl rfl
  | _ => exact .inl rfl⟩
def csAsgE (cb : (ρ : Type) → PyData → T → (T → PR ρ) → PR ρ) (c : CIt) : CSt := fun ρ e nx rt bk ct => c ρ e fun d e => dsel d (fun x => cb ρ x e nx) .bad .bad
instance twsAsgE (b : PyData → List D → Option (List D)) (f : IF) (cb) (c : CIt) [tb : TwGE N pr px b cb] [t : TwI N pr px f c] : TwS N pr px (sAsgE b f) (csAsgE cb c) := ⟨fun ρ e env sm nx rt bk ct nx' rt' bk' ct' h1 h2 h3 h4 => by
  unfold sAsgE csAsgE
  rw [IR.eS]
  refine t.h _ _ _ sm _ _ fun d e env sm => ?_
  rw [opS_elim]
  cases d with
  | g x => exact tb.h _ _ _ _ sm _ _ h1
  | _ => exact .inl rfl⟩
/-! ### errors -/
def csRaise1 (nm : String) (cl : CLt) : CSt := fun ρ e nx rt bk ct => cl ρ e fun ds => lsel ds .bad fun d r => lsel r (dsel d (fun x => .err ⟨nm, x, .int 0⟩) .bad .bad) fun _ _ => .bad
instance twsRaise1 (nm : String) (f : PL) (cl : CLt) [t : TwL N pr px f cl] : TwS N pr px (sRaise1 nm f) (csRaise1 nm cl) := ⟨fun ρ e env sm nx rt bk ct nx' rt' bk' ct' h1 h2 h3 h4 => by
  unfold sRaise1 csRaise1
  rw [IR.eS, IR.eP, PR.bb]
  refine t.h _ _ _ sm _ _ fun ds => ?_
  match ds with
  | [] => exact .inl rfl
  | [d] => cases d <;> first | exact .inr rfl | exact .inl rfl
  | _ :: _ :: _ => exact .inl rfl⟩
def csRaise2 (nm : String) (cl : CLt) : CSt := fun ρ e nx rt bk ct => cl ρ e fun ds => lsel ds .bad fun d r => lsel r .bad fun d' r => lsel r (dsel d (fun x => dsel d' (fun y => .err ⟨nm, x, y⟩) .bad .bad) .bad .bad) fun _ _ => .bad
instance twsRaise2 (nm : String) (f : PL) (cl : CLt) [t : TwL N pr px f cl] : TwS N pr px (sRaise2 nm f) (csRaise2 nm cl) := ⟨fun ρ e env sm nx rt bk ct nx' rt' bk' ct' h1 h2 h3 h4 => by
  unfold sRaise2 csRaise2
  rw [IR.eS, IR.eP, PR.bb]
  refine t.h _ _ _ sm _ _ fun ds => ?_
  match ds with
  | [] => exact .inl rfl
  | [_] => exact .inl rfl
  | [d, d'] => cases d <;> cases d' <;> first | exact .inr rfl | exact .inl rfl
  | _ :: _ :: _ :: _ => exact .inl rfl⟩
def csTry (nm : String) (both : Bool) (cg : CSt) : CSt := fun ρ e nx rt bk ct => PR.rec (motive := fun _ => PR ρ) (fun r => rt r deadT) (fun x => bsel (x.cls == nm) (rt (.g (bsel both (.tuple [x.code, x.place]) x.code)) deadT) (.err x)) .bad (cg D e (fun e => .bad) (fun d _ => .ok d) (fun e => .bad) (fun e => .bad))
instance twsTry (i : Nat) (nm : String) (both : Bool) (fz : List Nat) (g : SF) (cg : CSt) [LtC i N] [t : TwS N pr px g cg] : TwS N pr px (sTry i nm both fz g) (csTry nm both cg) := ⟨fun ρ e env sm nx rt bk ct nx' rt' bk' ct' h1 h2 h3 h4 => by
  unfold sTry csTry
  have hi := sm.lt (i := i)
  have key := t.h D e env sm (fun e => .bad) (fun d _ => .ok d) (fun e => .bad) (fun e => .bad) (fun e => .bad) (fun d _ => .ok d) (fun e => .bad) (fun e => .bad) (fun _ _ _ => .inr rfl) (fun _ _ _ _ => .inr rfl) (fun _ _ _ => .inr rfl) fun _ _ _ => .inr rfl
  rcases key with key | key
  · rw [key]; exact .inl rfl
  · rw [key]
    cases e1 : g env with
    | rt d env => exact h2 d _ _ (.inr rfl)
    | err x =>
      show PR.le (bsel _ _ _) (SR.elim (if _ then _ else _) nx' rt' bk' ct')
      rw [if_neg (by omega), bsel_eq]
      by_cases hc : (x.cls == nm) = true
      · rw [if_pos hc, if_pos hc]
        have : (if both = true then PyData.tuple [x.code, x.place] else x.code) = bsel both (.tuple [x.code, x.place]) x.code := (bsel_eq _ _ _).symm
        rw [this]
        exact h2 _ _ _ (.inr rfl)
      · rw [if_neg hc, if_neg hc]; exact .inr rfl
    | _ => exact .inl rfl⟩
/-! ### a def -/
def inT (ds : List D) : T := T.mk (O8.mk (nthR ds 0 id .hole) (nthR ds 1 id .hole) (nthR ds 2 id .hole) (nthR ds 3 id .hole) (nthR ds 4 id .hole) (nthR ds 5 id .hole) (nthR ds 6 id .hole) (nthR ds 7 id .hole)) h8 h8 h8
def chkIn {α : Type} (fz : List Nat) (ds : List D) (n : Nat) (t f : α) : α := List.rec (motive := fun _ => Nat → α) (fun _ => t) (fun d _ ih n => bsel (fz.contains n) (ih (Nat.succ n)) (dsel d (fun _ => ih (Nat.succ n)) f f)) ds n
theorem chkIn_eq {α : Type} (fz : List Nat) (t f : α) (ds : List D) (n : Nat) : chkIn fz ds n t f = if (List.range ds.length).all (fun i => fz.contains (n + i) || (match ds[i]? with | some d => grd d | none => false)) = true then t else f := by
  induction ds generalizing n with
  | nil => rfl
  | cons d ds ih =>
    show bsel (fz.contains n) (chkIn fz ds (n + 1) t f) (dsel d (fun _ => chkIn fz ds (n + 1) t f) f f) = _
    rw [ih, List.length_cons, List.range_succ_eq_map, List.all_cons, List.all_map]
    have e1 : ((List.range ds.length).all fun i => fz.contains (n + 1 + i) || (match ds[i]? with | some d => grd d | none => false)) = ((List.range ds.length).all ((fun i => fz.contains (n + i) || (match (d :: ds)[i]? with | some d => grd d | none => false)) ∘ Nat.succ)) := by
      congr 1
      funext i
      show _ = (fz.contains (n + (i + 1)) || _)
      rw [show n + 1 + i = n + (i + 1) by omega]
      rfl
    rw [e1]
    have e2 : (match (d :: ds)[0]? with | some d => grd d | none => false) = grd d := rfl
    rw [e2, Nat.add_zero, bsel_eq]
    cases fz.contains n with
    | true => simp
    | false => cases d <;> simp [dsel, grd]
class LeN (n : Nat) : Prop where
  h : n ≤ 8
instance : LeN 0 := ⟨by omega⟩
instance : LeN 1 := ⟨by omega⟩
instance : LeN 2 := ⟨by omega⟩
instance : LeN 3 := ⟨by omega⟩
instance : LeN 4 := ⟨by omega⟩
instance : LeN 5 := ⟨by omega⟩
instance : LeN 6 := ⟨by omega⟩
instance : LeN 7 := ⟨by omega⟩
instance : LeN 8 := ⟨by omega⟩
theorem nth_id (ds : List D) (n : Nat) : nthR ds n id .hole = ds.getD n .hole := by
  rw [nthR_eq, List.getD_eq_getElem?_getD]
  cases ds[n]? <;> rfl
theorem inT_full (ds : List D) (hn : ds.length ≤ 8) : ∀ i d, (full (inT ds))[i]? = some d → d = ds.getD i .hole := fun i d hd => by
  by_cases h8 : i < 8
  · match i, h8 with
    | 0, _ => rw [← nth_id]; exact (Option.some.inj hd).symm
    | 1, _ => rw [← nth_id]; exact (Option.some.inj hd).symm
    | 2, _ => rw [← nth_id]; exact (Option.some.inj hd).symm
    | 3, _ => rw [← nth_id]; exact (Option.some.inj hd).symm
    | 4, _ => rw [← nth_id]; exact (Option.some.inj hd).symm
    | 5, _ => rw [← nth_id]; exact (Option.some.inj hd).symm
    | 6, _ => rw [← nth_id]; exact (Option.some.inj hd).symm
    | 7, _ => rw [← nth_id]; exact (Option.some.inj hd).symm
  · obtain ⟨j, rfl⟩ : ∃ j, i = j + 8 := ⟨i - 8, by omega⟩
    have hd : ([] ++ (List.replicate 24 D.hole))[j]? = some d := hd
    rw [List.nil_append, List.getElem?_replicate] at hd
    split at hd
    · cases hd
      rw [List.getD_eq_getElem?_getD, List.getElem?_eq_none (by omega)]; rfl
    · cases hd
theorem inT_sim {n : Nat} (ds : List D) (hl : ds.length = n) (hn : n ≤ 8) (h1 : n ≤ N) (hN : N ≤ 32) : Sim N 99 .hole (inT ds) (ds ++ List.replicate (N - n) .hole) := ⟨by rw [List.length_append, List.length_replicate]; omega, fun i hi d hd => by
  have e := inT_full ds (by omega) i d hd
  subst e
  by_cases h : i < ds.length
  · right
    rw [List.getElem?_append_left h, List.getD_eq_getElem?_getD, List.getElem?_eq_getElem h]; rfl
  · left
    rw [List.getD_eq_getElem?_getD, List.getElem?_eq_none (by omega)]; rfl, fun h => by omega⟩
def cDef (n : Nat) (fz : List Nat) (cg : CSt) : List D → PR D := fun ds => lenEq ds n (chkIn fz ds 0 (cg D (inT ds) (fun _ => .ok (.g .none)) (fun d _ => .ok d) (fun _ => .bad) (fun _ => .bad)) .bad) .bad
theorem twDef {n : Nat} {fz : List Nat} {g : SF} {cg : CSt} (hn : n ≤ 8) (h1 : n ≤ N) (hN : N ≤ 32) (t : TwS N 99 .hole g cg) : TwD (defP N n fz g) (cDef n fz cg) := ⟨fun ds => by
  unfold cDef defP
  rw [lenEq_eq]
  split
  · rename_i hl
    rw [chkIn_eq]
    have e : ((List.range ds.length).all fun i => fz.contains (0 + i) || (match ds[i]? with | some d => grd d | none => false)) = entOk fz ds := by
      unfold entOk
      simp only [Nat.zero_add] <;> rfl
    rw [e]
    split
    · have key := t.h D (inT ds) _ (inT_sim ds hl hn h1 hN) (fun _ => .ok (.g .none)) (fun d _ => .ok d) (fun _ => .bad) (fun _ => .bad) (fun _ => .ok (.g .none)) (fun d _ => .ok d) (fun _ => .bad) (fun _ => .bad) (fun _ _ _ => .inr rfl) (fun _ _ _ _ => .inr rfl) (fun _ _ _ => .inr rfl) fun _ _ _ => .inr rfl
      refine PR.le.trans key (.inr ?_)
      cases g (ds ++ List.replicate (N - n) .hole) <;> rfl
    · exact .inl rfl
  · exact .inl rfl⟩
end
end Ow

set_option Elab.async false
set_option linter.all false
set_option maxRecDepth 100000
set_option maxHeartbeats 1000000
/-! OwYg: quick twins of operations. -/
namespace Ow
open PySem PySem.Spec PyProof.Rows L2
noncomputable section
/-! ### ints -/
def ieqR (i j : Int) : Bool := Int.rec (motive := fun _ => Bool) (fun a => Int.rec (motive := fun _ => Bool) (fun b => Nat.beq a b) (fun _ => false) j) (fun a => Int.rec (motive := fun _ => Bool) (fun _ => false) (fun b => Nat.beq a b) j) i
theorem ieqR_eq (i j : Int) : ieqR i j = decide (i = j) := by
  cases i with
  | ofNat a =>
    cases j with
    | ofNat b =>
      show Nat.beq a b = _
      rw [beq_dec]
      by_cases h : a = b
      · subst h; simp
      · rw [decide_eq_false h, decide_eq_false fun z => h (Int.ofNat.inj z)]
    | negSucc b => show false = _; rw [decide_eq_false (by simp)]
  | negSucc a =>
    cases j with
    | ofNat b => show false = _; rw [decide_eq_false (by simp)]
    | negSucc b =>
      show Nat.beq a b = _
      rw [beq_dec]
      by_cases h : a = b
      · subst h; simp
      · rw [decide_eq_false h, decide_eq_false fun z => h (Int.negSucc.inj z)]
def iltR (i j : Int) : Bool := Int.rec (motive := fun _ => Bool) (fun a => Int.rec (motive := fun _ => Bool) (fun b => Nat.ble (Nat.succ a) b) (fun _ => false) j) (fun a => Int.rec (motive := fun _ => Bool) (fun _ => true) (fun b => Nat.ble (Nat.succ b) a) j) i
theorem iltR_eq (i j : Int) : iltR i j = decide (i < j) := by
  cases i with
  | ofNat a =>
    cases j with
    | ofNat b =>
      show Nat.ble (a + 1) b = _
      rw [ble_eq]
      exact decide_eq_decide.mpr (by simp only [Int.ofNat_eq_natCast]; omega)
    | negSucc b => show false = _; rw [decide_eq_false (by simp only [Int.ofNat_eq_natCast]; omega)]
  | negSucc a =>
    cases j with
    | ofNat b => show true = _; rw [decide_eq_true (by simp only [Int.ofNat_eq_natCast]; omega)]
    | negSucc b =>
      show Nat.ble (b + 1) a = _
      rw [ble_eq]
      exact decide_eq_decide.mpr (by omega)
def frc {α : Type} (i : Int) (k : Int → α) : α := Int.rec (motive := fun _ => α) (fun a => k (.ofNat a)) (fun a => k (.negSucc a)) i
theorem frc_eq {α : Type} (i : Int) (k : Int → α) : frc i k = k i := by cases i <;> rfl
def subNK {α : Type} (m n : Nat) (k : Int → α) : α := bsel (Nat.ble n m) (k (.ofNat (Nat.sub m n))) (k (.negSucc (Nat.pred (Nat.sub n m))))
theorem subNK_eq {α : Type} (m n : Nat) (k : Int → α) : subNK m n k = k ((m : Int) - (n : Int)) := by
  unfold subNK
  rw [ble_eq, bsel_dec]
  split
  · congr 1
    show ((m - n : Nat) : Int) = _
    omega
  · congr 1
    have : Nat.pred (Nat.sub n m) = n - m - 1 := rfl
    rw [this]
    omega
def addK {α : Type} (i j : Int) (k : Int → α) : α := Int.rec (motive := fun _ => α) (fun a => Int.rec (motive := fun _ => α) (fun b => k (.ofNat (Nat.add a b))) (fun b => subNK a (Nat.succ b) k) j) (fun a => Int.rec (motive := fun _ => α) (fun b => subNK b (Nat.succ a) k) (fun b => k (.negSucc (Nat.succ (Nat.add a b)))) j) i
theorem addK_eq {α : Type} (i j : Int) (k : Int → α) : addK i j k = k (i + j) := by
  unfold addK
  cases i with
  | ofNat a =>
    cases j with
    | ofNat b => rfl
    | negSucc b => dsimp only; rw [subNK_eq]; congr 1
  | negSucc a =>
    cases j with
    | ofNat b => dsimp only; rw [subNK_eq]; congr 1
    | negSucc b => rfl
def subK' {α : Type} (i j : Int) (k : Int → α) : α := Int.rec (motive := fun _ => α) (fun a => Int.rec (motive := fun _ => α) (fun b => subNK a b k) (fun b => k (.ofNat (Nat.add a (Nat.succ b)))) j) (fun a => Int.rec (motive := fun _ => α) (fun b => k (.negSucc (Nat.add a b))) (fun b => subNK (Nat.succ b) (Nat.succ a) k) j) i
theorem subK'_eq {α : Type} (i j : Int) (k : Int → α) : subK' i j k = k (i - j) := by
  unfold subK'
  cases i with
  | ofNat a =>
    cases j with
    | ofNat b => dsimp only; rw [subNK_eq]; congr 1
    | negSucc b => dsimp only; congr 1
  | negSucc a =>
    cases j with
    | ofNat b =>
      dsimp only
      congr 1
      show Int.negSucc (a + b) = _
      simp only [Int.ofNat_eq_natCast]
      omega
    | negSucc b => dsimp only; rw [subNK_eq]; congr 1
/-- two ints, or other -/
def int2 {α : Type} (a b : D) (k : Int → Int → α) (o : α) : α := dsel a (fun x => pint x (fun i => dsel b (fun y => pint y (fun j => k i j) o) o o) o) o o
theorem int2_cases {α : Type} (a b : D) (k : Int → Int → α) (o : α) (P : α → Prop) (h1 : ∀ i j, a = .g (.int i) → b = .g (.int j) → P (k i j)) (h2 : P o) : P (int2 a b k o) := by
  unfold int2
  cases a with
  | g x =>
    cases x with
    | int i =>
      cases b with
      | g y =>
        cases y with
        | int j => exact h1 i j rfl rfl
        | _ => exact h2
      | _ => exact h2
    | _ => exact h2
  | _ => exact h2
theorem int2_le {ρ : Type} {a b : D} {k : Int → Int → PR ρ} {o r : PR ρ} (h1 : ∀ i j, a = .g (.int i) → b = .g (.int j) → PR.le (k i j) r) (h2 : PR.le o r) : PR.le (int2 a b k o) r := int2_cases a b k o (fun z => PR.le z r) h1 h2
theorem osel_leF {ρ : Type} {F : D → D → Option D} {a b : D} {k k' : D → PR ρ} (h : ∀ d, PR.le (k d) (k' d)) : PR.le (osel (F a b) .bad k) ((PR.of (F a b)).bind k') := osel_le h
/-- tuples, or other -/
def tup2 {α : Type} (a b : D) (k : List PyData → List PyData → α) (o : α) : α := dsel a (fun x => psel x o (fun _ => o) (fun _ => o) (fun _ => o) (fun xs => dsel b (fun y => psel y o (fun _ => o) (fun _ => o) (fun _ => o) (fun ys => k xs ys) o) o o) o) o o
theorem tup2_le {ρ : Type} {a b : D} {k : List PyData → List PyData → PR ρ} {o r : PR ρ} (h1 : ∀ i j, a = .g (.tuple i) → b = .g (.tuple j) → PR.le (k i j) r) (h2 : PR.le o r) : PR.le (tup2 a b k o) r := by
  unfold tup2
  cases a with
  | g x =>
    cases x with
    | tuple i =>
      cases b with
      | g y =>
        cases y with
        | tuple j => exact h1 i j rfl rfl
        | _ => exact h2
      | _ => exact h2
    | _ => exact h2
  | _ => exact h2
def cfAdd : CFt := fun ρ a b k => int2 a b (fun i j => addK i j fun r => k (.g (.int r))) (tup2 a b (fun xs ys => bsel (Nat.ble (Nat.add (lenR xs) (lenR ys)) 16777216) (k (.g (.tuple (appR xs ys)))) .bad) (osel (fAdd a b) .bad k))
instance twfAdd : TwF fAdd cfAdd := ⟨fun ρ a b k k' h => by
  unfold cfAdd
  refine int2_le (fun i j ea eb => ?_) (tup2_le (fun xs ys ea eb => ?_) (osel_le h))
  · subst ea eb; rw [addK_eq]; exact h _
  · subst ea eb
    rw [ble_eq, bsel_dec, lenR_eq, lenR_eq, appR_eq]
    show PR.le _ ((PR.of (if xs.length + ys.length ≤ sizeLine then _ else _)).bind k')
    by_cases hz : xs.length + ys.length ≤ sizeLine
    · rw [if_pos hz, if_pos (show Nat.add xs.length ys.length ≤ 16777216 from hz)]; exact h _
    · rw [if_neg hz, if_neg (show ¬ Nat.add xs.length ys.length ≤ 16777216 from hz)]; exact .inl rfl⟩
def cfSub : CFt := fun ρ a b k => int2 a b (fun i j => subK' i j fun r => k (.g (.int r))) .bad
instance twfSub : TwF fSub cfSub := ⟨fun ρ a b k k' h => by
  unfold cfSub
  refine int2_le (fun i j ea eb => ?_) (.inl rfl)
  subst ea eb; rw [subK'_eq]; exact h _⟩
def small64 {α : Type} (i : Int) (t f : α) : α := Int.rec (motive := fun _ => α) (fun a => bsel (Nat.ble a 18446744073709551615) t f) (fun a => bsel (Nat.ble a 18446744073709551614) t f) i
theorem small64_eq {α : Type} (i : Int) (t f : α) : small64 i t f = if -18446744073709551616 < i ∧ i < 18446744073709551616 then t else f := by
  unfold small64
  cases i with
  | ofNat a =>
    dsimp only
    rw [ble_eq, bsel_dec]
    by_cases h : a ≤ 18446744073709551615
    · rw [if_pos h, if_pos (by simp only [Int.ofNat_eq_natCast]; omega)]
    · rw [if_neg h, if_neg (by simp only [Int.ofNat_eq_natCast]; omega)]
  | negSucc a =>
    dsimp only
    rw [ble_eq, bsel_dec]
    by_cases h : a ≤ 18446744073709551614
    · rw [if_pos h, if_pos (by omega)]
    · rw [if_neg h, if_neg (by omega)]
def mulK {α : Type} (i j : Int) (k : Int → α) : α := Int.rec (motive := fun _ => α) (fun a => Int.rec (motive := fun _ => α) (fun b => k (.ofNat (Nat.mul a b))) (fun b => frc (Int.mul (.ofNat a) (.negSucc b)) k) j) (fun a => frc (Int.mul (.negSucc a) j) k) i
theorem mulK_eq {α : Type} (i j : Int) (k : Int → α) : mulK i j k = k (i * j) := by
  unfold mulK
  cases i with
  | ofNat a => cases j <;> first | rfl | (dsimp only; rw [frc_eq]; rfl)
  | negSucc a => dsimp only; rw [frc_eq]; rfl
def cfMul : CFt := fun ρ a b k => int2 a b (fun i j => small64 i (mulK i j fun r => k (.g (.int r))) (osel (fMul (.g (.int i)) (.g (.int j))) .bad k)) (osel (fMul a b) .bad k)
instance twfMul : TwF fMul cfMul := ⟨fun ρ a b k k' h => by
  unfold cfMul
  refine int2_le (fun i j ea eb => ?_) (osel_le h)
  subst ea eb
  rw [small64_eq]
  split
  · rename_i hz
    rw [mulK_eq]
    show PR.le _ ((PR.of (if _ then _ else _)).bind k')
    rw [if_pos (.inl hz)]
    exact h _
  · exact osel_le h⟩
def posK {α : Type} (j : Int) (k : Nat → α) (o : α) : α := Int.rec (motive := fun _ => α) (fun b => Nat.rec (motive := fun _ => α) o (fun m _ => k (Nat.succ m)) b) (fun _ => o) j
theorem posK_le {ρ : Type} {j : Int} {k : Nat → PR ρ} {o r : PR ρ} (h : ∀ b : Nat, j = (b : Int) → 0 < b → PR.le (k b) r) (h2 : PR.le o r) : PR.le (posK j k o) r := by
  unfold posK
  cases j with
  | ofNat b =>
    cases b with
    | zero => exact h2
    | succ m => exact h (m + 1) rfl (by omega)
  | negSucc _ => exact h2
def cfMod : CFt := fun ρ a b k => int2 a b (fun i j => posK j (fun m => Int.rec (motive := fun _ => PR ρ) (fun n => k (.g (.int (.ofNat (Nat.mod n m))))) (fun n => frc (Int.emod (.negSucc n) (.ofNat m)) fun r => k (.g (.int r))) i) (osel (fMod (.g (.int i)) (.g (.int j))) .bad k)) .bad
instance twfMod : TwF fMod cfMod := ⟨fun ρ a b k k' h => by
  unfold cfMod
  refine int2_le (fun i j ea eb => ?_) (.inl rfl)
  subst ea eb
  refine posK_le (fun m ej hm => ?_) (osel_le h)
  subst ej
  show PR.le _ ((PR.of (if _ then _ else _)).bind k')
  rw [if_pos (by omega)]
  cases i with
  | ofNat n => exact h _
  | negSucc n => dsimp only; rw [frc_eq]; exact h _⟩
def cfDiv : CFt := fun ρ a b k => int2 a b (fun i j => posK j (fun m => bsel (Nat.ble m 1073741823) (Int.rec (motive := fun _ => PR ρ) (fun n => k (.g (.int (.ofNat (Nat.div n m))))) (fun n => frc (Int.ediv (.negSucc n) (.ofNat m)) fun r => k (.g (.int r))) i) (osel (fDiv (.g (.int i)) (.g (.int j))) .bad k)) (osel (fDiv (.g (.int i)) (.g (.int j))) .bad k)) .bad
instance twfDiv : TwF fDiv cfDiv := ⟨fun ρ a b k k' h => by
  unfold cfDiv
  refine int2_le (fun i j ea eb => ?_) (.inl rfl)
  subst ea eb
  refine posK_le (fun m ej hm => ?_) (osel_le h)
  subst ej
  rw [ble_eq, bsel_dec]
  split
  · rename_i hz
    show PR.le _ ((PR.of (if _ then _ else _)).bind k')
    rw [if_pos ⟨by omega, .inl (by omega)⟩]
    cases i with
    | ofNat n => exact h _
    | negSucc n => dsimp only; rw [frc_eq]; exact h _
  · exact osel_le h⟩
/-! ### texts; data that may be compared -/
def natsEq (xs ys : List Nat) : Bool := List.rec (motive := fun _ => List Nat → Bool) (fun ys => lsel ys true fun _ _ => false) (fun x _ ih ys => lsel ys false fun y ys => bsel (Nat.beq x y) (ih ys) false) xs ys
theorem natsEq_eq (xs ys : List Nat) : natsEq xs ys = decide (xs = ys) := by
  induction xs generalizing ys with
  | nil => cases ys <;> simp [natsEq, lsel]
  | cons x xs ih =>
    cases ys with
    | nil => simp [natsEq, lsel]
    | cons y ys =>
      show bsel (Nat.beq x y) (natsEq xs ys) false = _
      rw [ih, beq_dec]
      by_cases h : x = y
      · subst h; simp [bsel]
      · simp [bsel, h]
def streqR (x y : Str) : Bool := natsEq x.cps.toList y.cps.toList
theorem streqR_eq (x y : Str) : streqR x y = decide (x = y) := by
  unfold streqR
  rw [natsEq_eq]
  refine decide_eq_decide.mpr ⟨fun h => ?_, fun h => by rw [h]⟩
  cases x; cases y
  have := Array.toList_inj.mp h
  simp only at this
  rw [this]
def strOkR (x : Str) : Bool := List.rec (motive := fun _ => Bool) true (fun c _ ih => bsel (Nat.ble (Nat.succ c) 1114112) ih false) x.cps.toList
theorem strOkR_eq {x : Str} (h : strOkR x = true) : PyData.strOk x = true := by
  unfold PyData.strOk
  rw [← Array.all_toList]
  unfold strOkR at h
  generalize x.cps.toList = l at h
  induction l with
  | nil => rfl
  | cons c l ih =>
    dsimp only at h
    rw [bsel_eq] at h
    split at h
    · rename_i hz
      rw [Nat.ble_eq] at hz
      rw [List.all_cons, ih h, Bool.and_true]
      exact decide_eq_true hz
    · cases h
def okR (x : PyData) : Nat → Bool :=
  PyData.rec (motive_1 := fun _ => Nat → Bool) (motive_2 := fun _ => Nat → Bool) (motive_3 := fun _ => Unit) (motive_4 := fun _ => Unit) (fun _ => true) (fun _ _ => true) (fun _ _ => true) (fun s _ => strOkR s)
    (fun _ ih n => Nat.rec (motive := fun _ => Bool) false (fun m _ => ih m) n) (fun _ ih n => Nat.rec (motive := fun _ => Bool) false (fun m _ => ih m) n) (fun _ _ _ => false) (fun _ => true) (fun _ _ h t n => bsel (h n) (t n) false) () (fun _ _ _ _ => ()) (fun _ _ _ _ => ()) x
def okRs (xs : List PyData) (n : Nat) : Bool := List.rec (motive := fun _ => Bool) true (fun x _ ih => bsel (okR x n) ih false) xs
theorem okR_list (xs : List PyData) (n : Nat) : okR (.list xs) (n + 1) = okRs xs n := by
  show (PyData.rec_1 (motive_1 := fun _ => Nat → Bool) (motive_2 := fun _ => Nat → Bool) (motive_3 := fun _ => Unit) (motive_4 := fun _ => Unit) (fun _ => true) (fun _ _ => true) (fun _ _ => true) (fun s _ => strOkR s)
    (fun _ ih n => Nat.rec (motive := fun _ => Bool) false (fun m _ => ih m) n) (fun _ ih n => Nat.rec (motive := fun _ => Bool) false (fun m _ => ih m) n) (fun _ _ _ => false) (fun _ => true) (fun _ _ h t n => bsel (h n) (t n) false) () (fun _ _ _ _ => ()) (fun _ _ _ _ => ()) xs) n = _
  induction xs with
  | nil => rfl
  | cons x xs ih =>
    show bsel (okR x n) _ false = bsel (okR x n) (okRs xs n) false
    rw [← ih]
theorem okR_tuple (xs : List PyData) (n : Nat) : okR (.tuple xs) (n + 1) = okRs xs n := okR_list xs n
mutual
theorem okR_ok : ∀ (x : PyData) (n : Nat), okR x n = true → PyData.canLay0 x = true ∧ PyData.depth x ≤ n
  | .none, n, h => by simp [PyData.canLay0, PyData.depth]
  | .bool _, n, h => by simp [PyData.canLay0, PyData.depth]
  | .int _, n, h => by simp [PyData.canLay0, PyData.depth]
  | .str x, n, h => by simp only [PyData.canLay0, PyData.depth]; exact ⟨strOkR_eq h, Nat.zero_le _⟩
  | .list xs, 0, h => by cases h
  | .list xs, n + 1, h => by
    rw [okR_list] at h
    obtain ⟨h1, h2⟩ := okRs_ok xs n h
    simp only [PyData.canLay0, PyData.depth]
    exact ⟨h1, by omega⟩
  | .tuple xs, 0, h => by cases h
  | .tuple xs, n + 1, h => by
    rw [okR_tuple] at h
    obtain ⟨h1, h2⟩ := okRs_ok xs n h
    simp only [PyData.canLay0, PyData.depth]
    exact ⟨h1, by omega⟩
  | .dict _, n, h => by cases h
theorem okRs_ok : ∀ (xs : List PyData) (n : Nat), okRs xs n = true → PyData.canLayAll0 xs = true ∧ PyData.depthAll xs ≤ n
  | [], n, h => by simp [PyData.canLayAll0, PyData.depthAll]
  | x :: xs, n, h => by
    have h : bsel (okR x n) (okRs xs n) false = true := h
    rw [bsel_eq] at h
    split at h
    · rename_i hx
      obtain ⟨h1, h2⟩ := okR_ok x n hx
      obtain ⟨h3, h4⟩ := okRs_ok xs n h
      simp only [PyData.canLayAll0, PyData.depthAll, h1, h3, Bool.and_self, true_and]
      omega
    · cases h
end
theorem okR_okD {x : PyData} (h : okR x 64 = true) : okD x = true := by
  obtain ⟨h1, h2⟩ := okR_ok x 64 h
  unfold okD SeqAt.shaped
  rw [h1, decide_eq_true h2]; rfl
def plist {α : Type} (x : PyData) (t : List PyData → α) (o : α) : α :=
  PyData.rec (motive_1 := fun _ => α) (motive_2 := fun _ => Unit) (motive_3 := fun _ => Unit) (motive_4 := fun _ => Unit) o (fun _ => o) (fun _ => o) (fun _ => o) (fun xs _ => t xs) (fun _ _ => o) (fun _ _ => o) () (fun _ _ _ _ => ()) () (fun _ _ _ _ => ()) (fun _ _ _ _ => ()) x
def ptup {α : Type} (x : PyData) (t : List PyData → α) (o : α) : α :=
  PyData.rec (motive_1 := fun _ => α) (motive_2 := fun _ => Unit) (motive_3 := fun _ => Unit) (motive_4 := fun _ => Unit) o (fun _ => o) (fun _ => o) (fun _ => o) (fun _ _ => o) (fun xs _ => t xs) (fun _ _ => o) () (fun _ _ _ _ => ()) () (fun _ _ _ _ => ()) (fun _ _ _ _ => ()) x
def pstr {α : Type} (x : PyData) (t : Str → α) (o : α) : α :=
  PyData.rec (motive_1 := fun _ => α) (motive_2 := fun _ => Unit) (motive_3 := fun _ => Unit) (motive_4 := fun _ => Unit) o (fun _ => o) (fun _ => o) t (fun _ _ => o) (fun xs _ => o) (fun _ _ => o) () (fun _ _ _ _ => ()) () (fun _ _ _ _ => ()) (fun _ _ _ _ => ()) x
def eqvR (x : PyData) : PyData → Bool :=
  PyData.rec (motive_1 := fun _ => PyData → Bool) (motive_2 := fun _ => List PyData → Bool) (motive_3 := fun _ => Unit) (motive_4 := fun _ => Unit)
    (fun y => PyData.eqv .none y) (fun b y => PyData.eqv (.bool b) y) (fun i y => psel y false (fun b => PyData.eqv (.int i) (.bool b)) (fun j => ieqR i j) (fun _ => false) (fun _ => false) false) (fun s y => pstr y (fun z => streqR s z) false)
    (fun _ ih y => plist y ih false) (fun _ ih y => ptup y ih false) (fun _ _ _ => false) (fun ys => lsel ys true fun _ _ => false) (fun _ _ h t ys => lsel ys false fun y ys => bsel (h y) (t ys) false) () (fun _ _ _ _ => ()) (fun _ _ _ _ => ()) x
def eqvRs (xs : List PyData) : List PyData → Bool := List.rec (motive := fun _ => List PyData → Bool) (fun ys => lsel ys true fun _ _ => false) (fun x _ ih ys => lsel ys false fun y ys => bsel (eqvR x y) (ih ys) false) xs
theorem eqvR_aux (xs ys : List PyData) : (PyData.rec_1 (motive_1 := fun _ => PyData → Bool) (motive_2 := fun _ => List PyData → Bool) (motive_3 := fun _ => Unit) (motive_4 := fun _ => Unit)
    (fun y => PyData.eqv .none y) (fun b y => PyData.eqv (.bool b) y) (fun i y => psel y false (fun b => PyData.eqv (.int i) (.bool b)) (fun j => ieqR i j) (fun _ => false) (fun _ => false) false) (fun s y => pstr y (fun z => streqR s z) false)
    (fun _ ih y => plist y ih false) (fun _ ih y => ptup y ih false) (fun _ _ _ => false) (fun ys => lsel ys true fun _ _ => false) (fun _ _ h t ys => lsel ys false fun y ys => bsel (h y) (t ys) false) () (fun _ _ _ _ => ()) (fun _ _ _ _ => ()) xs) ys = eqvRs xs ys := by
  induction xs generalizing ys with
  | nil => rfl
  | cons x xs ih =>
    cases ys with
    | nil => rfl
    | cons y ys =>
      show bsel (eqvR x y) _ false = bsel (eqvR x y) (eqvRs xs ys) false
      rw [← ih]
mutual
theorem eqvR_eq : ∀ (x y : PyData), eqvR x y = PyData.eqv x y
  | .none, y => rfl
  | .bool b, y => rfl
  | .int i, y => by
    cases y with
    | int j => show ieqR i j = _; rw [ieqR_eq]; simp only [PyData.eqv]; rw [Bool.beq_eq_decide_eq]
    | _ => simp [eqvR, psel, PyData.eqv]
  | .str s, y => by
    cases y with
    | str z => show streqR s z = _; rw [streqR_eq]; simp only [PyData.eqv]; rw [Bool.beq_eq_decide_eq]
    | _ => simp [eqvR, pstr, PyData.eqv]
  | .list xs, y => by
    cases y with
    | list ys => simp only [PyData.eqv]; rw [← eqvRs_eq xs ys, ← eqvR_aux]; rfl
    | _ => simp [eqvR, plist, PyData.eqv]
  | .tuple xs, y => by
    cases y with
    | tuple ys => simp only [PyData.eqv]; rw [← eqvRs_eq xs ys, ← eqvR_aux]; rfl
    | _ => simp [eqvR, ptup, PyData.eqv]
  | .dict _, y => by cases y <;> simp [eqvR, PyData.eqv]
theorem eqvRs_eq : ∀ (xs ys : List PyData), eqvRs xs ys = PyData.eqvAll xs ys
  | [], [] => by simp [eqvRs, lsel, PyData.eqvAll]
  | [], _ :: _ => by simp [eqvRs, lsel, PyData.eqvAll]
  | _ :: _, [] => by simp [eqvRs, lsel, PyData.eqvAll]
  | x :: xs, y :: ys => by
    show bsel (eqvR x y) (eqvRs xs ys) false = _
    rw [eqvR_eq x y, eqvRs_eq xs ys, bsel_eq, PySem.W.eqv_all_cons]
    cases PyData.eqv x y <;> rfl
end
end
end Ow

set_option Elab.async false
set_option linter.all false
set_option maxRecDepth 100000
set_option maxHeartbeats 1000000
/-! OwYh: quick twins of comparisons, in, places, dicts, built-ins. -/
namespace Ow
open PySem PySem.Spec PyProof.Rows L2
noncomputable section
/-! ### == -/
/-- two data, compared -/
def eqPG {ρ : Type} (x y : PyData) (kt kf : PR ρ) : PR ρ := bsel (and (okR x 64) (okR y 64)) (bsel (eqvR x y) kt kf) .bad
def eqPK {ρ : Type} (x y : PyData) (kt kf : PR ρ) : PR ρ := psel x (eqPG x y kt kf) (fun _ => eqPG x y kt kf) (fun i => pint y (fun j => bsel (ieqR i j) kt kf) (eqPG x y kt kf)) (fun s => pstr y (fun z => bsel (streqR s z) kt kf) (eqPG x y kt kf)) (fun _ => eqPG x y kt kf) (eqPG x y kt kf)
theorem bsel_le {ρ : Type} {b : Bool} {t f r : PR ρ} (h1 : b = true → PR.le t r) (h2 : b = false → PR.le f r) : PR.le (bsel b t f) r := by
  cases b with
  | true => exact h1 rfl
  | false => exact h2 rfl
theorem eqD_gen {x y : PyData} (h1 : okR x 64 = true) (h2 : okR y 64 = true) : eqD (.g x) (.g y) = some (PyData.eqv x y) := by
  have h1 := okR_okD h1
  have h2 := okR_okD h2
  unfold eqD
  split
  · rename_i e1 e2
    cases e1; cases e2
    simp only [PyData.eqv]; rw [Bool.beq_eq_decide_eq]
  · rename_i e1 e2
    cases e1; cases e2
    simp only [PyData.eqv]; rw [Bool.beq_eq_decide_eq]
  · show (if (okD x && okD y) = true then _ else _) = _
    rw [h1, h2]; rfl
theorem eqPK_le {ρ : Type} {x y : PyData} {kt kf : PR ρ} {r : PR ρ} (ht : eqD (.g x) (.g y) = some true → PR.le kt r) (hf : eqD (.g x) (.g y) = some false → PR.le kf r) : PR.le (eqPK x y kt kf) r := by
  have gen : PR.le (eqPG x y kt kf) r := by
    unfold eqPG
    refine bsel_le (fun h => ?_) fun _ => .inl rfl
    rw [Bool.and_eq_true] at h
    have e := eqD_gen h.1 h.2
    rw [← eqvR_eq] at e
    refine bsel_le (fun h => ?_) fun h => ?_
    · exact ht (by rw [e, h])
    · exact hf (by rw [e, h])
  unfold eqPK
  cases x with
  | int i =>
    cases y with
    | int j =>
      show PR.le (bsel (ieqR i j) kt kf) r
      refine bsel_le (fun h => ht ?_) fun h => hf ?_
      all_goals
        show some (decide (i = j)) = _
        rw [← ieqR_eq, h]
    | _ => exact gen
  | str s =>
    cases y with
    | str z =>
      show PR.le (bsel (streqR s z) kt kf) r
      refine bsel_le (fun h => ht ?_) fun h => hf ?_
      all_goals
        show some (decide (s = z)) = _
        rw [← streqR_eq, h]
    | _ => exact gen
  | _ => exact gen
def cfEq : CFBt := fun ρ a b kt kf => dsel a (fun x => dsel b (fun y => eqPK x y kt kf) (osel (eqD a b) .bad fun r => bsel r kt kf) .bad) (osel (eqD a b) .bad fun r => bsel r kt kf) .bad
theorem cfEq_le {ρ : Type} {a b : D} {kt kf r : PR ρ} (ht : eqD a b = some true → PR.le kt r) (hf : eqD a b = some false → PR.le kf r) : PR.le (cfEq ρ a b kt kf) r := by
  have gen : PR.le (osel (eqD a b) .bad fun r => bsel r kt kf) r := by
    cases e : eqD a b with
    | none => exact .inl rfl
    | some q => cases q with
      | true => exact ht e
      | false => exact hf e
  unfold cfEq
  cases a with
  | g x =>
    cases b with
    | g y => exact eqPK_le ht hf
    | hole => exact .inl rfl
    | _ => exact gen
  | hole => exact .inl rfl
  | _ => exact gen
instance twfEq : TwFB fEq cfEq := ⟨fun ρ a b kt kf k' ht hf => cfEq_le (fun e => by unfold fEq; rw [e]; exact ht) fun e => by unfold fEq; rw [e]; exact hf⟩
def cfNe : CFBt := fun ρ a b kt kf => cfEq ρ a b kf kt
instance twfNe : TwFB fNe cfNe := ⟨fun ρ a b kt kf k' ht hf => cfEq_le (fun e => by unfold fNe; rw [e]; exact hf) fun e => by unfold fNe; rw [e]; exact ht⟩
/-! ### < -/
def cLtK {ρ : Type} (a b : D) (kt kf : PR ρ) : PR ρ := int2 a b (fun i j => bsel (iltR i j) kt kf) (osel (ltD a b) .bad fun r => bsel r kt kf)
theorem cLtK_le {ρ : Type} {a b : D} {kt kf r : PR ρ} (ht : ltD a b = some true → PR.le kt r) (hf : ltD a b = some false → PR.le kf r) : PR.le (cLtK a b kt kf) r := by
  unfold cLtK
  refine int2_le (fun i j ea eb => ?_) ?_
  · subst ea eb
    refine bsel_le (fun h => ht ?_) fun h => hf ?_
    all_goals
      show some (decide (i < j)) = _
      rw [← iltR_eq, h]
  · cases e : ltD a b with
    | none => exact .inl rfl
    | some q => cases q with
      | true => exact ht e
      | false => exact hf e
def cfLt : CFBt := fun ρ a b kt kf => cLtK a b kt kf
instance twfLt : TwFB fLt cfLt := ⟨fun ρ a b kt kf k' ht hf => cLtK_le (fun e => by unfold fLt; rw [e]; exact ht) fun e => by unfold fLt; rw [e]; exact hf⟩
def cfGt : CFBt := fun ρ a b kt kf => cLtK b a kt kf
instance twfGt : TwFB fGt cfGt := ⟨fun ρ a b kt kf k' ht hf => cLtK_le (fun e => by unfold fGt; rw [e]; exact ht) fun e => by unfold fGt; rw [e]; exact hf⟩
def cfLe : CFBt := fun ρ a b kt kf => cLtK b a kf kt
instance twfLe : TwFB fLe cfLe := ⟨fun ρ a b kt kf k' ht hf => cLtK_le (fun e => by unfold fLe; rw [e]; exact hf) fun e => by unfold fLe; rw [e]; exact ht⟩
def cfGe : CFBt := fun ρ a b kt kf => cLtK a b kf kt
instance twfGe : TwFB fGe cfGe := ⟨fun ρ a b kt kf k' ht hf => cLtK_le (fun e => by unfold fGe; rw [e]; exact hf) fun e => by unfold fGe; rw [e]; exact ht⟩
/-! ### in -/
def anyR (x : PyData) (ks : List PyData) : Bool := List.rec (motive := fun _ => Bool) false (fun z _ ih => bsel (eqvR z x) true ih) ks
theorem anyR_eq (x : PyData) (ks : List PyData) : anyR x ks = ks.any fun z => PyData.eqv z x := by
  induction ks with
  | nil => rfl
  | cons z ks ih =>
    show bsel (eqvR z x) true (anyR x ks) = _
    rw [ih, bsel_eq, eqvR_eq, List.any_cons]
    cases PyData.eqv z x <;> rfl
/-- an int among data of which all are ints -/
def anyIR {α : Type} (i : Int) (zs : List PyData) (kt kf no : α) : α := List.rec (motive := fun _ => α → α) (fun k => k) (fun z _ ih k => pint z (fun j => ih (bsel (ieqR j i) kt k)) no) zs kf
theorem anyIR_le {ρ : Type} {i : Int} {zs : List PyData} {kt kf no r : PR ρ} (h0 : PR.le no r) (h : okRs zs 63 = true → ∀ b, (zs.any fun z => PyData.eqv z (.int i)) = b → PR.le (if b = true then kt else kf) r) : PR.le (anyIR i zs kt kf no) r := by
  have key : ∀ (zs : List PyData) (k : PR ρ) (b0 : Bool), k = (if b0 = true then kt else kf) → (okRs zs 63 = true → ∀ b, (b0 || zs.any fun z => PyData.eqv z (.int i)) = b → PR.le (if b = true then kt else kf) r) → PR.le (anyIR i zs kt k no) r := fun zs => by
    induction zs with
    | nil => intro k b0 e h; subst e; exact h rfl _ (by simp)
    | cons z zs ih =>
      intro k b0 e h
      cases z with
      | int j =>
        show PR.le (anyIR i zs kt (bsel (ieqR j i) kt k) no) r
        refine ih _ (b0 || PyData.eqv (.int j) (.int i)) ?_ fun hk b hb => h ?_ b ?_
        · have : ieqR j i = PyData.eqv (.int j) (.int i) := eqvR_eq (.int j) (.int i)
          rw [this, e]
          cases PyData.eqv (.int j) (.int i) <;> cases b0 <;> rfl
        · exact hk
        · rw [List.any_cons, ← Bool.or_assoc]; exact hb
      | _ => exact h0
  exact key zs kf false rfl (by simpa using h)
def inPK {ρ : Type} (x : PyData) (zs : List PyData) (kt kf : PR ρ) : PR ρ := pint x (fun i => anyIR i zs kt kf (bsel (okRs zs 63) (bsel (anyR x zs) kt kf) .bad)) (bsel (and (okR x 64) (okRs zs 63)) (bsel (anyR x zs) kt kf) .bad)
theorem inPK_le {ρ : Type} {x : PyData} {zs : List PyData} {kt kf r : PR ρ} (h : okD x = true → okRs zs 63 = true → ∀ b, (zs.any fun z => PyData.eqv z x) = b → PR.le (if b = true then kt else kf) r) : PR.le (inPK x zs kt kf) r := by
  have gen : okD x = true → okRs zs 63 = true → PR.le (bsel (anyR x zs) kt kf) r := fun h1 h2 => by
    rw [anyR_eq, bsel_eq]
    exact h h1 h2 _ rfl
  have gen2 : PR.le (bsel (and (okR x 64) (okRs zs 63)) (bsel (anyR x zs) kt kf) .bad) r := by
    refine bsel_le (fun hk => ?_) fun _ => .inl rfl
    rw [Bool.and_eq_true] at hk
    exact gen (okR_okD hk.1) hk.2
  unfold inPK
  cases x with
  | int i =>
    refine anyIR_le (bsel_le (fun hk => gen (okR_okD rfl) hk) fun _ => .inl rfl) fun hk b hb => h (okR_okD rfl) hk b hb
  | _ => exact gen2
def flatR (x : PyData) : Bool := psel x false (fun _ => false) (fun _ => true) (fun _ => true) (fun _ => false) false
def nkR0 (x : PyData) : Bool := psel x true (fun _ => false) (fun _ => true) (fun _ => false) (fun _ => false) false
def nkRs (f : PyData → Bool) (xs : List PyData) : Bool := List.rec (motive := fun _ => Bool) true (fun x _ ih => bsel (f x) ih false) xs
def nkA (f : PyData → Bool) (x : PyData) : Bool := psel x true (fun _ => false) (fun _ => true) (fun _ => false) (fun xs => nkRs f xs) false
theorem flatR_eq (x : PyData) : flatR x = flatK x := by cases x <;> rfl
theorem nkR0_eq : nkR0 = nkB 0 := by funext x; cases x <;> simp [nkR0, nkB, psel]
theorem nkRs_eq (f : PyData → Bool) (xs : List PyData) : nkRs f xs = xs.all f := by
  induction xs with
  | nil => rfl
  | cons x xs ih =>
    show bsel (f x) (nkRs f xs) false = _
    rw [ih, bsel_eq, List.all_cons]
    cases f x <;> rfl
theorem nkA_eq (n : Nat) : nkA (nkB n) = nkB (n + 1) := by
  funext x
  cases x with
  | tuple xs => show nkRs (nkB n) xs = _; rw [nkRs_eq]; simp [nkB]
  | _ => simp [nkA, nkB, psel]
def nkR (xs : List PyData) : Bool := nkRs (nkA (nkA (nkA nkR0))) xs
theorem nkR_eq (xs : List PyData) : nkR xs = nkB 4 (.tuple xs) := by
  unfold nkR
  rw [nkR0_eq, nkA_eq, nkA_eq, nkA_eq, nkRs_eq]
  simp [nkB]
/-- the keys and values of a dict where x may be a key; or other -/
def dPartK {α : Type} (d : D) (x : PyData) (k : List PyData → List D → α) (no : α) : α := D.rec (motive_1 := fun _ => α) (motive_2 := fun _ => Unit) (fun _ => no) (fun _ _ => no) (fun _ _ => no) (fun ks vs _ => bsel (flatR x) (k ks vs) no) (fun ks vs _ => ptup x (fun xs => bsel (nkR xs) (k ks vs) no) no) (fun _ => no) (fun _ => no) no () (fun _ _ _ _ => ()) d
theorem dPartK_eq {α : Type} (d : D) (x : PyData) (k : List PyData → List D → α) (no : α) : dPartK d x k no = match dPart d x with | some p => k p.1 p.2 | none => no := by
  cases d with
  | dic ks vs =>
    show bsel (flatR x) _ _ = match (if flatK x = true then some (ks, vs) else none) with | some p => _ | none => _
    rw [flatR_eq, bsel_eq]
    cases flatK x <;> rfl
  | dct ks vs =>
    cases x with
    | tuple xs =>
      show bsel (nkR xs) _ _ = match (if nkB 4 (.tuple xs) = true then some (ks, vs) else none) with | some p => _ | none => _
      rw [nkR_eq, bsel_eq]
      cases nkB 4 (.tuple xs) <;> rfl
    | _ => rfl
  | _ => rfl
def cInK {ρ : Type} (a b : D) (kt kf : PR ρ) : PR ρ := dsel a (fun x => dsel b (fun y => ptup y (fun zs => inPK x zs kt kf) (plist y (fun zs => inPK x zs kt kf) .bad)) (dlst b (fun ds => gAllK ds (fun zs => inPK x zs kt kf) (osel (inD a b) .bad fun r => bsel r kt kf)) (dPartK b x (fun ks _ => bsel (anyR x ks) kt kf) (osel (inD a b) .bad fun r => bsel r kt kf))) .bad) .bad .bad
theorem toPDs_of {ds : List D} {xs : List PyData} (h : gAll ds = some xs) : toPDs ds = some xs := by
  rw [gAll_some h]; exact toPDs_map xs
theorem okD_tuple {zs : List PyData} (h : okRs zs 63 = true) : okD (.tuple zs) = true := okR_okD (by rw [okR_tuple]; exact h)
theorem okD_list {zs : List PyData} (h : okRs zs 63 = true) : okD (.list zs) = true := okR_okD (by rw [okR_list]; exact h)
theorem inD_tuple {x : PyData} {zs : List PyData} (h1 : okD x = true) (h2 : okD (.tuple zs) = true) : inD (.g x) (.g (.tuple zs)) = some (zs.any fun z => PyData.eqv z x) := by simp [inD, dPart, toPD, h1, h2]
theorem inD_list {x : PyData} {zs : List PyData} (h1 : okD x = true) (h2 : okD (.list zs) = true) : inD (.g x) (.g (.list zs)) = some (zs.any fun z => PyData.eqv z x) := by simp [inD, dPart, toPD, h1, h2]
theorem inD_lst {x : PyData} {ds : List D} {zs : List PyData} (e : gAll ds = some zs) (h1 : okD x = true) (h2 : okD (.list zs) = true) : inD (.g x) (.lst ds) = some (zs.any fun z => PyData.eqv z x) := by simp [inD, dPart, toPD, toPDs_of e, h1, h2]
theorem inD_dict {x : PyData} {c : D} {p : List PyData × List D} (e : dPart c x = some p) : inD (.g x) c = some (p.1.any fun z => PyData.eqv z x) := by
  unfold inD
  dsimp only
  rw [e]
theorem cInK_le {ρ : Type} {a b : D} {kt kf r : PR ρ} (ht : inD a b = some true → PR.le kt r) (hf : inD a b = some false → PR.le kf r) : PR.le (cInK a b kt kf) r := by
  have gen : PR.le (osel (inD a b) .bad fun r => bsel r kt kf) r := by
    cases e : inD a b with
    | none => exact .inl rfl
    | some q => cases q with
      | true => exact ht e
      | false => exact hf e
  have fin : ∀ q, inD a b = some q → PR.le (if q = true then kt else kf) r := fun q e => by
    cases q with
    | true => exact ht e
    | false => exact hf e
  unfold cInK
  cases a with
  | g x =>
    cases b with
    | g y =>
      cases y with
      | tuple zs => exact inPK_le fun h1 h2 q hq => fin q (by rw [inD_tuple h1 (okD_tuple h2), hq])
      | list zs => exact inPK_le fun h1 h2 q hq => fin q (by rw [inD_list h1 (okD_list h2), hq])
      | _ => exact .inl rfl
    | hole => exact .inl rfl
    | lst ds =>
      show PR.le (gAllK ds (fun zs => inPK x zs kt kf) (osel (inD (.g x) (.lst ds)) .bad fun r => bsel r kt kf)) r
      rw [gAllK_eq]
      cases e : gAll ds with
      | none => exact gen
      | some zs => exact inPK_le fun h1 h2 q hq => fin q (by rw [inD_lst e h1 (okD_list h2), hq])
    | dic ks vs =>
      show PR.le (dPartK (.dic ks vs) x (fun ks _ => bsel (anyR x ks) kt kf) (osel (inD (.g x) (.dic ks vs)) .bad fun r => bsel r kt kf)) r
      rw [dPartK_eq]
      cases e : dPart (.dic ks vs) x with
      | none => exact gen
      | some p =>
        dsimp only
        rw [bsel_eq, anyR_eq]
        exact fin _ (inD_dict e)
    | dct ks vs =>
      show PR.le (dPartK (.dct ks vs) x (fun ks _ => bsel (anyR x ks) kt kf) (osel (inD (.g x) (.dct ks vs)) .bad fun r => bsel r kt kf)) r
      rw [dPartK_eq]
      cases e : dPart (.dct ks vs) x with
      | none => exact gen
      | some p =>
        dsimp only
        rw [bsel_eq, anyR_eq]
        exact fin _ (inD_dict e)
    | _ => exact gen
  | _ => exact .inl rfl
def cfIn : CFBt := fun ρ a b kt kf => cInK a b kt kf
instance twfIn : TwFB fIn cfIn := ⟨fun ρ a b kt kf k' ht hf => cInK_le (fun e => by unfold fIn; rw [e]; exact ht) fun e => by unfold fIn; rw [e]; exact hf⟩
def cfNotIn : CFBt := fun ρ a b kt kf => cInK a b kf kt
instance twfNotIn : TwFB fNotIn cfNotIn := ⟨fun ρ a b kt kf k' ht hf => cInK_le (fun e => by unfold fNotIn; rw [e]; exact hf) fun e => by unfold fNotIn; rw [e]; exact ht⟩
/-! ### places -/
def dGetK {α : Type} (ks : List PyData) (vs : List D) (x : PyData) (k : D → α) (no : α) : α := List.rec (motive := fun _ => List D → α) (fun _ => no) (fun z _ ih vs => lsel vs no fun v vs => bsel (eqvR z x) (k v) (ih vs)) ks vs
theorem dGetK_eq {α : Type} (ks : List PyData) (vs : List D) (x : PyData) (k : D → α) (no : α) : dGetK ks vs x k no = match dGet ks vs x with | some d => k d | none => no := by
  induction ks generalizing vs with
  | nil => cases vs <;> rfl
  | cons z ks ih =>
    cases vs with
    | nil => rfl
    | cons v vs =>
      show bsel (eqvR z x) (k v) (dGetK ks vs x k no) = _
      rw [ih, bsel_eq, eqvR_eq, dGet]
      cases PyData.eqv z x <;> rfl
def pvOf {α : Type} (d : D) (ko kb : D → α) (no : α) : α := dsel d (fun x => ko (.g x)) (kb d) no
theorem pvOf_le {ρ : Type} {d : D} {ko kb : D → PR ρ} {k' : Pv → PR ρ} (ho : ∀ d, PR.le (ko d) (k' (.own d))) (hb : ∀ d, PR.le (kb d) (k' (.bor d))) : PR.le (pvOf d ko kb .bad) ((PR.of (toPv d)).bind k') := by
  cases d with
  | g x => exact ho _
  | hole => exact .inl rfl
  | _ => exact hb _
def atK {β α : Type} (l : List β) (i : Int) (k : β → α) (no : α) : α := Int.rec (motive := fun _ => α) (fun m => nthR l m k no) (fun m => (fun n => bsel (Nat.ble (Nat.succ m) n) (nthR l (Nat.sub n (Nat.succ m)) k no) no) (lenR l)) i
theorem atK_eq {β α : Type} (l : List β) (i : Int) (k : β → α) (no : α) : atK l i k no = match atI l i with | some x => k x | none => no := by
  unfold atI
  have e := ixK_eq l.length i (fun j => nthR l j k no) no
  have e2 : atK l i k no = ixK l.length i (fun j => nthR l j k no) no := by
    unfold atK ixK
    cases i with
    | ofNat m =>
      dsimp only
      rw [bsel_eq]
      split
      · rfl
      · rename_i hz
        rw [nthR_eq, List.getElem?_eq_none]
        rw [Nat.ble_eq] at hz
        omega
    | negSucc m => dsimp only; rw [lenR_eq]
  rw [e2, e]
  cases ixN l.length i with
  | none => rfl
  | some j => dsimp only; rw [nthR_eq]; rfl
def cxIx (ρ : Type) (a b : D) (ko kb : D → PR ρ) : PR ρ := dsel b (fun x => dlst a (fun ds => pint x (fun i => atK ds i (fun d => pvOf d ko kb .bad) .bad) .bad)
  (dsel a (fun y => ptup y (fun xs => pint x (fun i => atK xs i (fun z => ko (.g z)) .bad) .bad) (pstr y (fun z => pint x (fun i => lenOk z.cps.toList (atK z.cps.toList i (fun c => ko (.g (.str ⟨#[c]⟩))) .bad) .bad) .bad) .bad)) (dPartK a x (fun ks vs => dGetK ks vs x (fun d => pvOf d ko kb .bad) .bad) (osel (ixD a b) .bad fun p => pvK p ko kb)) .bad)) .bad .bad
instance twxIx : TwIx cxIx := ⟨fun ρ a b ko kb k' ho hb => by
  have gen : PR.le (osel (ixD a b) .bad fun p => pvK p ko kb) ((PR.of (ixD a b)).bind k') := oselP_le ho hb
  unfold cxIx
  cases b with
  | g x =>
    cases a with
    | lst ds =>
      cases x with
      | int i =>
        show PR.le (atK ds i _ _) ((PR.of ((atI ds i).bind toPv)).bind k')
        rw [atK_eq]
        cases atI ds i with
        | none => exact .inl rfl
        | some d => exact pvOf_le ho hb
      | _ => exact .inl rfl
    | g y =>
      cases y with
      | tuple xs =>
        cases x with
        | int i =>
          show PR.le (atK xs i _ _) ((PR.of ((atI xs i).map fun x => Pv.own (.g x))).bind k')
          rw [atK_eq]
          cases atI xs i with
          | none => exact .inl rfl
          | some d => exact ho _
        | _ => exact .inl rfl
      | str z =>
        cases x with
        | int i =>
          show PR.le (lenOk z.cps.toList (atK z.cps.toList i _ _) _) ((PR.of (if z.length ≤ sizeLine then (atI z.cps.toList i).map fun c => Pv.own (.g (.str ⟨#[c]⟩)) else none)).bind k')
          have hz : z.cps.toList.length = z.length := by simp [Str.length]
          rw [lenOk_eq, hz]
          split
          · rw [atK_eq]
            cases atI z.cps.toList i with
            | none => exact .inl rfl
            | some c => exact ho _
          · exact .inl rfl
        | _ => exact .inl rfl
      | _ => exact .inl rfl
    | hole => exact .inl rfl
    | dic ks vs =>
      show PR.le (dPartK (.dic ks vs) x (fun ks vs => dGetK ks vs x (fun d => pvOf d ko kb .bad) .bad) (osel (ixD (.dic ks vs) (.g x)) .bad fun p => pvK p ko kb)) _
      rw [dPartK_eq]
      cases e : dPart (.dic ks vs) x with
      | none => exact gen
      | some p =>
        dsimp only
        rw [dGetK_eq]
        have : ixD (.dic ks vs) (.g x) = (dGet p.1 p.2 x).bind toPv := by
          have : ixD (.dic ks vs) (.g x) = (dPart (.dic ks vs) x).bind fun p => (dGet p.1 p.2 x).bind toPv := by cases x <;> rfl
          rw [this, e]; rfl
        rw [this]
        cases dGet p.1 p.2 x with
        | none => exact .inl rfl
        | some d => exact pvOf_le ho hb
    | dct ks vs =>
      show PR.le (dPartK (.dct ks vs) x (fun ks vs => dGetK ks vs x (fun d => pvOf d ko kb .bad) .bad) (osel (ixD (.dct ks vs) (.g x)) .bad fun p => pvK p ko kb)) _
      rw [dPartK_eq]
      cases e : dPart (.dct ks vs) x with
      | none => exact gen
      | some p =>
        dsimp only
        rw [dGetK_eq]
        have : ixD (.dct ks vs) (.g x) = (dGet p.1 p.2 x).bind toPv := by
          have : ixD (.dct ks vs) (.g x) = (dPart (.dct ks vs) x).bind fun p => (dGet p.1 p.2 x).bind toPv := by cases x <;> rfl
          rw [this, e]; rfl
        rw [this]
        cases dGet p.1 p.2 x with
        | none => exact .inl rfl
        | some d => exact pvOf_le ho hb
    | _ => exact gen
  | _ => exact .inl rfl⟩
/-! ### dicts -/
def putVR (ks : List PyData) (vs : List D) (x : PyData) (d : D) : List D := List.rec (motive := fun _ => List D → List D) (fun _ => []) (fun z _ ih vs => lsel vs [] fun v vs => bsel (eqvR z x) d v :: ih vs) ks vs
theorem putVR_eq (ks : List PyData) (vs : List D) (x : PyData) (d : D) : putVR ks vs x d = putVs ks vs x d := by
  induction ks generalizing vs with
  | nil => cases vs <;> rfl
  | cons z ks ih =>
    cases vs with
    | nil => rfl
    | cons v vs =>
      show bsel (eqvR z x) d v :: putVR ks vs x d = _
      rw [ih, bsel_eq, eqvR_eq]; rfl
def mkDicR (c : D) (ks : List PyData) (vs : List D) : D := D.rec (motive_1 := fun _ => D) (motive_2 := fun _ => Unit) (fun _ => .dic ks vs) (fun _ _ => .dic ks vs) (fun _ _ => .dic ks vs) (fun _ _ _ => .dic ks vs) (fun _ _ _ => .dct ks vs) (fun _ => .dic ks vs) (fun _ => .dic ks vs) (.dic ks vs) () (fun _ _ _ _ => ()) c
theorem mkDicR_eq (c : D) (ks : List PyData) (vs : List D) : mkDicR c ks vs = mkDic (isTK c) ks vs := by cases c <;> rfl
def cPutD (ρ : Type) (c : D) (x : PyData) (d : D) (k : D → PR ρ) : PR ρ := dPartK c x (fun ks vs => bsel (Nat.ble (Nat.succ (lenR ks)) 16777216) (bsel (anyR x ks) (dsel d (fun _ => k (mkDicR c ks (putVR ks vs x d))) .bad .bad) (k (mkDicR c (appR ks [x]) (appR vs [d])))) .bad) .bad
theorem mkDic_ne (t : Bool) (ks : List PyData) (vs : List D) : mkDic t ks vs ≠ .hole := by cases t <;> (intro z; cases z)
instance twPutD : TwPutD cPutD := ⟨fun ρ c x d k k' h => by
  unfold cPutD putDic
  rw [dPartK_eq]
  cases dPart c x with
  | none => exact .inl rfl
  | some p =>
    dsimp only
    refine bsel_le (fun hz => ?_) fun _ => .inl rfl
    rw [Nat.ble_eq, lenR_eq] at hz
    show PR.le _ ((PR.of (if _ then _ else _)).bind k')
    rw [if_pos (show p.1.length < 16777216 from hz), ← anyR_eq]
    refine bsel_le (fun ha => ?_) fun ha => ?_
    · rw [if_pos ha]
      cases d with
      | g y =>
        rw [if_pos (show grd (D.g y) = true from rfl), ← putVR_eq, ← mkDicR_eq]
        exact h _ (by rw [mkDicR_eq]; exact mkDic_ne _ _ _)
      | _ => exact .inl rfl
    · rw [if_neg (by rw [ha]; decide), appR_eq, appR_eq, mkDicR_eq]
      exact h _ (mkDic_ne _ _ _)⟩
end
end Ow

set_option Elab.async false
set_option linter.all false
set_option maxRecDepth 100000
set_option maxHeartbeats 1000000
/-! OwYi: quick twins of built-ins. -/
namespace Ow
open PySem PySem.Spec PyProof.Rows L2
noncomputable section
def one {α : Type} (ds : List D) (k : D → α) (o : α) : α := lsel ds o fun d r => lsel r (k d) fun _ _ => o
theorem one_le {ρ : Type} {ds : List D} {k : D → PR ρ} {o r : PR ρ} (h1 : ∀ d, ds = [d] → PR.le (k d) r) (h2 : PR.le o r) : PR.le (one ds k o) r := by
  unfold one
  match ds with
  | [] => exact h2
  | [d] => exact h1 d rfl
  | _ :: _ :: _ => exact h2
def cnLen : CNt := fun ρ ds k => one ds (fun d => dlst d (fun l => k (.g (.int (.ofNat (lenR l))))) (dsel d (fun x => ptup x (fun l => k (.g (.int (.ofNat (lenR l))))) (osel (fLen ds) .bad k)) (osel (fLen ds) .bad k) .bad)) .bad
instance twnLen : TwN fLen cnLen := ⟨fun ρ ds k k' h => by
  unfold cnLen
  refine one_le (fun d e => ?_) (.inl rfl)
  subst e
  have gen : PR.le (osel (fLen [d]) .bad k) ((PR.of (fLen [d])).bind k') := osel_le h
  cases d with
  | lst l => show PR.le (k (.g (.int (.ofNat (lenR l))))) _; rw [lenR_eq]; exact h _
  | g x =>
    cases x with
    | tuple l => show PR.le (k (.g (.int (.ofNat (lenR l))))) _; rw [lenR_eq]; exact h _
    | _ => exact gen
  | hole => exact .inl rfl
  | _ => exact gen⟩
def cnInt : CNt := fun ρ ds k => one ds (fun d => dsel d (fun x => psel x .bad (fun b => k (.g (.int (bsel b (.ofNat 1) (.ofNat 0))))) (fun i => k (.g (.int i))) (fun _ => .bad) (fun _ => .bad) .bad) .bad .bad) .bad
instance twnInt : TwN fInt cnInt := ⟨fun ρ ds k k' h => by
  unfold cnInt
  refine one_le (fun d e => ?_) (.inl rfl)
  subst e
  cases d with
  | g x =>
    cases x with
    | int i => exact h _
    | bool b => cases b <;> exact h _
    | _ => exact .inl rfl
  | _ => exact .inl rfl⟩
def cnAbs : CNt := fun ρ ds k => one ds (fun d => dsel d (fun x => pint x (fun i => Int.rec (motive := fun _ => PR ρ) (fun n => k (.g (.int (.ofNat n)))) (fun n => k (.g (.int (.ofNat (Nat.succ n))))) i) .bad) .bad .bad) .bad
instance twnAbs : TwN fAbs cnAbs := ⟨fun ρ ds k k' h => by
  unfold cnAbs
  refine one_le (fun d e => ?_) (.inl rfl)
  subst e
  cases d with
  | g x =>
    cases x with
    | int i =>
      show PR.le _ (k' (.g (.int (if i < 0 then -i else i))))
      cases i with
      | ofNat n => rw [if_neg (by simp only [Int.ofNat_eq_natCast]; omega)]; exact h _
      | negSucc n => rw [if_pos (by omega)]; exact h _
    | _ => exact .inl rfl
  | _ => exact .inl rfl⟩
/-- ground items of a list or a tuple; whatever else -/
def seqGK {α : Type} (d : D) (k : List PyData → α) (no : α) : α := D.rec (motive_1 := fun _ => α) (motive_2 := fun _ => Unit) (fun x => ptup x k no) (fun ds _ => gAllK ds k no) (fun _ _ => no) (fun _ _ _ => no) (fun _ _ _ => no) (fun ns => k (ns.map .int)) k no () (fun _ _ _ _ => ()) d
theorem seqGK_eq {α : Type} (d : D) (k : List PyData → α) (no : α) : seqGK d k no = match seqG d with | some xs => k xs | none => no := by
  cases d with
  | g x => cases x <;> rfl
  | lst ds => exact gAllK_eq ds k no
  | _ => rfl
def seqHK {α : Type} (d : D) (k : List PyData → α) (no : α) : α := D.rec (motive_1 := fun _ => α) (motive_2 := fun _ => Unit) (fun x => ptup x k no) (fun ds _ => gAllK ds k no) (fun _ _ => no) (fun _ _ _ => no) (fun _ _ _ => no) (fun ns => no) (fun _ => no) no () (fun _ _ _ _ => ()) d
theorem seqHK_eq {α : Type} (d : D) (k : List PyData → α) (no : α) : seqHK d k no = match seqH d with | some xs => k xs | none => no := by
  cases d with
  | g x => cases x <;> rfl
  | lst ds => exact gAllK_eq ds k no
  | _ => rfl
def cnList : CNt := fun ρ ds k => one ds (fun d => seqGK d (fun xs => k (.lst (mapG xs))) .bad) .bad
instance twnList : TwN fList cnList := ⟨fun ρ ds k k' h => by
  unfold cnList
  refine one_le (fun d e => ?_) (.inl rfl)
  subst e
  rw [seqGK_eq]
  show PR.le _ ((PR.of ((seqG d).map _)).bind k')
  cases seqG d with
  | none => exact .inl rfl
  | some xs => dsimp only; rw [mapG_eq]; exact h _⟩
def cnTuple : CNt := fun ρ ds k => one ds (fun d => seqHK d (fun xs => k (.g (.tuple xs))) .bad) .bad
instance twnTuple : TwN fTuple cnTuple := ⟨fun ρ ds k k' h => by
  unfold cnTuple
  refine one_le (fun d e => ?_) (.inl rfl)
  subst e
  rw [seqHK_eq]
  show PR.le _ ((PR.of ((seqH d).map _)).bind k')
  cases seqH d with
  | none => exact .inl rfl
  | some xs => exact h _⟩
def cnTupleF : CNt := fun ρ ds k => one ds (fun d => dlst d (fun l => gAllK l (fun xs => k (.ft xs)) .bad) .bad) .bad
instance twnTupleF : TwN fTupleF cnTupleF := ⟨fun ρ ds k k' h => by
  unfold cnTupleF
  refine one_le (fun d e => ?_) (.inl rfl)
  subst e
  cases d with
  | lst l =>
    show PR.le (gAllK l _ _) ((PR.of ((gAll l).map D.ft)).bind k')
    rw [gAllK_eq]
    cases gAll l with
    | none => exact .inl rfl
    | some xs => exact h _
  | _ => exact .inl rfl⟩
def sumK {α : Type} (xs : List PyData) (s : Int) (k : Int → α) (no : α) : α := List.rec (motive := fun _ => Int → α) k (fun x _ ih s => pint x (fun i => addK s i ih) no) xs s
theorem sumK_eq {α : Type} (xs : List PyData) (s : Int) (k : Int → α) (no : α) : sumK xs s k no = match gInts xs with | some ns => k (s + ns.sum) | none => no := by
  induction xs generalizing s with
  | nil => show k s = k (s + 0); rw [Int.add_zero]
  | cons x xs ih =>
    cases x with
    | int i =>
      show addK s i (fun s => sumK xs s k no) = _
      rw [addK_eq, ih]
      simp only [gInts]
      cases gInts xs with
      | none => rfl
      | some ns => simp only [Option.map_some, List.sum_cons, Int.add_assoc]
    | _ => rfl
def cnSum : CNt := fun ρ ds k => one ds (fun d => seqGK d (fun xs => sumK xs (.ofNat 0) (fun s => k (.g (.int s))) .bad) .bad) .bad
instance twnSum : TwN fSum cnSum := ⟨fun ρ ds k k' h => by
  unfold cnSum
  refine one_le (fun d e => ?_) (.inl rfl)
  subst e
  rw [seqGK_eq]
  show PR.le _ ((PR.of ((seqG d).bind _)).bind k')
  cases seqG d with
  | none => exact .inl rfl
  | some xs =>
    dsimp only
    rw [sumK_eq]
    show PR.le _ ((PR.of ((gInts xs).map _)).bind k')
    cases gInts xs with
    | none => exact .inl rfl
    | some ns => dsimp only; rw [show Int.ofNat 0 + ns.sum = ns.sum from Int.zero_add _]; exact h _⟩
/-- any, all of a list of bools -/
def boolsK {α : Type} (ds : List D) (k : List Bool → α) (no : α) : α := List.rec (motive := fun _ => (List Bool → α) → α) (fun k => k []) (fun d _ ih k => dsel d (fun x => pbool x (fun b => ih fun bs => k (b :: bs)) no) no no) ds k
theorem boolsK_eq {α : Type} (ds : List D) (k : List Bool → α) (no : α) : boolsK ds k no = match (gAll ds).bind gBools with | some bs => k bs | none => no := by
  induction ds generalizing k with
  | nil => rfl
  | cons d ds ih =>
    cases d with
    | g x =>
      have other : (∀ b, x ≠ .bool b) → ((gAll (.g x :: ds)).bind gBools) = none := fun hx => by
        simp only [gAll]
        cases gAll ds with
        | none => rfl
        | some ys => cases x <;> first | rfl | exact absurd rfl (hx _)
      cases x with
      | bool b =>
        show boolsK ds (fun bs => k (b :: bs)) no = _
        rw [ih]
        simp only [gAll]
        cases gAll ds with
        | none => rfl
        | some ys =>
          simp only [Option.map_some, Option.bind_some, gBools]
          cases gBools ys <;> rfl
      | _ => rw [other (by simp)]; rfl
    | _ => rfl
def anyB (bs : List Bool) : Bool := List.rec (motive := fun _ => Bool) false (fun b _ ih => bsel b true ih) bs
theorem anyB_eq (bs : List Bool) : anyB bs = bs.any id := by
  induction bs with
  | nil => rfl
  | cons b bs ih => show bsel b true (anyB bs) = _; rw [ih]; cases b <;> rfl
def allB (bs : List Bool) : Bool := List.rec (motive := fun _ => Bool) true (fun b _ ih => bsel b ih false) bs
theorem allB_eq (bs : List Bool) : allB bs = bs.all id := by
  induction bs with
  | nil => rfl
  | cons b bs ih => show bsel b (allB bs) false = _; rw [ih]; cases b <;> rfl
def cnAny : CNt := fun ρ ds k => one ds (fun d => dlst d (fun l => boolsK l (fun bs => bsel (anyB bs) (k (.g (.bool true))) (k (.g (.bool false)))) .bad) .bad) .bad
instance twnAny : TwN fAny cnAny := ⟨fun ρ ds k k' h => by
  unfold cnAny
  refine one_le (fun d e => ?_) (.inl rfl)
  subst e
  cases d with
  | lst l =>
    show PR.le (boolsK l _ _) ((PR.of ((gAll l).bind fun xs => (gBools xs).map fun ns => D.g (.bool (ns.any id)))).bind k')
    rw [boolsK_eq]
    cases gAll l with
    | none => exact .inl rfl
    | some xs =>
      simp only [Option.bind_some]
      cases gBools xs with
      | none => exact .inl rfl
      | some bs =>
        dsimp only
        rw [anyB_eq]
        show PR.le _ (k' (.g (.bool (bs.any id))))
        cases bs.any id <;> exact h _
  | _ => exact .inl rfl⟩
def cnAll : CNt := fun ρ ds k => one ds (fun d => dlst d (fun l => boolsK l (fun bs => bsel (allB bs) (k (.g (.bool true))) (k (.g (.bool false)))) .bad) .bad) .bad
instance twnAll : TwN fAll cnAll := ⟨fun ρ ds k k' h => by
  unfold cnAll
  refine one_le (fun d e => ?_) (.inl rfl)
  subst e
  cases d with
  | lst l =>
    show PR.le (boolsK l _ _) ((PR.of ((gAll l).bind fun xs => (gBools xs).map fun ns => D.g (.bool (ns.all id)))).bind k')
    rw [boolsK_eq]
    cases gAll l with
    | none => exact .inl rfl
    | some xs =>
      simp only [Option.bind_some]
      cases gBools xs with
      | none => exact .inl rfl
      | some bs =>
        dsimp only
        rw [allB_eq]
        show PR.le _ (k' (.g (.bool (bs.all id))))
        cases bs.all id <;> exact h _
  | _ => exact .inl rfl⟩
/-! ### sorted -/
/-- two signs' rows, compared -/
def tokLt (a b : Int ⊕ List Nat) : Bool := PyProof.Rows.itemOrd.blt a b
def natsLtK {α : Type} (xs ys : List Nat) (lt eq gt : α) : α := List.rec (motive := fun _ => List Nat → α) (fun ys => lsel ys eq fun _ _ => lt) (fun x _ ih ys => lsel ys gt fun y ys => bsel (Nat.beq x y) (ih ys) (bsel (Nat.ble x y) lt gt)) xs ys
end
end Ow

set_option Elab.async false
set_option linter.all false
set_option maxRecDepth 100000
set_option maxHeartbeats 1000000
/-! OwYj: constants folded; texts' places. -/
namespace Ow
open PySem PySem.Spec PyProof.Rows L2
noncomputable section
variable {N pr : Nat} {px : D}
/-- an expression that is worth the same everywhere -/
class KoP (f : PF) (x : outParam PyData) : Prop where
  h : ∀ env, f env = .ok (.own (.g x))
class KoL (f : PL) (xs : outParam (List PyData)) : Prop where
  h : ∀ env, f env = .ok (xs.map .g)
instance koC (x : PyData) : KoP (pC x) x := ⟨fun _ => rfl⟩
instance koSub (f g : PF) (a b : Int) [hf : KoP f (.int a)] [hg : KoP g (.int b)] : KoP (pBin fSub f g) (.int (a - b)) := ⟨fun env => by unfold pBin; rw [hf.h, hg.h]; rfl⟩
instance koNil : KoL pNil [] := ⟨fun _ => rfl⟩
instance koCons (f : PF) (g : PL) (x : PyData) (xs : List PyData) [hf : KoP f x] [hg : KoL g xs] : KoL (pConsO f g) (x :: xs) := ⟨fun env => by unfold pConsO; rw [hf.h, hg.h]; rfl⟩
instance koNil' : KoL pNil [] := ⟨fun _ => rfl⟩
class ShortL (xs : List PyData) : Prop where
  h : xs.length ≤ 1000
instance : ShortL [] := ⟨by decide⟩
instance (a) : ShortL [a] := ⟨by simp⟩
instance (a b) : ShortL [a, b] := ⟨by simp⟩
instance (a b c) : ShortL [a, b, c] := ⟨by simp⟩
instance (a b c d) : ShortL [a, b, c, d] := ⟨by simp⟩
instance (a b c d e) : ShortL [a, b, c, d, e] := ⟨by simp⟩
instance (a b c d e f) : ShortL [a, b, c, d, e, f] := ⟨by simp⟩
instance koTup (f : PL) (xs : List PyData) [h : KoL f xs] [hs : ShortL xs] : KoP (pTup f) (.tuple xs) := ⟨fun env => by
  unfold pTup
  rw [h.h]
  show (if (xs.map D.g).length ≤ sizeLine then _ else _) = _
  rw [if_pos (by rw [List.length_map]; exact Nat.le_trans hs.h (by decide))]
  unfold mkTup
  rw [gAll_map]⟩
instance (priority := high) twKoTup (f : PL) (x : PyData) [h : KoP (pTup f) x] : TwP N pr px (pTup f) (cC x) := ⟨fun ρ e env sm ko kb k' ho hb => by
  rw [h.h]; exact ho _⟩
instance (priority := high) twKoSub (f g : PF) (x : PyData) [h : KoP (pBin fSub f g) x] : TwP N pr px (pBin fSub f g) (cC x) := ⟨fun ρ e env sm ko kb k' ho hb => by
  rw [h.h]; exact ho _⟩
instance twfPow : TwF fPow (cF0 fPow) := twF0 fPow
instance twnBool : TwN fBool (cN0 fBool) := twN0 fBool
instance twnMax2 : TwN fMax2 (cN0 fMax2) := twN0 fMax2
instance twnMin2 : TwN fMin2 (cN0 fMin2) := twN0 fMin2
instance twnMax1 : TwN fMax1 (cN0 fMax1) := twN0 fMax1
instance twnMin1 : TwN fMin1 (cN0 fMin1) := twN0 fMin1
instance twnSorted (t : Ty) : TwN (fSorted t) (cN0 (fSorted t)) := twN0 (fSorted t)
end
end Ow

set_option Elab.async false
set_option linter.all false
set_option maxRecDepth 100000
set_option maxHeartbeats 1000000
/-! OwYk: a def by a table of its values. -/
namespace Ow
open PySem PySem.Spec PyProof.Rows L2
noncomputable section
/-- the same data -/
def peqR (x : PyData) : PyData → Bool :=
  PyData.rec (motive_1 := fun _ => PyData → Bool) (motive_2 := fun _ => List PyData → Bool) (motive_3 := fun _ => Unit) (motive_4 := fun _ => Unit)
    (fun y => psel y true (fun _ => false) (fun _ => false) (fun _ => false) (fun _ => false) false) (fun b y => pbool y (fun c => bsel b c (not c)) false) (fun i y => pint y (fun j => ieqR i j) false) (fun s y => pstr y (fun z => streqR s z) false)
    (fun _ ih y => plist y ih false) (fun _ ih y => ptup y ih false) (fun _ _ _ => false) (fun ys => lsel ys true fun _ _ => false) (fun _ _ h t ys => lsel ys false fun y ys => bsel (h y) (t ys) false) () (fun _ _ _ _ => ()) (fun _ _ _ _ => ()) x
def peqRs (xs : List PyData) : List PyData → Bool := List.rec (motive := fun _ => List PyData → Bool) (fun ys => lsel ys true fun _ _ => false) (fun x _ ih ys => lsel ys false fun y ys => bsel (peqR x y) (ih ys) false) xs
theorem peqR_aux (xs ys : List PyData) : (PyData.rec_1 (motive_1 := fun _ => PyData → Bool) (motive_2 := fun _ => List PyData → Bool) (motive_3 := fun _ => Unit) (motive_4 := fun _ => Unit)
    (fun y => psel y true (fun _ => false) (fun _ => false) (fun _ => false) (fun _ => false) false) (fun b y => pbool y (fun c => bsel b c (not c)) false) (fun i y => pint y (fun j => ieqR i j) false) (fun s y => pstr y (fun z => streqR s z) false)
    (fun _ ih y => plist y ih false) (fun _ ih y => ptup y ih false) (fun _ _ _ => false) (fun ys => lsel ys true fun _ _ => false) (fun _ _ h t ys => lsel ys false fun y ys => bsel (h y) (t ys) false) () (fun _ _ _ _ => ()) (fun _ _ _ _ => ()) xs) ys = peqRs xs ys := by
  induction xs generalizing ys with
  | nil => rfl
  | cons x xs ih =>
    cases ys with
    | nil => rfl
    | cons y ys =>
      show bsel (peqR x y) _ false = bsel (peqR x y) (peqRs xs ys) false
      rw [← ih]
mutual
theorem peqR_ok : ∀ (x y : PyData), peqR x y = true → x = y
  | .none, y, h => by cases y <;> first | rfl | cases h
  | .bool b, y, h => by
    cases y with
    | bool c => cases b <;> cases c <;> first | rfl | cases h
    | _ => cases h
  | .int i, y, h => by
    cases y with
    | int j =>
      have h : ieqR i j = true := h
      rw [ieqR_eq] at h
      rw [of_decide_eq_true h]
    | _ => cases h
  | .str s, y, h => by
    cases y with
    | str z =>
      have h : streqR s z = true := h
      rw [streqR_eq] at h
      rw [of_decide_eq_true h]
    | _ => cases h
  | .list xs, y, h => by
    cases y with
    | list ys => rw [peqRs_ok xs ys (by rw [← peqR_aux]; exact h)]
    | _ => cases h
  | .tuple xs, y, h => by
    cases y with
    | tuple ys => rw [peqRs_ok xs ys (by rw [← peqR_aux]; exact h)]
    | _ => cases h
  | .dict _, y, h => by cases h
theorem peqRs_ok : ∀ (xs ys : List PyData), peqRs xs ys = true → xs = ys
  | [], [], _ => rfl
  | [], _ :: _, h => by cases h
  | _ :: _, [], h => by cases h
  | x :: xs, y :: ys, h => by
    have h : bsel (peqR x y) (peqRs xs ys) false = true := h
    rw [bsel_eq] at h
    split at h
    · rename_i hx
      rw [peqR_ok x y hx, peqRs_ok xs ys h]
    · cases h
end
/-- the same: ground data, lists, tuples of such -/
def deqR (d : D) : D → Bool :=
  D.rec (motive_1 := fun _ => D → Bool) (motive_2 := fun _ => List D → Bool) (fun x e => dsel e (fun y => peqR x y) false false) (fun _ ih e => dlst e ih false)
    (fun _ _ _ => false) (fun _ _ _ _ => false) (fun _ _ _ _ => false) (fun _ _ => false) (fun _ _ => false) (fun _ => false) (fun es => lsel es true fun _ _ => false) (fun _ _ h t es => lsel es false fun e es => bsel (h e) (t es) false) d
def deqRs (ds : List D) : List D → Bool := List.rec (motive := fun _ => List D → Bool) (fun ys => lsel ys true fun _ _ => false) (fun x _ ih ys => lsel ys false fun y ys => bsel (deqR x y) (ih ys) false) ds
theorem deqR_lst (ds es : List D) : deqR (.lst ds) (.lst es) = deqRs ds es := by
  show (D.rec_1 (motive_1 := fun _ => D → Bool) (motive_2 := fun _ => List D → Bool) (fun x e => dsel e (fun y => peqR x y) false false) (fun _ ih e => dlst e ih false)
    (fun _ _ _ => false) (fun _ _ _ _ => false) (fun _ _ _ _ => false) (fun _ _ => false) (fun _ _ => false) (fun _ => false) (fun es => lsel es true fun _ _ => false) (fun _ _ h t es => lsel es false fun e es => bsel (h e) (t es) false) ds) es = _
  induction ds generalizing es with
  | nil => rfl
  | cons d ds ih =>
    cases es with
    | nil => rfl
    | cons e es =>
      show bsel (deqR d e) _ false = bsel (deqR d e) (deqRs ds es) false
      rw [← ih]
mutual
theorem deqR_ok : ∀ (d e : D), deqR d e = true → d = e
  | .g x, e, h => by
    cases e with
    | g y => rw [peqR_ok x y h]
    | _ => cases h
  | .lst ds, e, h => by
    cases e with
    | lst es => rw [deqRs_ok ds es (by rw [← deqR_lst]; exact h)]
    | _ => cases h
  | .tp _, e, h => by cases h
  | .dic _ _, e, h => by cases h
  | .dct _ _, e, h => by cases h
  | .scr _, e, h => by cases h
  | .ft _, e, h => by cases h
  | .hole, e, h => by cases h
theorem deqRs_ok : ∀ (ds es : List D), deqRs ds es = true → ds = es
  | [], [], _ => rfl
  | [], _ :: _, h => by cases h
  | _ :: _, [], h => by cases h
  | x :: xs, y :: ys, h => by
    have h : bsel (deqR x y) (deqRs xs ys) false = true := h
    rw [bsel_eq] at h
    split at h
    · rename_i hx
      rw [deqR_ok x y hx, deqRs_ok xs ys h]
    · cases h
end
abbrev Tab := List (List PyData × D)
def lookT (t : Tab) (xs : List PyData) : PR D := List.rec (motive := fun _ => PR D) .bad (fun p _ ih => bsel (peqRs p.1 xs) (.ok p.2) ih) t
def tabF (t : Tab) : List D → PR D := fun ds => gAllK ds (fun xs => lookT t xs) .bad
def TabOk (f : List D → PR D) (t : Tab) : Prop := ∀ p ∈ t, f (p.1.map .g) = .ok p.2
theorem tab_tw {f : List D → PR D} {t : Tab} (h : TabOk f t) : TwD f (tabF t) := ⟨fun ds => by
  unfold tabF
  rw [gAllK_eq]
  cases e : gAll ds with
  | none => exact .inl rfl
  | some xs =>
    dsimp only
    rw [gAll_some e]
    clear e
    induction t with
    | nil => exact .inl rfl
    | cons p t ih =>
      show PR.le (bsel (peqRs p.1 xs) (.ok p.2) (lookT t xs)) _
      refine bsel_le (fun hx => ?_) fun _ => ih fun q m => h q (List.mem_cons_of_mem _ m)
      rw [← peqRs_ok _ _ hx]
      exact .inr (h p List.mem_cons_self).symm⟩
/-- a piece of a table, reckoned -/
def okIs (r : PR D) (d : D) : Bool := PR.rec (motive := fun _ => Bool) (fun x => deqR x d) (fun _ => false) false r
theorem okIs_ok {r : PR D} {d : D} (h : okIs r d = true) : r = .ok d := by
  cases r with
  | ok x => rw [deqR_ok x d h]
  | _ => cases h
def chkT (c : List D → PR D) (t : Tab) : Bool := List.rec (motive := fun _ => Bool) true (fun p _ ih => bsel (okIs (c (mapG p.1)) p.2) ih false) t
theorem chkT_ok {f c : List D → PR D} {t : Tab} (tw : TwD f c) (h : chkT c t = true) : TabOk f t := by
  induction t with
  | nil => intro p m; cases m
  | cons p t ih =>
    have h : bsel (okIs (c (mapG p.1)) p.2) (chkT c t) false = true := h
    rw [bsel_eq] at h
    split at h
    · rename_i hp
      intro q m
      rcases List.mem_cons.mp m with rfl | m
      · have := okIs_ok hp
        rw [mapG_eq] at this
        exact (tw.h _).ok this
      · exact ih h q m
    · cases h
theorem TabOk.nil {f : List D → PR D} : TabOk f [] := fun _ m => by cases m
theorem TabOk.app {f : List D → PR D} {t u : Tab} (h : TabOk f t) (g : TabOk f u) : TabOk f (t ++ u) := fun p m => (List.mem_append.mp m).elim (h p) (g p)
theorem val_of {f c : List D → PR D} (tw : TwD f c) {xs : List PyData} {d : D} (h : okIs (c (mapG xs)) d = true) : f (xs.map .g) = .ok d := by
  have := okIs_ok h
  rw [mapG_eq] at this
  exact (tw.h _).ok this
end
end Ow

set_option Elab.async false
set_option linter.all false
set_option maxRecDepth 100000
set_option maxHeartbeats 1000000
/-! OwYl: for all draws: what is true whatever is drawn. -/
namespace Ow
open PySem PySem.Spec PyProof.Rows L2
noncomputable section
variable {N r : Nat}
/-- the draws' list: the script, the place, what is left, the seed -/
def dsD (ns : List Int) (p l s : Int) : D := .lst [.lst (ns.map fun i => .g (.int i)), .g (.int p), .g (.int l), .g (.int s)]
def DS (x : D) : Prop := ∃ ns p l s, x = dsD ns p l s ∧ 0 ≤ p ∧ 0 ≤ l ∧ 0 ≤ s ∧ s < 2147483647
def runB (q : PR Bool) : Bool := PR.rec (motive := fun _ => Bool) (fun b => b) (fun _ => false) false q
theorem runB_ok {q : PR Bool} (h : runB q = true) : q = .ok true := by
  cases q with
  | ok b => cases b with
    | true => rfl
    | false => cases h
  | _ => cases h
def isH (r : Nat) (e : T) : Prop := (full e)[r]? = some .hole
def holeB (d : D) (t : Bool) : Bool := dsel d (fun _ => false) false t
theorem holeB_ok {d : D} {t : Bool} (h : holeB d t = true) : d = .hole ∧ t = true := by
  cases d <;> first | exact ⟨rfl, h⟩ | cases h
abbrev UI := T → (D → T → Bool) → Bool
class TuI (N r : Nat) (f : IF) (c : outParam UI) : Prop where
  h : ∀ (e : T) (env : List D) (x : D) (k : D → T → Bool), DS x → Sim N r x e env → isH r e → c e k = true → ∃ d env' e' x', f env = .ok d env' ∧ DS x' ∧ Sim N r x' e' env' ∧ isH r e' ∧ k d e' = true
abbrev UB := T → (T → Bool) → (T → Bool) → Bool
class TuB (N r : Nat) (f : IB) (c : outParam UB) : Prop where
  h : ∀ (e : T) (env : List D) (x : D) (kt kf : T → Bool), DS x → Sim N r x e env → isH r e → c e kt kf = true → ∃ b env' e' x', f env = .ok b env' ∧ DS x' ∧ Sim N r x' e' env' ∧ isH r e' ∧ (if b = true then kt e' else kf e') = true
abbrev UL := T → (List D → T → Bool) → Bool
class TuL (N r : Nat) (f : IL) (c : outParam UL) : Prop where
  h : ∀ (e : T) (env : List D) (x : D) (k : List D → T → Bool), DS x → Sim N r x e env → isH r e → c e k = true → ∃ d env' e' x', f env = .ok d env' ∧ DS x' ∧ Sim N r x' e' env' ∧ isH r e' ∧ k d e' = true
abbrev US := T → (T → Bool) → (D → Bool) → (T → Bool) → (T → Bool) → Bool
def OutE (N r : Nat) (k : T → Bool) (env : List D) : Prop := ∃ e x, DS x ∧ Sim N r x e env ∧ isH r e ∧ k e = true
/-- a return: its value is told, and the draws' list stands -/
def OutU (N r : Nat) (nx : T → Bool) (rt : D → Bool) (bk ct : T → Bool) : SR → Prop
  | .nx env => OutE N r nx env
  | .rt d env => rt d = true ∧ ∃ x, DS x ∧ env[r]? = some x
  | .bk env => OutE N r bk env
  | .ct env => OutE N r ct env
  | _ => False
class TuS (N r : Nat) (g : SF) (c : outParam US) : Prop where
  h : ∀ (e : T) (env : List D) (x : D) (nx : T → Bool) (rt : D → Bool) (bk ct : T → Bool), DS x → Sim N r x e env → isH r e → c e nx rt bk ct = true → OutU N r nx rt bk ct (g env)
/-- draws that a def of the law makes -/
abbrev UD := List D → (D → Bool) → Bool
class TuD (G : List D → PR (D × D)) (c : outParam UD) : Prop where
  h : ∀ (x : D) (ds : List D) (k : D → Bool), DS x → c ds k = true → ∃ v x', G (x :: ds) = .ok (v, x') ∧ DS x' ∧ k v = true
theorem isH.get {g : T → D} [hg : TwG r g] {e : T} (h : isH r e) : g e = .hole := by
  have := hg.h e
  rw [h] at this
  exact (Option.some.inj this).symm
theorem isH.of {g : T → D} [hg : TwG r g] {e : T} (h : g e = .hole) : isH r e := by
  have := hg.h e
  rw [h] at this
  exact this
/-! ### what draws nothing -/
theorem ok_of_le {a b : PR Bool} (h : PR.le a b) (e : a = .ok true) : b = .ok true := h.ok e
open Classical in
/-- a reading of the list, out of one of the tree -/
def liftB {α : Type} (N r : Nat) (x : D) (k : α → T → Bool) (d : α) (env : List D) : PR Bool := if ∃ e, Sim N r x e env ∧ isH r e ∧ k d e = true then .ok true else .bad
theorem liftB_ok {α : Type} {x : D} {k : α → T → Bool} {d : α} {env : List D} (h : liftB N r x k d env = .ok true) : ∃ e, Sim N r x e env ∧ isH r e ∧ k d e = true := by
  unfold liftB at h
  split at h
  · assumption
  · cases h
theorem liftB_le {α : Type} {x : D} {g : T → D} [TwG r g] {k : α → T → Bool} {d : α} {e : T} {env : List D} (sm : Sim N r x e env) : PR.le (bsel (holeB (g e) (k d e)) (.ok true) .bad) (liftB N r x k d env) := by
  refine bsel_le (fun h => ?_) fun _ => .inl rfl
  obtain ⟨h1, h2⟩ := holeB_ok h
  unfold liftB
  rw [if_pos ⟨e, sm, .of h1, h2⟩]
  exact .inr rfl
def uiP (g : T → D) (c : CIt) : UI := fun e k => runB (c Bool e fun d e => bsel (holeB (g e) (k d e)) (.ok true) .bad)
instance (priority := high) tuiP (f : IF) (g : T → D) (c : CIt) [TwG r g] [t : ∀ x : D, TwI N r x f c] : TuI N r f (uiP g c) := ⟨fun e env x k hx sm hh h => by
  have h := runB_ok h
  have := ((t x).h Bool e env sm _ (fun d env => liftB N r x k d env) fun d e env sm => liftB_le sm).ok h
  cases e1 : f env with
  | ok d env' =>
    rw [e1] at this
    obtain ⟨e', h1, h2, h3⟩ := liftB_ok this
    exact ⟨d, env', e', x, rfl, hx, h1, h2, h3⟩
  | err _ => rw [e1] at this; cases this
  | bad => rw [e1] at this; cases this⟩
def ubP (g : T → D) (c : CIBt) : UB := fun e kt kf => runB (c Bool e (fun e => bsel (holeB (g e) (kt e)) (.ok true) .bad) fun e => bsel (holeB (g e) (kf e)) (.ok true) .bad)
instance (priority := high) tubP (f : IB) (g : T → D) (c : CIBt) [TwG r g] [t : ∀ x : D, TwIB N r x f c] : TuB N r f (ubP g c) := ⟨fun e env x kt kf hx sm hh h => by
  have h := runB_ok h
  have := ((t x).h Bool e env sm _ _ (fun b env => liftB N r x (fun (b : Bool) e => if b = true then kt e else kf e) b env) (fun e env sm => liftB_le (k := fun (b : Bool) e => if b = true then kt e else kf e) (d := true) sm) fun e env sm => liftB_le (k := fun (b : Bool) e => if b = true then kt e else kf e) (d := false) sm).ok h
  cases e1 : f env with
  | ok d env' =>
    rw [e1] at this
    obtain ⟨e', h1, h2, h3⟩ := liftB_ok (k := fun (b : Bool) e => if b = true then kt e else kf e) (d := d) this
    exact ⟨d, env', e', x, rfl, hx, h1, h2, h3⟩
  | err _ => rw [e1] at this; cases this
  | bad => rw [e1] at this; cases this⟩
def ulP (g : T → D) (c : CILt) : UL := fun e k => runB (c Bool e fun d e => bsel (holeB (g e) (k d e)) (.ok true) .bad)
instance (priority := high) tulP (f : IL) (g : T → D) (c : CILt) [TwG r g] [t : ∀ x : D, TwIL N r x f c] : TuL N r f (ulP g c) := ⟨fun e env x k hx sm hh h => by
  have h := runB_ok h
  have := ((t x).h Bool e env sm _ (fun d env => liftB N r x k d env) fun d e env sm => liftB_le sm).ok h
  cases e1 : f env with
  | ok d env' =>
    rw [e1] at this
    obtain ⟨e', h1, h2, h3⟩ := liftB_ok this
    exact ⟨d, env', e', x, rfl, hx, h1, h2, h3⟩
  | err _ => rw [e1] at this; cases this
  | bad => rw [e1] at this; cases this⟩
/-- statements that fall through -/
def usP (g : T → D) (c : CSt) : US := fun e nx rt bk ct => runB (c Bool e (fun e => bsel (holeB (g e) (nx e)) (.ok true) .bad) (fun _ _ => .bad) (fun e => bsel (holeB (g e) (bk e)) (.ok true) .bad) (fun e => bsel (holeB (g e) (ct e)) (.ok true) .bad))
instance (priority := low) tusP (f : SF) (g : T → D) (c : CSt) [TwG r g] [t : ∀ x : D, TwS N r x f c] : TuS N r f (usP g c) := ⟨fun e env x nx rt bk ct hx sm hh h => by
  have h := runB_ok h
  have := ((t x).h Bool e env sm _ _ _ _ (fun env => liftB N r x (fun (_ : Unit) e => nx e) () env) (fun _ _ => .bad) (fun env => liftB N r x (fun (_ : Unit) e => bk e) () env) (fun env => liftB N r x (fun (_ : Unit) e => ct e) () env)
    (fun e env sm => liftB_le (k := fun (_ : Unit) e => nx e) (d := ()) sm) (fun _ _ _ _ => .inl rfl) (fun e env sm => liftB_le (k := fun (_ : Unit) e => bk e) (d := ()) sm) fun e env sm => liftB_le (k := fun (_ : Unit) e => ct e) (d := ()) sm).ok h
  cases e1 : f env with
  | nx env' =>
    rw [e1] at this
    obtain ⟨e', h1, h2, h3⟩ := liftB_ok (k := fun (_ : Unit) e => nx e) (d := ()) this
    exact ⟨e', x, hx, h1, h2, h3⟩
  | bk env' =>
    rw [e1] at this
    obtain ⟨e', h1, h2, h3⟩ := liftB_ok (k := fun (_ : Unit) e => bk e) (d := ()) this
    exact ⟨e', x, hx, h1, h2, h3⟩
  | ct env' =>
    rw [e1] at this
    obtain ⟨e', h1, h2, h3⟩ := liftB_ok (k := fun (_ : Unit) e => ct e) (d := ()) this
    exact ⟨e', x, hx, h1, h2, h3⟩
  | rt d env' => rw [e1] at this; cases this
  | err _ => rw [e1] at this; cases this
  | bad => rw [e1] at this; cases this⟩
/-! ### expressions that draw -/
def uiBin (cF : CFt) (ca cb : UI) : UI := fun e k => ca e fun a e => cb e fun b e => runB (cF Bool a b fun d => bsel (k d e) (.ok true) .bad)
theorem bsel_runB {b : Bool} {q : PR Bool} (h : runB (bsel b q .bad) = true) : b = true := by
  cases b with
  | true => rfl
  | false => cases h
open Classical in
instance (priority := 20) tuiBin (F : D → D → Option D) (fa fb : IF) (cF : CFt) (ca cb : UI) [tF : TwF F cF] [ta : TuI N r fa ca] [tb : TuI N r fb cb] : TuI N r (iBin F fa fb) (uiBin cF ca cb) := ⟨fun e env x k hx sm hh h => by
  obtain ⟨a, env1, e1, x1, h1, hx1, sm1, hh1, q1⟩ := ta.h _ _ _ _ hx sm hh h
  obtain ⟨b, env2, e2, x2, h2, hx2, sm2, hh2, q2⟩ := tb.h _ _ _ _ hx1 sm1 hh1 q1
  have := (tF.h Bool a b _ (fun d => if k d e2 = true then PR.ok true else .bad) fun d => bsel_le (fun z => by rw [if_pos z]; exact .inr rfl) fun _ => .inl rfl).ok (runB_ok q2)
  unfold iBin
  rw [h1, IR.bind_ok, h2, IR.bind_ok]
  cases e3 : F a b with
  | none => rw [e3] at this; cases this
  | some d =>
    rw [e3] at this
    refine ⟨d, env2, e2, x2, rfl, hx2, sm2, hh2, ?_⟩
    have z : (if k d e2 = true then PR.ok true else .bad) = PR.ok true := this
    split at z
    · assumption
    · cases z⟩
def ubTst (c : UI) : UB := fun e kt kf => c e fun d e => dsel d (fun x => pbool x (fun b => bsel b (kt e) (kf e)) false) false false
instance (priority := 20) tubTst (f : IF) (c : UI) [t : TuI N r f c] : TuB N r (iTst f) (ubTst c) := ⟨fun e env x kt kf hx sm hh h => by
  obtain ⟨d, env1, e1, x1, h1, hx1, sm1, hh1, q1⟩ := t.h _ _ _ _ hx sm hh h
  unfold iTst
  rw [h1, IR.bind_ok]
  cases d with
  | g y =>
    cases y with
    | bool b => exact ⟨b, env1, e1, x1, rfl, hx1, sm1, hh1, by cases b <;> exact q1⟩
    | _ => cases q1
  | _ => cases q1⟩
def ulNil : UL := fun e k => k [] e
instance (priority := 20) tulNil : TuL N r iNil ulNil := ⟨fun e env x k hx sm hh h => ⟨[], env, e, x, rfl, hx, sm, hh, h⟩⟩
def ulCons (c : UI) (cl : UL) : UL := fun e k => c e fun d e => cl e fun ds e => k (d :: ds) e
instance (priority := 20) tulCons (f : IF) (g : IL) (c : UI) (cl : UL) [t : TuI N r f c] [tl : TuL N r g cl] : TuL N r (iCons f g) (ulCons c cl) := ⟨fun e env x k hx sm hh h => by
  obtain ⟨d, env1, e1, x1, h1, hx1, sm1, hh1, q1⟩ := t.h _ _ _ _ hx sm hh h
  obtain ⟨ds, env2, e2, x2, h2, hx2, sm2, hh2, q2⟩ := tl.h _ _ _ _ hx1 sm1 hh1 q1
  refine ⟨d :: ds, env2, e2, x2, ?_, hx2, sm2, hh2, q2⟩
  unfold iCons
  rw [h1, IR.bind_ok, h2]; rfl⟩
def uiTup (cl : UL) : UI := fun e k => cl e fun ds e => lenOk ds (mkTupK ds fun d => k d e) false
instance (priority := 20) tuiTup (f : IL) (cl : UL) [t : TuL N r f cl] : TuI N r (iTup f) (uiTup cl) := ⟨fun e env x k hx sm hh h => by
  obtain ⟨ds, env1, e1, x1, h1, hx1, sm1, hh1, q1⟩ := t.h _ _ _ _ hx sm hh h
  rw [lenOk_eq, mkTupK_eq] at q1
  split at q1
  · rename_i hz
    refine ⟨mkTup ds, env1, e1, x1, ?_, hx1, sm1, hh1, q1⟩
    unfold iTup
    rw [h1, IR.bind_ok, if_pos hz]
  · cases q1⟩
def uiLst (cl : UL) : UI := fun e k => cl e fun ds e => lenOk ds (k (.lst ds) e) false
instance (priority := 20) tuiLst (f : IL) (cl : UL) [t : TuL N r f cl] : TuI N r (iLst f) (uiLst cl) := ⟨fun e env x k hx sm hh h => by
  obtain ⟨ds, env1, e1, x1, h1, hx1, sm1, hh1, q1⟩ := t.h _ _ _ _ hx sm hh h
  rw [lenOk_eq] at q1
  split at q1
  · rename_i hz
    refine ⟨.lst ds, env1, e1, x1, ?_, hx1, sm1, hh1, q1⟩
    unfold iLst
    rw [h1, IR.bind_ok, if_pos hz]
  · cases q1⟩
def uiFun (n : Nat) (cd : List D → PR D) (cl : UL) : UI := fun e k => cl e fun ds e => lenEq ds n (runB ((cd ds).run fun d => bsel (k d e) (.ok true) .bad)) false
open Classical in
instance (priority := 20) tuiFun (n : Nat) (G : List D → PR D) (f : IL) (cd : List D → PR D) (cl : UL) [td : TwD G cd] [t : TuL N r f cl] : TuI N r (iFun n G f) (uiFun n cd cl) := ⟨fun e env x k hx sm hh h => by
  obtain ⟨ds, env1, e1, x1, h1, hx1, sm1, hh1, q1⟩ := t.h _ _ _ _ hx sm hh h
  rw [lenEq_eq] at q1
  split at q1
  · rename_i hz
    have := (PR.le_run (td.h ds) (k' := fun d => if k d e1 = true then PR.ok true else .bad) fun d => bsel_le (fun z => by rw [if_pos z]; exact .inr rfl) fun _ => .inl rfl).ok (runB_ok q1)
    unfold iFun
    rw [h1, IR.bind_ok, if_pos hz]
    cases e3 : G ds with
    | ok d =>
      rw [e3] at this
      have z : (if k d e1 = true then PR.ok true else .bad) = PR.ok true := this
      refine ⟨d, env1, e1, x1, rfl, hx1, sm1, hh1, ?_⟩
      split at z
      · assumption
      · cases z
    | err _ => rw [e3] at this; cases this
    | bad => rw [e3] at this; cases this
  · cases q1⟩
def uiCall (cn : CNt) (cl : UL) : UI := fun e k => cl e fun ds e => runB (cn Bool ds fun d => bsel (k d e) (.ok true) .bad)
open Classical in
instance (priority := 20) tuiCall (F : List D → Option D) (f : IL) (cn : CNt) (cl : UL) [tn : TwN F cn] [t : TuL N r f cl] : TuI N r (iCall F f) (uiCall cn cl) := ⟨fun e env x k hx sm hh h => by
  obtain ⟨ds, env1, e1, x1, h1, hx1, sm1, hh1, q1⟩ := t.h _ _ _ _ hx sm hh h
  have := (tn.h Bool ds _ (fun d => if k d e1 = true then PR.ok true else .bad) fun d => bsel_le (fun z => by rw [if_pos z]; exact .inr rfl) fun _ => .inl rfl).ok (runB_ok q1)
  unfold iCall
  rw [h1, IR.bind_ok]
  cases e3 : F ds with
  | none => rw [e3] at this; cases this
  | some d =>
    rw [e3] at this
    have z : (if k d e1 = true then PR.ok true else .bad) = PR.ok true := this
    refine ⟨d, env1, e1, x1, rfl, hx1, sm1, hh1, ?_⟩
    split at z
    · assumption
    · cases z⟩
/-- a def that draws, called upon the draws' list -/
def uiFunD (n : Nat) (cd : UD) (cl : CLt) : UI := fun e k => runB (cl Bool e fun ds => bsel (Nat.beq (Nat.succ (lenR ds)) n) (bsel (cd ds fun v => k v e) (.ok true) .bad) .bad)
theorem sim_drop {x : D} {e : T} {env : List D} (sm : Sim N r x e env) (hh : isH r e) : Sim N 99 .hole e (env.set r .hole) := ⟨by rw [List.length_set]; exact sm.len, fun i hi d hd => by
  by_cases h : r = i
  · subst h
    rw [hh] at hd
    cases hd; exact .inl rfl
  · rw [List.getElem?_set_ne h]
    exact sm.here i hi d hd, fun h hd => by
  have : r ≠ 99 ∨ r = 99 := by omega
  rcases this with z | z
  · rw [List.getElem?_set_ne z]
    have hl : (full e).length = 32 := rfl
    rw [List.getElem?_eq_none (by omega)] at hd
    cases hd
  · subst z
    have hl : (full e).length = 32 := rfl
    rw [List.getElem?_eq_none (by omega)] at hd
    cases hd⟩
theorem sim_put {x x' : D} {e : T} {env : List D} (sm : Sim N r x e env) (hh : isH r e) : Sim N r x' e (env.set r x') := ⟨by rw [List.length_set]; exact sm.len, fun i hi d hd => by
  by_cases h : r = i
  · subst h
    rw [hh] at hd
    cases hd; exact .inl rfl
  · rw [List.getElem?_set_ne h]
    exact sm.here i hi d hd, fun h _ => by
  rw [List.getElem?_set_self (by rw [sm.len]; exact h)]⟩
theorem DS.ne {x : D} (h : DS x) : x ≠ .hole := by
  obtain ⟨ns, p, l, s, rfl, _⟩ := h
  intro z; cases z
open Classical in
instance (priority := 20) tuiFunD (n : Nat) (G : List D → PR (D × D)) (f : PL) (cd : UD) (cl : CLt) [hr : LtC r N] [td : TuD G cd] [t : TwL N 99 .hole f cl] : TuI N r (iFunD r n G f) (uiFunD n cd cl) := ⟨fun e env x k hx sm hh h => by
  have hp := sm.pin hr.h hh
  have := (t.h Bool e _ (sim_drop sm hh) _ (fun ds => if ds.length + 1 = n ∧ cd ds (fun v => k v e) = true then PR.ok true else .bad) fun ds => bsel_le (fun z1 => bsel_le (fun z2 => by
    rw [beq_dec, lenR_eq] at z1
    rw [if_pos ⟨of_decide_eq_true z1, z2⟩]; exact .inr rfl) fun _ => .inl rfl) fun _ => .inl rfl).ok (runB_ok h)
  unfold iFunD ownAt
  rw [hp]
  obtain ⟨ns, p, l, s, rfl, hv⟩ := hx
  show ∃ d env' e' x', ((IR.ofP (f (env.set r .hole)) env).bind fun ds env => if ds.length + 1 = n then (IR.ofP (G (dsD ns p l s :: ds)) env).bind fun rd env => setNH r rd.2 env (IR.ok rd.1 (env.set r rd.2)) else IR.bad) = IR.ok d env' ∧ DS x' ∧ Sim N r x' e' env' ∧ isH r e' ∧ k d e' = true
  cases e1 : f (env.set r .hole) with
  | ok ds =>
    rw [e1] at this
    have z : (if ds.length + 1 = n ∧ cd ds (fun v => k v e) = true then PR.ok true else .bad) = PR.ok true := this
    split at z
    · rename_i hz
      obtain ⟨v, x', e2, hx', hk⟩ := td.h (dsD ns p l s) ds _ ⟨ns, p, l, s, rfl, hv⟩ hz.2
      refine ⟨v, env.set r x', e, x', ?_, hx', sim_put sm hh, hh, hk⟩
      show (if ds.length + 1 = n then (IR.ofP (G (dsD ns p l s :: ds)) env).bind _ else _) = _
      rw [if_pos hz.1, e2]
      show setNH r x' env (IR.ok v (env.set r x')) = _
      unfold setNH
      obtain ⟨ns', p', l', s', rfl, _⟩ := hx'
      rfl
    · cases z
  | err _ => rw [e1] at this; cases this
  | bad => rw [e1] at this; cases this⟩
/-! ### statements that draw -/
def usSeq (c c' : US) : US := fun e nx rt bk ct => c e (fun e => c' e nx rt bk ct) rt bk ct
instance (priority := 500) tusSeq (g g' : SF) (c c' : US) [t : TuS N r g c] [t' : TuS N r g' c'] : TuS N r (sSeq g g') (usSeq c c') := ⟨fun e env x nx rt bk ct hx sm hh h => by
  have q := t.h _ _ _ _ _ _ _ hx sm hh h
  unfold sSeq
  cases e1 : g env with
  | nx env1 =>
    rw [e1] at q
    obtain ⟨e1, x1, hx1, sm1, hh1, h1⟩ := q
    exact t'.h _ _ _ _ _ _ _ hx1 sm1 hh1 h1
  | rt d env1 => rw [e1] at q; exact q
  | bk env1 => rw [e1] at q; exact q
  | ct env1 => rw [e1] at q; exact q
  | err _ => rw [e1] at q; exact q
  | bad => rw [e1] at q; exact q⟩
def usIf (c : UB) (ca cb : US) : US := fun e nx rt bk ct => c e (fun e => ca e nx rt bk ct) (fun e => cb e nx rt bk ct)
instance (priority := 500) tusIf (b : IB) (g g' : SF) (c : UB) (ca cb : US) [t : TuB N r b c] [ta : TuS N r g ca] [tb : TuS N r g' cb] : TuS N r (sIf b g g') (usIf c ca cb) := ⟨fun e env x nx rt bk ct hx sm hh h => by
  obtain ⟨d, env1, e1, x1, h1, hx1, sm1, hh1, q1⟩ := t.h _ _ _ _ _ hx sm hh h
  unfold sIf
  rw [h1]
  cases d with
  | true => exact ta.h _ _ _ _ _ _ _ hx1 sm1 hh1 q1
  | false => exact tb.h _ _ _ _ _ _ _ hx1 sm1 hh1 q1⟩
def usNil : US := fun e nx rt bk ct => nx e
instance (priority := 500) tusNil : TuS N r sNil usNil := ⟨fun e env x nx rt bk ct hx sm hh h => ⟨e, x, hx, sm, hh, h⟩⟩
def setB (s : CSet) (d : D) (e : T) (k : T → Bool) : Bool := runB (putK s d e fun e => bsel (k e) (.ok true) .bad)
def usSet (s : CSet) (c : UI) : US := fun e nx rt bk ct => c e fun d e => setB s d e nx
theorem setB_ok {i : Nat} {s : CSet} [LtC i N] [TwS' i s] [ne : NeC i r] {x d : D} {e : T} {env : List D} {k : T → Bool} (sm : Sim N r x e env) (hh : isH r e) (h : setB s d e k = true) : ∃ env' e', putD i d env = some env' ∧ Sim N r x e' env' ∧ isH r e' ∧ k e' = true := by
  unfold setB putK at h
  by_cases hd : d = .hole
  · subst hd; cases h
  obtain ⟨e', h1, h2⟩ := sm.set (i := i) (s := s) d (.inl hd)
  have hfull : isH r e' := by
    obtain ⟨e2, q1, q2⟩ := TwS'.h (i := i) (s := s) d e
    have := h1 T fun e => .ok e
    rw [q1] at this
    cases this
    unfold isH
    rw [q2, List.getElem?_set_ne ne.h]
    exact hh
  refine ⟨env.set i d, e', putD_of sm hd, h2, hfull, ?_⟩
  have z : runB (s Bool d e fun e => bsel (k e) (.ok true) .bad) = true := by
    cases d with
    | hole => exact absurd rfl hd
    | _ => exact h
  rw [h1] at z
  exact bsel_runB z
instance (priority := 20) tusSet (i : Nat) (f : IF) (s : CSet) (c : UI) [LtC i N] [TwS' i s] [ne : NeC i r] [t : TuI N r f c] : TuS N r (sSet i f) (usSet s c) := ⟨fun e env x nx rt bk ct hx sm hh h => by
  obtain ⟨d, env1, e1, x1, h1, hx1, sm1, hh1, q1⟩ := t.h _ _ _ _ hx sm hh h
  obtain ⟨env2, e2, h2, sm2, hh2, q2⟩ := setB_ok (i := i) (ne := ne) sm1 hh1 q1
  unfold sSet
  rw [h1]
  show OutU N r nx rt bk ct (OpS (putD i d env1))
  rw [h2]
  exact ⟨e2, x1, hx1, sm2, hh2, q2⟩⟩
def usRet (c : UI) : US := fun e nx rt bk ct => c e fun d _ => rt d
instance (priority := 500) tusRet (f : IF) (c : UI) [hr : LtC r N] [t : TuI N r f c] : TuS N r (sRet f) (usRet c) := ⟨fun e env x nx rt bk ct hx sm hh h => by
  obtain ⟨d, env1, e1, x1, h1, hx1, sm1, hh1, q1⟩ := t.h _ _ _ _ hx sm hh h
  unfold sRet
  rw [h1]
  exact ⟨q1, x1, hx1, sm1.pin hr.h hh1⟩⟩
def usDrop (c : UI) : US := fun e nx rt bk ct => c e fun _ e => nx e
instance (priority := 20) tusDrop (f : IF) (c : UI) [t : TuI N r f c] : TuS N r (sDrop f) (usDrop c) := ⟨fun e env x nx rt bk ct hx sm hh h => by
  obtain ⟨d, env1, e1, x1, h1, hx1, sm1, hh1, q1⟩ := t.h _ _ _ _ hx sm hh h
  unfold sDrop
  rw [h1]
  exact ⟨e1, x1, hx1, sm1, hh1, q1⟩⟩
/-- what a slot's tree tells less of is told all the more -/
theorem Sim.weak {x : D} {e e0 : T} {env : List D} (sm : Sim N r x e env) (hh : isH r e) (h : ∀ (i : Nat) (d : D), (full e0)[i]? = some d → d = D.hole ∨ (full e)[i]? = some d) : Sim N r x e0 env := ⟨sm.len, fun i hi d hd => by
  rcases h i d hd with z | z
  · exact .inl z
  · exact sm.here i hi d z, fun hp _ => sm.pin hp hh⟩
end
end Ow

set_option Elab.async false
set_option linter.all false
set_option maxRecDepth 100000
set_option maxHeartbeats 4000000
/-! OwYm: the laws' own drawing defs. -/
namespace Ow
open PySem PySem.Spec PyProof.Rows L2
/-- _law_take, as every law has it -/
def takeG : SF := sSeq
  (sIf (iPB (pAnd (pTst (pBin fEq (pIx (pVar 0) (pC (.int 2))) (pC (.int 0)))) (pTst (pBin fLt (pIx (pVar 0) (pC (.int 1))) (pCall fLen (pCons (pIx (pVar 0) (pC (.int 0))) pNil))))))
    (sSeq (sSubL 0 (rootP 0) (pC (.int 2)) (iP (pCall fAbs (pCons (pCall fInt (pCons (pIx (pIx (pVar 0) (pC (.int 0))) (pIx (pVar 0) (pC (.int 1)))) pNil)) pNil))))
      (sSeq (sSubL 0 (rootP 0) (pC (.int 1)) (iP (pBin fAdd (pIx (pVar 0) (pC (.int 1))) (pC (.int 1)))))
        (sIf (iPB (pTst (pBin fLt (pIx (pVar 0) (pC (.int 2))) (pBin fPow (pC (.int 10)) (pC (.int 18))))))
          (sSeq (sSet 2 (iP (pCall fInt (pCons (pIx (pVar 0) (pC (.int 2))) pNil)))) (sSeq (sSubL 0 (rootP 0) (pC (.int 2)) (iP (pC (.int 0)))) (sRet (iP (pBin fMod (pVar 2) (pVar 1))))))
          sNil)))
    sNil)
  (sSeq
    (sIf (iPB (pTst (pBin fGt (pIx (pVar 0) (pC (.int 2))) (pC (.int 0)))))
      (sSeq (sSet 3 (iP (pBin fMod (pCall fInt (pCons (pIx (pVar 0) (pC (.int 2))) pNil)) (pVar 1))))
        (sSeq (sSubL 0 (rootP 0) (pC (.int 2)) (iP (pBin fDiv (pCall fInt (pCons (pIx (pVar 0) (pC (.int 2))) pNil)) (pVar 1)))) (sRet (iP (pVar 3)))))
      sNil)
    (sSeq (sSubL 0 (rootP 0) (pC (.int 3)) (iP (pBin fMod (pCall fInt (pCons (pBin fAdd (pBin fMul (pIx (pVar 0) (pC (.int 3))) (pC (.int 69621))) (pC (.int 13))) pNil)) (pC (.int 2147483647)))))
      (sRet (iP (pBin fMod (pCall fInt (pCons (pBin fDiv (pIx (pVar 0) (pC (.int 3))) (pC (.int 7))) pNil)) (pVar 1))))))
/-- the slots while a number is drawn -/
def tE (ns : List Int) (p l s m : Int) (a b : D) : List D := [dsD ns p l s, .g (.int m), a, b, .hole]
section
variable {ns : List Int} {p l s m : Int} {a b : D}
theorem tk_0 : pIx (pVar 0) (pC (.int 0)) (tE ns p l s m a b) = .ok (.bor (.lst (ns.map fun i => .g (.int i)))) := rfl
theorem tk_1 : pIx (pVar 0) (pC (.int 1)) (tE ns p l s m a b) = .ok (.own (.g (.int p))) := rfl
theorem tk_2 : pIx (pVar 0) (pC (.int 2)) (tE ns p l s m a b) = .ok (.own (.g (.int l))) := rfl
theorem tk_3 : pIx (pVar 0) (pC (.int 3)) (tE ns p l s m a b) = .ok (.own (.g (.int s))) := rfl
theorem tk_m : pVar 1 (tE ns p l s m a b) = .ok (.own (.g (.int m))) := rfl
theorem st_1 (f : IF) (v : Int) (h : f (tE ns p l s m a b) = .ok (.g (.int v)) (tE ns p l s m a b)) : sSubL 0 (rootP 0) (pC (.int 1)) f (tE ns p l s m a b) = .nx (tE ns v l s m a b) := by
  unfold sSubL; rw [h]; rfl
theorem st_2 (f : IF) (v : Int) (h : f (tE ns p l s m a b) = .ok (.g (.int v)) (tE ns p l s m a b)) : sSubL 0 (rootP 0) (pC (.int 2)) f (tE ns p l s m a b) = .nx (tE ns p v s m a b) := by
  unfold sSubL; rw [h]; rfl
theorem st_3 (f : IF) (v : Int) (h : f (tE ns p l s m a b) = .ok (.g (.int v)) (tE ns p l s m a b)) : sSubL 0 (rootP 0) (pC (.int 3)) f (tE ns p l s m a b) = .nx (tE ns p l v m a b) := by
  unfold sSubL; rw [h]; rfl
theorem seq_nx {g h : SF} {env e : List D} (q : g env = .nx e) : sSeq g h env = h e := by unfold sSeq; rw [q]
theorem seq_rt {g h : SF} {env e : List D} {d : D} (q : g env = .rt d e) : sSeq g h env = .rt d e := by unfold sSeq; rw [q]
theorem if_t {c : IB} {g h : SF} {env e : List D} (q : c env = .ok true e) : sIf c g h env = g e := by unfold sIf; rw [q]; rfl
theorem if_f {c : IB} {g h : SF} {env e : List D} (q : c env = .ok false e) : sIf c g h env = h e := by unfold sIf; rw [q]; rfl
theorem if_fn {c : IB} {g : SF} {env e : List D} (q : c env = .ok false e) : sIf c g sNil env = .nx e := by unfold sIf; rw [q]; rfl
theorem iP_own {f : PF} {env : List D} {d : D} (q : f env = .ok (.own d)) : iP f env = .ok d env := by unfold iP; rw [q]; rfl
theorem ret_of {f : IF} {env e : List D} {d : D} (q : f env = .ok d e) : sRet f env = .rt d e := by unfold sRet; rw [q]; rfl
theorem set_of {f : IF} {env e : List D} {x : PyData} {i : Nat} (q : f env = .ok (.g x) e) (hi : i < e.length) : sSet i f env = .nx (e.set i (.g x)) := by
  unfold sSet
  rw [q]
  show OpS (if i < e.length then some (e.set i (.g x)) else none) = _
  rw [if_pos hi]; rfl
theorem bin_of {F : D → D → Option D} {f g : PF} {env : List D} {p q : Pv} {d : D} (h1 : f env = .ok p) (h2 : g env = .ok q) (h3 : F p.d q.d = some d) : pBin F f g env = .ok (.own d) := by
  unfold pBin
  rw [h1, PR.bind_ok, h2, PR.bind_ok, h3]; rfl
theorem tst_of {f : PF} {env : List D} {b : Bool} (h : f env = .ok (.own (.g (.bool b)))) : pTst f env = .ok b := by unfold pTst; rw [h]; rfl
theorem int_of {f : PF} {env : List D} {i : Int} (h : f env = .ok (.own (.g (.int i)))) : pCall fInt (pCons f pNil) env = .ok (.own (.g (.int i))) := by unfold pCall pCons pNil; rw [h]; rfl
theorem abs_of {f : PF} {env : List D} {i : Int} (h : f env = .ok (.own (.g (.int i)))) : pCall fAbs (pCons f pNil) env = .ok (.own (.g (.int (if i < 0 then -i else i)))) := by unfold pCall pCons pNil; rw [h]; rfl
theorem mod_of {f g : PF} {env : List D} {i j : Int} (h1 : f env = .ok (.own (.g (.int i)))) (h2 : g env = .ok (.own (.g (.int j)))) (hj : 0 < j) : pBin fMod f g env = .ok (.own (.g (.int (i % j)))) :=
  bin_of h1 h2 (by show (if 0 < j then _ else _) = _; rw [if_pos hj])
theorem div_of {f g : PF} {env : List D} {i j : Int} (h1 : f env = .ok (.own (.g (.int i)))) (h2 : g env = .ok (.own (.g (.int j)))) (hj : 0 < j) (hj2 : j < 1073741824) : pBin fDiv f g env = .ok (.own (.g (.int (i / j)))) :=
  bin_of h1 h2 (by show (if _ then _ else _) = _; rw [if_pos ⟨hj, .inl hj2⟩])
theorem add_of {f g : PF} {env : List D} {i j : Int} (h1 : f env = .ok (.own (.g (.int i)))) (h2 : g env = .ok (.own (.g (.int j)))) : pBin fAdd f g env = .ok (.own (.g (.int (i + j)))) := bin_of h1 h2 rfl
theorem mul_of {f g : PF} {env : List D} {i j : Int} (h1 : f env = .ok (.own (.g (.int i)))) (h2 : g env = .ok (.own (.g (.int j)))) (hi : -18446744073709551616 < i) (hi2 : i < 18446744073709551616) : pBin fMul f g env = .ok (.own (.g (.int (i * j)))) :=
  bin_of h1 h2 (by show (if _ then _ else _) = _; rw [if_pos (.inl ⟨hi, hi2⟩)])
theorem atI_of {α : Type} (xs : List α) (i : Int) (h0 : 0 ≤ i) (h1 : i < xs.length) : ∃ x, xs[i.toNat]? = some x ∧ atI xs i = some x := by
  have hl : i.toNat < xs.length := by omega
  refine ⟨xs[i.toNat], List.getElem?_eq_getElem hl, ?_⟩
  unfold atI ixN
  rw [if_pos h0, if_pos h1]
  show xs[i.toNat]? = _
  exact List.getElem?_eq_getElem hl
/-- the first test: is a number of the script's to be read? -/
theorem tk_c (h : l = 0 ∧ p < ns.length) : pAnd (pTst (pBin fEq (pIx (pVar 0) (pC (.int 2))) (pC (.int 0)))) (pTst (pBin fLt (pIx (pVar 0) (pC (.int 1))) (pCall fLen (pCons (pIx (pVar 0) (pC (.int 0))) pNil)))) (tE ns p l s m a b) = .ok true := by
  have e1 : pTst (pBin fEq (pIx (pVar 0) (pC (.int 2))) (pC (.int 0))) (tE ns p l s m a b) = .ok true := tst_of (bin_of tk_2 rfl (by show some (D.g (.bool (decide (l = 0)))) = _; rw [decide_eq_true h.1]))
  have e2 : pCall fLen (pCons (pIx (pVar 0) (pC (.int 0))) pNil) (tE ns p l s m a b) = .ok (.own (.g (.int ns.length))) := by
    unfold pCall pCons pNil
    rw [tk_0]
    show PR.ok (Pv.own (.g (.int ((ns.map fun i => D.g (.int i)).length : Nat)))) = _
    rw [List.length_map]
  have e3 : pTst (pBin fLt (pIx (pVar 0) (pC (.int 1))) (pCall fLen (pCons (pIx (pVar 0) (pC (.int 0))) pNil))) (tE ns p l s m a b) = .ok true := tst_of (bin_of tk_1 e2 (by show some (D.g (.bool (decide (p < ns.length)))) = _; rw [decide_eq_true h.2]))
  unfold pAnd
  rw [e1, PR.bind_ok, if_pos rfl, e3]
theorem tk_c' (h : ¬ (l = 0 ∧ p < ns.length)) : pAnd (pTst (pBin fEq (pIx (pVar 0) (pC (.int 2))) (pC (.int 0)))) (pTst (pBin fLt (pIx (pVar 0) (pC (.int 1))) (pCall fLen (pCons (pIx (pVar 0) (pC (.int 0))) pNil)))) (tE ns p l s m a b) = .ok false := by
  have e1 : pTst (pBin fEq (pIx (pVar 0) (pC (.int 2))) (pC (.int 0))) (tE ns p l s m a b) = .ok (decide (l = 0)) := tst_of (bin_of tk_2 rfl rfl)
  have e2 : pCall fLen (pCons (pIx (pVar 0) (pC (.int 0))) pNil) (tE ns p l s m a b) = .ok (.own (.g (.int ns.length))) := by
    unfold pCall pCons pNil
    rw [tk_0]
    show PR.ok (Pv.own (.g (.int ((ns.map fun i => D.g (.int i)).length : Nat)))) = _
    rw [List.length_map]
  have e3 : pTst (pBin fLt (pIx (pVar 0) (pC (.int 1))) (pCall fLen (pCons (pIx (pVar 0) (pC (.int 0))) pNil))) (tE ns p l s m a b) = .ok (decide (p < ns.length)) := tst_of (bin_of tk_1 e2 rfl)
  unfold pAnd
  rw [e1, PR.bind_ok]
  by_cases h0 : l = 0
  · rw [if_pos (decide_eq_true h0), e3, decide_eq_false (fun z => h ⟨h0, z⟩)]
  · rw [if_neg (by simp [h0])]
/-- behind the script's numbers: what is left, else the seed -/
theorem tk_rest (hp : 0 ≤ p) (hl : 0 ≤ l) (hs : 0 ≤ s) (hs2 : s < 2147483647) (hm : 0 < m) (hm2 : m < 1073741824) : ∃ (v p' l' s' : Int) (a' b' : D), sSeq
    (sIf (iPB (pTst (pBin fGt (pIx (pVar 0) (pC (.int 2))) (pC (.int 0)))))
      (sSeq (sSet 3 (iP (pBin fMod (pCall fInt (pCons (pIx (pVar 0) (pC (.int 2))) pNil)) (pVar 1))))
        (sSeq (sSubL 0 (rootP 0) (pC (.int 2)) (iP (pBin fDiv (pCall fInt (pCons (pIx (pVar 0) (pC (.int 2))) pNil)) (pVar 1)))) (sRet (iP (pVar 3)))))
      sNil)
    (sSeq (sSubL 0 (rootP 0) (pC (.int 3)) (iP (pBin fMod (pCall fInt (pCons (pBin fAdd (pBin fMul (pIx (pVar 0) (pC (.int 3))) (pC (.int 69621))) (pC (.int 13))) pNil)) (pC (.int 2147483647)))))
      (sRet (iP (pBin fMod (pCall fInt (pCons (pBin fDiv (pIx (pVar 0) (pC (.int 3))) (pC (.int 7))) pNil)) (pVar 1))))) (tE ns p l s m a b) = .rt (.g (.int v)) (tE ns p' l' s' m a' b') ∧ 0 ≤ v ∧ v < m ∧ 0 ≤ p' ∧ 0 ≤ l' ∧ 0 ≤ s' ∧ s' < 2147483647 := by
  by_cases h0 : 0 < l
  · have e1 : pTst (pBin fGt (pIx (pVar 0) (pC (.int 2))) (pC (.int 0))) (tE ns p l s m a b) = .ok true := tst_of (bin_of tk_2 rfl (by show some (D.g (.bool (decide (0 < l)))) = _; rw [decide_eq_true h0]))
    refine ⟨l % m, p, l / m, s, a, .g (.int (l % m)), ?_, Int.emod_nonneg _ (by omega), Int.emod_lt_of_pos _ hm, hp, Int.ediv_nonneg hl (by omega), hs, hs2⟩
    refine seq_rt ?_
    rw [if_t (e := tE ns p l s m a b) (by unfold iPB; rw [e1]; rfl)]
    rw [seq_nx (set_of (x := .int (l % m)) (i := 3) (iP_own (mod_of (int_of tk_2) tk_m hm)) (by show 3 < 5; omega))]
    show sSeq _ _ (tE ns p l s m a (.g (.int (l % m)))) = _
    rw [seq_nx (st_2 _ (l / m) (iP_own (div_of (int_of tk_2) tk_m hm hm2)))]
    exact ret_of (iP_own rfl)
  · have e1 : pTst (pBin fGt (pIx (pVar 0) (pC (.int 2))) (pC (.int 0))) (tE ns p l s m a b) = .ok false := tst_of (bin_of tk_2 rfl (by show some (D.g (.bool (decide (0 < l)))) = _; rw [decide_eq_false h0]))
    have hs' : 0 ≤ (s * 69621 + 13) % 2147483647 := Int.emod_nonneg _ (by omega)
    have hs3 : (s * 69621 + 13) % 2147483647 < 2147483647 := Int.emod_lt_of_pos _ (by omega)
    refine ⟨((s * 69621 + 13) % 2147483647 / 7) % m, p, l, (s * 69621 + 13) % 2147483647, a, b, ?_, Int.emod_nonneg _ (by omega), Int.emod_lt_of_pos _ hm, hp, hl, hs', hs3⟩
    rw [seq_nx (if_fn (e := tE ns p l s m a b) (by unfold iPB; rw [e1]; rfl))]
    rw [seq_nx (st_3 _ ((s * 69621 + 13) % 2147483647) (iP_own (mod_of (int_of (add_of (mul_of tk_3 rfl (by omega) (by omega)) rfl)) rfl (by omega))))]
    exact ret_of (iP_own (mod_of (int_of (div_of tk_3 rfl (by omega) (by omega))) tk_m hm))
theorem take_run (hp : 0 ≤ p) (hl : 0 ≤ l) (hs : 0 ≤ s) (hs2 : s < 2147483647) (hm : 0 < m) (hm2 : m < 1073741824) : ∃ (v p' l' s' : Int) (a' b' : D), takeG (tE ns p l s m a b) = .rt (.g (.int v)) (tE ns p' l' s' m a' b') ∧ 0 ≤ v ∧ v < m ∧ 0 ≤ p' ∧ 0 ≤ l' ∧ 0 ≤ s' ∧ s' < 2147483647 := by
  unfold takeG
  by_cases hc : l = 0 ∧ p < ns.length
  · obtain ⟨x, ex, e0⟩ := atI_of (ns.map fun i => D.g (.int i)) p hp (by rw [List.length_map]; exact hc.2)
    rw [List.getElem?_map, Option.map_eq_some_iff] at ex
    obtain ⟨i, _, rfl⟩ := ex
    have e1 : pIx (pIx (pVar 0) (pC (.int 0))) (pIx (pVar 0) (pC (.int 1))) (tE ns p l s m a b) = .ok (.own (.g (.int i))) := by
      unfold pIx
      show PR.of ((atI (ns.map fun i => D.g (.int i)) p).bind toPv) = _
      rw [e0]; rfl
    let j : Int := if i < 0 then -i else i
    have hj : 0 ≤ j := by show 0 ≤ (if i < 0 then -i else i); split <;> omega
    have e2 : iP (pCall fAbs (pCons (pCall fInt (pCons (pIx (pIx (pVar 0) (pC (.int 0))) (pIx (pVar 0) (pC (.int 1)))) pNil)) pNil)) (tE ns p l s m a b) = .ok (.g (.int j)) (tE ns p l s m a b) := by
      exact iP_own (abs_of (int_of e1))
    have hif : ∀ X : SF, sIf (iPB (pAnd (pTst (pBin fEq (pIx (pVar 0) (pC (.int 2))) (pC (.int 0)))) (pTst (pBin fLt (pIx (pVar 0) (pC (.int 1))) (pCall fLen (pCons (pIx (pVar 0) (pC (.int 0))) pNil))))))
        (sSeq (sSubL 0 (rootP 0) (pC (.int 2)) (iP (pCall fAbs (pCons (pCall fInt (pCons (pIx (pIx (pVar 0) (pC (.int 0))) (pIx (pVar 0) (pC (.int 1)))) pNil)) pNil))))
          (sSeq (sSubL 0 (rootP 0) (pC (.int 1)) (iP (pBin fAdd (pIx (pVar 0) (pC (.int 1))) (pC (.int 1))))) X)) sNil (tE ns p l s m a b) = X (tE ns (p + 1) j s m a b) := fun X => by
      rw [if_t (e := tE ns p l s m a b) (by unfold iPB; rw [tk_c hc]; rfl), seq_nx (st_2 _ j e2), seq_nx (st_1 _ (p + 1) (iP_own (add_of tk_1 rfl)))]
    by_cases hb : j < 10 ^ 18
    · refine ⟨j % m, p + 1, 0, s, .g (.int j), b, ?_, Int.emod_nonneg _ (by omega), Int.emod_lt_of_pos _ hm, by omega, by omega, hs, hs2⟩
      refine seq_rt ?_
      rw [hif]
      have c : pTst (pBin fLt (pIx (pVar 0) (pC (.int 2))) (pBin fPow (pC (.int 10)) (pC (.int 18)))) (tE ns (p + 1) j s m a b) = .ok true := tst_of (bin_of tk_2 (q := .own (.g (.int (10 ^ 18)))) rfl (by show some (D.g (.bool (decide (j < 10 ^ 18)))) = _; rw [decide_eq_true hb]))
      rw [if_t (e := tE ns (p + 1) j s m a b) (by unfold iPB; rw [c]; rfl)]
      rw [seq_nx (set_of (x := .int j) (i := 2) (iP_own (int_of tk_2)) (by show 2 < 5; omega))]
      show sSeq _ _ (tE ns (p + 1) j s m (.g (.int j)) b) = _
      rw [seq_nx (st_2 _ 0 (iP_own rfl))]
      exact ret_of (iP_own (mod_of rfl tk_m hm))
    · have c : pTst (pBin fLt (pIx (pVar 0) (pC (.int 2))) (pBin fPow (pC (.int 10)) (pC (.int 18)))) (tE ns (p + 1) j s m a b) = .ok false := tst_of (bin_of tk_2 (q := .own (.g (.int (10 ^ 18)))) rfl (by show some (D.g (.bool (decide (j < 10 ^ 18)))) = _; rw [decide_eq_false hb]))
      have e3 := (hif (sIf (iPB (pTst (pBin fLt (pIx (pVar 0) (pC (.int 2))) (pBin fPow (pC (.int 10)) (pC (.int 18))))))
          (sSeq (sSet 2 (iP (pCall fInt (pCons (pIx (pVar 0) (pC (.int 2))) pNil)))) (sSeq (sSubL 0 (rootP 0) (pC (.int 2)) (iP (pC (.int 0)))) (sRet (iP (pBin fMod (pVar 2) (pVar 1)))))) sNil)).trans (if_fn (e := tE ns (p + 1) j s m a b) (by unfold iPB; rw [c]; rfl))
      rw [seq_nx (e := tE ns (p + 1) j s m a b) e3]
      exact tk_rest (by omega) hj hs hs2 hm hm2
  · rw [seq_nx (e := tE ns p l s m a b) (if_fn (by unfold iPB; rw [tk_c' hc]; rfl))]
    exact tk_rest hp hl hs hs2 hm hm2
end
/-- a number in [0, m) is drawn -/
theorem take_ok {x : D} (hx : DS x) {m : Int} (hm : 0 < m) (hm2 : m < 1073741824) : ∃ (v : Int) (x' : D), defD 5 2 [1] takeG [x, .g (.int m)] = .ok (.g (.int v), x') ∧ 0 ≤ v ∧ v < m ∧ DS x' := by
  obtain ⟨ns, p, l, s, rfl, h1, h2, h3, h4⟩ := hx
  obtain ⟨v, p', l', s', a', b', e, h5, h6, h7, h8, h9, h10⟩ := take_run (ns := ns) (a := .hole) (b := .hole) h1 h2 h3 h4 hm hm2
  refine ⟨v, dsD ns p' l' s', ?_, h5, h6, ns, p', l', s', rfl, h7, h8, h9, h10⟩
  show (if isHole (dsD ns p l s) = false ∧ entOk [1] [.g .none, .g (.int m)] = true then endD (takeG (tE ns p l s m .hole .hole)) else .bad) = _
  rw [if_pos ⟨rfl, rfl⟩, e]; rfl
noncomputable section
def allN (m : Nat) (f : Nat → Bool) : Bool := Nat.rec (motive := fun _ => Bool) true (fun v ih => bsel (f v) ih false) m
theorem allN_ok {m : Nat} {f : Nat → Bool} (h : allN m f = true) : ∀ v, v < m → f v = true := by
  induction m with
  | zero => intro v hv; omega
  | succ m ih =>
    intro v hv
    have h : bsel (f m) (allN m f) false = true := h
    rw [bsel_eq] at h
    split at h
    · by_cases e : v = m
      · subst e; assumption
      · exact ih h v (by omega)
    · cases h
def udTake : UD := fun ds k => lsel ds false fun d r => lsel r (intK d (fun i => posK i (fun m => bsel (Nat.ble m 1073741823) (allN m fun v => k (.g (.int (.ofNat v)))) false) false) false) fun _ _ => false
theorem tud_take : TuD (defD 5 2 [1] takeG) udTake := ⟨fun x ds k hx h => by
  unfold udTake at h
  match ds with
  | [] => cases h
  | [d] =>
    dsimp only [lsel] at h
    rw [intK_eq] at h
    cases e : intOf d with
    | none => rw [e] at h; cases h
    | some i =>
      rw [e] at h
      have := intOf_some e
      subst this
      dsimp only at h
      unfold posK at h
      cases i with
      | negSucc _ => cases h
      | ofNat m =>
        cases m with
        | zero => cases h
        | succ m =>
          have h : bsel (Nat.ble (m + 1) 1073741823) (allN (m + 1) fun v => k (.g (.int (.ofNat v)))) false = true := h
          rw [bsel_eq] at h
          split at h
          · rename_i hz
            rw [Nat.ble_eq] at hz
            obtain ⟨v, x', e1, h1, h2, h3⟩ := take_ok hx (m := ((m + 1 : Nat) : Int)) (by omega) (by omega)
            refine ⟨_, x', e1, h3, ?_⟩
            obtain ⟨n, rfl⟩ := Int.eq_ofNat_of_zero_le h1
            exact allN_ok h n (by omega)
          · cases h
  | _ :: _ :: _ => cases h⟩
/-- a def of the law's that draws, by its body -/
def inT0 (ds : List D) : T := T.mk (O8.mk .hole (nthR ds 0 id .hole) (nthR ds 1 id .hole) (nthR ds 2 id .hole) (nthR ds 3 id .hole) (nthR ds 4 id .hole) (nthR ds 5 id .hole) (nthR ds 6 id .hole)) h8 h8 h8
def udDef (n : Nat) (fz : List Nat) (cg : US) : UD := fun ds k => bsel (Nat.beq (Nat.succ (lenR ds)) n) (chkIn fz (.g .none :: ds) 0 (cg (inT0 ds) (fun _ => k (.g .none)) k (fun _ => false) (fun _ => false)) false) false
theorem nth0 (ds : List D) (n : Nat) : nthR ds n id .hole = ds.getD n .hole := nth_id ds n
theorem inT0_full (ds : List D) (hn : ds.length ≤ 7) : ∀ (i : Nat) (d : D), (full (inT0 ds))[i]? = some d → d = D.hole ∨ ∃ j, i = j + 1 ∧ ds[j]? = some d := fun i d hd => by
  have key : ∀ j, some (nthR ds j id .hole) = some d → d = D.hole ∨ ds[j]? = some d := fun j h => by
    rw [nth_id, List.getD_eq_getElem?_getD] at h
    cases e : ds[j]? with
    | none => rw [e] at h; cases h; exact .inl rfl
    | some y => rw [e] at h; cases h; exact .inr rfl
  by_cases h8 : i < 8
  · match i, h8 with
    | 0, _ => cases hd; exact .inl rfl
    | 1, _ => exact (key 0 hd).imp id fun h => ⟨0, rfl, h⟩
    | 2, _ => exact (key 1 hd).imp id fun h => ⟨1, rfl, h⟩
    | 3, _ => exact (key 2 hd).imp id fun h => ⟨2, rfl, h⟩
    | 4, _ => exact (key 3 hd).imp id fun h => ⟨3, rfl, h⟩
    | 5, _ => exact (key 4 hd).imp id fun h => ⟨4, rfl, h⟩
    | 6, _ => exact (key 5 hd).imp id fun h => ⟨5, rfl, h⟩
    | 7, _ => exact (key 6 hd).imp id fun h => ⟨6, rfl, h⟩
  · obtain ⟨j, rfl⟩ : ∃ j, i = j + 8 := ⟨i - 8, by omega⟩
    have hd : ([] ++ (List.replicate 24 D.hole))[j]? = some d := hd
    rw [List.nil_append, List.getElem?_replicate] at hd
    split at hd
    · cases hd; exact .inl rfl
    · cases hd
theorem inT0_sim {N n : Nat} {x : D} (ds : List D) (hl : ds.length + 1 = n) (hn : n ≤ 8) (h1 : n ≤ N) : Sim N 0 x (inT0 ds) (x :: ds ++ List.replicate (N - n) .hole) := ⟨by rw [List.length_append, List.length_replicate, List.length_cons]; omega, fun i hi d hd => by
  rcases inT0_full ds (by omega) i d hd with z | ⟨j, rfl, z⟩
  · exact .inl z
  · right
    show (ds ++ List.replicate (N - n) D.hole)[j]? = _
    have hj : j < ds.length := (List.getElem?_eq_some_iff.mp z).1
    rw [List.getElem?_append_left hj, z], fun _ _ => rfl⟩
theorem tud_def {N n : Nat} {fz : List Nat} {g : SF} {cg : US} (hn : n ≤ 8) (h1 : n ≤ N) (hN : 0 < N) (t : TuS N 0 g cg) : TuD (defD N n fz g) (udDef n fz cg) := ⟨fun x ds k hx h => by
  unfold udDef at h
  rw [bsel_eq] at h
  split at h
  · rename_i hz
    rw [beq_dec, lenR_eq] at hz
    have hl : ds.length + 1 = n := of_decide_eq_true hz
    rw [chkIn_eq] at h
    split at h
    · rename_i hent
      have q := t.h (inT0 ds) _ x _ _ _ _ hx (inT0_sim (x := x) ds hl hn h1) rfl h
      have hxh : isHole x = false := by
        obtain ⟨_, _, _, _, rfl, _⟩ := hx; rfl
      have hent' : entOk fz (.g .none :: ds) = true := by
        unfold entOk
        simp only [Nat.zero_add] at hent
        exact hent
      have e0 : defD N n fz g (x :: ds) = endD (g (x :: ds ++ List.replicate (N - n) .hole)) := by
        show (if isHole x = false ∧ entOk fz (.g .none :: ds) = true then _ else _) = _
        rw [if_pos ⟨hxh, hent'⟩]
      rw [e0]
      have at0 : ∀ (env : List D) (x' : D), DS x' → env[0]? = some x' → dAt0 env = .ok x' := fun env x' hx' he => by
        cases env with
        | nil => cases he
        | cons y ys =>
          cases he
          obtain ⟨_, _, _, _, rfl, _⟩ := hx'; rfl
      cases e1 : g (x :: ds ++ List.replicate (N - n) .hole) with
      | nx env =>
        rw [e1] at q
        obtain ⟨e, x', hx', sm, hh, hk⟩ := q
        refine ⟨.g .none, x', ?_, hx', hk⟩
        show (dAt0 env).bind _ = _
        rw [at0 env x' hx' (sm.pin hN hh)]; rfl
      | rt d env =>
        rw [e1] at q
        obtain ⟨hk, x', hx', he⟩ := q
        refine ⟨d, x', ?_, hx', hk⟩
        show (dAt0 env).bind _ = _
        rw [at0 env x' hx' he]; rfl
      | bk env => rw [e1] at q; obtain ⟨_, _, _, _, _, q⟩ := q; cases q
      | ct env => rw [e1] at q; obtain ⟨_, _, _, _, _, q⟩ := q; cases q
      | err _ => rw [e1] at q; exact (q : False).elim
      | bad => rw [e1] at q; exact (q : False).elim
    · cases h
  · cases h⟩
def pickB (d0 i : D) (k : PyData → Bool) : Bool := runB (cxIx Bool d0 i (fun d => dsel d (fun x => bsel (k x) (.ok true) .bad) .bad .bad) fun _ => .bad)
def pickP (k : PyData → Bool) (p : Pv) : PR Bool := match p with
  | .own (.g x) => if k x = true then .ok true else .bad
  | _ => .bad
theorem pickB_ok {d0 i : D} {k : PyData → Bool} (h : pickB d0 i k = true) : ∃ x, ixD d0 i = some (.own (.g x)) ∧ k x = true := by
  have := (twxIx.h Bool d0 i _ _ (pickP k) (fun d => by
    cases d with
    | g x =>
      show PR.le (bsel (k x) _ _) (if k x = true then _ else _)
      refine bsel_le (fun z => ?_) fun _ => .inl rfl
      rw [if_pos z]; exact .inr rfl
    | _ => exact .inl rfl) fun d => .inl rfl).ok (runB_ok h)
  cases e : ixD d0 i with
  | none => rw [e] at this; cases this
  | some p =>
    rw [e] at this
    have z : pickP k p = .ok true := this
    unfold pickP at z
    split at z
    · rename_i x
      refine ⟨x, rfl, ?_⟩
      split at z
      · assumption
      · cases z
    · cases z
/-- menu[a drawn index] -/
def uiPick (g : T → D) (cb : UI) : UI := fun e k => (fun z => dsel (g e) (fun _ => z) z false) (cb e fun i e' => pickB (g e) i fun x => k (.g x) e')
instance (priority := 20) tuiPick {N r : Nat} (j : Nat) (gb : IF) (g : T → D) (cb : UI) [LtC j N] [TwG j g] [tb : TuI N r gb cb] : TuI N r (iPick j gb) (uiPick g cb) := ⟨fun e env x k hx sm hh h => by
  have hne : g e ≠ .hole := fun z => by
    unfold uiPick at h
    dsimp only at h
    rw [z] at h; cases h
  have z := (sm.get (i := j) (g := g)).resolve_left hne
  have h : cb e (fun i e' => pickB (g e) i fun x => k (.g x) e') = true := by
    unfold uiPick at h
    dsimp only at h
    generalize cb e (fun i e' => pickB (g e) i fun x => k (.g x) e') = q at h ⊢
    cases e0 : g e with
    | hole => exact absurd e0 hne
    | _ => rw [e0] at h; exact h
  obtain ⟨i, env1, e1, x1, h1, hx1, sm1, hh1, q1⟩ := tb.h _ _ _ _ hx sm hh h
  obtain ⟨y, h2, hk⟩ := pickB_ok q1
  refine ⟨.g y, env1, e1, x1, ?_, hx1, sm1, hh1, hk⟩
  unfold iPick
  rw [z]
  cases e0 : g e with
  | hole => exact absurd e0 hne
  | _ =>
    rw [e0] at h2
    dsimp only
    rw [h1, IR.bind_ok, h2]⟩
/-- _law_begin, as every law has it -/
def beginG : SF := sSeq (sSet 1 (iP (pC (.int 3))))
  (sSeq (sForL 3 [0] (.nm 2) (wSeqA (pVar 0)) (sSet 1 (iP (pBin fMod (pBin fAdd (pBin fAdd (pBin fMul (pVar 1) (pC (.int 48271))) (pBin fMod (pCall fInt (pCons (pVar 2) pNil)) (pC (.int 2147483629)))) (pC (.int 5))) (pC (.int 2147483647))))))
    (sRet (iP (pLst (pConsO (pCall fList (pCons (pVar 0) pNil)) (pConsO (pC (.int 0)) (pConsO (pC (.int 0)) (pConsO (pVar 1) pNil))))))))
theorem begin_loop (all : List Int) : ∀ (ns : List Int) (s : Int) (y : D), 0 ≤ s → s < 2147483647 → ∃ (s' : Int) (y' : D), forGo (.nm 2) (sSet 1 (iP (pBin fMod (pBin fAdd (pBin fAdd (pBin fMul (pVar 1) (pC (.int 48271))) (pBin fMod (pCall fInt (pCons (pVar 2) pNil)) (pC (.int 2147483629)))) (pC (.int 5))) (pC (.int 2147483647))))) (ns.map fun i => .g (.int i)) [.scr all, .g (.int s), y, .hole] = .nx [.scr all, .g (.int s'), y', .hole] ∧ 0 ≤ s' ∧ s' < 2147483647
  | [], s, y, h0, h1 => ⟨s, y, rfl, h0, h1⟩
  | n :: ns, s, y, h0, h1 => by
    have e : (sSet 1 (iP (pBin fMod (pBin fAdd (pBin fAdd (pBin fMul (pVar 1) (pC (.int 48271))) (pBin fMod (pCall fInt (pCons (pVar 2) pNil)) (pC (.int 2147483629)))) (pC (.int 5))) (pC (.int 2147483647))))) [.scr all, .g (.int s), .g (.int n), .hole] = .nx [.scr all, .g (.int ((s * 48271 + n % 2147483629 + 5) % 2147483647)), .g (.int n), .hole] :=
      set_of (iP_own (mod_of (add_of (add_of (mul_of rfl rfl (by omega) (by omega)) (mod_of (int_of rfl) rfl (by omega))) rfl) rfl (by omega))) (by show 1 < 4; omega)
    obtain ⟨s', y', h2, h3, h4⟩ := begin_loop all ns ((s * 48271 + n % 2147483629 + 5) % 2147483647) (.g (.int n)) (Int.emod_nonneg _ (by omega)) (Int.emod_lt_of_pos _ (by omega))
    refine ⟨s', y', ?_, h3, h4⟩
    rw [List.map_cons, forGo]
    have e1 : bindP (.nm 2) (.g (.int n)) [.scr all, .g (.int s), y, .hole] = some [.scr all, .g (.int s), .g (.int n), .hole] := by simp [bindP, putD]
    rw [e1]
    dsimp only
    rw [e]
    exact h2
theorem begin_ok (ns : List Int) (hl : ns.length ≤ 63) : ∃ x, defP 4 1 [0] beginG [.scr ns] = .ok x ∧ DS x := by
  obtain ⟨s, y, h1, h2, h3⟩ := begin_loop ns ns 3 .hole (by omega) (by omega)
  refine ⟨dsD ns 0 0 s, ?_, ns, 0, 0, s, rfl, by omega, by omega, h2, h3⟩
  show (if entOk [0] [.scr ns] = true then endP (beginG [.scr ns, .hole, .hole, .hole]) else .bad) = _
  rw [if_pos (show entOk [0] [.scr ns] = true from rfl)]
  have f1 : (sSet 1 (iP (pC (.int 3)))) [.scr ns, .hole, .hole, .hole] = .nx [.scr ns, .g (.int 3), .hole, .hole] := rfl
  have f2 : (sForL 3 [0] (.nm 2) (wSeqA (pVar 0)) (sSet 1 (iP (pBin fMod (pBin fAdd (pBin fAdd (pBin fMul (pVar 1) (pC (.int 48271))) (pBin fMod (pCall fInt (pCons (pVar 2) pNil)) (pC (.int 2147483629)))) (pC (.int 5))) (pC (.int 2147483647)))))) [.scr ns, .g (.int 3), .hole, .hole] = .nx [.scr ns, .g (.int s), y, .hole] := h1
  unfold beginG
  rw [seq_nx f1, seq_nx f2]
  have e : pCall fList (pCons (pVar 0) pNil) [.scr ns, .g (.int s), y, .hole] = .ok (.own (.lst (ns.map fun i => .g (.int i)))) := by
    show PR.ok (Pv.own (.lst ((ns.map PyData.int).map D.g))) = _
    rw [List.map_map]; rfl
  have e2 : (pConsO (pCall fList (pCons (pVar 0) pNil)) (pConsO (pC (.int 0)) (pConsO (pC (.int 0)) (pConsO (pVar 1) pNil)))) [.scr ns, .g (.int s), y, .hole] = .ok [.lst (ns.map fun i => .g (.int i)), .g (.int 0), .g (.int 0), .g (.int s)] := by
    unfold pConsO
    rw [e]; rfl
  have e3 : pLst (pConsO (pCall fList (pCons (pVar 0) pNil)) (pConsO (pC (.int 0)) (pConsO (pC (.int 0)) (pConsO (pVar 1) pNil)))) [.scr ns, .g (.int s), y, .hole] = .ok (.own (dsD ns 0 0 s)) := by
    unfold pLst
    rw [e2]; rfl
  rw [ret_of (iP_own e3)]; rfl
end
end Ow

set_option Elab.async false
set_option linter.all false
set_option maxRecDepth 100000
set_option maxHeartbeats 4000000
/-! OwYn: a law by its pieces. -/
namespace Ow
open PySem PySem.Spec PyProof.Rows L2
noncomputable section
def no1 : T → Bool := fun _ => false
def noD : D → Bool := fun _ => false
def isT (d : D) : Bool := dsel d (fun x => pbool x (fun b => b) false) false false
theorem isT_ok {d : D} (h : isT d = true) : d = .g (.bool true) := by
  cases d with
  | g x =>
    cases x with
    | bool b =>
      have h : b = true := h
      rw [h]
    | _ => cases h
  | _ => cases h
/-- a tree by its slots -/
def tOf (l : List D) : T := T.mk (O8.mk (nthR l 0 id .hole) (nthR l 1 id .hole) (nthR l 2 id .hole) (nthR l 3 id .hole) (nthR l 4 id .hole) (nthR l 5 id .hole) (nthR l 6 id .hole) (nthR l 7 id .hole))
  (O8.mk (nthR l 8 id .hole) (nthR l 9 id .hole) (nthR l 10 id .hole) (nthR l 11 id .hole) (nthR l 12 id .hole) (nthR l 13 id .hole) (nthR l 14 id .hole) (nthR l 15 id .hole))
  (O8.mk (nthR l 16 id .hole) (nthR l 17 id .hole) (nthR l 18 id .hole) (nthR l 19 id .hole) (nthR l 20 id .hole) (nthR l 21 id .hole) (nthR l 22 id .hole) (nthR l 23 id .hole))
  (O8.mk (nthR l 24 id .hole) (nthR l 25 id .hole) (nthR l 26 id .hole) (nthR l 27 id .hole) (nthR l 28 id .hole) (nthR l 29 id .hole) (nthR l 30 id .hole) (nthR l 31 id .hole))
theorem tOf_get (l : List D) (i : Nat) (d : D) (h : (full (tOf l))[i]? = some d) : d = l.getD i .hole := by
  have key : ∀ j, some (nthR l j id .hole) = some d → d = l.getD j .hole := fun j h => by rw [← nth_id]; exact (Option.some.inj h).symm
  match i, h with
  | 0, h => exact key 0 h
  | 1, h => exact key 1 h
  | 2, h => exact key 2 h
  | 3, h => exact key 3 h
  | 4, h => exact key 4 h
  | 5, h => exact key 5 h
  | 6, h => exact key 6 h
  | 7, h => exact key 7 h
  | 8, h => exact key 8 h
  | 9, h => exact key 9 h
  | 10, h => exact key 10 h
  | 11, h => exact key 11 h
  | 12, h => exact key 12 h
  | 13, h => exact key 13 h
  | 14, h => exact key 14 h
  | 15, h => exact key 15 h
  | 16, h => exact key 16 h
  | 17, h => exact key 17 h
  | 18, h => exact key 18 h
  | 19, h => exact key 19 h
  | 20, h => exact key 20 h
  | 21, h => exact key 21 h
  | 22, h => exact key 22 h
  | 23, h => exact key 23 h
  | 24, h => exact key 24 h
  | 25, h => exact key 25 h
  | 26, h => exact key 26 h
  | 27, h => exact key 27 h
  | 28, h => exact key 28 h
  | 29, h => exact key 29 h
  | 30, h => exact key 30 h
  | 31, h => exact key 31 h
  | n + 32, h => cases (show ([] : List D)[n]? = some d from h)
variable {N r : Nat}
/-- the slots l are what e tells, or less -/
def Tells (e : T) (l : List D) : Prop := ∀ (i : Nat) (d : D), l[i]? = some d → d = D.hole ∨ (full e)[i]? = some d
theorem Tells.nil {e : T} : Tells e [] := fun i d h => by cases h
theorem Tells.of {e : T} {l : List D} {i : Nat} {g : T → D} [hg : TwG i g] {d : D} (t : Tells e l) (h : g e = d) (hl : l.length ≤ i) : Tells e (l ++ List.replicate (i - l.length) .hole ++ [d]) := fun j d' hj => by
  by_cases h1 : j < l.length
  · rw [List.append_assoc, List.getElem?_append_left h1] at hj
    exact t j d' hj
  · by_cases h2 : j < i
    · rw [List.getElem?_append_left (by rw [List.length_append, List.length_replicate]; omega), List.getElem?_append_right (by omega), List.getElem?_replicate, if_pos (by omega)] at hj
      exact .inl (Option.some.inj hj).symm
    · rw [List.getElem?_append_right (by rw [List.length_append, List.length_replicate]; omega), List.length_append, List.length_replicate] at hj
      have hz : j - (l.length + (i - l.length)) = 0 := by
        have := (List.getElem?_eq_some_iff.mp hj).1
        simp at this
        omega
      rw [hz] at hj
      have : j = i := by omega
      subst this
      have e1 : d = d' := Option.some.inj hj
      subst e1
      right
      rw [hg.h e, h]
theorem Sim.tells {x : D} {e : T} {env : List D} (sm : Sim N r x e env) (hh : isH r e) {l : List D} (t : Tells e l) : Sim N r x (tOf l) env := sm.weak hh fun i d h => by
  have e1 := tOf_get l i d h
  rw [List.getD_eq_getElem?_getD] at e1
  cases e2 : l[i]? with
  | none => rw [e2] at e1; exact .inl e1
  | some d' =>
    rw [e2] at e1
    have e1 : d = d' := e1
    subst e1
    exact t i d e2
/-- an int among some -/
def inI (d : D) (l : List Int) : Bool := intK d (fun i => List.rec (motive := fun _ => Bool) false (fun j _ ih => bsel (ieqR i j) true ih) l) false
theorem inI_ok {d : D} {l : List Int} (h : inI d l = true) : ∃ i ∈ l, d = .g (.int i) := by
  unfold inI at h
  rw [intK_eq] at h
  cases e : intOf d with
  | none => rw [e] at h; cases h
  | some i =>
    rw [e] at h
    dsimp only at h
    have := intOf_some e
    subst this
    clear e
    induction l with
    | nil => cases h
    | cons j l ih =>
      dsimp only at h
      rw [bsel_eq] at h
      split at h
      · rename_i hz
        rw [ieqR_eq] at hz
        have := of_decide_eq_true hz
        subst this
        exact ⟨i, List.mem_cons_self, rfl⟩
      · obtain ⟨k, hk, e⟩ := ih h
        exact ⟨k, List.mem_cons_of_mem _ hk, e⟩
/-- a statement, then the rest: from what P tells -/
theorem cutU {g h : SF} {cg : US} (t : TuS N r g cg) (P : T → Bool) {e : T} {env : List D} {x : D} {nx : T → Bool} {rt : D → Bool} {bk ct : T → Bool} (hx : DS x) (sm : Sim N r x e env) (hh : isH r e) (hc : cg e P rt bk ct = true)
    (h2 : ∀ e env x, DS x → Sim N r x e env → isH r e → P e = true → OutU N r nx rt bk ct (h env)) : OutU N r nx rt bk ct (sSeq g h env) := by
  have q := t.h e env x P rt bk ct hx sm hh hc
  unfold sSeq
  cases e1 : g env with
  | nx env1 =>
    rw [e1] at q
    obtain ⟨e1, x1, hx1, sm1, hh1, h1⟩ := q
    exact h2 _ _ _ hx1 sm1 hh1 h1
  | rt d env1 => rw [e1] at q; exact q
  | bk env1 => rw [e1] at q; exact q
  | ct env1 => rw [e1] at q; exact q
  | err _ => rw [e1] at q; exact q
  | bad => rw [e1] at q; exact q
def LawRest (N : Nat) (rest : SF) (l : List D) : Prop := ∀ x env, DS x → Sim N 1 x (tOf l) env → OutU N 1 no1 isT no1 no1 (rest env)
theorem lr_run {rest : SF} {c : US} {l : List D} (t : TuS N 1 rest c) (hl : isH 1 (tOf l)) (h : c (tOf l) no1 isT no1 no1 = true) : LawRest N rest l := fun x env hx sm => t.h _ _ _ _ _ _ _ hx sm hl h
theorem lr_cut {g rest : SF} {cg : US} {l : List D} (t : TuS N 1 g cg) (P : T → Bool) (hl : isH 1 (tOf l)) (hc : cg (tOf l) P isT no1 no1 = true) (h2 : ∀ e, isH 1 e → P e = true → ∃ l', Tells e l' ∧ LawRest N rest l') : LawRest N (sSeq g rest) l := fun x env hx sm =>
  cutU t P hx sm hl hc fun e env x hx sm hh hp => by
    obtain ⟨l', t', h'⟩ := h2 e hh hp
    exact h' x env hx (sm.tells hh t')
/-- the law: its draws' list, then the rest -/
theorem law_of {rest : SF} {dbeg : List D → PR D} (hb : ∀ ns : List Int, ns.length ≤ 63 → ∃ x, dbeg [.scr ns] = .ok x ∧ DS x) (hN : 2 ≤ N) (hrest : LawRest N rest []) : ∀ ns : List Int, ns.length ≤ 63 → defP N 1 [0] (sSeq (sSet 1 (iP (pFun 1 dbeg (pCons (pVar 0) pNil)))) rest) [.scr ns] = .ok (.g (.bool true)) := fun ns hl => by
  obtain ⟨x, e, hx⟩ := hb ns hl
  obtain ⟨env, he⟩ : ∃ env : List D, env = [D.scr ns] ++ List.replicate (N - 1) D.hole := ⟨_, rfl⟩
  have hlen : env.length = N := by rw [he, List.length_append, List.length_replicate]; simp; omega
  have h0 : env[0]? = some (D.scr ns) := by rw [he]; rfl
  show (if entOk [0] [D.scr ns] = true then endP (sSeq _ rest ([D.scr ns] ++ List.replicate (N - 1) D.hole)) else .bad) = _
  rw [if_pos (show entOk [0] [D.scr ns] = true from rfl), ← he]
  have ev : pVar 0 env = .ok (.bor (.scr ns)) := by unfold pVar; rw [h0]
  have e1 : (iP (pFun 1 dbeg (pCons (pVar 0) pNil))) env = .ok x env := by
    apply iP_own
    unfold pFun pCons pNil
    rw [ev]
    show (if ([D.scr ns] : List D).length = 1 then (dbeg [D.scr ns]).bind (fun d => PR.ok (Pv.own d)) else .bad) = _
    rw [if_pos (show ([D.scr ns] : List D).length = 1 from rfl), e]; rfl
  have hp : putD 1 x env = some (env.set 1 x) := by
    obtain ⟨_, _, _, _, rfl, _⟩ := hx
    show (if 1 < env.length then some (env.set 1 _) else none) = _
    rw [if_pos (by omega)]
  have e2 : (sSet 1 (iP (pFun 1 dbeg (pCons (pVar 0) pNil)))) env = .nx (env.set 1 x) := by
    unfold sSet
    rw [e1]
    show OpS (putD 1 x env) = _
    rw [hp]; rfl
  rw [seq_nx e2]
  have sm : Sim N 1 x (tOf []) (env.set 1 x) := ⟨by rw [List.length_set]; exact hlen, fun i hi d hd => by
    have := tOf_get [] i d hd
    left
    rw [this, List.getD_eq_getElem?_getD]; rfl, fun _ _ => by rw [List.getElem?_set_self (by omega)]⟩
  have q := hrest x _ hx sm
  cases e3 : rest (env.set 1 x) with
  | rt d env =>
    rw [e3] at q
    show PR.ok d = _
    rw [isT_ok q.1]
  | nx env1 => rw [e3] at q; obtain ⟨_, _, _, _, _, q⟩ := q; cases q
  | bk env1 => rw [e3] at q; obtain ⟨_, _, _, _, _, q⟩ := q; cases q
  | ct env1 => rw [e3] at q; obtain ⟨_, _, _, _, _, q⟩ := q; cases q
  | err _ => rw [e3] at q; exact (q : False).elim
  | bad => rw [e3] at q; exact (q : False).elim
end
end Ow

set_option Elab.async false
set_option linter.all false
set_option maxRecDepth 100000
set_option maxHeartbeats 1000000
/-! OwYo: quick twins of what OwE .. OwE6 added; of defs that write their first argument. -/
namespace Ow
open PySem PySem.Spec PyProof.Rows L2
noncomputable section
variable {N pr r : Nat} {px : D}
def cNeg (c : CPt) : CPt := fun ρ e ko kb => (fun k => c ρ e k k) fun d => dsel d (fun x => pint x (fun i => ko (.g (.int (Int.neg i)))) .bad) .bad .bad
instance twNeg (f : PF) (c : CPt) [t : TwP N pr px f c] : TwP N pr px (pNeg f) (cNeg c) := ⟨fun ρ e env sm ko kb k' ho hb => by
  unfold pNeg cNeg
  rw [PR.bb]
  refine t.hh sm fun p => ?_
  generalize p.d = d
  cases d with
  | g x =>
    cases x with
    | int i => exact ho _
    | _ => exact .inl rfl
  | _ => exact .inl rfl⟩
def cCh3 (cF cF' cF'' : CFBt) (ca cb cc cd : CPt) : CPt := fun ρ e ko kb => (fun k => ca ρ e k k) fun a => (fun k => cb ρ e k k) fun b => cF ρ a b ((fun k => cc ρ e k k) fun c => cF' ρ b c ((fun k => cd ρ e k k) fun d => cF'' ρ c d (ko (.g (.bool true))) (ko (.g (.bool false)))) (ko (.g (.bool false)))) (ko (.g (.bool false)))
instance twCh3 (F F' F'' : D → D → Option D) (fa fb fc fd : PF) (cF cF' cF'' : CFBt) (ca cb cc cd : CPt) [tF : TwFB F cF] [tF' : TwFB F' cF'] [tF'' : TwFB F'' cF''] [ta : TwP N pr px fa ca] [tb : TwP N pr px fb cb] [tc : TwP N pr px fc cc] [td : TwP N pr px fd cd] : TwP N pr px (pCh3 F F' F'' fa fb fc fd) (cCh3 cF cF' cF'' ca cb cc cd) := ⟨fun ρ e env sm ko kb k' ho hb => by
  unfold pCh3 cCh3
  rw [PR.bb]
  refine ta.hh sm fun a => ?_
  rw [PR.bb]
  refine tb.hh sm fun b => ?_
  rw [PR.bb]
  refine tF.h _ _ _ _ _ _ ?_ (ho _)
  show PR.le _ ((PR.bind _ _).bind k')
  rw [PR.bb]
  refine tc.hh sm fun c => ?_
  rw [PR.bb]
  refine tF'.h _ _ _ _ _ _ ?_ (ho _)
  show PR.le _ ((PR.bind _ _).bind k')
  rw [PR.bb]
  refine td.hh sm fun d => ?_
  rw [PR.bb]
  exact tF''.h _ _ _ _ _ _ (ho _) (ho _)⟩
def csBad : CSt := fun ρ e nx rt bk ct => .bad
instance twsBad : TwS N pr px sBad csBad := ⟨fun ρ e env sm nx rt bk ct nx' rt' bk' ct' h1 h2 h3 h4 => .inl rfl⟩
def csForI (g : T → D) (cp : CPat) (cg : CSt) : CSt := fun ρ e nx rt bk ct => osel (dItems (g e)) .bad fun xs => cForGo cp cg nx rt xs e
instance twsForI (r : Nat) (p : Pat) (sf : SF) (g : T → D) (cp : CPat) (cg : CSt) [LtC r N] [TwG r g] [tp : TwPat N pr px p cp] [t : TwS N pr px sf cg] : TwS N pr px (sForI r p sf) (csForI g cp cg) := ⟨fun ρ e env sm nx rt bk ct nx' rt' bk' ct' h1 h2 h3 h4 => by
  unfold sForI sForX csForI
  rcases sm.get (i := r) (g := g) with z | z
  · rw [z]; exact .inl rfl
  rw [z]
  dsimp only
  cases dItems (g e) with
  | none => exact .inl rfl
  | some xs => exact cForGo_le (t := t) (tp := tp) h1 h2 _ e env sm⟩
def cSortSet (cl : CLt) : CPt := fun ρ e ko kb => cl ρ e fun ds => lsel ds .bad fun d r => lsel r (osel (fSortSet d) .bad ko) fun _ _ => .bad
instance twSortSet (f : PL) (cl : CLt) [t : TwL N pr px f cl] : TwP N pr px (pSortSet f) (cSortSet cl) := ⟨fun ρ e env sm ko kb k' ho hb => by
  unfold pSortSet cSortSet
  rw [PR.bb]
  refine t.h _ _ _ sm _ _ fun ds => ?_
  cases ds with
  | nil => exact .inl rfl
  | cons d r =>
    cases r with
    | nil =>
      show PR.le (osel (fSortSet d) .bad ko) (((PR.of (fSortSet d)).bind fun d => .ok (.own d)).bind k')
      rw [PR.bb]
      exact osel_le fun d => ho d
    | cons _ _ => exact .inl rfl⟩
def cListRng (cl : CLt) : CPt := fun ρ e ko kb => cl ρ e fun ds => osel (rngOf ds) .bad fun r => ko (.lst ((rngI r.1 r.2).map fun i => .g (.int i)))
instance twListRng (f : PL) (cl : CLt) [t : TwL N pr px f cl] : TwP N pr px (pListRng f) (cListRng cl) := ⟨fun ρ e env sm ko kb k' ho hb => by
  unfold pListRng cListRng
  rw [PR.bb]
  refine t.h _ _ _ sm _ _ fun ds => ?_
  rw [PR.bb]
  cases rngOf ds with
  | none => exact .inl rfl
  | some r => exact ho _⟩
instance twMinT (t : Ty) : TwN (fMinT t) (cN0 (fMinT t)) := twN0 _
def cDict1 (ck cv : CPt) : CPt := fun ρ e ko kb => (fun k => ck ρ e k k) fun k => cv ρ e (fun v => dsel k (fun x => dsel v (fun z => ptup x (fun xs => bsel (nkR xs) (ko (.dct [x] [v])) .bad) .bad) .bad .bad) .bad .bad) (fun _ => .bad)
instance twDict1 (fk fv : PF) (ck cv : CPt) [tk : TwP N pr px fk ck] [tv : TwP N pr px fv cv] : TwP N pr px (pDict1 fk fv) (cDict1 ck cv) := ⟨fun ρ e env sm ko kb k' ho hb => by
  unfold pDict1 cDict1
  rw [PR.bb]
  refine tk.hh sm fun k => ?_
  rw [PR.bb]
  refine tv.h _ _ _ sm _ _ _ (fun v => ?_) fun _ => .inl rfl
  generalize k.d = kd
  cases kd with
  | g x =>
    cases v with
    | g z =>
      cases x with
      | tuple xs =>
        show PR.le (bsel (nkR xs) _ _) ((if nkB 4 (.tuple xs) = true then _ else _ : PR Pv).bind k')
        rw [nkR_eq, bsel_eq]
        split
        · exact ho _
        · exact .inl rfl
      | _ => exact .inl rfl
    | _ => exact .inl rfl
  | _ => exact .inl rfl⟩
/-! ### rows moved into a slot -/
def cRows {ρ : Type} (gi : T → D) (si sr : CSet) (cg : CSt) (nx : T → PR ρ) (rows : List D) (done : List D) (e : T) : PR ρ :=
  List.rec (motive := fun _ => List D → T → PR ρ) (fun done e => sr ρ (.lst done) e nx)
    (fun x _ ih done e => (fun K => dsel x (fun _ => K) K .bad) (si ρ x e fun e => cg ρ e (fun e => (fun K => dsel (gi e) (fun _ => K) K .bad) (si ρ .hole e fun e2 => sr ρ .hole e2 fun e3 => ih (done ++ [gi e]) e3)) (fun _ _ => .bad) (fun _ => .bad) fun _ => .bad)) rows done e
theorem dselK {α : Type} {x : D} {k o : α} (h : x ≠ .hole) : dsel x (fun _ => k) k o = k := by cases x <;> first | rfl | exact absurd rfl h
theorem cRows_le {i : Nat} {g : SF} {gi : T → D} {si sr : CSet} {cg : CSt} [LtC i N] [LtC r N] [TwG i gi] [TwS' i si] [TwS' r sr] [ni : NeC i pr] [nr : NeC r pr] [t : TwS N pr px g cg] {ρ : Type} {nx : T → PR ρ} {nx' : List D → PR ρ} {rt' : D → List D → PR ρ} {bk' ct' : List D → PR ρ} (h1 : ∀ e env, Sim N pr px e env → PR.le (nx e) (nx' env)) :
    ∀ (rows done : List D) (e : T) (env : List D), Sim N pr px e env → PR.le (cRows gi si sr cg nx rows done e) ((rowsGo r i g done rows env).elim nx' rt' bk' ct')
  | [], done, e, env, sm => by
    obtain ⟨e', q1, q2⟩ := sm.set (i := r) (s := sr) (.lst done) (.inl fun z => by cases z)
    show PR.le (sr ρ (.lst done) e nx) (nx' (env.set r (.lst done)))
    rw [q1]
    exact h1 _ _ q2
  | x :: rows, done, e, env, sm => by
    by_cases hx : x = .hole
    · subst hx; exact .inl rfl
    obtain ⟨e1, q1, s1⟩ := sm.set (i := i) (s := si) x (.inl hx)
    show PR.le (dsel x (fun _ => _) _ _) _
    rw [dselK hx, q1]
    have key : (rowsGo r i g done (x :: rows) env).elim nx' rt' bk' ct' = (match g (env.set i x) with
        | .nx e => match e[i]? with
          | some .hole => SR.bad
          | some d => rowsGo r i g (done ++ [d]) rows ((e.set i .hole).set r .hole)
          | none => .bad
        | .err x => .err x
        | _ => .bad).elim nx' rt' bk' ct' := by
      cases x with
      | hole => exact absurd rfl hx
      | _ => rfl
    rw [key]
    have key2 : (match g (env.set i x) with
        | .nx e => match e[i]? with
          | some .hole => SR.bad
          | some d => rowsGo r i g (done ++ [d]) rows ((e.set i .hole).set r .hole)
          | none => .bad
        | .err x => .err x
        | _ => .bad).elim nx' rt' bk' ct' = (g (env.set i x)).elim (fun e => (match e[i]? with
          | some .hole => SR.bad
          | some d => rowsGo r i g (done ++ [d]) rows ((e.set i .hole).set r .hole)
          | none => .bad).elim nx' rt' bk' ct') (fun _ _ => .bad) (fun _ => .bad) (fun _ => .bad) := by
      cases g (env.set i x) <;> rfl
    rw [key2]
    refine t.h _ _ _ s1 _ _ _ _ _ _ _ _ (fun e2 env2 s2 => ?_) (fun _ _ _ _ => .inl rfl) (fun _ _ _ => .inl rfl) fun _ _ _ => .inl rfl
    rcases s2.get (i := i) (g := gi) with z | z
    · show PR.le (dsel (gi e2) (fun _ => _) _ _) _
      rw [z]; exact .inl rfl
    by_cases hd : gi e2 = .hole
    · show PR.le (dsel (gi e2) (fun _ => _) _ _) _
      rw [hd]; exact .inl rfl
    show PR.le (dsel (gi e2) (fun _ => _) _ _) _
    rw [dselK hd, z]
    obtain ⟨e3, q3, s3⟩ := s2.set (i := i) (s := si) .hole (.inr ni.h)
    obtain ⟨e4, q4, s4⟩ := s3.set (i := r) (s := sr) .hole (.inr nr.h)
    rw [q3, q4]
    have := cRows_le (i := i) (t := t) h1 rows (done ++ [gi e2]) e4 _ s4 (rt' := rt') (bk' := bk') (ct' := ct') (gi := gi) (si := si) (sr := sr)
    revert hd this
    generalize gi e2 = d
    intro hd this
    cases d with
    | hole => exact absurd rfl hd
    | _ => exact this
def csForR (g gi : T → D) (si sr : CSet) (cg : CSt) : CSt := fun ρ e nx rt bk ct => dlst (g e) (fun ds => si ρ .hole e fun e1 => sr ρ .hole e1 fun e2 => cRows gi si sr cg nx ds [] e2) .bad
instance twsForR (i : Nat) (sf : SF) (g gi : T → D) (si sr : CSet) (cg : CSt) [LtC r N] [LtC i N] [TwG r g] [TwG i gi] [TwS' i si] [TwS' r sr] [ni : NeC i pr] [nr : NeC r pr] [t : TwS N pr px sf cg] : TwS N pr px (sForR r i sf) (csForR g gi si sr cg) := ⟨fun ρ e env sm nx rt bk ct nx' rt' bk' ct' h1 h2 h3 h4 => by
  unfold sForR csForR
  rcases sm.get (i := r) (g := g) with z | z
  · rw [z]; exact .inl rfl
  rw [z]
  cases g e with
  | lst ds =>
    show PR.le (si ρ .hole e _) (SR.elim (if i < env.length then _ else _) nx' rt' bk' ct')
    rw [if_pos (sm.lt (i := i))]
    obtain ⟨e1, q1, s1⟩ := sm.set (i := i) (s := si) .hole (.inr ni.h)
    obtain ⟨e2, q2, s2⟩ := s1.set (i := r) (s := sr) .hole (.inr nr.h)
    rw [q1, q2]
    exact cRows_le (i := i) (t := t) h1 ds [] e2 _ s2
  | _ => exact .inl rfl⟩
/-! ### defs that write their first argument -/
class TwDD (G : List D → PR (D × D)) (c : outParam (List D → PR (D × D))) : Prop where
  h : ∀ ds, PR.le (c ds) (G ds)
def ciFunD (g : T → D) (s : CSet) (n : Nat) (cd : List D → PR (D × D)) (cl : CLt) : CIt := fun ρ e k => (fun K => dsel (g e) (fun _ => .bad) K .bad) (s ρ .hole e fun e1 => cl ρ e1 fun ds => lenEq (g e :: ds) n ((cd (g e :: ds)).run fun rd => (fun K => dsel rd.2 (fun _ => K) K .bad) (s ρ rd.2 e fun e2 => k rd.1 e2)) .bad)
instance twiFunD (n : Nat) (G : List D → PR (D × D)) (f : PL) (g : T → D) (s : CSet) (cd : List D → PR (D × D)) (cl : CLt) [LtC r N] [TwG r g] [TwS' r s] [ne : NeC r pr] [td : TwDD G cd] [t : TwL N pr px f cl] : TwI N pr px (iFunD r n G f) (ciFunD g s n cd cl) := ⟨fun ρ e env sm k k' h => by
  unfold iFunD ciFunD ownAt
  rw [IR.eb, IR.eP]
  rcases sm.get (i := r) (g := g) with z | z
  · dsimp only; rw [z]; exact .inl rfl
  rw [z]
  have main : ∀ d : D, PR.le (s ρ .hole e fun e1 => cl ρ e1 fun ds => lenEq (d :: ds) n ((cd (d :: ds)).run fun rd => dsel rd.2 (fun _ => s ρ rd.2 e fun e2 => k rd.1 e2) (s ρ rd.2 e fun e2 => k rd.1 e2) .bad) .bad)
      (((IR.ofP (f (env.set r .hole)) env).bind fun ds env => if ds.length + 1 = n then (IR.ofP (G (d :: ds)) env).bind fun rd env => setNH r rd.2 env (.ok rd.1 (env.set r rd.2)) else .bad).elim k') := fun d => by
    obtain ⟨e1, q1, s1⟩ := sm.set (i := r) (s := s) .hole (.inr ne.h)
    rw [q1, IR.eb, IR.eP]
    refine t.h _ _ _ s1 _ _ fun ds => ?_
    rw [lenEq_eq]
    show PR.le (if ds.length + 1 = n then _ else _) _
    split
    · rw [IR.eb, IR.eP]
      refine PR.le_run (td.h _) fun rd => ?_
      by_cases hd : rd.2 = .hole
      · rw [hd]; exact .inl rfl
      · rw [dselK hd]
        obtain ⟨e2, q2, s2⟩ := sm.set (i := r) (s := s) rd.2 (.inl hd)
        rw [q2]
        unfold setNH
        revert s2
        generalize hv : rd.2 = v
        rw [hv] at hd
        intro s2
        cases v with
        | hole => exact absurd rfl hd
        | _ => exact h _ _ _ s2
    · exact .inl rfl
  revert main
  generalize g e = d0
  intro main
  cases d0 with
  | g x => exact .inl rfl
  | hole => exact .inl rfl
  | _ => exact main _⟩
def ret0 (d : D) (e : T) : PR (D × D) := dsel (gt0 e) (fun _ => .ok (d, gt0 e)) (.ok (d, gt0 e)) .bad
theorem ret0_le {e : T} {env : List D} (h0 : 0 < N) (sm : Sim N 99 .hole e env ∨ e = deadT) (d : D) : PR.le (ret0 d e) ((dAt0 env).bind fun x => .ok (d, x)) := by
  unfold ret0
  rcases sm with sm | rfl
  · rcases sm.here 0 h0 (gt0 e) ((inferInstance : TwG 0 gt0).h e) with z | z
    · rw [z]; exact .inl rfl
    · by_cases hd : gt0 e = .hole
      · rw [hd]; exact .inl rfl
      · rw [dselK hd]
        cases env with
        | nil => cases z
        | cons a l =>
          cases z
          unfold dAt0
          revert hd
          generalize gt0 e = v
          intro hd
          cases v with
          | hole => exact absurd rfl hd
          | _ => exact .inr rfl
  · exact .inl rfl
def cDefD (n : Nat) (fz : List Nat) (cg : CSt) : List D → PR (D × D) := fun ds => lenEq ds n (lsel ds .bad fun d0 r => (fun K => dsel d0 (fun _ => K) K .bad) (chkIn fz (.g .none :: r) 0 (cg (D × D) (inT ds) (fun e => ret0 (.g .none) e) ret0 (fun _ => .bad) (fun _ => .bad)) .bad)) .bad
theorem twDefD {n : Nat} {fz : List Nat} {g : SF} {cg : CSt} (hn : n ≤ 8) (h1 : n ≤ N) (hN : N ≤ 32) (h0 : 0 < N) (t : TwS N 99 .hole g cg) : TwDD (defD N n fz g) (cDefD n fz cg) := ⟨fun ds => by
  unfold cDefD defD
  rw [lenEq_eq]
  split
  · rename_i hl
    cases ds with
    | nil => exact .inl rfl
    | cons d0 r =>
      by_cases hd : d0 = .hole
      · subst hd; exact .inl rfl
      show PR.le (dsel d0 (fun _ => _) _ _) _
      rw [dselK hd, chkIn_eq]
      have hh : isHole d0 = false := by cases d0 <;> first | rfl | exact absurd rfl hd
      dsimp only
      split
      · rename_i hent
        have he : entOk fz (.g .none :: r) = true := by
          unfold entOk
          simp only [Nat.zero_add] at hent
          exact hent
        rw [if_pos ⟨hh, he⟩]
        have key := t.h (D × D) (inT (d0 :: r)) _ (inT_sim (d0 :: r) hl hn h1 hN) (fun e => ret0 (.g .none) e) ret0 (fun _ => .bad) (fun _ => .bad) (fun env => endD (.nx env)) (fun d env => endD (.rt d env)) (fun _ => .bad) (fun _ => .bad) (fun e env sm => ret0_le h0 (.inl sm) _) (fun d e env sm => ret0_le h0 sm d) (fun _ _ _ => .inr rfl) fun _ _ _ => .inr rfl
        refine PR.le.trans key (.inr ?_)
        cases g (d0 :: r ++ List.replicate (N - n) .hole) <;> rfl
      · exact .inl rfl
  · exact .inl rfl⟩
/-! ### a drawn value, taken apart -/
def usAsg (g : T → D) (cp : CPat) (c : UI) : US := fun e nx rt bk ct => c e fun d e => runB (cp Bool d e fun e => bsel (holeB (g e) (nx e)) (.ok true) .bad)
instance (priority := 20) tusAsg (p : Pat) (f : IF) (g : T → D) (cp : CPat) (c : UI) [TwG r g] [tp : ∀ x : D, TwPat N r x p cp] [t : TuI N r f c] : TuS N r (sAsg p f) (usAsg g cp c) := ⟨fun e env x nx rt bk ct hx sm hh h => by
  obtain ⟨d, env1, e1, x1, h1, hx1, sm1, hh1, q1⟩ := t.h _ _ _ _ hx sm hh h
  unfold sAsg
  rw [h1]
  have q2 := runB_ok q1
  have := ((tp x1).h Bool d e1 env1 sm1 _ (fun env => liftB N r x1 (fun (_ : Unit) e => nx e) () env) fun e env sm => liftB_le (k := fun (_ : Unit) e => nx e) (d := ()) sm).ok q2
  show OutU N r nx rt bk ct (OpS (bindP p d env1))
  cases e2 : bindP p d env1 with
  | none => rw [e2] at this; cases this
  | some env2 =>
    rw [e2] at this
    obtain ⟨e', h2, h3, h4⟩ := liftB_ok (k := fun (_ : Unit) e => nx e) (d := ()) this
    exact ⟨e', x1, hx1, h2, h3, h4⟩⟩
end
end Ow

set_option Elab.async false
set_option linter.all false
set_option maxRecDepth 100000
set_option maxHeartbeats 4000000
/-! k84: the defs, printed by gen.py -/
namespace K84
open PySem PySem.Spec PyProof.Rows L2 Ow
def topS (i : Nat) : Stmt := PySem.Challenge.pw_shapeworks_k84_whole_trees_as_tilings.main.body.getD i (.Pass ⟨0, 0, 0, 0⟩)
abbrev Bd (P : Program) (w : World) (K : Fg) (mg : Str → Option Value) (base : Heap) (cl : String → Option Addr) (k : Nat) (N : List Str) (qual : Str) (st : Stmt) (fz pn : List Nat) (g : SF) : Prop :=
  ∀ (f : Addr) (cdv : Value) (A : Around) (outer : List Env) (s : Shared) (H : Hp) (E : XK), Room k (A.deeper (envOfC qual (defScope st) s.heap.objs.size f cdv)) →
      Ss (cxOf (L2.CX P w) P w K mg base N qual (defScope st) f cdv A outer s H E) ⟨fun c dd _ H' => E c dd H', cl⟩ fz pn (defBody st) g
structure Zf (P : Program) (w : World) (K : Fg) (mg : Str → Option Value) (base : Heap) (cl : String → Option Addr) : Prop where
  B : Bi mg
  m_MOST_regions : ∃ t, mg "MOST_regions" = some (.int 40 t)
  m_MOST_trees : ∃ t, mg "MOST_trees" = some (.int 8 t)
  m_EDGES : ∃ t, mg "EDGES" = some (.int 20 t)
  m_HEIGHT : ∃ t, mg "HEIGHT" = some (.int 99 t)
  m_LISTED : ∃ t, mg "LISTED" = some (.int 3000 t)
  e_RegionError : Er P w K mg base cl "RegionError" "RegionError"
  e_PileError : Er P w K mg base cl "PileError" "PileError"
  e_MatrixError : Er P w K mg base cl "MatrixError" "MatrixError"
  f_determinant : Df K mg "determinant" (topS 6) ["rows"]
  f_check_region : Df K mg "check_region" (topS 9) ["cells"]
  f_is_dark : Df K mg "is_dark" (topS 10) ["cell"]
  f_beside : Df K mg "beside" (topS 11) ["cell"]
  f_count_tilings : Df K mg "count_tilings" (topS 12) ["cells"]
  f_kasteleyn : Df K mg "kasteleyn" (topS 13) ["cells"]
  f_rectangle : Df K mg "rectangle" (topS 14) ["high", "wide"]
  f_check_graph : Df K mg "check_graph" (topS 18) ["graph"]
  f_parts_of : Df K mg "parts_of" (topS 19) ["many", "edges"]
  f_table_of : Df K mg "table_of" (topS 20) ["graph"]
  f_count_trees : Df K mg "count_trees" (topS 21) ["graph"]
  f_check_pile : Df K mg "check_pile" (topS 25) ["graph", "pile"]
  f_degrees_of : Df K mg "degrees_of" (topS 26) ["graph"]
  f_is_stable : Df K mg "is_stable" (topS 27) ["graph", "pile"]
  f_burn : Df K mg "burn" (topS 28) ["graph", "pile"]
  f_is_recurrent : Df K mg "is_recurrent" (topS 29) ["graph", "pile"]
  f_recurrents : Df K mg "recurrents" (topS 30) ["graph"]
  f_check_square : Df K mg "check_square" (topS 32) ["rows"]
  f_smith_numbers : Df K mg "smith_numbers" (topS 33) ["rows"]
  f__cleared : Df K mg "_cleared" (topS 34) ["table", "r", "c"]
  f_group_numbers : Df K mg "group_numbers" (topS 36) ["graph"]
  f__law_begin : Df K mg "_law_begin" (topS 38) ["script"]
  f__law_take : Df K mg "_law_take" (topS 39) ["d", "many"]
  f__law_pick : Df K mg "_law_pick" (topS 40) ["d", "menu"]
  f_law : Df K mg "law" (topS 41) ["script"]
section
variable {P : Program} {w : World} {K : Fg} {mg : Str → Option Value} {base : Heap} {cl : String → Option Addr}
theorem sc_determinant : FnScope ["rows", "table", "sign", "last", "k", "found", "i", "j", "row", "at", "0z"] ["rows"] (defScope (topS 6)) := ⟨rfl, rfl, rfl, by decide +kernel, rfl, by decide +kernel, by decide +kernel⟩
def b_determinant : { g : SF // ∀ (P : Program) (w : World) (K : Fg) (mg : Str → Option Value) (base : Heap) (cl : String → Option Addr), Zf P w K mg base cl → Bd P w K mg base cl 1 ["rows", "table", "sign", "last", "k", "found", "i", "j", "row", "at", "0z"] "determinant" (topS 6) [0] [] g } := ⟨_, fun P w K mg base cl Z f cdv A outer s H E hr =>
  have c := Ct.of (cl := cl) sc_determinant.nd hr Z.B;
  (ss_cons (s_setN c 1 (i_p (q_lc c [("row", 8)] (pit_seqA (p_v 0)) (fun _ _ _ _ _ c => (gp_n c 8)) (fun _ _ _ _ _ c => pts'_nil) (fun _ _ _ _ _ c => (pb_list c (pa_ofCons (p_v 8) pa_ofNil))))))
  (ss_cons (s_setN c 2 (i_p p_int))
  (ss_cons (s_setN c 3 (i_p p_int))
  (ss_cons (f_for c (w_rng1 c (pa_ofCons (pb_len c (pa_ofCons (p_v 1) pa_ofNil)) pa_ofNil)) (g_n c 4) (ss_cons (q_setLc c 5 [("at", 9)] (w_rng2 c (pa_ofCons (p_v 4) (pa_ofCons (pb_len c (pa_ofCons (p_v 1) pa_ofNil)) pa_ofNil))) (fun _ _ _ _ _ c => (gp_n c 9)) (fun _ _ _ _ _ c => (pts'_one (pt_c1 (c_ne c) (p_at c (p_at c (p_v 1) (p_v 9)) (p_v 4)) p_int))) (fun _ _ _ _ _ c => (p_v 9)))
  (ss_cons (s_if (it_p (pt_c1 (c_eq c) (pb_len c (pa_ofCons (p_v 5) pa_ofNil)) p_int)) (ss_one (s_ret (i_p p_int))) ss_nil)
  (ss_cons (s_if (it_p (pt_c1 (c_ne c) (p_at c (p_v 5) p_int) (p_v 4))) (ss_cons s_bad
  (ss_one (s_setN c 2 (i_p (p_sub p_int (p_v 2)))))) ss_nil)
  (ss_cons (f_for c (w_rng2 c (pa_ofCons (p_add (p_v 4) p_int) (pa_ofCons (pb_len c (pa_ofCons (p_v 1) pa_ofNil)) pa_ofNil))) (g_n c 6) (ss_one (f_for c (w_rng2 c (pa_ofCons (p_add (p_v 4) p_int) (pa_ofCons (pb_len c (pa_ofCons (p_v 1) pa_ofNil)) pa_ofNil))) (g_n c 7) (ss_one (s_subL (r := 1) rfl (i_p (p_div (p_sub (p_mul (p_at c (p_at c (p_v 1) (p_v 6)) (p_v 7)) (p_at c (p_at c (p_v 1) (p_v 4)) (p_v 4))) (p_mul (p_at c (p_at c (p_v 1) (p_v 6)) (p_v 4)) (p_at c (p_at c (p_v 1) (p_v 4)) (p_v 7)))) (p_v 3))) (pth_at (pth_v 1) (p_v 6)) (p_v 7))))))
  (ss_one (s_setN c 3 (i_p (p_at c (p_at c (p_v 1) (p_v 4)) (p_v 4))))))))))
  (ss_one (s_ret (i_p (p_mul (p_v 2) (p_v 3)))))))))⟩
def d_determinant : List D → PR D := defP 11 1 [0] b_determinant.1
theorem fk_determinant (Z : Zf P w K mg base cl) : Fk P w K mg base cl 2 "determinant" 1 d_determinant := by
  obtain ⟨f, fd, F, hb, hm, hk⟩ := Z.f_determinant
  exact fk_of F sc_determinant hb hm hk (fun cdv A outer s H E hr => b_determinant.2 P w K mg base cl Z f cdv A outer s H E hr)
theorem sc_check_region : FnScope ["cells", "r", "c", "0z"] ["cells"] (defScope (topS 9)) := ⟨rfl, rfl, rfl, by decide +kernel, rfl, by decide +kernel, by decide +kernel⟩
def b_check_region : { g : SF // ∀ (P : Program) (w : World) (K : Fg) (mg : Str → Option Value) (base : Heap) (cl : String → Option Addr), Zf P w K mg base cl → Bd P w K mg base cl 2 ["cells", "r", "c", "0z"] "check_region" (topS 9) [0] [] g } := ⟨_, fun P w K mg base cl Z f cdv A outer s H E hr =>
  have c := Ct.of (cl := cl) sc_check_region.nd hr Z.B;
  (ss_cons (s_if (it_p (pt_c1 (c_gt c) (pb_len c (pa_ofCons (p_v 0) pa_ofNil)) (p_gi Z.m_MOST_regions))) (ss_one (s_r1 c Z.e_RegionError (pa_ofCons p_str pa_ofNil))) ss_nil)
  (ss_cons (s_if (it_p (pt_c1 (c_ne c) (pb_list c (pa_ofCons (p_v 0) pa_ofNil)) (pb_sortSet c (pa_ofCons (p_v 0) pa_ofNil)))) (ss_one (s_r1 c Z.e_RegionError (pa_ofCons p_str pa_ofNil))) ss_nil)
  (ss_one (s_if (it_p (pt_ofVal (pb_any c (pa_ofCons (q_lc c [("r", 1), ("c", 2)] (pit_seqA (p_v 0)) (fun _ _ _ _ _ c => (gp_tup c.hc (gps_cons (gp_n c 1) (gps_cons (gp_n c 2) gps_nil)))) (fun _ _ _ _ _ c => pts'_nil) (fun _ _ _ _ _ c => (p_not (p_and (p_chain (c_le c) (c_lt c) p_int (p_v 1) p_int) (p_one (p_chain (c_le c) (c_lt c) p_int (p_v 2) p_int)))))) pa_ofNil)))) (ss_one (s_r1 c Z.e_RegionError (pa_ofCons p_str pa_ofNil))) ss_nil))))⟩
def d_check_region : List D → PR D := defP 4 1 [0] b_check_region.1
theorem fk_check_region (Z : Zf P w K mg base cl) : Fk P w K mg base cl 3 "check_region" 1 d_check_region := by
  obtain ⟨f, fd, F, hb, hm, hk⟩ := Z.f_check_region
  exact fk_of F sc_check_region hb hm hk (fun cdv A outer s H E hr => b_check_region.2 P w K mg base cl Z f cdv A outer s H E hr)
theorem sc_is_dark : FnScope ["cell", "0z"] ["cell"] (defScope (topS 10)) := ⟨rfl, rfl, rfl, by decide +kernel, rfl, by decide +kernel, by decide +kernel⟩
def b_is_dark : { g : SF // ∀ (P : Program) (w : World) (K : Fg) (mg : Str → Option Value) (base : Heap) (cl : String → Option Addr), Zf P w K mg base cl → Bd P w K mg base cl 1 ["cell", "0z"] "is_dark" (topS 10) [0] [] g } := ⟨_, fun P w K mg base cl Z f cdv A outer s H E hr =>
  have c := Ct.of (cl := cl) sc_is_dark.nd hr Z.B;
  (ss_one (s_ret (i_p (p_c1 (c_eq c) (p_mod (p_add (p_at c (p_v 0) p_int) (p_at c (p_v 0) p_int)) p_int) p_int))))⟩
def d_is_dark : List D → PR D := defP 2 1 [0] b_is_dark.1
theorem fk_is_dark (Z : Zf P w K mg base cl) : Fk P w K mg base cl 2 "is_dark" 1 d_is_dark := by
  obtain ⟨f, fd, F, hb, hm, hk⟩ := Z.f_is_dark
  exact fk_of F sc_is_dark hb hm hk (fun cdv A outer s H E hr => b_is_dark.2 P w K mg base cl Z f cdv A outer s H E hr)
theorem sc_beside : FnScope ["cell", "r", "c", "0z"] ["cell"] (defScope (topS 11)) := ⟨rfl, rfl, rfl, by decide +kernel, rfl, by decide +kernel, by decide +kernel⟩
def b_beside : { g : SF // ∀ (P : Program) (w : World) (K : Fg) (mg : Str → Option Value) (base : Heap) (cl : String → Option Addr), Zf P w K mg base cl → Bd P w K mg base cl 1 ["cell", "r", "c", "0z"] "beside" (topS 11) [0] [] g } := ⟨_, fun P w K mg base cl Z f cdv A outer s H E hr =>
  have c := Ct.of (cl := cl) sc_beside.nd hr Z.B;
  (ss_cons (s_asg (i_p (p_v 0)) (g_tup c.hc (gs_cons (g_n c 1) (gs_cons (g_n c 2) gs_nil))))
  (ss_one (s_ret (i_p (p_tup (po_ofCons (p_tup (po_ofCons (p_sub (p_v 1) p_int) (po_ofCons (p_v 2) po_ofNil))) (po_ofCons (p_tup (po_ofCons (p_v 1) (po_ofCons (p_sub (p_v 2) p_int) po_ofNil))) (po_ofCons (p_tup (po_ofCons (p_v 1) (po_ofCons (p_add (p_v 2) p_int) po_ofNil))) (po_ofCons (p_tup (po_ofCons (p_add (p_v 1) p_int) (po_ofCons (p_v 2) po_ofNil))) po_ofNil)))))))))⟩
def d_beside : List D → PR D := defP 4 1 [0] b_beside.1
theorem fk_beside (Z : Zf P w K mg base cl) : Fk P w K mg base cl 2 "beside" 1 d_beside := by
  obtain ⟨f, fd, F, hb, hm, hk⟩ := Z.f_beside
  exact fk_of F sc_beside hb hm hk (fun cdv A outer s H E hr => b_beside.2 P w K mg base cl Z f cdv A outer s H E hr)
theorem sc_count_tilings : FnScope ["cells", "counts", "cell", "later", "covered", "number", "rest", "other", "key", "0z"] ["cells"] (defScope (topS 12)) := ⟨rfl, rfl, rfl, by decide +kernel, rfl, by decide +kernel, by decide +kernel⟩
def b_count_tilings : { g : SF // ∀ (P : Program) (w : World) (K : Fg) (mg : Str → Option Value) (base : Heap) (cl : String → Option Addr), Zf P w K mg base cl → Bd P w K mg base cl 3 ["cells", "counts", "cell", "later", "covered", "number", "rest", "other", "key", "0z"] "count_tilings" (topS 12) [0] [] g } := ⟨_, fun P w K mg base cl Z f cdv A outer s H E hr =>
  have c := Ct.of (cl := cl) sc_count_tilings.nd hr Z.B;
  (ss_cons (s_expr (i_p (p_fn c (fk_check_region Z) (pa_ofCons (p_v 0) pa_ofNil))))
  (ss_cons (s_setN c 1 (i_p (p_dict1 c (p_tup po_ofNil) p_int)))
  (ss_cons (f_forL c 9 (pit_seqA (p_v 0)) (g_n c 2) (ss_cons (s_setN c 3 (i_p p_dicT))
  (ss_cons (f_forI c 1 (pv' 1) (g_tup c.hc (gs_cons (g_n c 4) (gs_cons (g_n c 5) gs_nil))) (ss_cons (s_setN c 6 (i_p (pb_tuple c (pa_ofCons (q_lc c [("other", 7)] (pit_seqA (p_v 4)) (fun _ _ _ _ _ c => (gp_n c 7)) (fun _ _ _ _ _ c => (pts'_one (pt_c1 (c_ne c) (p_v 7) (p_v 2)))) (fun _ _ _ _ _ c => (p_v 7))) pa_ofNil))))
  (ss_cons (s_if (it_p (pt_c1 (c_in c) (p_v 2) (p_v 4))) (ss_cons (s_put c.u (r := 3) rfl (i_p (p_add (p_get2 c.u (p_v 3) (p_v 6) p_int ⟨rfl, rfl, rfl, rfl⟩) (p_v 5))) (pv' 3) (p_v 6))
  (ss_one s_cont)) ss_nil)
  (ss_one (f_for c (pit_seqA (p_tup (po_ofCons (p_tup (po_ofCons (p_at c (p_v 2) p_int) (po_ofCons (p_add (p_at c (p_v 2) p_int) p_int) po_ofNil))) (po_ofCons (p_tup (po_ofCons (p_add (p_at c (p_v 2) p_int) p_int) (po_ofCons (p_at c (p_v 2) p_int) po_ofNil))) po_ofNil)))) (g_n c 7) (ss_one (s_if (it_p (pwAnd (pt_c1 (c_in c) (p_v 7) (p_v 0)) (pwAnd1 (pt_c1 (c_notIn c) (p_v 7) (p_v 4)))).pt) (ss_cons (s_setN c 8 (i_p (pb_tuple c (pa_ofCons (pb_sorted (.tupL [.int, .int]) c (pa_ofCons (p_add (p_v 6) (p_tup (po_ofCons (p_v 7) po_ofNil))) pa_ofNil)) pa_ofNil))))
  (ss_one (s_put c.u (r := 3) rfl (i_p (p_add (p_get2 c.u (p_v 3) (p_v 8) p_int ⟨rfl, rfl, rfl, rfl⟩) (p_v 5))) (pv' 3) (p_v 8)))) ss_nil)))))))
  (ss_one (s_setN c 1 (i_v 3))))))
  (ss_one (s_ret (i_p (p_get2 c.u (p_v 1) (p_tup po_ofNil) p_int ⟨rfl, rfl, rfl, rfl⟩)))))))⟩
def d_count_tilings : List D → PR D := defP 10 1 [0] b_count_tilings.1
theorem fk_count_tilings (Z : Zf P w K mg base cl) : Fk P w K mg base cl 4 "count_tilings" 1 d_count_tilings := by
  obtain ⟨f, fd, F, hb, hm, hk⟩ := Z.f_count_tilings
  exact fk_of F sc_count_tilings hb hm hk (fun cdv A outer s H E hr => b_count_tilings.2 P w K mg base cl Z f cdv A outer s H E hr)
theorem sc_kasteleyn : FnScope ["cells", "dark", "light", "rows", "cell", "row", "other", "sign", "0z"] ["cells"] (defScope (topS 13)) := ⟨rfl, rfl, rfl, by decide +kernel, rfl, by decide +kernel, by decide +kernel⟩
def b_kasteleyn : { g : SF // ∀ (P : Program) (w : World) (K : Fg) (mg : Str → Option Value) (base : Heap) (cl : String → Option Addr), Zf P w K mg base cl → Bd P w K mg base cl 3 ["cells", "dark", "light", "rows", "cell", "row", "other", "sign", "0z"] "kasteleyn" (topS 13) [0] [] g } := ⟨_, fun P w K mg base cl Z f cdv A outer s H E hr =>
  have c := Ct.of (cl := cl) sc_kasteleyn.nd hr Z.B;
  (ss_cons (s_expr (i_p (p_fn c (fk_check_region Z) (pa_ofCons (p_v 0) pa_ofNil))))
  (ss_cons (q_setLc c 1 [("cell", 4)] (pit_seqA (p_v 0)) (fun _ _ _ _ _ c => (gp_n c 4)) (fun _ _ _ _ _ c => (pts'_one (pt_ofVal (p_fn c (fk_is_dark Z) (pa_ofCons (p_v 4) pa_ofNil))))) (fun _ _ _ _ _ c => (p_v 4)))
  (ss_cons (q_setLc c 2 [("cell", 4)] (pit_seqA (p_v 0)) (fun _ _ _ _ _ c => (gp_n c 4)) (fun _ _ _ _ _ c => (pts'_one (pt_ofNot (pt_ofVal (p_fn c (fk_is_dark Z) (pa_ofCons (p_v 4) pa_ofNil)))))) (fun _ _ _ _ _ c => (p_v 4)))
  (ss_cons (s_if (it_p (pt_c1 (c_ne c) (pb_len c (pa_ofCons (p_v 1) pa_ofNil)) (pb_len c (pa_ofCons (p_v 2) pa_ofNil)))) (ss_one (s_ret (i_p p_int))) ss_nil)
  (ss_cons (s_setN c 3 (i_p (p_lst po_ofNil)))
  (ss_cons (f_forL c 1 (pit_seqA (p_v 1)) (g_n c 4) (ss_cons (s_setN c 5 (i_p (p_lst po_ofNil)))
  (ss_cons (f_forL c 2 (pit_seqA (p_v 2)) (g_n c 6) (ss_cons (s_setN c 7 (i_p (p_ifExp (pwOr (pt_c1 (c_eq c) (p_at c (p_v 4) p_int) (p_at c (p_v 6) p_int)) (pwOr1 (pt_c1 (c_eq c) (p_mod (p_at c (p_v 4) p_int) p_int) p_int))).pt p_int (p_sub p_int p_int))))
  (ss_one (s_expr (i_meth1 (r := 5) rfl F.slot_list_append F.type_list_append mt_append m_app (pv' 5) (ia_cons (i_p (p_ifExp (pt_c1 (c_in c) (p_v 6) (p_fn c (fk_beside Z) (pa_ofCons (p_v 4) pa_ofNil))) (p_v 7) p_int)) ia_nil))))))
  (ss_one (s_expr (i_meth1 (r := 3) rfl F.slot_list_append F.type_list_append mt_append m_app (pv' 3) (ia_cons (i_v 5) ia_nil)))))))
  (ss_one (s_ret (i_p (pb_abs c (pa_ofCons (p_fn c (fk_determinant Z) (pa_ofCons (p_v 3) pa_ofNil)) pa_ofNil)))))))))))⟩
def d_kasteleyn : List D → PR D := defP 9 1 [0] b_kasteleyn.1
theorem fk_kasteleyn (Z : Zf P w K mg base cl) : Fk P w K mg base cl 4 "kasteleyn" 1 d_kasteleyn := by
  obtain ⟨f, fd, F, hb, hm, hk⟩ := Z.f_kasteleyn
  exact fk_of F sc_kasteleyn hb hm hk (fun cdv A outer s H E hr => b_kasteleyn.2 P w K mg base cl Z f cdv A outer s H E hr)
theorem sc_rectangle : FnScope ["high", "wide", "cells", "r", "c", "0z"] ["high", "wide"] (defScope (topS 14)) := ⟨rfl, rfl, rfl, by decide +kernel, rfl, by decide +kernel, by decide +kernel⟩
def b_rectangle : { g : SF // ∀ (P : Program) (w : World) (K : Fg) (mg : Str → Option Value) (base : Heap) (cl : String → Option Addr), Zf P w K mg base cl → Bd P w K mg base cl 3 ["high", "wide", "cells", "r", "c", "0z"] "rectangle" (topS 14) [0, 1] [] g } := ⟨_, fun P w K mg base cl Z f cdv A outer s H E hr =>
  have c := Ct.of (cl := cl) sc_rectangle.nd hr Z.B;
  (ss_cons (s_setN c 2 (i_p (pb_tuple c (pa_ofCons (q_lc2 c [("r", 3), ("c", 4)] [4] (w_rng1 c (pa_ofCons (p_v 0) pa_ofNil)) (fun _ _ _ _ _ c => (gp_n c 3)) (fun _ _ _ _ _ c => pts'_nil) (fun _ _ _ _ _ c => (w_rng1 c (pa_ofCons (p_v 1) pa_ofNil))) (fun _ _ _ _ _ c => (gp_n c 4)) (fun _ _ _ _ _ c => pts'_nil) (fun _ _ _ _ _ c => (p_tup (po_ofCons (p_v 3) (po_ofCons (p_v 4) po_ofNil))))) pa_ofNil))))
  (ss_cons (s_expr (i_p (p_fn c (fk_check_region Z) (pa_ofCons (p_v 2) pa_ofNil))))
  (ss_one (s_ret (i_p (p_v 2))))))⟩
def d_rectangle : List D → PR D := defP 6 2 [0, 1] b_rectangle.1
theorem fk_rectangle (Z : Zf P w K mg base cl) : Fk P w K mg base cl 4 "rectangle" 2 d_rectangle := by
  obtain ⟨f, fd, F, hb, hm, hk⟩ := Z.f_rectangle
  exact fk_of F sc_rectangle hb hm hk (fun cdv A outer s H E hr => b_rectangle.2 P w K mg base cl Z f cdv A outer s H E hr)
theorem sc_parts_of : FnScope ["many", "edges", "marks", "one", "other", "low", "high", "mark", "k", "0z"] ["many", "edges"] (defScope (topS 19)) := ⟨rfl, rfl, rfl, by decide +kernel, rfl, by decide +kernel, by decide +kernel⟩
def b_parts_of : { g : SF // ∀ (P : Program) (w : World) (K : Fg) (mg : Str → Option Value) (base : Heap) (cl : String → Option Addr), Zf P w K mg base cl → Bd P w K mg base cl 1 ["many", "edges", "marks", "one", "other", "low", "high", "mark", "k", "0z"] "parts_of" (topS 19) [0, 1] [] g } := ⟨_, fun P w K mg base cl Z f cdv A outer s H E hr =>
  have c := Ct.of (cl := cl) sc_parts_of.nd hr Z.B;
  (ss_cons (s_setN c 2 (i_p (p_listRng c (pa_ofCons (p_v 0) pa_ofNil))))
  (ss_cons (f_forL c 9 (pit_seqA (p_v 1)) (g_tup c.hc (gs_cons (g_n c 3) (gs_cons (g_n c 4) gs_nil))) (ss_cons (s_asg (i_p (p_tup (po_ofCons (pb_min2 c (pa_ofCons (p_at c (p_v 2) (p_v 3)) (pa_ofCons (p_at c (p_v 2) (p_v 4)) pa_ofNil))) (po_ofCons (pb_max2 c (pa_ofCons (p_at c (p_v 2) (p_v 3)) (pa_ofCons (p_at c (p_v 2) (p_v 4)) pa_ofNil))) po_ofNil)))) (g_tup c.hc (gs_cons (g_n c 5) (gs_cons (g_n c 6) gs_nil))))
  (ss_one (s_setN c 2 (i_p (q_lc c [("mark", 7)] (pit_seqA (p_v 2)) (fun _ _ _ _ _ c => (gp_n c 7)) (fun _ _ _ _ _ c => pts'_nil) (fun _ _ _ _ _ c => (p_ifExp (pt_c1 (c_eq c) (p_v 7) (p_v 6)) (p_v 5) (p_v 7)))))))))
  (ss_one (s_ret (i_p (pb_tuple c (pa_ofCons (q_lc c [("mark", 7)] (pit_seqA (pb_sortSet c (pa_ofCons (p_v 2) pa_ofNil))) (fun _ _ _ _ _ c => (gp_n c 7)) (fun _ _ _ _ _ c => pts'_nil) (fun _ _ _ _ _ c => (pb_tuple c (pa_ofCons (q_lc c [("k", 8)] (w_rng1 c (pa_ofCons (p_v 0) pa_ofNil)) (fun _ _ _ _ _ c => (gp_n c 8)) (fun _ _ _ _ _ c => (pts'_one (pt_c1 (c_eq c) (p_at c (p_v 2) (p_v 8)) (p_v 7)))) (fun _ _ _ _ _ c => (p_v 8))) pa_ofNil)))) pa_ofNil)))))))⟩
def d_parts_of : List D → PR D := defP 10 2 [0, 1] b_parts_of.1
theorem fk_parts_of (Z : Zf P w K mg base cl) : Fk P w K mg base cl 2 "parts_of" 2 d_parts_of := by
  obtain ⟨f, fd, F, hb, hm, hk⟩ := Z.f_parts_of
  exact fk_of F sc_parts_of hb hm hk (fun cdv A outer s H E hr => b_parts_of.2 P w K mg base cl Z f cdv A outer s H E hr)
theorem sc_check_graph : FnScope ["graph", "many", "edges", "at", "one", "other", "0z"] ["graph"] (defScope (topS 18)) := ⟨rfl, rfl, rfl, by decide +kernel, rfl, by decide +kernel, by decide +kernel⟩
def b_check_graph : { g : SF // ∀ (P : Program) (w : World) (K : Fg) (mg : Str → Option Value) (base : Heap) (cl : String → Option Addr), Zf P w K mg base cl → Bd P w K mg base cl 2 ["graph", "many", "edges", "at", "one", "other", "0z"] "check_graph" (topS 18) [0] [] g } := ⟨_, fun P w K mg base cl Z f cdv A outer s H E hr =>
  have c := Ct.of (cl := cl) sc_check_graph.nd hr Z.B;
  (ss_cons (s_asg (i_p (p_v 0)) (g_tup c.hc (gs_cons (g_n c 1) (gs_cons (g_n c 2) gs_nil))))
  (ss_cons (s_if (it_p (pwOr (pt_ofNot (pt_ofChain (c_le c) (c_le c) p_int (p_v 1) (p_gi Z.m_MOST_trees))) (pwOr1 (pt_c1 (c_gt c) (pb_len c (pa_ofCons (p_v 2) pa_ofNil)) (p_gi Z.m_EDGES)))).pt) (ss_one (s_r1 c Z.e_PileError (pa_ofCons p_str pa_ofNil))) ss_nil)
  (ss_cons (f_for c (w_enum c (p_v 2)) (g_tup c.hc (gs_cons (g_n c 3) (gs_cons (g_tup c.hc (gs_cons (g_n c 4) (gs_cons (g_n c 5) gs_nil))) gs_nil))) (ss_one (s_if (it_p (pt_ofNot (pt_ofCh3 (c_le c) (c_lt c) (c_lt c) p_int (p_v 4) (p_v 5) (p_v 1)))) (ss_one (s_r2 c Z.e_PileError (pa_ofCons p_str (pa_ofCons (p_v 3) pa_ofNil)))) ss_nil)))
  (ss_one (s_if (it_p (pt_c1 (c_gt c) (pb_len c (pa_ofCons (p_fn c (fk_parts_of Z) (pa_ofCons (p_v 1) (pa_ofCons (p_v 2) pa_ofNil))) pa_ofNil)) p_int)) (ss_one (s_r1 c Z.e_PileError (pa_ofCons p_str pa_ofNil))) ss_nil)))))⟩
def d_check_graph : List D → PR D := defP 7 1 [0] b_check_graph.1
theorem fk_check_graph (Z : Zf P w K mg base cl) : Fk P w K mg base cl 3 "check_graph" 1 d_check_graph := by
  obtain ⟨f, fd, F, hb, hm, hk⟩ := Z.f_check_graph
  exact fk_of F sc_check_graph hb hm hk (fun cdv A outer s H E hr => b_check_graph.2 P w K mg base cl Z f cdv A outer s H E hr)
theorem sc_table_of : FnScope ["graph", "many", "edges", "told", "one", "other", "k", "0z"] ["graph"] (defScope (topS 20)) := ⟨rfl, rfl, rfl, by decide +kernel, rfl, by decide +kernel, by decide +kernel⟩
def b_table_of : { g : SF // ∀ (P : Program) (w : World) (K : Fg) (mg : Str → Option Value) (base : Heap) (cl : String → Option Addr), Zf P w K mg base cl → Bd P w K mg base cl 1 ["graph", "many", "edges", "told", "one", "other", "k", "0z"] "table_of" (topS 20) [0] [] g } := ⟨_, fun P w K mg base cl Z f cdv A outer s H E hr =>
  have c := Ct.of (cl := cl) sc_table_of.nd hr Z.B;
  (ss_cons (s_asg (i_p (p_v 0)) (g_tup c.hc (gs_cons (g_n c 1) (gs_cons (g_n c 2) gs_nil))))
  (ss_cons (q_setLc c 3 [("k", 6)] (w_rng1 c (pa_ofCons (p_v 1) pa_ofNil)) (fun _ _ _ _ _ c => (gp_n c 6)) (fun _ _ _ _ _ c => pts'_nil) (fun _ _ _ _ _ c => (p_mul (p_lst (po_ofCons p_int po_ofNil)) (p_v 1))))
  (ss_cons (f_for c (pit_seqA (p_v 2)) (g_tup c.hc (gs_cons (g_n c 4) (gs_cons (g_n c 5) gs_nil))) (ss_cons (s_subL (r := 3) rfl (i_p (p_add (p_at c (p_at c (p_v 3) (p_v 4)) (p_v 4)) p_int)) (pth_at (pth_v 3) (p_v 4)) (p_v 4))
  (ss_cons (s_subL (r := 3) rfl (i_p (p_add (p_at c (p_at c (p_v 3) (p_v 5)) (p_v 5)) p_int)) (pth_at (pth_v 3) (p_v 5)) (p_v 5))
  (ss_cons (s_subL (r := 3) rfl (i_p (p_sub (p_at c (p_at c (p_v 3) (p_v 4)) (p_v 5)) p_int)) (pth_at (pth_v 3) (p_v 4)) (p_v 5))
  (ss_one (s_subL (r := 3) rfl (i_p (p_sub (p_at c (p_at c (p_v 3) (p_v 5)) (p_v 4)) p_int)) (pth_at (pth_v 3) (p_v 5)) (p_v 4)))))))
  (ss_one (s_ret (i_v 3))))))⟩
def d_table_of : List D → PR D := defP 8 1 [0] b_table_of.1
theorem fk_table_of (Z : Zf P w K mg base cl) : Fk P w K mg base cl 2 "table_of" 1 d_table_of := by
  obtain ⟨f, fd, F, hb, hm, hk⟩ := Z.f_table_of
  exact fk_of F sc_table_of hb hm hk (fun cdv A outer s H E hr => b_table_of.2 P w K mg base cl Z f cdv A outer s H E hr)
theorem sc_count_trees : FnScope ["graph", "row", "0z"] ["graph"] (defScope (topS 21)) := ⟨rfl, rfl, rfl, by decide +kernel, rfl, by decide +kernel, by decide +kernel⟩
def b_count_trees : { g : SF // ∀ (P : Program) (w : World) (K : Fg) (mg : Str → Option Value) (base : Heap) (cl : String → Option Addr), Zf P w K mg base cl → Bd P w K mg base cl 3 ["graph", "row", "0z"] "count_trees" (topS 21) [0] [] g } := ⟨_, fun P w K mg base cl Z f cdv A outer s H E hr =>
  have c := Ct.of (cl := cl) sc_count_trees.nd hr Z.B;
  (ss_cons (s_expr (i_p (p_fn c (fk_check_graph Z) (pa_ofCons (p_v 0) pa_ofNil))))
  (ss_one (s_ret (i_p (p_fn c (fk_determinant Z) (pa_ofCons (q_lc c [("row", 1)] (pit_seqA (p_sl (p_fn c (fk_table_of Z) (pa_ofCons (p_v 0) pa_ofNil)) (pp_some p_int) pp_none)) (fun _ _ _ _ _ c => (gp_n c 1)) (fun _ _ _ _ _ c => pts'_nil) (fun _ _ _ _ _ c => (p_sl (p_v 1) (pp_some p_int) pp_none))) pa_ofNil))))))⟩
def d_count_trees : List D → PR D := defP 3 1 [0] b_count_trees.1
theorem fk_count_trees (Z : Zf P w K mg base cl) : Fk P w K mg base cl 4 "count_trees" 1 d_count_trees := by
  obtain ⟨f, fd, F, hb, hm, hk⟩ := Z.f_count_trees
  exact fk_of F sc_count_trees hb hm hk (fun cdv A outer s H E hr => b_count_trees.2 P w K mg base cl Z f cdv A outer s H E hr)
theorem sc_check_pile : FnScope ["graph", "pile", "at", "height", "0z"] ["graph", "pile"] (defScope (topS 25)) := ⟨rfl, rfl, rfl, by decide +kernel, rfl, by decide +kernel, by decide +kernel⟩
def b_check_pile : { g : SF // ∀ (P : Program) (w : World) (K : Fg) (mg : Str → Option Value) (base : Heap) (cl : String → Option Addr), Zf P w K mg base cl → Bd P w K mg base cl 3 ["graph", "pile", "at", "height", "0z"] "check_pile" (topS 25) [0, 1] [] g } := ⟨_, fun P w K mg base cl Z f cdv A outer s H E hr =>
  have c := Ct.of (cl := cl) sc_check_pile.nd hr Z.B;
  (ss_cons (s_expr (i_p (p_fn c (fk_check_graph Z) (pa_ofCons (p_v 0) pa_ofNil))))
  (ss_cons (s_if (it_p (pt_c1 (c_ne c) (pb_len c (pa_ofCons (p_v 1) pa_ofNil)) (p_sub (p_at c (p_v 0) p_int) p_int))) (ss_one (s_r1 c Z.e_PileError (pa_ofCons p_str pa_ofNil))) ss_nil)
  (ss_one (f_forL c 4 (w_enum c (p_v 1)) (g_tup c.hc (gs_cons (g_n c 2) (gs_cons (g_n c 3) gs_nil))) (ss_one (s_if (it_p (pt_ofNot (pt_ofChain (c_le c) (c_le c) p_int (p_v 3) (p_gi Z.m_HEIGHT)))) (ss_one (s_r2 c Z.e_PileError (pa_ofCons p_str (pa_ofCons (p_v 2) pa_ofNil)))) ss_nil))))))⟩
def d_check_pile : List D → PR D := defP 5 2 [0, 1] b_check_pile.1
theorem fk_check_pile (Z : Zf P w K mg base cl) : Fk P w K mg base cl 4 "check_pile" 2 d_check_pile := by
  obtain ⟨f, fd, F, hb, hm, hk⟩ := Z.f_check_pile
  exact fk_of F sc_check_pile hb hm hk (fun cdv A outer s H E hr => b_check_pile.2 P w K mg base cl Z f cdv A outer s H E hr)
theorem sc_degrees_of : FnScope ["graph", "k", "row", "0z"] ["graph"] (defScope (topS 26)) := ⟨rfl, rfl, rfl, by decide +kernel, rfl, by decide +kernel, by decide +kernel⟩
def b_degrees_of : { g : SF // ∀ (P : Program) (w : World) (K : Fg) (mg : Str → Option Value) (base : Heap) (cl : String → Option Addr), Zf P w K mg base cl → Bd P w K mg base cl 2 ["graph", "k", "row", "0z"] "degrees_of" (topS 26) [0] [] g } := ⟨_, fun P w K mg base cl Z f cdv A outer s H E hr =>
  have c := Ct.of (cl := cl) sc_degrees_of.nd hr Z.B;
  (ss_one (s_ret (i_p (q_lc c [("k", 1), ("row", 2)] (w_enum c (p_fn c (fk_table_of Z) (pa_ofCons (p_v 0) pa_ofNil))) (fun _ _ _ _ _ c => (gp_tup c.hc (gps_cons (gp_n c 1) (gps_cons (gp_n c 2) gps_nil)))) (fun _ _ _ _ _ c => pts'_nil) (fun _ _ _ _ _ c => (p_at c (p_v 2) (p_v 1)))))))⟩
def d_degrees_of : List D → PR D := defP 4 1 [0] b_degrees_of.1
theorem fk_degrees_of (Z : Zf P w K mg base cl) : Fk P w K mg base cl 3 "degrees_of" 1 d_degrees_of := by
  obtain ⟨f, fd, F, hb, hm, hk⟩ := Z.f_degrees_of
  exact fk_of F sc_degrees_of hb hm hk (fun cdv A outer s H E hr => b_degrees_of.2 P w K mg base cl Z f cdv A outer s H E hr)
theorem sc_is_stable : FnScope ["graph", "pile", "degrees", "k", "height", "0z"] ["graph", "pile"] (defScope (topS 27)) := ⟨rfl, rfl, rfl, by decide +kernel, rfl, by decide +kernel, by decide +kernel⟩
def b_is_stable : { g : SF // ∀ (P : Program) (w : World) (K : Fg) (mg : Str → Option Value) (base : Heap) (cl : String → Option Addr), Zf P w K mg base cl → Bd P w K mg base cl 4 ["graph", "pile", "degrees", "k", "height", "0z"] "is_stable" (topS 27) [0, 1] [] g } := ⟨_, fun P w K mg base cl Z f cdv A outer s H E hr =>
  have c := Ct.of (cl := cl) sc_is_stable.nd hr Z.B;
  (ss_cons (s_expr (i_p (p_fn c (fk_check_pile Z) (pa_ofCons (p_v 0) (pa_ofCons (p_v 1) pa_ofNil)))))
  (ss_cons (s_setN c 2 (i_p (p_fn c (fk_degrees_of Z) (pa_ofCons (p_v 0) pa_ofNil))))
  (ss_one (s_ret (i_p (pb_all c (pa_ofCons (q_lc c [("k", 3), ("height", 4)] (w_enum c (p_v 1)) (fun _ _ _ _ _ c => (gp_tup c.hc (gps_cons (gp_n c 3) (gps_cons (gp_n c 4) gps_nil)))) (fun _ _ _ _ _ c => pts'_nil) (fun _ _ _ _ _ c => (p_c1 (c_lt c) (p_v 4) (p_at c (p_v 2) (p_add (p_v 3) p_int))))) pa_ofNil)))))))⟩
def d_is_stable : List D → PR D := defP 6 2 [0, 1] b_is_stable.1
theorem fk_is_stable (Z : Zf P w K mg base cl) : Fk P w K mg base cl 5 "is_stable" 2 d_is_stable := by
  obtain ⟨f, fd, F, hb, hm, hk⟩ := Z.f_is_stable
  exact fk_of F sc_is_stable hb hm hk (fun cdv A outer s H E hr => b_is_stable.2 P w K mg base cl Z f cdv A outer s H E hr)
theorem sc_burn : FnScope ["graph", "pile", "table", "burnt", "found", "k", "rest", "j", "0z"] ["graph", "pile"] (defScope (topS 28)) := ⟨rfl, rfl, rfl, by decide +kernel, rfl, by decide +kernel, by decide +kernel⟩
def b_burn : { g : SF // ∀ (P : Program) (w : World) (K : Fg) (mg : Str → Option Value) (base : Heap) (cl : String → Option Addr), Zf P w K mg base cl → Bd P w K mg base cl 5 ["graph", "pile", "table", "burnt", "found", "k", "rest", "j", "0z"] "burn" (topS 28) [0, 1] [] g } := ⟨_, fun P w K mg base cl Z f cdv A outer s H E hr =>
  have c := Ct.of (cl := cl) sc_burn.nd hr Z.B;
  (ss_cons (s_if (it_p (pt_ofNot (pt_ofVal (p_fn c (fk_is_stable Z) (pa_ofCons (p_v 0) (pa_ofCons (p_v 1) pa_ofNil)))))) (ss_one (s_r1 c Z.e_PileError (pa_ofCons p_str pa_ofNil))) ss_nil)
  (ss_cons (s_setN c 2 (i_p (p_fn c (fk_table_of Z) (pa_ofCons (p_v 0) pa_ofNil))))
  (ss_cons (s_setN c 3 (i_p (p_lst (po_ofCons p_int po_ofNil))))
  (ss_cons (f_while c 100000 (it_p (pt_ofVal p_bl)) (ss_cons (s_setN c 4 (i_p (p_lst po_ofNil)))
  (ss_cons (f_for c (w_rng2 c (pa_ofCons p_int (pa_ofCons (p_at c (p_v 0) p_int) pa_ofNil))) (g_n c 5) (ss_one (s_if (it_p (pwAnd (pt_c1 (c_notIn c) (p_v 5) (p_v 3)) (pwAnd1 (pt_c1 (c_ge c) (p_at c (p_v 1) (p_sub (p_v 5) p_int)) (p_add (p_at c (p_at c (p_v 2) (p_v 5)) (p_v 5)) (pb_sum c (pa_ofCons (q_lc c [("j", 7)] (pit_seqA (p_v 3)) (fun _ _ _ _ _ c => (gp_n c 7)) (fun _ _ _ _ _ c => pts'_nil) (fun _ _ _ _ _ c => (p_at c (p_at c (p_v 2) (p_v 5)) (p_v 7)))) pa_ofNil)))))).pt) (ss_one (s_expr (i_meth1 (r := 4) rfl F.slot_list_append F.type_list_append mt_append m_app (pv' 4) (ia_cons (i_p (p_v 5)) ia_nil)))) ss_nil)))
  (ss_cons (s_if (it_p (pt_c1 (c_eq c) (pb_len c (pa_ofCons (p_v 4) pa_ofNil)) p_int)) (ss_one s_break) ss_nil)
  (ss_one (s_expr (i_meth1 (r := 3) rfl F.slot_list_append F.type_list_append mt_append m_app (pv' 3) (ia_cons (i_p (p_at c (p_v 4) p_int)) ia_nil))))))))
  (ss_cons (s_setN c 6 (i_p (pb_tuple c (pa_ofCons (q_lc c [("k", 5)] (w_rng2 c (pa_ofCons p_int (pa_ofCons (p_at c (p_v 0) p_int) pa_ofNil))) (fun _ _ _ _ _ c => (gp_n c 5)) (fun _ _ _ _ _ c => (pts'_one (pt_c1 (c_notIn c) (p_v 5) (p_v 3)))) (fun _ _ _ _ _ c => (p_v 5))) pa_ofNil))))
  (ss_one (s_ret (i_p (p_ifExp (pt_c1 (c_eq c) (pb_len c (pa_ofCons (p_v 6) pa_ofNil)) p_int) (p_tup (po_ofCons p_str (po_ofCons (pb_tuple c (pa_ofCons (p_sl (p_v 3) (pp_some p_int) pp_none) pa_ofNil)) po_ofNil))) (p_tup (po_ofCons p_str (po_ofCons (p_v 6) po_ofNil))))))))))))⟩
def d_burn : List D → PR D := defP 9 2 [0, 1] b_burn.1
theorem fk_burn (Z : Zf P w K mg base cl) : Fk P w K mg base cl 6 "burn" 2 d_burn := by
  obtain ⟨f, fd, F, hb, hm, hk⟩ := Z.f_burn
  exact fk_of F sc_burn hb hm hk (fun cdv A outer s H E hr => b_burn.2 P w K mg base cl Z f cdv A outer s H E hr)
theorem sc_is_recurrent : FnScope ["graph", "pile", "0z"] ["graph", "pile"] (defScope (topS 29)) := ⟨rfl, rfl, rfl, by decide +kernel, rfl, by decide +kernel, by decide +kernel⟩
def b_is_recurrent : { g : SF // ∀ (P : Program) (w : World) (K : Fg) (mg : Str → Option Value) (base : Heap) (cl : String → Option Addr), Zf P w K mg base cl → Bd P w K mg base cl 6 ["graph", "pile", "0z"] "is_recurrent" (topS 29) [0, 1] [] g } := ⟨_, fun P w K mg base cl Z f cdv A outer s H E hr =>
  have c := Ct.of (cl := cl) sc_is_recurrent.nd hr Z.B;
  (ss_one (s_ret (i_p (p_c1 (c_eq c) (p_at c (p_fn c (fk_burn Z) (pa_ofCons (p_v 0) (pa_ofCons (p_v 1) pa_ofNil))) p_int) p_str))))⟩
def d_is_recurrent : List D → PR D := defP 3 2 [0, 1] b_is_recurrent.1
theorem fk_is_recurrent (Z : Zf P w K mg base cl) : Fk P w K mg base cl 7 "is_recurrent" 2 d_is_recurrent := by
  obtain ⟨f, fd, F, hb, hm, hk⟩ := Z.f_is_recurrent
  exact fk_of F sc_is_recurrent hb hm hk (fun cdv A outer s H E hr => b_is_recurrent.2 P w K mg base cl Z f cdv A outer s H E hr)
theorem sc_recurrents : FnScope ["graph", "degrees", "rows", "k", "row", "height", "0z"] ["graph"] (defScope (topS 30)) := ⟨rfl, rfl, rfl, by decide +kernel, rfl, by decide +kernel, by decide +kernel⟩
def b_recurrents : { g : SF // ∀ (P : Program) (w : World) (K : Fg) (mg : Str → Option Value) (base : Heap) (cl : String → Option Addr), Zf P w K mg base cl → Bd P w K mg base cl 7 ["graph", "degrees", "rows", "k", "row", "height", "0z"] "recurrents" (topS 30) [0] [] g } := ⟨_, fun P w K mg base cl Z f cdv A outer s H E hr =>
  have c := Ct.of (cl := cl) sc_recurrents.nd hr Z.B;
  (ss_cons (s_if (it_p (pt_c1 (c_gt c) (p_fn c (fk_count_trees Z) (pa_ofCons (p_v 0) pa_ofNil)) (p_gi Z.m_LISTED))) (ss_one (s_r1 c Z.e_PileError (pa_ofCons p_str pa_ofNil))) ss_nil)
  (ss_cons (s_setN c 1 (i_p (p_fn c (fk_degrees_of Z) (pa_ofCons (p_v 0) pa_ofNil))))
  (ss_cons (s_setN c 2 (i_p (p_lst (po_ofCons (p_tup po_ofNil) po_ofNil))))
  (ss_cons (f_for c (w_rng2 c (pa_ofCons p_int (pa_ofCons (p_at c (p_v 0) p_int) pa_ofNil))) (g_n c 3) (ss_cons (q_setLc2 c 2 [("row", 4), ("height", 5)] [5] (pit_seqA (p_v 2)) (fun _ _ _ _ _ c => (gp_n c 4)) (fun _ _ _ _ _ c => pts'_nil) (fun _ _ _ _ _ c => (w_rng1 c (pa_ofCons (p_at c (p_v 1) (p_v 3)) pa_ofNil))) (fun _ _ _ _ _ c => (gp_n c 5)) (fun _ _ _ _ _ c => pts'_nil) (fun _ _ _ _ _ c => (p_add (p_v 4) (p_tup (po_ofCons (p_v 5) po_ofNil)))))
  (ss_one (s_if (it_p (pt_c1 (c_gt c) (pb_len c (pa_ofCons (p_v 2) pa_ofNil)) p_int)) (ss_one (s_r1 c Z.e_PileError (pa_ofCons p_str pa_ofNil))) ss_nil))))
  (ss_one (s_ret (i_p (pb_tuple c (pa_ofCons (q_lc c [("row", 4)] (pit_seqA (p_v 2)) (fun _ _ _ _ _ c => (gp_n c 4)) (fun _ _ _ _ _ c => (pts'_one (pt_ofVal (p_fn c (fk_is_recurrent Z) (pa_ofCons (p_v 0) (pa_ofCons (p_v 4) pa_ofNil)))))) (fun _ _ _ _ _ c => (p_v 4))) pa_ofNil)))))))))⟩
def d_recurrents : List D → PR D := defP 7 1 [0] b_recurrents.1
theorem fk_recurrents (Z : Zf P w K mg base cl) : Fk P w K mg base cl 8 "recurrents" 1 d_recurrents := by
  obtain ⟨f, fd, F, hb, hm, hk⟩ := Z.f_recurrents
  exact fk_of F sc_recurrents hb hm hk (fun cdv A outer s H E hr => b_recurrents.2 P w K mg base cl Z f cdv A outer s H E hr)
theorem sc_check_square : FnScope ["rows", "row", "0z"] ["rows"] (defScope (topS 32)) := ⟨rfl, rfl, rfl, by decide +kernel, rfl, by decide +kernel, by decide +kernel⟩
def b_check_square : { g : SF // ∀ (P : Program) (w : World) (K : Fg) (mg : Str → Option Value) (base : Heap) (cl : String → Option Addr), Zf P w K mg base cl → Bd P w K mg base cl 2 ["rows", "row", "0z"] "check_square" (topS 32) [0] [] g } := ⟨_, fun P w K mg base cl Z f cdv A outer s H E hr =>
  have c := Ct.of (cl := cl) sc_check_square.nd hr Z.B;
  (ss_cons (s_if (it_p (pt_c1 (c_gt c) (pb_len c (pa_ofCons (p_v 0) pa_ofNil)) p_int)) (ss_one (s_r1 c Z.e_MatrixError (pa_ofCons p_str pa_ofNil))) ss_nil)
  (ss_one (s_if (it_p (pt_ofVal (pb_any c (pa_ofCons (q_lc c [("row", 1)] (pit_seqA (p_v 0)) (fun _ _ _ _ _ c => (gp_n c 1)) (fun _ _ _ _ _ c => pts'_nil) (fun _ _ _ _ _ c => (p_c1 (c_ne c) (pb_len c (pa_ofCons (p_v 1) pa_ofNil)) (pb_len c (pa_ofCons (p_v 0) pa_ofNil))))) pa_ofNil)))) (ss_one (s_r1 c Z.e_MatrixError (pa_ofCons p_str pa_ofNil))) ss_nil)))⟩
def d_check_square : List D → PR D := defP 3 1 [0] b_check_square.1
theorem fk_check_square (Z : Zf P w K mg base cl) : Fk P w K mg base cl 3 "check_square" 1 d_check_square := by
  obtain ⟨f, fd, F, hb, hm, hk⟩ := Z.f_check_square
  exact fk_of F sc_check_square hb hm hk (fun cdv A outer s H E hr => b_check_square.2 P w K mg base cl Z f cdv A outer s H E hr)
theorem sc__cleared : FnScope ["table", "r", "c", "pivot", "k", "factor", "j", "row", "a", "b", "value", "0z"] ["table", "r", "c"] (defScope (topS 34)) := ⟨rfl, rfl, rfl, by decide +kernel, rfl, by decide +kernel, by decide +kernel⟩
def b__cleared : { g : SF // ∀ (P : Program) (w : World) (K : Fg) (mg : Str → Option Value) (base : Heap) (cl : String → Option Addr), Zf P w K mg base cl → Bd P w K mg base cl 1 ["table", "r", "c", "pivot", "k", "factor", "j", "row", "a", "b", "value", "0z"] "_cleared" (topS 34) [1, 2] [0] g } := ⟨_, fun P w K mg base cl Z f cdv A outer s H E hr =>
  have c := Ct.of (cl := cl) sc__cleared.nd hr Z.B;
  (ss_cons (s_setN c 3 (i_p (p_at c (p_at c (p_v 0) (p_v 1)) (p_v 2))))
  (ss_cons (f_for c (w_rng1 c (pa_ofCons (pb_len c (pa_ofCons (p_v 0) pa_ofNil)) pa_ofNil)) (g_n c 4) (ss_one (s_if (it_p (pt_c1 (c_ne c) (p_v 4) (p_v 1))) (ss_cons (s_setN c 5 (i_p (p_div (p_at c (p_at c (p_v 0) (p_v 4)) (p_v 2)) (p_v 3))))
  (ss_one (s_subL (r := 0) rfl (i_p (q_lc c [("a", 8), ("b", 9)] (w_zip c (p_at c (p_v 0) (p_v 4)) (p_at c (p_v 0) (p_v 1))) (fun _ _ _ _ _ c => (gp_tup c.hc (gps_cons (gp_n c 8) (gps_cons (gp_n c 9) gps_nil)))) (fun _ _ _ _ _ c => pts'_nil) (fun _ _ _ _ _ c => (p_sub (p_v 8) (p_mul (p_v 5) (p_v 9)))))) (pth_v 0) (p_v 4)))) ss_nil)))
  (ss_cons (f_for c (w_rng1 c (pa_ofCons (pb_len c (pa_ofCons (p_v 0) pa_ofNil)) pa_ofNil)) (g_n c 6) (ss_one (s_if (it_p (pt_c1 (c_ne c) (p_v 6) (p_v 2))) (ss_cons (s_setN c 5 (i_p (p_div (p_at c (p_at c (p_v 0) (p_v 1)) (p_v 6)) (p_v 3))))
  (ss_one (f_forR c 0 7 (pv' 0) (ss_one (s_subL (r := 7) rfl (i_p (p_sub (p_at c (p_v 7) (p_v 6)) (p_mul (p_v 5) (p_at c (p_v 7) (p_v 2))))) (pth_v 7) (p_v 6)))))) ss_nil)))
  (ss_cons (s_if (it_p (pt_ofVal (pb_any c (pa_ofCons (q_lc c [("k", 4)] (w_rng1 c (pa_ofCons (pb_len c (pa_ofCons (p_v 0) pa_ofNil)) pa_ofNil)) (fun _ _ _ _ _ c => (gp_n c 4)) (fun _ _ _ _ _ c => (pts'_one (pt_c1 (c_ne c) (p_v 4) (p_v 1)))) (fun _ _ _ _ _ c => (p_c1 (c_ne c) (p_at c (p_at c (p_v 0) (p_v 4)) (p_v 2)) p_int))) pa_ofNil)))) (ss_one (s_ret (i_p p_bl))) ss_nil)
  (ss_cons (s_if (it_p (pt_ofVal (pb_any c (pa_ofCons (q_lc c [("j", 6)] (w_rng1 c (pa_ofCons (pb_len c (pa_ofCons (p_v 0) pa_ofNil)) pa_ofNil)) (fun _ _ _ _ _ c => (gp_n c 6)) (fun _ _ _ _ _ c => (pts'_one (pt_c1 (c_ne c) (p_v 6) (p_v 2)))) (fun _ _ _ _ _ c => (p_c1 (c_ne c) (p_at c (p_at c (p_v 0) (p_v 1)) (p_v 6)) p_int))) pa_ofNil)))) (ss_one (s_ret (i_p p_bl))) ss_nil)
  (ss_cons (f_for c (w_rng1 c (pa_ofCons (pb_len c (pa_ofCons (p_v 0) pa_ofNil)) pa_ofNil)) (g_n c 4) (ss_one (s_if (it_p (pwAnd (pt_c1 (c_ne c) (p_v 4) (p_v 1)) (pwAnd1 (pt_ofVal (pb_any c (pa_ofCons (q_lc c [("value", 10)] (pit_seqA (p_at c (p_v 0) (p_v 4))) (fun _ _ _ _ _ c => (gp_n c 10)) (fun _ _ _ _ _ c => pts'_nil) (fun _ _ _ _ _ c => (p_c1 (c_ne c) (p_mod (p_v 10) (p_v 3)) p_int))) pa_ofNil))))).pt) (ss_cons (s_subL (r := 0) rfl (i_p (q_lc c [("a", 8), ("b", 9)] (w_zip c (p_at c (p_v 0) (p_v 1)) (p_at c (p_v 0) (p_v 4))) (fun _ _ _ _ _ c => (gp_tup c.hc (gps_cons (gp_n c 8) (gps_cons (gp_n c 9) gps_nil)))) (fun _ _ _ _ _ c => pts'_nil) (fun _ _ _ _ _ c => (p_add (p_v 8) (p_v 9))))) (pth_v 0) (p_v 1))
  (ss_one (s_ret (i_p p_bl)))) ss_nil)))
  (ss_one (s_ret (i_p p_bl)))))))))⟩
def d__cleared : List D → PR (D × D) := defD 12 3 [1, 2] b__cleared.1
theorem fd__cleared (Z : Zf P w K mg base cl) : Fd P w K mg base cl 2 "_cleared" 3 d__cleared := by
  obtain ⟨f, fd, F, hb, hm, hk⟩ := Z.f__cleared
  exact fd_of F sc__cleared hb hm hk rfl (fun cdv A outer s H E hr => b__cleared.2 P w K mg base cl Z f cdv A outer s H E hr)
theorem sc_smith_numbers : FnScope ["rows", "table", "told", "found", "size", "r", "c", "row", "value", "k", "0z"] ["rows"] (defScope (topS 33)) := ⟨rfl, rfl, rfl, by decide +kernel, rfl, by decide +kernel, by decide +kernel⟩
def b_smith_numbers : { g : SF // ∀ (P : Program) (w : World) (K : Fg) (mg : Str → Option Value) (base : Heap) (cl : String → Option Addr), Zf P w K mg base cl → Bd P w K mg base cl 3 ["rows", "table", "told", "found", "size", "r", "c", "row", "value", "k", "0z"] "smith_numbers" (topS 33) [0] [] g } := ⟨_, fun P w K mg base cl Z f cdv A outer s H E hr =>
  have c := Ct.of (cl := cl) sc_smith_numbers.nd hr Z.B;
  (ss_cons (s_expr (i_p (p_fn c (fk_check_square Z) (pa_ofCons (p_v 0) pa_ofNil))))
  (ss_cons (q_setLc c 1 [("row", 7)] (pit_seqA (p_v 0)) (fun _ _ _ _ _ c => (gp_n c 7)) (fun _ _ _ _ _ c => pts'_nil) (fun _ _ _ _ _ c => (pb_list c (pa_ofCons (p_v 7) pa_ofNil))))
  (ss_cons (s_setN c 2 (i_p (p_lst po_ofNil)))
  (ss_cons (f_while c 100000 (it_p (pt_c1 (c_gt c) (pb_len c (pa_ofCons (p_v 1) pa_ofNil)) p_int)) (ss_cons (q_setLc2 c 3 [("r", 5), ("row", 7), ("c", 6), ("value", 8)] [6, 8] (w_enum c (p_v 1)) (fun _ _ _ _ _ c => (gp_tup c.hc (gps_cons (gp_n c 5) (gps_cons (gp_n c 7) gps_nil)))) (fun _ _ _ _ _ c => pts'_nil) (fun _ _ _ _ _ c => (w_enum c (p_v 7))) (fun _ _ _ _ _ c => (gp_tup c.hc (gps_cons (gp_n c 6) (gps_cons (gp_n c 8) gps_nil)))) (fun _ _ _ _ _ c => (pts'_one (pt_c1 (c_ne c) (p_v 8) p_int))) (fun _ _ _ _ _ c => (p_tup (po_ofCons (pb_abs c (pa_ofCons (p_v 8) pa_ofNil)) (po_ofCons (p_v 5) (po_ofCons (p_v 6) po_ofNil))))))
  (ss_cons (s_if (it_p (pt_c1 (c_eq c) (pb_len c (pa_ofCons (p_v 3) pa_ofNil)) p_int)) (ss_one (s_ret (i_p (pb_tuple c (pa_ofCons (p_add (p_v 2) (p_mul (p_lst (po_ofCons p_int po_ofNil)) (pb_len c (pa_ofCons (p_v 1) pa_ofNil)))) pa_ofNil))))) ss_nil)
  (ss_cons (s_asg (i_p (pb_minT (.tupL [.int, .int, .int]) c (pa_ofCons (p_v 3) pa_ofNil))) (g_tup c.hc (gs_cons (g_n c 4) (gs_cons (g_n c 5) (gs_cons (g_n c 6) gs_nil)))))
  (ss_one (s_if (it_val (i_fnd c 1 (fd__cleared Z) (pv' 1) (pz_cons (p_v 5) (pz_cons (p_v 6) pz_nil)))) (ss_cons (s_expr (i_meth1 (r := 2) rfl F.slot_list_append F.type_list_append mt_append m_app (pv' 2) (ia_cons (i_p (p_v 4)) ia_nil)))
  (ss_one (q_setLc c 1 [("k", 9), ("row", 7)] (w_enum c (p_v 1)) (fun _ _ _ _ _ c => (gp_tup c.hc (gps_cons (gp_n c 9) (gps_cons (gp_n c 7) gps_nil)))) (fun _ _ _ _ _ c => (pts'_one (pt_c1 (c_ne c) (p_v 9) (p_v 5)))) (fun _ _ _ _ _ c => (p_add (p_sl (p_v 7) pp_none (pp_some (p_v 6))) (p_sl (p_v 7) (pp_some (p_add (p_v 6) p_int)) pp_none)))))) ss_nil))))))
  (ss_one (s_ret (i_p (pb_tuple c (pa_ofCons (p_v 2) pa_ofNil)))))))))⟩
def d_smith_numbers : List D → PR D := defP 11 1 [0] b_smith_numbers.1
theorem fk_smith_numbers (Z : Zf P w K mg base cl) : Fk P w K mg base cl 4 "smith_numbers" 1 d_smith_numbers := by
  obtain ⟨f, fd, F, hb, hm, hk⟩ := Z.f_smith_numbers
  exact fk_of F sc_smith_numbers hb hm hk (fun cdv A outer s H E hr => b_smith_numbers.2 P w K mg base cl Z f cdv A outer s H E hr)
theorem sc_group_numbers : FnScope ["graph", "number", "row", "0z"] ["graph"] (defScope (topS 36)) := ⟨rfl, rfl, rfl, by decide +kernel, rfl, by decide +kernel, by decide +kernel⟩
def b_group_numbers : { g : SF // ∀ (P : Program) (w : World) (K : Fg) (mg : Str → Option Value) (base : Heap) (cl : String → Option Addr), Zf P w K mg base cl → Bd P w K mg base cl 4 ["graph", "number", "row", "0z"] "group_numbers" (topS 36) [0] [] g } := ⟨_, fun P w K mg base cl Z f cdv A outer s H E hr =>
  have c := Ct.of (cl := cl) sc_group_numbers.nd hr Z.B;
  (ss_cons (s_expr (i_p (p_fn c (fk_check_graph Z) (pa_ofCons (p_v 0) pa_ofNil))))
  (ss_one (s_ret (i_p (pb_tuple c (pa_ofCons (q_lc c [("number", 1)] (pit_seqA (p_fn c (fk_smith_numbers Z) (pa_ofCons (q_lc c [("row", 2)] (pit_seqA (p_sl (p_fn c (fk_table_of Z) (pa_ofCons (p_v 0) pa_ofNil)) (pp_some p_int) pp_none)) (fun _ _ _ _ _ c => (gp_n c 2)) (fun _ _ _ _ _ c => pts'_nil) (fun _ _ _ _ _ c => (p_sl (p_v 2) (pp_some p_int) pp_none))) pa_ofNil))) (fun _ _ _ _ _ c => (gp_n c 1)) (fun _ _ _ _ _ c => (pts'_one (pt_c1 (c_ne c) (p_v 1) p_int))) (fun _ _ _ _ _ c => (p_v 1))) pa_ofNil))))))⟩
def d_group_numbers : List D → PR D := defP 4 1 [0] b_group_numbers.1
theorem fk_group_numbers (Z : Zf P w K mg base cl) : Fk P w K mg base cl 5 "group_numbers" 1 d_group_numbers := by
  obtain ⟨f, fd, F, hb, hm, hk⟩ := Z.f_group_numbers
  exact fk_of F sc_group_numbers hb hm hk (fun cdv A outer s H E hr => b_group_numbers.2 P w K mg base cl Z f cdv A outer s H E hr)
theorem sc__law_begin : FnScope ["script", "seed", "cell", "0z"] ["script"] (defScope (topS 38)) := ⟨rfl, rfl, rfl, by decide +kernel, rfl, by decide +kernel, by decide +kernel⟩
def b__law_begin : { g : SF // ∀ (P : Program) (w : World) (K : Fg) (mg : Str → Option Value) (base : Heap) (cl : String → Option Addr), Zf P w K mg base cl → Bd P w K mg base cl 1 ["script", "seed", "cell", "0z"] "_law_begin" (topS 38) [0] [] g } := ⟨_, fun P w K mg base cl Z f cdv A outer s H E hr =>
  have c := Ct.of (cl := cl) sc__law_begin.nd hr Z.B;
  (ss_cons (s_setN c 1 (i_p p_int))
  (ss_cons (f_forL c 3 (pit_seqA (p_v 0)) (g_n c 2) (ss_one (s_setN c 1 (i_p (p_mod (p_add (p_add (p_mul (p_v 1) p_int) (p_mod (pb_int c (pa_ofCons (p_v 2) pa_ofNil)) p_int)) p_int) p_int)))))
  (ss_one (s_ret (i_p (p_lst (po_ofCons (pb_list c (pa_ofCons (p_v 0) pa_ofNil)) (po_ofCons p_int (po_ofCons p_int (po_ofCons (p_v 1) po_ofNil))))))))))⟩
def d__law_begin : List D → PR D := defP 4 1 [0] b__law_begin.1
theorem fk__law_begin (Z : Zf P w K mg base cl) : Fk P w K mg base cl 2 "_law_begin" 1 d__law_begin := by
  obtain ⟨f, fd, F, hb, hm, hk⟩ := Z.f__law_begin
  exact fk_of F sc__law_begin hb hm hk (fun cdv A outer s H E hr => b__law_begin.2 P w K mg base cl Z f cdv A outer s H E hr)
theorem sc__law_take : FnScope ["d", "many", "small", "digit", "0z"] ["d", "many"] (defScope (topS 39)) := ⟨rfl, rfl, rfl, by decide +kernel, rfl, by decide +kernel, by decide +kernel⟩
def b__law_take : { g : SF // ∀ (P : Program) (w : World) (K : Fg) (mg : Str → Option Value) (base : Heap) (cl : String → Option Addr), Zf P w K mg base cl → Bd P w K mg base cl 1 ["d", "many", "small", "digit", "0z"] "_law_take" (topS 39) [1] [0] g } := ⟨_, fun P w K mg base cl Z f cdv A outer s H E hr =>
  have c := Ct.of (cl := cl) sc__law_take.nd hr Z.B;
  (ss_cons (s_if (it_p (pwAnd (pt_c1 (c_eq c) (p_at c (p_v 0) p_int) p_int) (pwAnd1 (pt_c1 (c_lt c) (p_at c (p_v 0) p_int) (pb_len c (pa_ofCons (p_at c (p_v 0) p_int) pa_ofNil))))).pt) (ss_cons (s_subL (r := 0) rfl (i_p (pb_abs c (pa_ofCons (pb_int c (pa_ofCons (p_at c (p_at c (p_v 0) p_int) (p_at c (p_v 0) p_int)) pa_ofNil)) pa_ofNil))) (pth_v 0) p_int)
  (ss_cons (s_subL (r := 0) rfl (i_p (p_add (p_at c (p_v 0) p_int) p_int)) (pth_v 0) p_int)
  (ss_one (s_if (it_p (pt_c1 (c_lt c) (p_at c (p_v 0) p_int) (p_pow p_int p_int))) (ss_cons (s_setN c 2 (i_p (pb_int c (pa_ofCons (p_at c (p_v 0) p_int) pa_ofNil))))
  (ss_cons (s_subL (r := 0) rfl (i_p p_int) (pth_v 0) p_int)
  (ss_one (s_ret (i_p (p_mod (p_v 2) (p_v 1))))))) ss_nil)))) ss_nil)
  (ss_cons (s_if (it_p (pt_c1 (c_gt c) (p_at c (p_v 0) p_int) p_int)) (ss_cons (s_setN c 3 (i_p (p_mod (pb_int c (pa_ofCons (p_at c (p_v 0) p_int) pa_ofNil)) (p_v 1))))
  (ss_cons (s_subL (r := 0) rfl (i_p (p_div (pb_int c (pa_ofCons (p_at c (p_v 0) p_int) pa_ofNil)) (p_v 1))) (pth_v 0) p_int)
  (ss_one (s_ret (i_p (p_v 3)))))) ss_nil)
  (ss_cons (s_subL (r := 0) rfl (i_p (p_mod (pb_int c (pa_ofCons (p_add (p_mul (p_at c (p_v 0) p_int) p_int) p_int) pa_ofNil)) p_int)) (pth_v 0) p_int)
  (ss_one (s_ret (i_p (p_mod (pb_int c (pa_ofCons (p_div (p_at c (p_v 0) p_int) p_int) pa_ofNil)) (p_v 1))))))))⟩
def d__law_take : List D → PR (D × D) := defD 5 2 [1] b__law_take.1
theorem fd__law_take (Z : Zf P w K mg base cl) : Fd P w K mg base cl 2 "_law_take" 2 d__law_take := by
  obtain ⟨f, fd, F, hb, hm, hk⟩ := Z.f__law_take
  exact fd_of F sc__law_take hb hm hk rfl (fun cdv A outer s H E hr => b__law_take.2 P w K mg base cl Z f cdv A outer s H E hr)
theorem sc__law_pick : FnScope ["d", "menu", "0z"] ["d", "menu"] (defScope (topS 40)) := ⟨rfl, rfl, rfl, by decide +kernel, rfl, by decide +kernel, by decide +kernel⟩
def b__law_pick : { g : SF // ∀ (P : Program) (w : World) (K : Fg) (mg : Str → Option Value) (base : Heap) (cl : String → Option Addr), Zf P w K mg base cl → Bd P w K mg base cl 2 ["d", "menu", "0z"] "_law_pick" (topS 40) [1] [0] g } := ⟨_, fun P w K mg base cl Z f cdv A outer s H E hr =>
  have c := Ct.of (cl := cl) sc__law_pick.nd hr Z.B;
  (ss_one (s_ret (i_pick c 1 (pv' 1) (i_fnd c 0 (fd__law_take Z) (pv' 0) (pz_cons (pb_len c (pa_ofCons (p_v 1) pa_ofNil)) pz_nil)))))⟩
def d__law_pick : List D → PR (D × D) := defD 3 2 [1] b__law_pick.1
theorem fd__law_pick (Z : Zf P w K mg base cl) : Fd P w K mg base cl 3 "_law_pick" 2 d__law_pick := by
  obtain ⟨f, fd, F, hb, hm, hk⟩ := Z.f__law_pick
  exact fd_of F sc__law_pick hb hm hk rfl (fun cdv A outer s H E hr => b__law_pick.2 P w K mg base cl Z f cdv A outer s H E hr)
theorem sc_law : FnScope ["script", "d", "high", "wide", "edges", "r", "c", "k", "graph", "number", "board", "corner", "cells", "product", "value", "rim", "spokes", "path", "fib", "cell", "0z"] ["script"] (defScope (topS 41)) := ⟨rfl, rfl, rfl, by decide +kernel, rfl, by decide +kernel, by decide +kernel⟩
def b_law : { g : SF // ∀ (P : Program) (w : World) (K : Fg) (mg : Str → Option Value) (base : Heap) (cl : String → Option Addr), Zf P w K mg base cl → Bd P w K mg base cl 8 ["script", "d", "high", "wide", "edges", "r", "c", "k", "graph", "number", "board", "corner", "cells", "product", "value", "rim", "spokes", "path", "fib", "cell", "0z"] "law" (topS 41) [0] [] g } := ⟨_, fun P w K mg base cl Z f cdv A outer s H E hr =>
  have c := Ct.of (cl := cl) sc_law.nd hr Z.B;
  (ss_cons (s_setN c 1 (i_p (p_fn c (fk__law_begin Z) (pa_ofCons (p_v 0) pa_ofNil))))
  (ss_cons (s_asg (i_fnd c 1 (fd__law_pick Z) (pv' 1) (pz_cons (p_lst (po_ofCons (p_tup (po_ofCons p_int (po_ofCons p_int po_ofNil))) (po_ofCons (p_tup (po_ofCons p_int (po_ofCons p_int po_ofNil))) (po_ofCons (p_tup (po_ofCons p_int (po_ofCons p_int po_ofNil))) (po_ofCons (p_tup (po_ofCons p_int (po_ofCons p_int po_ofNil))) (po_ofCons (p_tup (po_ofCons p_int (po_ofCons p_int po_ofNil))) (po_ofCons (p_tup (po_ofCons p_int (po_ofCons p_int po_ofNil))) (po_ofCons (p_tup (po_ofCons p_int (po_ofCons p_int po_ofNil))) (po_ofCons (p_tup (po_ofCons p_int (po_ofCons p_int po_ofNil))) (po_ofCons (p_tup (po_ofCons p_int (po_ofCons p_int po_ofNil))) (po_ofCons (p_tup (po_ofCons p_int (po_ofCons p_int po_ofNil))) po_ofNil))))))))))) pz_nil)) (g_tup c.hc (gs_cons (g_n c 2) (gs_cons (g_n c 3) gs_nil))))
  (ss_cons (s_setN c 4 (i_p (p_lst po_ofNil)))
  (ss_cons (f_for c (w_rng1 c (pa_ofCons (p_v 2) pa_ofNil)) (g_n c 5) (ss_one (f_for c (w_rng1 c (pa_ofCons (p_v 3) pa_ofNil)) (g_n c 6) (ss_cons (s_setN c 7 (i_p (p_add (p_mul (p_v 5) (p_v 3)) (p_v 6))))
  (ss_cons (s_if (it_p (pt_c1 (c_lt c) (p_add (p_v 6) p_int) (p_v 3))) (ss_one (s_expr (i_meth1 (r := 4) rfl F.slot_list_append F.type_list_append mt_append m_app (pv' 4) (ia_cons (i_p (p_tup (po_ofCons (p_v 7) (po_ofCons (p_add (p_v 7) p_int) po_ofNil)))) ia_nil)))) ss_nil)
  (ss_one (s_if (it_p (pt_c1 (c_lt c) (p_add (p_v 5) p_int) (p_v 2))) (ss_one (s_expr (i_meth1 (r := 4) rfl F.slot_list_append F.type_list_append mt_append m_app (pv' 4) (ia_cons (i_p (p_tup (po_ofCons (p_v 7) (po_ofCons (p_add (p_v 7) (p_v 3)) po_ofNil)))) ia_nil)))) ss_nil)))))))
  (ss_cons (s_setN c 8 (i_p (p_tup (po_ofCons (p_mul (p_v 2) (p_v 3)) (po_ofCons (pb_tuple c (pa_ofCons (p_v 4) pa_ofNil)) po_ofNil)))))
  (ss_cons (s_setN c 9 (i_p (p_fn c (fk_count_trees Z) (pa_ofCons (p_v 8) pa_ofNil))))
  (ss_cons (s_setN c 10 (i_p (p_fn c (fk_rectangle Z) (pa_ofCons (p_sub (p_mul p_int (p_v 2)) p_int) (pa_ofCons (p_sub (p_mul p_int (p_v 3)) p_int) pa_ofNil)))))
  (ss_cons (s_setN c 11 (i_fnd c 1 (fd__law_pick Z) (pv' 1) (pz_cons (p_lst (po_ofCons (p_tup (po_ofCons p_int (po_ofCons p_int po_ofNil))) (po_ofCons (p_tup (po_ofCons p_int (po_ofCons (p_sub (p_mul p_int (p_v 3)) p_int) po_ofNil))) (po_ofCons (p_tup (po_ofCons (p_sub (p_mul p_int (p_v 2)) p_int) (po_ofCons p_int po_ofNil))) (po_ofCons (p_tup (po_ofCons (p_sub (p_mul p_int (p_v 2)) p_int) (po_ofCons (p_sub (p_mul p_int (p_v 3)) p_int) po_ofNil))) po_ofNil))))) pz_nil)))
  (ss_cons (s_setN c 12 (i_p (pb_tuple c (pa_ofCons (q_lc c [("cell", 19)] (pit_seqA (p_v 10)) (fun _ _ _ _ _ c => (gp_n c 19)) (fun _ _ _ _ _ c => (pts'_one (pt_c1 (c_ne c) (p_v 19) (p_v 11)))) (fun _ _ _ _ _ c => (p_v 19))) pa_ofNil))))
  (ss_cons (s_if (it_p (pwOr (pt_c1 (c_ne c) (p_fn c (fk_count_tilings Z) (pa_ofCons (p_v 12) pa_ofNil)) (p_v 9)) (pwOr1 (pwAnd (pt_c1 (c_gt c) (pb_len c (pa_ofCons (p_v 12) pa_ofNil)) p_int) (pwAnd1 (pt_c1 (c_ne c) (p_fn c (fk_kasteleyn Z) (pa_ofCons (p_v 12) pa_ofNil)) (p_v 9)))).pt)).pt) (ss_one (s_ret (i_p p_bl))) ss_nil)
  (ss_cons (s_if (it_p (pwAnd (pt_c1 (c_lt c) (p_mul (p_v 2) (p_v 3)) p_int) (pwAnd1 (pt_c1 (c_ne c) (pb_len c (pa_ofCons (p_fn c (fk_recurrents Z) (pa_ofCons (p_v 8) pa_ofNil)) pa_ofNil)) (p_v 9)))).pt) (ss_one (s_ret (i_p p_bl))) ss_nil)
  (ss_cons (s_setN c 13 (i_p p_int))
  (ss_cons (f_for c (pit_seqA (p_fn c (fk_group_numbers Z) (pa_ofCons (p_v 8) pa_ofNil))) (g_n c 14) (ss_one (s_setN c 13 (i_p (p_mul (p_v 13) (p_v 14))))))
  (ss_cons (s_if (it_p (pt_c1 (c_ne c) (p_v 13) (p_v 9))) (ss_one (s_ret (i_p p_bl))) ss_nil)
  (ss_cons (s_setN c 15 (i_add (i_p p_int) (i_fnd c 1 (fd__law_take Z) (pv' 1) (pz_cons p_int pz_nil))))
  (ss_cons (q_setLc c 16 [("k", 7)] (w_rng2 c (pa_ofCons p_int (pa_ofCons (p_add (p_v 15) p_int) pa_ofNil))) (fun _ _ _ _ _ c => (gp_n c 7)) (fun _ _ _ _ _ c => pts'_nil) (fun _ _ _ _ _ c => (p_tup (po_ofCons p_int (po_ofCons (p_v 7) po_ofNil)))))
  (ss_cons (q_setLc c 17 [("k", 7)] (w_rng2 c (pa_ofCons p_int (pa_ofCons (p_v 15) pa_ofNil))) (fun _ _ _ _ _ c => (gp_n c 7)) (fun _ _ _ _ _ c => pts'_nil) (fun _ _ _ _ _ c => (p_tup (po_ofCons (p_v 7) (po_ofCons (p_add (p_v 7) p_int) po_ofNil)))))
  (ss_cons (s_setN c 18 (i_p (p_lst (po_ofCons p_int (po_ofCons p_int po_ofNil)))))
  (ss_cons (f_for c (w_rng1 c (pa_ofCons (p_add (p_mul p_int (p_v 15)) p_int) pa_ofNil)) (g_n c 7) (ss_one (s_expr (i_meth1 (r := 18) rfl F.slot_list_append F.type_list_append mt_append m_app (pv' 18) (ia_cons (i_p (p_add (p_at c (p_v 18) (p_neg p_int)) (p_at c (p_v 18) (p_neg p_int)))) ia_nil)))))
  (ss_cons (s_if (it_p (pt_c1 (c_ne c) (p_fn c (fk_count_trees Z) (pa_ofCons (p_tup (po_ofCons (p_add (p_v 15) p_int) (po_ofCons (pb_tuple c (pa_ofCons (p_add (p_v 16) (p_v 17)) pa_ofNil)) po_ofNil))) pa_ofNil)) (p_at c (p_v 18) (p_mul p_int (p_v 15))))) (ss_one (s_ret (i_p p_bl))) ss_nil)
  (ss_cons (s_if (it_p (pwAnd (pt_c1 (c_gt c) (p_v 15) p_int) (pwAnd1 (pt_c1 (c_ne c) (p_fn c (fk_count_trees Z) (pa_ofCons (p_tup (po_ofCons (p_add (p_v 15) p_int) (po_ofCons (pb_tuple c (pa_ofCons (p_add (p_add (p_v 16) (p_v 17)) (p_lst (po_ofCons (p_tup (po_ofCons p_int (po_ofCons (p_v 15) po_ofNil))) po_ofNil))) pa_ofNil)) po_ofNil))) pa_ofNil)) (p_sub (p_add (p_at c (p_v 18) (p_add (p_mul p_int (p_v 15)) p_int)) (p_at c (p_v 18) (p_sub (p_mul p_int (p_v 15)) p_int))) p_int)))).pt) (ss_one (s_ret (i_p p_bl))) ss_nil)
  (ss_one (s_ret (i_p p_bl))))))))))))))))))))))))⟩
def d_law : List D → PR D := defP 21 1 [0] b_law.1
theorem fk_law (Z : Zf P w K mg base cl) : Fk P w K mg base cl 9 "law" 1 d_law := by
  obtain ⟨f, fd, F, hb, hm, hk⟩ := Z.f_law
  exact fk_of F sc_law hb hm hk (fun cdv A outer s H E hr => b_law.2 P w K mg base cl Z f cdv A outer s H E hr)
theorem ok_law (Z : Zf P w K mg base cl) {f : Addr} {fd : FuncData} (F : Fun K "law" "law" (topS 41) f fd) : FnOk P w K mg base (L2.CX P w) 9 f fd ["script"] (spP K cl 1 d_law) := fnok_of F sc_law (fun cdv A outer s H E hr => b_law.2 P w K mg base cl Z f cdv A outer s H E hr)
end
end K84

set_option Elab.async false
set_option linter.all false
set_option maxRecDepth 100000
set_option maxHeartbeats 4000000
set_option synthInstance.maxHeartbeats 4000000
set_option synthInstance.maxSize 100000
/-! k84: quick twins of the defs, printed by gen.py -/
namespace K84
open PySem PySem.Spec PyProof.Rows L2 Ow
noncomputable section
def tw_determinant : { c : List D → PR D // TwD d_determinant c } := ⟨_, twDef (N := 11) (n := 1) (fz := [0]) (g := b_determinant.1) (by decide) (by decide) (by decide) (by unfold b_determinant; dsimp only; infer_instance)⟩
def q_determinant : List D → PR D := tw_determinant.1
instance twd_determinant : TwD d_determinant q_determinant := tw_determinant.2
def tw_check_region : { c : List D → PR D // TwD d_check_region c } := ⟨_, twDef (N := 4) (n := 1) (fz := [0]) (g := b_check_region.1) (by decide) (by decide) (by decide) (by unfold b_check_region; dsimp only; infer_instance)⟩
def q_check_region : List D → PR D := tw_check_region.1
instance twd_check_region : TwD d_check_region q_check_region := tw_check_region.2
def tw_is_dark : { c : List D → PR D // TwD d_is_dark c } := ⟨_, twDef (N := 2) (n := 1) (fz := [0]) (g := b_is_dark.1) (by decide) (by decide) (by decide) (by unfold b_is_dark; dsimp only; infer_instance)⟩
def q_is_dark : List D → PR D := tw_is_dark.1
instance twd_is_dark : TwD d_is_dark q_is_dark := tw_is_dark.2
def tw_beside : { c : List D → PR D // TwD d_beside c } := ⟨_, twDef (N := 4) (n := 1) (fz := [0]) (g := b_beside.1) (by decide) (by decide) (by decide) (by unfold b_beside; dsimp only; infer_instance)⟩
def q_beside : List D → PR D := tw_beside.1
instance twd_beside : TwD d_beside q_beside := tw_beside.2
def tw_count_tilings : { c : List D → PR D // TwD d_count_tilings c } := ⟨_, twDef (N := 10) (n := 1) (fz := [0]) (g := b_count_tilings.1) (by decide) (by decide) (by decide) (by unfold b_count_tilings; dsimp only; infer_instance)⟩
def q_count_tilings : List D → PR D := tw_count_tilings.1
instance twd_count_tilings : TwD d_count_tilings q_count_tilings := tw_count_tilings.2
def tw_kasteleyn : { c : List D → PR D // TwD d_kasteleyn c } := ⟨_, twDef (N := 9) (n := 1) (fz := [0]) (g := b_kasteleyn.1) (by decide) (by decide) (by decide) (by unfold b_kasteleyn; dsimp only; infer_instance)⟩
def q_kasteleyn : List D → PR D := tw_kasteleyn.1
instance twd_kasteleyn : TwD d_kasteleyn q_kasteleyn := tw_kasteleyn.2
def tw_rectangle : { c : List D → PR D // TwD d_rectangle c } := ⟨_, twDef (N := 6) (n := 2) (fz := [0, 1]) (g := b_rectangle.1) (by decide) (by decide) (by decide) (by unfold b_rectangle; dsimp only; infer_instance)⟩
def q_rectangle : List D → PR D := tw_rectangle.1
instance twd_rectangle : TwD d_rectangle q_rectangle := tw_rectangle.2
def tw_parts_of : { c : List D → PR D // TwD d_parts_of c } := ⟨_, twDef (N := 10) (n := 2) (fz := [0, 1]) (g := b_parts_of.1) (by decide) (by decide) (by decide) (by unfold b_parts_of; dsimp only; infer_instance)⟩
def q_parts_of : List D → PR D := tw_parts_of.1
instance twd_parts_of : TwD d_parts_of q_parts_of := tw_parts_of.2
def tw_check_graph : { c : List D → PR D // TwD d_check_graph c } := ⟨_, twDef (N := 7) (n := 1) (fz := [0]) (g := b_check_graph.1) (by decide) (by decide) (by decide) (by unfold b_check_graph; dsimp only; infer_instance)⟩
def q_check_graph : List D → PR D := tw_check_graph.1
instance twd_check_graph : TwD d_check_graph q_check_graph := tw_check_graph.2
def tw_table_of : { c : List D → PR D // TwD d_table_of c } := ⟨_, twDef (N := 8) (n := 1) (fz := [0]) (g := b_table_of.1) (by decide) (by decide) (by decide) (by unfold b_table_of; dsimp only; infer_instance)⟩
def q_table_of : List D → PR D := tw_table_of.1
instance twd_table_of : TwD d_table_of q_table_of := tw_table_of.2
def tw_count_trees : { c : List D → PR D // TwD d_count_trees c } := ⟨_, twDef (N := 3) (n := 1) (fz := [0]) (g := b_count_trees.1) (by decide) (by decide) (by decide) (by unfold b_count_trees; dsimp only; infer_instance)⟩
def q_count_trees : List D → PR D := tw_count_trees.1
instance twd_count_trees : TwD d_count_trees q_count_trees := tw_count_trees.2
def tw_check_pile : { c : List D → PR D // TwD d_check_pile c } := ⟨_, twDef (N := 5) (n := 2) (fz := [0, 1]) (g := b_check_pile.1) (by decide) (by decide) (by decide) (by unfold b_check_pile; dsimp only; infer_instance)⟩
def q_check_pile : List D → PR D := tw_check_pile.1
instance twd_check_pile : TwD d_check_pile q_check_pile := tw_check_pile.2
def tw_degrees_of : { c : List D → PR D // TwD d_degrees_of c } := ⟨_, twDef (N := 4) (n := 1) (fz := [0]) (g := b_degrees_of.1) (by decide) (by decide) (by decide) (by unfold b_degrees_of; dsimp only; infer_instance)⟩
def q_degrees_of : List D → PR D := tw_degrees_of.1
instance twd_degrees_of : TwD d_degrees_of q_degrees_of := tw_degrees_of.2
def tw_is_stable : { c : List D → PR D // TwD d_is_stable c } := ⟨_, twDef (N := 6) (n := 2) (fz := [0, 1]) (g := b_is_stable.1) (by decide) (by decide) (by decide) (by unfold b_is_stable; dsimp only; infer_instance)⟩
def q_is_stable : List D → PR D := tw_is_stable.1
instance twd_is_stable : TwD d_is_stable q_is_stable := tw_is_stable.2
def tw_burn : { c : List D → PR D // TwD d_burn c } := ⟨_, twDef (N := 9) (n := 2) (fz := [0, 1]) (g := b_burn.1) (by decide) (by decide) (by decide) (by unfold b_burn; dsimp only; infer_instance)⟩
def q_burn : List D → PR D := tw_burn.1
instance twd_burn : TwD d_burn q_burn := tw_burn.2
def tw_is_recurrent : { c : List D → PR D // TwD d_is_recurrent c } := ⟨_, twDef (N := 3) (n := 2) (fz := [0, 1]) (g := b_is_recurrent.1) (by decide) (by decide) (by decide) (by unfold b_is_recurrent; dsimp only; infer_instance)⟩
def q_is_recurrent : List D → PR D := tw_is_recurrent.1
instance twd_is_recurrent : TwD d_is_recurrent q_is_recurrent := tw_is_recurrent.2
def tw_recurrents : { c : List D → PR D // TwD d_recurrents c } := ⟨_, twDef (N := 7) (n := 1) (fz := [0]) (g := b_recurrents.1) (by decide) (by decide) (by decide) (by unfold b_recurrents; dsimp only; infer_instance)⟩
def q_recurrents : List D → PR D := tw_recurrents.1
instance twd_recurrents : TwD d_recurrents q_recurrents := tw_recurrents.2
def tw_check_square : { c : List D → PR D // TwD d_check_square c } := ⟨_, twDef (N := 3) (n := 1) (fz := [0]) (g := b_check_square.1) (by decide) (by decide) (by decide) (by unfold b_check_square; dsimp only; infer_instance)⟩
def q_check_square : List D → PR D := tw_check_square.1
instance twd_check_square : TwD d_check_square q_check_square := tw_check_square.2
def tw__cleared : { c : List D → PR (D × D) // TwDD d__cleared c } := ⟨_, twDefD (N := 12) (n := 3) (fz := [1, 2]) (g := b__cleared.1) (by decide) (by decide) (by decide) (by decide) (by unfold b__cleared; dsimp only; infer_instance)⟩
def q__cleared : List D → PR (D × D) := tw__cleared.1
instance twd__cleared : TwDD d__cleared q__cleared := tw__cleared.2
def tw_smith_numbers : { c : List D → PR D // TwD d_smith_numbers c } := ⟨_, twDef (N := 11) (n := 1) (fz := [0]) (g := b_smith_numbers.1) (by decide) (by decide) (by decide) (by unfold b_smith_numbers; dsimp only; infer_instance)⟩
def q_smith_numbers : List D → PR D := tw_smith_numbers.1
instance twd_smith_numbers : TwD d_smith_numbers q_smith_numbers := tw_smith_numbers.2
def tw_group_numbers : { c : List D → PR D // TwD d_group_numbers c } := ⟨_, twDef (N := 4) (n := 1) (fz := [0]) (g := b_group_numbers.1) (by decide) (by decide) (by decide) (by unfold b_group_numbers; dsimp only; infer_instance)⟩
def q_group_numbers : List D → PR D := tw_group_numbers.1
instance twd_group_numbers : TwD d_group_numbers q_group_numbers := tw_group_numbers.2
end
end K84

set_option Elab.async false
set_option linter.all false
set_option maxRecDepth 1000000
set_option maxHeartbeats 0
set_option synthInstance.maxHeartbeats 4000000
set_option synthInstance.maxSize 100000
/-! k84: the law is true, whatever is drawn -/
namespace K84
open PySem PySem.Spec PyProof.Rows L2 Ow
noncomputable section
theorem seq_assoc (a b c : SF) : sSeq (sSeq a b) c = sSeq a (sSeq b c) := by
  funext env
  unfold sSeq
  cases a env <;> rfl
instance tud_t : TuD d__law_take udTake := tud_take
def tu_pick : { c : UD // TuD d__law_pick c } := ⟨_, tud_def (N := 3) (n := 2) (fz := [1]) (g := b__law_pick.1) (by decide) (by decide) (by decide) (by unfold b__law_pick; dsimp only; infer_instance)⟩
instance tud_p : TuD d__law_pick tu_pick.1 := tu_pick.2
theorem begin84 (ns : List Int) (h : ns.length ≤ 63) : ∃ x, d__law_begin [.scr ns] = .ok x ∧ DS x := begin_ok ns h
abbrev S15 := SF × SF × SF × SF × SF × SF × SF × SF × SF × SF × SF × SF × SF × SF × SF
def parts : { p : S15 // b_law.1 = match p with | (a0, a1, a2, a3, a4, a5, a6, a7, a8, a9, a10, a11, a12, a13, a14) => sSeq (sSet 1 (iP (pFun 1 d__law_begin (pCons (pVar 0) pNil)))) (sSeq a0 (sSeq a1 (sSeq a2 (sSeq a3 (sSeq a4 (sSeq a5 (sSeq a6 (sSeq a7 (sSeq a8 (sSeq a9 (sSeq a10 (sSeq a11 (sSeq a12 (sSeq a13 a14)))))))))))))) } := ⟨(_, _, _, _, _, _, _, _, _, _, _, _, _, _, _), by unfold b_law; dsimp only⟩
def S0 : SF := match parts.1 with | (a0, _) => a0
def M : SF := match parts.1 with | (_, a1, a2, a3, a4, a5, a6, a7, a8, a9, a10, a11, a12, _, _) => sSeq a1 (sSeq a2 (sSeq a3 (sSeq a4 (sSeq a5 (sSeq a6 (sSeq a7 (sSeq a8 (sSeq a9 (sSeq a10 (sSeq a11 a12))))))))))
def SR' : SF := match parts.1 with | (_, _, _, _, _, _, _, _, _, _, _, _, _, a13, _) => a13
def RS : SF := match parts.1 with | (_, _, _, _, _, _, _, _, _, _, _, _, _, _, a14) => a14
theorem law_eq : b_law.1 = sSeq (sSet 1 (iP (pFun 1 d__law_begin (pCons (pVar 0) pNil)))) (sSeq S0 (sSeq M (sSeq SR' RS))) := by
  rw [parts.2]
  unfold S0 M SR' RS
  generalize parts.1 = p
  obtain ⟨a0, a1, a2, a3, a4, a5, a6, a7, a8, a9, a10, a11, a12, a13, a14⟩ := p
  dsimp only
  simp only [seq_assoc]
def tu0 : { c : US // TuS 21 1 S0 c } := ⟨_, by unfold S0 parts; dsimp only; infer_instance⟩
def tuR : { c : US // TuS 21 1 SR' c } := ⟨_, by unfold SR' parts; dsimp only; infer_instance⟩
def tuE : { c : US // TuS 21 1 RS c } := ⟨_, by unfold RS parts; dsimp only; infer_instance⟩
def tuM : { c : US // TuS 21 1 M c } := ⟨_, by unfold M parts; dsimp only; infer_instance⟩
/-- two ints that are one of the pairs -/
def inP (a b : D) (l : List (Int × Int)) : Bool := intK a (fun i => intK b (fun j => List.rec (motive := fun _ => Bool) false (fun p _ ih => bsel (bsel (ieqR i p.1) (ieqR j p.2) false) true ih) l) false) false
theorem inP_ok {a b : D} {l : List (Int × Int)} (h : inP a b l = true) : ∃ p ∈ l, a = .g (.int p.1) ∧ b = .g (.int p.2) := by
  unfold inP at h
  rw [intK_eq] at h
  cases e : intOf a with
  | none => rw [e] at h; cases h
  | some i =>
    rw [e] at h
    dsimp only at h
    rw [intK_eq] at h
    cases e2 : intOf b with
    | none => rw [e2] at h; cases h
    | some j =>
      rw [e2] at h
      dsimp only at h
      have h1 := intOf_some e
      have h2 := intOf_some e2
      subst h1 h2
      clear e e2
      induction l with
      | nil => cases h
      | cons p l ih =>
        dsimp only at h
        rw [bsel_eq] at h
        split at h
        · rename_i hz
          rw [bsel_eq] at hz
          split at hz
          · rename_i h1
            rw [ieqR_eq] at h1 hz
            have q1 := of_decide_eq_true h1
            have q2 := of_decide_eq_true hz
            exact ⟨p, List.mem_cons_self, by rw [q1], by rw [q2]⟩
          · cases hz
        · obtain ⟨k, hk, e⟩ := ih h
          exact ⟨k, List.mem_cons_of_mem _ hk, e⟩
def boards : List (Int × Int) := [(.ofNat 1, .ofNat 1), (.ofNat 1, .ofNat 2), (.ofNat 2, .ofNat 2), (.ofNat 2, .ofNat 3), (.ofNat 3, .ofNat 2), (.ofNat 2, .ofNat 4), (.ofNat 4, .ofNat 2), (.ofNat 1, .ofNat 8), (.ofNat 1, .ofNat 5), (.ofNat 2, .ofNat 1)]
theorem h0 : tu0.1 (tOf []) (fun e => inP (gt2 e) (gt3 e) boards) isT no1 no1 = true := by decide +kernel
theorem hR : tuR.1 (tOf []) (fun e => inI (gt15 e) [.ofNat 2, .ofNat 3, .ofNat 4, .ofNat 5, .ofNat 6]) isT no1 no1 = true := by decide +kernel
def tR (i : Int) : T := tOf (List.replicate 15 .hole ++ [.g (.int i)])
def tM (i j : Int) : T := tOf [.hole, .hole, .g (.int i), .g (.int j)]
theorem e2 : tuE.1 (tR 2) no1 isT no1 no1 = true := by decide +kernel
theorem e3 : tuE.1 (tR 3) no1 isT no1 no1 = true := by decide +kernel
theorem e4 : tuE.1 (tR 4) no1 isT no1 no1 = true := by decide +kernel
theorem e5 : tuE.1 (tR 5) no1 isT no1 no1 = true := by decide +kernel
theorem e6 : tuE.1 (tR 6) no1 isT no1 no1 = true := by decide +kernel
theorem m1_1 : tuM.1 (tM 1 1) (fun _ => true) isT no1 no1 = true := by decide +kernel
theorem m1_2 : tuM.1 (tM 1 2) (fun _ => true) isT no1 no1 = true := by decide +kernel
theorem m2_2 : tuM.1 (tM 2 2) (fun _ => true) isT no1 no1 = true := by decide +kernel
theorem m2_3 : tuM.1 (tM 2 3) (fun _ => true) isT no1 no1 = true := by decide +kernel
theorem m3_2 : tuM.1 (tM 3 2) (fun _ => true) isT no1 no1 = true := by decide +kernel
theorem m2_4 : tuM.1 (tM 2 4) (fun _ => true) isT no1 no1 = true := by decide +kernel
theorem m4_2 : tuM.1 (tM 4 2) (fun _ => true) isT no1 no1 = true := by decide +kernel
theorem m1_8 : tuM.1 (tM 1 8) (fun _ => true) isT no1 no1 = true := by decide +kernel
theorem m1_5 : tuM.1 (tM 1 5) (fun _ => true) isT no1 no1 = true := by decide +kernel
theorem m2_1 : tuM.1 (tM 2 1) (fun _ => true) isT no1 no1 = true := by decide +kernel
theorem hM : ∀ p ∈ boards, tuM.1 (tOf (([] ++ List.replicate 2 .hole ++ [.g (.int p.1)]) ++ List.replicate 0 .hole ++ [.g (.int p.2)])) (fun _ => true) isT no1 no1 = true := fun p hp => by
  unfold boards at hp
  simp only [List.mem_cons, List.not_mem_nil, or_false] at hp
  rcases hp with rfl | rfl | rfl | rfl | rfl | rfl | rfl | rfl | rfl | rfl
  · exact m1_1
  · exact m1_2
  · exact m2_2
  · exact m2_3
  · exact m3_2
  · exact m2_4
  · exact m4_2
  · exact m1_8
  · exact m1_5
  · exact m2_1
theorem hE : ∀ i ∈ [Int.ofNat 2, .ofNat 3, .ofNat 4, .ofNat 5, .ofNat 6], tuE.1 (tOf ([] ++ List.replicate 15 .hole ++ [.g (.int i)])) no1 isT no1 no1 = true := fun i hi => by
  simp only [List.mem_cons, List.not_mem_nil, or_false] at hi
  rcases hi with rfl | rfl | rfl | rfl | rfl
  · exact e2
  · exact e3
  · exact e4
  · exact e5
  · exact e6
theorem law_true : ∀ ns : List Int, ns.length ≤ 63 → d_law [.scr ns] = .ok (.g (.bool true)) := by
  unfold d_law
  rw [law_eq]
  refine law_of (N := 21) begin84 (by decide) ?_
  refine lr_cut tu0.2 _ rfl h0 fun e1 hh1 hp => ?_
  obtain ⟨p, hp, q1, q2⟩ := inP_ok hp
  refine ⟨_, Tells.of (i := 3) (Tells.of (i := 2) Tells.nil q1 (by decide)) q2 (by simp), ?_⟩
  refine lr_cut tuM.2 _ rfl (hM p hp) fun e2 hh2 _ => ⟨[], Tells.nil, ?_⟩
  refine lr_cut tuR.2 _ rfl hR fun e3 hh3 hp => ?_
  obtain ⟨i, hi, q⟩ := inI_ok hp
  exact ⟨_, Tells.of (i := 15) Tells.nil q (by decide), lr_run tuE.2 rfl (hE i hi)⟩
end
end K84

set_option Elab.async false
set_option linter.all false
set_option maxRecDepth 100000
set_option maxHeartbeats 4000000
namespace K84
open PySem PySem.Spec PyProof.Rows L2 Ow
theorem bb_determinant : BindsBy "determinant" (topS 6) ["rows"] := fun kV doc pm an cdv ct us hl => match us, hl with | [_], _ => rfl
theorem bb_check_region : BindsBy "check_region" (topS 9) ["cells"] := fun kV doc pm an cdv ct us hl => match us, hl with | [_], _ => rfl
theorem bb_is_dark : BindsBy "is_dark" (topS 10) ["cell"] := fun kV doc pm an cdv ct us hl => match us, hl with | [_], _ => rfl
theorem bb_beside : BindsBy "beside" (topS 11) ["cell"] := fun kV doc pm an cdv ct us hl => match us, hl with | [_], _ => rfl
theorem bb_count_tilings : BindsBy "count_tilings" (topS 12) ["cells"] := fun kV doc pm an cdv ct us hl => match us, hl with | [_], _ => rfl
theorem bb_kasteleyn : BindsBy "kasteleyn" (topS 13) ["cells"] := fun kV doc pm an cdv ct us hl => match us, hl with | [_], _ => rfl
theorem bb_rectangle : BindsBy "rectangle" (topS 14) ["high", "wide"] := fun kV doc pm an cdv ct us hl => match us, hl with | [_, _], _ => rfl
theorem bb_check_graph : BindsBy "check_graph" (topS 18) ["graph"] := fun kV doc pm an cdv ct us hl => match us, hl with | [_], _ => rfl
theorem bb_parts_of : BindsBy "parts_of" (topS 19) ["many", "edges"] := fun kV doc pm an cdv ct us hl => match us, hl with | [_, _], _ => rfl
theorem bb_table_of : BindsBy "table_of" (topS 20) ["graph"] := fun kV doc pm an cdv ct us hl => match us, hl with | [_], _ => rfl
theorem bb_count_trees : BindsBy "count_trees" (topS 21) ["graph"] := fun kV doc pm an cdv ct us hl => match us, hl with | [_], _ => rfl
theorem bb_check_pile : BindsBy "check_pile" (topS 25) ["graph", "pile"] := fun kV doc pm an cdv ct us hl => match us, hl with | [_, _], _ => rfl
theorem bb_degrees_of : BindsBy "degrees_of" (topS 26) ["graph"] := fun kV doc pm an cdv ct us hl => match us, hl with | [_], _ => rfl
theorem bb_is_stable : BindsBy "is_stable" (topS 27) ["graph", "pile"] := fun kV doc pm an cdv ct us hl => match us, hl with | [_, _], _ => rfl
theorem bb_burn : BindsBy "burn" (topS 28) ["graph", "pile"] := fun kV doc pm an cdv ct us hl => match us, hl with | [_, _], _ => rfl
theorem bb_is_recurrent : BindsBy "is_recurrent" (topS 29) ["graph", "pile"] := fun kV doc pm an cdv ct us hl => match us, hl with | [_, _], _ => rfl
theorem bb_recurrents : BindsBy "recurrents" (topS 30) ["graph"] := fun kV doc pm an cdv ct us hl => match us, hl with | [_], _ => rfl
theorem bb_check_square : BindsBy "check_square" (topS 32) ["rows"] := fun kV doc pm an cdv ct us hl => match us, hl with | [_], _ => rfl
theorem bb_smith_numbers : BindsBy "smith_numbers" (topS 33) ["rows"] := fun kV doc pm an cdv ct us hl => match us, hl with | [_], _ => rfl
theorem bb__cleared : BindsBy "_cleared" (topS 34) ["table", "r", "c"] := fun kV doc pm an cdv ct us hl => match us, hl with | [_, _, _], _ => rfl
theorem bb_group_numbers : BindsBy "group_numbers" (topS 36) ["graph"] := fun kV doc pm an cdv ct us hl => match us, hl with | [_], _ => rfl
theorem bb__law_begin : BindsBy "_law_begin" (topS 38) ["script"] := fun kV doc pm an cdv ct us hl => match us, hl with | [_], _ => rfl
theorem bb__law_take : BindsBy "_law_take" (topS 39) ["d", "many"] := fun kV doc pm an cdv ct us hl => match us, hl with | [_, _], _ => rfl
theorem bb__law_pick : BindsBy "_law_pick" (topS 40) ["d", "menu"] := fun kV doc pm an cdv ct us hl => match us, hl with | [_, _], _ => rfl
theorem bb_law : BindsBy "law" (topS 41) ["script"] := fun kV doc pm an cdv ct us hl => match us, hl with | [_], _ => rfl
def spLaw (K : Fg) : Sp := spP K (clN K ["RegionError", "PileError", "MatrixError"]) 1 d_law
theorem all_mk {P : Program} {w : World} {K : Fg} {h : Heap} {mg : Str → Option Value} {fa : Addr} (X : K.In h) (G : h.Ns mainGlobals mg) (hfa : mg "law" = some (.ref fa))
    {f0 : Addr} {oc0 : Value} {od0 an0 : Option Addr} {sl0 : Array (Option Value)} {kV0 dc0 pm0 cd0 ct0 : Value}
    {f1 : Addr} {oc1 : Value} {od1 an1 : Option Addr} {sl1 : Array (Option Value)} {kV1 dc1 pm1 cd1 ct1 : Value}
    {f2 : Addr} {oc2 : Value} {od2 an2 : Option Addr} {sl2 : Array (Option Value)} {kV2 dc2 pm2 cd2 ct2 : Value}
    {f3 : Addr} {oc3 : Value} {od3 an3 : Option Addr} {sl3 : Array (Option Value)} {kV3 dc3 pm3 cd3 ct3 : Value}
    {f4 : Addr} {oc4 : Value} {od4 an4 : Option Addr} {sl4 : Array (Option Value)} {kV4 dc4 pm4 cd4 ct4 : Value}
    {f5 : Addr} {oc5 : Value} {od5 an5 : Option Addr} {sl5 : Array (Option Value)} {kV5 dc5 pm5 cd5 ct5 : Value}
    {f6 : Addr} {oc6 : Value} {od6 an6 : Option Addr} {sl6 : Array (Option Value)} {kV6 dc6 pm6 cd6 ct6 : Value}
    {f7 : Addr} {oc7 : Value} {od7 an7 : Option Addr} {sl7 : Array (Option Value)} {kV7 dc7 pm7 cd7 ct7 : Value}
    {f8 : Addr} {oc8 : Value} {od8 an8 : Option Addr} {sl8 : Array (Option Value)} {kV8 dc8 pm8 cd8 ct8 : Value}
    {f9 : Addr} {oc9 : Value} {od9 an9 : Option Addr} {sl9 : Array (Option Value)} {kV9 dc9 pm9 cd9 ct9 : Value}
    {f10 : Addr} {oc10 : Value} {od10 an10 : Option Addr} {sl10 : Array (Option Value)} {kV10 dc10 pm10 cd10 ct10 : Value}
    {f11 : Addr} {oc11 : Value} {od11 an11 : Option Addr} {sl11 : Array (Option Value)} {kV11 dc11 pm11 cd11 ct11 : Value}
    {f12 : Addr} {oc12 : Value} {od12 an12 : Option Addr} {sl12 : Array (Option Value)} {kV12 dc12 pm12 cd12 ct12 : Value}
    {f13 : Addr} {oc13 : Value} {od13 an13 : Option Addr} {sl13 : Array (Option Value)} {kV13 dc13 pm13 cd13 ct13 : Value}
    {f14 : Addr} {oc14 : Value} {od14 an14 : Option Addr} {sl14 : Array (Option Value)} {kV14 dc14 pm14 cd14 ct14 : Value}
    {f15 : Addr} {oc15 : Value} {od15 an15 : Option Addr} {sl15 : Array (Option Value)} {kV15 dc15 pm15 cd15 ct15 : Value}
    {f16 : Addr} {oc16 : Value} {od16 an16 : Option Addr} {sl16 : Array (Option Value)} {kV16 dc16 pm16 cd16 ct16 : Value}
    {f17 : Addr} {oc17 : Value} {od17 an17 : Option Addr} {sl17 : Array (Option Value)} {kV17 dc17 pm17 cd17 ct17 : Value}
    {f18 : Addr} {oc18 : Value} {od18 an18 : Option Addr} {sl18 : Array (Option Value)} {kV18 dc18 pm18 cd18 ct18 : Value}
    {f19 : Addr} {oc19 : Value} {od19 an19 : Option Addr} {sl19 : Array (Option Value)} {kV19 dc19 pm19 cd19 ct19 : Value}
    {f20 : Addr} {oc20 : Value} {od20 an20 : Option Addr} {sl20 : Array (Option Value)} {kV20 dc20 pm20 cd20 ct20 : Value}
    {f21 : Addr} {oc21 : Value} {od21 an21 : Option Addr} {sl21 : Array (Option Value)} {kV21 dc21 pm21 cd21 ct21 : Value}
    {f22 : Addr} {oc22 : Value} {od22 an22 : Option Addr} {sl22 : Array (Option Value)} {kV22 dc22 pm22 cd22 ct22 : Value}
    {f23 : Addr} {oc23 : Value} {od23 an23 : Option Addr} {sl23 : Array (Option Value)} {kV23 dc23 pm23 cd23 ct23 : Value}
    {f24 : Addr} {oc24 : Value} {od24 an24 : Option Addr} {sl24 : Array (Option Value)} {kV24 dc24 pm24 cd24 ct24 : Value}
    {t_MOST_regions : Tok}
    {t_MOST_trees : Tok}
    {t_EDGES : Tok}
    {t_HEIGHT : Tok}
    {t_LISTED : Tok}
    {C_RegionError fI_RegionError Tt_RegionError : Addr} {nmq_RegionError q_RegionError : Str} {N_RegionError : Addr} {bs_RegionError bm_RegionError : List Value} {sn_RegionError : List Str} {sub_RegionError : List Value} {ab_RegionError : Bool} {col_RegionError : Option Bool} {dd_RegionError : Option Addr} {m0_RegionError m1_RegionError m2_RegionError m3_RegionError m5_RegionError : Option Value} {qual_RegionError : Str} {p1_RegionError p2_RegionError p3_RegionError p4_RegionError q1_RegionError q2_RegionError q3_RegionError q4_RegionError q5_RegionError q6_RegionError q7_RegionError q8_RegionError : Pos} {oc_RegionError : Value} {od_RegionError an_RegionError : Option Addr} {osl_RegionError : Array (Option Value)} {kV_RegionError doc_RegionError pm_RegionError cdv_RegionError ct_RegionError : Value} {oT_RegionError : Obj} {n_RegionError : Nat} {t_RegionError : Tok}
    {C_PileError fI_PileError Tt_PileError : Addr} {nmq_PileError q_PileError : Str} {N_PileError : Addr} {bs_PileError bm_PileError : List Value} {sn_PileError : List Str} {sub_PileError : List Value} {ab_PileError : Bool} {col_PileError : Option Bool} {dd_PileError : Option Addr} {m0_PileError m1_PileError m2_PileError m3_PileError m5_PileError : Option Value} {qual_PileError : Str} {p1_PileError p2_PileError p3_PileError p4_PileError q1_PileError q2_PileError q3_PileError q4_PileError q5_PileError q6_PileError q7_PileError q8_PileError : Pos} {oc_PileError : Value} {od_PileError an_PileError : Option Addr} {osl_PileError : Array (Option Value)} {kV_PileError doc_PileError pm_PileError cdv_PileError ct_PileError : Value} {oT_PileError : Obj} {n_PileError : Nat} {t_PileError : Tok}
    {C_MatrixError fI_MatrixError Tt_MatrixError : Addr} {nmq_MatrixError q_MatrixError : Str} {N_MatrixError : Addr} {bs_MatrixError bm_MatrixError : List Value} {sn_MatrixError : List Str} {sub_MatrixError : List Value} {ab_MatrixError : Bool} {col_MatrixError : Option Bool} {dd_MatrixError : Option Addr} {m0_MatrixError m1_MatrixError m2_MatrixError m3_MatrixError m5_MatrixError : Option Value} {qual_MatrixError : Str} {p1_MatrixError p2_MatrixError p3_MatrixError p4_MatrixError q1_MatrixError q2_MatrixError q3_MatrixError q4_MatrixError q5_MatrixError q6_MatrixError q7_MatrixError q8_MatrixError : Pos} {oc_MatrixError : Value} {od_MatrixError an_MatrixError : Option Addr} {osl_MatrixError : Array (Option Value)} {kV_MatrixError doc_MatrixError pm_MatrixError cdv_MatrixError ct_MatrixError : Value} {oT_MatrixError : Obj} {n_MatrixError : Nat} {t_MatrixError : Tok}
    (a0 : PySem.W.nsIn K mainGlobals "determinant" = some (some (.ref f0)))
    (l0 : K.lookup f0 = some ⟨oc0, od0, .func (PySem.W.fnOf "determinant" "determinant" (defArgs (topS 6)) (defBody (topS 6)) (defScope (topS 6)) .none kV0 dc0 pm0 an0 cd0 ct0), sl0⟩)
    (c0 : PySem.W.codeIn K cd0 "determinant" = true)
    (k0 : PySem.W.keepIn K (.ref f0) = true)
    (a1 : PySem.W.nsIn K mainGlobals "check_region" = some (some (.ref f1)))
    (l1 : K.lookup f1 = some ⟨oc1, od1, .func (PySem.W.fnOf "check_region" "check_region" (defArgs (topS 9)) (defBody (topS 9)) (defScope (topS 9)) .none kV1 dc1 pm1 an1 cd1 ct1), sl1⟩)
    (c1 : PySem.W.codeIn K cd1 "check_region" = true)
    (k1 : PySem.W.keepIn K (.ref f1) = true)
    (a2 : PySem.W.nsIn K mainGlobals "is_dark" = some (some (.ref f2)))
    (l2 : K.lookup f2 = some ⟨oc2, od2, .func (PySem.W.fnOf "is_dark" "is_dark" (defArgs (topS 10)) (defBody (topS 10)) (defScope (topS 10)) .none kV2 dc2 pm2 an2 cd2 ct2), sl2⟩)
    (c2 : PySem.W.codeIn K cd2 "is_dark" = true)
    (k2 : PySem.W.keepIn K (.ref f2) = true)
    (a3 : PySem.W.nsIn K mainGlobals "beside" = some (some (.ref f3)))
    (l3 : K.lookup f3 = some ⟨oc3, od3, .func (PySem.W.fnOf "beside" "beside" (defArgs (topS 11)) (defBody (topS 11)) (defScope (topS 11)) .none kV3 dc3 pm3 an3 cd3 ct3), sl3⟩)
    (c3 : PySem.W.codeIn K cd3 "beside" = true)
    (k3 : PySem.W.keepIn K (.ref f3) = true)
    (a4 : PySem.W.nsIn K mainGlobals "count_tilings" = some (some (.ref f4)))
    (l4 : K.lookup f4 = some ⟨oc4, od4, .func (PySem.W.fnOf "count_tilings" "count_tilings" (defArgs (topS 12)) (defBody (topS 12)) (defScope (topS 12)) .none kV4 dc4 pm4 an4 cd4 ct4), sl4⟩)
    (c4 : PySem.W.codeIn K cd4 "count_tilings" = true)
    (k4 : PySem.W.keepIn K (.ref f4) = true)
    (a5 : PySem.W.nsIn K mainGlobals "kasteleyn" = some (some (.ref f5)))
    (l5 : K.lookup f5 = some ⟨oc5, od5, .func (PySem.W.fnOf "kasteleyn" "kasteleyn" (defArgs (topS 13)) (defBody (topS 13)) (defScope (topS 13)) .none kV5 dc5 pm5 an5 cd5 ct5), sl5⟩)
    (c5 : PySem.W.codeIn K cd5 "kasteleyn" = true)
    (k5 : PySem.W.keepIn K (.ref f5) = true)
    (a6 : PySem.W.nsIn K mainGlobals "rectangle" = some (some (.ref f6)))
    (l6 : K.lookup f6 = some ⟨oc6, od6, .func (PySem.W.fnOf "rectangle" "rectangle" (defArgs (topS 14)) (defBody (topS 14)) (defScope (topS 14)) .none kV6 dc6 pm6 an6 cd6 ct6), sl6⟩)
    (c6 : PySem.W.codeIn K cd6 "rectangle" = true)
    (k6 : PySem.W.keepIn K (.ref f6) = true)
    (a7 : PySem.W.nsIn K mainGlobals "check_graph" = some (some (.ref f7)))
    (l7 : K.lookup f7 = some ⟨oc7, od7, .func (PySem.W.fnOf "check_graph" "check_graph" (defArgs (topS 18)) (defBody (topS 18)) (defScope (topS 18)) .none kV7 dc7 pm7 an7 cd7 ct7), sl7⟩)
    (c7 : PySem.W.codeIn K cd7 "check_graph" = true)
    (k7 : PySem.W.keepIn K (.ref f7) = true)
    (a8 : PySem.W.nsIn K mainGlobals "parts_of" = some (some (.ref f8)))
    (l8 : K.lookup f8 = some ⟨oc8, od8, .func (PySem.W.fnOf "parts_of" "parts_of" (defArgs (topS 19)) (defBody (topS 19)) (defScope (topS 19)) .none kV8 dc8 pm8 an8 cd8 ct8), sl8⟩)
    (c8 : PySem.W.codeIn K cd8 "parts_of" = true)
    (k8 : PySem.W.keepIn K (.ref f8) = true)
    (a9 : PySem.W.nsIn K mainGlobals "table_of" = some (some (.ref f9)))
    (l9 : K.lookup f9 = some ⟨oc9, od9, .func (PySem.W.fnOf "table_of" "table_of" (defArgs (topS 20)) (defBody (topS 20)) (defScope (topS 20)) .none kV9 dc9 pm9 an9 cd9 ct9), sl9⟩)
    (c9 : PySem.W.codeIn K cd9 "table_of" = true)
    (k9 : PySem.W.keepIn K (.ref f9) = true)
    (a10 : PySem.W.nsIn K mainGlobals "count_trees" = some (some (.ref f10)))
    (l10 : K.lookup f10 = some ⟨oc10, od10, .func (PySem.W.fnOf "count_trees" "count_trees" (defArgs (topS 21)) (defBody (topS 21)) (defScope (topS 21)) .none kV10 dc10 pm10 an10 cd10 ct10), sl10⟩)
    (c10 : PySem.W.codeIn K cd10 "count_trees" = true)
    (k10 : PySem.W.keepIn K (.ref f10) = true)
    (a11 : PySem.W.nsIn K mainGlobals "check_pile" = some (some (.ref f11)))
    (l11 : K.lookup f11 = some ⟨oc11, od11, .func (PySem.W.fnOf "check_pile" "check_pile" (defArgs (topS 25)) (defBody (topS 25)) (defScope (topS 25)) .none kV11 dc11 pm11 an11 cd11 ct11), sl11⟩)
    (c11 : PySem.W.codeIn K cd11 "check_pile" = true)
    (k11 : PySem.W.keepIn K (.ref f11) = true)
    (a12 : PySem.W.nsIn K mainGlobals "degrees_of" = some (some (.ref f12)))
    (l12 : K.lookup f12 = some ⟨oc12, od12, .func (PySem.W.fnOf "degrees_of" "degrees_of" (defArgs (topS 26)) (defBody (topS 26)) (defScope (topS 26)) .none kV12 dc12 pm12 an12 cd12 ct12), sl12⟩)
    (c12 : PySem.W.codeIn K cd12 "degrees_of" = true)
    (k12 : PySem.W.keepIn K (.ref f12) = true)
    (a13 : PySem.W.nsIn K mainGlobals "is_stable" = some (some (.ref f13)))
    (l13 : K.lookup f13 = some ⟨oc13, od13, .func (PySem.W.fnOf "is_stable" "is_stable" (defArgs (topS 27)) (defBody (topS 27)) (defScope (topS 27)) .none kV13 dc13 pm13 an13 cd13 ct13), sl13⟩)
    (c13 : PySem.W.codeIn K cd13 "is_stable" = true)
    (k13 : PySem.W.keepIn K (.ref f13) = true)
    (a14 : PySem.W.nsIn K mainGlobals "burn" = some (some (.ref f14)))
    (l14 : K.lookup f14 = some ⟨oc14, od14, .func (PySem.W.fnOf "burn" "burn" (defArgs (topS 28)) (defBody (topS 28)) (defScope (topS 28)) .none kV14 dc14 pm14 an14 cd14 ct14), sl14⟩)
    (c14 : PySem.W.codeIn K cd14 "burn" = true)
    (k14 : PySem.W.keepIn K (.ref f14) = true)
    (a15 : PySem.W.nsIn K mainGlobals "is_recurrent" = some (some (.ref f15)))
    (l15 : K.lookup f15 = some ⟨oc15, od15, .func (PySem.W.fnOf "is_recurrent" "is_recurrent" (defArgs (topS 29)) (defBody (topS 29)) (defScope (topS 29)) .none kV15 dc15 pm15 an15 cd15 ct15), sl15⟩)
    (c15 : PySem.W.codeIn K cd15 "is_recurrent" = true)
    (k15 : PySem.W.keepIn K (.ref f15) = true)
    (a16 : PySem.W.nsIn K mainGlobals "recurrents" = some (some (.ref f16)))
    (l16 : K.lookup f16 = some ⟨oc16, od16, .func (PySem.W.fnOf "recurrents" "recurrents" (defArgs (topS 30)) (defBody (topS 30)) (defScope (topS 30)) .none kV16 dc16 pm16 an16 cd16 ct16), sl16⟩)
    (c16 : PySem.W.codeIn K cd16 "recurrents" = true)
    (k16 : PySem.W.keepIn K (.ref f16) = true)
    (a17 : PySem.W.nsIn K mainGlobals "check_square" = some (some (.ref f17)))
    (l17 : K.lookup f17 = some ⟨oc17, od17, .func (PySem.W.fnOf "check_square" "check_square" (defArgs (topS 32)) (defBody (topS 32)) (defScope (topS 32)) .none kV17 dc17 pm17 an17 cd17 ct17), sl17⟩)
    (c17 : PySem.W.codeIn K cd17 "check_square" = true)
    (k17 : PySem.W.keepIn K (.ref f17) = true)
    (a18 : PySem.W.nsIn K mainGlobals "smith_numbers" = some (some (.ref f18)))
    (l18 : K.lookup f18 = some ⟨oc18, od18, .func (PySem.W.fnOf "smith_numbers" "smith_numbers" (defArgs (topS 33)) (defBody (topS 33)) (defScope (topS 33)) .none kV18 dc18 pm18 an18 cd18 ct18), sl18⟩)
    (c18 : PySem.W.codeIn K cd18 "smith_numbers" = true)
    (k18 : PySem.W.keepIn K (.ref f18) = true)
    (a19 : PySem.W.nsIn K mainGlobals "_cleared" = some (some (.ref f19)))
    (l19 : K.lookup f19 = some ⟨oc19, od19, .func (PySem.W.fnOf "_cleared" "_cleared" (defArgs (topS 34)) (defBody (topS 34)) (defScope (topS 34)) .none kV19 dc19 pm19 an19 cd19 ct19), sl19⟩)
    (c19 : PySem.W.codeIn K cd19 "_cleared" = true)
    (k19 : PySem.W.keepIn K (.ref f19) = true)
    (a20 : PySem.W.nsIn K mainGlobals "group_numbers" = some (some (.ref f20)))
    (l20 : K.lookup f20 = some ⟨oc20, od20, .func (PySem.W.fnOf "group_numbers" "group_numbers" (defArgs (topS 36)) (defBody (topS 36)) (defScope (topS 36)) .none kV20 dc20 pm20 an20 cd20 ct20), sl20⟩)
    (c20 : PySem.W.codeIn K cd20 "group_numbers" = true)
    (k20 : PySem.W.keepIn K (.ref f20) = true)
    (a21 : PySem.W.nsIn K mainGlobals "_law_begin" = some (some (.ref f21)))
    (l21 : K.lookup f21 = some ⟨oc21, od21, .func (PySem.W.fnOf "_law_begin" "_law_begin" (defArgs (topS 38)) (defBody (topS 38)) (defScope (topS 38)) .none kV21 dc21 pm21 an21 cd21 ct21), sl21⟩)
    (c21 : PySem.W.codeIn K cd21 "_law_begin" = true)
    (k21 : PySem.W.keepIn K (.ref f21) = true)
    (a22 : PySem.W.nsIn K mainGlobals "_law_take" = some (some (.ref f22)))
    (l22 : K.lookup f22 = some ⟨oc22, od22, .func (PySem.W.fnOf "_law_take" "_law_take" (defArgs (topS 39)) (defBody (topS 39)) (defScope (topS 39)) .none kV22 dc22 pm22 an22 cd22 ct22), sl22⟩)
    (c22 : PySem.W.codeIn K cd22 "_law_take" = true)
    (k22 : PySem.W.keepIn K (.ref f22) = true)
    (a23 : PySem.W.nsIn K mainGlobals "_law_pick" = some (some (.ref f23)))
    (l23 : K.lookup f23 = some ⟨oc23, od23, .func (PySem.W.fnOf "_law_pick" "_law_pick" (defArgs (topS 40)) (defBody (topS 40)) (defScope (topS 40)) .none kV23 dc23 pm23 an23 cd23 ct23), sl23⟩)
    (c23 : PySem.W.codeIn K cd23 "_law_pick" = true)
    (k23 : PySem.W.keepIn K (.ref f23) = true)
    (a24 : PySem.W.nsIn K mainGlobals "law" = some (some (.ref f24)))
    (l24 : K.lookup f24 = some ⟨oc24, od24, .func (PySem.W.fnOf "law" "law" (defArgs (topS 41)) (defBody (topS 41)) (defScope (topS 41)) .none kV24 dc24 pm24 an24 cd24 ct24), sl24⟩)
    (c24 : PySem.W.codeIn K cd24 "law" = true)
    (k24 : PySem.W.keepIn K (.ref f24) = true)
    (z_len : PySem.W.nsIn K mainGlobals "len" = some none)
    (z_range : PySem.W.nsIn K mainGlobals "range" = some none)
    (z_sum : PySem.W.nsIn K mainGlobals "sum" = some none)
    (z_any : PySem.W.nsIn K mainGlobals "any" = some none)
    (z_all : PySem.W.nsIn K mainGlobals "all" = some none)
    (z_max : PySem.W.nsIn K mainGlobals "max" = some none)
    (z_min : PySem.W.nsIn K mainGlobals "min" = some none)
    (z_abs : PySem.W.nsIn K mainGlobals "abs" = some none)
    (z_int : PySem.W.nsIn K mainGlobals "int" = some none)
    (z_bool : PySem.W.nsIn K mainGlobals "bool" = some none)
    (z_tuple : PySem.W.nsIn K mainGlobals "tuple" = some none)
    (z_list : PySem.W.nsIn K mainGlobals "list" = some none)
    (z_sorted : PySem.W.nsIn K mainGlobals "sorted" = some none)
    (z_enumerate : PySem.W.nsIn K mainGlobals "enumerate" = some none)
    (z_zip : PySem.W.nsIn K mainGlobals "zip" = some none)
    (z_set : PySem.W.nsIn K mainGlobals "set" = some none)
    (z_isinstance : PySem.W.nsIn K mainGlobals "isinstance" = some none)
    (z_reversed : PySem.W.nsIn K mainGlobals "reversed" = some none)
    (z_str : PySem.W.nsIn K mainGlobals "str" = some none)
    (m_MOST_regions : PySem.W.nsIn K mainGlobals "MOST_regions" = some (some (.int 40 t_MOST_regions)))
    (m_MOST_trees : PySem.W.nsIn K mainGlobals "MOST_trees" = some (some (.int 8 t_MOST_trees)))
    (m_EDGES : PySem.W.nsIn K mainGlobals "EDGES" = some (some (.int 20 t_EDGES)))
    (m_HEIGHT : PySem.W.nsIn K mainGlobals "HEIGHT" = some (some (.int 99 t_HEIGHT)))
    (m_LISTED : PySem.W.nsIn K mainGlobals "LISTED" = some (some (.int 3000 t_LISTED)))
    (aC_RegionError : PySem.W.nsIn K mainGlobals "RegionError" = some (some (.ref C_RegionError)))
    (xL_RegionError : K.lookup C_RegionError = some (excClassObj nmq_RegionError q_RegionError C_RegionError N_RegionError bs_RegionError bm_RegionError true sn_RegionError sub_RegionError ab_RegionError col_RegionError dd_RegionError m0_RegionError m1_RegionError m2_RegionError m3_RegionError m5_RegionError "ValueError.__new__"))
    (rf_RegionError : PySem.HandSPX.refsVE bm_RegionError = true)
    (sa_RegionError : PySem.W.findIn K (.ref C_RegionError) "__setattr__" = some (some (.builtin "object.__setattr__")))
    (eC_RegionError : PySem.W.subIn K (.ref C_RegionError) (.type "BaseException") = some true)
    (tC_RegionError : PySem.W.typeIn K (.ref C_RegionError) = some (.type "type"))
    (kC_RegionError : PySem.W.keepIn K (.ref C_RegionError) = true)
    (nc_RegionError : PySem.W.findIn K (.ref C_RegionError) "code" = some none)
    (np_RegionError : PySem.W.findIn K (.ref C_RegionError) "place" = some none)
    (iI_RegionError : PySem.W.findIn K (.ref C_RegionError) "__init__" = some (some (.ref fI_RegionError)))
    (tI_RegionError : PySem.W.typeIn K (.ref fI_RegionError) = some (.type "function"))
    (lI_RegionError : K.lookup fI_RegionError = some ⟨oc_RegionError, od_RegionError, .func (PySem.W.fnOf "__init__" qual_RegionError (iniA p1_RegionError p2_RegionError p3_RegionError p4_RegionError) (iniB q1_RegionError q2_RegionError q3_RegionError q4_RegionError q5_RegionError q6_RegionError q7_RegionError q8_RegionError) iniS (.ref Tt_RegionError) kV_RegionError doc_RegionError pm_RegionError an_RegionError cdv_RegionError ct_RegionError), osl_RegionError⟩)
    (cI_RegionError : PySem.W.codeIn K cdv_RegionError qual_RegionError = true)
    (kI_RegionError : PySem.W.keepIn K (.ref fI_RegionError) = true)
    (lT_RegionError : K.lookup Tt_RegionError = some oT_RegionError)
    (dT_RegionError : oT_RegionError.data = .seq #[.int 0 t_RegionError] n_RegionError)
    (ga_RegionError : PySem.W.findIn K (.ref C_RegionError) "__getattribute__" = some (some (.builtin "BaseException.__getattribute__")))
    (gg_RegionError : PySem.W.findIn K (.ref C_RegionError) "__getattr__" = some none)
    (hd_RegionError : PySem.W.hasDictIn K C_RegionError = true)
    (ic_RegionError : PySem.W.isClsIn K C_RegionError = true)
    (aC_PileError : PySem.W.nsIn K mainGlobals "PileError" = some (some (.ref C_PileError)))
    (xL_PileError : K.lookup C_PileError = some (excClassObj nmq_PileError q_PileError C_PileError N_PileError bs_PileError bm_PileError true sn_PileError sub_PileError ab_PileError col_PileError dd_PileError m0_PileError m1_PileError m2_PileError m3_PileError m5_PileError "ValueError.__new__"))
    (rf_PileError : PySem.HandSPX.refsVE bm_PileError = true)
    (sa_PileError : PySem.W.findIn K (.ref C_PileError) "__setattr__" = some (some (.builtin "object.__setattr__")))
    (eC_PileError : PySem.W.subIn K (.ref C_PileError) (.type "BaseException") = some true)
    (tC_PileError : PySem.W.typeIn K (.ref C_PileError) = some (.type "type"))
    (kC_PileError : PySem.W.keepIn K (.ref C_PileError) = true)
    (nc_PileError : PySem.W.findIn K (.ref C_PileError) "code" = some none)
    (np_PileError : PySem.W.findIn K (.ref C_PileError) "place" = some none)
    (iI_PileError : PySem.W.findIn K (.ref C_PileError) "__init__" = some (some (.ref fI_PileError)))
    (tI_PileError : PySem.W.typeIn K (.ref fI_PileError) = some (.type "function"))
    (lI_PileError : K.lookup fI_PileError = some ⟨oc_PileError, od_PileError, .func (PySem.W.fnOf "__init__" qual_PileError (iniA p1_PileError p2_PileError p3_PileError p4_PileError) (iniB q1_PileError q2_PileError q3_PileError q4_PileError q5_PileError q6_PileError q7_PileError q8_PileError) iniS (.ref Tt_PileError) kV_PileError doc_PileError pm_PileError an_PileError cdv_PileError ct_PileError), osl_PileError⟩)
    (cI_PileError : PySem.W.codeIn K cdv_PileError qual_PileError = true)
    (kI_PileError : PySem.W.keepIn K (.ref fI_PileError) = true)
    (lT_PileError : K.lookup Tt_PileError = some oT_PileError)
    (dT_PileError : oT_PileError.data = .seq #[.int 0 t_PileError] n_PileError)
    (ga_PileError : PySem.W.findIn K (.ref C_PileError) "__getattribute__" = some (some (.builtin "BaseException.__getattribute__")))
    (gg_PileError : PySem.W.findIn K (.ref C_PileError) "__getattr__" = some none)
    (hd_PileError : PySem.W.hasDictIn K C_PileError = true)
    (ic_PileError : PySem.W.isClsIn K C_PileError = true)
    (aC_MatrixError : PySem.W.nsIn K mainGlobals "MatrixError" = some (some (.ref C_MatrixError)))
    (xL_MatrixError : K.lookup C_MatrixError = some (excClassObj nmq_MatrixError q_MatrixError C_MatrixError N_MatrixError bs_MatrixError bm_MatrixError true sn_MatrixError sub_MatrixError ab_MatrixError col_MatrixError dd_MatrixError m0_MatrixError m1_MatrixError m2_MatrixError m3_MatrixError m5_MatrixError "ValueError.__new__"))
    (rf_MatrixError : PySem.HandSPX.refsVE bm_MatrixError = true)
    (sa_MatrixError : PySem.W.findIn K (.ref C_MatrixError) "__setattr__" = some (some (.builtin "object.__setattr__")))
    (eC_MatrixError : PySem.W.subIn K (.ref C_MatrixError) (.type "BaseException") = some true)
    (tC_MatrixError : PySem.W.typeIn K (.ref C_MatrixError) = some (.type "type"))
    (kC_MatrixError : PySem.W.keepIn K (.ref C_MatrixError) = true)
    (nc_MatrixError : PySem.W.findIn K (.ref C_MatrixError) "code" = some none)
    (np_MatrixError : PySem.W.findIn K (.ref C_MatrixError) "place" = some none)
    (iI_MatrixError : PySem.W.findIn K (.ref C_MatrixError) "__init__" = some (some (.ref fI_MatrixError)))
    (tI_MatrixError : PySem.W.typeIn K (.ref fI_MatrixError) = some (.type "function"))
    (lI_MatrixError : K.lookup fI_MatrixError = some ⟨oc_MatrixError, od_MatrixError, .func (PySem.W.fnOf "__init__" qual_MatrixError (iniA p1_MatrixError p2_MatrixError p3_MatrixError p4_MatrixError) (iniB q1_MatrixError q2_MatrixError q3_MatrixError q4_MatrixError q5_MatrixError q6_MatrixError q7_MatrixError q8_MatrixError) iniS (.ref Tt_MatrixError) kV_MatrixError doc_MatrixError pm_MatrixError an_MatrixError cdv_MatrixError ct_MatrixError), osl_MatrixError⟩)
    (cI_MatrixError : PySem.W.codeIn K cdv_MatrixError qual_MatrixError = true)
    (kI_MatrixError : PySem.W.keepIn K (.ref fI_MatrixError) = true)
    (lT_MatrixError : K.lookup Tt_MatrixError = some oT_MatrixError)
    (dT_MatrixError : oT_MatrixError.data = .seq #[.int 0 t_MatrixError] n_MatrixError)
    (ga_MatrixError : PySem.W.findIn K (.ref C_MatrixError) "__getattribute__" = some (some (.builtin "BaseException.__getattribute__")))
    (gg_MatrixError : PySem.W.findIn K (.ref C_MatrixError) "__getattr__" = some none)
    (hd_MatrixError : PySem.W.hasDictIn K C_MatrixError = true)
    (ic_MatrixError : PySem.W.isClsIn K C_MatrixError = true)
    (x_RegionError_RegionError : PySem.W.subIn K (.ref C_RegionError) (.ref C_RegionError) = some true)
    (x_RegionError_PileError : PySem.W.subIn K (.ref C_PileError) (.ref C_RegionError) = some false)
    (x_RegionError_MatrixError : PySem.W.subIn K (.ref C_MatrixError) (.ref C_RegionError) = some false)
    (x_PileError_RegionError : PySem.W.subIn K (.ref C_RegionError) (.ref C_PileError) = some false)
    (x_PileError_PileError : PySem.W.subIn K (.ref C_PileError) (.ref C_PileError) = some true)
    (x_PileError_MatrixError : PySem.W.subIn K (.ref C_MatrixError) (.ref C_PileError) = some false)
    (x_MatrixError_RegionError : PySem.W.subIn K (.ref C_RegionError) (.ref C_MatrixError) = some false)
    (x_MatrixError_PileError : PySem.W.subIn K (.ref C_PileError) (.ref C_MatrixError) = some false)
    (x_MatrixError_MatrixError : PySem.W.subIn K (.ref C_MatrixError) (.ref C_MatrixError) = some true) :
    ∃ fd : FuncData, (∀ (s : Shared) (u : Value), BindsTo s fd ⟨[u], []⟩ [("script", u)]) ∧ ∀ base : Heap, K.In base → base.Ns mainGlobals mg → FnOk P w K mg base (L2.CX P w) 9 fa fd ["script"] (spLaw K) := by
  have e := hfa.symm.trans (PySem.W.mg_of X G a24)
  cases e
  have F := fun_mk (st := topS 41) l24 c24 k24
  refine ⟨_, fun s u => bindsTo_of F bb_law s [u] rfl, fun base _ _ => ?_⟩
  have Z : Zf P w K mg base (clN K ["RegionError", "PileError", "MatrixError"]) := {
    B := ⟨none_mk G X z_len, none_mk G X z_range, none_mk G X z_sum, none_mk G X z_any, none_mk G X z_all, none_mk G X z_max, none_mk G X z_min, none_mk G X z_abs, none_mk G X z_int, none_mk G X z_bool, none_mk G X z_tuple, none_mk G X z_list, none_mk G X z_sorted, none_mk G X z_enumerate, none_mk G X z_zip, none_mk G X z_set, none_mk G X z_isinstance, none_mk G X z_reversed, none_mk G X z_str⟩
    m_MOST_regions := int_mk G X m_MOST_regions
    m_MOST_trees := int_mk G X m_MOST_trees
    m_EDGES := int_mk G X m_EDGES
    m_HEIGHT := int_mk G X m_HEIGHT
    m_LISTED := int_mk G X m_LISTED
    e_RegionError := er_mk G X aC_RegionError xL_RegionError rf_RegionError sa_RegionError eC_RegionError tC_RegionError kC_RegionError nc_RegionError np_RegionError iI_RegionError tI_RegionError lI_RegionError cI_RegionError kI_RegionError lT_RegionError dT_RegionError (xf_of ga_RegionError gg_RegionError eC_RegionError hd_RegionError) (clN_at (by decide) aC_RegionError) (clN_one (fun n hn => by
      simp only [List.mem_cons, List.mem_nil_iff, or_false, List.not_mem_nil] at hn
      rcases hn with rfl | rfl | rfl
      · exact ⟨C_RegionError, aC_RegionError, by rw [exm_of eC_RegionError ic_RegionError tC_RegionError x_RegionError_RegionError]; decide⟩
      · exact ⟨C_PileError, aC_PileError, by rw [exm_of eC_RegionError ic_RegionError tC_RegionError x_RegionError_PileError]; decide⟩
      · exact ⟨C_MatrixError, aC_MatrixError, by rw [exm_of eC_RegionError ic_RegionError tC_RegionError x_RegionError_MatrixError]; decide⟩))
    e_PileError := er_mk G X aC_PileError xL_PileError rf_PileError sa_PileError eC_PileError tC_PileError kC_PileError nc_PileError np_PileError iI_PileError tI_PileError lI_PileError cI_PileError kI_PileError lT_PileError dT_PileError (xf_of ga_PileError gg_PileError eC_PileError hd_PileError) (clN_at (by decide) aC_PileError) (clN_one (fun n hn => by
      simp only [List.mem_cons, List.mem_nil_iff, or_false, List.not_mem_nil] at hn
      rcases hn with rfl | rfl | rfl
      · exact ⟨C_RegionError, aC_RegionError, by rw [exm_of eC_PileError ic_PileError tC_PileError x_PileError_RegionError]; decide⟩
      · exact ⟨C_PileError, aC_PileError, by rw [exm_of eC_PileError ic_PileError tC_PileError x_PileError_PileError]; decide⟩
      · exact ⟨C_MatrixError, aC_MatrixError, by rw [exm_of eC_PileError ic_PileError tC_PileError x_PileError_MatrixError]; decide⟩))
    e_MatrixError := er_mk G X aC_MatrixError xL_MatrixError rf_MatrixError sa_MatrixError eC_MatrixError tC_MatrixError kC_MatrixError nc_MatrixError np_MatrixError iI_MatrixError tI_MatrixError lI_MatrixError cI_MatrixError kI_MatrixError lT_MatrixError dT_MatrixError (xf_of ga_MatrixError gg_MatrixError eC_MatrixError hd_MatrixError) (clN_at (by decide) aC_MatrixError) (clN_one (fun n hn => by
      simp only [List.mem_cons, List.mem_nil_iff, or_false, List.not_mem_nil] at hn
      rcases hn with rfl | rfl | rfl
      · exact ⟨C_RegionError, aC_RegionError, by rw [exm_of eC_MatrixError ic_MatrixError tC_MatrixError x_MatrixError_RegionError]; decide⟩
      · exact ⟨C_PileError, aC_PileError, by rw [exm_of eC_MatrixError ic_MatrixError tC_MatrixError x_MatrixError_PileError]; decide⟩
      · exact ⟨C_MatrixError, aC_MatrixError, by rw [exm_of eC_MatrixError ic_MatrixError tC_MatrixError x_MatrixError_MatrixError]; decide⟩))
    f_determinant := df_mk G X bb_determinant a0 l0 c0 k0
    f_check_region := df_mk G X bb_check_region a1 l1 c1 k1
    f_is_dark := df_mk G X bb_is_dark a2 l2 c2 k2
    f_beside := df_mk G X bb_beside a3 l3 c3 k3
    f_count_tilings := df_mk G X bb_count_tilings a4 l4 c4 k4
    f_kasteleyn := df_mk G X bb_kasteleyn a5 l5 c5 k5
    f_rectangle := df_mk G X bb_rectangle a6 l6 c6 k6
    f_check_graph := df_mk G X bb_check_graph a7 l7 c7 k7
    f_parts_of := df_mk G X bb_parts_of a8 l8 c8 k8
    f_table_of := df_mk G X bb_table_of a9 l9 c9 k9
    f_count_trees := df_mk G X bb_count_trees a10 l10 c10 k10
    f_check_pile := df_mk G X bb_check_pile a11 l11 c11 k11
    f_degrees_of := df_mk G X bb_degrees_of a12 l12 c12 k12
    f_is_stable := df_mk G X bb_is_stable a13 l13 c13 k13
    f_burn := df_mk G X bb_burn a14 l14 c14 k14
    f_is_recurrent := df_mk G X bb_is_recurrent a15 l15 c15 k15
    f_recurrents := df_mk G X bb_recurrents a16 l16 c16 k16
    f_check_square := df_mk G X bb_check_square a17 l17 c17 k17
    f_smith_numbers := df_mk G X bb_smith_numbers a18 l18 c18 k18
    f__cleared := df_mk G X bb__cleared a19 l19 c19 k19
    f_group_numbers := df_mk G X bb_group_numbers a20 l20 c20 k20
    f__law_begin := df_mk G X bb__law_begin a21 l21 c21 k21
    f__law_take := df_mk G X bb__law_take a22 l22 c22 k22
    f__law_pick := df_mk G X bb__law_pick a23 l23 c23 k23
    f_law := df_mk G X bb_law a24 l24 c24 k24 }
  exact ok_law Z F
end K84
open PySem PySem.W PyProof.Rows
set_option maxHeartbeats 0 in
theorem PySem.Challenge.cw_shapeworks_k84_whole_trees_as_tilings_holds : PySem.Challenge.rw_shapeworks_k84_whole_trees_as_tilings.Holds := by
  w_on; o_law; k_head; (case hw => w_witness2)
  k_fill
  refine L2.walk_of (l := PySem.Challenge.rw_shapeworks_k84_whole_trees_as_tilings) (n := 63) (k := 9) (x := "script") (CX := fun w => L2.CX PySem.Challenge.rw_shapeworks_k84_whole_trees_as_tilings.prog w) (sp := fun w => K84.spLaw _) rfl (by decide) rfl ⟨by decide, by decide, by decide⟩ (fun w h Y => PySem.W.kIn_of Y) ?F (fun w H a ns hl hO hS => Ow.sp_law K84.law_true hl (Ow.sqF_of hO hS)) (fun w H s e s' => Ow.hCX H s e s')
  case F =>
    intro w mg fa h KX G hmg
    refine' K84.all_mk KX G hmg ?a0 ?l0 ?c0 ?k0 ?a1 ?l1 ?c1 ?k1 ?a2 ?l2 ?c2 ?k2 ?a3 ?l3 ?c3 ?k3 ?a4 ?l4 ?c4 ?k4 ?a5 ?l5 ?c5 ?k5 ?a6 ?l6 ?c6 ?k6 ?a7 ?l7 ?c7 ?k7 ?a8 ?l8 ?c8 ?k8 ?a9 ?l9 ?c9 ?k9 ?a10 ?l10 ?c10 ?k10 ?a11 ?l11 ?c11 ?k11 ?a12 ?l12 ?c12 ?k12 ?a13 ?l13 ?c13 ?k13 ?a14 ?l14 ?c14 ?k14 ?a15 ?l15 ?c15 ?k15 ?a16 ?l16 ?c16 ?k16 ?a17 ?l17 ?c17 ?k17 ?a18 ?l18 ?c18 ?k18 ?a19 ?l19 ?c19 ?k19 ?a20 ?l20 ?c20 ?k20 ?a21 ?l21 ?c21 ?k21 ?a22 ?l22 ?c22 ?k22 ?a23 ?l23 ?c23 ?k23 ?a24 ?l24 ?c24 ?k24 ?z_len ?z_range ?z_sum ?z_any ?z_all ?z_max ?z_min ?z_abs ?z_int ?z_bool ?z_tuple ?z_list ?z_sorted ?z_enumerate ?z_zip ?z_set ?z_isinstance ?z_reversed ?z_str ?m_MOST_regions ?m_MOST_trees ?m_EDGES ?m_HEIGHT ?m_LISTED ?aC_RegionError ?xL_RegionError ?rf_RegionError ?sa_RegionError ?eC_RegionError ?tC_RegionError ?kC_RegionError ?nc_RegionError ?np_RegionError ?iI_RegionError ?tI_RegionError ?lI_RegionError ?cI_RegionError ?kI_RegionError ?lT_RegionError ?dT_RegionError ?ga_RegionError ?gg_RegionError ?hd_RegionError ?ic_RegionError ?aC_PileError ?xL_PileError ?rf_PileError ?sa_PileError ?eC_PileError ?tC_PileError ?kC_PileError ?nc_PileError ?np_PileError ?iI_PileError ?tI_PileError ?lI_PileError ?cI_PileError ?kI_PileError ?lT_PileError ?dT_PileError ?ga_PileError ?gg_PileError ?hd_PileError ?ic_PileError ?aC_MatrixError ?xL_MatrixError ?rf_MatrixError ?sa_MatrixError ?eC_MatrixError ?tC_MatrixError ?kC_MatrixError ?nc_MatrixError ?np_MatrixError ?iI_MatrixError ?tI_MatrixError ?lI_MatrixError ?cI_MatrixError ?kI_MatrixError ?lT_MatrixError ?dT_MatrixError ?ga_MatrixError ?gg_MatrixError ?hd_MatrixError ?ic_MatrixError ?x_RegionError_RegionError ?x_RegionError_PileError ?x_RegionError_MatrixError ?x_PileError_RegionError ?x_PileError_PileError ?x_PileError_MatrixError ?x_MatrixError_RegionError ?x_MatrixError_PileError ?x_MatrixError_MatrixError
    (case a0 => k_is)
    (case l0 => k_is)
    (case c0 => k_is)
    (case k0 => k_is)
    (case a1 => k_is)
    (case l1 => k_is)
    (case c1 => k_is)
    (case k1 => k_is)
    (case a2 => k_is)
    (case l2 => k_is)
    (case c2 => k_is)
    (case k2 => k_is)
    (case a3 => k_is)
    (case l3 => k_is)
    (case c3 => k_is)
    (case k3 => k_is)
    (case a4 => k_is)
    (case l4 => k_is)
    (case c4 => k_is)
    (case k4 => k_is)
    (case a5 => k_is)
    (case l5 => k_is)
    (case c5 => k_is)
    (case k5 => k_is)
    (case a6 => k_is)
    (case l6 => k_is)
    (case c6 => k_is)
    (case k6 => k_is)
    (case a7 => k_is)
    (case l7 => k_is)
    (case c7 => k_is)
    (case k7 => k_is)
    (case a8 => k_is)
    (case l8 => k_is)
    (case c8 => k_is)
    (case k8 => k_is)
    (case a9 => k_is)
    (case l9 => k_is)
    (case c9 => k_is)
    (case k9 => k_is)
    (case a10 => k_is)
    (case l10 => k_is)
    (case c10 => k_is)
    (case k10 => k_is)
    (case a11 => k_is)
    (case l11 => k_is)
    (case c11 => k_is)
    (case k11 => k_is)
    (case a12 => k_is)
    (case l12 => k_is)
    (case c12 => k_is)
    (case k12 => k_is)
    (case a13 => k_is)
    (case l13 => k_is)
    (case c13 => k_is)
    (case k13 => k_is)
    (case a14 => k_is)
    (case l14 => k_is)
    (case c14 => k_is)
    (case k14 => k_is)
    (case a15 => k_is)
    (case l15 => k_is)
    (case c15 => k_is)
    (case k15 => k_is)
    (case a16 => k_is)
    (case l16 => k_is)
    (case c16 => k_is)
    (case k16 => k_is)
    (case a17 => k_is)
    (case l17 => k_is)
    (case c17 => k_is)
    (case k17 => k_is)
    (case a18 => k_is)
    (case l18 => k_is)
    (case c18 => k_is)
    (case k18 => k_is)
    (case a19 => k_is)
    (case l19 => k_is)
    (case c19 => k_is)
    (case k19 => k_is)
    (case a20 => k_is)
    (case l20 => k_is)
    (case c20 => k_is)
    (case k20 => k_is)
    (case a21 => k_is)
    (case l21 => k_is)
    (case c21 => k_is)
    (case k21 => k_is)
    (case a22 => k_is)
    (case l22 => k_is)
    (case c22 => k_is)
    (case k22 => k_is)
    (case a23 => k_is)
    (case l23 => k_is)
    (case c23 => k_is)
    (case k23 => k_is)
    (case a24 => k_is)
    (case l24 => k_is)
    (case c24 => k_is)
    (case k24 => k_is)
    (case z_len => k_is)
    (case z_range => k_is)
    (case z_sum => k_is)
    (case z_any => k_is)
    (case z_all => k_is)
    (case z_max => k_is)
    (case z_min => k_is)
    (case z_abs => k_is)
    (case z_int => k_is)
    (case z_bool => k_is)
    (case z_tuple => k_is)
    (case z_list => k_is)
    (case z_sorted => k_is)
    (case z_enumerate => k_is)
    (case z_zip => k_is)
    (case z_set => k_is)
    (case z_isinstance => k_is)
    (case z_reversed => k_is)
    (case z_str => k_is)
    (case m_MOST_regions => k_is)
    (case m_MOST_trees => k_is)
    (case m_EDGES => k_is)
    (case m_HEIGHT => k_is)
    (case m_LISTED => k_is)
    (case aC_RegionError => k_is)
    (case xL_RegionError => k_is)
    (case rf_RegionError => first | rfl | decide +kernel | k_is)
    (case sa_RegionError => k_is)
    (case eC_RegionError => k_is)
    (case tC_RegionError => k_is)
    (case kC_RegionError => k_is)
    (case nc_RegionError => k_is)
    (case np_RegionError => k_is)
    (case iI_RegionError => k_is)
    (case tI_RegionError => k_is)
    (case lI_RegionError => k_is)
    (case cI_RegionError => k_is)
    (case kI_RegionError => k_is)
    (case lT_RegionError => k_is)
    (case dT_RegionError => first | rfl | decide +kernel | k_is)
    (case ga_RegionError => k_is)
    (case gg_RegionError => k_is)
    (case hd_RegionError => k_is)
    (case ic_RegionError => k_is)
    (case aC_PileError => k_is)
    (case xL_PileError => k_is)
    (case rf_PileError => first | rfl | decide +kernel | k_is)
    (case sa_PileError => k_is)
    (case eC_PileError => k_is)
    (case tC_PileError => k_is)
    (case kC_PileError => k_is)
    (case nc_PileError => k_is)
    (case np_PileError => k_is)
    (case iI_PileError => k_is)
    (case tI_PileError => k_is)
    (case lI_PileError => k_is)
    (case cI_PileError => k_is)
    (case kI_PileError => k_is)
    (case lT_PileError => k_is)
    (case dT_PileError => first | rfl | decide +kernel | k_is)
    (case ga_PileError => k_is)
    (case gg_PileError => k_is)
    (case hd_PileError => k_is)
    (case ic_PileError => k_is)
    (case aC_MatrixError => k_is)
    (case xL_MatrixError => k_is)
    (case rf_MatrixError => first | rfl | decide +kernel | k_is)
    (case sa_MatrixError => k_is)
    (case eC_MatrixError => k_is)
    (case tC_MatrixError => k_is)
    (case kC_MatrixError => k_is)
    (case nc_MatrixError => k_is)
    (case np_MatrixError => k_is)
    (case iI_MatrixError => k_is)
    (case tI_MatrixError => k_is)
    (case lI_MatrixError => k_is)
    (case cI_MatrixError => k_is)
    (case kI_MatrixError => k_is)
    (case lT_MatrixError => k_is)
    (case dT_MatrixError => first | rfl | decide +kernel | k_is)
    (case ga_MatrixError => k_is)
    (case gg_MatrixError => k_is)
    (case hd_MatrixError => k_is)
    (case ic_MatrixError => k_is)
    (case x_RegionError_RegionError => first | rfl | k_is)
    (case x_RegionError_PileError => first | rfl | k_is)
    (case x_RegionError_MatrixError => first | rfl | k_is)
    (case x_PileError_RegionError => first | rfl | k_is)
    (case x_PileError_PileError => first | rfl | k_is)
    (case x_PileError_MatrixError => first | rfl | k_is)
    (case x_MatrixError_RegionError => first | rfl | k_is)
    (case x_MatrixError_PileError => first | rfl | k_is)
    (case x_MatrixError_MatrixError => first | rfl | k_is)
