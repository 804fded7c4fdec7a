import PyProof.Rows.All
import Wide.All
import OpenK.AllK
import Wide.FinOn
import HandS.ForMost
import HandS.ForExc
import HandS.CallSlots
import HandS.TupAny
import HandS.Deep
import PyProof.SeqIndex
import HandS.Flow
import HandS.IsInst
import HandS.Style
import HandS.TupLe
import KE.KExcSuper
import KE.KExcIs
import HandS.ExcField
import HandS.Defaults
import HandS.StrMore
import HandS.ExcIs
import HandS.OwnEq
import HandS.Property
import HandS.ClsMeth
import HandS.Codes
import PyProof.InstNe
import HandS.IterNext
import PySem.Challenge.RW_onelooker_k28_sums_of_certificates
set_option Elab.async false
set_option linter.all false
set_option maxRecDepth 100000
set_option maxHeartbeats 1000000
/-! Lay0: tuples that are laid with their object (so that it is known that they have no dict of their own). -/
namespace LL
open PySem PyProof.Rows L2
/-- a tuple laid so -/
def Tp (o : Obj) : Prop := o.cls = .type "tuple" ∧ o.dict = none
section
variable {X : Cx} {es : List Expr} {t : TA} {pos : Pos}
def tTupF (t : TA) : TE := fun σ H Q => t σ H fun xs H1 => xs.length ≤ sizeLine ∧ ∀ p o, Tp o → H1 p = none → Q (.ref p) (upd H1 p (.frz o (.tup xs)))
theorem pe_tupF {k : Nat} (h : PA X es t) : PE X (.Tuple es k pos) (tTupF t) := ⟨fun pins s σ H Q I hq => by
  refine wpAny_Tuple_spliced (L2.thn (h.run pos pins s σ H _ I hq) fun us s1 ⟨xs, H1, I1, r, z, q⟩ => ⟨by rw [← r.length]; exact z, ?_⟩)
  have hf : H1 s1.heap.objs.size = none := I1.hok.fresh (Nat.le_refl _)
  have hg := Heap.get?_push_size s1.heap (o := { cls := .type "tuple", data := .seq us.toArray }) rfl
  exact ⟨.ref s1.heap.objs.size, _, I1.laid (t' := s1.toks) (o := .frz _ (.tup xs)) (fun b u e => Heap.get?_push_of_some _ e) (Nat.le_refl _) ⟨hg, z, us, r, ⟨_, hg, rfl, _, rfl⟩⟩, rfl, q _ _ ⟨rfl, rfl⟩ hf⟩⟩
def rCatF (K : PySem.W.Frag) : R2 := fun x y H Q => ∃ a b xs ys, x = .ref a ∧ y = .ref b ∧ SqT K H a xs ∧ SqT K H b ys ∧ xs.length + ys.length ≤ sizeLine ∧
  (xs = [] → Q (.ref b) H) ∧ (xs ≠ [] → ys = [] → Q (.ref a) H) ∧ (xs ≠ [] → ys ≠ [] → ∀ p o, Tp o → H p = none → Q (.ref p) (upd H p (.frz o (.tup (xs ++ ys)))))
theorem op_catF : OpR X (binaryOp .Add) (rCatF X.K) := fun pins s σ H x y v u Q I rx ry ⟨a, b, xs, ys, ex, ey, ha, hb, hz, q0, q1, q2⟩ => by
  subst ex ey
  obtain rfl : v = .ref a := rx
  obtain rfl : u = .ref b := ry
  obtain ⟨its, r1, p1, _⟩ := I.tuple ha
  obtain ⟨its2, r2, p2, _⟩ := I.tuple hb
  by_cases hx : xs = []
  · subst hx
    cases r1
    exact cat_tup0 p1 p2 ⟨.ref b, H, I, rfl, q0 rfl⟩
  · refine HT.cat_tup p1 p2 (fun z => hx (r1.nil_iff.mp z)) (fun z => ⟨.ref a, H, I, rfl, q1 hx (r2.nil_iff.mp z)⟩) (fun z => ?_) (by rw [← r1.length, ← r2.length]; exact hz)
    have hg := Heap.get?_push_size s.heap (o := { cls := .type "tuple", data := .seq (its ++ its2).toArray }) rfl
    exact ⟨.ref s.heap.objs.size, _, I.laid (t' := s.toks) (o := .frz _ (.tup (xs ++ ys))) (fun b ob q => Heap.get?_push_of_some _ q) (Nat.le_refl _) ⟨hg, by rw [List.length_append]; exact hz, _, r1.append r2, IsTup.new _ _⟩, rfl,
      q2 hx (fun w => z (r2.nil_iff.mpr w)) _ _ ⟨rfl, rfl⟩ (I.hok.fresh (Nat.le_refl _))⟩
def rSlF (K : PySem.W.Frag) : V → Option Int → Option Int → Hp → VK → Prop := fun x lo hi H Q => ∃ a xs, x = .ref a ∧ SqT K H a xs ∧
  (HT.sIx xs.length 0 lo = 0 ∧ HT.sIx xs.length xs.length hi = xs.length → Q (.ref a) H) ∧
  (¬ (HT.sIx xs.length 0 lo = 0 ∧ HT.sIx xs.length xs.length hi = xs.length) → ∀ p o, Tp o → H p = none → Q (.ref p) (upd H p (.frz o (.tup (cutV xs lo hi)))))
theorem sl_tupF : SlR X (rSlF X.K) := fun pins s σ H x v vl vu lo hi sl Q I rx hs pl pu ⟨a, xs, ex, hx, q1, q2⟩ => by
  subst ex
  obtain rfl : v = .ref a := rx
  obtain ⟨its, r, ht, hz⟩ := I.tuple hx
  have hlen : its.toArray.size = xs.length := by
    rw [List.size_toArray]
    exact r.length.symm
  refine ⟨"tuple", _, PyProof.Rows.slot_tuple_getitem.lookup, ht.typeIs, ?_⟩
  by_cases hw : HT.sIx xs.length 0 lo = 0 ∧ HT.sIx xs.length xs.length hi = xs.length
  · exact getItem_tuple_whole ht hs pl pu (by rw [hlen]; exact hw) ⟨.ref a, H, I, rfl, q1 hw⟩
  · refine HT.getItem_tuple_cut ht hs pl pu (by rw [hlen]; exact hw) ?_ (by rw [hlen]; exact hz)
    rw [hlen]
    have hg := Heap.get?_push_size s.heap (o := { cls := .type "tuple", data := .seq ((its.toArray.toList.drop (HT.sIx xs.length 0 lo)).take (HT.sIx xs.length xs.length hi - HT.sIx xs.length 0 lo)).toArray }) rfl
    exact ⟨.ref s.heap.objs.size, _, I.laid (t' := s.toks) (o := .frz _ (.tup (cutV xs lo hi))) (fun b ob q => Heap.get?_push_of_some _ q) (Nat.le_refl _)
      ⟨hg, Nat.le_trans (cutV_length xs lo hi) hz, _, (r.drop (HT.sIx xs.length 0 lo)).take (HT.sIx xs.length xs.length hi - HT.sIx xs.length 0 lo), IsTup.new _ _⟩, rfl, q2 hw _ _ ⟨rfl, rfl⟩ (I.hok.fresh (Nat.le_refl _))⟩
theorem call_tupleF : CallR X (.type "tuple") (fun xs H Q => ∃ p ys, xs = [.ref p] ∧ ((SqL X.K H p ys ∧ ∀ l o, Tp o → H l = none → Q (.ref l) (upd H l (.frz o (.tup ys)))) ∨ SqT X.K H p ys ∧ Q (.ref p) H)) := fun pins s σ H xs us Q I r ⟨p, ys, ex, h⟩ => by
  subst ex
  obtain ⟨u, rfl, ru⟩ := vals1 r
  obtain rfl : u = .ref p := ru
  rcases h with ⟨hq, q⟩ | ⟨hq, q⟩
  · obtain ⟨its, r', pl, hz⟩ := I.list hq
    have hlen := r'.length
    refine call_tuple_list pl.isList (fun h' kp => ?_) (by simp only [List.size_toArray]; omega)
    have I1 : Inv X pins σ H { s with heap := h' } := I.kept (t' := s.toks) kp
    have hg := Heap.get?_push_size h' (o := { cls := .type "tuple", data := .seq its.toArray }) rfl
    exact ⟨.ref h'.objs.size, _, I1.laid (t' := s.toks) (o := .frz _ (.tup ys)) (fun b o e => Heap.get?_push_of_some _ e) (Nat.le_refl _) ⟨hg, hz, its, r', IsTup.new _ _⟩, rfl, q _ _ ⟨rfl, rfl⟩ (I1.hok.fresh (Nat.le_refl _))⟩
  · obtain ⟨its, _, pl, _⟩ := I.tuple hq
    exact call_tuple_same pl ⟨.ref p, H, I, rfl, q⟩
/-- a tuple whose object has no dict -/
def SqF (K : PySem.W.Frag) (H : Hp) (a : Addr) (xs : List V) : Prop :=
  (∃ o, H a = some (.frz o (.tup xs)) ∧ Tp o) ∨ ∃ (o : Obj) (its : Array Value) (n : Nat), K.lookup a = some o ∧ Tp o ∧ o.data = .seq its n ∧ its.size ≤ sizeLine ∧ Vals xs its.toList
theorem SqF.sq {K : PySem.W.Frag} {H : Hp} {a : Addr} {xs : List V} (h : SqF K H a xs) : SqT K H a xs := by
  rcases h with ⟨o, h, _⟩ | ⟨o, its, n, h1, h2, h3⟩
  · exact .inl (.inr ⟨o, h⟩)
  · exact .inr ⟨o, its, n, h1, h2.1, h3⟩
theorem SqF.is {pins : List (Addr × Obj)} {σ : L2.St} {H : Hp} {s : Shared} {a : Addr} {xs : List V} (I : Inv X pins σ H s) (h : SqF X.K H a xs) : ∃ ob, s.heap.get? a = some ob ∧ Tp ob := by
  rcases h with ⟨o, h, t⟩ | ⟨o, its, n, h1, h2, h3⟩
  · exact ⟨o, (I.hok a _ h).1, t⟩
  · exact ⟨o, I.kIn a o h1, h2⟩
/-- a method of a tuple -/
def tBMT (K : PySem.W.Frag) (r : V → List V → Hp → VK → Prop) (to : TE) (t : TA) : TE := fun σ H Q => to σ H fun x H1 => (∃ a xs, x = .ref a ∧ SqF K H1 a xs) ∧ t σ H1 fun xs H2 => r x xs H2 Q
theorem pe_bmT {o e : Expr} {to : TE} {name : Str} {apos cpos : Pos} {id : String} {r : V → List V → Hp → VK → Prop} (slot : Slot "tuple" name id) (hty : typeOf (.builtin id) = pure (.type "method_descriptor")) (hm : MtR X id r) (ho : PE X o to) (ha : PA X (e :: es) t)
    (hbase : attributeBase o name X.env (eval o X.env) = eval o X.env := by rfl)
    (hall : (((backTo cpos (starEach (e :: es) X.env)).all fun x => !x.1) && ((backToKw cpos (keywordEach [] X.env)).all fun x => x.1.isSome) && decide ((e :: es).length + ([] : List Keyword).length + (if ([] : List Keyword).isEmpty then 0 else 1) < 30)) = true := by rfl)
    (hline : (apos.endLine == cpos.line) = true := by rfl) (he : starEach (e :: es) X.env = (false, eval e X.env) :: starEach es X.env := by rfl) (hpl : (backTo cpos (starEach es X.env)).any (·.1) = false := by rfl) :
    PE X (.Call (.Attribute o name apos) (e :: es) [] cpos) (tBMT X.K r to t) := ⟨fun pins s σ H Q I h => by
  refine wpAny_Call_method_late hbase hall hline rfl (L2.thn (ho.run pins s σ H _ I h) fun v s1 ⟨x, H1, I1, r1, ⟨a, xs, ex, hx⟩, q1⟩ => ?_)
  subst ex
  obtain rfl : v = .ref a := r1
  obtain ⟨ob, hob, tc, td⟩ := SqF.is I1 hx
  refine ⟨"tuple", id, PySem.F.plainAttrs_tuple, slot, hty, ⟨ob, hob, tc⟩, fun a' ea => by cases ea; exact ⟨ob, hob, td⟩, ?_⟩
  have hA := ha.run cpos pins s1 σ H1 _ I1 q1
  rw [he] at hA ⊢
  refine Calls.callWith_builtin (by show (false || (backTo cpos (starEach es X.env)).any (·.1)) = false; rw [hpl]; rfl) (Calls.evalArgs_plain ?_)
  exact L2.thn hA fun us s2 ⟨vs, H2, I2, r2, q2⟩ => hm pins s2 σ H2 (.ref a) vs (.ref a) us Q I2 rfl r2 q2⟩
theorem readsAt {h : Heap} : ∀ {ds : List PyData} {vs : List Value} {as : List Addr}, ReadsAll h vs ds as → ∀ (j : Nat) (v : Value), vs[j]? = some v → ∃ d bs, ds[j]? = some d ∧ Reads h v d bs
  | [], vs, as, r, j, v, e => by
    cases r
    simp at e
  | d :: ds, vs, as, r, j, v, e => by
    cases r with
    | cons r1 r2 =>
      cases j with
      | zero =>
        simp at e
        subst e
        exact ⟨d, _, rfl, r1⟩
      | succ j => exact readsAt r2 j v (by simpa using e)
theorem canAt {ds : List PyData} : ∀ {j : Nat} {d : PyData}, PyData.canLayAll0 ds = true → ds[j]? = some d → d.canLay0 = true ∧ d.depth ≤ PyData.depthAll ds := by
  induction ds with
  | nil => intro j d _ e; simp at e
  | cons x xs ih =>
    intro j d c e
    have c : (x.canLay0 && PyData.canLayAll0 xs) = true := c
    rw [Bool.and_eq_true] at c
    cases j with
    | zero =>
      simp at e
      subst e
      exact ⟨c.1, Nat.le_max_left _ _⟩
    | succ j =>
      obtain ⟨h1, h2⟩ := ih c.2 (by simpa using e)
      exact ⟨h1, Nat.le_trans h2 (Nat.le_max_right _ _)⟩
/-- t.index(x), x is there: the first place of an equal one -/
def rIdxT (K : PySem.W.Frag) : V → List V → Hp → VK → Prop := fun x xs H Q => ∃ (a : Addr) (y : V) (d : PyData) (ds : List PyData), x = .ref a ∧ xs = [y] ∧ Dp K H (.ref a) (.tuple ds) ∧ Dp K H y d ∧
  SeqAt.shaped (.tuple ds) = true ∧ SeqAt.shaped d = true ∧ true ∈ ds.map (fun z => PyData.eqv z d) ∧ Q (.int ((ds.map fun z => PyData.eqv z d).idxOf true : Nat)) H
theorem mt_idxT (hu : X.A.units + 65 < cLine) : MtR X "tuple.index" (rIdxT X.K) := fun pins s σ H x xs v us Q I rx rxs ⟨a, y, d, ds, ex, exs, hl, hy, sl, sd, hin, q⟩ => by
  subst ex exs
  obtain rfl : v = .ref a := rx
  obtain ⟨uy, rfl, ry⟩ := vals1 rxs
  obtain ⟨bs, r1⟩ := Dp.reads I d y uy hy ry
  have hxs : PyData.canLayAll0 ds = true := SeqAt.canLay_of_shaped sl
  have dl := SeqAt.depth_of_shaped sd
  cases hl with
  | tup hs ha =>
    obtain ⟨its, rv, ht, hz⟩ := I.tuple hs
    obtain ⟨as, h4⟩ := Dp.readsAll I ds _ its ha rv
    have hn : its.length = ds.length := SeqAt.ReadsAll.length ds its as h4
    refine SeqAt.call_tuple_index (ks := ds.map fun z => PyData.eqv z d) (k := true) (show s.heap.IsTuple a its.toArray from ht) ⟨by rw [List.length_map]; exact hn, fun j h1 h2 => ?_⟩ hin ⟨.int _, H, I.tok _, ⟨_, rfl⟩, q⟩
    obtain ⟨dj, bj, e1, r2⟩ := readsAt h4 j its[j] (List.getElem?_eq_getElem h1)
    obtain ⟨c1, c2⟩ := canAt hxs e1
    have hj : j < ds.length := by omega
    have e2 : ds[j] = dj := by
      rw [List.getElem?_eq_getElem hj] at e1
      exact Option.some.inj e1
    have := SeqAt.eqAt_reads dj d X.A.in1 s its[j] uy bj bs r2 r1 c1 (SeqAt.canLay_of_shaped sd) (by
      have hm : min dj.depth d.depth ≤ d.depth := Nat.min_le_right _ _
      show X.A.units + 1 + min dj.depth d.depth < cLine
      omega)
    rw [List.getElem_map, e2]
    cases e3 : PyData.eqv dj d <;> (rw [e3] at this; exact this)
end
end LL

set_option Elab.async false
set_option linter.all false
set_option maxRecDepth 100000
/-! LayA: data trees, entries with an ownership flag, the relation Rep between entries and the abstract heap; results; readings. -/
namespace LL
open PySem L2

/-! ### data -/
inductive D where
  | non | bl (b : Bool) | int (i : Int) | str (x : Str) | tup (l : List D) | lst (l : List D)
  | dct (l : List (D × D)) | st (l : List D)
  /-- an instance of an own class: the class's name, its fields -/
  | obj (c : Str) (ns : List Str) (l : List D)
  /-- a list that is only read (the script, a list of the module's own) -/
  | rol (l : List D)
  /-- an error's own dict: its names, what they hold -/
  | xdd (ns : List Str) (l : List D)
  /-- a list of these values, nothing said of them -/
  | raw (ws : List V)
  deriving Inhabited

/-- a thing that can be changed in place -/
def D.mu : D → Bool
  | .lst _ => true
  | .dct _ => true
  | .st _ => true
  | .obj _ _ _ => true
  | .raw _ => true
  | _ => false

def KT (K : PySem.W.Frag) (a : Addr) (xs : List V) : Prop :=
  ∃ (o : Obj) (its : Array Value) (n : Nat), K.lookup a = some o ∧ Tp o ∧ o.data = .seq its n ∧ its.size ≤ sizeLine ∧ Vals xs its.toList
def KL (K : PySem.W.Frag) (a : Addr) (xs : List V) : Prop :=
  ∃ (o : Obj) (its : Array Value) (n : Nat), K.lookup a = some o ∧ o.cls = .type "list" ∧ o.dict = none ∧ o.data = .seq its n ∧ its.size ≤ sizeLine ∧ Vals xs its.toList
def TupAt (K : PySem.W.Frag) (H : Hp) (Z : Addr → Prop) (a : Addr) (xs : List V) : Prop := ((∃ o, H a = some (.frz o (.tup xs)) ∧ Tp o) ∧ ¬ Z a) ∨ KT K a xs
def HAt (H : Hp) (Z : Addr → Prop) (a : Addr) (o : HO) : Prop := H a = some o ∧ ¬ Z a
def LstAt (H : Hp) (Z : Addr → Prop) (a : Addr) (xs : List V) : Prop := HAt H Z a (.lst xs)
def RolAt (K : PySem.W.Frag) (H : Hp) (Z : Addr → Prop) (a : Addr) (xs : List V) : Prop := (Rd H a (.lst xs) ∧ ¬ Z a) ∨ KL K a xs
theorem TupAt.sq {K : PySem.W.Frag} {H : Hp} {Z : Addr → Prop} {a : Addr} {xs : List V} (h : TupAt K H Z a xs) : SqF K H a xs := h.elim (fun z => .inl z.1) fun z => .inr z
theorem LstAt.sq {K : PySem.W.Frag} {H : Hp} {Z : Addr → Prop} {a : Addr} {xs : List V} (h : LstAt H Z a xs) : SqL K H a xs := .inl (.inl h.1)
theorem RolAt.sq {K : PySem.W.Frag} {H : Hp} {Z : Addr → Prop} {a : Addr} {xs : List V} (h : RolAt K H Z a xs) : SqL K H a xs := h.elim (fun z => .inl z.1) fun z => .inr z

/-- the own class c of the text is at C -/
def ClsAt (K : PySem.W.Frag) (c : Str) (C : Addr) : Prop := PySem.W.nsIn K mainGlobals c = some (some (.ref C))
mutual
/-- the value v is the datum d; what can change and is owned (Z) is not in it -/
def Dat (K : PySem.W.Frag) (H : Hp) (Z : Addr → Prop) : D → V → Prop
  | .non, v => v = .non
  | .bl b, v => v = .bl b
  | .int i, v => v = .int i
  | .str x, v => v = .str x
  | .tup ds, v => ∃ a vs, v = .ref a ∧ TupAt K H Z a vs ∧ Dats K H Z ds vs
  | .lst ds, v => ∃ a vs, v = .ref a ∧ LstAt H Z a vs ∧ Dats K H Z ds vs
  | .rol ds, v => ∃ a vs, v = .ref a ∧ RolAt K H Z a vs ∧ Dats K H Z ds vs
  | .dct _, _ => False
  | .st _, _ => False
  | .obj c ns ds, v => ∃ a C dx fs, v = .ref a ∧ ClsAt K c C ∧ HAt H Z a (.ins C dx fs) ∧ fs.map (·.1) = ns ∧ Dats K H Z ds (fs.map (·.2))
  | .raw ws, v => ∃ a, v = .ref a ∧ HAt H Z a (.lst ws)
  | .xdd ns ds, v => ∃ a fs, v = .ref a ∧ HAt H Z a (.xd fs) ∧ fs.map (·.1) = ns ∧ Dats K H Z ds (fs.map (·.2))
def Dats (K : PySem.W.Frag) (H : Hp) (Z : Addr → Prop) : List D → List V → Prop
  | [], vs => vs = []
  | d :: ds, vs => ∃ v ws, vs = v :: ws ∧ Dat K H Z d v ∧ Dats K H Z ds ws
end

/-- what is not owned by Z stays -/
def Kp (Z : Addr → Prop) (H H' : Hp) : Prop := ∀ b o, H b = some o → ¬ Z b → H' b = some o

section
variable {K : PySem.W.Frag} {H H' : Hp} {Z Z' : Addr → Prop}
theorem TupAt.mono {a : Addr} {xs : List V} (hz : ∀ a, Z' a → Z a) (hk : Kp Z H H') (h : TupAt K H Z a xs) : TupAt K H' Z' a xs := by
  rcases h with ⟨⟨o, h, t⟩, n⟩ | h
  · exact .inl ⟨⟨o, hk _ _ h n, t⟩, fun z => n (hz _ z)⟩
  · exact .inr h
theorem HAt.mono {a : Addr} {o : HO} (hz : ∀ a, Z' a → Z a) (hk : Kp Z H H') (h : HAt H Z a o) : HAt H' Z' a o := ⟨hk _ _ h.1 h.2, fun z => h.2 (hz _ z)⟩
theorem RolAt.mono {a : Addr} {xs : List V} (hz : ∀ a, Z' a → Z a) (hk : Kp Z H H') (h : RolAt K H Z a xs) : RolAt K H' Z' a xs := by
  rcases h with ⟨h, n⟩ | h
  · refine .inl ⟨?_, fun z => n (hz _ z)⟩
    rcases h with h | ⟨o, h⟩
    · exact .inl (hk _ _ h n)
    · exact .inr ⟨o, hk _ _ h n⟩
  · exact .inr h
mutual
theorem Dat.conv (ht : ∀ a xs, TupAt K H Z a xs → TupAt K H' Z' a xs) (hl : ∀ a o, HAt H Z a o → HAt H' Z' a o) (hr : ∀ a xs, RolAt K H Z a xs → RolAt K H' Z' a xs) : ∀ (d : D) (v : V), Dat K H Z d v → Dat K H' Z' d v
  | .non, _, h => h
  | .bl _, _, h => h
  | .int _, _, h => h
  | .str _, _, h => h
  | .tup ds, v, h => by
    obtain ⟨a, vs, e, t, r⟩ := h
    exact ⟨a, vs, e, ht _ _ t, Dats.conv ht hl hr ds vs r⟩
  | .lst ds, v, h => by
    obtain ⟨a, vs, e, t, r⟩ := h
    exact ⟨a, vs, e, hl _ _ t, Dats.conv ht hl hr ds vs r⟩
  | .rol ds, v, h => by
    obtain ⟨a, vs, e, t, r⟩ := h
    exact ⟨a, vs, e, hr _ _ t, Dats.conv ht hl hr ds vs r⟩
  | .dct _, _, h => h.elim
  | .st _, _, h => h.elim
  | .obj c ns ds, v, h => by
    obtain ⟨a, C, dx, fs, e, k, t, n, r⟩ := h
    exact ⟨a, C, dx, fs, e, k, hl _ _ t, n, Dats.conv ht hl hr ds _ r⟩
  | .raw ws, v, h => by
    obtain ⟨a, e, t⟩ := h
    exact ⟨a, e, hl _ _ t⟩
  | .xdd ns ds, v, h => by
    obtain ⟨a, fs, e, t, n, r⟩ := h
    exact ⟨a, fs, e, hl _ _ t, n, Dats.conv ht hl hr ds _ r⟩
theorem Dats.conv (ht : ∀ a xs, TupAt K H Z a xs → TupAt K H' Z' a xs) (hl : ∀ a o, HAt H Z a o → HAt H' Z' a o) (hr : ∀ a xs, RolAt K H Z a xs → RolAt K H' Z' a xs) : ∀ (ds : List D) (vs : List V), Dats K H Z ds vs → Dats K H' Z' ds vs
  | [], _, h => h
  | d :: ds, vs, h => by
    obtain ⟨v, ws, e, h1, h2⟩ := h
    exact ⟨v, ws, e, Dat.conv ht hl hr d v h1, Dats.conv ht hl hr ds ws h2⟩
end
theorem Dat.mono (hz : ∀ a, Z' a → Z a) (hk : Kp Z H H') (d : D) (v : V) (h : Dat K H Z d v) : Dat K H' Z' d v :=
  Dat.conv (fun _ _ t => t.mono hz hk) (fun _ _ t => t.mono hz hk) (fun _ _ t => t.mono hz hk) d v h
theorem Dats.mono (hz : ∀ a, Z' a → Z a) (hk : Kp Z H H') (ds : List D) (vs : List V) (h : Dats K H Z ds vs) : Dats K H' Z' ds vs :=
  Dats.conv (fun _ _ t => t.mono hz hk) (fun _ _ t => t.mono hz hk) (fun _ _ t => t.mono hz hk) ds vs h
/-- a new address is in no datum -/
theorem TupAt.new {p : Addr} {o : HO} {a : Addr} {xs : List V} (hp : H p = none) (t : TupAt K H Z a xs) : TupAt K (upd H p o) (fun b => b = p ∨ Z b) a xs := by
  rcases t with ⟨⟨o, t, tp⟩, n⟩ | t
  · have ne : a ≠ p := ne_of_none t hp
    exact .inl ⟨⟨o, by rw [upd_ne ne]; exact t, tp⟩, fun z => z.elim ne n⟩
  · exact .inr t
theorem HAt.new {p : Addr} {o : HO} {a : Addr} {u : HO} (hp : H p = none) (t : HAt H Z a u) : HAt (upd H p o) (fun b => b = p ∨ Z b) a u := by
  have ne : a ≠ p := ne_of_none t.1 hp
  exact ⟨by rw [upd_ne ne]; exact t.1, fun z => z.elim ne t.2⟩
theorem RolAt.new {p : Addr} {o : HO} {a : Addr} {xs : List V} (hp : H p = none) (t : RolAt K H Z a xs) : RolAt K (upd H p o) (fun b => b = p ∨ Z b) a xs := by
  rcases t with ⟨t, n⟩ | t
  · have ne : a ≠ p := by
      rcases t with t | ⟨o, t⟩
      · exact ne_of_none t hp
      · exact ne_of_none t hp
    refine .inl ⟨?_, fun z => z.elim ne n⟩
    rcases t with t | ⟨o, t⟩
    · exact .inl (by rw [upd_ne ne]; exact t)
    · exact .inr ⟨o, by rw [upd_ne ne]; exact t⟩
  · exact .inr t
theorem Dats.new {p : Addr} {o : HO} (hp : H p = none) {ds : List D} {vs : List V} (h : Dats K H Z ds vs) : Dats K (upd H p o) (fun b => b = p ∨ Z b) ds vs :=
  Dats.conv (fun _ _ t => t.new hp) (fun _ _ t => t.new hp) (fun _ _ t => t.new hp) ds vs h
theorem Dat.new {p : Addr} {o : HO} (hp : H p = none) {d : D} {v : V} (h : Dat K H Z d v) : Dat K (upd H p o) (fun b => b = p ∨ Z b) d v :=
  Dat.conv (fun _ _ t => t.new hp) (fun _ _ t => t.new hp) (fun _ _ t => t.new hp) d v h
/-- an owned address is written -/
theorem Dats.wr {p : Addr} {o : HO} (hp : Z p) {ds : List D} {vs : List V} (h : Dats K H Z ds vs) : Dats K (upd H p o) Z ds vs :=
  h.mono (fun _ x => x) (fun b u e n => by rw [upd_ne (fun z => n (by rw [z]; exact hp))]; exact e)
theorem Dat.wr {p : Addr} {o : HO} (hp : Z p) {d : D} {v : V} (h : Dat K H Z d v) : Dat K (upd H p o) Z d v :=
  h.mono (fun _ x => x) (fun b u e n => by rw [upd_ne (fun z => n (by rw [z]; exact hp))]; exact e)
theorem Dats.length : ∀ {ds : List D} {vs : List V}, Dats K H Z ds vs → vs.length = ds.length
  | [], _, h => by
    obtain rfl : _ = [] := h
    rfl
  | d :: ds, vs, h => by
    obtain ⟨v, ws, rfl, _, h2⟩ := h
    rw [List.length_cons, List.length_cons, Dats.length h2]
theorem Dats.get : ∀ {ds : List D} {vs : List V} {i : Nat} {d : D}, Dats K H Z ds vs → ds[i]? = some d → ∃ v, vs[i]? = some v ∧ Dat K H Z d v
  | [], _, _, _, _, e => by simp at e
  | d :: ds, vs, 0, d', h, e => by
    obtain ⟨v, ws, rfl, h1, _⟩ := h
    have e' : d = d' := Option.some.inj e
    subst e'
    exact ⟨v, rfl, h1⟩
  | d :: ds, vs, i + 1, d', h, e => by
    obtain ⟨v, ws, rfl, _, h2⟩ := h
    exact Dats.get (i := i) h2 e
theorem Dats.getV : ∀ {ds : List D} {vs : List V} {i : Nat} {v : V}, Dats K H Z ds vs → vs[i]? = some v → ∃ d, ds[i]? = some d ∧ Dat K H Z d v
  | [], vs, _, _, h, e => by
    obtain rfl : vs = [] := h
    simp at e
  | d :: ds, vs, 0, v', h, e => by
    obtain ⟨v, ws, rfl, h1, _⟩ := h
    have e' : v = v' := Option.some.inj e
    subst e'
    exact ⟨d, rfl, h1⟩
  | d :: ds, vs, i + 1, d', h, e => by
    obtain ⟨v, ws, rfl, _, h2⟩ := h
    exact Dats.getV (i := i) h2 e
theorem Dats.append : ∀ {ds es : List D} {vs ws : List V}, Dats K H Z ds vs → Dats K H Z es ws → Dats K H Z (ds ++ es) (vs ++ ws)
  | [], es, vs, ws, h, h' => by
    obtain rfl : vs = [] := h
    exact h'
  | d :: ds, es, vs, ws, h, h' => by
    obtain ⟨v, us, rfl, h1, h2⟩ := h
    exact ⟨v, us ++ ws, rfl, h1, Dats.append h2 h'⟩
theorem Dats.one {d : D} {v : V} (h : Dat K H Z d v) : Dats K H Z [d] [v] := ⟨v, [], rfl, h, rfl⟩
theorem Dats.take : ∀ {ds : List D} {vs : List V} (n : Nat), Dats K H Z ds vs → Dats K H Z (ds.take n) (vs.take n)
  | _, _, 0, _ => by simp [Dats]
  | [], vs, n + 1, h => by
    obtain rfl : vs = [] := h
    simp [Dats]
  | d :: ds, vs, n + 1, h => by
    obtain ⟨v, ws, rfl, h1, h2⟩ := h
    exact ⟨v, ws.take n, rfl, h1, Dats.take n h2⟩
theorem Dats.drop : ∀ {ds : List D} {vs : List V} (n : Nat), Dats K H Z ds vs → Dats K H Z (ds.drop n) (vs.drop n)
  | _, _, 0, h => h
  | [], vs, n + 1, h => by
    obtain rfl : vs = [] := h
    simp [Dats]
  | d :: ds, vs, n + 1, h => by
    obtain ⟨v, ws, rfl, h1, h2⟩ := h
    exact Dats.drop n h2
theorem Dats.set : ∀ {ds : List D} {vs : List V} (n : Nat) {d : D} {v : V}, Dats K H Z ds vs → Dat K H Z d v → Dats K H Z (ds.set n d) (vs.set n v)
  | [], vs, n, d, v, h, _ => by
    obtain rfl : vs = [] := h
    simp [Dats]
  | d0 :: ds, vs, 0, d, v, h, h' => by
    obtain ⟨w, ws, rfl, h1, h2⟩ := h
    exact ⟨v, ws, rfl, h', h2⟩
  | d0 :: ds, vs, n + 1, d, v, h, h' => by
    obtain ⟨w, ws, rfl, h1, h2⟩ := h
    exact ⟨w, ws.set n v, rfl, h1, Dats.set n h2 h'⟩
theorem Dats.reverse : ∀ {ds : List D} {vs : List V}, Dats K H Z ds vs → Dats K H Z ds.reverse vs.reverse
  | [], vs, h => by
    obtain rfl : vs = [] := h
    simp [Dats]
  | d :: ds, vs, h => by
    obtain ⟨v, ws, rfl, h1, h2⟩ := h
    rw [List.reverse_cons, List.reverse_cons]
    exact (Dats.reverse h2).append (Dats.one h1)
theorem Dats.map {α : Type} {f : α → D} {g : α → V} (hfg : ∀ x, Dat K H Z (f x) (g x)) : ∀ (l : List α), Dats K H Z (l.map f) (l.map g)
  | [] => rfl
  | x :: l => ⟨g x, l.map g, rfl, hfg x, Dats.map hfg l⟩
theorem Dats.ints : ∀ {ns : List Int} {vs : List V}, Dats K H Z (ns.map D.int) vs → vs = ns.map V.int
  | [], _, h => h
  | n :: ns, vs, h => by
    obtain ⟨v, ws, rfl, h1, h2⟩ := h
    obtain rfl : v = .int n := h1
    rw [Dats.ints h2]
    rfl
theorem Dats.strs : ∀ {ns : List Str} {vs : List V}, Dats K H Z (ns.map D.str) vs → vs = ns.map V.str
  | [], _, h => h
  | n :: ns, vs, h => by
    obtain ⟨v, ws, rfl, h1, h2⟩ := h
    obtain rfl : v = .str n := h1
    rw [Dats.strs h2]
    rfl
theorem Dats.bls : ∀ {ns : List Bool} {vs : List V}, Dats K H Z (ns.map D.bl) vs → vs = ns.map V.bl
  | [], _, h => h
  | n :: ns, vs, h => by
    obtain ⟨v, ws, rfl, h1, h2⟩ := h
    obtain rfl : v = .bl n := h1
    rw [Dats.bls h2]
    rfl
end

/-! ### entries -/
abbrev En := V × D × Bool
/-- the address that an entry owns -/
def owns (e : En) : Option Addr := match e with
  | (.ref a, d, true) => if d.mu then some a else none
  | _ => none
def OwnA (L : List En) : List Addr := L.filterMap owns
/-- what a thing that can change holds -/
def Body (K : PySem.W.Frag) : D → HO → List D → List V → Prop
  | .lst ds, .lst ws, es, us => es = ds ∧ us = ws
  | .obj c ns ds, .ins C _ fs, es, us => ClsAt K c C ∧ fs.map (·.1) = ns ∧ es = ds ∧ us = fs.map (·.2)
  | .raw ws, .lst ws', es, us => ws' = ws ∧ es = [] ∧ us = []
  | _, _, _, _ => False
theorem Body.mu {K : PySem.W.Frag} {d : D} {o : HO} {es : List D} {us : List V} (h : Body K d o es us) : d.mu = true := by
  cases d <;> first | rfl | exact h.elim
theorem Body.dat {K : PySem.W.Frag} {H : Hp} {Z : Addr → Prop} {p : Addr} {d : D} {o : HO} {es : List D} {us : List V} (h : Body K d o es us) (hp : H p = some o) (n : ¬ Z p) (h2 : Dats K H Z es us) : Dat K H Z d (.ref p) := by
  cases d with
  | lst ds =>
    cases o with
    | lst ws =>
      obtain ⟨rfl, rfl⟩ := h
      exact ⟨p, _, rfl, ⟨hp, n⟩, h2⟩
    | _ => exact h.elim
  | obj c ns ds =>
    cases o with
    | ins C dx fs =>
      obtain ⟨h1, h3, rfl, rfl⟩ := h
      exact ⟨p, C, dx, fs, rfl, h1, ⟨hp, n⟩, h3, h2⟩
    | _ => exact h.elim
  | raw ws =>
    cases o with
    | lst ws' =>
      obtain ⟨rfl, rfl, rfl⟩ := h
      exact ⟨p, rfl, hp, n⟩
    | _ => exact h.elim
  | _ => exact h.elim
theorem Body.lst {K : PySem.W.Frag} {o : HO} {ds es : List D} {us : List V} (h : Body K (.lst ds) o es us) : o = .lst us ∧ es = ds := by
  cases o with
  | lst ws =>
    obtain ⟨rfl, rfl⟩ := h
    exact ⟨rfl, rfl⟩
  | _ => exact h.elim
theorem Body.obj {K : PySem.W.Frag} {o : HO} {c : Str} {ns : List Str} {ds es : List D} {us : List V} (h : Body K (.obj c ns ds) o es us) : ∃ C dx fs, o = .ins C dx fs ∧ ClsAt K c C ∧ fs.map (·.1) = ns ∧ es = ds ∧ us = fs.map (·.2) := by
  cases o with
  | ins C dx fs => exact ⟨C, dx, fs, rfl, h⟩
  | _ => exact h.elim
/-- an owned thing, its items not owned by anyone -/
def Held (K : PySem.W.Frag) (H : Hp) (Z : Addr → Prop) (d : D) (v : V) : Prop :=
  ∃ p o es us, v = .ref p ∧ H p = some o ∧ Body K d o es us ∧ Dats K H Z es us
def EnOk (K : PySem.W.Frag) (H : Hp) (Z : Addr → Prop) (e : En) : Prop :=
  if e.2.2 && e.2.1.mu then Held K H Z e.2.1 e.1 else Dat K H Z e.2.1 e.1
structure Rep (K : PySem.W.Frag) (L : List En) (H : Hp) : Prop where
  nd : (OwnA L).Nodup
  ok : ∀ e ∈ L, EnOk K H (· ∈ OwnA L) e

section
variable {K : PySem.W.Frag} {H H' : Hp} {Z Z' : Addr → Prop} {L L' : List En} {d : D} {v : V} {f : Bool}
theorem Held.mono (hz : ∀ a, Z' a → Z a) (hk : Kp Z H H') (ho : ∀ p o, v = .ref p → H p = some o → H' p = some o) (h : Held K H Z d v) : Held K H' Z' d v := by
  obtain ⟨p, o, es, us, e, h1, hb, h2⟩ := h
  exact ⟨p, o, es, us, e, ho p _ e h1, hb, Dats.mono hz hk _ _ h2⟩
theorem OwnA_append (A B : List En) : OwnA (A ++ B) = OwnA A ++ OwnA B := by unfold OwnA; rw [List.filterMap_append]
theorem OwnA_mem {a : Addr} : a ∈ OwnA L ↔ ∃ d, (V.ref a, d, true) ∈ L ∧ d.mu = true := by
  unfold OwnA
  rw [List.mem_filterMap]
  constructor
  · rintro ⟨⟨w, d, f⟩, hm, e⟩
    unfold owns at e
    split at e
    · rename_i b d' heq
      cases heq
      split at e
      · rename_i hmu
        cases e
        exact ⟨d, hm, hmu⟩
      · cases e
    · cases e
  · rintro ⟨d, hm, hmu⟩
    exact ⟨_, hm, by simp [owns, hmu]⟩
theorem OwnA_sub (h : ∀ e ∈ L', e ∈ L) {a : Addr} (ha : a ∈ OwnA L') : a ∈ OwnA L := by
  obtain ⟨d, hm, hmu⟩ := OwnA_mem.mp ha
  exact OwnA_mem.mpr ⟨d, h _ hm, hmu⟩
/-- fewer entries -/
theorem Rep.sub (R : Rep K L H) (h : ∀ e ∈ L', e ∈ L) (nd : (OwnA L').Nodup) : Rep K L' H := by
  refine ⟨nd, fun e he => ?_⟩
  have hz : ∀ a, a ∈ OwnA L' → a ∈ OwnA L := fun a ha => OwnA_sub h ha
  have q := R.ok e (h e he)
  unfold EnOk at q ⊢
  split
  · rename_i c
    rw [if_pos c] at q
    exact q.mono hz (fun _ _ x _ => x) fun _ _ _ x => x
  · rename_i c
    rw [if_neg c] at q
    exact q.mono hz (fun _ _ x _ => x)
theorem Rep.perm (R : Rep K L H) (h : L.Perm L') : Rep K L' H :=
  R.sub (fun e he => h.mem_iff.mpr he) ((h.filterMap _).nodup_iff.mp R.nd)
theorem Rep.sublist (R : Rep K L H) (h : L'.Sublist L) : Rep K L' H := R.sub (fun e he => h.subset he) ((h.filterMap _).nodup R.nd)
theorem Rep.tail {e : En} (R : Rep K (e :: L) H) : Rep K L H := R.sublist (List.sublist_cons_self _ _)
theorem Rep.right {A : List En} (R : Rep K (A ++ L) H) : Rep K L H := R.sublist (List.sublist_append_right _ _)
theorem Rep.left {A : List En} (R : Rep K (A ++ L) H) : Rep K A H := R.sublist (List.sublist_append_left _ _)

theorem owns_shr (v : V) (d : D) : owns (v, d, false) = none := by unfold owns; split <;> rename_i h <;> first | rfl | cases h
theorem OwnA_shr (v : V) (d : D) (L : List En) : OwnA ((v, d, false) :: L) = OwnA L := by
  show List.filterMap owns _ = _
  rw [List.filterMap_cons, owns_shr]
  rfl
/-- an unowned datum of what stands here -/
theorem Rep.add (R : Rep K L H) (h : Dat K H (· ∈ OwnA L) d v) : Rep K ((v, d, false) :: L) H := by
  refine ⟨by rw [OwnA_shr]; exact R.nd, fun e he => ?_⟩
  rw [OwnA_shr]
  rcases List.mem_cons.mp he with rfl | he
  · unfold EnOk
    rw [if_neg (by simp)]
    exact h
  · exact R.ok e he
theorem Rep.dat (R : Rep K L H) (h : (v, d, false) ∈ L) : Dat K H (· ∈ OwnA L) d v := by
  have q := R.ok _ h
  unfold EnOk at q
  rw [if_neg (by simp)] at q
  exact q
theorem Rep.copy (R : Rep K L H) (h : (v, d, false) ∈ L) : Rep K ((v, d, false) :: L) H := R.add (R.dat h)
/-- data that can't change need no owner -/
theorem Rep.datM (R : Rep K L H) (h : (v, d, f) ∈ L) (hm : d.mu = false) : Dat K H (· ∈ OwnA L) d v := by
  have q := R.ok _ h
  unfold EnOk at q
  rw [if_neg (by simp [hm])] at q
  exact q
theorem OwnA_own (p : Addr) {d : D} (L : List En) (hm : d.mu = true) : OwnA ((V.ref p, d, true) :: L) = p :: OwnA L := by
  show List.filterMap owns _ = _
  rw [List.filterMap_cons]
  have : owns (V.ref p, d, true) = some p := by simp [owns, hm]
  rw [this]
  rfl
/-- the owner lets go: the thing is never changed again -/
theorem Rep.freeze (R : Rep K ((v, d, true) :: L) H) : Rep K ((v, d, false) :: L) H := by
  by_cases hm : d.mu = true
  · have q := R.ok _ (List.mem_cons_self)
    unfold EnOk at q
    rw [if_pos (by simp [hm])] at q
    obtain ⟨p, o, es, us, e, h1, hb, h2⟩ := q
    have e' : v = .ref p := e
    subst e'
    have hown := OwnA_own p L hm
    have nd := R.nd
    rw [hown] at nd
    have np : p ∉ OwnA L := (List.nodup_cons.mp nd).1
    refine (R.tail).add ?_
    refine hb.dat h1 np ?_
    refine Dats.mono (fun a ha => ?_) (fun _ _ x _ => x) _ _ h2
    rw [hown]
    exact List.mem_cons_of_mem _ ha
  · have hm' : d.mu = false := by simpa using hm
    exact R.tail.add (by
      have q := R.datM (List.mem_cons_self) hm'
      have hown : OwnA ((v, d, true) :: L) = OwnA L := by
        show List.filterMap owns _ = _
        rw [List.filterMap_cons]
        have : owns (v, d, true) = none := by
          unfold owns
          split
          · rename_i h
            cases h
            simp [hm']
          · rfl
        rw [this]
        rfl
      rw [hown] at q
      exact q)
theorem Rep.cool (R : Rep K ((v, d, f) :: L) H) : Rep K ((v, d, false) :: L) H := by
  cases f with
  | true => exact R.freeze
  | false => exact R
/-- new objects that nobody owns among the entries -/
theorem Rep.keep (R : Rep K L H) (k : ∀ b o, H b = some o → H' b = some o) : Rep K L H' := by
  refine ⟨R.nd, fun e he => ?_⟩
  have q := R.ok e he
  unfold EnOk at q ⊢
  split
  · rename_i c
    rw [if_pos c] at q
    exact q.mono (fun _ x => x) (fun b o x _ => k b o x) fun _ o _ x => k _ o x
  · rename_i c
    rw [if_neg c] at q
    exact q.mono (fun _ x => x) (fun b o x _ => k b o x)
theorem upd_keep {p : Addr} {o : HO} (hp : H p = none) : ∀ b u, H b = some u → upd H p o b = some u := fun b u e => by
  rw [upd_ne (ne_of_none e hp)]
  exact e
/-- an owned address is tracked -/
theorem Rep.tracked (R : Rep K L H) {a : Addr} (h : a ∈ OwnA L) : ∃ o, H a = some o := by
  obtain ⟨d, hm, hmu⟩ := OwnA_mem.mp h
  have q := R.ok _ hm
  unfold EnOk at q
  rw [if_pos (by simp [hmu])] at q
  obtain ⟨p, o, es, us, e, h1, _⟩ := q
  cases (show V.ref a = .ref p from e)
  exact ⟨_, h1⟩
theorem OwnA_lst (p : Addr) (ds : List D) (L : List En) : OwnA ((V.ref p, D.lst ds, true) :: L) = p :: OwnA L := by
  show List.filterMap owns _ = _
  rw [List.filterMap_cons]
  rfl
theorem EnOk.conv {e : En} (hd : ∀ d v, Dat K H Z d v → Dat K H' Z' d v) (hs : ∀ ds vs, Dats K H Z ds vs → Dats K H' Z' ds vs) (ho : ∀ p o, e.1 = .ref p → owns e = some p → H p = some o → H' p = some o) (h : EnOk K H Z e) : EnOk K H' Z' e := by
  unfold EnOk at h ⊢
  split
  · rename_i c
    rw [if_pos c] at h
    obtain ⟨v, d, f⟩ := e
    have hf : f = true := by
      cases f
      · simp at c
      · rfl
    subst hf
    have hm : d.mu = true := by simpa using c
    obtain ⟨p, o, es, us, e1, h1, hb, h2⟩ := h
    have e1 : v = .ref p := e1
    subst e1
    exact ⟨p, o, es, us, rfl, ho p _ rfl (by simp [owns, hm]) h1, hb, hs _ _ h2⟩
  · rename_i c
    rw [if_neg c] at h
    exact hd _ _ h
/-- a new thing, owned -/
theorem Rep.newB (R : Rep K L H) {p : Addr} {d : D} {o : HO} {ds : List D} {ws : List V} (hp : H p = none) (hb : Body K d o ds ws) (h : Dats K H (· ∈ OwnA L) ds ws) : Rep K ((.ref p, d, true) :: L) (upd H p o) := by
  have hm := hb.mu
  have np : p ∉ OwnA L := fun z => by
    obtain ⟨o, e⟩ := R.tracked z
    rw [hp] at e
    cases e
  have hz : ∀ a, a ∈ p :: OwnA L → a = p ∨ a ∈ OwnA L := fun a z => List.mem_cons.mp z
  refine ⟨by rw [OwnA_own p L hm]; exact List.nodup_cons.mpr ⟨np, R.nd⟩, fun e he => ?_⟩
  rw [OwnA_own p L hm]
  rcases List.mem_cons.mp he with rfl | he
  · unfold EnOk
    rw [if_pos (by simp [hm])]
    exact ⟨p, o, ds, ws, rfl, upd_same, hb, (h.new hp).mono hz (fun _ _ x _ => x)⟩
  · exact (R.ok e he).conv (fun d v x => (x.new hp).mono hz (fun _ _ x _ => x)) (fun d v x => (x.new hp).mono hz (fun _ _ x _ => x)) fun q o _ _ x => upd_keep hp _ _ x
/-- a new list, owned -/
theorem Rep.newL (R : Rep K L H) {p : Addr} {ds : List D} {ws : List V} (hp : H p = none) (h : Dats K H (· ∈ OwnA L) ds ws) : Rep K ((.ref p, .lst ds, true) :: L) (upd H p (.lst ws)) := R.newB hp (show Body K (.lst ds) (.lst ws) ds ws from ⟨rfl, rfl⟩) h
/-- a new tuple -/
theorem Rep.newT (R : Rep K L H) {p : Addr} {o : Obj} {ds : List D} {ws : List V} (tp : Tp o) (hp : H p = none) (h : Dats K H (· ∈ OwnA L) ds ws) : Rep K ((.ref p, .tup ds, false) :: L) (upd H p (.frz o (.tup ws))) := by
  have np : p ∉ OwnA L := fun z => by
    obtain ⟨o, e⟩ := R.tracked z
    rw [hp] at e
    cases e
  refine (R.keep (upd_keep hp)).add ⟨p, ws, rfl, .inl ⟨⟨o, upd_same, tp⟩, np⟩, h.mono (fun _ x => x) (fun b u e _ => upd_keep hp _ _ e)⟩
/-- an owned thing is changed -/
theorem Rep.putB {p : Addr} {d d' : D} {o' : HO} {ds' : List D} {ws' : List V} (R : Rep K ((.ref p, d, true) :: L) H) (hm : d.mu = true) (hb : Body K d' o' ds' ws') (h : Dats K H (· ∈ OwnA ((.ref p, d, true) :: L)) ds' ws') : Rep K ((.ref p, d', true) :: L) (upd H p o') := by
  have hown := OwnA_own p L hm
  have hm' := hb.mu
  have nd := R.nd
  rw [hown] at nd h
  have pm : p ∈ p :: OwnA L := List.mem_cons_self
  refine ⟨by rw [OwnA_own p L hm']; exact nd, fun e he => ?_⟩
  rw [OwnA_own p L hm']
  rcases List.mem_cons.mp he with rfl | he
  · unfold EnOk
    rw [if_pos (by simp [hm'])]
    exact ⟨p, o', ds', ws', rfl, upd_same, hb, h.wr pm⟩
  · have q := R.ok e (List.mem_cons_of_mem _ he)
    rw [hown] at q
    refine q.conv (fun d v x => x.wr pm) (fun d v x => x.wr pm) fun a o e1 e2 x => ?_
    have ha : a ∈ OwnA L := List.mem_filterMap.mpr ⟨e, he, e2⟩
    have ne : a ≠ p := fun z => (List.nodup_cons.mp nd).1 (by rw [← z]; exact ha)
    rw [upd_ne ne]
    exact x
/-- an owned list is changed -/
theorem Rep.put {p : Addr} {ds ds' : List D} {ws' : List V} (R : Rep K ((.ref p, .lst ds, true) :: L) H) (h : Dats K H (· ∈ OwnA ((.ref p, .lst ds, true) :: L)) ds' ws') : Rep K ((.ref p, .lst ds', true) :: L) (upd H p (.lst ws')) := R.putB rfl (show Body K (.lst ds') (.lst ws') ds' ws' from ⟨rfl, rfl⟩) h
/-- an owned list as it stands -/
theorem Rep.own {p : V} {ds : List D} (R : Rep K L H) (h : (p, .lst ds, true) ∈ L) : ∃ a ws, p = .ref a ∧ H a = some (.lst ws) ∧ Dats K H (· ∈ OwnA L) ds ws := by
  have q := R.ok _ h
  unfold EnOk at q
  rw [if_pos (by rfl)] at q
  obtain ⟨a, o, es, us, e, h1, hb, h2⟩ := q
  obtain ⟨rfl, rfl⟩ := hb.lst
  exact ⟨a, us, e, h1, h2⟩
/-- an instance, owned or not, as it stands -/
theorem Rep.obj {p : V} {c : Str} {ns : List Str} {ds : List D} {f : Bool} (R : Rep K L H) (h : (p, .obj c ns ds, f) ∈ L) : ∃ a C dx fs, p = .ref a ∧ ClsAt K c C ∧ H a = some (.ins C dx fs) ∧ fs.map (·.1) = ns ∧ Dats K H (· ∈ OwnA L) ds (fs.map (·.2)) := by
  cases f with
  | true =>
    have q := R.ok _ h
    unfold EnOk at q
    rw [if_pos (by rfl)] at q
    obtain ⟨a, o, es, us, e, h1, hb, h2⟩ := q
    obtain ⟨C, dx, fs, rfl, h3, h4, rfl, rfl⟩ := hb.obj
    exact ⟨a, C, dx, fs, e, h3, h1, h4, h2⟩
  | false =>
    obtain ⟨a, C, dx, fs, e, h3, h1, h4, h2⟩ := R.dat h
    exact ⟨a, C, dx, fs, e, h3, h1.1, h4, h2⟩
/-- an error's dict is owned by no one -/
theorem Rep.noxd {a : Addr} {fs : List (Str × V)} (R : Rep K L H) (h : H a = some (.xd fs)) : a ∉ OwnA L := fun z => by
  obtain ⟨d, hm, hmu⟩ := OwnA_mem.mp z
  have q := R.ok _ hm
  unfold EnOk at q
  rw [if_pos (by simp [hmu])] at q
  obtain ⟨p, o, es, us, e, h1, hb, _⟩ := q
  cases e
  rw [h] at h1
  cases h1
  cases d <;> exact hb.elim
/-- a list, owned or not, as it stands -/
theorem Rep.list {p : V} {ds : List D} {f : Bool} (R : Rep K L H) (h : (p, .lst ds, f) ∈ L) : ∃ a ws, p = .ref a ∧ H a = some (.lst ws) ∧ Dats K H (· ∈ OwnA L) ds ws := by
  cases f with
  | true => exact R.own h
  | false =>
    obtain ⟨a, ws, e, h1, h2⟩ := R.dat h
    exact ⟨a, ws, e, h1.1, h2⟩
theorem Rep.rlist {p : V} {ds : List D} {f : Bool} (R : Rep K L H) (h : (p, .rol ds, f) ∈ L) : ∃ a ws, p = .ref a ∧ SqL K H a ws ∧ Dats K H (· ∈ OwnA L) ds ws := by
  obtain ⟨a, ws, e, h1, h2⟩ := R.datM h rfl
  exact ⟨a, ws, e, h1.sq, h2⟩
theorem Rep.tuple {p : V} {ds : List D} {f : Bool} (R : Rep K L H) (h : (p, .tup ds, f) ∈ L) : ∃ a ws, p = .ref a ∧ SqT K H a ws ∧ Dats K H (· ∈ OwnA L) ds ws := by
  obtain ⟨a, ws, e, h1, h2⟩ := R.datM h rfl
  exact ⟨a, ws, e, h1.sq.sq, h2⟩
theorem Rep.tupleF {p : V} {ds : List D} {f : Bool} (R : Rep K L H) (h : (p, .tup ds, f) ∈ L) : ∃ a ws, p = .ref a ∧ SqF K H a ws ∧ Dats K H (· ∈ OwnA L) ds ws := by
  obtain ⟨a, ws, e, h1, h2⟩ := R.datM h rfl
  exact ⟨a, ws, e, h1.sq, h2⟩
theorem Rep.int {p : V} {i : Int} {f : Bool} (R : Rep K L H) (h : (p, .int i, f) ∈ L) : p = .int i := R.datM h rfl
theorem Rep.str {p : V} {i : Str} {f : Bool} (R : Rep K L H) (h : (p, .str i, f) ∈ L) : p = .str i := R.datM h rfl
theorem Rep.bl {p : V} {i : Bool} {f : Bool} (R : Rep K L H) (h : (p, .bl i, f) ∈ L) : p = .bl i := R.datM h rfl
theorem Rep.non {p : V} {f : Bool} (R : Rep K L H) (h : (p, .non, f) ∈ L) : p = .non := R.datM h rfl
end

/-! ### slots -/
abbrev Rho := List (Option (D × Bool))
/-- the entries of the slots -/
def ents : St → Rho → List En
  | some v :: σ, some (d, f) :: ρ => (v, d, f) :: ents σ ρ
  | _ :: σ, _ :: ρ => ents σ ρ
  | _, _ => []
/-- each known slot has a value -/
structure Al (σ : St) (ρ : Rho) : Prop where
  len : ρ.length = σ.length
  val : ∀ (i : Nat) (x : D × Bool), ρ[i]? = some (some x) → ∃ v, σ[i]? = some (some v)
theorem ents_nil (σ : St) : ents σ [] = [] := by
  cases σ with
  | nil => rfl
  | cons a b => cases a <;> rfl
theorem ents_cons_none (o : Option V) (σ : St) (ρ : Rho) : ents (o :: σ) (none :: ρ) = ents σ ρ := by cases o <;> rfl
theorem ents_none_cons (o : Option (D × Bool)) (σ : St) (ρ : Rho) : ents (none :: σ) (o :: ρ) = ents σ ρ := by cases o <;> rfl
theorem ents_set : ∀ {σ : St} {ρ : Rho} {i : Nat} {v : V} {d : D} {f : Bool}, σ[i]? = some (some v) → i < ρ.length → (ents σ (ρ.set i (some (d, f)))).Perm ((v, d, f) :: ents σ (ρ.set i none))
  | [], ρ, i, v, d, f, h, _ => by simp at h
  | o :: σ, [], i, v, d, f, _, h => by simp at h
  | o :: σ, r :: ρ, 0, v, d, f, h, _ => by
    have e : o = some v := by simpa using h
    subst e
    show List.Perm ((v, d, f) :: ents σ ρ) ((v, d, f) :: ents (some v :: σ) (none :: ρ))
    rw [ents_cons_none]
  | o :: σ, r :: ρ, i + 1, v, d, f, h, hl => by
    have ih := ents_set (σ := σ) (ρ := ρ) (i := i) (v := v) (d := d) (f := f) (by simpa using h) (by simpa using hl)
    cases o with
    | none =>
      show (ents (none :: σ) (r :: ρ.set i (some (d, f)))).Perm ((v, d, f) :: ents (none :: σ) (r :: ρ.set i none))
      rw [ents_none_cons, ents_none_cons]
      exact ih
    | some w =>
      cases r with
      | none =>
        show (ents (some w :: σ) (none :: ρ.set i (some (d, f)))).Perm ((v, d, f) :: ents (some w :: σ) (none :: ρ.set i none))
        rw [ents_cons_none, ents_cons_none]
        exact ih
      | some x =>
        obtain ⟨xd, xf⟩ := x
        show ((w, xd, xf) :: ents σ (ρ.set i (some (d, f)))).Perm ((v, d, f) :: (w, xd, xf) :: ents σ (ρ.set i none))
        exact (ih.cons _).trans (.swap _ _ _)
theorem set_get {α : Type} : ∀ {l : List α} {i : Nat} {x : α}, l[i]? = some x → l.set i x = l
  | [], _, _, h => by simp at h
  | y :: l, 0, x, h => by
    have e : y = x := by simpa using h
    subst e
    rfl
  | y :: l, i + 1, x, h => by
    show y :: l.set i x = y :: l
    rw [set_get (by simpa using h)]
theorem ents_get {σ : St} {ρ : Rho} {i : Nat} {v : V} {d : D} {f : Bool} (h : σ[i]? = some (some v)) (hr : ρ[i]? = some (some (d, f))) : (ents σ ρ).Perm ((v, d, f) :: ents σ (ρ.set i none)) := by
  have q := ents_set (d := d) (f := f) h (show i < ρ.length from (List.getElem?_eq_some_iff.mp hr).1)
  rw [set_get hr] at q
  exact q
theorem ents_mem {σ : St} {ρ : Rho} {i : Nat} {v : V} {d : D} {f : Bool} (h : σ[i]? = some (some v)) (hr : ρ[i]? = some (some (d, f))) : (v, d, f) ∈ ents σ ρ :=
  (ents_get h hr).mem_iff.mpr List.mem_cons_self
/-- a slot's value does not matter where nothing is known of it -/
theorem ents_val : ∀ {σ : St} {ρ : Rho} {i : Nat} {o : Option V}, ρ[i]? = some none → ents (σ.set i o) ρ = ents σ ρ
  | [], ρ, i, o, _ => rfl
  | x :: σ, [], i, o, h => by simp at h
  | x :: σ, r :: ρ, 0, o, h => by
    have e : r = none := by simpa using h
    subst e
    show ents (o :: σ) (none :: ρ) = ents (x :: σ) (none :: ρ)
    rw [ents_cons_none, ents_cons_none]
  | x :: σ, r :: ρ, i + 1, o, h => by
    have ih := ents_val (σ := σ) (ρ := ρ) (i := i) (o := o) (by simpa using h)
    show ents (x :: σ.set i o) (r :: ρ) = ents (x :: σ) (r :: ρ)
    cases x with
    | none => rw [ents_none_cons, ents_none_cons, ih]
    | some w =>
      cases r with
      | none => rw [ents_cons_none, ents_cons_none, ih]
      | some y =>
        obtain ⟨a, b⟩ := y
        show (w, a, b) :: ents (σ.set i o) ρ = (w, a, b) :: ents σ ρ
        rw [ih]
theorem ents_put {σ : St} {ρ : Rho} {i : Nat} {v : V} {d : D} {f : Bool} (hs : i < σ.length) (hl : i < ρ.length) :
    (ents (σ.set i (some v)) (ρ.set i (some (d, f)))).Perm ((v, d, f) :: ents σ (ρ.set i none)) := by
  have q := ents_set (σ := σ.set i (some v)) (ρ := ρ) (d := d) (f := f) (v := v) (by rw [List.getElem?_set_self hs]) hl
  have e := ents_val (σ := σ) (ρ := ρ.set i none) (i := i) (o := some v) (by rw [List.getElem?_set_self hl])
  rw [e] at q
  exact q
/-- forgetting a slot -/
theorem ents_drop : ∀ (σ : St) (ρ : Rho) (i : Nat), (ents σ (ρ.set i none)).Sublist (ents σ ρ)
  | [], ρ, i => by
    have : ∀ ρ : Rho, ents [] ρ = [] := fun ρ => by cases ρ <;> rfl
    rw [this, this]
    exact List.nil_sublist _
  | x :: σ, [], i => by
    show (ents (x :: σ) []).Sublist (ents (x :: σ) [])
    exact List.Sublist.refl _
  | x :: σ, r :: ρ, 0 => by
    show (ents (x :: σ) (none :: ρ)).Sublist _
    rw [ents_cons_none]
    cases x with
    | none => rw [ents_none_cons]; exact List.Sublist.refl _
    | some w =>
      cases r with
      | none => rw [ents_cons_none]; exact List.Sublist.refl _
      | some y => exact List.sublist_cons_self _ _
  | x :: σ, r :: ρ, i + 1 => by
    have ih := ents_drop σ ρ i
    show (ents (x :: σ) (r :: ρ.set i none)).Sublist _
    cases x with
    | none => rw [ents_none_cons, ents_none_cons]; exact ih
    | some w =>
      cases r with
      | none => rw [ents_cons_none, ents_cons_none]; exact ih
      | some y => exact ih.cons_cons _
section
variable {σ : St} {ρ : Rho}
theorem Al.set (A : Al σ ρ) {i : Nat} {x : D × Bool} (h : ∃ v, σ[i]? = some (some v)) : Al σ (ρ.set i (some x)) := by
  refine ⟨by rw [List.length_set]; exact A.len, fun j y e => ?_⟩
  by_cases hj : i = j
  · subst hj
    exact h
  · rw [List.getElem?_set_ne hj] at e
    exact A.val j y e
theorem Al.forget (A : Al σ ρ) (i : Nat) : Al σ (ρ.set i none) := by
  refine ⟨by rw [List.length_set]; exact A.len, fun j y e => ?_⟩
  by_cases hj : i = j
  · subst hj
    by_cases hl : i < ρ.length
    · rw [List.getElem?_set_self hl] at e
      cases e
    · rw [List.getElem?_eq_none (by rw [List.length_set]; omega)] at e
      cases e
  · rw [List.getElem?_set_ne hj] at e
    exact A.val j y e
theorem Al.put (A : Al σ ρ) {i : Nat} {v : V} {x : D × Bool} (hi : i < ρ.length) : Al (σ.set i (some v)) (ρ.set i (some x)) := by
  refine ⟨by rw [List.length_set, List.length_set]; exact A.len, fun j y e => ?_⟩
  by_cases hj : i = j
  · subst hj
    exact ⟨v, by rw [List.getElem?_set_self (by rw [← A.len]; exact hi)]⟩
  · rw [List.getElem?_set_ne hj] at e ⊢
    exact A.val j y e
end
end LL

set_option Elab.async false
set_option linter.all false
set_option maxRecDepth 100000
/-! LayB: results, readings, names, constants, operators, tests, argument lists, displays. -/
namespace LL
open PySem L2

/-- an operand: a temporary, or what stands in a slot -/
inductive O where
  | tmp (d : D) (f : Bool) | slt (i : Nat)
/-- an exception: its class by its name in the module, its fields -/
abbrev XD := Str × List (Str × D)
inductive Res (α : Type) where
  | ok (a : α) (ρ : Rho) | ex (x : XD) (ρ : Rho) | stuck
def Res.bind {α β : Type} (r : Res α) (k : α → Rho → Res β) : Res β := match r with
  | .ok a ρ => k a ρ
  | .ex x ρ => .ex x ρ
  | .stuck => .stuck
def opt {α β : Type} (o : Option α) (k : α → Res β) : Res β := match o with
  | some a => k a
  | none => .stuck
abbrev EE := Rho → Res O
abbrev EA := Rho → Res (List O)
abbrev ET := Rho → Res Bool
/-- what is known of a slot -/
def at_ (ρ : Rho) (i : Nat) : Option (D × Bool) := match ρ[i]? with
  | some (some x) => some x
  | _ => none
def look (ρ : Rho) : O → Option D
  | .tmp d _ => some d
  | .slt i => (at_ ρ i).map (·.1)
def looks (ρ : Rho) : List O → Option (List D)
  | [] => some []
  | o :: os => match look ρ o with
    | none => none
    | some d => match looks ρ os with
      | none => none
      | some ds => some (d :: ds)
/-- the values have these data among the entries -/
def Sees (T : List En) : List V → List D → Prop
  | [], [] => True
  | v :: vs, d :: ds => (∃ f, (v, d, f) ∈ T) ∧ Sees T vs ds
  | _, _ => False
theorem at_some {ρ : Rho} {i : Nat} {x : D × Bool} (h : at_ ρ i = some x) : ρ[i]? = some (some x) := by
  unfold at_ at h
  split at h
  · rename_i y e
    rw [e]
    exact congrArg _ h
  · cases h

/-- the wish of what is raised; entries that are kept, slots that are kept -/
structure WF where
  w : WX
  F : List En
  S : List (Nat × V)
abbrev WF.of (w : WX) : WF := ⟨w, [], []⟩
/-- what is kept stands -/
structure WF.C (W : WF) (σ : St) (L : List En) : Prop where
  fr : ∀ e ∈ W.F, e ∈ L
  st : ∀ x ∈ W.S, σ[x.1]? = some (some x.2)
theorem WF.C.up {W : WF} {σ : St} {L : List En} (c : W.C σ L) (E : List En) : W.C σ (E ++ L) := ⟨fun e he => List.mem_append_right _ (c.fr e he), c.st⟩
theorem WF.C.zero {w : WX} {σ : St} {L : List En} : (WF.of w).C σ L := ⟨(fun _ h => nomatch h), (fun _ h => nomatch h)⟩
structure Here (K : PySem.W.Frag) (σ : St) (ρ : Rho) (L : List En) (H : Hp) : Prop where
  al : Al σ ρ
  rep : Rep K (ents σ ρ ++ L) H
def oen (v : V) : O → List En
  | .tmp d f => [(v, d, f)]
  | .slt _ => []
def OIs (σ : St) (v : V) : O → Prop
  | .tmp _ _ => True
  | .slt i => σ[i]? = some (some v)
def oens : List V → List O → List En
  | v :: vs, o :: os => oen v o ++ oens vs os
  | _, _ => []
def OIss (σ : St) : List V → List O → Prop
  | [], [] => True
  | v :: vs, o :: os => OIs σ v o ∧ OIss σ vs os
  | _, _ => False
/-- the exception x as it lies: its class, its own dict -/
def XIs (K : PySem.W.Frag) (mg : Str → Option Value) (x : XD) (cls : Value) (dd : Option Addr) (H : Hp) (Z : Addr → Prop) : Prop :=
  ∃ C : Addr, mg x.1 = some (.ref C) ∧ cls = .ref C ∧ ((x.2 = [] ∧ dd = none) ∨ ∃ (d : Addr) (fs : List (Str × V)), dd = some d ∧ H d = some (.xd fs) ∧ fs.map (·.1) = x.2.map (·.1) ∧ Dats K H Z (x.2.map (·.2)) (fs.map (·.2)))

section
variable {K : PySem.W.Frag} {mg : Str → Option Value} {W : WF} {σ : St} {ρ : Rho} {L E : List En} {H : Hp}
theorem Here.drop (h : Here K σ ρ (E ++ L) H) : Here K σ ρ L H :=
  ⟨h.al, h.rep.sublist (List.Sublist.append (List.Sublist.refl _) (List.sublist_append_right _ _))⟩
theorem Here.sub {L' : List En} (h : Here K σ ρ L H) (s : L'.Sublist L) : Here K σ ρ L' H :=
  ⟨h.al, h.rep.sublist (List.Sublist.append (List.Sublist.refl _) s)⟩
theorem Here.perm {L' : List En} (h : Here K σ ρ L H) (s : L.Perm L') : Here K σ ρ L' H :=
  ⟨h.al, h.rep.perm (List.Perm.append (List.Perm.refl _) s)⟩
theorem XIs.mono {x : XD} {cls : Value} {dd : Option Addr} {Z Z' : Addr → Prop} (h : XIs K mg x cls dd H Z) (hz : ∀ a, Z' a → Z a) : XIs K mg x cls dd H Z' := by
  obtain ⟨C, e1, e2, h⟩ := h
  refine ⟨C, e1, e2, ?_⟩
  rcases h with h | ⟨d, fs, h1, h2, h3, h4⟩
  · exact .inl h
  · exact .inr ⟨d, fs, h1, h2, h3, h4.mono hz (fun _ _ x _ => x)⟩

/-- what a result promises -/
def Pst {α β : Type} (en : α → β → List En) (co : St → α → β → Prop) (K : PySem.W.Frag) (mg : Str → Option Value) (W : WF) (σ : St) (L : List En) (r : Res α) (Q : β → Hp → Prop) : Prop := match r with
  | .ok a ρ => ∀ b H, Here K σ ρ (en a b ++ L) H → co σ a b → Q b H
  | .ex x ρ => ∀ cls dd H, Here K σ ρ L H → XIs K mg x cls dd H (· ∈ OwnA (ents σ ρ ++ L)) → W.w cls dd σ H
  | .stuck => False
def rd {α β : Type} (en : α → β → List En) (co : St → α → β → Prop) (K : PySem.W.Frag) (mg : Str → Option Value) (W : WF) (m : Rho → Res α) : St → Hp → (β → Hp → Prop) → Prop :=
  fun σ H Q => ∃ ρ L, W.C σ L ∧ Here K σ ρ L H ∧ Pst en co K mg W σ L (m ρ) Q
/-- one step, then what follows -/
theorem thn {α β γ δ : Type} {en : α → β → List En} {co : St → α → β → Prop} {en' : γ → δ → List En} {co' : St → γ → δ → Prop} {ma : Rho → Res α} {k : α → Rho → Res γ} {Q : δ → Hp → Prop} {R : β → Hp → Prop}
    (cc : W.C σ L) (E : List En) (hh : Here K σ ρ (E ++ L) H) (h : Pst en' co' K mg W σ L ((ma ρ).bind k) Q)
    (hR : ∀ a b ρ1 H1, Here K σ ρ1 (en a b ++ (E ++ L)) H1 → co σ a b → Pst en' co' K mg W σ L (k a ρ1) Q → R b H1) : rd en co K mg W ma σ H R := by
  refine ⟨ρ, E ++ L, cc.up E, hh, ?_⟩
  cases e : ma ρ with
  | ok a ρ1 =>
    rw [e] at h
    exact fun b H1 h1 c => hR a b ρ1 H1 h1 c h
  | ex x ρ1 =>
    rw [e] at h
    intro cls dd H1 h1 hx
    refine h cls dd H1 h1.drop (hx.mono fun a ha => ?_)
    rw [OwnA_append] at ha ⊢
    rcases List.mem_append.mp ha with z | z
    · exact List.mem_append_left _ z
    · rw [OwnA_append]
      exact List.mem_append_right _ (List.mem_append_right _ z)
  | stuck =>
    rw [e] at h
    exact h.elim
/-- the last step -/
theorem thn1 {α β : Type} {en : α → β → List En} {co : St → α → β → Prop} {ma : Rho → Res α} {Q : β → Hp → Prop}
    (cc : W.C σ L) (E : List En) (hh : Here K σ ρ (E ++ L) H) (h : Pst en co K mg W σ L (ma ρ) Q) : rd en co K mg W ma σ H Q := by
  refine ⟨ρ, E ++ L, cc.up E, hh, ?_⟩
  cases e : ma ρ with
  | ok a ρ1 =>
    rw [e] at h
    intro b H1 h1 c
    refine h b H1 (h1.sub ?_) c
    exact List.Sublist.append (List.Sublist.refl _) (List.sublist_append_right _ _)
  | ex x ρ1 =>
    rw [e] at h
    intro cls dd H1 h1 hx
    refine h cls dd H1 h1.drop (hx.mono fun a ha => ?_)
    rw [OwnA_append] at ha ⊢
    rcases List.mem_append.mp ha with z | z
    · exact List.mem_append_left _ z
    · rw [OwnA_append]
      exact List.mem_append_right _ (List.mem_append_right _ z)
  | stuck =>
    rw [e] at h
    exact h.elim
theorem Pst.opt {α β γ : Type} {en : α → β → List En} {co : St → α → β → Prop} {o : Option γ} {k : γ → Res α} {Q : β → Hp → Prop} (h : Pst en co K mg W σ L (opt o k) Q) : ∃ x, o = some x ∧ Pst en co K mg W σ L (k x) Q := by
  cases o with
  | none => exact h.elim
  | some x => exact ⟨x, rfl, h⟩
abbrev rE (K : PySem.W.Frag) (mg : Str → Option Value) (W : WF) (m : EE) : TE := rd (fun o v => oen v o) (fun σ o v => OIs σ v o) K mg W m
abbrev rA (K : PySem.W.Frag) (mg : Str → Option Value) (W : WF) (m : EA) : TA := rd (fun o v => oens v o) (fun σ o v => OIss σ v o) K mg W m
abbrev rT (K : PySem.W.Frag) (mg : Str → Option Value) (W : WF) (m : ET) : TT := rd (fun _ _ => []) (fun _ a b => a = b) K mg W m
abbrev PstE (K : PySem.W.Frag) (mg : Str → Option Value) (W : WF) (σ : St) (L : List En) (r : Res O) (Q : VK) : Prop := Pst (fun o v => oen v o) (fun σ o v => OIs σ v o) K mg W σ L r Q
abbrev PstT (K : PySem.W.Frag) (mg : Str → Option Value) (W : WF) (σ : St) (L : List En) (r : Res Bool) (Q : Bool → Hp → Prop) : Prop := Pst (fun _ _ => []) (fun _ a b => a = b) K mg W σ L r Q
/-- an operand's datum among the entries -/
theorem look_mem {T : List En} {o : O} {v : V} {d : D} (h : OIs σ v o) (hl : look ρ o = some d) (h1 : ∀ e ∈ oen v o, e ∈ T) (h2 : ∀ e ∈ ents σ ρ, e ∈ T) : ∃ f, (v, d, f) ∈ T := by
  cases o with
  | tmp d' f =>
    cases hl
    exact ⟨f, h1 _ (by simp [oen])⟩
  | slt i =>
    have hl : (at_ ρ i).map (·.1) = some d := hl
    cases e : at_ ρ i with
    | none => rw [e] at hl; cases hl
    | some x =>
      rw [e] at hl
      obtain ⟨d', f⟩ := x
      cases hl
      exact ⟨f, h2 _ (ents_mem h (at_some e))⟩
theorem looks_mem {T : List En} : ∀ {os : List O} {vs : List V} {ds : List D}, OIss σ vs os → looks ρ os = some ds → (∀ e ∈ oens vs os, e ∈ T) → (∀ e ∈ ents σ ρ, e ∈ T) → Sees T vs ds
  | [], [], ds, _, h, _, _ => by
    cases h
    trivial
  | [], v :: vs, ds, c, h, _, _ => c.elim
  | o :: os, [], ds, c, h, _, _ => c.elim
  | o :: os, v :: vs, ds, c, h, h1, h2 => by
    unfold looks at h
    cases e : look ρ o with
    | none => rw [e] at h; cases h
    | some d =>
      cases e2 : looks ρ os with
      | none => rw [e, e2] at h; cases h
      | some ds' =>
        rw [e, e2] at h
        cases h
        exact ⟨look_mem c.1 e (fun e he => h1 e (List.mem_append_left _ he)) h2, looks_mem c.2 e2 (fun e he => h1 e (List.mem_append_right _ he)) h2⟩
end

/-! ### judgements -/
theorem PE.imp {X : Cx} {e : Expr} {t t' : TE} (h : PE X e t) (k : ∀ σ H Q, t' σ H Q → t σ H Q) : PE X e t' := ⟨fun pins s σ H Q I q => h.run pins s σ H Q I (k σ H Q q)⟩
theorem PT.imp {X : Cx} {e : Expr} {t t' : TT} (h : PT X e t) (k : ∀ σ H Q, t' σ H Q → t σ H Q) : PT X e t' := ⟨fun pins s σ H Q I q => h.run pins s σ H Q I (k σ H Q q)⟩
theorem PW.imp {X : Cx} {e : Expr} {t t' : TT} (h : PW X e t) (k : ∀ σ H Q, t' σ H Q → t σ H Q) : PW X e t' := ⟨fun wh pins s σ H Q I q => h.run wh pins s σ H Q I (k σ H Q q)⟩
theorem PA.imp {X : Cx} {e : List Expr} {t t' : TA} (h : PA X e t) (k : ∀ σ H Q, t' σ H Q → t σ H Q) : PA X e t' := ⟨fun p pins s σ H Q I q => h.run p pins s σ H Q I (k σ H Q q)⟩
theorem PS.imp {X : Cx} {e : Stmt} {t t' : TS} (h : PS X e t) (k : ∀ D σ H, t' D σ H → t D σ H) : PS X e t' := ⟨fun pins s σ H D I q => h.run pins s σ H D I (k D σ H q)⟩
theorem PSs.imp {X : Cx} {e : List Stmt} {t t' : TS} (h : PSs X e t) (k : ∀ D σ H, t' D σ H → t D σ H) : PSs X e t' := ⟨fun pins s σ H D I q => h.run pins s σ H D I (k D σ H q)⟩
def SE (X : Cx) (W : WF) (e : Expr) (m : EE) : Prop := PE X e (rE X.K X.mg W m)
def SA (X : Cx) (W : WF) (e : List Expr) (m : EA) : Prop := PA X e (rA X.K X.mg W m)
def ST (X : Cx) (W : WF) (e : Expr) (m : ET) : Prop := PT X e (rT X.K X.mg W m)
def SW (X : Cx) (W : WF) (e : Expr) (m : ET) : Prop := PW X e (rT X.K X.mg W m)

section
variable {X : Cx} {W : WF} {e a b c : Expr} {es : List Expr} {m ma mb mc : EE} {ms : EA} {pos p2 : Pos}
/-! ### names, constants -/
def mVar (i : Nat) : EE := fun ρ => opt (at_ ρ i) fun _ => .ok (.slt i) ρ
theorem se_var (i : Nat) (h : PE X e (tVar i)) : SE X W e (mVar i) := PE.imp h fun σ H Q ⟨ρ, L, cc, hh, h⟩ => by
  obtain ⟨x, e1, h⟩ := Pst.opt h
  obtain ⟨v, hv⟩ := hh.al.val i x (at_some e1)
  exact ⟨v, hv, h v H hh hv⟩
def mC (d : D) : EE := fun ρ => .ok (.tmp d false) ρ
theorem here_scal {K : PySem.W.Frag} {σ : St} {ρ : Rho} {L : List En} {H : Hp} {d : D} {v : V} (hh : Here K σ ρ L H) (h : ∀ Z, Dat K H Z d v) : Here K σ ρ ([(v, d, false)] ++ L) H :=
  ⟨hh.al, (hh.rep.add (h _)).perm (List.perm_middle.symm)⟩
theorem se_int {i : Int} {k : Nat} : SE X W (.Constant (.int i) k pos) (mC (.int i)) := PE.imp pe_int fun σ H Q ⟨ρ, L, cc, hh, h⟩ => h (.int i) H (here_scal hh fun _ => rfl) trivial
theorem se_bl {i : Bool} {k : Nat} : SE X W (.Constant (.bool i) k pos) (mC (.bl i)) := PE.imp pe_bl fun σ H Q ⟨ρ, L, cc, hh, h⟩ => h (.bl i) H (here_scal hh fun _ => rfl) trivial
theorem se_str {i : Str} {k : Nat} : SE X W (.Constant (.str i) k pos) (mC (.str i)) := PE.imp pe_str fun σ H Q ⟨ρ, L, cc, hh, h⟩ => h (.str i) H (here_scal hh fun _ => rfl) trivial
theorem se_non {k : Nat} : SE X W (.Constant .none k pos) (mC .non) := PE.imp pe_non fun σ H Q ⟨ρ, L, cc, hh, h⟩ => h .non H (here_scal hh fun _ => rfl) trivial
/-- a constant of the module -/
def Scal (d : D) (v : V) : Prop := match d with
  | .int i => v = .int i
  | .str i => v = .str i
  | .bl i => v = .bl i
  | .non => v = .non
  | _ => False
theorem Scal.dat {K : PySem.W.Frag} {H : Hp} {Z : Addr → Prop} {d : D} {v : V} (h : Scal d v) : Dat K H Z d v := by
  cases d <;> first | exact h | exact h.elim
theorem se_glob {d : D} {v : V} (s : Scal d v) (h : PE X e (tC v)) : SE X W e (mC d) := PE.imp h fun σ H Q ⟨ρ, L, cc, hh, h⟩ => h v H (here_scal hh fun _ => s.dat) trivial
theorem se_globK {d : D} {v : V} (s : ∀ H Z, Dat X.K H Z d v) (h : PE X e (tC v)) : SE X W e (mC d) := PE.imp h fun σ H Q ⟨ρ, L, cc, hh, h⟩ => h v H (here_scal hh fun _ => s _ _) trivial

/-! ### the operand leaves its slot for good: it is never changed again -/
def cool (o : O) (ρ : Rho) : Res O := match o with
  | .tmp d f => .ok (.tmp d f) ρ
  | .slt i => opt (at_ ρ i) fun x => .ok (.tmp x.1 false) (ρ.set i (some (x.1, false)))
def mEsc (m : EE) : EE := fun ρ => (m ρ).bind cool
theorem here_cool {K : PySem.W.Frag} {σ : St} {ρ : Rho} {L : List En} {H : Hp} {v : V} {i : Nat} {d : D} {f : Bool} (hh : Here K σ ρ L H) (hv : σ[i]? = some (some v)) (hr : ρ[i]? = some (some (d, f))) : Here K σ (ρ.set i (some (d, false))) ([(v, d, false)] ++ L) H := by
  have hl : i < ρ.length := (List.getElem?_eq_some_iff.mp hr).1
  refine ⟨hh.al.set ⟨v, hv⟩, ?_⟩
  have r1 := hh.rep.perm ((ents_get hv hr).append_right L)
  have r2 : Rep K ((v, d, false) :: (ents σ (ρ.set i none) ++ L)) H := Rep.cool r1
  have r3 := r2.copy List.mem_cons_self
  refine r3.perm ?_
  refine List.Perm.trans ?_ (List.perm_middle.symm)
  refine List.Perm.cons _ ?_
  exact ((ents_set (d := d) (f := false) hv hl).append_right L).symm
theorem se_esc (h : SE X W e m) : SE X W e (mEsc m) := PE.imp h fun σ H Q ⟨ρ, L, cc, hh, h⟩ =>
  thn cc [] hh h fun o v ρ1 H1 h1 c1 q => by
    cases o with
    | tmp d f => exact q v H1 h1 trivial
    | slt i =>
      obtain ⟨x, e1, q⟩ := Pst.opt (show Pst _ _ _ _ _ _ _ (opt (at_ ρ1 i) _) _ from q)
      exact q v H1 (here_cool h1 c1 (at_some e1)) trivial

/-! ### operators by data -/
def OpS (X : Cx) (f : Value → Value → Sem Value) (g : D → D → Option (D × Bool)) : Prop :=
  ∃ r, OpR X f r ∧ ∀ (H : Hp) (L : List En) (x y : V) (dx dy : D) (fx fy : Bool) (d : D) (fl : Bool) (Q : VK), Rep X.K L H → (x, dx, fx) ∈ L → (y, dy, fy) ∈ L → g dx dy = some (d, fl) →
    (∀ v H', Rep X.K ((v, d, fl) :: L) H' → Q v H') → r x y H Q
def UnS (X : Cx) (f : Value → Sem Value) (g : D → Option (D × Bool)) : Prop :=
  ∃ r, UnR X f r ∧ ∀ (H : Hp) (L : List En) (x : V) (dx : D) (fx : Bool) (d : D) (fl : Bool) (Q : VK), Rep X.K L H → (x, dx, fx) ∈ L → g dx = some (d, fl) →
    (∀ v H', Rep X.K ((v, d, fl) :: L) H' → Q v H') → r x H Q
def CallS (X : Cx) (f : Value) (g : List D → Option (D × Bool)) : Prop :=
  ∃ r, CallR X f r ∧ ∀ (H : Hp) (L : List En) (xs : List V) (ds : List D) (d : D) (fl : Bool) (Q : VK), Rep X.K L H → Sees L xs ds → g ds = some (d, fl) →
    (∀ v H', Rep X.K ((v, d, fl) :: L) H' → Q v H') → r xs H Q
theorem OpR.or {f : Value → Value → Sem Value} {r r' : R2} (h : OpR X f r) (h' : OpR X f r') : OpR X f (fun x y H Q => r x y H Q ∨ r' x y H Q) := by
  intro pins s σ H x y v u Q I rx ry q
  rcases q with q | q
  · exact h pins s σ H x y v u Q I rx ry q
  · exact h' pins s σ H x y v u Q I rx ry q
theorem CallR.or {f : Value} {r r' : List V → Hp → VK → Prop} (h : CallR X f r) (h' : CallR X f r') : CallR X f (fun x H Q => r x H Q ∨ r' x H Q) := by
  intro pins s σ H x v Q I rx q
  rcases q with q | q
  · exact h pins s σ H x v Q I rx q
  · exact h' pins s σ H x v Q I rx q
def mBin (g : D → D → Option (D × Bool)) (ma mb : EE) : EE := fun ρ => (ma ρ).bind fun o1 ρ1 => (mb ρ1).bind fun o2 ρ2 =>
  opt (look ρ2 o1) fun d1 => opt (look ρ2 o2) fun d2 => opt (g d1 d2) fun x => .ok (.tmp x.1 x.2) ρ2
/-- two operands, a result -/
theorem op_fin {K : PySem.W.Frag} {mg : Str → Option Value} {σ : St} {ρ : Rho} {L E : List En} {H : Hp} {d : D} {fl : Bool} {Q : VK} (hh : Here K σ ρ (E ++ L) H) (q : PstE K mg W σ L (.ok (.tmp d fl) ρ) Q) :
    ∀ v H', Rep K ((v, d, fl) :: (ents σ ρ ++ (E ++ L))) H' → Q v H' := fun v H' R => by
  refine q v H' ⟨hh.al, ?_⟩ trivial
  refine (R.perm (List.perm_middle.symm)).sublist ?_
  refine List.Sublist.append (List.Sublist.refl _) ?_
  exact List.Sublist.cons_cons _ (List.sublist_append_right _ _)
theorem se_bin {op : Operator} {g : D → D → Option (D × Bool)} (ho : OpS X (binaryOp op) g) (ha : SE X W a ma) (hb : SE X W b mb) : SE X W (.BinOp a op b pos) (mBin g ma mb) := by
  obtain ⟨r, hr, hs⟩ := ho
  refine PE.imp (pe_op hr ha hb) fun σ H Q ⟨ρ, L, cc, hh, h⟩ => ?_
  refine thn cc [] hh h fun o1 x ρ1 H1 h1 c1 q => ?_
  refine thn cc (oen x o1) h1 q fun o2 y ρ2 H2 h2 c2 q => ?_
  obtain ⟨d1, e1, q⟩ := Pst.opt q
  obtain ⟨d2, e2, q⟩ := Pst.opt q
  obtain ⟨z, e3, q⟩ := Pst.opt q
  obtain ⟨f1, m1⟩ := look_mem (T := ents σ ρ2 ++ (oen y o2 ++ (oen x o1 ++ L))) c1 e1 (fun e he => by simp [he]) (fun e he => by simp [he])
  obtain ⟨f2, m2⟩ := look_mem (T := ents σ ρ2 ++ (oen y o2 ++ (oen x o1 ++ L))) c2 e2 (fun e he => by simp [he]) (fun e he => by simp [he])
  refine hs H2 _ x y d1 d2 f1 f2 z.1 z.2 Q h2.rep m1 m2 (by rw [e3]) ?_
  exact op_fin (E := oen y o2 ++ oen x o1) (by rw [List.append_assoc]; exact h2) q |> fun k v H' R => k v H' (by rw [List.append_assoc]; exact R)
theorem se_cmp {op : CmpOp} {g : D → D → Option (D × Bool)} (ho : OpS X (compareOp op) g) (ha : SE X W a ma) (hb : SE X W b mb) (hm : behindInMarks op b = false := by rfl) : SE X W (.Compare a [op] [b] pos) (mBin g ma mb) := by
  obtain ⟨r, hr, hs⟩ := ho
  refine PE.imp (pe_cmpR hr ha hb hm) fun σ H Q ⟨ρ, L, cc, hh, h⟩ => ?_
  refine thn cc [] hh h fun o1 x ρ1 H1 h1 c1 q => ?_
  refine thn cc (oen x o1) h1 q fun o2 y ρ2 H2 h2 c2 q => ?_
  obtain ⟨d1, e1, q⟩ := Pst.opt q
  obtain ⟨d2, e2, q⟩ := Pst.opt q
  obtain ⟨z, e3, q⟩ := Pst.opt q
  obtain ⟨f1, m1⟩ := look_mem (T := ents σ ρ2 ++ (oen y o2 ++ (oen x o1 ++ L))) c1 e1 (fun e he => by simp [he]) (fun e he => by simp [he])
  obtain ⟨f2, m2⟩ := look_mem (T := ents σ ρ2 ++ (oen y o2 ++ (oen x o1 ++ L))) c2 e2 (fun e he => by simp [he]) (fun e he => by simp [he])
  refine hs H2 _ x y d1 d2 f1 f2 z.1 z.2 Q h2.rep m1 m2 (by rw [e3]) ?_
  exact op_fin (E := oen y o2 ++ oen x o1) (by rw [List.append_assoc]; exact h2) q |> fun k v H' R => k v H' (by rw [List.append_assoc]; exact R)
def mUn (g : D → Option (D × Bool)) (ma : EE) : EE := fun ρ => (ma ρ).bind fun o1 ρ1 => opt (look ρ1 o1) fun d1 => opt (g d1) fun x => .ok (.tmp x.1 x.2) ρ1
theorem se_un {op : UnaryOp} {g : D → Option (D × Bool)} (ho : UnS X (unaryOp op) g) (ha : SE X W a ma) : SE X W (.UnaryOp op a pos) (mUn g ma) := by
  obtain ⟨r, hr, hs⟩ := ho
  refine PE.imp (pe_un hr ha) fun σ H Q ⟨ρ, L, cc, hh, h⟩ => ?_
  refine thn cc [] hh h fun o1 x ρ1 H1 h1 c1 q => ?_
  obtain ⟨d1, e1, q⟩ := Pst.opt q
  obtain ⟨z, e3, q⟩ := Pst.opt q
  obtain ⟨f1, m1⟩ := look_mem (T := ents σ ρ1 ++ (oen x o1 ++ L)) c1 e1 (fun e he => by simp [he]) (fun e he => by simp [he])
  exact hs H1 _ x d1 f1 z.1 z.2 Q h1.rep m1 (by rw [e3]) (op_fin (E := oen x o1) h1 q)

/-! ### argument lists -/
def mNil : EA := fun ρ => .ok [] ρ
def mCons (m : EE) (ms : EA) : EA := fun ρ => (m ρ).bind fun o ρ1 => (ms ρ1).bind fun os ρ2 => .ok (o :: os) ρ2
theorem sa_nil : SA X W [] mNil := PA.imp pa_nil fun σ H Q ⟨ρ, L, cc, hh, h⟩ => h [] H hh trivial
theorem sa_cons (ha : SE X W e m) (hr : SA X W es ms) (hs : starEach (e :: es) X.env = (false, eval e X.env) :: starEach es X.env := by rfl) : SA X W (e :: es) (mCons m ms) :=
  PA.imp (pa_cons ha hr hs) fun σ H Q ⟨ρ, L, cc, hh, h⟩ => by
    refine thn cc [] hh h fun o1 x ρ1 H1 h1 c1 q => ?_
    refine thn cc (oen x o1) h1 q fun os xs ρ2 H2 h2 c2 q => ?_
    refine q (x :: xs) H2 (h2.perm ?_) ⟨c1, c2⟩
    show (oens xs os ++ (oen x o1 ++ L)).Perm ((oen x o1 ++ oens xs os) ++ L)
    rw [← List.append_assoc]
    exact List.Perm.append_right _ List.perm_append_comm

/-! ### displays: every item a temporary -/
def tmps : List O → Option (List D)
  | [] => some []
  | .tmp d _ :: os => (tmps os).map (d :: ·)
  | .slt _ :: _ => none
theorem rep_tmps {K : PySem.W.Frag} : ∀ {os : List O} {vs : List V} {ds : List D} {σ : St} {L : List En} {H : Hp}, OIss σ vs os → tmps os = some ds → Rep K (oens vs os ++ L) H → ∃ L', L.Sublist L' ∧ Rep K L' H ∧ Dats K H (· ∈ OwnA L') ds vs
  | [], [], ds, σ, L, H, _, h, R => by
    cases h
    exact ⟨L, List.Sublist.refl _, R, rfl⟩
  | [], v :: vs, ds, σ, L, H, c, h, R => c.elim
  | o :: os, [], ds, σ, L, H, c, h, R => c.elim
  | .slt i :: os, v :: vs, ds, σ, L, H, c, h, R => by cases h
  | .tmp d f :: os, v :: vs, ds, σ, L, H, c, h, R => by
    have h : (tmps os).map (d :: ·) = some ds := h
    cases e : tmps os with
    | none => rw [e] at h; cases h
    | some ds' =>
      rw [e] at h
      have : ds = d :: ds' := by simpa using h.symm
      subst this
      have R : Rep K ((v, d, f) :: (oens vs os ++ L)) H := R
      have R2 : Rep K (oens vs os ++ ((v, d, false) :: L)) H := (Rep.cool R).perm (List.perm_middle.symm)
      obtain ⟨L', s, R3, D3⟩ := rep_tmps c.2 e R2
      have m : (v, d, false) ∈ L' := s.subset List.mem_cons_self
      exact ⟨L', (List.sublist_cons_self _ _).trans s, R3, v, vs, rfl, R3.dat m, D3⟩
def mTup (ms : EA) : EE := fun ρ => (ms ρ).bind fun os ρ1 => opt (tmps os) fun ds => if ds.length ≤ sizeLine then .ok (.tmp (.tup ds) false) ρ1 else .stuck
def mLst (ms : EA) : EE := fun ρ => (ms ρ).bind fun os ρ1 => opt (tmps os) fun ds => if ds.length ≤ sizeLine then .ok (.tmp (.lst ds) true) ρ1 else .stuck
theorem se_tup {k : Nat} (h : SA X W es ms) : SE X W (.Tuple es k pos) (mTup ms) := PE.imp (pe_tupF h) fun σ H Q ⟨ρ, L, cc, hh, h⟩ => by
  refine thn cc [] hh h fun os vs ρ1 H1 h1 c1 q => ?_
  obtain ⟨ds, e1, q⟩ := Pst.opt q
  obtain ⟨L', s, R, dd⟩ := rep_tmps (L := ents σ ρ1 ++ L) c1 e1 (h1.rep.perm (by
    show (ents σ ρ1 ++ (oens vs os ++ L)).Perm (oens vs os ++ (ents σ ρ1 ++ L))
    rw [← List.append_assoc, ← List.append_assoc]
    exact List.perm_append_comm.append_right _))
  by_cases hz : ds.length ≤ sizeLine
  · rw [if_pos hz] at q
    refine ⟨by rw [dd.length]; exact hz, fun p o tp hp => q _ _ ⟨h1.al, ?_⟩ trivial⟩
    exact ((R.newT tp hp dd).sublist (s.cons_cons _)).perm (List.perm_middle.symm)
  · rw [if_neg hz] at q
    exact q.elim
theorem se_lst (h : SA X W es ms) : SE X W (.List es pos) (mLst ms) := PE.imp (pe_lst h) fun σ H Q ⟨ρ, L, cc, hh, h⟩ => by
  refine thn cc [] hh h fun os vs ρ1 H1 h1 c1 q => ?_
  obtain ⟨ds, e1, q⟩ := Pst.opt q
  obtain ⟨L', s, R, dd⟩ := rep_tmps (L := ents σ ρ1 ++ L) c1 e1 (h1.rep.perm (by
    show (ents σ ρ1 ++ (oens vs os ++ L)).Perm (oens vs os ++ (ents σ ρ1 ++ L))
    rw [← List.append_assoc, ← List.append_assoc]
    exact List.perm_append_comm.append_right _))
  by_cases hz : ds.length ≤ sizeLine
  · rw [if_pos hz] at q
    refine ⟨by rw [dd.length]; exact hz, fun p hp => q _ _ ⟨h1.al, ?_⟩ trivial⟩
    exact ((R.newL hp dd).sublist (s.cons_cons _)).perm (List.perm_middle.symm)
  · rw [if_neg hz] at q
    exact q.elim

/-! ### built-in functions by name -/
def mBlt (g : List D → Option (D × Bool)) (ms : EA) : EE := fun ρ => (ms ρ).bind fun os ρ1 => opt (looks ρ1 os) fun ds => opt (g ds) fun x => .ok (.tmp x.1 x.2) ρ1
theorem blt_fin {g : List D → Option (D × Bool)} {r : List V → Hp → VK → Prop} {σ : St} {ρ : Rho} {L : List En} {H : Hp} {Q : VK}
    (hs : ∀ (H : Hp) (L : List En) (xs : List V) (ds : List D) (d : D) (fl : Bool) (Q : VK), Rep X.K L H → Sees L xs ds → g ds = some (d, fl) → (∀ v H', Rep X.K ((v, d, fl) :: L) H' → Q v H') → r xs H Q)
    (cc : W.C σ L) (hh : Here X.K σ ρ L H) (h : PstE X.K X.mg W σ L (mBlt g ms ρ) Q) : tCB r (rA X.K X.mg W ms) σ H Q := by
  refine thn cc [] hh h fun os vs ρ1 H1 h1 c1 q => ?_
  obtain ⟨ds, e1, q⟩ := Pst.opt q
  obtain ⟨z, e3, q⟩ := Pst.opt q
  have pm := looks_mem (T := ents σ ρ1 ++ (oens vs os ++ L)) c1 e1 (fun e he => by simp [he]) (fun e he => by simp [he])
  exact hs H1 _ vs ds z.1 z.2 Q h1.rep pm (by rw [e3]) (op_fin (E := oens vs os) h1 q)
theorem se_blt {id : String} {x : Str} {g : List D → Option (D × Bool)} (hc : CallS X (.builtin id) g) (hm : X.mg x = none) (hv : bootBuiltins x = some (.builtin id)) (ha : SA X W (e :: es) ms) (hg : Gl X x := by rfl) (hn : x ≠ "__name__" := by decide) (hdb : (x == ("__debug__" : Str)) = false := by decide)
    (he : starEach (e :: es) X.env = (false, eval e X.env) :: starEach es X.env := by rfl) (hpl : (backTo pos (starEach es X.env)).any (·.1) = false := by rfl) : SE X W (.Call (.Name x p2) (e :: es) [] pos) (mBlt g ms) := by
  obtain ⟨r, hr, hs⟩ := hc
  exact PE.imp (pe_callB hr hg hm hv ha hn hdb he hpl) fun σ H Q ⟨ρ, L, cc, hh, h⟩ => blt_fin hs cc hh h
theorem se_ty {id : String} {x : Str} {g : List D → Option (D × Bool)} (hc : CallS X (.type id) g) (hm : X.mg x = none) (hv : bootBuiltins x = some (.type id)) (ha : SA X W (e :: es) ms) (hg : Gl X x := by rfl) (hn : x ≠ "__name__" := by decide) (hdb : (x == ("__debug__" : Str)) = false := by decide)
    (he : starEach (e :: es) X.env = (false, eval e X.env) :: starEach es X.env := by rfl) (hpl : (backTo pos (starEach es X.env)).any (·.1) = false := by rfl) : SE X W (.Call (.Name x p2) (e :: es) [] pos) (mBlt g ms) := by
  obtain ⟨r, hr, hs⟩ := hc
  exact PE.imp (pe_callTy hr hg hm hv ha hn hdb he hpl) fun σ H Q ⟨ρ, L, cc, hh, h⟩ => blt_fin hs cc hh h
end
end LL

set_option Elab.async false
set_option linter.all false
set_option maxRecDepth 100000
/-! LayC: tests, and / or / not, conditional expressions, targets, statements without loops. -/
namespace LL
open PySem L2

/-! ### truth -/
def truth : D → Option Bool
  | .non => some false
  | .bl b => some b
  | .int i => some (i != 0)
  | .str y => if y.length ≤ sizeLine then some ((y.length : Int) != 0) else none
  | .lst l => some (!l.isEmpty)
  | .tup l => some (!l.isEmpty)
  | .rol l => some (!l.isEmpty)
  | _ => none
theorem dats_empty {K : PySem.W.Frag} {H : Hp} {Z : Addr → Prop} {ds : List D} {ws : List V} (h : Dats K H Z ds ws) : (!ds.isEmpty) = !ws.isEmpty := by
  have e := h.length
  cases ds <;> cases ws <;> simp_all
theorem truth_ok {K : PySem.W.Frag} {L : List En} {H : Hp} {x : V} {d : D} {f k : Bool} (R : Rep K L H) (hm : (x, d, f) ∈ L) (h : truth d = some k) : TruV K x H k := by
  cases d with
  | non => cases h; rw [R.non hm]; rfl
  | bl b => cases h; rw [R.bl hm]; rfl
  | int i => cases h; rw [R.int hm]; rfl
  | str y =>
    rw [R.str hm]
    have h : (if y.length ≤ sizeLine then some ((y.length : Int) != 0) else none) = some k := h
    split at h
    · rename_i hz
      cases h
      exact ⟨hz, rfl⟩
    · cases h
  | lst l =>
    cases h
    obtain ⟨a, ws, e, h1, h2⟩ := R.list hm
    subst e
    exact .inl ⟨ws, .inl (.inl h1), dats_empty h2⟩
  | tup l =>
    cases h
    obtain ⟨a, ws, e, h1, h2⟩ := R.tuple hm
    subst e
    exact .inr (.inl ⟨ws, h1, dats_empty h2⟩)
  | rol l =>
    cases h
    obtain ⟨a, ws, e, h1, h2⟩ := R.rlist hm
    subst e
    exact .inl ⟨ws, h1, dats_empty h2⟩
  | _ => cases h

section
variable {X : Cx} {W : WF} {e a b c : Expr} {es rest : List Expr} {m ma mb mc : EE} {ms : EA} {ta tb tc : ET} {pos p2 : Pos}
def mTst (m : EE) : ET := fun ρ => (m ρ).bind fun o ρ1 => opt (look ρ1 o) fun d => opt (truth d) fun k => .ok k ρ1
theorem st_truth (h : SE X W a m) (he : ∀ whole, isTrue a X.env whole = (do let v ← whole; standAt a.pos; holding [v] (truthy v)) := by intro _; rfl) : ST X W a (mTst m) :=
  PT.imp (pt_truth h he) fun σ H Q ⟨ρ, L, cc, hh, h⟩ => by
    refine thn cc [] hh h fun o x ρ1 H1 h1 c1 q => ?_
    obtain ⟨d, e1, q⟩ := Pst.opt q
    obtain ⟨k, e2, q⟩ := Pst.opt q
    obtain ⟨f, hm⟩ := look_mem (T := ents σ ρ1 ++ (oen x o ++ L)) c1 e1 (fun e he => by simp [he]) (fun e he => by simp [he])
    exact ⟨k, truth_ok h1.rep hm e2, q k H1 h1.drop rfl⟩
/-- a comparison gives a bool -/
def blOf (g : D → D → Option Bool) : D → D → Option (D × Bool) := fun a b => match g a b with
  | some k => some (.bl k, false)
  | none => none
def mCmp (g : D → D → Option Bool) (ma mb : EE) : ET := fun ρ => (ma ρ).bind fun o1 ρ1 => (mb ρ1).bind fun o2 ρ2 =>
  opt (look ρ2 o1) fun d1 => opt (look ρ2 o2) fun d2 => opt (g d1 d2) fun k => .ok k ρ2
theorem st_cmp {op : CmpOp} {g : D → D → Option Bool} (ho : OpS X (compareOp op) (blOf g)) (ha : SE X W a ma) (hb : SE X W b mb) (hm : behindInMarks op b = false := by rfl) : ST X W (.Compare a [op] [b] pos) (mCmp g ma mb) := by
  obtain ⟨r, hr, hs⟩ := ho
  refine PT.imp (pt_cmpR hr ha hb hm) fun σ H Q ⟨ρ, L, cc, hh, h⟩ => ?_
  refine thn cc [] hh h fun o1 x ρ1 H1 h1 c1 q => ?_
  refine thn cc (oen x o1) h1 q fun o2 y ρ2 H2 h2 c2 q => ?_
  obtain ⟨d1, e1, q⟩ := Pst.opt q
  obtain ⟨d2, e2, q⟩ := Pst.opt q
  obtain ⟨k, e3, q⟩ := Pst.opt q
  obtain ⟨f1, m1⟩ := look_mem (T := ents σ ρ2 ++ (oen y o2 ++ (oen x o1 ++ L))) c1 e1 (fun e he => by simp [he]) (fun e he => by simp [he])
  obtain ⟨f2, m2⟩ := look_mem (T := ents σ ρ2 ++ (oen y o2 ++ (oen x o1 ++ L))) c2 e2 (fun e he => by simp [he]) (fun e he => by simp [he])
  refine hs H2 _ x y d1 d2 f1 f2 (.bl k) false _ h2.rep m1 m2 (by unfold blOf; rw [e3]) fun v H' R => ?_
  refine ⟨k, R.bl List.mem_cons_self, q k H' ⟨h2.al, ?_⟩ rfl⟩
  refine R.tail.sublist (List.Sublist.append (List.Sublist.refl _) ?_)
  exact (List.sublist_append_right _ _).trans (List.sublist_append_right _ _)
/-- a op1 b op2 c -/
def mChn (g g' : D → D → Option Bool) (ma mb mc : EE) : EE := fun ρ => (ma ρ).bind fun o1 ρ1 => (mb ρ1).bind fun o2 ρ2 =>
  opt (look ρ2 o1) fun d1 => opt (look ρ2 o2) fun d2 => opt (g d1 d2) fun k => match k with
    | false => .ok (.tmp (.bl false) false) ρ2
    | true => (mc ρ2).bind fun o3 ρ3 => opt (look ρ3 o2) fun d2 => opt (look ρ3 o3) fun d3 => opt (g' d2 d3) fun k => .ok (.tmp (.bl k) false) ρ3
theorem se_chn {op op' : CmpOp} {g g' : D → D → Option Bool} (ho : OpS X (compareOp op) (blOf g)) (ho' : OpS X (compareOp op') (blOf g')) (ha : SE X W a ma) (hb : SE X W b mb) (hc : SE X W c mc)
    (hm : lastMarks [op, op'] [b, c] = false := by with_unfolding_all rfl) : SE X W (.Compare a [op, op'] [b, c] pos) (mChn g g' ma mb mc) := by
  obtain ⟨r, hr, hs⟩ := ho
  obtain ⟨r', hr', hs'⟩ := ho'
  refine PE.imp (pe_chain hr hr' ha hb hc hm) fun σ H Q ⟨ρ, L, cc, hh, h⟩ => ?_
  refine thn cc [] hh h fun o1 x ρ1 H1 h1 c1 q => ?_
  refine thn cc (oen x o1) h1 q fun o2 y ρ2 H2 h2 c2 q => ?_
  obtain ⟨d1, e1, q⟩ := Pst.opt q
  obtain ⟨d2, e2, q⟩ := Pst.opt q
  obtain ⟨k, e3, q⟩ := Pst.opt q
  obtain ⟨f1, m1⟩ := look_mem (T := ents σ ρ2 ++ (oen y o2 ++ (oen x o1 ++ L))) c1 e1 (fun e he => by simp [he]) (fun e he => by simp [he])
  obtain ⟨f2, m2⟩ := look_mem (T := ents σ ρ2 ++ (oen y o2 ++ (oen x o1 ++ L))) c2 e2 (fun e he => by simp [he]) (fun e he => by simp [he])
  refine hs H2 _ x y d1 d2 f1 f2 (.bl k) false _ h2.rep m1 m2 (by unfold blOf; rw [e3]) fun v H' R => ?_
  refine ⟨k, R.bl List.mem_cons_self, ?_⟩
  have h3 : Here X.K σ ρ2 ((oen y o2 ++ oen x o1) ++ L) H' := ⟨h2.al, by rw [List.append_assoc]; exact R.tail⟩
  cases k with
  | false => exact iteF (q (.bl false) H' (here_scal h3.drop fun _ => rfl) trivial)
  | true =>
    refine iteT (thn cc (oen y o2 ++ oen x o1) h3 q fun o3 z ρ3 H3 h4 c3 q => ?_)
    obtain ⟨d2', e4, q⟩ := Pst.opt q
    obtain ⟨d3, e5, q⟩ := Pst.opt q
    obtain ⟨k', e6, q⟩ := Pst.opt q
    obtain ⟨f3, m3⟩ := look_mem (T := ents σ ρ3 ++ (oen z o3 ++ ((oen y o2 ++ oen x o1) ++ L))) c2 e4 (fun e he => by simp [he]) (fun e he => by simp [he])
    obtain ⟨f4, m4⟩ := look_mem (T := ents σ ρ3 ++ (oen z o3 ++ ((oen y o2 ++ oen x o1) ++ L))) c3 e5 (fun e he => by simp [he]) (fun e he => by simp [he])
    refine hs' H3 _ y z d2' d3 f3 f4 (.bl k') false Q h4.rep m3 m4 (by unfold blOf; rw [e6]) ?_
    exact op_fin (E := oen z o3 ++ (oen y o2 ++ oen x o1)) (by rw [List.append_assoc]; exact h4) q |> fun kk v H' R => kk v H' (by rw [List.append_assoc]; exact R)
/-- and, or, not in a test -/
def mAnd (ta tb : ET) : ET := fun ρ => (ta ρ).bind fun k ρ1 => match k with
  | true => tb ρ1
  | false => .ok false ρ1
def mOr (ta tb : ET) : ET := fun ρ => (ta ρ).bind fun k ρ1 => match k with
  | true => .ok true ρ1
  | false => tb ρ1
def mNot (ta : ET) : ET := fun ρ => (ta ρ).bind fun k ρ1 => .ok (!k) ρ1
theorem sw_and1 (ha : ST X W a ta) : SW X W (.BoolOp .And [a] pos) ta := pw_and1 ha
theorem sw_or1 (ha : ST X W a ta) : SW X W (.BoolOp .Or [a] pos) ta := pw_or1 ha
theorem sw_and (ha : ST X W a ta) (hb : SW X W (.BoolOp .And (b :: rest) pos) tb) : SW X W (.BoolOp .And (a :: b :: rest) pos) (mAnd ta tb) := PW.imp (pw_and ha hb) fun σ H Q ⟨ρ, L, cc, hh, h⟩ => by
  refine thn cc [] hh h fun k k' ρ1 H1 h1 c1 q => ?_
  subst c1
  cases k with
  | true => exact iteT (thn1 cc [] h1 q)
  | false => exact iteF (q false H1 h1 rfl)
theorem sw_or (ha : ST X W a ta) (hb : SW X W (.BoolOp .Or (b :: rest) pos) tb) : SW X W (.BoolOp .Or (a :: b :: rest) pos) (mOr ta tb) := PW.imp (pw_or ha hb) fun σ H Q ⟨ρ, L, cc, hh, h⟩ => by
  refine thn cc [] hh h fun k k' ρ1 H1 h1 c1 q => ?_
  subst c1
  cases k with
  | true => exact iteT (q true H1 h1 rfl)
  | false => exact iteF (thn1 cc [] h1 q)
theorem st_w (h : SW X W a ta) : ST X W a ta := PW.pt h
theorem st_not (h : ST X W a ta) : ST X W (.UnaryOp .Not a pos) (mNot ta) := PT.imp (pt_not h) fun σ H Q ⟨ρ, L, cc, hh, h⟩ => by
  refine thn cc [] hh h fun k k' ρ1 H1 h1 c1 q => ?_
  subst c1
  exact q (!k) H1 h1 rfl
/-- not as a value -/
def mNotV (m : EE) : EE := fun ρ => (m ρ).bind fun o ρ1 => opt (look ρ1 o) fun d => opt (truth d) fun k => .ok (.tmp (.bl (!k)) false) ρ1
theorem se_not (h : SE X W a m) : SE X W (.UnaryOp .Not a pos) (mNotV m) := PE.imp (pe_notT h) fun σ H Q ⟨ρ, L, cc, hh, h⟩ => by
  refine thn cc [] hh h fun o x ρ1 H1 h1 c1 q => ?_
  obtain ⟨d, e1, q⟩ := Pst.opt q
  obtain ⟨k, e2, q⟩ := Pst.opt q
  obtain ⟨f, hm⟩ := look_mem (T := ents σ ρ1 ++ (oen x o ++ L)) c1 e1 (fun e he => by simp [he]) (fun e he => by simp [he])
  exact ⟨k, truth_ok h1.rep hm e2, q _ H1 (here_scal h1.drop fun _ => rfl) trivial⟩
/-- and, or as values: the operand itself (a temporary) -/
def mAndV (ma mb : EE) : EE := fun ρ => (ma ρ).bind fun o ρ1 => opt (look ρ1 o) fun d => opt (truth d) fun k => match k with
  | true => mb ρ1
  | false => .ok o ρ1
def mOrV (ma mb : EE) : EE := fun ρ => (ma ρ).bind fun o ρ1 => opt (look ρ1 o) fun d => opt (truth d) fun k => match k with
  | true => .ok o ρ1
  | false => mb ρ1
theorem se_one {op : BoolOp} (h : SE X W a m) : SE X W (.BoolOp op [a] pos) m := pe_one h
theorem se_and (ha : SE X W a ma) (hb : SE X W (.BoolOp .And (b :: rest) pos) mb) : SE X W (.BoolOp .And (a :: b :: rest) pos) (mAndV ma mb) := PE.imp (pe_andT ha hb) fun σ H Q ⟨ρ, L, cc, hh, h⟩ => by
  refine thn cc [] hh h fun o x ρ1 H1 h1 c1 q => ?_
  obtain ⟨d, e1, q⟩ := Pst.opt q
  obtain ⟨k, e2, q⟩ := Pst.opt q
  obtain ⟨f, hm⟩ := look_mem (T := ents σ ρ1 ++ (oen x o ++ L)) c1 e1 (fun e he => by simp [he]) (fun e he => by simp [he])
  refine ⟨k, truth_ok h1.rep hm e2, ?_⟩
  cases k with
  | true => exact iteT (thn1 cc (oen x o) h1 q)
  | false => exact iteF (q x H1 h1 c1)
theorem se_or (ha : SE X W a ma) (hb : SE X W (.BoolOp .Or (b :: rest) pos) mb) : SE X W (.BoolOp .Or (a :: b :: rest) pos) (mOrV ma mb) := PE.imp (pe_orT ha hb) fun σ H Q ⟨ρ, L, cc, hh, h⟩ => by
  refine thn cc [] hh h fun o x ρ1 H1 h1 c1 q => ?_
  obtain ⟨d, e1, q⟩ := Pst.opt q
  obtain ⟨k, e2, q⟩ := Pst.opt q
  obtain ⟨f, hm⟩ := look_mem (T := ents σ ρ1 ++ (oen x o ++ L)) c1 e1 (fun e he => by simp [he]) (fun e he => by simp [he])
  refine ⟨k, truth_ok h1.rep hm e2, ?_⟩
  cases k with
  | true => exact iteT (q x H1 h1 c1)
  | false => exact iteF (thn1 cc (oen x o) h1 q)
/-- a if t else b -/
def mIfE (t : ET) (ma mb : EE) : EE := fun ρ => (t ρ).bind fun k ρ1 => match k with
  | true => ma ρ1
  | false => mb ρ1
theorem se_ifE (hc : ST X W c tc) (ha : SE X W a ma) (hb : SE X W b mb) : SE X W (.IfExp c a b pos) (mIfE tc ma mb) := PE.imp (pe_ifExp hc ha hb) fun σ H Q ⟨ρ, L, cc, hh, h⟩ => by
  refine thn cc [] hh h fun k k' ρ1 H1 h1 c1 q => ?_
  subst c1
  cases k with
  | true => exact iteT (thn1 cc [] h1 q)
  | false => exact iteF (thn1 cc [] h1 q)
/-- the operand is moved out of its slot -/
def mv (o : O) (ρ : Rho) : Res O := match o with
  | .tmp d f => .ok (.tmp d f) ρ
  | .slt i => opt (at_ ρ i) fun x => .ok (.tmp x.1 x.2) (ρ.set i none)
def mMv (m : EE) : EE := fun ρ => (m ρ).bind mv
theorem here_mv {K : PySem.W.Frag} {σ : St} {ρ : Rho} {L : List En} {H : Hp} {v : V} {i : Nat} {d : D} {f : Bool} (hh : Here K σ ρ L H) (hv : σ[i]? = some (some v)) (hr : ρ[i]? = some (some (d, f))) : Here K σ (ρ.set i none) ([(v, d, f)] ++ L) H := by
  refine ⟨hh.al.forget i, ?_⟩
  have r1 := hh.rep.perm ((ents_get hv hr).append_right L)
  exact r1.perm (List.perm_middle.symm)
theorem se_mv (h : SE X W e m) : SE X W e (mMv m) := PE.imp h fun σ H Q ⟨ρ, L, cc, hh, h⟩ =>
  thn cc [] hh h fun o v ρ1 H1 h1 c1 q => by
    cases o with
    | tmp d f => exact q v H1 h1 trivial
    | slt i =>
      obtain ⟨x, e1, q⟩ := Pst.opt (show Pst _ _ _ _ _ _ _ (opt (at_ ρ1 i) _) _ from q)
      exact q v H1 (here_mv h1 c1 (at_some e1)) trivial
end

/-! ### targets -/
/-- these slots keep their values -/
def Fix (I : List Nat) (σ σ' : St) : Prop := σ'.length = σ.length ∧ ∀ i ∈ I, σ'[i]? = σ[i]?
theorem Fix.refl {I : List Nat} {σ : St} : Fix I σ σ := ⟨rfl, fun _ _ => rfl⟩
theorem Fix.trans {I : List Nat} {σ σ1 σ2 : St} (h : Fix I σ σ1) (h' : Fix I σ1 σ2) : Fix I σ σ2 := ⟨h'.1.trans h.1, fun i hi => (h'.2 i hi).trans (h.2 i hi)⟩
theorem Fix.mono {I J : List Nat} {σ σ1 : St} (h : Fix J σ σ1) (s : ∀ i ∈ I, i ∈ J) : Fix I σ σ1 := ⟨h.1, fun i hi => h.2 i (s i hi)⟩
theorem Fix.set {I : List Nat} {σ : St} {i : Nat} {o : Option V} (h : I.contains i = false) : Fix I σ (σ.set i o) := ⟨by rw [List.length_set], fun j hj => by
  have : i ≠ j := fun z => by
    subst z
    have : I.contains i = true := List.contains_iff_mem.mpr hj
    rw [h] at this
    cases this
  rw [List.getElem?_set_ne this]⟩
abbrev TgM := D → Bool → Rho → Option Rho
abbrev TgMs := List D → Rho → Option Rho
def rG (I : List Nat) (K : PySem.W.Frag) (t : TgM) : TG := fun v σ H Q => ∃ ρ L d f ρ', Here K σ ρ ((v, d, f) :: L) H ∧ t d f ρ = some ρ' ∧ ∀ σ', Here K σ' ρ' L H → Fix I σ σ' → Q σ' H
def zf : List V → List D → List En
  | v :: vs, d :: ds => (v, d, false) :: zf vs ds
  | _, _ => []
def rGs (I : List Nat) (K : PySem.W.Frag) (t : TgMs) : TGs := fun vs σ H Q => ∃ ρ L ds ρ', vs.length = ds.length ∧ Here K σ ρ (zf vs ds ++ L) H ∧ t ds ρ = some ρ' ∧ ∀ σ', Here K σ' ρ' L H → Fix I σ σ' → Q σ' H
theorem PG.imp {X : Cx} {e : Expr} {t t' : TG} (h : PG X e t) (k : ∀ v σ H Q, t' v σ H Q → t v σ H Q) : PG X e t' := ⟨fun pins s σ H v u Q I r q => h.run pins s σ H v u Q I r (k v σ H Q q)⟩
theorem PGs.imp {X : Cx} {e : List Expr} {t t' : TGs} (h : PGs X e t) (k : ∀ v σ H Q, t' v σ H Q → t v σ H Q) : PGs X e t' := ⟨fun pins s σ H v u Q I r q => h.run pins s σ H v u Q I r (k v σ H Q q)⟩
def SG (X : Cx) (I : List Nat) (e : Expr) (t : TgM) : Prop := PG X e (rG I X.K t)
def SGs (X : Cx) (I : List Nat) (e : List Expr) (t : TgMs) : Prop := PGs X e (rGs I X.K t)
def tgN (i : Nat) : TgM := fun d f ρ => if i < ρ.length then some (ρ.set i (some (d, f))) else none
def tgNil : TgMs := fun ds ρ => match ds with
  | [] => some ρ
  | _ => none
def tgCons (t : TgM) (ts : TgMs) : TgMs := fun ds ρ => match ds with
  | [] => none
  | d :: ds => match t d false ρ with
    | none => none
    | some ρ1 => ts ds ρ1
def tgT (n : Nat) (ts : TgMs) : TgM := fun d _ ρ => match d with
  | .tup ds => if ds.length = n then ts ds ρ else none
  | _ => none
theorem here_put {K : PySem.W.Frag} {σ : St} {ρ : Rho} {L : List En} {H : Hp} {v : V} {i : Nat} {d : D} {f : Bool} (hh : Here K σ ρ ((v, d, f) :: L) H) (hi : i < ρ.length) : Here K (σ.set i (some v)) (ρ.set i (some (d, f))) L H := by
  refine ⟨hh.al.put hi, ?_⟩
  have r1 : Rep K (ents σ (ρ.set i none) ++ ((v, d, f) :: L)) H := hh.rep.sublist ((ents_drop σ ρ i).append (List.Sublist.refl _))
  have r2 := r1.perm List.perm_middle
  exact r2.perm ((ents_put (by rw [← hh.al.len]; exact hi) hi).append_right L).symm
theorem rep_zf {K : PySem.W.Frag} {H : Hp} : ∀ {ds : List D} {vs : List V} {L : List En}, Rep K L H → Dats K H (· ∈ OwnA L) ds vs → Rep K (zf vs ds ++ L) H
  | [], vs, L, R, h => by
    obtain rfl : vs = [] := h
    exact R
  | d :: ds, vs, L, R, h => by
    obtain ⟨v, ws, rfl, h1, h2⟩ := h
    have R1 := R.add h1
    have R2 := rep_zf (L := (v, d, false) :: L) R1 (by rw [OwnA_shr]; exact h2)
    exact R2.perm (List.perm_middle)
section
variable {X : Cx} {I : List Nat} {e : Expr} {es : List Expr} {t : TgM} {ts : TgMs} {pos p2 : Pos}
theorem sg_name {i : Nat} {x : Str} (hN : X.N.Nodup) (hi : X.N[i]? = some x := by rfl) (hx : L2.Loc X.env.scope x := by first | exact .inl rfl | exact .inr rfl) (hI : I.contains i = false := by rfl) (hf : X.fn x = true ∨ X.env.scope.names.lookup x = some .local := by first | exact .inl rfl | exact .inr rfl) :
    SG X I (.Name x pos) (tgN i) := PG.imp (pg_name hN hi hx hf) fun v σ H Q ⟨ρ, L, d, f, ρ', hh, e1, q⟩ => by
  unfold tgN at e1
  split at e1
  · rename_i hl
    cases e1
    exact q _ (here_put hh hl) (Fix.set hI)
  · cases e1
theorem sg_nil : SGs X I [] tgNil := PGs.imp pgs_nil fun vs σ H Q ⟨ρ, L, ds, ρ', hl, hh, e1, q⟩ => by
  cases ds with
  | nil =>
    cases vs with
    | nil =>
      cases e1
      exact ⟨rfl, q σ hh Fix.refl⟩
    | cons v vs => cases hl
  | cons d ds => cases e1
theorem sg_cons (h1 : SG X I e t) (h2 : SGs X I es ts) (hs : (assignEach (e :: es) X.env).map (·.2) = assign e X.env :: (assignEach es X.env).map (·.2) := by rfl) : SGs X I (e :: es) (tgCons t ts) :=
  PGs.imp (pgs_cons h1 h2 hs) fun vs σ H Q ⟨ρ, L, ds, ρ', hl, hh, e1, q⟩ => by
    cases ds with
    | nil => cases e1
    | cons d ds =>
      cases vs with
      | nil => cases hl
      | cons v vs =>
        unfold tgCons at e1
        simp only at e1
        cases e2 : t d false ρ with
        | none => rw [e2] at e1; cases e1
        | some ρ1 =>
          rw [e2] at e1
          refine ⟨v, vs, rfl, ρ, zf vs ds ++ L, d, false, ρ1, hh, e2, fun σ1 h1 f1 => ?_⟩
          exact ⟨ρ1, L, ds, ρ', by simpa using hl, h1, e1, fun σ2 h2 f2 => q σ2 h2 (f1.trans f2)⟩
theorem sg_tup {n k : Nat} (hc : X.calm = true) (h : SGs X I es ts) (hn : (assignEach es X.env).length = n := by rfl) (hst : (assignEach es X.env).findIdx? (·.1) = none := by rfl) : SG X I (.Tuple es k pos) (tgT n ts) :=
  PG.imp (pg_tup hc h hn hst) fun v σ H Q ⟨ρ, L, d, f, ρ', hh, e1, q⟩ => by
    cases d with
    | tup ds =>
      unfold tgT at e1
      simp only at e1
      split at e1
      · rename_i hl
        have R := hh.rep
        obtain ⟨a, ws, e, h1, h2⟩ := R.tuple (p := v) (ds := ds) (f := f) (by simp)
        have hlen := h2.length
        refine ⟨a, ws, e, h1, by rw [hlen]; exact hl, ρ, (v, .tup ds, f) :: L, ds, ρ', hlen, ⟨hh.al, ?_⟩, e1, fun σ' h' f' => ?_⟩
        · have R2 := rep_zf R h2
          refine R2.perm ?_
          rw [← List.append_assoc, ← List.append_assoc]
          exact List.Perm.append_right _ List.perm_append_comm
        · exact q σ' (h'.sub (List.sublist_cons_self _ _)) f'
      · cases e1
    | _ => cases e1
end

/-! ### statements -/
structure WF.CS (W : WF) (I : List Nat) (σ : St) (L : List En) : Prop extends WF.C W σ L where
  si : ∀ x ∈ W.S, x.1 ∈ I
theorem WF.CS.fix {W : WF} {I : List Nat} {σ σ' : St} {L : List En} (c : W.CS I σ L) (f : Fix I σ σ') : W.CS I σ' L := ⟨⟨c.fr, fun x hx => (f.2 _ (c.si x hx)).trans (c.st x hx)⟩, c.si⟩
theorem WF.CS.more {W : WF} {I J : List Nat} {σ : St} {L : List En} (c : W.CS I σ L) (E : List En) (h : ∀ i ∈ I, i ∈ J) : W.CS J σ (E ++ L) := ⟨c.toC.up E, fun x hx => h _ (c.si x hx)⟩
theorem WF.CS.zero {w : WX} {I : List Nat} {σ : St} {L : List En} : (WF.of w).CS I σ L := ⟨.zero, (fun _ h => nomatch h)⟩
inductive Fl where
  | nx | ret (d : D) (f : Bool) | bk | ct
abbrev ES := Rho → Res Fl
def PstS (I : List Nat) (K : PySem.W.Frag) (mg : Str → Option Value) (W : WF) (σ : St) (L : List En) (r : Res Fl) (D : Ends) : Prop := match r with
  | .ok .nx ρ => ∀ σ' H, Here K σ' ρ L H → Fix I σ σ' → D.nx σ' H
  | .ok .bk ρ => ∀ σ' H, Here K σ' ρ L H → Fix I σ σ' → D.bk σ' H
  | .ok .ct ρ => ∀ σ' H, Here K σ' ρ L H → Fix I σ σ' → D.ct σ' H
  | .ok (.ret d f) ρ => ∀ v σ' H, Here K σ' ρ ((v, d, f) :: L) H → Fix I σ σ' → D.rt v H
  | .ex x ρ => ∀ cls dd σ' H, Here K σ' ρ L H → Fix I σ σ' → XIs K mg x cls dd H (· ∈ OwnA (ents σ' ρ ++ L)) → W.w cls dd σ' H
  | .stuck => False
def rS (I : List Nat) (K : PySem.W.Frag) (mg : Str → Option Value) (W : WF) (m : ES) : TS := fun D σ H => ∃ ρ L, W.CS I σ L ∧ Here K σ ρ L H ∧ PstS I K mg W σ L (m ρ) D
def SS (X : Cx) (W : WF) (I : List Nat) (s : Stmt) (m : ES) : Prop := PS X s (rS I X.K X.mg W m)
def SB (X : Cx) (W : WF) (I : List Nat) (s : List Stmt) (m : ES) : Prop := PSs X s (rS I X.K X.mg W m)
section
variable {I : List Nat} {K : PySem.W.Frag} {mg : Str → Option Value} {W : WF} {σ σ1 : St} {ρ : Rho} {L : List En} {H : Hp} {D : Ends}
theorem PstS.shift {r : Res Fl} (h : PstS I K mg W σ L r D) (f : Fix I σ σ1) : PstS I K mg W σ1 L r D := by
  cases r with
  | ok a ρ =>
    cases a with
    | nx => exact fun σ' H hh f' => h σ' H hh (f.trans f')
    | bk => exact fun σ' H hh f' => h σ' H hh (f.trans f')
    | ct => exact fun σ' H hh f' => h σ' H hh (f.trans f')
    | ret d fl => exact fun v σ' H hh f' => h v σ' H hh (f.trans f')
  | ex x ρ => exact fun cls dd σ' H hh f' => h cls dd σ' H hh (f.trans f')
  | stuck => exact h
/-- an expression, then the rest of a statement -/
theorem thnS {α β : Type} {en : α → β → List En} {co : St → α → β → Prop} {ma : Rho → Res α} {k : α → Rho → Res Fl} {R : β → Hp → Prop}
    (cc : W.CS I σ L) (E : List En) (hh : Here K σ ρ (E ++ L) H) (h : PstS I K mg W σ L ((ma ρ).bind k) D)
    (hR : ∀ a b ρ1 H1, Here K σ ρ1 (en a b ++ (E ++ L)) H1 → co σ a b → PstS I K mg W σ L (k a ρ1) D → R b H1) : rd en co K mg W ma σ H R := by
  refine ⟨ρ, E ++ L, cc.toC.up E, hh, ?_⟩
  cases e : ma ρ with
  | ok a ρ1 =>
    rw [e] at h
    exact fun b H1 h1 c => hR a b ρ1 H1 h1 c h
  | ex x ρ1 =>
    rw [e] at h
    intro cls dd H1 h1 hx
    refine h cls dd σ H1 h1.drop Fix.refl (hx.mono fun a ha => ?_)
    rw [OwnA_append] at ha ⊢
    rcases List.mem_append.mp ha with z | z
    · exact List.mem_append_left _ z
    · rw [OwnA_append]
      exact List.mem_append_right _ (List.mem_append_right _ z)
  | stuck =>
    rw [e] at h
    exact h.elim
theorem PstS.opt {γ : Type} {o : Option γ} {k : γ → Res Fl} (h : PstS I K mg W σ L (opt o k) D) : ∃ x, o = some x ∧ PstS I K mg W σ L (k x) D := by
  cases o with
  | none => exact h.elim
  | some x => exact ⟨x, rfl, h⟩
end
section
variable {X : Cx} {W : WF} {I : List Nat} {e a b c : Expr} {st : Stmt} {sts : List Stmt} {m ma mb mc : EE} {tc : ET} {ms m1 m2 : ES} {pos p2 : Pos}
def mSkip : ES := fun ρ => .ok .nx ρ
def mSeq (m k : ES) : ES := fun ρ => match m ρ with
  | .ok .nx ρ1 => k ρ1
  | r => r
theorem sb_nil : SB X W I [] mSkip := PSs.imp pss_nil fun D σ H ⟨ρ, L, cc, hh, h⟩ => h σ H hh Fix.refl
theorem sb_cons (h1 : SS X W I st m1) (h2 : SB X W I sts m2) : SB X W I (st :: sts) (mSeq m1 m2) := PSs.imp (pss_cons h1 h2) fun D σ H ⟨ρ, L, cc, hh, h⟩ => by
  refine ⟨ρ, L, cc, hh, ?_⟩
  unfold mSeq at h
  cases e : m1 ρ with
  | ok a ρ1 =>
    rw [e] at h
    cases a with
    | nx => exact fun σ' H' hh' f => ⟨ρ1, L, cc.fix f, hh', PstS.shift h f⟩
    | bk => exact h
    | ct => exact h
    | ret d fl => exact h
  | ex x ρ1 => rw [e] at h; exact h
  | stuck => rw [e] at h; exact h
theorem sb_one (h1 : SS X W I st m1) : SB X W I [st] m1 := pss_one h1
theorem ss_pass : SS X W I (.Pass pos) mSkip := PS.imp ps_pass fun D σ H ⟨ρ, L, cc, hh, h⟩ => h σ H hh Fix.refl
theorem ss_break : SS X W I (.Break pos) (fun ρ => .ok .bk ρ) := PS.imp ps_break fun D σ H ⟨ρ, L, cc, hh, h⟩ => h σ H hh Fix.refl
theorem ss_continue : SS X W I (.Continue pos) (fun ρ => .ok .ct ρ) := PS.imp ps_continue fun D σ H ⟨ρ, L, cc, hh, h⟩ => h σ H hh Fix.refl
def mDrop (m : EE) : ES := fun ρ => (m ρ).bind fun _ ρ1 => .ok .nx ρ1
theorem ss_expr (h : SE X W e m) (hs : swapsWith e none pos.line X.env = pure false := by rfl) : SS X W I (.Expr e pos) (mDrop m) := PS.imp (ps_expr h hs) fun D σ H ⟨ρ, L, cc, hh, h⟩ =>
  thnS cc [] hh h fun o v ρ1 H1 h1 c1 q => q σ H1 h1.drop Fix.refl
def mRet (m : EE) : ES := fun ρ => (m ρ).bind fun o ρ1 => match o with
  | .tmp d f => .ok (.ret d f) ρ1
  | .slt _ => .stuck
theorem ss_ret (h : SE X W e m) : SS X W I (.Return (some e) pos) (mRet m) := PS.imp (ps_ret h) fun D σ H ⟨ρ, L, cc, hh, h⟩ =>
  thnS cc [] hh h fun o v ρ1 H1 h1 c1 q => by
    cases o with
    | tmp d f => exact q v σ H1 h1 Fix.refl
    | slt i => exact q.elim
def mRetN : ES := fun ρ => .ok (.ret .non false) ρ
theorem ss_retN : SS X W I (.Return none pos) mRetN := PS.imp ps_retN fun D σ H ⟨ρ, L, cc, hh, h⟩ => h .non σ H (here_scal hh fun _ => rfl) Fix.refl
def mIf (t : ET) (m1 m2 : ES) : ES := fun ρ => (t ρ).bind fun k ρ1 => match k with
  | true => m1 ρ1
  | false => m2 ρ1
theorem ss_if {aa bb : List Stmt} (hc : ST X W c tc) (ha : SB X W I aa m1) (hb : SB X W I bb m2) : SS X W I (.If c aa bb pos) (mIf tc m1 m2) := PS.imp (ps_if hc ha hb) fun D σ H ⟨ρ, L, cc, hh, h⟩ =>
  thnS cc [] hh h fun k k' ρ1 H1 h1 c1 q => by
    subst c1
    cases k with
    | true => exact iteT ⟨ρ1, L, cc, h1, q⟩
    | false => exact iteF ⟨ρ1, L, cc, h1, q⟩
def asgK (t : TgM) (o : O) (ρ1 : Rho) : Res Fl := match o with
  | .tmp d f => opt (t d f ρ1) fun ρ2 => .ok .nx ρ2
  | .slt _ => .stuck
def mAsg (m : EE) (t : TgM) : ES := fun ρ => (m ρ).bind (asgK t)
theorem asg_fin {t : TgM} {D : Ends} {σ : St} {ρ1 : Rho} {L : List En} {H1 : Hp} {v : V} {o : O} (h1 : Here X.K σ ρ1 (oen v o ++ L) H1) (q : PstS I X.K X.mg W σ L (asgK t o ρ1) D) : rG I X.K t v σ H1 D.nx := by
  cases o with
  | tmp d f =>
    obtain ⟨ρ2, e1, q⟩ := PstS.opt q
    exact ⟨ρ1, L, d, f, ρ2, h1, e1, fun σ' h' f' => q σ' H1 h' f'⟩
  | slt i => exact q.elim
theorem ss_asg {tg : Expr} {t : TgM} (h : SE X W e m) (hg : SG X I tg t) (hs : swapsWithSole [tg] e pos.line X.env = pure false := by rfl) (hw : swappedStores [tg] e X.env = pure none := by rfl)
    (h1 : (assignEach [tg] X.env).map (·.2) = [assign tg X.env] := by rfl) : SS X W I (.Assign [tg] e pos) (mAsg m t) := PS.imp (ps_asg h hg hs hw h1) fun D σ H ⟨ρ, L, cc, hh, h⟩ =>
  thnS cc [] hh h fun o v ρ1 H1 h1 c1 q => asg_fin h1 q
end
end LL

set_option Elab.async false
set_option linter.all false
set_option maxRecDepth 100000
/-! LayD: what is walked, for, while, list comprehensions. -/
namespace LL
open PySem L2

/-! ### what is walked -/
/-- the iterator J gives the data ds, as long as the entries E stand -/
structure Wk (K : PySem.W.Frag) (J : It) (E : List En) (ds : List D) : Prop where
  go : ∀ (i : Nat) (L : List En) (H : Hp), i < ds.length → Rep K (E ++ L) H → J.go i H
  stop : ∀ (i : Nat) (L : List En) (H : Hp), ds.length ≤ i → Rep K (E ++ L) H → J.stop i H
  yld : ∀ (i : Nat) (L : List En) (H : Hp) (x : V) (H' : Hp) (d : D), ds[i]? = some d → Rep K (E ++ L) H → J.yld i H x H' → Rep K ((x, d, false) :: (E ++ L)) H'
/-- a slot to be filled again behind the loop -/
abbrev Bk := Option (Nat × D × Bool)
def BkIs (σ : St) (E : List En) : Bk → Prop
  | none => True
  | some (i, d, f) => ∃ v, E = [(v, d, f)] ∧ σ[i]? = some (some v)
def restore (b : Bk) (ρ : Rho) : Rho := match b with
  | none => ρ
  | some (i, d, f) => ρ.set i (some (d, f))
abbrev EI := Rho → Res (List D × Bk)
def PstI (J : List Nat) (K : PySem.W.Frag) (mg : Str → Option Value) (W : WF) (σ : St) (L : List En) (r : Res (List D × Bk)) (R : It → Hp → Prop) : Prop := match r with
  | .ok (ds, b) ρ => ∀ Ji E H, Here K σ ρ (E ++ L) H → Wk K Ji E ds → BkIs σ E b → (∀ x, b = some x → x.1 ∈ J) → R Ji H
  | .ex x ρ => ∀ cls dd H, Here K σ ρ L H → XIs K mg x cls dd H (· ∈ OwnA (ents σ ρ ++ L)) → W.w cls dd σ H
  | .stuck => False
def rI (J : List Nat) (K : PySem.W.Frag) (mg : Str → Option Value) (W : WF) (m : EI) : TI := fun σ H R => ∃ ρ L, W.C σ L ∧ Here K σ ρ L H ∧ PstI J K mg W σ L (m ρ) R
def SI (X : Cx) (W : WF) (J : List Nat) (tg iter : Expr) (m : EI) : Prop := PI X tg iter (rI J X.K X.mg W m)
theorem PI.imp {X : Cx} {tg e : Expr} {t t' : TI} (h : PI X tg e t) (k : ∀ σ H R, t' σ H R → t σ H R) : PI X tg e t' := ⟨fun pins s σ H R I q => h.run pins s σ H R I (k σ H R q)⟩
theorem thnI {α β : Type} {en : α → β → List En} {co : St → α → β → Prop} {ma : Rho → Res α} {k : α → Rho → Res (List D × Bk)} {R : It → Hp → Prop} {Q : β → Hp → Prop} {J : List Nat} {K : PySem.W.Frag} {mg : Str → Option Value} {W : WF} {σ : St} {ρ : Rho} {L : List En} {H : Hp}
    (cc : W.C σ L) (hh : Here K σ ρ L H) (h : PstI J K mg W σ L ((ma ρ).bind k) R)
    (hR : ∀ a b ρ1 H1, Here K σ ρ1 (en a b ++ L) H1 → co σ a b → PstI J K mg W σ L (k a ρ1) R → Q b H1) : rd en co K mg W ma σ H Q := by
  refine ⟨ρ, L, cc, hh, ?_⟩
  cases e : ma ρ with
  | ok a ρ1 =>
    rw [e] at h
    exact fun b H1 h1 c => hR a b ρ1 H1 h1 c h
  | ex x ρ1 =>
    rw [e] at h
    exact h
  | stuck =>
    rw [e] at h
    exact h.elim
theorem PstI.opt {γ : Type} {J : List Nat} {K : PySem.W.Frag} {mg : Str → Option Value} {W : WF} {σ : St} {L : List En} {R : It → Hp → Prop} {o : Option γ} {k : γ → Res (List D × Bk)} (h : PstI J K mg W σ L (opt o k) R) : ∃ x, o = some x ∧ PstI J K mg W σ L (k x) R := by
  cases o with
  | none => exact h.elim
  | some x => exact ⟨x, rfl, h⟩

/-- a list, a tuple or a text, as it comes -/
def iSeq (K : PySem.W.Frag) (tl : TE) : TI := fun σ H R => tl σ H fun x H1 =>
  (∃ a, x = .ref a ∧ (∃ xs, SqL K H1 a xs) ∧ R (Itl K a) H1) ∨ (∃ a, x = .ref a ∧ (∃ xs, SqT K H1 a xs) ∧ R (Itt K a) H1) ∨ ∃ z, x = .str z ∧ R (Its z) H1
theorem pi_seq {X : Cx} {tg l : Expr} {tl : TE} (hl : PE X l tl) : PI X tg l (iSeq X.K tl) := by
  refine ⟨fun pins s σ H R I h => L2.thn (hl.run pins s σ H _ I h) fun v s1 q1 => ?_⟩
  obtain ⟨x, H1, I1, r1, (⟨a, rfl, ⟨xs, hq⟩, q⟩ | ⟨a, rfl, ⟨xs, hq⟩, q⟩ | ⟨z, rfl, q⟩)⟩ := q1
  · obtain rfl : v = .ref a := r1
    obtain ⟨its, _, pl, _⟩ := I1.list hq
    exact wpAny_pyIter_list pl.isList (pi_one (tk := s1.toks) I1 _ (turn_list a _) ⟨_, Heap.get?_push_size _ rfl, rfl, rfl⟩ q)
  · obtain rfl : v = .ref a := r1
    obtain ⟨its, _, pl, _⟩ := I1.tuple hq
    exact wpAny_pyIter_tuple (show s1.heap.IsTuple a its.toArray from pl) (pi_one (tk := s1.toks) I1 _ (turn_tuple a _) ⟨_, Heap.get?_push_size _ rfl, rfl, rfl⟩ q)
  · obtain ⟨t, rfl⟩ := r1
    cases hx : z.cps.all (· < 128) with
    | false => exact wpAny_pyIter_wide hx (pi_one (tk := s1.toks) I1 _ (turn_str _ z t "str_iterator" (.inr rfl)) ⟨_, Heap.get?_push_size _ rfl, rfl, rfl⟩ q)
    | true => exact wpAny_pyIter_ascii hx (pi_one (tk := s1.toks) I1 _ (turn_str _ z t "str_ascii_iterator" (.inl rfl)) ⟨_, Heap.get?_push_size _ rfl, rfl, rfl⟩ q)
def signs (z : Str) : List D := z.cps.toList.map fun c => .str ⟨#[c]⟩
def itemsOf : D → Option (List D)
  | .lst l => some l
  | .tup l => some l
  | .rol l => some l
  | .str z => some (signs z)
  | _ => none
theorem rep_it {K : PySem.W.Frag} {H : Hp} {L : List En} {ds : List D} {ws : List V} {i : Nat} {x : V} {d : D} (R : Rep K L H) (h : Dats K H (· ∈ OwnA L) ds ws) (hd : ds[i]? = some d) (hx : ws[i]? = some x) : Rep K ((x, d, false) :: L) H := by
  obtain ⟨v, hv, hdat⟩ := h.get hd
  rw [hx] at hv
  cases hv
  exact R.add hdat
theorem wk_lst {K : PySem.W.Frag} {a : Addr} {ds : List D} {f : Bool} : Wk K (Itl K a) [(.ref a, .lst ds, f)] ds where
  go := fun i L H hi R => by
    obtain ⟨b, ws, e, h1, h2⟩ := R.list (p := .ref a) (ds := ds) (f := f) (by simp)
    cases e
    have hi' : i < ws.length := by rw [h2.length]; exact hi
    exact ⟨ws, ws[i], .inl (.inl h1), List.getElem?_eq_getElem hi'⟩
  stop := fun i L H hi R => by
    obtain ⟨b, ws, e, h1, h2⟩ := R.list (p := .ref a) (ds := ds) (f := f) (by simp)
    cases e
    exact ⟨ws, .inl (.inl h1), by rw [h2.length]; exact hi⟩
  yld := fun i L H x H' d hd R y => by
    obtain ⟨rfl, y⟩ := y
    obtain ⟨b, ws, e, h1, h2⟩ := R.list (p := .ref a) (ds := ds) (f := f) (by simp)
    cases e
    exact rep_it R h2 hd (y ws (.inl (.inl h1)))
theorem wk_rol {K : PySem.W.Frag} {a : Addr} {ds : List D} {f : Bool} : Wk K (Itl K a) [(.ref a, .rol ds, f)] ds where
  go := fun i L H hi R => by
    obtain ⟨b, ws, e, h1, h2⟩ := R.rlist (p := .ref a) (ds := ds) (f := f) (by simp)
    cases e
    have hi' : i < ws.length := by rw [h2.length]; exact hi
    exact ⟨ws, ws[i], h1, List.getElem?_eq_getElem hi'⟩
  stop := fun i L H hi R => by
    obtain ⟨b, ws, e, h1, h2⟩ := R.rlist (p := .ref a) (ds := ds) (f := f) (by simp)
    cases e
    exact ⟨ws, h1, by rw [h2.length]; exact hi⟩
  yld := fun i L H x H' d hd R y => by
    obtain ⟨rfl, y⟩ := y
    obtain ⟨b, ws, e, h1, h2⟩ := R.rlist (p := .ref a) (ds := ds) (f := f) (by simp)
    cases e
    exact rep_it R h2 hd (y ws h1)
theorem wk_tup {K : PySem.W.Frag} {a : Addr} {ds : List D} {f : Bool} : Wk K (Itt K a) [(.ref a, .tup ds, f)] ds where
  go := fun i L H hi R => by
    obtain ⟨b, ws, e, h1, h2⟩ := R.tuple (p := .ref a) (ds := ds) (f := f) (by simp)
    cases e
    have hi' : i < ws.length := by rw [h2.length]; exact hi
    exact ⟨ws, ws[i], h1, List.getElem?_eq_getElem hi'⟩
  stop := fun i L H hi R => by
    obtain ⟨b, ws, e, h1, h2⟩ := R.tuple (p := .ref a) (ds := ds) (f := f) (by simp)
    cases e
    exact ⟨ws, h1, by rw [h2.length]; exact hi⟩
  yld := fun i L H x H' d hd R y => by
    obtain ⟨rfl, y⟩ := y
    obtain ⟨b, ws, e, h1, h2⟩ := R.tuple (p := .ref a) (ds := ds) (f := f) (by simp)
    cases e
    exact rep_it R h2 hd (y ws h1)
theorem wk_str {K : PySem.W.Frag} {z : Str} {E : List En} : Wk K (Its z) E (signs z) where
  go := fun i L H hi R => by
    have : i < z.cps.size := by simpa [signs] using hi
    exact this
  stop := fun i L H hi R => by
    have : z.cps.size ≤ i := by simpa [signs] using hi
    exact this
  yld := fun i L H x H' d hd R y => by
    obtain ⟨rfl, c, hc, rfl⟩ := y
    refine R.add ?_
    unfold signs at hd
    rw [List.getElem?_map, Array.getElem?_toList, hc] at hd
    cases hd
    rfl
theorem wk_rng {K : PySem.W.Frag} {lo : Int} {n : Nat} {E : List En} : Wk K (Itr lo n) E ((List.range n).map fun i => .int (lo + (i : Nat))) where
  go := fun i L H hi R => by
    have : i < n := by simpa using hi
    exact this
  stop := fun i L H hi R => by
    have : n ≤ i := by simpa using hi
    exact this
  yld := fun i L H x H' d hd R y => by
    obtain ⟨rfl, rfl⟩ := y
    refine R.add ?_
    rw [List.getElem?_map] at hd
    cases e : (List.range n)[i]? with
    | none => rw [e] at hd; cases hd
    | some j =>
      rw [e] at hd
      obtain ⟨h1, h2⟩ := List.getElem?_eq_some_iff.mp e
      rw [List.getElem_range] at h2
      subst h2
      cases hd
      rfl
section
variable {X : Cx} {W : WF} {J : List Nat} {tg e : Expr} {m : EE} {ms : EA} {pos p2 : Pos}
/-- a sequence is walked; one that stands in a slot (of J) is moved out meanwhile -/
def itK (J : List Nat) (o : O) (ρ : Rho) : Res (List D × Bk) := match o with
  | .tmp d _ => opt (itemsOf d) fun ds => .ok (ds, none) ρ
  | .slt i => opt (at_ ρ i) fun x => opt (itemsOf x.1) fun ds => if J.contains i then .ok (ds, some (i, x.1, x.2)) (ρ.set i none) else .stuck
def mIt (J : List Nat) (m : EE) : EI := fun ρ => (m ρ).bind (itK J)
theorem seq_fin {K : PySem.W.Frag} {R : It → Hp → Prop} {L : List En} {H : Hp} {x : V} {d : D} {f : Bool} {ds : List D} (Rp : Rep K ((x, d, f) :: L) H) (hi : itemsOf d = some ds) (q : ∀ Ji, Wk K Ji [(x, d, f)] ds → R Ji H) :
    (∃ a, x = .ref a ∧ (∃ xs, SqL K H a xs) ∧ R (Itl K a) H) ∨ (∃ a, x = .ref a ∧ (∃ xs, SqT K H a xs) ∧ R (Itt K a) H) ∨ ∃ z, x = .str z ∧ R (Its z) H := by
  cases d with
  | lst l =>
    cases hi
    obtain ⟨a, ws, e, h1, h2⟩ := Rp.list (p := x) (ds := ds) (f := f) (by simp)
    subst e
    exact .inl ⟨a, rfl, ⟨ws, .inl (.inl h1)⟩, q _ wk_lst⟩
  | rol l =>
    cases hi
    obtain ⟨a, ws, e, h1, h2⟩ := Rp.rlist (p := x) (ds := ds) (f := f) (by simp)
    subst e
    exact .inl ⟨a, rfl, ⟨ws, h1⟩, q _ wk_rol⟩
  | tup l =>
    cases hi
    obtain ⟨a, ws, e, h1, h2⟩ := Rp.tuple (p := x) (ds := ds) (f := f) (by simp)
    subst e
    exact .inr (.inl ⟨a, rfl, ⟨ws, h1⟩, q _ wk_tup⟩)
  | str z =>
    cases hi
    have e := Rp.str (p := x) (i := z) (f := f) (by simp)
    subst e
    exact .inr (.inr ⟨z, rfl, q _ wk_str⟩)
  | _ => cases hi
theorem si_seq (h : SE X W e m) : SI X W J tg e (mIt J m) := PI.imp (pi_seq h) fun σ H R ⟨ρ, L, cc, hh, h⟩ => by
  refine thnI cc hh h fun o x ρ1 H1 h1 c1 q => ?_
  cases o with
  | tmp d f =>
    obtain ⟨ds, e1, q⟩ := PstI.opt (show PstI _ _ _ _ _ _ (opt (itemsOf d) _) _ from q)
    exact seq_fin (h1.rep.perm List.perm_middle) e1 fun Ji wk => q Ji [(x, d, f)] H1 h1 wk trivial fun x z => by cases z
  | slt i =>
    obtain ⟨y, e1, q⟩ := PstI.opt (show PstI _ _ _ _ _ _ (opt (at_ ρ1 i) _) _ from q)
    obtain ⟨ds, e2, q⟩ := PstI.opt q
    have h2 := here_mv h1 c1 (at_some e1)
    split at q
    · rename_i hc
      refine seq_fin (h2.rep.perm List.perm_middle) e2 fun Ji wk => q Ji [(x, y.1, y.2)] H1 h2 wk ⟨x, rfl, c1⟩ fun z e => ?_
      cases e
      exact List.contains_iff_mem.mp hc
    · exact q.elim
def rngOk (i j : Int) : Bool := decide (-(2 ^ 62) ≤ i ∧ i < 2 ^ 62 ∧ -(2 ^ 62) ≤ j ∧ j < 2 ^ 62)
def rngD (i j : Int) : List D := (List.range (j - i).toNat).map fun k => .int (i + (k : Nat))
def rngK1 (os : List O) (ρ : Rho) : Res (List D × Bk) := opt (looks ρ os) fun ds => match ds with
  | [.int j] => if rngOk 0 j then .ok (rngD 0 j, none) ρ else .stuck
  | _ => .stuck
def rngK2 (os : List O) (ρ : Rho) : Res (List D × Bk) := opt (looks ρ os) fun ds => match ds with
  | [.int i, .int j] => if rngOk i j then .ok (rngD i j, none) ρ else .stuck
  | _ => .stuck
def mRng1 (ms : EA) : EI := fun ρ => (ms ρ).bind rngK1
def mRng2 (ms : EA) : EI := fun ρ => (ms ρ).bind rngK2
theorem Sees.one {T : List En} : ∀ {vs : List V} {d : D}, Sees T vs [d] → ∃ v f, vs = [v] ∧ (v, d, f) ∈ T
  | [], _, h => h.elim
  | [v], d, h => ⟨v, h.1.choose, rfl, h.1.choose_spec⟩
  | v :: w :: vs, d, h => h.2.elim
theorem Sees.two {T : List En} : ∀ {vs : List V} {d d' : D}, Sees T vs [d, d'] → ∃ v v' f f', vs = [v, v'] ∧ (v, d, f) ∈ T ∧ (v', d', f') ∈ T
  | [], _, _, h => h.elim
  | [v], d, _, h => h.2.elim
  | [v, w], d, _, h => ⟨v, w, h.1.choose, h.2.1.choose, rfl, h.1.choose_spec, h.2.1.choose_spec⟩
  | v :: w :: u :: vs, d, _, h => h.2.2.elim
theorem si_rng1 {a : Expr} (hm : X.mg "range" = none) (ha : SA X W [a] ms) (hg : Gl X "range" := by rfl) (hs : starEach [a] X.env = [(false, eval a X.env)] := by rfl) : SI X W J tg (.Call (.Name "range" p2) [a] [] pos) (mRng1 ms) :=
  PI.imp (pi_range1 hg hm ha hs) fun σ H R ⟨ρ, L, cc, hh, h⟩ => by
    refine thnI cc hh h fun os vs ρ1 H1 h1 c1 q => ?_
    obtain ⟨ds, e1, q⟩ := PstI.opt (show PstI _ _ _ _ _ _ (opt (looks ρ1 os) _) _ from q)
    have sees := looks_mem (T := ents σ ρ1 ++ (oens vs os ++ L)) c1 e1 (fun e he => by simp [he]) (fun e he => by simp [he])
    split at q
    · rename_i j
      obtain ⟨v, f, rfl, hm⟩ := sees.one
      split at q
      · rename_i hr
        obtain ⟨_, _, b3, b4⟩ := of_decide_eq_true hr
        refine ⟨j, by rw [h1.rep.int hm], b3, b4, q (Itr 0 j.toNat) [] H1 h1.drop ?_ trivial fun x z => by cases z⟩
        have := wk_rng (K := X.K) (lo := 0) (n := j.toNat) (E := [])
        unfold rngD
        rw [show j - 0 = j by omega]
        exact this
      · exact q.elim
    · exact q.elim
theorem si_rng2 {a b : Expr} (hm : X.mg "range" = none) (ha : SA X W [a, b] ms) (hg : Gl X "range" := by rfl) (hs : starEach [a, b] X.env = [(false, eval a X.env), (false, eval b X.env)] := by rfl) (hs2 : starEach [b] X.env = [(false, eval b X.env)] := by rfl) : SI X W J tg (.Call (.Name "range" p2) [a, b] [] pos) (mRng2 ms) :=
  PI.imp (pi_range2 hg hm ha hs hs2) fun σ H R ⟨ρ, L, cc, hh, h⟩ => by
    refine thnI cc hh h fun os vs ρ1 H1 h1 c1 q => ?_
    obtain ⟨ds, e1, q⟩ := PstI.opt (show PstI _ _ _ _ _ _ (opt (looks ρ1 os) _) _ from q)
    have sees := looks_mem (T := ents σ ρ1 ++ (oens vs os ++ L)) c1 e1 (fun e he => by simp [he]) (fun e he => by simp [he])
    split at q
    · rename_i i j
      obtain ⟨v, v', f, f', rfl, hm, hm'⟩ := sees.two
      split at q
      · rename_i hr
        refine ⟨i, j, by rw [h1.rep.int hm, h1.rep.int hm'], of_decide_eq_true hr, q (Itr i (j - i).toNat) [] H1 h1.drop wk_rng trivial fun x z => by cases z⟩
      · exact q.elim
    · exact q.elim
end

/-! ### for -/
section
variable {X : Cx} {W : WF} {I J : List Nat} {tg e : Expr} {mi : EI} {t : TgM} {mb : ES} {body : List Stmt} {pos p2 : Pos} {K : PySem.W.Frag} {mg : Str → Option Value} {σ σ1 : St} {ρ : Rho} {L E : List En} {H : Hp} {D : Ends}
theorem here_back {b : Bk} (hh : Here K σ1 ρ (E ++ L) H) (hb : BkIs σ E b) (hj : ∀ x, b = some x → x.1 ∈ J) (hf : Fix J σ σ1) : Here K σ1 (restore b ρ) L H ∧ ∀ a, a ∈ OwnA (ents σ1 (restore b ρ) ++ L) → a ∈ OwnA (ents σ1 ρ ++ (E ++ L)) := by
  cases b with
  | none =>
    refine ⟨hh.drop, fun a ha => ?_⟩
    refine OwnA_sub (fun e he => ?_) ha
    rcases List.mem_append.mp he with z | z
    · exact List.mem_append_left _ z
    · exact List.mem_append_right _ (List.mem_append_right _ z)
  | some x =>
    obtain ⟨i, d, f⟩ := x
    obtain ⟨v, rfl, hv⟩ := hb
    have hv1 : σ1[i]? = some (some v) := (hf.2 i (hj _ rfl)).trans hv
    have hl : i < ρ.length := by
      rw [hh.al.len]
      exact (List.getElem?_eq_some_iff.mp hv1).1
    have p1 : (ents σ1 (ρ.set i (some (d, f))) ++ L).Perm (ents σ1 (ρ.set i none) ++ ([(v, d, f)] ++ L)) :=
      ((ents_set (d := d) (f := f) hv1 hl).append_right L).trans (List.perm_middle.symm)
    have s1 : (ents σ1 (ρ.set i none) ++ ([(v, d, f)] ++ L)).Sublist (ents σ1 ρ ++ ([(v, d, f)] ++ L)) := (ents_drop σ1 ρ i).append (List.Sublist.refl _)
    refine ⟨⟨hh.al.set ⟨v, hv1⟩, (hh.rep.sublist s1).perm p1.symm⟩, fun a ha => OwnA_sub (fun e he => s1.subset (p1.mem_iff.mp he)) ha⟩
def Res.rest (r : Res Fl) (b : Bk) : Res Fl := match r with
  | .ok a ρ => .ok a (restore b ρ)
  | .ex x ρ => .ex x (restore b ρ)
  | .stuck => .stuck
def loopM (t : TgM) (body : ES) : List LL.D → Rho → Res Fl
  | [], ρ => .ok .nx ρ
  | d :: ds, ρ => match t d false ρ with
    | none => .stuck
    | some ρ1 => match body ρ1 with
      | .ok .nx ρ2 => loopM t body ds ρ2
      | .ok .ct ρ2 => loopM t body ds ρ2
      | .ok .bk ρ2 => .ok .nx ρ2
      | .ok (.ret d f) ρ2 => .ok (.ret d f) ρ2
      | .ex x ρ2 => .ex x ρ2
      | .stuck => .stuck
def mFor (mi : EI) (t : TgM) (body : ES) : ES := fun ρ => (mi ρ).bind fun x ρ1 => (loopM t body x.1 ρ1).rest x.2
theorem ss_for (hp : PassesOwn (model X.prog X.w) X.A X.env X.xe) (hc : X.calm = true) (hi : SI X W J tg e mi) (hg : SG X (J ++ I) tg t) (hb : SB X W (J ++ I) body mb) (hs : ∀ x, foldedSetIterable e X.env x = pure x := by intro _; rfl) :
    SS X W I (.For tg e body [] pos) (mFor mi t mb) := PS.imp (ps_for hp hc hi hg hb hs) fun D σ H ⟨ρ, L, cc, hh, h⟩ => by
  refine ⟨ρ, L, cc.toC, hh, ?_⟩
  unfold mFor at h
  cases e0 : mi ρ with
  | stuck => rw [e0] at h; exact h.elim
  | ex x ρ1 =>
    rw [e0] at h
    exact fun cls dd H1 h1 hx => h cls dd σ H1 h1 Fix.refl hx
  | ok x ρ1 =>
    rw [e0] at h
    obtain ⟨ds, b⟩ := x
    have h : PstS I X.K X.mg W σ L ((loopM t mb ds ρ1).rest b) D := h
    intro Ji E H1 h1 wk hbk hj
    refine ⟨fun i n σ2 H2 => ∃ ρ2, i + n = ds.length ∧ Here X.K σ2 ρ2 (E ++ L) H2 ∧ Fix (J ++ I) σ σ2 ∧ PstS I X.K X.mg W σ L ((loopM t mb (ds.drop i) ρ2).rest b) D, ⟨ds.length, ρ1, by omega, h1, Fix.refl, h⟩, ?_⟩
    rintro i n σ2 H2 ⟨ρ2, en, h2, f2, q⟩
    have fJ : Fix J σ σ2 := f2.mono fun i hi => List.mem_append_left _ hi
    have fI : Fix I σ σ2 := f2.mono fun i hi => List.mem_append_right _ hi
    have R2 : Rep X.K (E ++ (ents σ2 ρ2 ++ L)) H2 := h2.rep.perm (by
      rw [← List.append_assoc, ← List.append_assoc]
      exact List.perm_append_comm.append_right _)
    by_cases hlt : i < ds.length
    · refine .inr ⟨wk.go i _ H2 hlt R2, fun σ' H' => ∃ ρ3, Here X.K σ' ρ3 (E ++ L) H' ∧ Fix (J ++ I) σ σ' ∧ PstS I X.K X.mg W σ L ((loopM t mb (ds.drop (i + 1)) ρ3).rest b) D, fun σ' H' ⟨ρ3, h3, f3, q3⟩ => ⟨n - 1, by omega, ρ3, by omega, h3, f3, q3⟩, fun x H' y => ?_⟩
      have ed : ds[i]? = some ds[i] := List.getElem?_eq_getElem hlt
      have R3 := wk.yld i _ H2 x H' ds[i] ed R2 y
      have h3 : Here X.K σ2 ρ2 ((x, ds[i], false) :: (E ++ L)) H' := ⟨h2.al, R3.perm (by
        refine List.Perm.trans ?_ (List.perm_middle.symm)
        refine List.Perm.cons _ ?_
        rw [← List.append_assoc, ← List.append_assoc]
        exact List.perm_append_comm.append_right _)⟩
      rw [List.drop_eq_getElem_cons hlt] at q
      unfold loopM at q
      cases e1 : t ds[i] false ρ2 with
      | none => rw [e1] at q; exact q.elim
      | some ρ3 =>
        rw [e1] at q
        refine ⟨ρ2, E ++ L, ds[i], false, ρ3, h3, e1, fun σ3 h4 f3 => ⟨ρ3, E ++ L, ((cc.fix fI).more E fun i hi => List.mem_append_right _ hi).fix f3, h4, ?_⟩⟩
        have back : ∀ {σ' : St} {ρ4 : Rho} {L' : List En} {H4 : Hp}, Here X.K σ' ρ4 (E ++ L') H4 → Fix (J ++ I) σ3 σ' → Here X.K σ' (restore b ρ4) L' H4 ∧ ∀ a, a ∈ OwnA (ents σ' (restore b ρ4) ++ L') → a ∈ OwnA (ents σ' ρ4 ++ (E ++ L')) := fun h5 f5 =>
          here_back h5 hbk hj (fJ.trans ((f3.trans f5).mono fun i hi => List.mem_append_left _ hi))
        have fin : ∀ {σ' : St}, Fix (J ++ I) σ3 σ' → Fix I σ σ' := fun f5 => fI.trans ((f3.trans f5).mono fun i hi => List.mem_append_right _ hi)
        cases e2 : mb ρ3 with
        | stuck => simp only [e2] at q; exact q.elim
        | ex x ρ4 =>
          simp only [e2] at q
          exact fun cls dd σ' H5 h5 f5 hx => q cls dd σ' H5 (back h5 f5).1 (fin f5) (hx.mono (back h5 f5).2)
        | ok a ρ4 =>
          cases a with
          | nx =>
            simp only [e2] at q
            exact fun σ' H5 h5 f5 => ⟨ρ4, h5, f2.trans (f3.trans f5), q⟩
          | ct =>
            simp only [e2] at q
            exact fun σ' H5 h5 f5 => ⟨ρ4, h5, f2.trans (f3.trans f5), q⟩
          | bk =>
            simp only [e2] at q
            exact fun σ' H5 h5 f5 => q σ' H5 (back h5 f5).1 (fin f5)
          | ret d f =>
            simp only [e2] at q
            intro v σ' H5 h5 f5
            refine q v σ' H5 (back (h5.perm ?_) f5).1 (fin f5)
            exact (List.perm_middle (l₁ := E)).symm
    · have ei : i = ds.length := by omega
      subst ei
      rw [List.drop_length] at q
      exact .inl ⟨wk.stop _ _ H2 (Nat.le_refl _) R2, q σ2 H2 (here_back h2 hbk hj fJ).1 fI⟩
end
end LL

set_option Elab.async false
set_option linter.all false
set_option maxRecDepth 100000
/-! LayE: while, list comprehensions. -/
namespace LL
open PySem L2
section
variable {X : Cx} {W : WF} {I : List Nat} {c : Expr} {tc : ET} {mb : ES} {body : List Stmt} {pos p2 : Pos}
def mWhl (t : ET) (body : ES) : Nat → ES
  | 0, _ => .stuck
  | n + 1, ρ => (t ρ).bind fun k ρ1 => match k with
    | false => .ok .nx ρ1
    | true => match body ρ1 with
      | .ok .nx ρ2 => mWhl t body n ρ2
      | .ok .ct ρ2 => mWhl t body n ρ2
      | .ok .bk ρ2 => .ok .nx ρ2
      | .ok (.ret d f) ρ2 => .ok (.ret d f) ρ2
      | .ex x ρ2 => .ex x ρ2
      | .stuck => .stuck
theorem ss_while (n : Nat) (hp : PassesOwn (model X.prog X.w) X.A X.env X.xe) (hc : ST X W c tc) (hb : SB X W I body mb) : SS X W I (.While c body [] pos) (mWhl tc mb n) := PS.imp (ps_while hp hc hb) fun D σ H ⟨ρ, L, cc, hh, h⟩ => by
  refine ⟨fun n σ1 H1 => ∃ ρ1, Here X.K σ1 ρ1 L H1 ∧ Fix I σ σ1 ∧ PstS I X.K X.mg W σ L (mWhl tc mb n ρ1) D, ⟨n, ρ, hh, Fix.refl, h⟩, ?_⟩
  rintro n σ1 H1 ⟨ρ1, h1, f1, q⟩
  cases n with
  | zero => exact q.elim
  | succ n =>
    unfold mWhl at q
    refine thnS (cc.fix f1) [] h1 (q.shift f1) fun k k' ρ2 H2 h2 c2 q => ?_
    subst c2
    cases k with
    | false => exact iteF (q σ1 H2 h2 Fix.refl)
    | true =>
      refine iteT ⟨fun σ' H' => ∃ ρ1, Here X.K σ' ρ1 L H' ∧ Fix I σ σ' ∧ PstS I X.K X.mg W σ1 L (mWhl tc mb n ρ1) D, ?_, ρ2, L, cc.fix f1, h2, ?_⟩
      · rintro σ' H' ⟨ρ3, h3, f3, q3⟩
        refine ⟨n, Nat.lt_succ_self n, ρ3, h3, f3, ?_⟩
        exact q3.shift ⟨f1.1.symm, fun i hi => (f1.2 i hi).symm⟩
      · cases e2 : mb ρ2 with
        | stuck => simp only [e2] at q; exact q.elim
        | ex x ρ4 => simp only [e2] at q; exact q
        | ok a ρ4 =>
          cases a with
          | nx => simp only [e2] at q; exact fun σ' H5 h5 f5 => ⟨ρ4, h5, f1.trans f5, q⟩
          | ct => simp only [e2] at q; exact fun σ' H5 h5 f5 => ⟨ρ4, h5, f1.trans f5, q⟩
          | bk => simp only [e2] at q; exact q
          | ret d f => simp only [e2] at q; exact q
end

/-! ### comprehensions -/
def rwipe (ρ : Rho) : List Nat → Rho
  | [] => ρ
  | v :: vs => (rwipe ρ vs).set v none
theorem rwipe_length (ρ : Rho) : ∀ vs : List Nat, (rwipe ρ vs).length = ρ.length
  | [] => rfl
  | v :: vs => by
    unfold rwipe
    rw [List.length_set, rwipe_length ρ vs]
theorem rwipe_some {ρ : Rho} {i : Nat} {x : D × Bool} : ∀ {vs : List Nat}, (rwipe ρ vs)[i]? = some (some x) → ρ[i]? = some (some x) ∧ i ∉ vs
  | [], h => ⟨h, by simp⟩
  | v :: vs, h => by
    unfold rwipe at h
    by_cases e : v = i
    · subst e
      by_cases hl : v < (rwipe ρ vs).length
      · rw [List.getElem?_set_self hl] at h
        cases h
      · rw [List.getElem?_eq_none (by rw [List.length_set]; omega)] at h
        cases h
    · rw [List.getElem?_set_ne e] at h
      obtain ⟨h1, h2⟩ := rwipe_some h
      exact ⟨h1, fun z => (List.mem_cons.mp z).elim (fun z => e z.symm) h2⟩
theorem rwipe_none {ρ : Rho} {i : Nat} : ∀ {vs : List Nat}, i ∈ vs → i < ρ.length → (rwipe ρ vs)[i]? = some none
  | v :: vs, h, hl => by
    unfold rwipe
    by_cases e : v = i
    · subst e
      rw [List.getElem?_set_self (by rw [rwipe_length]; exact hl)]
    · rw [List.getElem?_set_ne e]
      exact rwipe_none ((List.mem_cons.mp h).elim (fun z => absurd z.symm e) id) hl
theorem ents_rwipe (σ : St) (ρ : Rho) : ∀ vs : List Nat, (ents σ (rwipe ρ vs)).Sublist (ents σ ρ)
  | [] => List.Sublist.refl _
  | v :: vs => (ents_drop σ (rwipe ρ vs) v).trans (ents_rwipe σ ρ vs)
/-- slots of which nothing is known may hold anything -/
theorem ents_same : ∀ {σ σ' : St} {ρ : Rho}, σ.length = σ'.length → (∀ (i : Nat) (x : D × Bool), ρ[i]? = some (some x) → σ[i]? = σ'[i]?) → ents σ ρ = ents σ' ρ
  | [], [], ρ, _, _ => rfl
  | [], y :: σ', ρ, h, _ => by simp at h
  | x :: σ, [], ρ, h, _ => by simp at h
  | x :: σ, y :: σ', [], h, _ => by rw [ents_nil, ents_nil]
  | x :: σ, y :: σ', r :: ρ, h, hx => by
    have ih := ents_same (σ := σ) (σ' := σ') (ρ := ρ) (by simpa using h) (fun i z e => by
      have := hx (i + 1) z (by simpa using e)
      simpa using this)
    cases r with
    | none => rw [ents_cons_none, ents_cons_none, ih]
    | some z =>
      have e : x = y := by
        have := hx 0 z (by simp)
        simpa using this
      subst e
      cases x with
      | none => rw [ents_none_cons, ents_none_cons, ih]
      | some w =>
        obtain ⟨d, f⟩ := z
        show (w, d, f) :: ents σ ρ = (w, d, f) :: ents σ' ρ
        rw [ih]
/-- the slots without those of vs -/
def others (n : Nat) (vs : List Nat) : List Nat := (List.range n).filter fun i => !vs.contains i
theorem wipe_get {σ : St} {i : Nat} {vs : List Nat} (h : i ∉ vs) : (wipe σ vs)[i]? = σ[i]? := wipe_out h
theorem wipe_in {σ : St} {i : Nat} : ∀ {vs : List Nat}, i ∈ vs → i < σ.length → (wipe σ vs)[i]? = some none
  | v :: vs, h, hl => by
    unfold wipe
    by_cases e : v = i
    · subst e
      rw [List.getElem?_set_self (by rw [wipe_length]; exact hl)]
    · rw [List.getElem?_set_ne e]
      exact wipe_in ((List.mem_cons.mp h).elim (fun z => absurd z.symm e) id) hl
theorem wipe_eq {σ σ2 : St} {vs : List Nat} (f : Fix (others σ.length vs) (wipe σ vs) σ2) : wipe σ2 vs = wipe σ vs := by
  have hl : σ2.length = σ.length := f.1.trans (wipe_length σ vs)
  apply List.ext_getElem?
  intro i
  by_cases hi : i < σ.length
  · by_cases hv : i ∈ vs
    · rw [wipe_in hv (by omega), wipe_in hv hi]
    · rw [wipe_get hv]
      refine f.2 i (List.mem_filter.mpr ⟨List.mem_range.mpr hi, ?_⟩)
      simp [hv]
  · rw [List.getElem?_eq_none (by rw [wipe_length]; omega), List.getElem?_eq_none (by rw [wipe_length]; omega)]
section
variable {K : PySem.W.Frag} {σ σ2 : St} {ρ : Rho} {L : List En} {H : Hp} {vs : List Nat}
theorem here_in (hh : Here K σ ρ L H) : Here K (wipe σ vs) (rwipe ρ vs) L H := by
  have al : Al (wipe σ vs) (rwipe ρ vs) := ⟨by rw [rwipe_length, wipe_length]; exact hh.al.len, fun i x e => by
    obtain ⟨h1, h2⟩ := rwipe_some e
    rw [wipe_get h2]
    exact hh.al.val i x h1⟩
  refine ⟨al, ?_⟩
  have e : ents (wipe σ vs) (rwipe ρ vs) = ents σ (rwipe ρ vs) := ents_same (wipe_length σ vs) fun i x e => wipe_get (rwipe_some e).2
  rw [e]
  exact hh.rep.sublist ((ents_rwipe σ ρ vs).append (List.Sublist.refl _))
theorem here_out (hh : Here K (wipe σ vs) (rwipe ρ vs) L H) : Here K σ (rwipe ρ vs) L H := by
  refine ⟨⟨by rw [hh.al.len, wipe_length], fun i x e => ?_⟩, ?_⟩
  · obtain ⟨v, hv⟩ := hh.al.val i x e
    rw [wipe_get (rwipe_some e).2] at hv
    exact ⟨v, hv⟩
  · have e : ents (wipe σ vs) (rwipe ρ vs) = ents σ (rwipe ρ vs) := ents_same (wipe_length σ vs) fun i x e => wipe_get (rwipe_some e).2
    have R := hh.rep
    rw [e] at R
    exact R
end
abbrev W0 : WF := WF.of fun _ _ _ _ => False
/-- within a comprehension nothing is raised -/
theorem thn0 {α β : Type} {en : α → β → List En} {co : St → α → β → Prop} {K : PySem.W.Frag} {mg : Str → Option Value} {σ : St} {ρ : Rho} {L : List En} {H : Hp} {ma : Rho → Res α} {k : α → Rho → Prop} {R : β → Hp → Prop}
    (hh : Here K σ ρ L H) (h : match ma ρ with | .ok a ρ1 => k a ρ1 | _ => False)
    (hR : ∀ a b ρ1 H1, Here K σ ρ1 (en a b ++ L) H1 → co σ a b → k a ρ1 → R b H1) : rd en co K mg W0 ma σ H R := by
  refine ⟨ρ, L, .zero, hh, ?_⟩
  cases e : ma ρ with
  | ok a ρ1 =>
    simp only [e] at h
    exact fun b H1 h1 c => hR a b ρ1 H1 h1 c h
  | ex x ρ1 => simp only [e] at h
  | stuck => simp only [e] at h
/-- one turn: the items made so far, the environment -/
def lcTurn (vs : List Nat) (t : TgM) (tt : ET) (me : EE) (d : D) (acc : List D) (ρ : Rho) : Option (List D × Rho) := match t d false ρ with
  | none => none
  | some ρ1 => match tt ρ1 with
    | .ok false ρ2 => some (acc, rwipe ρ2 vs)
    | .ok true ρ2 => match me ρ2 with
      | .ok (.tmp x _) ρ3 => if acc.length < sizeLine then some (acc ++ [x], rwipe ρ3 vs) else none
      | _ => none
    | _ => none
def lcM (vs : List Nat) (t : TgM) (tt : ET) (me : EE) : List D → List D → Rho → Option (List D × Rho)
  | [], acc, ρ => some (acc, ρ)
  | d :: ds, acc, ρ => match lcTurn vs t tt me d acc ρ with
    | none => none
    | some (acc', ρ') => lcM vs t tt me ds acc' ρ'
def mLc (mi : EI) (vs : List Nat) (t : TgM) (tt : ET) (me : EE) : EE := fun ρ => (mi ρ).bind fun x ρ1 => match lcM vs t tt me x.1 [] (rwipe ρ1 vs) with
  | none => .stuck
  | some (acc, ρ2) => .ok (.tmp (.lst acc) true) (restore x.2 ρ2)
/-- the blocks within -/
abbrev Blk (X : Cx) (scope : Scope) (P : Cx → Prop) : Prop := ∀ (s : Shared) (H : Hp) (C : Addr) (cl : List (Str × Addr)) (fp : List Addr), P (X.blk s H scope (compEnvC scope cl C X.env) fp)
def STs (X : Cx) (W : WF) (e : List Expr) (m : ET) : Prop := PTs X e (rT X.K X.mg W m)
theorem PTs.imp {X : Cx} {e : List Expr} {t t' : TT} (h : PTs X e t) (k : ∀ σ H Q, t' σ H Q → t σ H Q) : PTs X e t' := ⟨fun pins s σ H Q I q => h.run pins s σ H Q I (k σ H Q q)⟩
def mYes : ET := fun ρ => .ok true ρ
section
variable {X : Cx} {W : WF} {J : List Nat} {elt tg iter c : Expr} {ifs : List Expr} {scope : Scope} {own : List (Str × Nat)} {mi : EI} {t : TgM} {tt : ET} {me : EE} {pos p2 : Pos}
theorem sts_nil : STs X W [] mYes := PTs.imp pts_nil fun σ H Q ⟨ρ, L, cc, hh, h⟩ => h true H hh rfl
theorem sts_one (h : ST X W c tt) : STs X W [c] tt := pts_one h
theorem lc_fin {K : PySem.W.Frag} {mg : Str → Option Value} {σ : St} {H : Hp} {Q : VK} {vs : List Nat} {n : Nat} {g : TG} {gt : TT} {ge : TE} (hn : σ.length = n) (hg : g = rG (others n vs) K t) (hgt : gt = rT K mg W0 tt) (hge : ge = rE K mg W0 me)
    (hJ : ∀ i ∈ J, i ∈ others n vs) (h : rE K mg W (mLc mi vs t tt me) σ H Q) : tLc (rI J K mg W mi) g gt ge vs σ H Q := by
  subst hg hgt hge
  obtain ⟨ρ, L, cc, hh, h⟩ := h
  refine ⟨ρ, L, cc, hh, ?_⟩
  unfold mLc at h
  cases e0 : mi ρ with
  | stuck => rw [e0] at h; exact h.elim
  | ex x ρ1 => rw [e0] at h; exact h
  | ok x ρ1 =>
    rw [e0] at h
    obtain ⟨ds, b⟩ := x
    have h : PstE K mg W σ L (match lcM vs t tt me ds [] (rwipe ρ1 vs) with
      | none => .stuck
      | some (acc, ρ2) => .ok (.tmp (.lst acc) true) (restore b ρ2)) Q := h
    intro Ji E H1 h1 wk hbk hj
    intro Dl hD
    have R1 : Rep K ((.ref Dl, .lst [], true) :: (ents (wipe σ vs) (rwipe ρ1 vs) ++ (E ++ L))) (upd H1 Dl (.lst [])) := (here_in (vs := vs) h1).rep.newL hD rfl
    refine ⟨fun i n H2 => ∃ ρ2 acc, i + n = ds.length ∧ ρ2.length = σ.length ∧ Here K (wipe σ vs) (rwipe ρ2 vs) ((.ref Dl, .lst acc, true) :: (E ++ L)) H2 ∧ PstE K mg W σ L (match lcM vs t tt me (ds.drop i) acc (rwipe ρ2 vs) with
      | none => .stuck
      | some (acc, ρ2) => .ok (.tmp (.lst acc) true) (restore b ρ2)) Q, ⟨ds.length, ρ1, [], by omega, h1.al.len, ⟨(here_in h1).al, R1.perm (List.perm_middle.symm)⟩, h⟩, ?_⟩
    rintro i n H2 ⟨ρ2, acc, en, hl2, h2, q⟩
    have R2 : Rep K (E ++ ((.ref Dl, .lst acc, true) :: (ents (wipe σ vs) (rwipe ρ2 vs) ++ L))) H2 := h2.rep.perm (by
      refine (List.perm_middle).trans ?_
      refine List.Perm.trans ?_ (List.perm_middle.symm)
      refine List.Perm.cons _ ?_
      rw [← List.append_assoc, ← List.append_assoc]
      exact List.perm_append_comm.append_right _)
    by_cases hlt : i < ds.length
    · refine .inr ⟨wk.go i _ H2 hlt R2, fun H' => ∃ ρ3 acc', ρ3.length = σ.length ∧ Here K (wipe σ vs) (rwipe ρ3 vs) ((.ref Dl, .lst acc', true) :: (E ++ L)) H' ∧ PstE K mg W σ L (match lcM vs t tt me (ds.drop (i + 1)) acc' (rwipe ρ3 vs) with
        | none => .stuck
        | some (acc, ρ2) => .ok (.tmp (.lst acc) true) (restore b ρ2)) Q, fun H' ⟨ρ3, acc', h31, h32, q3⟩ => ⟨n - 1, by omega, ρ3, acc', by omega, h31, h32, q3⟩, fun x H' y => ?_⟩
      have ed : ds[i]? = some ds[i] := List.getElem?_eq_getElem hlt
      have R3 := wk.yld i _ H2 x H' ds[i] ed R2 y
      have h3 : Here K (wipe σ vs) (rwipe ρ2 vs) ((x, ds[i], false) :: ((.ref Dl, .lst acc, true) :: (E ++ L))) H' := ⟨h2.al, R3.perm (by
        refine List.Perm.trans ?_ (List.perm_middle.symm)
        refine List.Perm.cons _ ?_
        refine List.Perm.trans ?_ (List.perm_middle.symm)
        refine (List.perm_middle).trans ?_
        refine List.Perm.cons _ ?_
        rw [← List.append_assoc, ← List.append_assoc]
        exact List.perm_append_comm.append_right _)⟩
      rw [List.drop_eq_getElem_cons hlt] at q
      unfold lcM at q
      cases e1 : lcTurn vs t tt me ds[i] acc (rwipe ρ2 vs) with
      | none => simp only [e1] at q; exact q.elim
      | some z =>
        obtain ⟨acc', ρ'⟩ := z
        simp only [e1] at q
        unfold lcTurn at e1
        cases e2 : t ds[i] false (rwipe ρ2 vs) with
        | none => simp only [e2] at e1; cases e1
        | some ρ3 =>
          simp only [e2] at e1
          refine ⟨rwipe ρ2 vs, (.ref Dl, .lst acc, true) :: (E ++ L), ds[i], false, ρ3, h3, e2, fun σ3 h4 f4 => ⟨wipe_eq (by rw [hn]; exact f4), ?_⟩⟩
          have hw : wipe σ3 vs = wipe σ vs := wipe_eq (by rw [hn]; exact f4)
          have hl3 : σ3.length = σ.length := f4.1.trans (wipe_length σ vs)
          refine thn0 h4 (k := fun k ρ4 => match k with
            | false => some (acc, rwipe ρ4 vs) = some (acc', ρ')
            | true => (match me ρ4 with
              | .ok (.tmp x _) ρ3 => if acc.length < sizeLine then some (acc ++ [x], rwipe ρ3 vs) else none
              | _ => none) = some (acc', ρ')) ?_ fun k k' ρ4 H4 h5 c5 e3 => ?_
          · cases e5 : tt ρ3 with
            | ok k ρ4 =>
              simp only [e5] at e1
              cases k <;> exact e1
            | ex x ρ4 => simp only [e5] at e1; cases e1
            | stuck => simp only [e5] at e1; cases e1
          · subst c5
            cases k with
            | false =>
              simp only at e3
              cases e3
              refine iteF ⟨ρ4, acc, by rw [h5.al.len, hl3], ?_, q⟩
              have h6 := here_in (vs := vs) h5
              rw [hw] at h6
              exact h6
            | true =>
              simp only at e3
              refine iteT (thn0 h5 (k := fun o ρ5 => (match o with
                | .tmp x _ => if acc.length < sizeLine then some (acc ++ [x], rwipe ρ5 vs) else none
                | _ => none) = some (acc', ρ')) ?_ fun o y ρ5 H5 h6 c6 e4 => ?_)
              · cases e5 : me ρ4 with
                | ok o ρ5 =>
                  simp only [e5] at e3
                  cases o <;> exact e3
                | ex x ρ5 => simp only [e5] at e3; cases e3
                | stuck => simp only [e5] at e3; cases e3
              · cases o with
                | slt j => simp only at e4; cases e4
                | tmp xd xf =>
                  simp only at e4
                  split at e4
                  · rename_i hz
                    cases e4
                    have h7 := here_in (vs := vs) h6
                    rw [hw] at h7
                    have R7 : Rep K ((y, xd, xf) :: ((.ref Dl, .lst acc, true) :: (ents (wipe σ vs) (rwipe ρ5 vs) ++ (E ++ L)))) H5 := h7.rep.perm (by
                      refine (List.perm_middle).trans (List.Perm.cons _ ?_)
                      exact List.perm_middle)
                    have R8 := Rep.cool R7
                    have R9 := R8.perm (List.Perm.swap _ _ _)
                    obtain ⟨a, ws, ea, ha, hd⟩ := R9.own (p := .ref Dl) (ds := acc) (by simp)
                    cases ea
                    refine ⟨ws, ha, by rw [hd.length]; exact hz, ρ5, acc ++ [xd], by rw [h6.al.len, hl3], ⟨h7.al, ?_⟩, q⟩
                    have RA := R9.put (ds' := acc ++ [xd]) (ws' := ws ++ [y]) (hd.append (Dats.one (R9.dat (by simp))))
                    exact (RA.sublist (List.Sublist.cons_cons _ (List.sublist_cons_self _ _))).perm (List.perm_middle.symm)
                  · cases e4
    · have ei : i = ds.length := by omega
      subst ei
      rw [List.drop_length] at q
      unfold lcM at q
      simp only at q
      refine .inl ⟨wk.stop _ _ H2 (Nat.le_refl _) R2, ?_⟩
      have h3 := here_out (ρ := ρ2) h2
      refine q (.ref Dl) H2 ?_ trivial
      have h4 : Here K σ (rwipe ρ2 vs) (E ++ ([(V.ref Dl, .lst acc, true)] ++ L)) H2 := h3.perm (by exact (List.perm_middle (l₁ := E)).symm)
      exact (here_back (J := J) h4 hbk hj Fix.refl).1
end
end LL

set_option Elab.async false
set_option linter.all false
set_option maxRecDepth 100000
/-! LayF: comprehensions as expressions; calls of defs; a def's promise by its meaning. -/
namespace LL
open PySem L2
theorem PE.impN {X : Cx} {e : Expr} {t t' : TE} (h : PE X e t) (k : ∀ σ H Q, σ.length = X.N.length → t' σ H Q → t σ H Q) : PE X e t' := ⟨fun pins s σ H Q I q => h.run pins s σ H Q I (k σ H Q I.len q)⟩
theorem PS.impN {X : Cx} {e : Stmt} {t t' : TS} (h : PS X e t) (k : ∀ D σ H, σ.length = X.N.length → t' D σ H → t D σ H) : PS X e t' := ⟨fun pins s σ H D I q => h.run pins s σ H D I (k D σ H I.len q)⟩
section
variable {X : Cx} {W : WF} {I J : List Nat} {elt tg iter c : Expr} {ifs : List Expr} {scope : Scope} {own : List (Str × Nat)} {mi : EI} {t : TgM} {tt : ET} {me : EE} {pos p2 : Pos}
theorem se_lc {n : Nat} (hc : X.calm = true) (hN : X.N.Nodup) (ok : BlkOk X.N X.env.scope scope own) (hi : SI X W J tg iter mi) (hg : Blk X scope fun Y => SG Y (others n (own.map (·.2))) tg t)
    (ht : Blk X scope fun Y => STs Y W0 ifs tt) (he : Blk X scope fun Y => SE Y W0 elt me) (hJ : ∀ i ∈ J, i ∈ others n (own.map (·.2)) := by decide) (hn : X.N.length = n := by rfl) (hs : ∀ x, foldedSetIterable iter X.env x = pure x := by intro _; rfl) :
    SE X W (.ListComp elt [⟨tg, iter, ifs, 0⟩] scope pos) (mLc mi (own.map (·.2)) t tt me) :=
  PE.impN (pe_lc (g := rG (others n (own.map fun x : Str × Nat => x.2)) X.K t) (tt := rT X.K X.mg W0 tt) (te := rE X.K X.mg W0 me) hc hN hi ok hg ht he hs) fun σ H Q hl h => lc_fin (hl.trans hn) rfl rfl rfl hJ h
theorem ss_setLc {n i : Nat} {y : Str} {py spos : Pos} (hc : X.calm = true) (hN : X.N.Nodup) (hyl : X.env.scope.names.lookup y = some .local) (hsw : swapsWith (.ListComp elt [⟨tg, iter, ifs, 0⟩] scope pos) (some (.Name y py)) spos.line X.env = pure true)
    (ok : BlkOk X.N X.env.scope scope own) (hi : SI X W J tg iter mi) (hg : Blk X scope fun Y => SG Y (others n (own.map (·.2))) tg t)
    (ht : Blk X scope fun Y => STs Y W0 ifs tt) (he : Blk X scope fun Y => SE Y W0 elt me) (hJ : ∀ i ∈ J, i ∈ others n (own.map (·.2)) := by decide) (hn : X.N.length = n := by rfl) (hy : X.N[i]? = some y := by rfl) (hI : I.contains i = false := by rfl) (hs : ∀ x, foldedSetIterable iter X.env x = pure x := by intro _; rfl) :
    SS X W I (.Assign [.Name y py] (.ListComp elt [⟨tg, iter, ifs, 0⟩] scope pos) spos) (mAsg (mLc mi (own.map (·.2)) t tt me) (tgN i)) :=
  PS.impN (ps_setLc (g := rG (others n (own.map fun x : Str × Nat => x.2)) X.K t) (tt := rT X.K X.mg W0 tt) (te := rE X.K X.mg W0 me) hc hN hy hyl hsw hi ok hg ht he hs) fun D σ H hl ⟨ρ, L, cc, hh, h⟩ => by
    refine lc_fin (K := X.K) (mg := X.mg) (W := W) (hl.trans hn) rfl rfl rfl hJ ?_
    refine thnS cc [] hh h fun o v ρ1 H1 h1 c1 q => ?_
    obtain ⟨ρ', L', d, f, ρ2, hh', e', q'⟩ := asg_fin (t := tgN i) h1 q
    unfold tgN at e'
    split at e'
    · rename_i hlen
      cases e'
      exact q' _ (here_put hh' hlen) (Fix.set hI)
    · cases e'
end

/-! ### defs -/
inductive FR where
  | ok (d : D) (f : Bool) (outs : Rho) | ex (x : XD) (outs : Rho) | stuck
abbrev FM := List (D × Bool) → FR
def ze : List V → List (D × Bool) → List En
  | v :: vs, x :: xs => (v, x.1, x.2) :: ze vs xs
  | _, _ => []
def zo : List V → Rho → List En
  | v :: vs, some x :: xs => (v, x.1, x.2) :: zo vs xs
  | _ :: vs, none :: xs => zo vs xs
  | _, _ => []
def PstF (K : PySem.W.Frag) (mg : Str → Option Value) (vs : List V) (L : List En) (r : FR) (Q : VK) (E : XK) : Prop := match r with
  | .ok d f outs => ∀ v H, Rep K ((v, d, f) :: (zo vs outs ++ L)) H → Q v H
  | .ex x outs => ∀ cls dd H, Rep K (zo vs outs ++ L) H → XIs K mg x cls dd H (· ∈ OwnA (zo vs outs ++ L)) → E cls dd H
  | .stuck => False
/-- a def's promise by its meaning -/
def spF (n : Nat) (K : PySem.W.Frag) (mg : Str → Option Value) (mf : FM) : Sp := fun vs H Q E => ∃ as L, vs.length = n ∧ as.length = n ∧ Rep K (ze vs as ++ L) H ∧ PstF K mg vs L (mf as) Q E
/-- arguments leave their slots: what is owned is moved, the rest is copied -/
def pull : List O → Rho → Option (List (D × Bool) × List (Option Nat) × Rho)
  | [], ρ => some ([], [], ρ)
  | .tmp d f :: os, ρ => match pull os ρ with
    | none => none
    | some (as, bs, ρ') => some ((d, f) :: as, none :: bs, ρ')
  | .slt i :: os, ρ => match at_ ρ i with
    | none => none
    | some (d, f) => match f && d.mu with
      | true => match pull os (ρ.set i none) with
        | none => none
        | some (as, bs, ρ') => some ((d, f) :: as, some i :: bs, ρ')
      | false => match pull os ρ with
        | none => none
        | some (as, bs, ρ') => some ((d, false) :: as, none :: bs, ρ')
def push : List (Option Nat) → Rho → Rho → Rho
  | some i :: bs, o :: outs, ρ => push bs outs (ρ.set i o)
  | none :: bs, _ :: outs, ρ => push bs outs ρ
  | _, _, ρ => ρ
/-- where the moved ones came from -/
def BsIs (σ : St) : List V → List (Option Nat) → Prop
  | [], [] => True
  | v :: vs, some i :: bs => σ[i]? = some (some v) ∧ BsIs σ vs bs
  | _ :: vs, none :: bs => BsIs σ vs bs
  | _, _ => False
section
variable {K : PySem.W.Frag} {σ : St}
theorem pull_rep : ∀ {os : List O} {vs : List V} {ρ ρ' : Rho} {as : List (D × Bool)} {bs : List (Option Nat)} {L : List En} {H : Hp}, OIss σ vs os → pull os ρ = some (as, bs, ρ') → Al σ ρ → Rep K (oens vs os ++ (ents σ ρ ++ L)) H →
    as.length = vs.length ∧ BsIs σ vs bs ∧ Al σ ρ' ∧ Rep K (ze vs as ++ (ents σ ρ' ++ L)) H
  | [], [], ρ, ρ', as, bs, L, H, c, h, A, R => by
    cases h
    exact ⟨rfl, trivial, A, R⟩
  | [], v :: vs, ρ, ρ', as, bs, L, H, c, h, A, R => c.elim
  | o :: os, [], ρ, ρ', as, bs, L, H, c, h, A, R => c.elim
  | .tmp d f :: os, v :: vs, ρ, ρ', as, bs, L, H, c, h, A, R => by
    unfold pull at h
    cases e : pull os ρ with
    | none => rw [e] at h; cases h
    | some z =>
      obtain ⟨as', bs', ρ1⟩ := z
      rw [e] at h
      cases h
      have R : Rep K ((v, d, f) :: (oens vs os ++ (ents σ ρ ++ L))) H := R
      have R2 : Rep K (oens vs os ++ (ents σ ρ ++ ((v, d, f) :: L))) H := R.perm (by
        rw [← List.append_assoc, ← List.append_assoc]
        exact List.perm_middle.symm)
      obtain ⟨h1, h2, h3, h4⟩ := pull_rep c.2 e A R2
      refine ⟨by simp [h1], h2, h3, ?_⟩
      refine h4.perm ?_
      show (ze vs as' ++ (ents σ ρ' ++ (v, d, f) :: L)).Perm ((v, d, f) :: (ze vs as' ++ (ents σ ρ' ++ L)))
      rw [← List.append_assoc, ← List.append_assoc]
      exact List.perm_middle
  | .slt i :: os, v :: vs, ρ, ρ', as, bs, L, H, c, h, A, R => by
    unfold pull at h
    cases e0 : at_ ρ i with
    | none => simp only [e0] at h; cases h
    | some x =>
      obtain ⟨d, f⟩ := x
      simp only [e0] at h
      have hv : σ[i]? = some (some v) := c.1
      have hr := at_some e0
      have R : Rep K (oens vs os ++ (ents σ ρ ++ L)) H := R
      cases e1 : (f && d.mu) with
      | true =>
        simp only [e1] at h
        cases e : pull os (ρ.set i none) with
        | none => simp only [e] at h; cases h
        | some z =>
          obtain ⟨as', bs', ρ1⟩ := z
          simp only [e] at h
          cases h
          have R2 : Rep K (oens vs os ++ (ents σ (ρ.set i none) ++ ((v, d, f) :: L))) H := R.perm (by
            refine List.Perm.append_left _ ?_
            exact ((ents_get hv hr).append_right L).trans List.perm_middle.symm)
          obtain ⟨h1, h2, h3, h4⟩ := pull_rep c.2 e (A.forget i) R2
          refine ⟨by simp [h1], ⟨hv, h2⟩, h3, ?_⟩
          refine h4.perm ?_
          show (ze vs as' ++ (ents σ ρ' ++ (v, d, f) :: L)).Perm ((v, d, f) :: (ze vs as' ++ (ents σ ρ' ++ L)))
          rw [← List.append_assoc, ← List.append_assoc]
          exact List.perm_middle
      | false =>
        simp only [e1] at h
        cases e : pull os ρ with
        | none => simp only [e] at h; cases h
        | some z =>
          obtain ⟨as', bs', ρ1⟩ := z
          simp only [e] at h
          cases h
          have hm : (v, d, f) ∈ oens vs os ++ (ents σ ρ ++ L) := by simp [ents_mem hv hr]
          have dd : Dat K H (· ∈ OwnA (oens vs os ++ (ents σ ρ ++ L))) d v := by
            have q := R.ok _ hm
            unfold EnOk at q
            rw [if_neg (by simp [e1])] at q
            exact q
          have R2 : Rep K (oens vs os ++ (ents σ ρ ++ ((v, d, false) :: L))) H := (R.add dd).perm (by
            rw [← List.append_assoc, ← List.append_assoc]
            exact List.perm_middle.symm)
          obtain ⟨h1, h2, h3, h4⟩ := pull_rep c.2 e A R2
          refine ⟨by simp [h1], h2, h3, ?_⟩
          refine h4.perm ?_
          show (ze vs as' ++ (ents σ ρ' ++ (v, d, false) :: L)).Perm ((v, d, false) :: (ze vs as' ++ (ents σ ρ' ++ L)))
          rw [← List.append_assoc, ← List.append_assoc]
          exact List.perm_middle
theorem push_rep : ∀ {bs : List (Option Nat)} {vs : List V} {ρ outs : Rho}, BsIs σ vs bs → Al σ ρ → Al σ (push bs outs ρ) ∧ ∃ T, (ents σ (push bs outs ρ)).Perm T ∧ T.Sublist (zo vs outs ++ ents σ ρ)
  | [], [], ρ, outs, _, A => by
    have : push [] outs ρ = ρ := by cases outs <;> rfl
    rw [this]
    exact ⟨A, _, List.Perm.refl _, List.sublist_append_right _ _⟩
  | [], v :: vs, ρ, outs, c, _ => c.elim
  | b :: bs, [], ρ, outs, c, _ => by cases b <;> exact c.elim
  | none :: bs, v :: vs, ρ, outs, c, A => by
    cases outs with
    | nil => exact ⟨A, _, List.Perm.refl _, List.sublist_append_right _ _⟩
    | cons o outs =>
      obtain ⟨h1, T, h2, h3⟩ := push_rep (bs := bs) (vs := vs) (ρ := ρ) (outs := outs) c A
      refine ⟨h1, T, h2, h3.trans ?_⟩
      cases o with
      | none => exact List.Sublist.refl _
      | some x => exact List.sublist_cons_self _ _
  | some i :: bs, v :: vs, ρ, outs, c, A => by
    cases outs with
    | nil => exact ⟨A, _, List.Perm.refl _, List.sublist_append_right _ _⟩
    | cons o outs =>
      have hv : σ[i]? = some (some v) := c.1
      have hl : i < ρ.length := by rw [A.len]; exact (List.getElem?_eq_some_iff.mp hv).1
      cases o with
      | none =>
        obtain ⟨h1, T, h2, h3⟩ := push_rep (bs := bs) (vs := vs) (ρ := ρ.set i none) (outs := outs) c.2 (A.forget i)
        exact ⟨h1, T, h2, h3.trans (List.Sublist.append (List.Sublist.refl _) (ents_drop σ ρ i))⟩
      | some x =>
        obtain ⟨d, f⟩ := x
        obtain ⟨h1, T, h2, h3⟩ := push_rep (bs := bs) (vs := vs) (ρ := ρ.set i (some (d, f))) (outs := outs) c.2 (A.set ⟨v, hv⟩)
        have p1 : (zo vs outs ++ ents σ (ρ.set i (some (d, f)))).Perm ((v, d, f) :: (zo vs outs ++ ents σ (ρ.set i none))) :=
          (List.Perm.append_left _ (ents_set (d := d) (f := f) hv hl)).trans List.perm_middle
        obtain ⟨T', t1, t2⟩ := List.exists_perm_sublist h3 p1
        refine ⟨h1, T', h2.trans t1.symm, t2.trans ?_⟩
        exact List.Sublist.cons_cons _ (List.Sublist.append (List.Sublist.refl _) (ents_drop σ ρ i))
end
def callK (n : Nat) (mf : FM) (os : List O) (ρ : Rho) : Res O := if os.length = n then match pull os ρ with
  | none => .stuck
  | some (as, bs, ρ') => match mf as with
    | .ok d f outs => .ok (.tmp d f) (push bs outs ρ')
    | .ex x outs => .ex x (push bs outs ρ')
    | .stuck => .stuck
  else .stuck
def mCall (n : Nat) (mf : FM) (ms : EA) : EE := fun ρ => (ms ρ).bind (callK n mf)
/-- the def at the name x keeps the meaning mf, by level k -/
structure Def (P : Program) (w : World) (K : PySem.W.Frag) (mg : Str → Option Value) (base : Heap) (k : Nat) (x : Str) (ps : List Str) (mf : FM) : Prop where
  ex : ∃ (f : Addr) (fd : FuncData), mg x = some (.ref f) ∧ PySem.W.keepIn K (.ref f) = true ∧ Binds K fd ps [] ∧ FnOk P w K mg base (L2.CX P w) k f fd ps (spF ps.length K mg mf)
section
variable {X : Cx} {W : WF} {e : Expr} {es : List Expr} {ms : EA} {mf : FM} {k : Nat} {x : Str} {ps : List Str} {pos p2 : Pos}
theorem oiss_len {σ : St} : ∀ {vs : List V} {os : List O}, OIss σ vs os → vs.length = os.length
  | [], [], _ => rfl
  | [], o :: os, h => h.elim
  | v :: vs, [], h => h.elim
  | v :: vs, o :: os, h => by simp [oiss_len h.2]
theorem call_fin {σ : St} {ρ1 : Rho} {L : List En} {H1 : Hp} {os : List O} {vs : List V} {Q : VK} {n : Nat} (h1 : Here X.K σ ρ1 (oens vs os ++ L) H1) (c1 : OIss σ vs os) (q : PstE X.K X.mg W σ L (callK n mf os ρ1) Q) :
    spF n X.K X.mg mf (vs ++ []) H1 Q (fun cls d H' => W.w cls d σ H') := by
  rw [List.append_nil]
  unfold callK at q
  by_cases hos : os.length = n
  case neg => rw [if_neg hos] at q; exact q.elim
  rw [if_pos hos] at q
  have hn : vs.length = n := (oiss_len c1).trans hos
  cases e1 : pull os ρ1 with
  | none => simp only [e1] at q; exact q.elim
  | some z =>
    obtain ⟨as, bs, ρ'⟩ := z
    simp only [e1] at q
    obtain ⟨hl, hb, A, R⟩ := pull_rep (L := L) c1 e1 h1.al (h1.rep.perm (by
      rw [← List.append_assoc, ← List.append_assoc]
      exact List.perm_append_comm.append_right _))
    refine ⟨as, ents σ ρ' ++ L, hn, hl.trans hn, R, ?_⟩
    have fin : ∀ outs, Al σ (push bs outs ρ') ∧ ∃ T, (ents σ (push bs outs ρ')).Perm T ∧ T.Sublist (zo vs outs ++ ents σ ρ') := fun outs => push_rep hb A
    cases e2 : mf as with
    | stuck => simp only [e2] at q; exact q.elim
    | ok d f outs =>
      simp only [e2] at q
      obtain ⟨A2, T, t1, t2⟩ := fin outs
      intro v H2 R2
      refine q v H2 ⟨A2, ?_⟩ trivial
      have R3 : Rep X.K ((v, d, f) :: ((zo vs outs ++ ents σ ρ') ++ L)) H2 := by rw [List.append_assoc]; exact R2
      have R4 := R3.sublist (List.Sublist.cons_cons (v, d, f) (t2.append (List.Sublist.refl L)))
      exact R4.perm ((List.Perm.cons _ (t1.symm.append_right L)).trans List.perm_middle.symm)
    | ex x outs =>
      simp only [e2] at q
      obtain ⟨A2, T, t1, t2⟩ := fin outs
      intro cls dd H2 R2 hx
      have s1 : (T ++ L).Sublist (zo vs outs ++ (ents σ ρ' ++ L)) := by
        rw [← List.append_assoc]
        exact t2.append (List.Sublist.refl L)
      refine q cls dd H2 ⟨A2, (R2.sublist s1).perm (t1.symm.append_right L)⟩ (hx.mono fun a ha => ?_)
      exact OwnA_sub (fun e he => s1.subset ((t1.append_right L).mem_iff.mp he)) ha
theorem se_call {n : Nat} {A : Around} (Df : Def X.prog X.w X.K X.mg X.base k x ps mf) (hr : Room k A) (tk : Takes X W.w) (ha : SA X W (e :: es) ms) (hA : X.A = A := by rfl) (hn : ps.length = n := by rfl) (hg : Gl X x := by rfl)
    (hdb : (x == ("__debug__" : Str)) = false := by decide) (he : starEach (e :: es) X.env = (false, eval e X.env) :: starEach es X.env := by rfl) (hpl : (backTo pos (starEach es X.env)).any (·.1) = false := by rfl) :
    SE X W (.Call (.Name x p2) (e :: es) [] pos) (mCall n mf ms) := by
  subst hA hn
  obtain ⟨f, fd, hm, hk, hb, F⟩ := Df.ex
  refine PE.imp (pe_callSD (E := fun σ cls d H' => W.w cls d σ H') F hr hg hm hk hb .nil (fun σ pins H s e s' I c => tk e s' (XE.of_call I (fun _ _ _ h => h) c)) ha hdb he hpl) fun σ H Q ⟨ρ, L, cc, hh, h⟩ => ?_
  exact thn cc [] hh h fun os vs ρ1 H1 h1 c1 q => call_fin h1 c1 q
theorem se_call0 (Df : Def X.prog X.w X.K X.mg X.base k x [] mf) (hr : Room k X.A) (tk : Takes X W.w) (hp : ∀ cls d σ H, W.w cls d σ H → False) (hg : Gl X x := by rfl)
    (hdb : (x == ("__debug__" : Str)) = false := by decide) : SE X W (.Call (.Name x p2) [] [] pos) (mCall 0 mf mNil) := by
  obtain ⟨f, fd, hm, hk, hb, F⟩ := Df.ex
  refine PE.imp (pe_call0 (E := fun _ _ _ => False) F hr hg hm hk hb .nil (passes_call tk fun _ _ _ _ z => z.elim) hdb) fun σ H Q ⟨ρ, L, cc, hh, h⟩ => ?_
  have z := call_fin (σ := σ) (os := []) (vs := []) (n := 0) (mf := mf) (Q := Q) (W := W) hh trivial h
  obtain ⟨as, L', a1, a2, R, q⟩ := z
  refine ⟨as, L', a1, a2, R, ?_⟩
  cases e : mf as with
  | ok d f outs => rw [e] at q; exact q
  | ex x outs => rw [e] at q; exact fun cls dd H' R' hx => hp _ _ _ _ (q cls dd H' R' hx)
  | stuck => rw [e] at q; exact q.elim

/-! ### a def by its body -/
/-- what the parameters that are never stored hold behind the call -/
def outsR (I : List Nat) : Nat → Nat → Rho → Rho
  | _, 0, _ => []
  | k, n + 1, [] => none :: outsR I (k + 1) n []
  | k, n + 1, r :: ρ => (if I.contains k then r else none) :: outsR I (k + 1) n ρ
/-- a def of n parameters and s slots; I: the parameters that its body never stores -/
def mkF (n s : Nat) (I : List Nat) (body : ES) : FM := fun as => match body (as.map some ++ List.replicate (s - as.length) none) with
  | .ok .nx ρ => .ok .non false (outsR I 0 n ρ)
  | .ok (.ret d f) ρ => .ok d f (outsR I 0 n ρ)
  | .ex x ρ => .ex x (outsR I 0 n ρ)
  | _ => .stuck
theorem ents_args : ∀ (vs : List V) (as : List (D × Bool)) (m : Nat), vs.length = as.length → ents (vs.map some ++ List.replicate m none) (as.map some ++ List.replicate m none) = ze vs as
  | [], [], m, _ => by
    show ents (List.replicate m none) (List.replicate m none) = []
    induction m with
    | zero => rfl
    | succ m ih => exact ih
  | [], a :: as, m, h => by simp at h
  | v :: vs, [], m, h => by simp at h
  | v :: vs, (d, f) :: as, m, h => by
    show (v, d, f) :: ents (vs.map some ++ List.replicate m none) (as.map some ++ List.replicate m none) = (v, d, f) :: ze vs as
    rw [ents_args vs as m (by simpa using h)]
theorem al_args (vs : List V) (as : List (D × Bool)) (m : Nat) (h : vs.length = as.length) : Al (vs.map some ++ List.replicate m none) (as.map some ++ List.replicate m none) := by
  refine ⟨by simp [h], fun i x e => ?_⟩
  by_cases hi : i < as.length
  · have hv : i < vs.length := by omega
    refine ⟨vs[i], ?_⟩
    rw [List.getElem?_append_left (by simpa using hv), List.getElem?_map, List.getElem?_eq_getElem hv]
    rfl
  · rw [List.getElem?_append_right (by simpa using Nat.le_of_not_lt hi)] at e
    have := List.mem_of_getElem? e
    rw [List.mem_replicate] at this
    cases this.2
theorem outs_sub : ∀ (n k : Nat) (I : List Nat) (vs : List V) (σ : St) (ρ : Rho), vs.length = n → (∀ i, i < n → I.contains (k + i) = true → σ[i]? = (vs[i]?).map some) → (zo vs (outsR I k n ρ)).Sublist (ents σ ρ)
  | 0, k, I, vs, σ, ρ, hl, _ => by
    have : vs = [] := List.length_eq_zero_iff.mp hl
    subst this
    exact List.nil_sublist _
  | n + 1, k, I, [], σ, ρ, hl, _ => by simp at hl
  | n + 1, k, I, v :: vs, σ, [], hl, hx => by
    have z : ∀ (n k : Nat) (vs : List V), zo vs (outsR I k n []) = [] := by
      intro n
      induction n with
      | zero => intro k vs; cases vs <;> rfl
      | succ n ih =>
        intro k vs
        cases vs with
        | nil => rfl
        | cons v vs => exact ih (k + 1) vs
    rw [z]
    exact List.nil_sublist _
  | n + 1, k, I, v :: vs, [], r :: ρ, hl, hx => by
    have e : ents [] (r :: ρ) = [] := rfl
    have nob : ∀ (n k : Nat) (vs : List V) (ρ : Rho), vs.length = n → (∀ i, i < n → I.contains (k + i) = true → False) → zo vs (outsR I k n ρ) = [] := by
      intro n
      induction n with
      | zero => intro k vs ρ hl _; cases vs <;> rfl
      | succ n ih =>
        intro k vs ρ hl hx
        cases vs with
        | nil => rfl
        | cons v vs =>
          have hx' : ∀ i, i < n → I.contains (k + 1 + i) = true → False := fun i hi hc => hx (i + 1) (by omega) (by rw [show k + (i + 1) = k + 1 + i by omega]; exact hc)
          cases ρ with
          | nil => exact ih (k + 1) vs [] (by simpa using hl) hx'
          | cons r ρ =>
            have hk : ¬ I.contains k = true := fun z => hx 0 (by omega) (by rw [Nat.add_zero]; exact z)
            show zo (v :: vs) ((if I.contains k then r else none) :: outsR I (k + 1) n ρ) = []
            rw [if_neg hk]
            exact ih (k + 1) vs ρ (by simpa using hl) hx'
    rw [nob (n + 1) k (v :: vs) (r :: ρ) hl fun i hi hc => by
      have := hx i hi hc
      rw [List.getElem?_nil, List.getElem?_eq_getElem (by omega)] at this
      cases this]
    exact List.nil_sublist _
  | n + 1, k, I, v :: vs, s :: σ, r :: ρ, hl, hx => by
    have ih := outs_sub n (k + 1) I vs σ ρ (by simpa using hl) fun i hi hc => by
      have := hx (i + 1) (by omega) (by rw [show k + (i + 1) = k + 1 + i by omega]; exact hc)
      simpa using this
    show (zo (v :: vs) ((if I.contains k then r else none) :: outsR I (k + 1) n ρ)).Sublist _
    by_cases hk : I.contains k = true
    · rw [if_pos hk]
      have es : s = some v := by
        have := hx 0 (by omega) (by rw [Nat.add_zero]; exact hk)
        simpa using this
      subst es
      cases r with
      | none => rw [ents_cons_none]; exact ih
      | some x => exact ih.cons_cons _
    · rw [if_neg hk]
      refine ih.trans ?_
      cases s with
      | none => rw [ents_none_cons]; exact List.Sublist.refl _
      | some w =>
        cases r with
        | none => rw [ents_cons_none]; exact List.Sublist.refl _
        | some x => exact List.sublist_cons_self _ _
section
variable {P : Program} {w : World} {K : PySem.W.Frag} {mg : Str → Option Value} {base : Heap}
theorem body_fin {I : List Nat} {body : ES} {n s : Nat} {vs : List V} {H : Hp} {Q : VK} {E : XK} (hI : I.all (· < n) = true) (h : spF n K mg (mkF n s I body) vs H Q E) :
    rS I K mg (WF.of fun cls d _ H => E cls d H) body { nx := fun _ H' => Q .non H', rt := Q } (vs.map some ++ List.replicate (s - vs.length) none) H := by
  obtain ⟨as, L, hv, ha, R, q⟩ := h
  refine ⟨as.map some ++ List.replicate (s - as.length) none, L, .zero, ⟨?_, ?_⟩, ?_⟩
  · rw [hv, ha]
    exact al_args vs as _ (hv.trans ha.symm)
  · rw [hv, ha, ents_args vs as _ (hv.trans ha.symm)]
    exact R
  · unfold mkF at q
    have sub : ∀ (σ' : St) (ρ' : Rho), Fix I (vs.map some ++ List.replicate (s - vs.length) none) σ' → (zo vs (outsR I 0 n ρ')).Sublist (ents σ' ρ') := fun σ' ρ' f => by
      refine outs_sub n 0 I vs σ' ρ' hv fun i hi hc => ?_
      rw [Nat.zero_add] at hc
      rw [f.2 i (List.contains_iff_mem.mp hc), List.getElem?_append_left (by rw [List.length_map]; omega), List.getElem?_map]
    cases e : body (as.map some ++ List.replicate (s - as.length) none) with
    | stuck => simp only [e] at q; exact q.elim
    | ex x ρ =>
      simp only [e] at q
      intro cls dd σ' H' hh f hx
      have s1 := (sub σ' ρ f).append (List.Sublist.refl L)
      exact q cls dd H' (hh.rep.sublist s1) (hx.mono fun a ha => OwnA_sub (fun e he => s1.subset he) ha)
    | ok a ρ =>
      cases a with
      | nx =>
        simp only [e] at q
        intro σ' H' hh f
        exact q .non H' ((hh.rep.sublist ((sub σ' ρ f).append (List.Sublist.refl L))).add rfl)
      | ret d fl =>
        simp only [e] at q
        intro v σ' H' hh f
        refine q v H' ((hh.rep.sublist ((sub σ' ρ f).append (List.Sublist.refl _))).perm List.perm_middle)
      | bk => simp only [e] at q; exact q.elim
      | ct => simp only [e] at q; exact q.elim
/-- THE RULE for a def -/
theorem def_of {x qual : Str} {st : Stmt} {f : Addr} {fd : FuncData} {N ps : List Str} {k : Nat} {I : List Nat} {body : ES} (F : Fun K x qual st f fd) (hx : mg x = some (.ref f)) (S : FnScope N ps (defScope st)) (hI : I.all (· < ps.length) = true)
    (hb : ∀ (kV doc pm : Value) (an : Option Addr) (cdv ct : Value) (us : List Value), us.length = ps.length → bindArgs (PySem.W.fnOf x qual (defArgs st) (defBody st) (defScope st) .none kV doc pm an cdv ct) ⟨us, []⟩ = pure (ps.zip us))
    (hbody : ∀ (X : Cx) (E : XK), (∃ (cdv : Value) (A : Around) (outer : List Env) (s : Shared) (H : Hp), X = cxOf (L2.CX P w) P w K mg base N qual (defScope st) f cdv A outer s H E) → Room k X.A → Takes X (fun cls d _ H => E cls d H) → PassesOwn (model X.prog X.w) X.A X.env X.xe → SB X (WF.of fun cls d _ H => E cls d H) I (defBody st) body) :
    Def P w K mg base (k + 1) x ps (mkF ps.length N.length I body) := by
  refine ⟨f, fd, hx, F.kp, F.binds hb, ?_⟩
  refine F.okX S (fun vs H Q E h => by obtain ⟨as, L, h1, _⟩ := h; exact h1) fun cdv A outer s H vs Q E hr h => ?_
  exact ⟨_, hbody _ E ⟨cdv, A, outer, s, H, rfl⟩ hr (takes_of rfl rfl rfl rfl) (passes_of rfl), body_fin hI h⟩
end
end
end LL

set_option Elab.async false
set_option linter.all false
set_option maxRecDepth 100000
set_option maxHeartbeats 1000000
/-! LayG: operators, comparisons, subscripts, slices, simple built-in functions, by data. -/
namespace LL
open PySem L2
section
variable {X : Cx}
theorem rep_int {K : PySem.W.Frag} {L : List En} {H : Hp} {i : Int} {Q : VK} (R : Rep K L H) (q : ∀ v H', Rep K ((v, .int i, false) :: L) H' → Q v H') : Q (.int i) H := q _ _ (R.add rfl)
theorem rep_bl {K : PySem.W.Frag} {L : List En} {H : Hp} {i : Bool} {Q : VK} (R : Rep K L H) (q : ∀ v H', Rep K ((v, .bl i, false) :: L) H' → Q v H') : Q (.bl i) H := q _ _ (R.add rfl)
theorem rep_str {K : PySem.W.Frag} {L : List En} {H : Hp} {i : Str} {Q : VK} (R : Rep K L H) (q : ∀ v H', Rep K ((v, .str i, false) :: L) H' → Q v H') : Q (.str i) H := q _ _ (R.add rfl)

/-! ### + -/
def gAdd : D → D → Option (D × Bool)
  | .int a, .int b => some (.int (a + b), false)
  | .str a, .str b => if a.length + b.length ≤ sizeLine then some (.str (a ++ b), false) else none
  | .lst a, .lst b => if a.length + b.length ≤ sizeLine then some (.lst (a ++ b), true) else none
  | .tup a, .tup b => if a.length + b.length ≤ sizeLine then some (.tup (a ++ b), false) else none
  | _, _ => none
theorem os_add : OpS X (binaryOp .Add) gAdd := by
  refine ⟨_, OpR.or op_add (OpR.or op_add_str (OpR.or op_cat op_catF)), ?_⟩
  intro H L x y dx dy fx fy d fl Q R hx hy hg q
  cases dx <;> cases dy <;> try (cases hg; done)
  · cases hg
    rename_i a b
    exact .inl ⟨a, b, R.int hx, R.int hy, rep_int R q⟩
  · rename_i a b
    have hg : (if a.length + b.length ≤ sizeLine then some (D.str (a ++ b), false) else none) = some (d, fl) := hg
    split at hg
    · rename_i hz
      cases hg
      exact .inr (.inl ⟨a, b, R.str hx, R.str hy, hz, rep_str R q⟩)
    · cases hg
  · rename_i a b
    have hg : (if a.length + b.length ≤ sizeLine then some (D.tup (a ++ b), false) else none) = some (d, fl) := hg
    split at hg
    · rename_i hz
      cases hg
      obtain ⟨p, ws, e1, h1, d1⟩ := R.tuple hx
      obtain ⟨p', ws', e2, h2, d2⟩ := R.tuple hy
      refine .inr (.inr (.inr ⟨p, p', ws, ws', e1, e2, h1, h2, by rw [d1.length, d2.length]; exact hz, fun z => ?_, fun z1 z2 => ?_, fun z1 z2 r o tp hr => ?_⟩))
      · have : a = [] := by
          have := d1.length
          rw [z] at this
          exact List.length_eq_zero_iff.mp this.symm
        subst this
        subst e2
        exact q _ _ (R.add (R.datM hy rfl))
      · have : b = [] := by
          have := d2.length
          rw [z2] at this
          exact List.length_eq_zero_iff.mp this.symm
        subst this
        subst e1
        rw [List.append_nil] at q
        exact q _ _ (R.add (R.datM hx rfl))
      · exact q _ _ (R.newT tp hr (d1.append d2))
    · cases hg
  · rename_i a b
    have hg : (if a.length + b.length ≤ sizeLine then some (D.lst (a ++ b), true) else none) = some (d, fl) := hg
    split at hg
    · rename_i hz
      cases hg
      obtain ⟨p, ws, e1, h1, d1⟩ := R.list hx
      obtain ⟨p', ws', e2, h2, d2⟩ := R.list hy
      exact .inr (.inr (.inl ⟨p, p', ws, ws', e1, e2, h1, h2, by rw [d1.length, d2.length]; exact hz, fun r hr => q _ _ (R.newL hr (d1.append d2))⟩))
    · cases hg
/-- two ints -/
def gI (g : Int → Int → Option Int) : D → D → Option (D × Bool)
  | .int a, .int b => (match g a b with
    | some c => some (.int c, false)
    | none => none)
  | _, _ => none
theorem os_int {f : Value → Value → Sem Value} {C : Int → Int → Prop} {h : Int → Int → Int} {g : Int → Int → Option Int} (ho : OpR X f (L2.rI C fun i j => .int (h i j))) (hg : ∀ a b c, g a b = some c → C a b ∧ c = h a b) : OpS X f (gI g) := by
  refine ⟨_, ho, ?_⟩
  intro H L x y dx dy fx fy d fl Q R hx hy e q
  cases dx <;> cases dy <;> try (cases e; done)
  rename_i a b
  have e : (match g a b with
    | some c => some (D.int c, false)
    | none => none) = some (d, fl) := e
  cases e1 : g a b with
  | none => rw [e1] at e; cases e
  | some c =>
    rw [e1] at e
    cases e
    obtain ⟨hC, rfl⟩ := hg a b c e1
    exact ⟨a, b, R.int hx, R.int hy, hC, rep_int R q⟩
theorem os_int0 {f : Value → Value → Sem Value} {h : Int → Int → Int} (ho : OpR X f (rI0 fun i j => .int (h i j))) : OpS X f (gI fun a b => some (h a b)) := by
  refine ⟨_, ho, ?_⟩
  intro H L x y dx dy fx fy d fl Q R hx hy e q
  cases dx <;> cases dy <;> try (cases e; done)
  rename_i a b
  cases e
  exact ⟨a, b, R.int hx, R.int hy, rep_int R q⟩
def gSub := gI fun a b => some (a - b)
theorem os_sub : OpS X (binaryOp .Sub) gSub := os_int0 op_sub
def mulOk (a b : Int) : Bool := decide ((-(2 ^ 64) < a ∧ a < 2 ^ 64) ∨ (-(2 ^ 64) < b ∧ b < 2 ^ 64))
theorem mulOk_iff {a b : Int} : mulOk a b = true ↔ CMul a b := decide_eq_true_iff
def gMul := gI fun a b => if mulOk a b then some (a * b) else none
theorem os_mul : OpS X (binaryOp .Mult) gMul := os_int op_mul fun a b c h => by
  split at h
  · rename_i hz
    cases h
    exact ⟨mulOk_iff.mp hz, rfl⟩
  · cases h
def gMod := gI fun a b => if b = 0 then none else some (a.fmod b)
theorem os_mod : OpS X (binaryOp .Mod) gMod := os_int op_modN fun a b c h => by
  split at h
  · cases h
  · rename_i hz
    cases h
    exact ⟨hz, rfl⟩
def gFdv := gI fun a b => if b ≠ 0 ∧ b.natAbs < 1073741824 then some (a.fdiv b) else none
theorem os_fdv : OpS X (binaryOp .FloorDiv) gFdv := os_int op_fdivN fun a b c h => by
  split at h
  · rename_i hz
    cases h
    exact ⟨hz, rfl⟩
  · cases h
def gPow := gI fun a b => if 0 ≤ b ∧ b ≤ 1000000 ∧ a.natAbs < 2 ^ 64 then some (a ^ b.toNat) else none
theorem os_pow : OpS X (binaryOp .Pow) gPow := os_int op_pow fun a b c h => by
  split at h
  · rename_i hz
    cases h
    exact ⟨hz, rfl⟩
  · cases h
def gShl := gI fun a b => if 0 ≤ b ∧ b ≤ 1000000 ∧ a.natAbs < 2 ^ 64 then some (a * 2 ^ b.toNat) else none
theorem os_shl : OpS X (binaryOp .LShift) gShl := os_int op_shl fun a b c h => by
  split at h
  · rename_i hz
    cases h
    exact ⟨hz, rfl⟩
  · cases h
def gShr := gI fun a b => if 0 ≤ b then some (a / 2 ^ b.toNat) else none
theorem os_shr : OpS X (binaryOp .RShift) gShr := os_int op_shr fun a b c h => by
  split at h
  · rename_i hz
    cases h
    exact ⟨hz, rfl⟩
  · cases h
def gBand := gI fun a b => some (Builtin.bitAnd a b)
theorem os_band : OpS X (binaryOp .BitAnd) gBand := os_int0 op_and
def gBor := gI fun a b => some (Builtin.bitOr a b)
theorem os_bor : OpS X (binaryOp .BitOr) gBor := os_int0 op_or
def gNeg : D → Option (D × Bool)
  | .int a => some (.int (-a), false)
  | _ => none
theorem us_neg : UnS X (unaryOp .USub) gNeg := by
  refine ⟨_, un_neg, ?_⟩
  intro H L x dx fx d fl Q R hx e q
  cases dx <;> try (cases e; done)
  rename_i a
  cases e
  exact ⟨a, R.int hx, rep_int R q⟩

/-! ### order -/
def gOrd (g : Int → Int → Bool) (s : List Nat → List Nat → Bool) : D → D → Option Bool
  | .int a, .int b => some (g a b)
  | .str a, .str b => some (s a.cps.toList b.cps.toList)
  | _, _ => none
theorem os_ord {op : CmpOp} {g : Int → Int → Bool} {s : List Nat → List Nat → Bool} (ho : OpR X (compareOp op) (rI0 fun i j => .bl (g i j))) (ho' : OpR X (compareOp op) (fun x y H Q => ∃ i j, x = .str i ∧ y = .str j ∧ Q (.bl (s i.cps.toList j.cps.toList)) H)) : OpS X (compareOp op) (blOf (gOrd g s)) := by
  refine ⟨_, OpR.or ho ho', ?_⟩
  intro H L x y dx dy fx fy d fl Q R hx hy e q
  cases dx <;> cases dy <;> try (cases e; done)
  · rename_i a b
    cases e
    exact .inl ⟨a, b, R.int hx, R.int hy, rep_bl R q⟩
  · rename_i a b
    cases e
    exact .inr ⟨a, b, R.str hx, R.str hy, rep_bl R q⟩
def gLt := gOrd (fun a b => decide (a < b)) (fun a b => decide (a < b))
def gLe := gOrd (fun a b => decide (a ≤ b)) (fun a b => !decide (b < a))
def gGt := gOrd (fun a b => decide (b < a)) (fun a b => decide (b < a))
def gGe := gOrd (fun a b => decide (b ≤ a)) (fun a b => !decide (a < b))
theorem os_lt : OpS X (compareOp .Lt) (blOf gLt) := os_ord op_lt op_lt_str
theorem os_le : OpS X (compareOp .LtE) (blOf gLe) := os_ord op_le op_le_str
theorem os_gt : OpS X (compareOp .Gt) (blOf gGt) := os_ord op_gt op_gt_str
theorem os_ge : OpS X (compareOp .GtE) (blOf gGe) := os_ord op_ge op_ge_str

/-! ### ==, in -/
mutual
def toP : D → PyData
  | .non => .none
  | .bl b => .bool b
  | .int i => .int i
  | .str x => .str x
  | .tup l => .tuple (toPs l)
  | .lst l => .list (toPs l)
  | .rol l => .list (toPs l)
  | .dct _ => .dict []
  | .st _ => .dict []
  | .obj _ _ _ => .dict []
  | .xdd _ _ => .dict []
  | .raw _ => .dict []
def toPs : List D → List PyData
  | [] => []
  | d :: ds => toP d :: toPs ds
end
def sh (d : D) : Bool := SeqAt.shaped (toP d)
def deq (a b : D) : Bool := PyData.eqv (toP a) (toP b)
mutual
theorem Dat.dp {K : PySem.W.Frag} {H : Hp} {Z : Addr → Prop} : ∀ (d : D) (v : V), Dat K H Z d v → (toP d).canLay0 = true → Dp K H v (toP d)
  | .non, v, h, _ => by cases (show v = .non from h); exact .non
  | .bl b, v, h, _ => by cases (show v = .bl b from h); exact .bl b
  | .int b, v, h, _ => by cases (show v = .int b from h); exact .int b
  | .str b, v, h, _ => by cases (show v = .str b from h); exact .str b
  | .tup l, v, h, c => by
    obtain ⟨a, vs, rfl, h1, h2⟩ := h
    exact .tup h1.sq.sq (Dats.dp l vs h2 c)
  | .lst l, v, h, c => by
    obtain ⟨a, vs, rfl, h1, h2⟩ := h
    exact .lst h1.sq (Dats.dp l vs h2 c)
  | .rol l, v, h, c => by
    obtain ⟨a, vs, rfl, h1, h2⟩ := h
    exact .lst h1.sq (Dats.dp l vs h2 c)
  | .dct _, _, h, _ => h.elim
  | .st _, _, h, _ => h.elim
  | .obj _ _ _, _, h, c => by cases c
  | .xdd _ _, _, _, c => by cases c
  | .raw _, _, _, c => by cases c
theorem Dats.dp {K : PySem.W.Frag} {H : Hp} {Z : Addr → Prop} : ∀ (ds : List D) (vs : List V), Dats K H Z ds vs → PyData.canLayAll0 (toPs ds) = true → DpAll K H vs (toPs ds)
  | [], vs, h, _ => by cases (show vs = [] from h); exact .nil
  | d :: ds, vs, h, c => by
    obtain ⟨v, ws, rfl, h1, h2⟩ := h
    have c : ((toP d).canLay0 && PyData.canLayAll0 (toPs ds)) = true := c
    rw [Bool.and_eq_true] at c
    exact .cons (Dat.dp d v h1 c.1) (Dats.dp ds ws h2 c.2)
end
theorem Rep.dp {K : PySem.W.Frag} {L : List En} {H : Hp} {v : V} {d : D} {f : Bool} (R : Rep K L H) (hm : (v, d, f) ∈ L) (hs : sh d = true) : Dp K H v (toP d) := by
  have c : (toP d).canLay0 = true := SeqAt.canLay_of_shaped hs
  by_cases ho : (f && d.mu) = true
  · have q := R.ok _ hm
    unfold EnOk at q
    rw [if_pos ho] at q
    cases d with
    | lst l =>
      obtain ⟨p, o, es, ws, e, h1, hb, h2⟩ := q
      obtain ⟨rfl, rfl⟩ := hb.lst
      cases (show v = .ref p from e)
      exact .lst (.inl (.inl h1)) (Dats.dp _ ws h2 c)
    | obj _ _ _ => cases c
    | raw _ => cases c
    | _ =>
      obtain ⟨p, o, es, ws, e, h1, hb, h2⟩ := q
      exact hb.elim
  · have q := R.ok _ hm
    unfold EnOk at q
    rw [if_neg ho] at q
    exact q.dp _ _ c
def gEq : D → D → Option Bool
  | .int a, .int b => some (a == b)
  | .str a, .str b => some (a == b)
  | .bl a, .bl b => some (a == b)
  | .non, .non => some true
  | a, b => if sh a && sh b then some (deq a b) else none
theorem dec_beq {α : Type} [DecidableEq α] (a b : α) : decide (a = b) = (a == b) := by
  by_cases h : a = b
  · subst h; simp
  · simp [h]
theorem os_eq (hu : X.A.units + 64 < cLine) : OpS X (compareOp .Eq) (blOf gEq) := by
  refine ⟨_, OpR.or op_eq (op_eqD hu), ?_⟩
  intro H L x y dx dy fx fy d fl Q R hx hy e q
  unfold blOf at e
  cases e1 : gEq dx dy with
  | none => rw [e1] at e; cases e
  | some k =>
    rw [e1] at e
    cases e
    unfold gEq at e1
    split at e1
    · rename_i a b
      rw [R.int hx, R.int hy]
      refine .inl ⟨rfl, ?_⟩
      rw [show decide (V.int a = V.int b) = k by rw [dec_int]; exact Option.some.inj e1]
      exact rep_bl R q
    · rename_i a b
      rw [R.str hx, R.str hy]
      refine .inl ⟨rfl, ?_⟩
      rw [show decide (V.str a = V.str b) = k by
        rw [← Option.some.inj e1]
        by_cases h : a = b
        · subst h; simp
        · rw [decide_eq_false (fun z => h (V.str.inj z))]; exact (beq_eq_false_iff_ne.mpr h).symm]
      exact rep_bl R q
    · rename_i a b
      rw [R.bl hx, R.bl hy]
      refine .inl ⟨rfl, ?_⟩
      rw [show decide (V.bl a = V.bl b) = k by rw [dec_bl]; exact Option.some.inj e1]
      exact rep_bl R q
    · rw [R.non hx, R.non hy]
      cases e1
      exact .inl ⟨rfl, rep_bl R q⟩
    · split at e1
      · rename_i hs
        rw [Bool.and_eq_true] at hs
        cases e1
        exact .inr ⟨_, _, R.dp hx hs.1, R.dp hy hs.2, hs.1, hs.2, rep_bl R q⟩
      · cases e1
def gNe (a b : D) : Option Bool := match gEq a b with
  | some k => some (!k)
  | none => none
theorem os_ne (hu : X.A.units + 64 < cLine) : OpS X (compareOp .NotEq) (blOf gNe) := by
  refine ⟨_, OpR.or op_ne (op_neD hu), ?_⟩
  intro H L x y dx dy fx fy d fl Q R hx hy e q
  unfold blOf gNe at e
  cases e1 : gEq dx dy with
  | none => rw [e1] at e; cases e
  | some k =>
    rw [e1] at e
    cases e
    unfold gEq at e1
    split at e1
    · rename_i a b
      rw [R.int hx, R.int hy]
      refine .inl ⟨rfl, ?_⟩
      rw [show decide (V.int a = V.int b) = k by rw [dec_int]; exact Option.some.inj e1]
      exact rep_bl R q
    · rename_i a b
      rw [R.str hx, R.str hy]
      refine .inl ⟨rfl, ?_⟩
      rw [show decide (V.str a = V.str b) = k by
        rw [← Option.some.inj e1]
        by_cases h : a = b
        · subst h; simp
        · rw [decide_eq_false (fun z => h (V.str.inj z))]; exact (beq_eq_false_iff_ne.mpr h).symm]
      exact rep_bl R q
    · rename_i a b
      rw [R.bl hx, R.bl hy]
      refine .inl ⟨rfl, ?_⟩
      rw [show decide (V.bl a = V.bl b) = k by rw [dec_bl]; exact Option.some.inj e1]
      exact rep_bl R q
    · rw [R.non hx, R.non hy]
      cases e1
      exact .inl ⟨rfl, rep_bl R q⟩
    · split at e1
      · rename_i hs
        rw [Bool.and_eq_true] at hs
        cases e1
        exact .inr ⟨_, _, R.dp hx hs.1, R.dp hy hs.2, hs.1, hs.2, rep_bl R q⟩
      · cases e1
theorem rm {A : Around} {d : PyData} {ds : List PyData} (h : SeqAt.shaped d = true) (hu : A.units + 65 < cLine) : A.units + 1 + min (PyData.depthAll ds) d.depth < cLine := by
  have h1 := SeqAt.depth_of_shaped h
  have h2 : min (PyData.depthAll ds) d.depth ≤ d.depth := Nat.min_le_right _ _
  omega
/-- x in a tuple of data -/
def rInT (K : PySem.W.Frag) : R2 := fun x y H Q => ∃ d ds, Dp K H x d ∧ Dp K H y (.tuple ds) ∧ SeqAt.shaped d = true ∧ SeqAt.shaped (.tuple ds) = true ∧ Q (.bl (ds.any fun z => PyData.eqv z d)) H
def rNotInT (K : PySem.W.Frag) : R2 := fun x y H Q => ∃ d ds, Dp K H x d ∧ Dp K H y (.tuple ds) ∧ SeqAt.shaped d = true ∧ SeqAt.shaped (.tuple ds) = true ∧ Q (.bl (!ds.any fun z => PyData.eqv z d)) H
theorem op_inT (hu : X.A.units + 65 < cLine) : OpR X (compareOp .In) (rInT X.K) := fun pins s σ H x y v u Q I rx ry ⟨d, ds, hd, he, sd, se, q⟩ => by
  obtain ⟨as, r1⟩ := Dp.reads I d x v hd rx
  obtain ⟨bs, r2⟩ := Dp.reads I (.tuple ds) y u he ry
  refine SeqAt.in_tuple_reads r2 r1 (SeqAt.canLay_of_shaped se) (SeqAt.canLay_of_shaped sd) ?_ ⟨.bl _, H, I, rfl, q⟩
  exact rm sd hu
theorem op_notInT (hu : X.A.units + 65 < cLine) : OpR X (compareOp .NotIn) (rNotInT X.K) := fun pins s σ H x y v u Q I rx ry ⟨d, ds, hd, he, sd, se, q⟩ => by
  obtain ⟨as, r1⟩ := Dp.reads I d x v hd rx
  obtain ⟨bs, r2⟩ := Dp.reads I (.tuple ds) y u he ry
  refine SeqAt.notIn_tuple_reads r2 r1 (SeqAt.canLay_of_shaped se) (SeqAt.canLay_of_shaped sd) ?_ ⟨.bl _, H, I, rfl, q⟩
  exact rm sd hu
/-- one of the data is equal to x -/
def dmem (x : D) : List D → Bool
  | [] => false
  | d :: ds => deq d x || dmem x ds
theorem dmem_any (x : D) : ∀ ds : List D, ((toPs ds).any fun z => PyData.eqv z (toP x)) = dmem x ds
  | [] => rfl
  | d :: ds => by
    show (PyData.eqv (toP d) (toP x) || (toPs ds).any fun z => PyData.eqv z (toP x)) = (deq d x || dmem x ds)
    rw [dmem_any x ds]
    rfl
def gIn : D → D → Option Bool
  | .str x, .str y => (match x.cps with
    | ⟨[c]⟩ => some (decide (c ∈ y.cps.toList))
    | _ => some (!(Builtin.Str.occurrences y x 0 y.length 1).isEmpty))
  | x, .lst l => if sh x && sh (.lst l) then some (dmem x l) else none
  | x, .rol l => if sh x && sh (.rol l) then some (dmem x l) else none
  | x, .tup l => if sh x && sh (.tup l) then some (dmem x l) else none
  | _, _ => none
theorem os_in (hu : X.A.units + 65 < cLine) : OpS X (compareOp .In) (blOf gIn) := by
  refine ⟨_, OpR.or op_in_sign (OpR.or op_in_str (OpR.or (op_inD hu) (op_inT hu))), ?_⟩
  intro H L x y dx dy fx fy d fl Q R hx hy e q
  unfold blOf at e
  cases e1 : gIn dx dy with
  | none => rw [e1] at e; cases e
  | some k =>
    rw [e1] at e
    cases e
    unfold gIn at e1
    split at e1
    · rename_i a b
      split at e1
      · rename_i c ec
        cases e1
        obtain ⟨cps⟩ := a
        cases (show cps = ⟨[c]⟩ from ec)
        exact .inl ⟨c, b, R.str hx, R.str hy, rep_bl R q⟩
      · cases e1
        exact .inr (.inl ⟨a, b, R.str hx, R.str hy, rep_bl R q⟩)
    · rename_i l
      split at e1
      · rename_i hs
        rw [Bool.and_eq_true] at hs
        cases e1
        refine .inr (.inr (.inl ⟨_, _, R.dp hx hs.1, R.dp hy hs.2, hs.1, hs.2, ?_⟩))
        rw [dmem_any]
        exact rep_bl R q
      · cases e1
    · rename_i l
      split at e1
      · rename_i hs
        rw [Bool.and_eq_true] at hs
        cases e1
        refine .inr (.inr (.inl ⟨_, _, R.dp hx hs.1, R.dp hy hs.2, hs.1, hs.2, ?_⟩))
        rw [dmem_any]
        exact rep_bl R q
      · cases e1
    · rename_i l
      split at e1
      · rename_i hs
        rw [Bool.and_eq_true] at hs
        cases e1
        refine .inr (.inr (.inr ⟨_, _, R.dp hx hs.1, R.dp hy hs.2, hs.1, hs.2, ?_⟩))
        rw [dmem_any]
        exact rep_bl R q
      · cases e1
    · cases e1
def gNotIn (a b : D) : Option Bool := match gIn a b with
  | some k => some (!k)
  | none => none
theorem os_notIn (hu : X.A.units + 65 < cLine) : OpS X (compareOp .NotIn) (blOf gNotIn) := by
  refine ⟨_, OpR.or op_notIn_sign (OpR.or op_notin_str (OpR.or (op_notInD hu) (op_notInT hu))), ?_⟩
  intro H L x y dx dy fx fy d fl Q R hx hy e q
  unfold blOf gNotIn at e
  cases e1 : gIn dx dy with
  | none => rw [e1] at e; cases e
  | some k =>
    rw [e1] at e
    cases e
    unfold gIn at e1
    split at e1
    · rename_i a b
      split at e1
      · rename_i c ec
        cases e1
        obtain ⟨cps⟩ := a
        cases (show cps = ⟨[c]⟩ from ec)
        exact .inl ⟨c, b, R.str hx, R.str hy, rep_bl R q⟩
      · cases e1
        exact .inr (.inl ⟨a, b, R.str hx, R.str hy, rep_bl R q⟩)
    · rename_i l
      split at e1
      · rename_i hs
        rw [Bool.and_eq_true] at hs
        cases e1
        refine .inr (.inr (.inl ⟨_, _, R.dp hx hs.1, R.dp hy hs.2, hs.1, hs.2, ?_⟩))
        rw [dmem_any]
        exact rep_bl R q
      · cases e1
    · rename_i l
      split at e1
      · rename_i hs
        rw [Bool.and_eq_true] at hs
        cases e1
        refine .inr (.inr (.inl ⟨_, _, R.dp hx hs.1, R.dp hy hs.2, hs.1, hs.2, ?_⟩))
        rw [dmem_any]
        exact rep_bl R q
      · cases e1
    · rename_i l
      split at e1
      · rename_i hs
        rw [Bool.and_eq_true] at hs
        cases e1
        refine .inr (.inr (.inr ⟨_, _, R.dp hx hs.1, R.dp hy hs.2, hs.1, hs.2, ?_⟩))
        rw [dmem_any]
        exact rep_bl R q
      · cases e1
    · cases e1
/-- is None -/
def D.isN : D → Bool
  | .non => true
  | _ => false
def gIs : D → D → Option Bool
  | x, .non => some x.isN
  | _, _ => none
theorem Dat.isN {K : PySem.W.Frag} {H : Hp} {Z : Addr → Prop} {d : D} {v : V} (h : Dat K H Z d v) : decide (v = .non) = d.isN := by
  cases d with
  | non => cases (show v = .non from h); rfl
  | bl b => cases (show v = .bl b from h); rfl
  | int b => cases (show v = .int b from h); rfl
  | str b => cases (show v = .str b from h); rfl
  | tup l => obtain ⟨a, vs, rfl, _⟩ := h; rfl
  | lst l => obtain ⟨a, vs, rfl, _⟩ := h; rfl
  | rol l => obtain ⟨a, vs, rfl, _⟩ := h; rfl
  | xdd ns l => obtain ⟨a, vs, rfl, _⟩ := h; rfl
  | obj c ns l => obtain ⟨a, C, dx, fs, rfl, _⟩ := h; rfl
  | raw ws => obtain ⟨a, rfl, _⟩ := h; rfl
  | _ => exact h.elim
theorem Rep.isN {K : PySem.W.Frag} {L : List En} {H : Hp} {v : V} {d : D} {f : Bool} (R : Rep K L H) (hm : (v, d, f) ∈ L) : decide (v = .non) = d.isN := by
  have q := R.ok _ hm
  unfold EnOk at q
  split at q
  · obtain ⟨p, o, es, us, e, _, hb, _⟩ := q
    cases (show v = .ref p from e)
    cases d <;> first | rfl | exact hb.elim
  · exact q.isN
theorem os_is : OpS X (compareOp .Is) (blOf gIs) := by
  refine ⟨_, op_isN, ?_⟩
  intro H L x y dx dy fx fy d fl Q R hx hy e q
  cases dy <;> try (cases e; done)
  cases e
  refine ⟨R.non hy, ?_⟩
  rw [R.isN hx]
  exact rep_bl R q
def gIsNot : D → D → Option Bool
  | x, .non => some (!x.isN)
  | _, _ => none
theorem os_isNot : OpS X (compareOp .IsNot) (blOf gIsNot) := by
  refine ⟨_, op_notN, ?_⟩
  intro H L x y dx dy fx fy d fl Q R hx hy e q
  cases dy <;> try (cases e; done)
  cases e
  refine ⟨R.non hy, ?_⟩
  rw [R.isN hx]
  exact rep_bl R q
end
end LL

set_option Elab.async false
set_option linter.all false
set_option maxRecDepth 100000
set_option maxHeartbeats 1000000
/-! LayH: subscripts, slices, built-in functions, methods of lists, stores to items, x op= e. -/
namespace LL
open PySem L2
section
variable {X : Cx} {W : WF} {I : List Nat} {e a b c o : Expr} {es : List Expr} {m ma mb mi : EE} {ms : EA} {pos p2 apos cpos : Pos}
/-! ### o[i] -/
def gIx : D → D → Option D
  | .lst l, .int i => atI l i
  | .rol l, .int i => atI l i
  | .tup l, .int i => atI l i
  | .str z, .int i => if z.length ≤ sizeLine then (atI z.cps.toList i).map fun c => .str ⟨#[c]⟩ else none
  | _, _ => none
theorem atI_get {α : Type} {xs : List α} {i : Int} {v : α} (h : atI xs i = some v) : ∃ j, ixN xs.length i = some j ∧ xs[j]? = some v := by
  unfold atI at h
  cases e : ixN xs.length i with
  | none => rw [e] at h; cases h
  | some j => rw [e] at h; exact ⟨j, rfl, h⟩
theorem dats_at {K : PySem.W.Frag} {H : Hp} {Z : Addr → Prop} {ds : List D} {ws : List V} {i : Int} {d : D} (h : Dats K H Z ds ws) (e : atI ds i = some d) : ∃ v, atI ws i = some v ∧ Dat K H Z d v := by
  obtain ⟨j, h1, h2⟩ := atI_get e
  obtain ⟨v, h3, h4⟩ := h.get h2
  refine ⟨v, ?_, h4⟩
  unfold atI
  rw [h.length, h1]
  exact h3
def ixG (a b : D) : Option (D × Bool) := match gIx a b with
  | some d => some (d, false)
  | none => none
def mIx (ma mb : EE) : EE := mBin ixG ma mb
theorem se_ix (ha : SE X W a ma) (hb : SE X W b mb) (hp : PlainIx b := by exact fun _ _ => rfl) : SE X W (.Subscript a b pos) (mIx ma mb) := by
  refine PE.imp (pe_ix ix_seq ha hb hp) fun σ H Q ⟨ρ, L, cc, hh, h⟩ => ?_
  refine thn cc [] hh h fun o1 x ρ1 H1 h1 c1 q => ?_
  refine thn cc (oen x o1) h1 q fun o2 y ρ2 H2 h2 c2 q => ?_
  obtain ⟨d1, e1, q⟩ := Pst.opt q
  obtain ⟨d2, e2, q⟩ := Pst.opt q
  obtain ⟨z, e3, q⟩ := Pst.opt q
  obtain ⟨f1, m1⟩ := look_mem (T := ents σ ρ2 ++ (oen y o2 ++ (oen x o1 ++ L))) c1 e1 (fun e he => by simp [he]) (fun e he => by simp [he])
  obtain ⟨f2, m2⟩ := look_mem (T := ents σ ρ2 ++ (oen y o2 ++ (oen x o1 ++ L))) c2 e2 (fun e he => by simp [he]) (fun e he => by simp [he])
  have fin : ∀ v, Dat X.K H2 (· ∈ OwnA (ents σ ρ2 ++ (oen y o2 ++ (oen x o1 ++ L)))) z.1 v → z.2 = false → Q v H2 := fun v hv hz => by
    have q' := op_fin (E := oen y o2 ++ oen x o1) (by rw [List.append_assoc]; exact h2) q v H2
    rw [List.append_assoc] at q'
    refine q' ?_
    rw [hz]
    exact h2.rep.add hv
  have R := h2.rep
  unfold ixG at e3
  cases e4 : gIx d1 d2 with
  | none => rw [e4] at e3; cases e3
  | some d =>
    rw [e4] at e3
    cases e3
    clear q
    cases d2 with
    | int i =>
      cases d1 with
      | lst l =>
        obtain ⟨p, ws, ee, hl, dd⟩ := R.list m1
        obtain ⟨v, hv, hd⟩ := dats_at dd e4
        exact .inl ⟨p, ws, i, v, ee, R.int m2, .inl (.inl hl), hv, fin v hd rfl⟩
      | rol l =>
        obtain ⟨p, ws, ee, hl, dd⟩ := R.rlist m1
        obtain ⟨v, hv, hd⟩ := dats_at dd e4
        exact .inl ⟨p, ws, i, v, ee, R.int m2, hl, hv, fin v hd rfl⟩
      | tup l =>
        obtain ⟨p, ws, ee, hl, dd⟩ := R.tuple m1
        obtain ⟨v, hv, hd⟩ := dats_at dd e4
        exact .inr (.inl ⟨p, ws, i, v, ee, R.int m2, hl, hv, fin v hd rfl⟩)
      | str s =>
        have e4 : (if s.length ≤ sizeLine then (atI s.cps.toList i).map fun c => D.str ⟨#[c]⟩ else none) = some d := e4
        split at e4
        · rename_i hz
          cases e5 : atI s.cps.toList i with
          | none => rw [e5] at e4; cases e4
          | some cc =>
            rw [e5] at e4
            cases e4
            exact .inr (.inr ⟨s, i, cc, R.str m1, R.int m2, hz, e5, fin _ rfl rfl⟩)
        · cases e4
      | _ => cases e4
    | _ => cases d1 <;> cases e4
/-! ### slices -/
abbrev EP := Rho → Res (Option Int)
abbrev rP (K : PySem.W.Frag) (mg : Str → Option Value) (W : WF) (m : EP) : TO := rd (fun _ _ => []) (fun _ a b => a = b) K mg W m
def SP (X : Cx) (W : WF) (e : Option Expr) (m : EP) : Prop := PO X e (rP X.K X.mg W m)
theorem PO.imp {e : Option Expr} {t t' : TO} (h : PO X e t) (k : ∀ σ H Q, t' σ H Q → t σ H Q) : PO X e t' := ⟨fun pins s σ H Q I q => h.run pins s σ H Q I (k σ H Q q)⟩
def mNoP : EP := fun ρ => .ok none ρ
def mP (m : EE) : EP := fun ρ => (m ρ).bind fun o ρ1 => opt (look ρ1 o) fun d => match d with
  | .int i => .ok (some i) ρ1
  | _ => .stuck
theorem sp_none : SP X W none mNoP := PO.imp po_none fun σ H Q ⟨ρ, L, cc, hh, h⟩ => h none H hh rfl
theorem sp_some (h : SE X W e m) : SP X W (some e) (mP m) := PO.imp (po_some h) fun σ H Q ⟨ρ, L, cc, hh, h⟩ => by
  refine thn cc [] hh h fun o1 x ρ1 H1 h1 c1 q => ?_
  obtain ⟨d1, e1, q⟩ := Pst.opt q
  obtain ⟨f1, m1⟩ := look_mem (T := ents σ ρ1 ++ (oen x o1 ++ L)) c1 e1 (fun e he => by simp [he]) (fun e he => by simp [he])
  cases d1 with
  | int i => exact ⟨i, h1.rep.int m1, q (some i) H1 h1.drop rfl⟩
  | _ => exact q.elim
def cutD (l : List D) (lo hi : Option Int) : List D := (l.drop (HT.sIx l.length 0 lo)).take (HT.sIx l.length l.length hi - HT.sIx l.length 0 lo)
def gSl : D → Option Int → Option Int → Option (D × Bool)
  | .lst l, lo, hi => some (.lst (cutD l lo hi), true)
  | .tup l, lo, hi => some (.tup (cutD l lo hi), false)
  | .str z, lo, hi => if z.length ≤ sizeLine then some (.str (cutS z lo hi), false) else none
  | _, _, _ => none
def mSl (m : EE) (p1 p2 : EP) : EE := fun ρ => (m ρ).bind fun o ρ1 => (p1 ρ1).bind fun lo ρ2 => (p2 ρ2).bind fun hi ρ3 => opt (look ρ3 o) fun d => opt (gSl d lo hi) fun x => .ok (.tmp x.1 x.2) ρ3
theorem dats_cut {K : PySem.W.Frag} {H : Hp} {Z : Addr → Prop} {ds : List D} {ws : List V} (h : Dats K H Z ds ws) (lo hi : Option Int) : Dats K H Z (cutD ds lo hi) (cutV ws lo hi) := by
  unfold cutD cutV
  rw [h.length]
  exact (h.drop _).take _
theorem cutD_all {l : List D} {lo hi : Option Int} (h : HT.sIx l.length 0 lo = 0 ∧ HT.sIx l.length l.length hi = l.length) : cutD l lo hi = l := by
  unfold cutD
  rw [h.1, h.2, Nat.sub_zero]
  exact List.take_length
theorem se_sl {lo hi : Option Expr} {p1 p3 : EP} (h : SE X W e m) (hl : SP X W lo p1) (hh : SP X W hi p3) : SE X W (.Subscript e (.Slice lo hi none p2) pos) (mSl m p1 p3) :=
  PE.imp (pe_slice (SlR.or sl_list (SlR.or sl_tupF sl_str)) h hl hh) fun σ H Q ⟨ρ, L, cc, hh, h⟩ => by
    refine thn cc [] hh h fun o1 x ρ1 H1 h1 c1 q => ?_
    refine thn cc (oen x o1) h1 q fun l1 l1' ρ2 H2 h2 c2 q => ?_
    subst c2
    refine thn cc (oen x o1) h2 q fun l2 l2' ρ3 H3 h3 c3 q => ?_
    subst c3
    obtain ⟨d1, e1, q⟩ := Pst.opt q
    obtain ⟨z, e3, q⟩ := Pst.opt q
    have h3 : Here X.K σ ρ3 (oen x o1 ++ L) H3 := h3
    obtain ⟨f1, m1⟩ := look_mem (T := ents σ ρ3 ++ (oen x o1 ++ L)) c1 e1 (fun e he => by simp [he]) (fun e he => by simp [he])
    have fin := op_fin (E := oen x o1) h3 q
    have R := h3.rep
    unfold gSl at e3
    split at e3
    · rename_i l
      cases e3
      obtain ⟨p, ws, ee, hl, dd⟩ := R.list m1
      exact .inl ⟨p, ws, ee, .inl (.inl hl), fun p hp => fin _ _ (R.newL hp (dats_cut dd _ _))⟩
    · rename_i l
      cases e3
      obtain ⟨p, ws, ee, hl, dd⟩ := R.tuple m1
      refine .inr (.inl ⟨p, ws, ee, hl, fun hw => ?_, fun _ p o tp hp => fin _ _ (R.newT tp hp (dats_cut dd _ _))⟩)
      rw [dd.length] at hw
      refine fin _ _ ?_
      rw [cutD_all hw]
      subst ee
      exact R.add (R.datM m1 rfl)
    · rename_i s
      split at e3
      · rename_i hz
        cases e3
        exact .inr (.inr ⟨s, R.str m1, hz, fin _ _ (R.add rfl)⟩)
      · cases e3
    · cases e3
def gRev : D → Option (D × Bool)
  | .lst l => some (.lst l.reverse, true)
  | _ => none
theorem se_rev {k : Nat} {p1 p3 : Pos} (h : SE X W e m) : SE X W (.Subscript e (.Slice none none (some (.UnaryOp .USub (.Constant (.int 1) k p1) p2)) p3) pos) (mUn gRev m) := PE.imp (pe_revL h) fun σ H Q ⟨ρ, L, cc, hh, h⟩ => by
  refine thn cc [] hh h fun o1 x ρ1 H1 h1 c1 q => ?_
  obtain ⟨d1, e1, q⟩ := Pst.opt q
  obtain ⟨z, e3, q⟩ := Pst.opt q
  obtain ⟨f1, m1⟩ := look_mem (T := ents σ ρ1 ++ (oen x o1 ++ L)) c1 e1 (fun e he => by simp [he]) (fun e he => by simp [he])
  cases d1 <;> try (cases e3; done)
  rename_i l
  cases e3
  obtain ⟨p, ws, ee, hl, dd⟩ := h1.rep.list m1
  exact ⟨p, ws, ee, .inl (.inl hl), fun p hp => op_fin (E := oen x o1) h1 q _ _ (h1.rep.newL hp dd.reverse)⟩

/-! ### functions -/
def gLen : List D → Option (D × Bool)
  | [.lst l] => some (.int (l.length : Nat), false)
  | [.rol l] => some (.int (l.length : Nat), false)
  | [.tup l] => some (.int (l.length : Nat), false)
  | [.str z] => if z.length ≤ sizeLine then some (.int (z.length : Nat), false) else none
  | _ => none
theorem cs_len : CallS X (.builtin "len") gLen := by
  refine ⟨_, call_len, ?_⟩
  intro H L xs ds d fl Q R hs e q
  unfold gLen at e
  split at e
  · cases e
    obtain ⟨v, f, rfl, hm⟩ := hs.one
    obtain ⟨p, ws, ee, hl, dd⟩ := R.list hm
    exact ⟨v, _, rfl, by subst ee; exact .inl ⟨ws, .inl (.inl hl), dd.length.symm⟩, rep_int R q⟩
  · cases e
    obtain ⟨v, f, rfl, hm⟩ := hs.one
    obtain ⟨p, ws, ee, hl, dd⟩ := R.rlist hm
    exact ⟨v, _, rfl, by subst ee; exact .inl ⟨ws, hl, dd.length.symm⟩, rep_int R q⟩
  · cases e
    obtain ⟨v, f, rfl, hm⟩ := hs.one
    obtain ⟨p, ws, ee, hl, dd⟩ := R.tuple hm
    exact ⟨v, _, rfl, by subst ee; exact .inr ⟨ws, hl, dd.length.symm⟩, rep_int R q⟩
  · split at e
    · rename_i hz
      cases e
      obtain ⟨v, f, rfl, hm⟩ := hs.one
      exact ⟨v, _, rfl, by rw [R.str hm]; exact ⟨hz, rfl⟩, rep_int R q⟩
    · cases e
  · cases e
def gList : List D → Option (D × Bool)
  | [.lst l] => some (.lst l, true)
  | [.rol l] => some (.lst l, true)
  | [.tup l] => some (.lst l, true)
  | _ => none
theorem cs_list : CallS X (.type "list") gList := by
  refine ⟨_, call_list_of, ?_⟩
  intro H L xs ds d fl Q R hs e q
  unfold gList at e
  split at e
  · cases e
    obtain ⟨v, f, rfl, hm⟩ := hs.one
    obtain ⟨p, ws, ee, hl, dd⟩ := R.list hm
    exact ⟨p, ws, by rw [ee], .inl (.inl (.inl hl)), fun l hn => q _ _ (R.newL hn dd)⟩
  · cases e
    obtain ⟨v, f, rfl, hm⟩ := hs.one
    obtain ⟨p, ws, ee, hl, dd⟩ := R.rlist hm
    exact ⟨p, ws, by rw [ee], .inl hl, fun l hn => q _ _ (R.newL hn dd)⟩
  · cases e
    obtain ⟨v, f, rfl, hm⟩ := hs.one
    obtain ⟨p, ws, ee, hl, dd⟩ := R.tuple hm
    exact ⟨p, ws, by rw [ee], .inr hl, fun l hn => q _ _ (R.newL hn dd)⟩
  · cases e
def gTuple : List D → Option (D × Bool)
  | [.lst l] => some (.tup l, false)
  | [.rol l] => some (.tup l, false)
  | [.tup l] => some (.tup l, false)
  | _ => none
theorem cs_tuple : CallS X (.type "tuple") gTuple := by
  refine ⟨_, call_tupleF, ?_⟩
  intro H L xs ds d fl Q R hs e q
  unfold gTuple at e
  split at e
  · cases e
    obtain ⟨v, f, rfl, hm⟩ := hs.one
    obtain ⟨p, ws, ee, hl, dd⟩ := R.list hm
    exact ⟨p, ws, by rw [ee], .inl ⟨.inl (.inl hl), fun l o tp hn => q _ _ (R.newT tp hn dd)⟩⟩
  · cases e
    obtain ⟨v, f, rfl, hm⟩ := hs.one
    obtain ⟨p, ws, ee, hl, dd⟩ := R.rlist hm
    exact ⟨p, ws, by rw [ee], .inl ⟨hl, fun l o tp hn => q _ _ (R.newT tp hn dd)⟩⟩
  · cases e
    obtain ⟨v, f, rfl, hm⟩ := hs.one
    obtain ⟨p, ws, ee, hl, dd⟩ := R.tuple hm
    refine ⟨p, ws, by rw [ee], .inr ⟨hl, ?_⟩⟩
    subst ee
    exact q _ _ (R.add (R.datM hm rfl))
  · cases e
def gInt : List D → Option (D × Bool)
  | [.int i] => some (.int i, false)
  | [.bl k] => some (.int (if k = true then 1 else 0), false)
  | [.str a] => if a.length ≤ 640 then (match PySem.intText? a with
    | some n => some (.int n, false)
    | none => none) else none
  | _ => none
theorem cs_int : CallS X (.type "int") gInt := by
  refine ⟨_, CallR.or call_int1 call_int_str, ?_⟩
  intro H L xs ds d fl Q R hs e q
  unfold gInt at e
  split at e
  · cases e
    obtain ⟨v, f, rfl, hm⟩ := hs.one
    exact .inl (.inl ⟨_, by rw [R.int hm], rep_int R q⟩)
  · cases e
    obtain ⟨v, f, rfl, hm⟩ := hs.one
    exact .inl (.inr ⟨_, by rw [R.bl hm], rep_int R q⟩)
  · rename_i a
    split at e
    · rename_i hz
      cases e1 : PySem.intText? a with
      | none => rw [e1] at e; cases e
      | some n =>
        rw [e1] at e
        cases e
        obtain ⟨v, f, rfl, hm⟩ := hs.one
        exact .inr ⟨a, n, by rw [R.str hm], e1, hz, rep_int R q⟩
    · cases e
  · cases e
def gStr : List D → Option (D × Bool)
  | [.int i] => if Nat.log2 i.natAbs < 1920 then some (.str (Str.ofString (toString i)), false) else none
  | _ => none
theorem cs_str : CallS X (.type "str") gStr := by
  refine ⟨_, call_str_int, ?_⟩
  intro H L xs ds d fl Q R hs e q
  unfold gStr at e
  split at e
  · rename_i i
    split at e
    · rename_i hz
      cases e
      obtain ⟨v, f, rfl, hm⟩ := hs.one
      exact ⟨i, by rw [R.int hm], hz, rep_str R q⟩
    · cases e
  · cases e
def blsOf : List D → Option (List Bool)
  | [] => some []
  | .bl b :: l => (match blsOf l with
    | some bs => some (b :: bs)
    | none => none)
  | _ => none
theorem blsOf_map : ∀ {l : List D} {bs : List Bool}, blsOf l = some bs → l = bs.map D.bl
  | [], bs, h => by cases h; rfl
  | .bl b :: l, bs, h => by
    unfold blsOf at h
    cases e : blsOf l with
    | none => rw [e] at h; cases h
    | some cs => rw [e] at h; cases h; rw [blsOf_map e]; rfl
  | .non :: _, _, h => by cases h
  | .int _ :: _, _, h => by cases h
  | .str _ :: _, _, h => by cases h
  | .tup _ :: _, _, h => by cases h
  | .lst _ :: _, _, h => by cases h
  | .dct _ :: _, _, h => by cases h
  | .st _ :: _, _, h => by cases h
  | .obj _ _ _ :: _, _, h => by cases h
  | .raw _ :: _, _, h => by cases h
  | .rol _ :: _, _, h => by cases h
def intsOf : List D → Option (List Int)
  | [] => some []
  | .int b :: l => (match intsOf l with
    | some bs => some (b :: bs)
    | none => none)
  | _ => none
theorem intsOf_map : ∀ {l : List D} {bs : List Int}, intsOf l = some bs → l = bs.map D.int
  | [], bs, h => by cases h; rfl
  | .int b :: l, bs, h => by
    unfold intsOf at h
    cases e : intsOf l with
    | none => rw [e] at h; cases h
    | some cs => rw [e] at h; cases h; rw [intsOf_map e]; rfl
  | .non :: _, _, h => by cases h
  | .bl _ :: _, _, h => by cases h
  | .str _ :: _, _, h => by cases h
  | .tup _ :: _, _, h => by cases h
  | .lst _ :: _, _, h => by cases h
  | .dct _ :: _, _, h => by cases h
  | .st _ :: _, _, h => by cases h
  | .obj _ _ _ :: _, _, h => by cases h
  | .raw _ :: _, _, h => by cases h
  | .rol _ :: _, _, h => by cases h
def gAll : List D → Option (D × Bool)
  | [.lst l] => (match blsOf l with
    | some bs => some (.bl (bs.all id), false)
    | none => none)
  | _ => none
def gAny : List D → Option (D × Bool)
  | [.lst l] => (match blsOf l with
    | some bs => some (.bl (bs.any id), false)
    | none => none)
  | _ => none
def gSum : List D → Option (D × Bool)
  | [.lst l] => (match intsOf l with
    | some bs => some (.int bs.sum, false)
    | none => none)
  | _ => none
theorem cs_all (hc : X.calm = true) : CallS X (.builtin "all") gAll := by
  refine ⟨_, cr_all hc, ?_⟩
  intro H L xs ds d fl Q R hs e q
  unfold gAll at e
  split at e
  · rename_i l
    cases e1 : blsOf l with
    | none => rw [e1] at e; cases e
    | some bs =>
      rw [e1] at e
      cases e
      obtain ⟨v, f, rfl, hm⟩ := hs.one
      obtain ⟨p, ws, ee, hl, dd⟩ := R.list hm
      rw [blsOf_map e1] at dd
      rw [dd.bls] at hl
      exact ⟨p, bs, by rw [ee], .inl (.inl hl), rep_bl R q⟩
  · cases e
theorem cs_any (hc : X.calm = true) : CallS X (.builtin "any") gAny := by
  refine ⟨_, cr_any hc, ?_⟩
  intro H L xs ds d fl Q R hs e q
  unfold gAny at e
  split at e
  · rename_i l
    cases e1 : blsOf l with
    | none => rw [e1] at e; cases e
    | some bs =>
      rw [e1] at e
      cases e
      obtain ⟨v, f, rfl, hm⟩ := hs.one
      obtain ⟨p, ws, ee, hl, dd⟩ := R.list hm
      rw [blsOf_map e1] at dd
      rw [dd.bls] at hl
      exact ⟨p, bs, by rw [ee], .inl (.inl hl), rep_bl R q⟩
  · cases e
theorem cs_sum (hc : X.calm = true) : CallS X (.builtin "sum") gSum := by
  refine ⟨_, cr_sum hc, ?_⟩
  intro H L xs ds d fl Q R hs e q
  unfold gSum at e
  split at e
  · rename_i l
    cases e1 : intsOf l with
    | none => rw [e1] at e; cases e
    | some bs =>
      rw [e1] at e
      cases e
      obtain ⟨v, f, rfl, hm⟩ := hs.one
      obtain ⟨p, ws, ee, hl, dd⟩ := R.list hm
      rw [intsOf_map e1] at dd
      rw [dd.ints] at hl
      exact ⟨p, bs, by rw [ee], .inl (.inl hl), rep_int R q⟩
  · cases e
def gMax2 : List D → Option (D × Bool)
  | [.int i, .int j] => some (.int (if j > i then j else i), false)
  | _ => none
def gMin2 : List D → Option (D × Bool)
  | [.int i, .int j] => some (.int (if j < i then j else i), false)
  | _ => none
theorem cs_max2 (hc : X.calm = true) : CallS X (.builtin "max") gMax2 := by
  refine ⟨_, call_max2 hc, ?_⟩
  intro H L xs ds d fl Q R hs e q
  unfold gMax2 at e
  split at e
  · cases e
    obtain ⟨v, v', f, f', rfl, hm, hm'⟩ := hs.two
    exact ⟨_, _, by rw [R.int hm, R.int hm'], rep_int R q⟩
  · cases e
theorem cs_min2 (hc : X.calm = true) : CallS X (.builtin "min") gMin2 := by
  refine ⟨_, call_min2 hc, ?_⟩
  intro H L xs ds d fl Q R hs e q
  unfold gMin2 at e
  split at e
  · cases e
    obtain ⟨v, v', f, f', rfl, hm, hm'⟩ := hs.two
    exact ⟨_, _, by rw [R.int hm, R.int hm'], rep_int R q⟩
  · cases e

/-! ### isinstance against a built-in class -/
def tyOf : D → Option String
  | .non => some "NoneType"
  | .bl _ => some "bool"
  | .int _ => some "int"
  | .str _ => some "str"
  | .tup _ => some "tuple"
  | .lst _ => some "list"
  | .rol _ => some "list"
  | _ => none
theorem rep_ty {K : PySem.W.Frag} {L : List En} {H : Hp} {v : V} {d : D} {f : Bool} {t : String} (R : Rep K L H) (hm : (v, d, f) ∈ L) (h : tyOf d = some t) : TyX K H v (.type t) := by
  cases d with
  | non => cases h; rw [R.non hm]; exact .base .non
  | bl b => cases h; rw [R.bl hm]; exact .base (.bl b)
  | int b => cases h; rw [R.int hm]; exact .base (.int b)
  | str b => cases h; rw [R.str hm]; exact .base (.str b)
  | tup l =>
    cases h
    obtain ⟨p, ws, ee, hl, dd⟩ := R.tuple hm
    subst ee
    rcases hl with (hl | ⟨o, hl⟩) | ⟨o, its, n, hk, hc, _⟩
    · exact .base (.tup hl)
    · exact .fTuple hl
    · exact .kTuple hk hc
  | lst l =>
    cases h
    obtain ⟨p, ws, ee, hl, dd⟩ := R.list hm
    subst ee
    exact .base (.lst hl)
  | rol l =>
    cases h
    obtain ⟨p, ws, ee, hl, dd⟩ := R.rlist hm
    subst ee
    rcases hl with (hl | ⟨o, hl⟩) | ⟨o, its, n, hk, hc, _⟩
    · exact .base (.lst hl)
    · exact .base (.frz hl)
    · exact .kList hk hc
  | _ => cases h
/-- the answers, for the classes that are asked for -/
def isiT (t T : String) : Option Bool := if t = T then some true else if t = "bool" ∧ T = "int" then some true else if (t ∈ ["NoneType", "bool", "int", "str", "tuple", "list"]) ∧ T ∈ ["int", "bool", "str", "tuple", "list", "dict", "set"] then some false else none
theorem isiT_ok : ∀ t ∈ ["NoneType", "bool", "int", "str", "tuple", "list"], ∀ T ∈ ["int", "bool", "str", "tuple", "list", "dict"], kitB t T = isiT t T := by decide +kernel
def gIsi (T : String) (d : D) : Option Bool := match tyOf d with
  | none => none
  | some t => if T ∈ ["int", "bool", "str", "tuple", "list", "dict"] then isiT t T else none
theorem tyOf_mem {d : D} {t : String} (h : tyOf d = some t) : t ∈ ["NoneType", "bool", "int", "str", "tuple", "list"] := by
  cases d <;> cases h <;> simp
def mIsi (T : String) (m : EE) : EE := fun ρ => (m ρ).bind fun o ρ1 => opt (look ρ1 o) fun d => opt (gIsi T d) fun k => .ok (.tmp (.bl k) false) ρ1
theorem se_isi {T : String} {x : Str} (hm : X.mg "isinstance" = none) (ht : X.mg x = none) (hv : bootBuiltins x = some (.type T)) (h : SE X W e m) (hg : Gl X "isinstance" := by rfl) (hgt : Gl X x := by rfl) (hx : x ≠ "__name__" := by decide) (hxd : (x == ("__debug__" : Str)) = false := by decide)
    (he : starEach [e, .Name x p2] X.env = (false, eval e X.env) :: starEach [.Name x p2] X.env := by rfl) : SE X W (.Call (.Name "isinstance" apos) [e, .Name x p2] [] pos) (mIsi T m) := by
  refine PE.imp (pe_callB call_isi hg hm PyProof.Rows.boot_isinstance (pa_cons h (pa_cons (pe_bltn (v := .ty T) hgt ht hv rfl hx hxd) pa_nil) he) (he := he)) fun σ H Q ⟨ρ, L, cc, hh, h⟩ => ?_
  refine thn cc [] hh h fun o1 v ρ1 H1 h1 c1 q => ?_
  obtain ⟨d1, e1, q⟩ := Pst.opt q
  obtain ⟨k, e2, q⟩ := Pst.opt q
  obtain ⟨f1, m1⟩ := look_mem (T := ents σ ρ1 ++ (oen v o1 ++ L)) c1 e1 (fun e he => by simp [he]) (fun e he => by simp [he])
  unfold gIsi at e2
  cases e3 : tyOf d1 with
  | none => rw [e3] at e2; cases e2
  | some t =>
    rw [e3] at e2
    simp only at e2
    split at e2
    · rename_i hT
      refine ⟨v, .ty T, .type t, .type T, k, rfl, .ty T, rep_ty h1.rep m1 e3, kit_ty ?_, q _ H1 (here_scal h1.drop fun _ => rfl) trivial⟩
      rw [isiT_ok t (tyOf_mem e3) T hT]
      exact e2
    · cases e2
end
end LL

set_option Elab.async false
set_option linter.all false
set_option maxRecDepth 100000
set_option maxHeartbeats 1000000
/-! LayI: methods that change a list in a slot, stores to its items, x op= e; methods that only read. -/
namespace LL
open PySem L2
theorem tmps_zf {K : PySem.W.Frag} {σ : St} {H : Hp} : ∀ {os : List O} {vs : List V} {ds : List D} {L : List En}, OIss σ vs os → tmps os = some ds → Rep K (oens vs os ++ L) H → vs.length = ds.length ∧ Rep K (zf vs ds ++ L) H
  | [], [], ds, L, _, h, R => by cases h; exact ⟨rfl, R⟩
  | [], v :: vs, ds, L, c, h, R => c.elim
  | o :: os, [], ds, L, c, h, R => c.elim
  | .slt i :: os, v :: vs, ds, L, c, h, R => by cases h
  | .tmp d f :: os, v :: vs, ds, L, c, h, R => by
    have h : (tmps os).map (d :: ·) = some ds := h
    cases e : tmps os with
    | none => rw [e] at h; cases h
    | some ds' =>
      rw [e] at h
      have : ds = d :: ds' := by simpa using h.symm
      subst this
      have R : Rep K ((v, d, f) :: (oens vs os ++ L)) H := R
      have R2 : Rep K (oens vs os ++ ((v, d, false) :: L)) H := (Rep.cool R).perm (List.perm_middle.symm)
      obtain ⟨hl, R3⟩ := tmps_zf c.2 e R2
      exact ⟨by simp [hl], R3.perm List.perm_middle⟩
theorem zf_dats {K : PySem.W.Frag} {H : Hp} : ∀ {vs : List V} {ds : List D} {L : List En}, vs.length = ds.length → Rep K L H → (∀ e ∈ zf vs ds, e ∈ L) → Dats K H (· ∈ OwnA L) ds vs
  | [], [], L, _, _, _ => rfl
  | [], d :: ds, L, h, _, _ => by simp at h
  | v :: vs, [], L, h, _, _ => by simp at h
  | v :: vs, d :: ds, L, h, R, hm => ⟨v, vs, rfl, R.dat (hm _ (by simp [zf])), zf_dats (by simpa using h) R fun e he => hm e (by simp [zf, he])⟩
/-- the items of an owned list in a slot -/
def ownL (ρ : Rho) (i : Nat) : Option (List D) := match at_ ρ i with
  | some (.lst ds, true) => some ds
  | _ => none
theorem ownL_some {ρ : Rho} {i : Nat} {ds : List D} (h : ownL ρ i = some ds) : ρ[i]? = some (some (.lst ds, true)) := by
  unfold ownL at h
  split at h
  · rename_i ds' e
    cases h
    exact at_some e
  · cases h
def MutS (X : Cx) (id : String) (gm : List D → List D → Option (D × Bool × List D)) : Prop :=
  ∃ r, MtR X id r ∧ ∀ (H : Hp) (L : List En) (p : Addr) (ds as ds' : List D) (vs : List V) (res : D) (rf : Bool) (Q : VK), Rep X.K ((.ref p, .lst ds, true) :: L) H → vs.length = as.length → (∀ e ∈ zf vs as, e ∈ L) → gm ds as = some (res, rf, ds') →
    (∀ v H', Rep X.K ((v, res, rf) :: (.ref p, .lst ds', true) :: L) H' → Q v H') → r (.ref p) vs H Q
section
variable {X : Cx} {W : WF} {I : List Nat} {e a b c o : Expr} {es : List Expr} {m ma mb mi me : EE} {ms : EA} {pos p2 apos cpos : Pos} {i : Nat} {id : String} {name : Str} {gm : List D → List D → Option (D × Bool × List D)}
def mMut (i : Nat) (gm : List D → List D → Option (D × Bool × List D)) (ms : EA) : EE := fun ρ => opt (ownL ρ i) fun _ => (ms ρ).bind fun os ρ1 => opt (tmps os) fun as => opt (ownL ρ1 i) fun ds => opt (gm ds as) fun x =>
  .ok (.tmp x.1 x.2.1) (ρ1.set i (some (.lst x.2.2, true)))
theorem mut_fin {r : V → List V → Hp → VK → Prop} {σ : St} {ρ1 : Rho} {L : List En} {H1 : Hp} {v : V} {vs : List V} {os : List O} {Q : VK}
    (hs : ∀ (H : Hp) (L : List En) (p : Addr) (ds as ds' : List D) (vs : List V) (res : D) (rf : Bool) (Q : VK), Rep X.K ((.ref p, .lst ds, true) :: L) H → vs.length = as.length → (∀ e ∈ zf vs as, e ∈ L) → gm ds as = some (res, rf, ds') →
      (∀ v H', Rep X.K ((v, res, rf) :: (.ref p, .lst ds', true) :: L) H' → Q v H') → r (.ref p) vs H Q)
    (hv : σ[i]? = some (some v)) (h1 : Here X.K σ ρ1 (oens vs os ++ L) H1) (c1 : OIss σ vs os) (q : PstE X.K X.mg W σ L (opt (tmps os) fun as => opt (ownL ρ1 i) fun ds => opt (gm ds as) fun x => .ok (.tmp x.1 x.2.1) (ρ1.set i (some (.lst x.2.2, true)))) Q) : r v vs H1 Q := by
  obtain ⟨as, e1, q⟩ := Pst.opt q
  obtain ⟨ds, e2, q⟩ := Pst.opt q
  obtain ⟨x, e3, q⟩ := Pst.opt q
  obtain ⟨res, rf, ds'⟩ := x
  have hr := ownL_some e2
  have hl : i < ρ1.length := (List.getElem?_eq_some_iff.mp hr).1
  have R1 : Rep X.K (oens vs os ++ ((v, .lst ds, true) :: (ents σ (ρ1.set i none) ++ L))) H1 := h1.rep.perm (by
    have p1 : (ents σ ρ1 ++ (oens vs os ++ L)).Perm (oens vs os ++ (ents σ ρ1 ++ L)) := by
      rw [← List.append_assoc, ← List.append_assoc]
      exact List.perm_append_comm.append_right _
    exact p1.trans (List.Perm.append_left _ ((ents_get hv hr).append_right L)))
  obtain ⟨hlen, R2⟩ := tmps_zf c1 e1 R1
  have R3 : Rep X.K ((v, .lst ds, true) :: (zf vs as ++ (ents σ (ρ1.set i none) ++ L))) H1 := R2.perm List.perm_middle
  obtain ⟨p, ws, ep, _⟩ := R3.own (p := v) (ds := ds) List.mem_cons_self
  subst ep
  refine hs H1 _ p ds as ds' vs res rf Q R3 hlen (fun e he => List.mem_append_left _ he) e3 fun w H' R => ?_
  refine q w H' ⟨h1.al.set ⟨_, hv⟩, ?_⟩ trivial
  have R4 : Rep X.K ((w, res, rf) :: (V.ref p, .lst ds', true) :: (ents σ (ρ1.set i none) ++ L)) H' := R.sublist ((List.sublist_append_right _ _).cons_cons _ |>.cons_cons _)
  refine R4.perm ?_
  refine List.Perm.trans ?_ List.perm_middle.symm
  refine List.Perm.cons _ ?_
  exact ((ents_set (d := .lst ds') (f := true) hv hl).append_right L).symm
theorem se_mut (hc : MutS X id gm) (slot : Slot "list" name id) (hty : typeOf (.builtin id) = pure (.type "method_descriptor")) (ho : PE X o (tVar i)) (ha : SA X W (e :: es) ms)
    (hbase : attributeBase o name X.env (eval o X.env) = eval o X.env := by rfl)
    (hall : (((backTo cpos (starEach (e :: es) X.env)).all fun x => !x.1) && ((backToKw cpos (keywordEach [] X.env)).all fun x => x.1.isSome) && decide ((e :: es).length + ([] : List Keyword).length + (if ([] : List Keyword).isEmpty then 0 else 1) < 30)) = true := by rfl)
    (hline : (apos.endLine == cpos.line) = true := by rfl) (he : starEach (e :: es) X.env = (false, eval e X.env) :: starEach es X.env := by rfl) (hpl : (backTo cpos (starEach es X.env)).any (·.1) = false := by rfl) :
    SE X W (.Call (.Attribute o name apos) (e :: es) [] cpos) (mMut i gm ms) := by
  obtain ⟨r, hr, hs⟩ := hc
  refine PE.imp (pe_bm PySem.F.plainAttrs_list slot hty hr ho ha hbase hall hline he hpl) fun σ H Q ⟨ρ, L, cc, hh, h⟩ => ?_
  obtain ⟨ds0, e0, h⟩ := Pst.opt h
  have hr0 := ownL_some e0
  obtain ⟨v, hv⟩ := hh.al.val i _ hr0
  obtain ⟨p, ws, ep, hp, _⟩ := hh.rep.own (p := v) (ds := ds0) (by simp [ents_mem hv hr0])
  refine ⟨v, hv, by subst ep; exact .inl ⟨rfl, ws, .inl (.inl hp)⟩, ?_⟩
  exact thn cc [] hh h fun os vs ρ1 H1 h1 c1 q => mut_fin hs hv h1 c1 q
def mMut0 (i : Nat) (gm : List D → List D → Option (D × Bool × List D)) : EE := mMut i gm mNil
theorem se_mut0 (hc : MutS X id gm) (slot : Slot "list" name id) (hty : typeOf (.builtin id) = pure (.type "method_descriptor")) (ho : PE X o (tVar i))
    (hbase : attributeBase o name X.env (eval o X.env) = eval o X.env := by rfl) (hline : (apos.endLine == cpos.line) = true := by rfl) : SE X W (.Call (.Attribute o name apos) [] [] cpos) (mMut0 i gm) := by
  obtain ⟨r, hr, hs⟩ := hc
  refine PE.imp (pe_bm0 PySem.F.plainAttrs_list slot hty hr ho hbase hline) fun σ H Q ⟨ρ, L, cc, hh, h⟩ => ?_
  obtain ⟨ds0, e0, h⟩ := Pst.opt h
  have hr0 := ownL_some e0
  obtain ⟨v, hv⟩ := hh.al.val i _ hr0
  obtain ⟨p, ws, ep, hp, _⟩ := hh.rep.own (p := v) (ds := ds0) (by simp [ents_mem hv hr0])
  refine ⟨v, hv, by subst ep; exact .inl ⟨rfl, ws, .inl (.inl hp)⟩, ?_⟩
  exact mut_fin (os := []) (vs := []) hs hv hh trivial h
/-! ### the methods -/
def gAppend (ds as : List D) : Option (D × Bool × List D) := match as with
  | [a] => if ds.length < sizeLine then some (.non, false, ds ++ [a]) else none
  | _ => none
theorem zf_one {vs : List V} {a : D} {L : List En} (hl : vs.length = [a].length) (h : ∀ e ∈ zf vs [a], e ∈ L) : ∃ v, vs = [v] ∧ (v, a, false) ∈ L := by
  match vs, hl with
  | [v], _ => exact ⟨v, rfl, h _ (by simp [zf])⟩
theorem ms_append : MutS X "list.append" gAppend := by
  refine ⟨_, mt_append, ?_⟩
  intro H L p ds as ds' vs res rf Q R hl hz e q
  unfold gAppend at e
  split at e
  · rename_i a
    split at e
    · rename_i hlen
      cases e
      obtain ⟨v, rfl, hm⟩ := zf_one hl hz
      obtain ⟨p', ws, ep, hp, dd⟩ := R.own (p := .ref p) (ds := ds) List.mem_cons_self
      cases ep
      refine ⟨p, ws, v, rfl, rfl, hp, by rw [dd.length]; exact hlen, q _ _ ?_⟩
      exact (R.put (dd.append (Dats.one (R.dat (List.mem_cons_of_mem _ hm))))).add rfl
    · cases e
  · cases e
def gExtend (ds as : List D) : Option (D × Bool × List D) := match as with
  | [.lst zs] => if ds.length + zs.length ≤ sizeLine then some (.non, false, ds ++ zs) else none
  | _ => none
theorem ms_extend : MutS X "list.extend" gExtend := by
  refine ⟨_, mt_extend, ?_⟩
  intro H L p ds as ds' vs res rf Q R hl hz e q
  unfold gExtend at e
  split at e
  · rename_i zs
    split at e
    · rename_i hlen
      cases e
      obtain ⟨v, rfl, hm⟩ := zf_one hl hz
      obtain ⟨p', ws, ep, hp, dd⟩ := R.own (p := .ref p) (ds := ds) List.mem_cons_self
      cases ep
      obtain ⟨b, us, eb, hb, db⟩ := R.list (p := v) (ds := zs) (f := false) (List.mem_cons_of_mem _ hm)
      refine ⟨p, b, ws, us, rfl, by rw [eb], hp, hb, by rw [dd.length, db.length]; exact hlen, q _ _ ?_⟩
      exact (R.put (dd.append db)).add rfl
    · cases e
  · cases e
def gPop (ds as : List D) : Option (D × Bool × List D) := match as with
  | [] => (match ds[ds.length - 1]? with
    | some d => some (d, false, ds.dropLast)
    | none => none)
  | _ => none
theorem dats_dropLast {K : PySem.W.Frag} {H : Hp} {Z : Addr → Prop} {ds : List D} {ws : List V} (h : Dats K H Z ds ws) : Dats K H Z ds.dropLast ws.dropLast := by
  rw [List.dropLast_eq_take, List.dropLast_eq_take, h.length]
  exact h.take _
theorem ms_pop : MutS X "list.pop" gPop := by
  refine ⟨_, mt_pop, ?_⟩
  intro H L p ds as ds' vs res rf Q R hl hz e q
  unfold gPop at e
  split at e
  · cases e1 : ds[ds.length - 1]? with
    | none => rw [e1] at e; cases e
    | some d =>
      rw [e1] at e
      cases e
      have : vs = [] := List.length_eq_zero_iff.mp hl
      subst this
      obtain ⟨p', ws, ep, hp, dd⟩ := R.own (p := .ref p) (ds := ds) List.mem_cons_self
      cases ep
      obtain ⟨v, hv, hd⟩ := dd.get e1
      have R2 := R.add hd
      have R3 := R2.perm (List.Perm.swap _ _ _)
      refine ⟨p, ws, v, rfl, rfl, hp, by rw [dd.length]; exact hv, q _ _ ?_⟩
      refine (R3.put (dats_dropLast ?_)).perm (List.Perm.swap _ _ _)
      refine dd.mono (fun a ha => ?_) fun _ _ x _ => x
      rw [OwnA_lst, OwnA_shr] at ha
      rw [OwnA_lst]
      exact ha
  · cases e
/-! ### x[i] = e -/
def mSetI (i : Nat) (me mi : EE) : ES := fun ρ => (me ρ).bind fun o ρ1 => match o with
  | .slt _ => .stuck
  | .tmp d f => opt (ownL ρ1 i) fun _ => (mi ρ1).bind fun o2 ρ2 => opt (look ρ2 o2) fun k => opt (ownL ρ2 i) fun ds => match k with
    | .int k => opt (ixN ds.length k) fun j => .ok .nx (ρ2.set i (some (.lst (ds.set j d), true)))
    | _ => .stuck
theorem ss_setI (he : SE X W e me) (ho : PE X o (tVar i)) (hi : SE X W b mi) (ha : ∀ v, assign (.Subscript o b p2) X.env v = (do
      let ov ← holding [v] (eval o X.env)
      let iv ← holding [v, ov] (eval b X.env)
      standAt p2
      holding [v, ov, iv] (setItem ov iv v)
      release [v, ov, iv] []) := by intro _; rfl) (hs : swapsWithSole [.Subscript o b p2] e pos.line X.env = pure false := by rfl) (hw : swappedStores [.Subscript o b p2] e X.env = pure none := by rfl)
    (h1 : (assignEach [.Subscript o b p2] X.env).map (·.2) = [assign (.Subscript o b p2) X.env] := by rfl) (hsl : X.N[i]?.isSome = true := by rfl) : SS X W I (.Assign [.Subscript o b p2] e pos) (mSetI i me mi) :=
  PS.imp (ps_asg he (pg_sub ho hi set_list ha) hs hw h1) fun D σ H ⟨ρ, L, cc, hh, h⟩ => by
    refine thnS cc [] hh h fun o1 x ρ1 H1 h1 c1 q => ?_
    cases o1 with
    | slt j => exact q.elim
    | tmp d f =>
      obtain ⟨ds0, e0, q⟩ := PstS.opt q
      obtain ⟨v, hv⟩ := h1.al.val i _ (ownL_some e0)
      refine ⟨v, hv, ?_⟩
      refine thnS cc [(x, d, f)] h1 q fun o2 y ρ2 H2 h2 c2 q => ?_
      obtain ⟨k, e1, q⟩ := PstS.opt q
      obtain ⟨ds, e2, q⟩ := PstS.opt q
      cases k with
      | int k =>
        obtain ⟨j, e3, q⟩ := PstS.opt q
        have hr := ownL_some e2
        have hl : i < ρ2.length := (List.getElem?_eq_some_iff.mp hr).1
        obtain ⟨f2, m2⟩ := look_mem (T := ents σ ρ2 ++ (oen y o2 ++ ([(x, d, f)] ++ L))) c2 e1 (fun e he => by simp [he]) (fun e he => by simp [he])
        have ey := h2.rep.int m2
        have R1 : Rep X.K ((x, d, f) :: ((v, .lst ds, true) :: (ents σ (ρ2.set i none) ++ L))) H2 := by
          have s1 : (ents σ ρ2 ++ ([(x, d, f)] ++ L)).Sublist (ents σ ρ2 ++ (oen y o2 ++ ([(x, d, f)] ++ L))) := List.Sublist.append (List.Sublist.refl _) (List.sublist_append_right _ _)
          exact (h2.rep.sublist s1).perm (List.perm_middle.trans (List.Perm.cons _ ((ents_get hv hr).append_right L)))
        have R2 := (Rep.cool R1).perm (List.Perm.swap _ _ _)
        obtain ⟨p, ws, ep, hp, dd⟩ := R2.own (p := v) (ds := ds) List.mem_cons_self
        subst ep
        refine ⟨p, ws, k, j, rfl, ey, hp, by rw [dd.length]; exact e3, q σ _ ⟨h2.al.set ⟨_, hv⟩, ?_⟩ Fix.refl⟩
        have R3 := R2.put (ds' := ds.set j d) (ws' := ws.set j x) (dd.set j (R2.dat (by simp)))
        have R4 := R3.sublist (List.Sublist.cons_cons _ (List.sublist_cons_self _ _))
        exact R4.perm (((ents_set (d := .lst (ds.set j d)) (f := true) hv hl).append_right L).symm)
      | _ => exact q.elim
/-! ### x += n -/
def mAug (i : Nat) (g : Int → Int → Int) (m : EE) : ES := fun ρ => opt (at_ ρ i) fun x => match x.1 with
  | .int a => (m ρ).bind fun o ρ1 => opt (look ρ1 o) fun d => match d with
    | .int b => .ok .nx (ρ1.set i (some (.int (g a b), false)))
    | _ => .stuck
  | _ => .stuck
theorem ss_aug {x : Str} {op : Operator} {g : Int → Int → Int} (hN : X.N.Nodup) (ho : PIp X op (ipI g)) (he : SE X W e m) (hi : X.N[i]? = some x := by rfl) (hx : L2.Loc X.env.scope x := by first | exact .inl rfl | exact .inr rfl) (hI : I.contains i = false := by rfl)
    (hf : X.fn x = true ∨ X.env.scope.names.lookup x = some .local := by first | exact .inl rfl | exact .inr rfl) : SS X W I (.AugAssign (.Name x p2) op e pos) (mAug i g m) :=
  PS.imp (ps_aug hN hi hx he ho hf) fun D σ H ⟨ρ, L, cc, hh, h⟩ => by
    obtain ⟨x, e0, h⟩ := PstS.opt h
    obtain ⟨xd, xf⟩ := x
    obtain ⟨v, hv⟩ := hh.al.val i _ (at_some e0)
    cases xd with
    | int a =>
      have ev := hh.rep.int (p := v) (i := a) (f := xf) (by simp [ents_mem hv (at_some e0)])
      refine ⟨v, hv, thnS cc [] hh h fun o y ρ1 H1 h1 c1 q => ?_⟩
      obtain ⟨d, e1, q⟩ := PstS.opt q
      cases d with
      | int b =>
        obtain ⟨f1, m1⟩ := look_mem (T := ents σ ρ1 ++ (oen y o ++ L)) c1 e1 (fun e he => by simp [he]) (fun e he => by simp [he])
        refine ⟨a, b, ev, h1.rep.int m1, ?_⟩
        have h2 : Here X.K σ ρ1 ((V.int (g a b), .int (g a b), false) :: L) H1 := here_scal h1.drop fun _ => rfl
        have hl : i < ρ1.length := by
          rw [h1.al.len]
          exact (List.getElem?_eq_some_iff.mp hv).1
        exact q _ _ (here_put h2 hl) (Fix.set hI)
      | _ => exact q.elim
    | _ => exact h.elim
/-! ### methods that only read -/
def MthS (X : Cx) (T id : String) (g : D → List D → Option (D × Bool)) : Prop :=
  ∃ r, MtR X id r ∧ (∀ (H : Hp) (L : List En) (x : V) (dx : D) (fx : Bool) (ds : List D) (y : D × Bool), Rep X.K L H → (x, dx, fx) ∈ L → g dx ds = some y → tyV X.K T x H) ∧
    ∀ (H : Hp) (L : List En) (x : V) (xs : List V) (dx : D) (fx : Bool) (ds : List D) (d : D) (fl : Bool) (Q : VK), Rep X.K L H → (x, dx, fx) ∈ L → Sees L xs ds → g dx ds = some (d, fl) →
      (∀ v H', Rep X.K ((v, d, fl) :: L) H' → Q v H') → r x xs H Q
end
end LL

set_option Elab.async false
set_option linter.all false
set_option maxRecDepth 100000
set_option maxHeartbeats 1000000
/-! LayJ: x.index(y) of a list or a tuple. -/
namespace LL
open PySem L2
section
variable {X : Cx} {W : WF} {I : List Nat} {e a b c o : Expr} {es : List Expr} {m ma mb mi me mo : EE} {ms : EA} {pos p2 apos cpos : Pos}
/-- a method of a list or a tuple, as it comes -/
def tBMX (K : PySem.W.Frag) (r1 r2 : V → List V → Hp → VK → Prop) (to : TE) (t : TA) : TE := fun σ H Q => to σ H fun x H1 =>
  ((∃ a xs, x = .ref a ∧ SqL K H1 a xs) ∧ t σ H1 fun xs H2 => r1 x xs H2 Q) ∨ ((∃ a xs, x = .ref a ∧ SqF K H1 a xs) ∧ t σ H1 fun xs H2 => r2 x xs H2 Q)
theorem pe_bmX {to : TE} {t : TA} {name : Str} {id1 id2 : String} {r1 r2 : V → List V → Hp → VK → Prop} (sl1 : Slot "list" name id1) (hty1 : typeOf (.builtin id1) = pure (.type "method_descriptor")) (sl2 : Slot "tuple" name id2) (hty2 : typeOf (.builtin id2) = pure (.type "method_descriptor"))
    (hm1 : MtR X id1 r1) (hm2 : MtR X id2 r2) (ho : PE X o to) (ha : PA X (e :: es) t)
    (hbase : attributeBase o name X.env (eval o X.env) = eval o X.env := by rfl)
    (hall : (((backTo cpos (starEach (e :: es) X.env)).all fun x => !x.1) && ((backToKw cpos (keywordEach [] X.env)).all fun x => x.1.isSome) && decide ((e :: es).length + ([] : List Keyword).length + (if ([] : List Keyword).isEmpty then 0 else 1) < 30)) = true := by rfl)
    (hline : (apos.endLine == cpos.line) = true := by rfl) (he : starEach (e :: es) X.env = (false, eval e X.env) :: starEach es X.env := by rfl) (hpl : (backTo cpos (starEach es X.env)).any (·.1) = false := by rfl) :
    PE X (.Call (.Attribute o name apos) (e :: es) [] cpos) (tBMX X.K r1 r2 to t) := ⟨fun pins s σ H Q I h => by
  refine wpAny_Call_method_late hbase hall hline rfl (L2.thn (ho.run pins s σ H _ I h) fun v s1 q1 => ?_)
  obtain ⟨x, H1, I1, r1, (⟨⟨a, xs, ex, hx⟩, q1⟩ | ⟨⟨a, xs, ex, hx⟩, q1⟩)⟩ := q1
  · subst ex
    obtain rfl : v = .ref a := r1
    obtain ⟨its, _, pl, _⟩ := I1.list hx
    refine ⟨"list", id1, PySem.F.plainAttrs_list, sl1, hty1, pl.isList.typeIs, fun a' ea => by cases ea; obtain ⟨o, n, e, c, hd, _⟩ := pl; exact ⟨o, e, hd⟩, ?_⟩
    have hA := ha.run cpos pins s1 σ H1 _ I1 q1
    rw [he] at hA ⊢
    refine Calls.callWith_builtin (by show (false || (backTo cpos (starEach es X.env)).any (·.1)) = false; rw [hpl]; rfl) (Calls.evalArgs_plain ?_)
    exact L2.thn hA fun us s2 ⟨vs, H2, I2, r2, q2⟩ => hm1 pins s2 σ H2 (.ref a) vs (.ref a) us Q I2 rfl r2 q2
  · subst ex
    obtain rfl : v = .ref a := r1
    obtain ⟨ob, hob, tc, td⟩ := SqF.is I1 hx
    refine ⟨"tuple", id2, PySem.F.plainAttrs_tuple, sl2, hty2, ⟨ob, hob, tc⟩, fun a' ea => by cases ea; exact ⟨ob, hob, td⟩, ?_⟩
    have hA := ha.run cpos pins s1 σ H1 _ I1 q1
    rw [he] at hA ⊢
    refine Calls.callWith_builtin (by show (false || (backTo cpos (starEach es X.env)).any (·.1)) = false; rw [hpl]; rfl) (Calls.evalArgs_plain ?_)
    exact L2.thn hA fun us s2 ⟨vs, H2, I2, r2, q2⟩ => hm2 pins s2 σ H2 (.ref a) vs (.ref a) us Q I2 rfl r2 q2⟩
/-- the first place of an equal one -/
def dIdx (x : D) : List D → Option Nat
  | [] => none
  | d :: ds => if deq d x then some 0 else (match dIdx x ds with
    | some j => some (j + 1)
    | none => none)
def gIdx : D → List D → Option (D × Bool)
  | .lst l, [x] => if sh (.lst l) && sh x then (match dIdx x l with
    | some j => some (.int (j : Nat), false)
    | none => none) else none
  | .tup l, [x] => if sh (.tup l) && sh x then (match dIdx x l with
    | some j => some (.int (j : Nat), false)
    | none => none) else none
  | _, _ => none
theorem dIdx_spec {x : D} : ∀ {l : List D} {j : Nat}, dIdx x l = some j → (∃ z, (toPs l)[j]? = some z ∧ PyData.eqv z (toP x) = true) ∧ (∀ (m : Nat) (z' : PyData), m < j → (toPs l)[m]? = some z' → PyData.eqv z' (toP x) = false) ∧ true ∈ (toPs l).map (fun z => PyData.eqv z (toP x)) ∧ ((toPs l).map fun z => PyData.eqv z (toP x)).idxOf true = j
  | [], j, h => by cases h
  | d :: l, j, h => by
    unfold dIdx at h
    cases hd : deq d x with
    | true =>
      rw [hd] at h
      cases h
      have hd' : PyData.eqv (toP d) (toP x) = true := hd
      refine ⟨⟨toP d, rfl, hd'⟩, fun m z' hm => absurd hm (Nat.not_lt_zero _), ?_, ?_⟩
      · show true ∈ PyData.eqv (toP d) (toP x) :: _
        rw [hd']
        exact List.mem_cons_self
      · show (PyData.eqv (toP d) (toP x) :: (toPs l).map fun z => PyData.eqv z (toP x)).idxOf true = 0
        rw [hd']
        simp
    | false =>
      rw [hd] at h
      have hd' : PyData.eqv (toP d) (toP x) = false := hd
      cases e : dIdx x l with
      | none => rw [e] at h; cases h
      | some k =>
        rw [e] at h
        cases h
        obtain ⟨⟨z, h1, h2⟩, h3, h4, h5⟩ := dIdx_spec e
        refine ⟨⟨z, h1, h2⟩, fun m z' hm hz => ?_, ?_, ?_⟩
        · cases m with
          | zero =>
            have : toP d = z' := by simpa [toPs] using hz
            rw [← this]
            exact hd'
          | succ m => exact h3 m z' (by omega) hz
        · exact List.mem_cons_of_mem _ h4
        · show (PyData.eqv (toP d) (toP x) :: (toPs l).map fun z => PyData.eqv z (toP x)).idxOf true = k + 1
          rw [hd', List.idxOf_cons, h5]
          rfl
def kin : D → D → Bool
  | .lst _, .lst _ => true
  | .tup _, .tup _ => true
  | _, _ => false
def mIdx (mo : EE) (ms : EA) : EE := fun ρ => (mo ρ).bind fun o ρ1 => opt (look ρ1 o) fun d0 => match kin d0 d0 with
  | false => .stuck
  | true => (ms ρ1).bind fun os ρ2 => opt (looks ρ2 os) fun ds => opt (look ρ2 o) fun d => match kin d0 d with
    | true => opt (gIdx d ds) fun x => .ok (.tmp x.1 x.2) ρ2
    | false => .stuck
theorem idx_key {dy : D} {l : List D} {z : D × Bool} (h : (match dIdx dy l with
    | some j => some (D.int (j : Nat), false)
    | none => none) = some z) : ∃ j : Nat, dIdx dy l = some j ∧ z = (.int (j : Nat), false) := by
  cases e5 : dIdx dy l with
  | none => rw [e5] at h; cases h
  | some j => rw [e5] at h; cases h; exact ⟨j, rfl, rfl⟩
theorem se_idx {A : Around} (hu : A.units + 65 < cLine) (ho : SE X W o mo) (ha : SA X W [e] ms)
    (hbase : attributeBase o "index" X.env (eval o X.env) = eval o X.env := by rfl)
    (hall : (((backTo cpos (starEach [e] X.env)).all fun x => !x.1) && ((backToKw cpos (keywordEach [] X.env)).all fun x => x.1.isSome) && decide ([e].length + ([] : List Keyword).length + (if ([] : List Keyword).isEmpty then 0 else 1) < 30)) = true := by rfl)
    (hline : (apos.endLine == cpos.line) = true := by rfl) (he : starEach [e] X.env = (false, eval e X.env) :: starEach [] X.env := by rfl) (hA : X.A = A := by rfl) :
    SE X W (.Call (.Attribute o "index" apos) [e] [] cpos) (mIdx mo ms) := by
  subst hA
  refine PE.imp (pe_bmX PySem.F.slot_list_index PySem.F.type_list_index PySem.F.slot_tuple_index PySem.F.type_tuple_index (mt_indexD hu) (mt_idxT hu) ho ha hbase hall hline he) fun σ H Q ⟨ρ, L, cc, hh, h⟩ => ?_
  refine thn cc [] hh h fun o1 x ρ1 H1 h1 c1 q => ?_
  obtain ⟨d0, e0, q⟩ := Pst.opt q
  obtain ⟨f0, m0⟩ := look_mem (T := ents σ ρ1 ++ (oen x o1 ++ L)) c1 e0 (fun e he => by simp [he]) (fun e he => by simp [he])
  cases d0 with
  | lst l0 =>
    obtain ⟨p, ws, ep, hp, _⟩ := h1.rep.list m0
    refine .inl ⟨⟨p, ws, ep, .inl (.inl hp)⟩, thn cc (oen x o1) h1 q fun os vs ρ2 H2 h2 c2 q => ?_⟩
    obtain ⟨ds, e1, q⟩ := Pst.opt q
    obtain ⟨d, e2, q⟩ := Pst.opt q
    have sees := looks_mem (T := ents σ ρ2 ++ (oens vs os ++ (oen x o1 ++ L))) c2 e1 (fun e he => by simp [he]) (fun e he => by simp [he])
    obtain ⟨f1, m1⟩ := look_mem (T := ents σ ρ2 ++ (oens vs os ++ (oen x o1 ++ L))) c1 e2 (fun e he => by simp [he]) (fun e he => by simp [he])
    cases d with
    | lst l =>
      obtain ⟨z, e3, q⟩ := Pst.opt (show PstE X.K X.mg W σ L (opt (gIdx (.lst l) ds) fun x => .ok (.tmp x.1 x.2) ρ2) Q from q)
      have fq := op_fin (E := oens vs os ++ oen x o1) (by rw [List.append_assoc]; exact h2) q
      rw [List.append_assoc] at fq
      match ds, e3, sees with
      | [dy], e3, sees =>
        have e3 : (if sh (.lst l) && sh dy then (match dIdx dy l with
          | some j => some (D.int (j : Nat), false)
          | none => none) else none) = some z := e3
        split at e3
        · rename_i hs
          rw [Bool.and_eq_true] at hs
          obtain ⟨j, ej, rfl⟩ := idx_key e3
          obtain ⟨y, fy, rfl, my⟩ := sees.one
          obtain ⟨⟨zz, k1, k2⟩, k3, _⟩ := dIdx_spec ej
          exact ⟨p, y, toP dy, toPs l, j, zz, ep, rfl, by rw [← ep]; exact h2.rep.dp m1 hs.1, h2.rep.dp my hs.2, hs.1, hs.2, k1, k2, k3, fq _ _ (h2.rep.add rfl)⟩
        · cases e3
    | _ => exact q.elim
  | tup l0 =>
    obtain ⟨p, ws, ep, hp, _⟩ := h1.rep.tupleF m0
    refine .inr ⟨⟨p, ws, ep, hp⟩, thn cc (oen x o1) h1 q fun os vs ρ2 H2 h2 c2 q => ?_⟩
    obtain ⟨ds, e1, q⟩ := Pst.opt q
    obtain ⟨d, e2, q⟩ := Pst.opt q
    have sees := looks_mem (T := ents σ ρ2 ++ (oens vs os ++ (oen x o1 ++ L))) c2 e1 (fun e he => by simp [he]) (fun e he => by simp [he])
    obtain ⟨f1, m1⟩ := look_mem (T := ents σ ρ2 ++ (oens vs os ++ (oen x o1 ++ L))) c1 e2 (fun e he => by simp [he]) (fun e he => by simp [he])
    cases d with
    | tup l =>
      obtain ⟨z, e3, q⟩ := Pst.opt (show PstE X.K X.mg W σ L (opt (gIdx (.tup l) ds) fun x => .ok (.tmp x.1 x.2) ρ2) Q from q)
      have fq := op_fin (E := oens vs os ++ oen x o1) (by rw [List.append_assoc]; exact h2) q
      rw [List.append_assoc] at fq
      match ds, e3, sees with
      | [dy], e3, sees =>
        have e3 : (if sh (.tup l) && sh dy then (match dIdx dy l with
          | some j => some (D.int (j : Nat), false)
          | none => none) else none) = some z := e3
        split at e3
        · rename_i hs
          rw [Bool.and_eq_true] at hs
          obtain ⟨j, ej, rfl⟩ := idx_key e3
          obtain ⟨y, fy, rfl, my⟩ := sees.one
          obtain ⟨_, _, k3, k4⟩ := dIdx_spec ej
          exact ⟨p, y, toP dy, toPs l, ep, rfl, by rw [← ep]; exact h2.rep.dp m1 hs.1, h2.rep.dp my hs.2, hs.1, hs.2, k3, by rw [k4]; exact fq _ _ (h2.rep.add rfl)⟩
        · cases e3
    | _ => exact q.elim
  | _ => exact q.elim
end
end LL

set_option Elab.async false
set_option linter.all false
set_option maxRecDepth 100000
/-! LayK: chains as tests; small words for the printed derivations. -/
namespace LL
open PySem L2
section
variable {X : Cx} {W : WF} {a b c : Expr} {ma mb mc : EE} {pos : Pos}
def mChnT (g g' : D → D → Option Bool) (ma mb mc : EE) : ET := fun ρ => (mChn g g' ma mb mc ρ).bind fun o ρ1 => match o with
  | .tmp (.bl k) _ => .ok k ρ1
  | _ => .stuck
theorem st_chn {op op' : CmpOp} {g g' : D → D → Option Bool} (ho : OpS X (compareOp op) (blOf g)) (ho' : OpS X (compareOp op') (blOf g')) (ha : SE X W a ma) (hb : SE X W b mb) (hc : SE X W c mc)
    (hm : lastMarks [op, op'] [b, c] = false := by with_unfolding_all rfl) : ST X W (.Compare a [op, op'] [b, c] pos) (mChnT g g' ma mb mc) := by
  obtain ⟨r, hr, hs⟩ := ho
  obtain ⟨r', hr', hs'⟩ := ho'
  refine PT.imp (pt_chain hr hr' ha hb hc hm) fun σ H Q ⟨ρ, L, cc, hh, h⟩ => ?_
  unfold mChnT mChn at h
  have asc : ∀ {α β γ : Type} (r : Res α) (f : α → Rho → Res β) (g : β → Rho → Res γ), (r.bind f).bind g = r.bind fun a ρ => (f a ρ).bind g := by
    intro α β γ r f g
    cases r <;> rfl
  have aso : ∀ {α β γ : Type} (r : Option α) (f : α → Res β) (g : β → Rho → Res γ), (opt r f).bind g = opt r fun a => (f a).bind g := by
    intro α β γ r f g
    cases r <;> rfl
  simp only [asc, aso] at h
  refine thn cc [] hh h fun o1 x ρ1 H1 h1 c1 q => ?_
  refine thn cc (oen x o1) h1 q fun o2 y ρ2 H2 h2 c2 q => ?_
  obtain ⟨d1, e1, q⟩ := Pst.opt q
  obtain ⟨d2, e2, q⟩ := Pst.opt q
  obtain ⟨k, e3, q⟩ := Pst.opt q
  obtain ⟨f1, m1⟩ := look_mem (T := ents σ ρ2 ++ (oen y o2 ++ (oen x o1 ++ L))) c1 e1 (fun e he => by simp [he]) (fun e he => by simp [he])
  obtain ⟨f2, m2⟩ := look_mem (T := ents σ ρ2 ++ (oen y o2 ++ (oen x o1 ++ L))) c2 e2 (fun e he => by simp [he]) (fun e he => by simp [he])
  refine hs H2 _ x y d1 d2 f1 f2 (.bl k) false _ h2.rep m1 m2 (by unfold blOf; rw [e3]) fun v H' R => ?_
  refine ⟨k, R.bl List.mem_cons_self, ?_⟩
  have h3 : Here X.K σ ρ2 ((oen y o2 ++ oen x o1) ++ L) H' := ⟨h2.al, by rw [List.append_assoc]; exact R.tail⟩
  cases k with
  | false => exact iteF ⟨false, rfl, q false H' h3.drop rfl⟩
  | true =>
    simp only [asc, aso] at q
    refine iteT (thn cc (oen y o2 ++ oen x o1) h3 q fun o3 z ρ3 H3 h4 c3 q => ?_)
    obtain ⟨d2', e4, q⟩ := Pst.opt q
    obtain ⟨d3, e5, q⟩ := Pst.opt q
    obtain ⟨k', e6, q⟩ := Pst.opt q
    obtain ⟨f3, m3⟩ := look_mem (T := ents σ ρ3 ++ (oen z o3 ++ ((oen y o2 ++ oen x o1) ++ L))) c2 e4 (fun e he => by simp [he]) (fun e he => by simp [he])
    obtain ⟨f4, m4⟩ := look_mem (T := ents σ ρ3 ++ (oen z o3 ++ ((oen y o2 ++ oen x o1) ++ L))) c3 e5 (fun e he => by simp [he]) (fun e he => by simp [he])
    refine hs' H3 _ y z d2' d3 f3 f4 (.bl k') false _ h4.rep m3 m4 (by unfold blOf; rw [e6]) fun v' H4 R' => ?_
    refine ⟨k', R'.bl List.mem_cons_self, q k' H4 ⟨h4.al, ?_⟩ rfl⟩
    refine R'.tail.sublist (List.Sublist.append (List.Sublist.refl _) ?_)
    exact (List.sublist_append_right _ _).trans (List.sublist_append_right _ _)
end
section
variable {X : Cx} {A : Around}
theorem oq_eq (hu : A.units + 64 < cLine) (hA : X.A = A := by rfl) : OpS X (compareOp .Eq) (blOf gEq) := os_eq (by rw [hA]; exact hu)
theorem oq_ne (hu : A.units + 64 < cLine) (hA : X.A = A := by rfl) : OpS X (compareOp .NotEq) (blOf gNe) := os_ne (by rw [hA]; exact hu)
theorem oq_in (hu : A.units + 65 < cLine) (hA : X.A = A := by rfl) : OpS X (compareOp .In) (blOf gIn) := os_in (by rw [hA]; exact hu)
theorem oq_notIn (hu : A.units + 65 < cLine) (hA : X.A = A := by rfl) : OpS X (compareOp .NotIn) (blOf gNotIn) := os_notIn (by rw [hA]; exact hu)
end
theorem hu64 {k : Nat} {A : Around} (hr : Room k A) : A.units + 64 < cLine := by
  have := hr.un
  omega
theorem hu65 {k : Nat} {A : Around} (hr : Room k A) : A.units + 65 < cLine := by
  have := hr.un
  omega
/-- the def st stands at the name x -/
def Fx (K : PySem.W.Frag) (mg : Str → Option Value) (x : Str) (st : Stmt) : Prop := ∃ f fd, Fun K x x st f fd ∧ mg x = some (.ref f)
theorem def_stuck {P : Program} {w : World} {K : PySem.W.Frag} {mg : Str → Option Value} {base : Heap} {x : Str} {st : Stmt} {N ps : List Str} {k : Nat} (T : Fx K mg x st) (S : FnScope N ps (defScope st)) (hI : ([] : List Nat).all (· < ps.length) = true)
    (hb : ∀ (kV doc pm : Value) (an : Option Addr) (cdv ct : Value) (us : List Value), us.length = ps.length → bindArgs (PySem.W.fnOf x x (defArgs st) (defBody st) (defScope st) .none kV doc pm an cdv ct) ⟨us, []⟩ = pure (ps.zip us)) : Def P w K mg base k x ps (fun _ => .stuck) := by
  obtain ⟨f, fd, F, hx⟩ := T
  refine ⟨f, fd, hx, F.kp, F.binds hb, ?_⟩
  exact ⟨fun vs H Q E h => by obtain ⟨as, L, h1, _⟩ := h; exact h1, fun A outer s H args us vs Q E _ _ _ _ h => by obtain ⟨as, L, _, _, _, q⟩ := h; exact q.elim⟩
end LL

set_option Elab.async false
set_option linter.all false
set_option maxRecDepth 100000
set_option maxHeartbeats 1000000
/-! LayL: own errors: super().__init__(text), fields; made, raised. -/
namespace LL
open PySem PySem.W PySem.Calls PyProof.Rows PySem.HandSPX L2
/-! ### the text of __init__ -/
def iA0 (p1 : Pos) : Arguments := { posonlyargs := [], args := [{ arg := "self", annotation := none, pos := p1 }], vararg := none, kwonlyargs := [], kw_defaults := [], kwarg := none, defaults := [] }
def iA1 (p : Str) (p1 p2 : Pos) : Arguments := { posonlyargs := [], args := [{ arg := "self", annotation := none, pos := p1 }, { arg := p, annotation := none, pos := p2 }], vararg := none, kwonlyargs := [], kw_defaults := [], kwarg := none, defaults := [] }
def iSup (txt : Str) (r1 r2 r3 r4 r5 r6 : Pos) : Stmt := .Expr (.Call (.Attribute (.Call (.Name "super" r1) [] [] r2) "__init__" r3) [.Constant (.str txt) 0 r4] [] r5) r6
def iSet (p : Str) (q1 q2 q3 q4 : Pos) : Stmt := .Assign [.Attribute (.Name "self" q1) p q2] (.Name p q3) q4
def iSc (ps : List Str) : Scope := { kind := .function, names := (PySem.Str.ofString "self", .local) :: (ps.map (fun p => (p, NameKind.local)) ++ [(PySem.Str.ofString "__class__", .free), (PySem.Str.ofString "super", .globalImplicit)]), isGenerator := false, isCoroutine := false, more := [] }
/-- what the written part says of an error's class -/
structure ErrCls (P : Program) (K : Frag) (C fI cc cda : Addr) : Prop where
  cls : ∃ nm q N bs bm sn sub ab col dd k0 k1 k2 k3 k5, K.lookup C = some (excClassObj nm q C N bs bm true sn sub ab col dd k0 k1 k2 k3 k5 "ValueError.__new__") ∧ refsVE bm = true
  sa : findIn K (.ref C) "__setattr__" = some (some (.builtin "object.__setattr__"))
  iC : findIn K (.ref C) "__init__" = some (some (.ref fI))
  tC : typeIn K (.ref fI) = some (.type "function")
  cell : ∃ cl cld csl, K.lookup cc = some ⟨cl, cld, .cell (some (.ref C)), csl⟩
  code : ∃ ccl cdd ccs vs file tf, K.lookup cda = some ⟨ccl, cdd, .fields vs, ccs⟩ ∧ vs[2]? = some (.str file tf) ∧ ((P.main.file : Str) == file) = true
  top : (P.main.scope.names.lookup ("super" : Str)).isSome = false
  sC : mroIn K C (.ref C) = some true
  sB : subIn K (.ref C) (.type "ValueError") = some true
  op : nsIn K cStatics "thirdparty.any" = some none
  su : ks_superIn K C C "__init__" = some (some (.builtin "ValueError.__init__"))
/-- the call stands on one row: its place is its own -/
def SupOk (ps : List Str) (txt : Str) (r1 r2 r3 r4 r5 : Pos) : Prop := ∀ (q : Str) (L fI cda cc : Addr), eval (.Call (.Attribute (.Call (.Name "super" r1) [] [] r2) "__init__" r3) [.Constant (.str txt) 0 r4] [] r5) (ksEnv q (iSc ps) L fI (.ref cda) cc) = (do
      let ov ← attributeBase (.Call (.Name "super" r1) [] [] r2) "__init__" (ksEnv q (iSc ps) L fI (.ref cda) cc) (eval (.Call (.Name "super" r1) [] [] r2) (ksEnv q (iSc ps) L fI (.ref cda) cc))
      standAt r3.atName
      let (f, first) ← holding [ov] (getMethod ov "__init__" (do return (← importBound (.Call (.Name "super" r1) [] [] r2) (ksEnv q (iSc ps) L fI (.ref cda) cc)).getD true))
      callWith r5 f first (backTo r5 (starEach [.Constant (.str txt) 0 r4] (ksEnv q (iSc ps) L fI (.ref cda) cc))) [])
example : SupOk ["line"] "cannot read the line" ⟨7, 8, 7, 13⟩ ⟨7, 8, 7, 15⟩ ⟨7, 8, 7, 24⟩ ⟨7, 25, 7, 47⟩ ⟨7, 8, 7, 48⟩ := fun _ _ _ _ _ => rfl
section
variable {prog : Program} {w : World} {A : Around} {E : Value → Shared → Prop} {s : Shared} {K : Frag} {mg : Str → Option Value} {C fI cc cda : Addr}
/-- super().__init__(txt), self a fresh exception at x -/
theorem sup_run (T : ErrCls prog K C fI cc cda) {x t0 L : Addr} {q : Str} {ps : List Str} {body : List Stmt} {of : Obj} {fd : FuncData} {ar : Arg} {txt : Str} {r1 r2 r3 r4 r5 r6 : Pos} {m : Str → Option Value} {Q : Flow → Shared → Prop}
    (so : SupOk ps txt r1 r2 r3 r4 r5) (X : K.In s.heap) (M : Mod K mg s.heap) (hsu : mg "super" = none) (hx : s.heap.get? x = some (excO C t0)) (hf : s.heap.get? fI = some of) (hfd : of.data = .func fd) (hp : (fd.params.posonlyargs ++ fd.params.args).head? = some ar) (ha : ar.arg = "self")
    (hn : s.heap.Ns L m) (hv : m "self" = some (.ref x)) (hks : (iSc ps).names.lookup ("super" : Str) = some .globalImplicit) (hkc : (iSc ps).names.lookup ("__class__" : Str) = some .free) (hka : (iSc ps).names.lookup ("self" : Str) = some .local)
    (hq : ∀ h' t1 tk, (∀ b o, b ≠ x → s.heap.get? b = some o → h'.get? b = some o) → h'.get? x = some (excO C t1) → Q .next { s with heap := h', toks := tk }) :
    _root_.PySem.wpAt (model prog w) A (.func body (ksEnv q (iSc ps) L fI (.ref cda) cc)) (exec (iSup txt r1 r2 r3 r4 r5 r6) (ksEnv q (iSc ps) L fI (.ref cda) cc)) Q E s := by
  have hk : (iSc ps).kind = .function := rfl
  obtain ⟨nm, qn, N, bs, bm, sn, sub, ab, col, dd, k0, k1, k2, k3, k5, hC, hbm⟩ := T.cls
  obtain ⟨cl, cld, csl, hcell⟩ := T.cell
  obtain ⟨ccl, cdd, ccs, vs, file, tf, hcode, hvs, hfile⟩ := T.code
  have hD1 := X _ _ hC
  have I : InstAt s.heap x (excO C t0) C none := ⟨hx, rfl, rfl, trivial⟩
  unfold iSup
  refine ks_wpAt_Expr_any (ks_wpAt_MethodCall ?_ (so q L fI cda cc))
  refine ks_wpAt_super_base (env := ksEnv q (iSc ps) L fI (.ref cda) cc) hks hkc (by decide) rfl hf hfd hp rfl (X _ _ hcode) rfl hvs hfile T.top ?_
  obtain ⟨mb, b1, b2⟩ := M.blt
  refine ks_loadName_global hk hks (loadGlobal_builtin (env := ksEnv q (iSc ps) L fI (.ref cda) cc) M.glob hsu b1 ((b2 _ (by decide)).trans (by first | boot_by_name | rfl | kernel_rfl)) ⟨rfl, ?_⟩)
  refine wpAny_loadName_free hk hkc rfl ⟨_, X _ _ hcell, rfl⟩ ?_
  rw [ha]
  refine wpAny_loadName_local hk hka hn hv ?_
  refine ks_wpAny_isType_cls hD1 rfl ⟨rfl, ?_⟩
  obtain ⟨hh, g, d, t, os⟩ := s
  refine ks_wpAny_call_super hD1 rfl I.at_ I.cls (fun c e => by cases e) (looks_mroIn X T.sC) (fun h' e k => ?_)
  have X1 : K.In h' := X.keeps k
  have hx1 := k _ _ hx
  have I1 : InstAt h' x (excO C t0) C none := ⟨hx1, rfl, rfl, trivial⟩
  have hsup := T.su
  obtain ⟨cd, hcd⟩ : ∃ cd, clsIn K C = some cd := by
    cases z : clsIn K C with
    | none => unfold ks_superIn at hsup; rw [z] at hsup; cases hsup
    | some cd => exact ⟨cd, rfl⟩
  unfold ks_superIn at hsup
  rw [hcd] at hsup
  refine kxs_getMethod kxs_ValueError e (looks_opaque X1 T.op) (l₀ := cd.mro) (fun A Q E s k q => wpAny_bind ((looks_clsIn X1 hcd) A _ E s k (wpAny_pure q))) rfl X1 hsup (I1.type.andThen (looks_subIn X1 T.sB)) (ks_ne X1 I1 hcd) (by decide) ?_
  have k2 : ∀ b o, h'.get? b = some o → (h'.push (kxs_mw "ValueError.__init__" x)).get? b = some o := fun b o e => Heap.get?_push_of_some _ e
  have hmw : (h'.push (kxs_mw "ValueError.__init__" x)).get? h'.objs.size = some (kxs_mw "ValueError.__init__" x) := Heap.get?_push_at rfl rfl
  refine kxs_callWith (i := "ValueError.__init__") (x := x) rfl (evalArgs_plain ?_)
  show wpAny _ _ (spliced (backTo r5 (starEach [.Constant (.str txt) 0 r4] _))) _ _ _
  refine Calls.spliced_cons (Calls.Constant_str (k := 0) (pos := r4) (Calls.spliced_nil ?_))
  refine ⟨hmw, ?_⟩
  refine wpAny_call (codeAny_of_tree ?_)
  show wpAny _ A.in1 (callAny (.ref h'.objs.size) ⟨[.str txt _], []⟩) _ _ _
  simp only [callAny]
  refine wpAny_bind (wpAny_load hmw ?_)
  simp only [kxs_mw, show (Value.type "method-wrapper" == Value.type "method" || Value.type "method-wrapper" == Value.type "builtin_function_or_method" || Value.type "method-wrapper" == Value.type "method-wrapper") = true by decide, if_true]
  refine KFB.if_so (by decide) ?_
  refine wpAny_bind (check_bound_init F.excBase_ValueError.toExcCallFacts (k2 _ _ (k _ _ hD1)) (k2 _ _ hx1) rfl ?_)
  refine wpAny_bind (wpAny_pure (wpAny_pure ?_))
  refine ⟨plainId_quiet F.excBase_ValueError.init.plain _, codeAny_builtin F.excBase_ValueError.initEntry ?_⟩
  refine exc_init_tree (cls := .ref C) (t0 := t0) (dv := none) (c2 := .none) (c3 := .none) (b4 := .bool false) (k2 _ _ hx1) (by rw [sizeLine_eq]; exact (by decide : 1 ≤ 16777216)) fun h2 k3 e3 t3 => ?_
  exact hq h2 _ _ (fun b o hb e => k3 b o hb (k2 _ _ (k _ _ e))) e3
/-- what __init__ leaves of a fresh exception at x -/
structure InitEnd (h h' : Heap) (x C : Addr) (d : Option Addr) (fs : List (Str × Value)) : Prop where
  keep : ∀ b o, b ≠ x → h.get? b = some o → h'.get? b = some o
  obj : ∃ t1, h'.get? x = some { cls := .ref C, dict := d, data := .fields #[.ref t1, .none, .none, .none, .bool false, .none] }
  dct : (d = none ∧ fs = []) ∨ ∃ a, d = some a ∧ h.objs.size ≤ a ∧ a ≠ x ∧ h'.Ns1 a (fun y => fs.lookup y)
/-- a made error -/
structure OwnMade (h h' : Heap) (e C : Addr) (d : Option Addr) (fs : List (Str × Value)) : Prop where
  keep : ∀ b o, h.get? b = some o → h'.get? b = some o
  new : h.objs.size ≤ e
  obj : ∃ oe vs, h'.get? e = some oe ∧ oe.cls = .ref C ∧ oe.dict = d ∧ oe.data = .fields vs ∧ vs[1]? = some .none
  dct : (d = none ∧ fs = []) ∨ ∃ a, d = some a ∧ h.objs.size ≤ a ∧ a ≠ e ∧ h'.Ns1 a (fun y => fs.lookup y)
theorem mod_keeps {h h' : Heap} (M : Mod K mg h) (k : ∀ b o, h.get? b = some o → h'.get? b = some o) : Mod K mg h' :=
  ⟨M.kin.keeps k, M.glob.keeps k, M.blt.imp fun _ z => ⟨z.1.keeps k, z.2⟩, M.nolimit.keeps k⟩
theorem isc_cell (ps : List Str) : ∀ x ∈ (iSc ps).names, x.2 ≠ .cell := by
  intro x hx
  simp only [iSc, List.mem_cons, List.mem_append, List.mem_map] at hx
  rcases hx with rfl | ⟨p, _, rfl⟩ | rfl | rfl | hx
  · decide
  · exact fun z => by cases z
  · decide
  · decide
  · cases hx
theorem ldS {M : Model} {q : Str} {ps : List Str} {L fI cda cc : Addr} {m : Str → Option Value} {x : Str} {pos : Pos} {v : Value} {Q : Value → Shared → Prop} (hn : s.heap.Ns L m) (hv : m x = some v) (h : Q v s)
    (hl : (iSc ps).names.lookup x = some .local) (hd : (x == ("__debug__" : Str)) = false) :
    wpAny M A (eval (.Name x pos) (ksEnv q (iSc ps) L fI (.ref cda) cc)) Q E s := wpAny_Name (wpAny_loadName_local rfl hl hn hv h) hd
variable {R : Result → Shared → Prop}
theorem init1 {p txt qual : Str} {p1 p2 r1 r2 r3 r4 r5 r6 q1 q2 q3 q4 : Pos} (T : ErrCls prog K C fI cc cda) (so : SupOk [p] txt r1 r2 r3 r4 r5) (hps : (("self" : Str) == p) = false) (hpd : (p == ("__debug__" : Str)) = false) (noN : findIn K (.ref C) p = some none)
    (hpn : (p == ("__class__" : Str)) = false) (hpu : (p == ("super" : Str)) = false) (hsw : ∀ (q : Str) (L : Addr), swapsWith (.Name p q3) (some (.Attribute (.Name "self" q1) p q2)) q4.line (ksEnv q (iSc [p]) L fI (.ref cda) cc) = pure false)
    (hbd : ∀ (doc pm : Value) (an : Option Addr) (ct a b : Value), bindArgs (ksFn "__init__" qual (iA1 p p1 p2) [iSup txt r1 r2 r3 r4 r5 r6, iSet p q1 q2 q3 q4] (iSc [p]) .none .none doc pm an (.ref cda) ct cc) ⟨[a, b], []⟩ = pure [((("self" : Str)), a), (p, b)])
    (fn : ∃ (oc : Value) (od : Option Addr) (doc pm : Value) (an : Option Addr) (ct : Value) (osl : Array (Option Value)), K.lookup fI = some ⟨oc, od, .func (ksFn "__init__" qual (iA1 p p1 p2) [iSup txt r1 r2 r3 r4 r5 r6, iSet p q1 q2 q3 q4] (iSc [p]) .none .none doc pm an (.ref cda) ct cc), osl⟩) (hcd : codeIn K (.ref cda) qual = true)
    {x t0 : Addr} {v : Value} (M : Mod K mg s.heap) (hsu : mg "super" = none) (hx : s.heap.get? x = some (excO C t0)) (hnx : K.lookup x = none) (hroom : A.depth < recursionLimit)
    (hq : ∀ h' tk d, InitEnd s.heap h' x C d [(p, v)] → R (.ok (.ret .none)) { s with heap := h', toks := tk }) :
    codeAny (model prog w) A (.call (.ref fI) ⟨[.ref x, v], []⟩) R s := by
  obtain ⟨oc, od, doc, pm, an, ct, osl, ho⟩ := fn
  obtain ⟨nm, q, N, bs, bm, sn, sub, ab, col, dd, k0, k1, k2, k3, k5, hC, hbm⟩ := T.cls
  have X := M.kin
  have hcl : clsIn K C = some { name := nm, bases := bs, mro := .ref C :: bm, ns := N, qualname := q, hasDict := true, slotNames := sn, subclasses := sub, abstract := ab, collection := col, hasDel := false } := by unfold clsIn; rw [hC] <;> rfl
  have l1 : (iSc [p]).names.lookup p = some .local := by
    show List.lookup p ((PySem.Str.ofString "self", NameKind.local) :: (p, .local) :: _) = _
    rw [List.lookup_cons]
    split
    · rfl
    · rw [List.lookup_cons, show (p == p) = true from by simp]
  have l0 : (iSc [p]).names.lookup ("self" : Str) = some .local := rfl
  have ls : (iSc [p]).names.lookup ("super" : Str) = some .globalImplicit := by
    have : (("super" : Str) == p) = false := by rw [beq_eq_false_iff_ne] at hpu ⊢; exact Ne.symm hpu
    show List.lookup ("super" : Str) ((PySem.Str.ofString "self", NameKind.local) :: (p, .local) :: _) = _
    rw [List.lookup_cons, show (("super" : Str) == PySem.Str.ofString "self") = false from by decide, List.lookup_cons, this]
    rfl
  have lc : (iSc [p]).names.lookup ("__class__" : Str) = some .free := by
    have : (("__class__" : Str) == p) = false := by rw [beq_eq_false_iff_ne] at hpn ⊢; exact Ne.symm hpn
    show List.lookup ("__class__" : Str) ((PySem.Str.ofString "self", NameKind.local) :: (p, .local) :: _) = _
    rw [List.lookup_cons, show (("__class__" : Str) == PySem.Str.ofString "self") = false from by decide, List.lookup_cons, this]
    rfl
  refine ks_codeAny_call_defAt (fd := ksFn "__init__" qual (iA1 p p1 p2) [iSup txt r1 r2 r3 r4 r5 r6, iSet p q1 q2 q3 q4] (iSc [p]) .none .none doc pm an (.ref cda) ct cc) (binds := [("self", .ref x), (p, v)]) hroom (X _ _ ho) rfl M.nolimit (codeRec_of X hcd) rfl
    (BindsTo.of_eq (hbd _ _ _ _ _ _)) (isc_cell [p]) (fun y hy => ?_) fun h₁ hn k => ?_
  · rcases List.mem_cons.mp hy with rfl | hy
    · exact l0
    · rcases List.mem_cons.mp hy with rfl | hy
      · exact l1
      · cases hy
  · have M₁ : Mod K mg h₁ := mod_keeps M k
    have hx₁ := k _ _ hx
    have mself : List.lookup ("self" : Str) ([("self", .ref x), (p, v)] : List (Str × Value)).reverse = some (.ref x) := by
      show List.lookup ("self" : Str) ([(p, v), ("self", .ref x)] : List (Str × Value)) = _
      rw [List.lookup_cons, hps]
      rfl
    have mp : List.lookup p ([("self", .ref x), (p, v)] : List (Str × Value)).reverse = some v := by
      show List.lookup p ([(p, v), ("self", .ref x)] : List (Str × Value)) = _
      rw [List.lookup_cons, show (p == p) = true from by simp]
    have hxL : s.heap.objs.size ≠ x := Nat.ne_of_gt (Heap.lt_size hx)
    refine ks_wpAt_execs_cons (sup_run (s := { s with heap := h₁, toks := s.toks + 2 }) T so M₁.kin M₁ hsu hx₁ (M₁.kin _ _ ho) rfl rfl rfl hn mself ls lc l0 fun h₂ t1 tk₂ k₂ hx₂ => ?_)
    refine wpAt_of_wpAny ?_
    refine wpAny_execs_cons ?_
    unfold iSet
    refine plainObj_wpAny_Assign_Attribute ?_ (hsw qual _)
    have hn₂ : h₂.Ns s.heap.objs.size (fun y => List.lookup y ([("self", .ref x), (p, v)] : List (Str × Value)).reverse) := hn.at (fun o e => k₂ _ _ hxL e)
    have X₂ : K.In h₂ := fun a o e => k₂ a o (fun z => by rw [z, hnx] at e; cases e) (M₁.kin a o e)
    refine ldS (v := v) hn₂ mp ?_ l1 hpd
    refine ldS (v := .ref x) hn₂ mself ?_ l0 (by decide)
    refine set_plain X₂ (ox := excO C t1) (od := none) ⟨hx₂, rfl, rfl, trivial⟩ T.sa ?_
    refine exc_osa X₂ hx₂ hcl (show refsVE (.ref C :: bm) = true from hbm) rfl noN (fun h₃ tk₃ dx k₃ dn dne hx₃ hn₃ => ?_)
    show wpAny _ _ (execs _ _) _ _ _
    have z : s.heap.objs.size < h₂.objs.size := hn₂.lt
    refine wpAny_execs_nil (hq h₃ tk₃ (some dx) ⟨fun b o hb e => k₃ b o hb (k₂ b o hb (k b o e)), ⟨_, hx₃⟩, .inr ⟨dx, rfl, Nat.le_of_lt (Nat.lt_of_lt_of_le z dn), dne, ?_⟩⟩)
    have e : (fun y => List.lookup y [(p, v)]) = (fun y => if y = p then some v else none) := by
      funext y
      by_cases h : y = p
      · rw [if_pos h, h, List.lookup_cons, show (p == p) = true from by simp]
      · rw [if_neg h, List.lookup_cons, show (y == p) = false from by simpa using h]
        rfl
    rw [e]
    exact hn₃
/-- what a def needs of the class of an error: called, raised, caught, read -/
structure ErrTxt (P : Program) (w : World) (K : Frag) (mg : Str → Option Value) (nm : Str) (ps : List Str) (C : Addr) : Prop where
  gC : mg nm = some (.ref C)
  made : ∀ (A : Around) (R : Result → Shared → Prop) (s : Shared) (vs : List Value), vs.length = ps.length → Mod K mg s.heap → A.depth + 1 < recursionLimit → (∀ h' tk e d, OwnMade s.heap h' e C d (ps.zip vs) → R (.ok (.ret (.ref e))) { s with heap := h', toks := tk }) →
    codeAny (model P w) A (.call (.ref C) ⟨vs, []⟩) R s
  ga : findIn K (.ref C) "__getattribute__" = some (some (.builtin "BaseException.__getattribute__"))
  gg : findIn K (.ref C) "__getattr__" = some none
  noN : ∀ p ∈ ps, findIn K (.ref C) p = some none
  kC : keepIn K (.ref C) = true
  exC : subIn K (.ref C) (.type "BaseException") = some true
  tyC : typeIn K (.ref C) = some (.type "type")
  hdC : hasDictIn K C = true
theorem made_of {R : Result → Shared → Prop} (T : ErrCls prog K C fI cc cda) {vs : List Value} {fs : List (Str × Value)} (M : Mod K mg s.heap) (hz : vs.length ≤ sizeLine) (hroom : A.depth + 1 < recursionLimit)
    (hi : ∀ (A : Around) (R : Result → Shared → Prop) (s : Shared) (x t0 : Addr), Mod K mg s.heap → s.heap.get? x = some (excO C t0) → K.lookup x = none → A.depth < recursionLimit → (∀ h' tk d, InitEnd s.heap h' x C d fs → R (.ok (.ret .none)) { s with heap := h', toks := tk }) →
      codeAny (model prog w) A (.call (.ref fI) ⟨.ref x :: vs, []⟩) R s)
    (hq : ∀ h' tk e d, OwnMade s.heap h' e C d fs → R (.ok (.ret (.ref e))) { s with heap := h', toks := tk }) : codeAny (model prog w) A (.call (.ref C) ⟨vs, []⟩) R s := by
  obtain ⟨nm, q, N, bs, bm, sn, sub, ab, col, dd, k0, k1, k2, k3, k5, hC, hbm⟩ := T.cls
  obtain ⟨hp, g, dr, tk, os⟩ := s
  have X := M.kin
  have k : ∀ b o, hp.get? b = some o → ((hp.push (kdv_tup vs)).push (excO C hp.objs.size)).get? b = some o := fun b o e => Heap.get?_push_of_some _ (Heap.get?_push_of_some _ e)
  have hget : ((hp.push (kdv_tup vs)).push (excO C hp.objs.size)).get? (hp.objs.size + 1) = some (excO C hp.objs.size) := by heap_get
  have hnx : K.lookup (hp.objs.size + 1) = none := by
    cases e : K.lookup (hp.objs.size + 1) with
    | none => rfl
    | some o =>
      have z : hp.get? (hp.objs.size + 1) = some o := X _ _ e
      exact absurd (Nat.lt_of_succ_lt (Heap.lt_size z)) (Nat.lt_irrefl _)
  refine call_own F.excBase_ValueError (fun X => refsVE_contains X bm hbm) (X _ _ hC) (looks_findIn X T.iC) (fun self => bind_fn X self T.tC) hz ?_
  refine hi _ _ ⟨(hp.push (kdv_tup vs)).push (excO C hp.objs.size), g, dr, tk, os⟩ _ _ (mod_keeps M k) hget hnx ?_ fun h' tk' d ⟨k', ⟨t1, hx⟩, hd⟩ => ?_
  · show A.depth + 1 < recursionLimit
    exact hroom
  · have old : ∀ b o, hp.get? b = some o → h'.get? b = some o := fun b o e => k' b o (Nat.ne_of_lt (Nat.lt_succ_of_lt (Heap.lt_size e))) (k b o e)
    refine ⟨rfl, hq h' tk' (hp.objs.size + 1) d ⟨old, Nat.le_succ _, ⟨_, _, hx, rfl, rfl, rfl, rfl⟩, ?_⟩⟩
    rcases hd with hd | ⟨a, e, dn, dne, hns⟩
    · exact .inl hd
    · have dn : ((hp.push (kdv_tup vs)).push (excO C hp.objs.size)).objs.size ≤ a := dn
      have z : hp.objs.size + 1 + 1 ≤ a := by
        first
          | (simpa only [Heap.size_push] using dn)
          | exact dn
          | (have q := dn; rw [Heap.size_push, Heap.size_push] at q; exact q)
      exact .inr ⟨a, e, Nat.le_trans (Nat.le_trans (Nat.le_succ _) (Nat.le_succ _)) z, dne, hns⟩
end
end LL

set_option Elab.async false
set_option linter.all false
set_option maxRecDepth 100000
set_option maxHeartbeats 1000000
/-! LayM: own errors raised, caught, read. -/
namespace LL
open PySem L2
theorem relO_zip : ∀ {ps : List Str} {vs : List V} {us : List Value}, Vals vs us → ∀ f, RelO ((ps.zip vs).lookup f) ((ps.zip us).lookup f)
  | [], _, _, _, f => trivial
  | p :: ps, [], us, h, f => by cases h; exact trivial
  | p :: ps, v :: vs, us, h, f => by
    cases h with
    | cons h1 h2 =>
      rw [List.zip_cons_cons, List.zip_cons_cons, List.lookup_cons, List.lookup_cons]
      split
      · exact h1
      · exact relO_zip h2 f
section
variable {X : Cx} {W : WF} {I : List Nat} {C : Addr} {nm : Str} {ps : List Str} {k : Nat} {a e : Expr} {es : List Expr} {ms : EA} {p pos pos2 : Pos}
/-- the class called: an error whose own dict holds the fields -/
def tMk (C : Addr) (ps : List Str) (ta : TA) : St → Hp → XK → Prop := fun σ H Q => ta σ H fun vs H1 => vs.length = ps.length ∧ (∀ d, H1 d = none → Q (.ref C) (some d) (upd H1 d (.xd (ps.zip vs)))) ∧ (ps = [] → Q (.ref C) none H1)
theorem mk_run {pins : List (Addr × Obj)} {σ : St} {H1 : Hp} {s1 : Shared} {vs : List V} {us : List Value} {Q : XK} (T : ErrTxt X.prog X.w X.K X.mg nm ps C) (hr : Room k X.A) (I1 : Inv X pins σ H1 s1) (r1 : Vals vs us) (hl : vs.length = ps.length)
    (q1 : ∀ d, H1 d = none → Q (.ref C) (some d) (upd H1 d (.xd (ps.zip vs)))) (q0 : ps = [] → Q (.ref C) none H1) : wpAny (model X.prog X.w) X.A (call (.ref C) us) (MkP X pins σ Q) X.xe s1 := by
  have M1 : Mod X.K X.mg s1.heap := mod_keeps I1.mod I1.bk
  obtain ⟨hp, g, dr, tk, os⟩ := s1
  refine wpAny_call (T.made X.A _ _ us (by rw [← r1.length]; exact hl) M1 (by have := hr.dp; omega) fun h' tk' e d M => ?_)
  show MkP X pins σ Q (.ref e) ⟨h', g, dr, tk', os⟩
  obtain ⟨oe, fv, hoe, hc, hd, hdat, h1⟩ := M.obj
  rcases M.dct with ⟨ed, ef⟩ | ⟨dx, ed, dbig, dne, hns⟩
  · have e0 : ps = [] := by
      cases ps with
      | nil => rfl
      | cons p ps =>
        cases us with
        | nil => rw [r1.length] at hl; cases hl
        | cons u us => cases ef
    refine ⟨e, oe, fv, ⟨hp, g, dr, tk, os⟩, H1, .ref C, none, rfl, I1, M.keep, ?_, hoe, ⟨hc, hd.trans ed⟩, hdat, h1, I1.hok.fresh M.new, rfl, I1.bare, raises_own T.exC T.tyC, q0 e0⟩
    cases z : hp.get? e with
    | none => rfl
    | some o => exact absurd (Heap.lt_size z) (Nat.not_lt.mpr M.new)
  · obtain ⟨G', g1, g2⟩ := restrict h' fun b => decide (b ≠ e)
    have gk : ∀ b, b ≠ e → G'.get? b = h'.get? b := fun b hb => g1 b (decide_eq_true hb)
    have ge : G'.get? e = none := g2 e (by simp)
    have old : ∀ b o, hp.get? b = some o → G'.get? b = some o := fun b o q => (gk b (Nat.ne_of_lt (Nat.lt_of_lt_of_le (Heap.lt_size q) M.new))).trans (M.keep b o q)
    have ob : ObjOk X.prog X.w (upd H1 dx (.xd (ps.zip vs))) G' dx (.xd (ps.zip vs)) :=
      ⟨_, hns.at (fun o q => (gk dx dne).trans q), fun f => relO_zip r1 f⟩
    have J : Inv X pins σ (upd H1 dx (.xd (ps.zip vs))) ⟨G', g, dr, tk', os⟩ := I1.laid (t' := tk') old dbig ob
    refine ⟨e, oe, fv, ⟨G', g, dr, tk', os⟩, _, .ref C, some dx, rfl, J, fun b o q => ?_, ge, hoe, ⟨hc, hd.trans ed⟩, hdat, h1, ?_, rfl, I1.bare, raises_own T.exC T.tyC, q1 dx (I1.hok.fresh dbig)⟩
    · by_cases hb : b = e
      · have q' : G'.get? b = some o := q
        rw [hb, ge] at q'; cases q'
      · exact (gk b hb).symm.trans q
    · rw [upd_ne (Ne.symm dne)]
      exact I1.hok.fresh M.new
theorem pmk_err {ta : TA} (T : ErrTxt X.prog X.w X.K X.mg nm ps C) (hr : Room k X.A) (ha : PA X (a :: es) ta) (hg : Gl X nm := by rfl) (hdb : (nm == ("__debug__" : Str)) = false := by decide)
    (he : starEach (a :: es) X.env = (false, eval a X.env) :: starEach es X.env := by rfl) (hpl : (backTo pos (starEach es X.env)).any (·.1) = false := by rfl) :
    PMk X (.Call (.Name nm p) (a :: es) [] pos) (tMk C ps ta) := by
  intro pins s σ H Q I h
  refine wpAny_Call_Name_kw (ld_glob I hg T.gC ?_ hdb)
  refine PySem.W.callWith_K (h₀ := X.base) I.ok.mod.kin T.kC (L2.thn (ha.run pos pins s σ H _ I h) fun us s1 hh => ?_) he hpl
  obtain ⟨vs, H1, I1, r1, hl, q1, q0⟩ := hh
  exact ⟨I1.kIn, mk_run T hr I1 r1 hl q1 q0⟩
theorem pmk_err0 (T : ErrTxt X.prog X.w X.K X.mg nm [] C) (hr : Room k X.A) (hg : Gl X nm := by rfl) (hdb : (nm == ("__debug__" : Str)) = false := by decide) :
    PMk X (.Call (.Name nm p) [] [] pos) (tMk C [] tNil) := by
  intro pins s σ H Q I h
  refine wpAny_Call_Name_kw (ld_glob I hg T.gC ?_ hdb)
  obtain ⟨hl, q1, q0⟩ := h
  exact PySem.W.callWith_K0 I.kIn T.kC (mk_run T hr I .nil hl q1 q0)
/-! ### raise -/
def mRaise (nm : Str) (ps : List Str) (ms : EA) : ES := fun ρ => (ms ρ).bind fun os ρ1 => opt (tmps os) fun ds => if ds.length = ps.length then .ex (nm, ps.zip ds) ρ1 else .stuck
theorem zip_snd {α β : Type} : ∀ {l : List α} {m : List β}, m.length = l.length → (l.zip m).map (·.2) = m
  | [], [], _ => rfl
  | [], m :: ms, h => by simp at h
  | l :: ls, [], h => by simp at h
  | l :: ls, m :: ms, h => by simp [zip_snd (l := ls) (m := ms) (by simpa using h)]
theorem zip_fst {α β : Type} : ∀ {l : List α} {m : List β}, m.length = l.length → (l.zip m).map (·.1) = l
  | [], [], _ => rfl
  | [], m :: ms, h => by simp at h
  | l :: ls, [], h => by simp at h
  | l :: ls, m :: ms, h => by simp [zip_fst (l := ls) (m := ms) (by simpa using h)]
theorem raise_fin {D : Ends} {σ : St} {ρ1 : Rho} {L : List En} {H1 : Hp} {vs : List V} {os : List O} {ds : List LL.D} (gC : X.mg nm = some (.ref C)) (h1 : Here X.K σ ρ1 (oens vs os ++ L) H1) (c1 : OIss σ vs os) (e1 : tmps os = some ds) (hl : ds.length = ps.length)
    (q : PstS I X.K X.mg W σ L (.ex (nm, ps.zip ds) ρ1) D) : vs.length = ps.length ∧ (∀ d, H1 d = none → W.w (.ref C) (some d) σ (upd H1 d (.xd (ps.zip vs)))) ∧ (ps = [] → W.w (.ref C) none σ H1) := by
  obtain ⟨L', s, R, dd⟩ := rep_tmps (L := ents σ ρ1 ++ L) c1 e1 (h1.rep.perm (by
    show (ents σ ρ1 ++ (oens vs os ++ L)).Perm (oens vs os ++ (ents σ ρ1 ++ L))
    rw [← List.append_assoc, ← List.append_assoc]
    exact List.perm_append_comm.append_right _))
  have hv : vs.length = ps.length := dd.length.trans hl
  have zz : ∀ a, a ∈ OwnA (ents σ ρ1 ++ L) → a ∈ OwnA L' := fun a ha => OwnA_sub (fun e he => s.subset he) ha
  have R0 : Rep X.K (ents σ ρ1 ++ L) H1 := R.sublist s
  refine ⟨hv, fun d hd => ?_, fun e0 => ?_⟩
  · refine q (.ref C) (some d) σ _ ⟨h1.al, R0.keep (upd_keep hd)⟩ Fix.refl ⟨C, gC, rfl, .inr ⟨d, ps.zip vs, rfl, upd_same, ?_, ?_⟩⟩
    · rw [zip_fst hv, zip_fst hl]
    · rw [zip_snd hv, zip_snd hl]
      exact dd.mono zz fun b o e _ => upd_keep hd b o e
  · subst e0
    exact q (.ref C) none σ _ ⟨h1.al, R0⟩ Fix.refl ⟨C, gC, rfl, .inl ⟨rfl, rfl⟩⟩
theorem ss_raise {A : Around} (T : ErrTxt X.prog X.w X.K X.mg nm ps C) (hr : Room k A) (tk : Takes X W.w) (ha : SA X W (a :: es) ms) (hc : X.calm = true := by rfl) (hA : X.A = A := by rfl) (hg : Gl X nm := by rfl) (hdb : (nm == ("__debug__" : Str)) = false := by decide)
    (he : starEach (a :: es) X.env = (false, eval a X.env) :: starEach es X.env := by rfl) (hpl : (backTo pos (starEach es X.env)).any (·.1) = false := by rfl) :
    SS X W I (.Raise (some (.Call (.Name nm p) (a :: es) [] pos)) none pos2) (mRaise nm ps ms) := by
  subst hA
  refine PS.imp (ps_raise hc tk (pmk_err T hr ha hg hdb he hpl)) fun D σ H ⟨ρ, L, cc, hh, h⟩ => ?_
  refine thnS cc [] hh h fun os vs ρ1 H1 h1 c1 q => ?_
  obtain ⟨ds, e1, q⟩ := PstS.opt q
  by_cases hl : ds.length = ps.length
  · rw [if_pos hl] at q
    exact raise_fin T.gC h1 c1 e1 hl q
  · rw [if_neg hl] at q
    exact q.elim
theorem ss_raise0 {A : Around} (T : ErrTxt X.prog X.w X.K X.mg nm [] C) (hr : Room k A) (tk : Takes X W.w) (hc : X.calm = true := by rfl) (hA : X.A = A := by rfl) (hg : Gl X nm := by rfl) (hdb : (nm == ("__debug__" : Str)) = false := by decide) :
    SS X W I (.Raise (some (.Call (.Name nm p) [] [] pos)) none pos2) (mRaise nm [] mNil) := by
  subst hA
  refine PS.imp (ps_raise hc tk (pmk_err0 T hr hg hdb)) fun D σ H ⟨ρ, L, cc, hh, h⟩ => ?_
  exact raise_fin (vs := []) (os := []) (ds := []) T.gC hh trivial rfl rfl h
end
end LL

set_option Elab.async false
set_option linter.all false
set_option maxRecDepth 100000
set_option maxHeartbeats 1000000
/-! LayN: try .. except: the error caught, its fields, its class. -/
namespace LL
open PySem L2
/-- the errors of the program: names, fields -/
def Errs (P : Program) (w : World) (K : PySem.W.Frag) (mg : Str → Option Value) (tab : List (Str × List Str)) : Prop := ∀ e ∈ tab, ∃ C, ErrTxt P w K mg e.1 e.2 C
/-- which errors an except clause of the class c takes -/
def Hit (K : PySem.W.Frag) (mg : Str → Option Value) (c : Value) (hit : List (Str × Bool)) : Prop := ∀ e ∈ hit, ∀ C, mg e.1 = some (.ref C) → PySem.W.exmOne K (.ref C) c = some e.2
/-- what isinstance says of an error and the class c -/
def Kit (K : PySem.W.Frag) (mg : Str → Option Value) (c : Value) (hit : List (Str × Bool)) : Prop := ∀ e ∈ hit, ∀ C, mg e.1 = some (.ref C) → PySem.W.kitOne K (.ref C) c = some e.2
theorem lookup_mem {α β : Type} [BEq α] [LawfulBEq α] {k : α} {v : β} : ∀ {l : List (α × β)}, l.lookup k = some v → (k, v) ∈ l
  | [], h => by cases h
  | (a, b) :: l, h => by
    rw [List.lookup_cons] at h
    split at h
    · rename_i e
      cases h
      rw [beq_iff_eq.mp e]
      exact List.mem_cons_self
    · exact List.mem_cons_of_mem _ (lookup_mem h)
/-- what the suite keeps: the error in slot i at a, its dict -/
def wSu (i : Nat) (a : Addr) (d : Option Addr) (x : XD) : WF := ⟨fun _ _ _ _ => False, (match d with
  | none => []
  | some dd => [(.ref dd, .xdd (x.2.map (·.1)) (x.2.map (·.2)), false)]), [(i, .ref a)]⟩
/-- what is known of the error in its suite -/
structure Got (X : Cx) (tab : List (Str × List Str)) (cls : Value) (d : Option Addr) (oe : Obj) (x : XD) : Prop where
  tb : tab.lookup x.1 = some (x.2.map (·.1))
  cl : ∃ C, X.mg x.1 = some (.ref C) ∧ cls = .ref C
  dd : x.2 = [] ∨ ∃ a, d = some a
  hz : Zc cls d oe
  hf : ∃ vs, oe.data = .fields vs
def mTryAs (body : ES) (tab : List (Str × List Str)) (hit : List (Str × Bool)) (i : Nat) (suite : XD → ES) : ES := fun ρ => match body ρ with
  | .ex x ρ1 => match hit.lookup x.1 with
    | none => .stuck
    | some false => .ex x ρ1
    | some true => if i < ρ1.length ∧ tab.lookup x.1 = some (x.2.map (·.1)) then match suite x (ρ1.set i none) with
      | .ok fl ρ2 => .ok fl (ρ2.set i none)
      | _ => .stuck
      else .stuck
  | r => r
section
variable {X : Cx} {W : WF} {I : List Nat} {tab : List (Str × List Str)} {hit : List (Str × Bool)} {x n : Str} {c : Value} {i : Nat} {body suite : List Stmt} {b₀ : Stmt} {np pos pos' : Pos} {mb : ES} {ms : XD → ES}
theorem fix_cons {σ σ' : St} (f : Fix (i :: I) σ σ') : Fix I σ σ' := f.mono fun j hj => List.mem_cons_of_mem _ hj
theorem here_gone {K : PySem.W.Frag} {σ : St} {ρ : Rho} {L : List En} {H : Hp} {o : Option V} (hh : Here K σ ρ L H) (hi : i < ρ.length) : Here K (σ.set i o) (ρ.set i none) L H := by
  have h2 : Here K σ (ρ.set i none) L H := ⟨hh.al.forget i, hh.rep.sublist ((ents_drop σ ρ i).append (List.Sublist.refl _))⟩
  have e : (ρ.set i none)[i]? = some none := List.getElem?_set_self hi
  refine ⟨⟨by rw [h2.al.len, List.length_set], fun j x ej => ?_⟩, ?_⟩
  · obtain ⟨v, hv⟩ := h2.al.val j x ej
    by_cases hj : i = j
    · subst hj
      rw [e] at ej
      cases ej
    · exact ⟨v, by rw [List.getElem?_set_ne hj]; exact hv⟩
  · rw [ents_val e]
    exact h2.rep
theorem xis_entry {K : PySem.W.Frag} {mg : Str → Option Value} {x : XD} {cls : Value} {dd : Option Addr} {σ : St} {ρ : Rho} {L : List En} {H : Hp} {i : Nat} {a : Addr} (hh : Here K σ ρ L H) (hx : XIs K mg x cls dd H (· ∈ OwnA (ents σ ρ ++ L))) :
    Here K σ ρ ((wSu i a dd x).F ++ L) H := by
  obtain ⟨C, _, _, h⟩ := hx
  rcases h with ⟨_, h⟩ | ⟨d, fs, h1, h2, h3, h4⟩
  · subst h
    exact hh
  · subst h1
    refine ⟨hh.al, (hh.rep.add (v := .ref d) (d := .xdd (x.2.map (·.1)) (x.2.map (·.2))) ⟨d, fs, rfl, ⟨h2, hh.rep.noxd h2⟩, h3, h4⟩).perm ?_⟩
    exact List.perm_middle.symm
theorem ss_tryAs {A : Around} (tk : Takes X W.w) (hc : Names X x c) (hh : Hit X.K X.mg c hit) (hN : X.N.Nodup)
    (hb : ∀ (W : WF) (pn : List (Addr × Obj)) (xe : Value → Shared → Prop), Takes (X.tr pn xe) W.w → PassesOwn (model X.prog X.w) X.A X.env xe → SB (X.tr pn xe) W I body mb)
    (hsu : ∀ (a : Addr) (oe : Obj) (cls : Value) (d : Option Addr) (pn : List (Addr × Obj)) (x : XD), Got X tab cls d oe x → SB (X.suite a ((a, oe) :: pn)) (wSu i a d x) (i :: I) (b₀ :: suite) (ms x))
    (hi : X.N[i]? = some n := by rfl) (hln : X.env.kindOf n = some .local := by rfl) (hI : I.contains i = false := by rfl) (hS : W.S = [] := by rfl) (hF : W.F = [] := by rfl) (hs : X.stack = X.env :: X.outer := by rfl) (hf : X.env.frame = some X.env.locals := by rfl) :
    SS X W I (.Try body [.ExceptHandler (some (.Name x np)) (some n) (b₀ :: suite) pos'] [] [] pos) (mTryAs mb tab hit i ms) := by
  refine PS.imp (ps_try_as (i := i) (tb := fun V => rS I X.K X.mg (WF.of V) mb)
    (ts := fun a cls d D σ H => ∃ (x : XD) (oe : Obj), Got X tab cls d oe x ∧ rS (i :: I) X.K X.mg (wSu i a d x) (ms x) D σ H) (Wout := W.w) hs hf hN hi hln hc tk (fun V pn xe tk' po => hb (WF.of V) pn xe tk' po) ?_) fun D σ H ⟨ρ, L, cc, hh0, h⟩ => ?_
  · intro a oe cls d pn hz hf'
    refine ⟨fun pins s σ H D J ⟨x, oe', g, q⟩ => ?_⟩
    exact (hsu a oe cls d pn x ⟨g.tb, g.cl, g.dd, hz, hf'⟩).run pins s σ H D J q
  · refine ⟨ρ, L, .zero, hh0, ?_⟩
    unfold mTryAs at h
    cases e0 : mb ρ with
    | stuck => simp only [e0] at h; exact h.elim
    | ok fl ρ1 =>
      simp only [e0] at h
      cases fl <;> exact h
    | ex x ρ1 =>
      simp only [e0] at h
      intro cls dd σ' H1 h1 f1 hx
      obtain ⟨C, g1, g2, g3⟩ := id hx
      cases e1 : hit.lookup x.1 with
      | none => simp only [e1] at h; exact h.elim
      | some b =>
        have hex : PySem.W.exmOne X.K cls c = some b := by
          rw [g2]
          exact hh _ (lookup_mem e1) C g1
        refine ⟨b, hex, fun eb a ha => ?_, fun eb => ?_⟩
        · subst eb
          simp only [e1] at h
          split at h
          case isFalse => exact h.elim
          rename_i hh2
          obtain ⟨hil, htab⟩ := hh2
          have hsi : i < σ'.length := by rw [← h1.al.len]; exact hil
          refine ⟨x, ⟨cls, dd, .fields #[], #[]⟩, ⟨htab, ⟨C, g1, g2⟩, ?_, ⟨rfl, rfl⟩, ⟨_, rfl⟩⟩, ?_⟩
          · rcases g3 with ⟨g3, _⟩ | ⟨d, fs, g3, _⟩
            · exact .inl g3
            · exact .inr ⟨d, g3⟩
          · have h2 := here_gone (o := some (.ref a)) (xis_entry (i := i) (a := a) h1 hx) hil
            refine ⟨ρ1.set i none, (wSu i a dd x).F ++ L, ⟨⟨fun e he => List.mem_append_left _ he, fun y hy => ?_⟩, fun y hy => ?_⟩, h2, ?_⟩
            · rcases List.mem_cons.mp hy with rfl | hy
              · exact List.getElem?_set_self hsi
              · cases hy
            · rcases List.mem_cons.mp hy with rfl | hy
              · exact List.mem_cons_self
              · cases hy
            · have fx : Fix I σ (σ'.set i (some (.ref a))) := f1.trans (Fix.set hI)
              cases e2 : ms x (ρ1.set i none) with
              | stuck => simp only [e2] at h; exact h.elim
              | ex y ρ2 => simp only [e2] at h; exact h.elim
              | ok fl ρ2 =>
                simp only [e2] at h
                have ln : ∀ {σ3 : St} {L3 : List En} {H3 : Hp}, Here X.K σ3 ρ2 L3 H3 → Fix (i :: I) (σ'.set i (some (.ref a))) σ3 → i < ρ2.length := fun h3 f3 => by
                  rw [h3.al.len, f3.1, List.length_set]
                  exact hsi
                cases fl with
                | nx => exact fun σ3 H3 h3 f3 => h (σ3.set i none) H3 ((here_gone h3 (ln h3 f3)).sub (List.sublist_append_right _ _)) (fx.trans ((fix_cons f3).trans (Fix.set hI)))
                | bk => exact fun σ3 H3 h3 f3 => h (σ3.set i none) H3 ((here_gone h3 (ln h3 f3)).sub (List.sublist_append_right _ _)) (fx.trans ((fix_cons f3).trans (Fix.set hI)))
                | ct => exact fun σ3 H3 h3 f3 => h (σ3.set i none) H3 ((here_gone h3 (ln h3 f3)).sub (List.sublist_append_right _ _)) (fx.trans ((fix_cons f3).trans (Fix.set hI)))
                | ret r rf =>
                  intro v σ3 H3 h3 f3
                  refine h v (σ3.set i none) H3 ((here_gone h3 (ln h3 f3)).sub ?_) (fx.trans ((fix_cons f3).trans (Fix.set hI)))
                  exact List.Sublist.cons_cons _ (List.sublist_append_right _ _)
        · subst eb
          simp only [e1] at h
          exact h cls dd σ' H1 h1 f1 hx
/-! ### e.f, isinstance(e, C) -/
theorem dats_look {K : PySem.W.Frag} {H : Hp} {Z : Addr → Prop} {f : Str} {d : D} : ∀ {fl : List (Str × D)} {fs : List (Str × V)}, fs.map (·.1) = fl.map (·.1) → Dats K H Z (fl.map (·.2)) (fs.map (·.2)) → fl.lookup f = some d → ∃ v, fs.lookup f = some v ∧ Dat K H Z d v
  | [], fs, _, _, h => by cases h
  | (n, d') :: fl, [], h1, h2, h => by cases h1
  | (n, d') :: fl, (m, v) :: fs, h1, h2, h => by
    have e1 : m = n := (List.cons.inj h1).1
    subst e1
    obtain ⟨v', ws, e, h3, h4⟩ := h2
    have e5 : v = v' ∧ fs.map (·.2) = ws := by simpa using e
    obtain ⟨rfl, rfl⟩ := e5
    rw [List.lookup_cons] at h ⊢
    split at h
    · cases h
      exact ⟨v, rfl, h3⟩
    · rename_i hne
      obtain ⟨u, hu, hd⟩ := dats_look (List.cons.inj h1).2 h4 h
      refine ⟨u, ?_, hd⟩
      exact hu
def mFld (x : XD) (f : Str) : EE := fun ρ => opt (x.2.lookup f) fun d => .ok (.tmp d false) ρ
variable {a : Addr} {oe : Obj} {cls : Value} {d : Option Addr} {pn : List (Addr × Obj)} {xd : XD} {e : Expr} {f : Str}
theorem se_fld (E : Errs X.prog X.w X.K X.mg tab) (g : Got X tab cls d oe xd) (he : PE (X.suite a ((a, oe) :: pn)) e (tVar i)) (hb : attributeBase e f X.env (eval e X.env) = eval e X.env := by rfl) :
    SE (X.suite a ((a, oe) :: pn)) (wSu i a d xd) (.Attribute e f pos) (mFld xd f) := by
  obtain ⟨C, g1, rfl⟩ := g.cl
  obtain ⟨C', T⟩ := E _ (lookup_mem g.tb)
  have eC : C' = C := by
    have := T.gC.symm.trans g1
    cases this
    rfl
  subst eC
  by_cases hin : f ∈ xd.2.map (·.1)
  · refine PE.imp (pe_xf ⟨T.ga, T.gg, T.exC, T.hdC⟩ (T.noN f hin) g.hz g.hf he hb) fun σ H Q ⟨ρ, L, cc, hh, h⟩ => ?_
    refine ⟨.ref a, cc.st _ List.mem_cons_self, rfl, rfl, ?_⟩
    obtain ⟨dt, e1, h⟩ := Pst.opt h
    rcases g.dd with z | ⟨da, rfl⟩
    · rw [z] at e1
      cases e1
    · have hm : (V.ref da, D.xdd (xd.2.map (·.1)) (xd.2.map (·.2)), false) ∈ L := cc.fr _ List.mem_cons_self
      obtain ⟨b, fs, e2, hat, hn, hd⟩ := hh.rep.dat (List.mem_append_right _ hm)
      cases e2
      obtain ⟨v, hv, hdv⟩ := dats_look hn hd e1
      refine ⟨da, fs, v, rfl, hat.1, hv, h v H ⟨hh.al, ?_⟩ trivial⟩
      exact (hh.rep.add hdv).perm List.perm_middle.symm
  · refine ⟨fun pins s σ H Q I ⟨ρ, L, cc, hh, h⟩ => ?_⟩
    obtain ⟨dt, e1, h⟩ := Pst.opt h
    exact absurd (List.mem_map.mpr ⟨_, lookup_mem e1, rfl⟩) hin
/-- what the class D must say, so that isinstance asks rightly -/
structure KitC (K : PySem.W.Frag) (mg : Str → Option Value) (nm : Str) : Prop where
  ok : ∀ C, mg nm = some (.ref C) → PySem.W.findIn K (.ref C) "__class__" = some (some (.builtin "object.__class__")) ∧ PySem.W.mroIn K C (.type "object") = some true ∧ (PySem.W.clsIn K C).isSome = true
structure KitO (K : PySem.W.Frag) : Prop where
  hn : PySem.W.specialIn K (.builtin "object.__class__") "__get__" = some (some (.builtin "getset_descriptor.__get__"))
  ht : PySem.W.takesIn K (.builtin "object.__class__") = some true
/-- isinstance(e, c), e the error that the suite holds, its dict d -/
def rIsX (K : PySem.W.Frag) (C a : Addr) (d : Option Addr) : List V → Hp → VK → Prop := fun xs H Q => ∃ (c : V) (cv : Value) (b : Bool), xs = [.ref a, c] ∧ (∀ u, RelV c u → u = cv) ∧ PySem.W.kitOne K (.ref C) cv = some b ∧ (∀ dd, d = some dd → ∃ fs, H dd = some (.xd fs)) ∧ Q (.bl b) H
theorem call_isX {C : Addr} (hcl : (PySem.W.clsIn X.K C).isSome = true) (hga : PySem.W.findIn X.K (.ref C) "__getattribute__" = some (some (.builtin "BaseException.__getattribute__"))) (hgt : PySem.W.findIn X.K (.ref C) "__getattr__" = some none)
    (hsub : PySem.W.subIn X.K (.ref C) (.type "BaseException") = some true) (ha : PySem.W.findIn X.K (.ref C) "__class__" = some (some (.builtin "object.__class__"))) (O : KitO X.K) (hm : PySem.W.mroIn X.K C (.type "object") = some true)
    (hz : Zc (.ref C) d oe) (hf : ∃ vs, oe.data = .fields vs) : CallR (X.suite a ((a, oe) :: pn)) (.builtin "isinstance") (rIsX X.K C a d) := by
  intro pins s σ H xs us Q I r h
  obtain ⟨c, cv, b, rfl, hcv, e, hx, q⟩ := h
  cases r with
  | cons rx rr =>
    cases rr with
    | cons rt rr =>
      cases rr
      cases rx
      have ec := hcv _ rt
      subst ec
      obtain ⟨hget, _⟩ := I.pin (a, oe) (List.mem_append.mpr (.inl List.mem_cons_self))
      obtain ⟨vs, hv⟩ := hf
      have J : ∃ od, PySem.W.InstAt s.heap a oe C od := by
        obtain ⟨oc, od, oda, osl⟩ := oe
        obtain ⟨h1, h2⟩ := hz
        dsimp only at h1 h2 hv
        subst h1 h2 hv
        cases od with
        | none => exact ⟨none, hget, rfl, rfl, trivial⟩
        | some dd =>
          obtain ⟨fs, ea⟩ := hx dd rfl
          obtain ⟨mA, hns, _⟩ := (show ObjOk X.prog X.w H s.heap dd (.xd fs) from I.hok dd _ ea)
          obtain ⟨o1, _, _, ho, _⟩ := hns
          exact ⟨some o1, hget, rfl, rfl, ho⟩
      obtain ⟨od, J⟩ := J
      exact PySem.W.kia_one (PySem.W.kitx_exc hcl hga hgt hsub ha O.hn O.ht hm) I.kIn J e (fun z => nomatch z) fun tk => ⟨.bl b, H, I.kept (t' := tk) fun _ _ z => z, rfl, q⟩
def mIsE (hit : List (Str × Bool)) (x : XD) : EE := fun ρ => opt (hit.lookup x.1) fun b => .ok (.tmp (.bl b) false) ρ
/-- isinstance(e, C), C a class of the module or a built-in one -/
theorem se_isE {p2 apos : Pos} {y : Str} {c : V} {cv : Value} (E : Errs X.prog X.w X.K X.mg tab) (O : KitO X.K) (KC : KitC X.K X.mg xd.1) (g : Got X tab cls d oe xd) (hk : Kit X.K X.mg cv hit) (hcv : ∀ u, RelV c u → u = cv) (hm : X.mg "isinstance" = none) (he1 : PE (X.suite a ((a, oe) :: pn)) e (tVar i))
    (hy : PE (X.suite a ((a, oe) :: pn)) (.Name y p2) (tC c)) (hg : Gl X "isinstance" := by rfl) (he : starEach [e, .Name y p2] X.env = (false, eval e X.env) :: starEach [.Name y p2] X.env := by rfl) :
    SE (X.suite a ((a, oe) :: pn)) (wSu i a d xd) (.Call (.Name "isinstance" apos) [e, .Name y p2] [] pos) (mIsE hit xd) := by
  obtain ⟨C, g1, rfl⟩ := g.cl
  obtain ⟨C', T⟩ := E _ (lookup_mem g.tb)
  have eC : C' = C := by
    have := T.gC.symm.trans g1
    cases this
    rfl
  subst eC
  obtain ⟨k1, k2, k3⟩ := KC.ok _ g1
  refine PE.imp (pe_callB (call_isX k3 T.ga T.gg T.exC k1 O k2 g.hz g.hf) hg hm PyProof.Rows.boot_isinstance (pa_cons he1 (pa_cons hy pa_nil) he) (he := he)) fun σ H Q ⟨ρ, L, cc, hh, h⟩ => ?_
  obtain ⟨b, e1, h⟩ := Pst.opt h
  refine ⟨.ref a, cc.st _ List.mem_cons_self, c, cv, b, rfl, hcv, hk _ (lookup_mem e1) _ g1, fun dd ed => ?_, h (.bl b) H (here_scal hh fun _ => rfl) trivial⟩
  subst ed
  have hm : (V.ref dd, D.xdd (xd.2.map (·.1)) (xd.2.map (·.2)), false) ∈ L := cc.fr _ List.mem_cons_self
  obtain ⟨b', fs, e2, hat, _⟩ := hh.rep.dat (List.mem_append_right _ hm)
  cases e2
  exact ⟨fs, hat.1⟩
end
end LL

set_option Elab.async false
set_option linter.all false
set_option maxRecDepth 100000
set_option maxHeartbeats 1000000
/-! LayO: keyword-only parameters with defaults. -/
namespace LL
open PySem L2
def selL {α : Type} (d : α) (rest : List (Nat ⊕ Nat)) (mv ws : List α) : List α := rest.map fun r => match r with
  | .inl j => ws.getD j d
  | .inr j => mv.getD j d
theorem vals_getD : ∀ {vs : List V} {us : List Value} (j : Nat), Vals vs us → RelV (vs.getD j .non) (us.getD j .none)
  | _, _, j, .nil => by simp [RelV]
  | _, _, 0, .cons r _ => by simpa using r
  | _, _, j + 1, .cons _ r => by simpa using vals_getD j r
theorem vals_sel {zs mz : List V} {ws mv : List Value} (rm : Vals mz mv) (rz : Vals zs ws) : ∀ rest : List (Nat ⊕ Nat), Vals (selL .non rest mz zs) (selL .none rest mv ws)
  | [] => .nil
  | .inl j :: rest => .cons (vals_getD j rz) (vals_sel rm rz rest)
  | .inr j :: rest => .cons (vals_getD j rm) (vals_sel rm rz rest)
theorem vals_app : ∀ {xs ys : List V} {us ws : List Value}, Vals xs us → Vals ys ws → Vals (xs ++ ys) (us ++ ws)
  | _, _, _, _, .nil, h => h
  | _, _, _, _, .cons r rs, h => .cons r (vals_app rs h)
/-- a call's shape: how many values by place, which keywords, which parameters lack (with their defaults), and how the keywords' and the lacking ones' values follow -/
structure Shape where
  n : Nat
  ks : List Str
  ms : List (Str × D)
  rest : List (Nat ⊕ Nat)
def scV : D → V
  | .int i => .int i
  | .str i => .str i
  | .bl i => .bl i
  | _ => .non
def scOk : D → Bool
  | .int _ => true
  | .str _ => true
  | .bl _ => true
  | .non => true
  | _ => false
theorem scV_dat {K : PySem.W.Frag} {H : Hp} {Z : Addr → Prop} {d : D} (h : scOk d = true) : Dat K H Z d (scV d) := by
  cases d <;> first | rfl | cases h
def Shp (K : PySem.W.Frag) (fd : FuncData) (ps : List Str) (sh : Shape) : Prop := ∃ g, KBn K fd ps sh.n sh.ks g (fun vs zs => vs ++ selL .non sh.rest (sh.ms.map fun q => scV q.2) zs)
theorem shp_of {K : PySem.W.Frag} {x qual : Str} {params : Arguments} {body : List Stmt} {scope : Scope} {kws : List (Str × V)} {f : Addr} {fd : FuncData} {ps : List Str} (F : FunD K x qual params body scope [] kws f fd) (sh : Shape) (hms : ∀ q ∈ sh.ms.map (fun q => (q.1, scV q.2)), q ∈ kws) (hk : kws ≠ [])
    (h : ∀ (D : Addr) (doc pm : Value) (an : Option Addr) (cdv ct : Value) (us mv ws : List Value), us.length = sh.n → mv.length = sh.ms.length → ws.length = sh.ks.length →
      KwChain D ((sh.ms.map (·.1)).zip mv) (bindArgs (PySem.W.fnOf x qual params body scope .none (.ref D) doc pm an cdv ct) ⟨us, sh.ks.zip ws⟩) (ps.zip (us ++ selL .none sh.rest mv ws))) : Shp K fd ps sh := by
  obtain ⟨oc, od, dV, kV, doc, pm, an, cdv, ct, osl, rfl, lk, hcd, hD, hK⟩ := F.ex
  rcases hD with ⟨_, rfl⟩ | ⟨e, _⟩
  · rcases hK with e | ⟨D, rfl, hq⟩
    · exact absurd e hk
    · obtain ⟨mv, hl, rk, hks⟩ := kwd_vals (ms := sh.ms.map fun q => (q.1, scV q.2)) fun q hm => hq q (hms q hm)
      rw [List.map_map] at rk
      refine ⟨fun us ws => us ++ selL .none sh.rest mv ws, ⟨fun s us ws X l1 l2 => ?_, fun r1 r2 => vals_app r1 (vals_sel rk r2 _)⟩⟩
      refine BindsTo.of_looks fun M => KwChain.looks X (fun q hq' => hks q ?_) (h D doc pm an cdv ct us mv ws l1 (by rw [hl, List.length_map]) l2)
      have e : (sh.ms.map fun q => (q.1, scV q.2)).map (·.1) = sh.ms.map (·.1) := by rw [List.map_map]; rfl
      rw [e]
      exact hq'
  · exact absurd rfl e
/-- a def with keyword-only parameters, and the shapes of its calls -/
structure DefN (P : Program) (w : World) (K : PySem.W.Frag) (mg : Str → Option Value) (base : Heap) (k : Nat) (x : Str) (ps : List Str) (shs : List Shape) (mf : FM) : Prop where
  ex : ∃ (f : Addr) (fd : FuncData), mg x = some (.ref f) ∧ PySem.W.keepIn K (.ref f) = true ∧ (∀ sh ∈ shs, Shp K fd ps sh) ∧ FnOk P w K mg base (L2.CX P w) k f fd ps (spF ps.length K mg mf)
def FxD (K : PySem.W.Frag) (mg : Str → Option Value) (x : Str) (st : Stmt) (kws : List (Str × V)) : Prop := ∃ f fd, FunD K x x (defArgs st) (defBody st) (defScope st) [] kws f fd ∧ mg x = some (.ref f)
section
variable {P : Program} {w : World} {K : PySem.W.Frag} {mg : Str → Option Value} {base : Heap}
theorem defN_of {x qual : Str} {st : Stmt} {kws : List (Str × V)} {f : Addr} {fd : FuncData} {N ps : List Str} {shs : List Shape} {k : Nat} {I : List Nat} {body : ES} (F : FunD K x qual (defArgs st) (defBody st) (defScope st) [] kws f fd) (hx : mg x = some (.ref f)) (S : FnScope N ps (defScope st)) (hI : I.all (· < ps.length) = true)
    (hs : ∀ sh ∈ shs, Shp K fd ps sh)
    (hbody : ∀ (X : Cx) (E : XK), (∃ (cdv : Value) (A : Around) (outer : List Env) (s : Shared) (H : Hp), X = cxOf (L2.CX P w) P w K mg base N qual (defScope st) f cdv A outer s H E) → Room k X.A → Takes X (fun cls d _ H => E cls d H) → PassesOwn (model X.prog X.w) X.A X.env X.xe → SB X (WF.of fun cls d _ H => E cls d H) I (defBody st) body) :
    DefN P w K mg base (k + 1) x ps shs (mkF ps.length N.length I body) := by
  refine ⟨f, fd, hx, F.kp, hs, ?_⟩
  refine F.ok S (fun vs H Q E h => by obtain ⟨as, L, h1, _⟩ := h; exact h1) fun cdv A outer s H vs Q E hr h => ?_
  exact ⟨_, hbody _ E ⟨cdv, A, outer, s, H, rfl⟩ hr (takes_of rfl rfl rfl rfl) (passes_of rfl), body_fin hI h⟩
end
def restO (rest : List (Nat ⊕ Nat)) (ms ds : List D) : Option (List D) := match rest with
  | [] => some []
  | .inl j :: r => match ds[j]?, restO r ms ds with
    | some d, some l => some (d :: l)
    | _, _ => none
  | .inr j :: r => match ms[j]?, restO r ms ds with
    | some d, some l => if scOk d then some (d :: l) else none
    | _, _ => none
theorem restO_rep {K : PySem.W.Frag} {H : Hp} {ms ds : List D} {zs : List V} : ∀ {rest : List (Nat ⊕ Nat)} {rs : List D} {L : List En}, Rep K L H → Dats K H (· ∈ OwnA L) ds zs → restO rest ms ds = some rs → Rep K (zf (selL .non rest (ms.map scV) zs) rs ++ L) H ∧ (selL V.non rest (ms.map scV) zs).length = rs.length ∧ OwnA (zf (selL .non rest (ms.map scV) zs) rs ++ L) = OwnA L
  | [], rs, L, R, hd, h => by
    cases h
    exact ⟨R, rfl, rfl⟩
  | .inl j :: r, rs, L, R, hd, h => by
    unfold restO at h
    cases e1 : ds[j]? with
    | none => rw [e1] at h; cases h
    | some d =>
      cases e2 : restO r ms ds with
      | none => rw [e1, e2] at h; cases h
      | some l =>
        rw [e1, e2] at h
        cases h
        obtain ⟨R1, l1, o1⟩ := restO_rep R hd e2
        obtain ⟨v, hv, dv⟩ := hd.get e1
        have ev : zs.getD j .non = v := by rw [List.getD_eq_getElem?_getD, hv]; rfl
        have R2 := R1.add (v := v) (d := d) (by rw [o1]; exact dv)
        refine ⟨?_, ?_, ?_⟩
        · show Rep K ((zs.getD j .non, d, false) :: (zf (selL .non r (ms.map scV) zs) l ++ L)) H
          rw [ev]
          exact R2
        · show (selL V.non r (ms.map scV) zs).length + 1 = l.length + 1
          rw [l1]
        · show OwnA ((zs.getD j .non, d, false) :: (zf (selL .non r (ms.map scV) zs) l ++ L)) = _
          rw [OwnA_shr]
          exact o1
  | .inr j :: r, rs, L, R, hd, h => by
    unfold restO at h
    cases e1 : ms[j]? with
    | none => rw [e1] at h; cases h
    | some d =>
      cases e2 : restO r ms ds with
      | none => rw [e1, e2] at h; cases h
      | some l =>
        rw [e1, e2] at h
        simp only at h
        split at h
        case isFalse => cases h
        rename_i hsc
        cases h
        obtain ⟨R1, l1, o1⟩ := restO_rep R hd e2
        have ev : (ms.map scV).getD j .non = scV d := by rw [List.getD_eq_getElem?_getD, List.getElem?_map, e1]; rfl
        have R2 := R1.add (v := scV d) (d := d) (scV_dat hsc)
        refine ⟨?_, ?_, ?_⟩
        · show Rep K (((ms.map scV).getD j .non, d, false) :: (zf (selL .non r (ms.map scV) zs) l ++ L)) H
          rw [ev]
          exact R2
        · show (selL V.non r (ms.map scV) zs).length + 1 = l.length + 1
          rw [l1]
        · show OwnA (((ms.map scV).getD j .non, d, false) :: (zf (selL .non r (ms.map scV) zs) l ++ L)) = _
          rw [OwnA_shr]
          exact o1
def mCallN (n nk N : Nat) (ms : List D) (rest : List (Nat ⊕ Nat)) (mf : FM) (ma mk : EA) : EE := fun ρ => (ma ρ).bind fun os ρ1 => (mk ρ1).bind fun zs ρ2 => opt (tmps zs) fun ds => opt (restO rest ms ds) fun rs =>
  if os.length = n ∧ ds.length = nk then callK N mf (os ++ rs.map fun d => .tmp d false) ρ2 else .stuck
section
variable {X : Cx} {W : WF} {e : Expr} {es : List Expr} {kws : List Keyword} {ma mk : EA} {mf : FM} {k : Nat} {x : Str} {ps : List Str} {shs : List Shape} {pos p2 kpos : Pos} {nm : Option Str}
def SK (X : Cx) (W : WF) (kws : List Keyword) (m : EA) : Prop := PK X kws (rA X.K X.mg W m)
theorem PK.imp {t t' : TA} (h : PK X kws t) (j : ∀ σ H Q, t' σ H Q → t σ H Q) : PK X kws t' := ⟨fun p pins s σ H Q I q => h.run p pins s σ H Q I (j σ H Q q)⟩
theorem sk_nil : SK X W [] mNil := PK.imp pk_nil fun σ H Q ⟨ρ, L, cc, hh, h⟩ => h [] H hh trivial
theorem sk_cons {m : EE} (ha : SE X W e m) (hr : SK X W kws mk) : SK X W (⟨nm, e, kpos⟩ :: kws) (mCons m mk) :=
  PK.imp (pk_cons ha hr) fun σ H Q ⟨ρ, L, cc, hh, h⟩ => by
    refine thn cc [] hh h fun o1 x ρ1 H1 h1 c1 q => ?_
    refine thn cc (oen x o1) h1 q fun os xs ρ2 H2 h2 c2 q => ?_
    refine q (x :: xs) H2 (h2.perm ?_) ⟨c1, c2⟩
    show (oens xs os ++ (oen x o1 ++ L)).Perm ((oen x o1 ++ oens xs os) ++ L)
    rw [← List.append_assoc]
    exact List.Perm.append_right _ List.perm_append_comm
theorem oiss_app {σ : St} : ∀ {vs ws : List V} {os zs : List O}, OIss σ vs os → OIss σ ws zs → OIss σ (vs ++ ws) (os ++ zs)
  | [], _, [], _, _, h => h
  | v :: vs, _, o :: os, _, h, h' => ⟨h.1, oiss_app h.2 h'⟩
  | [], _, _ :: _, _, h, _ => h.elim
  | _ :: _, _, [], _, h, _ => h.elim
theorem oens_app {σ : St} : ∀ {vs ws : List V} {os zs : List O}, OIss σ vs os → oens (vs ++ ws) (os ++ zs) = oens vs os ++ oens ws zs
  | [], _, [], _, _ => rfl
  | v :: vs, _, o :: os, _, h => by
    show oen v o ++ oens (vs ++ _) (os ++ _) = (oen v o ++ oens vs os) ++ _
    rw [oens_app h.2, List.append_assoc]
  | [], _, _ :: _, _, h => h.elim
  | _ :: _, _, [], _, h => h.elim
theorem oiss_tmp {σ : St} : ∀ {ws : List V} {rs : List D}, ws.length = rs.length → OIss σ ws (rs.map fun d => .tmp d false)
  | [], [], _ => trivial
  | w :: ws, r :: rs, h => ⟨trivial, oiss_tmp (by simpa using h)⟩
  | [], _ :: _, h => by simp at h
  | _ :: _, [], h => by simp at h
theorem oens_tmp : ∀ {ws : List V} {rs : List D}, oens ws (rs.map fun d => .tmp d false) = zf ws rs
  | [], [] => rfl
  | w :: ws, r :: rs => by
    show (w, r, false) :: oens ws (rs.map fun d => .tmp d false) = (w, r, false) :: zf ws rs
    rw [oens_tmp]
  | [], _ :: _ => rfl
  | _ :: _, [] => rfl
theorem callN_fin {σ : St} {ρ1 ρ2 : Rho} {L : List En} {H2 : Hp} {os zo : List O} {vs zs : List V} {ds rs : List D} {Q : VK} {N : Nat} {ms : List D} {rest : List (Nat ⊕ Nat)} (h2 : Here X.K σ ρ2 (oens zs zo ++ (oens vs os ++ L)) H2) (c1 : OIss σ vs os) (c2 : OIss σ zs zo)
    (e1 : tmps zo = some ds) (e2 : restO rest ms ds = some rs) (q : PstE X.K X.mg W σ L (callK N mf (os ++ rs.map fun d => .tmp d false) ρ2) Q) :
    spF N X.K X.mg mf (vs ++ selL .non rest (ms.map scV) zs) H2 Q (fun cls d H' => W.w cls d σ H') := by
  obtain ⟨L', s, R, dd⟩ := rep_tmps (L := ents σ ρ2 ++ (oens vs os ++ L)) c2 e1 (h2.rep.perm (by
    rw [← List.append_assoc, ← List.append_assoc (oens zs zo)]
    exact List.perm_append_comm.append_right _))
  obtain ⟨R1, l1, _⟩ := restO_rep R dd e2
  have R2 := R1.sublist (List.Sublist.append (List.Sublist.refl (zf (selL .non rest (ms.map scV) zs) rs)) s)
  have h3 : Here X.K σ ρ2 (oens (vs ++ selL .non rest (ms.map scV) zs) (os ++ rs.map fun d => .tmp d false) ++ L) H2 := by
    refine ⟨h2.al, ?_⟩
    rw [oens_app c1, oens_tmp]
    refine R2.perm ?_
    rw [← List.append_assoc, List.append_assoc (oens vs os)]
    refine (List.perm_append_comm.append_right _).trans ?_
    rw [List.append_assoc]
    refine List.Perm.append_left _ ?_
    rw [← List.append_assoc, ← List.append_assoc]
    exact List.perm_append_comm.append_right _
  have z := call_fin (W := W) h3 (oiss_app c1 (oiss_tmp l1)) q
  rw [List.append_nil] at z
  exact z
theorem se_callN {A : Around} (sh : Shape) {n nk N : Nat} {mds : List D} {rest : List (Nat ⊕ Nat)} (Df : DefN X.prog X.w X.K X.mg X.base k x ps shs mf) (hsh : sh ∈ shs) (hr : Room k A) (tk : Takes X W.w) (ha : SA X W (e :: es) ma) (hkw : SK X W kws mk) (hn : sh.n = n := by rfl) (hnk : sh.ks.length = nk := by rfl) (hms : sh.ms.map (·.2) = mds := by rfl) (hre : sh.rest = rest := by rfl) (hN : ps.length = N := by rfl) (hA : X.A = A := by rfl) (hg : Gl X x := by rfl)
    (hall : (backToKw pos (keywordEach kws X.env)).all (·.1.isSome) = true := by rfl) (hks : (backToKw pos (keywordEach kws X.env)).filterMap (·.1) = sh.ks := by rfl)
    (hdb : (x == ("__debug__" : Str)) = false := by decide) (he : starEach (e :: es) X.env = (false, eval e X.env) :: starEach es X.env := by rfl)
    (hpl : ((backTo pos (starEach (e :: es) X.env)).any (·.1) || (backToKw pos (keywordEach kws X.env)).any (·.1.isNone)) = false := by rfl) :
    SE X W (.Call (.Name x p2) (e :: es) kws pos) (mCallN n nk N mds rest mf ma mk) := by
  subst hA hn hnk hms hre hN
  obtain ⟨f, fd, hm, hk, hb, F⟩ := Df.ex
  obtain ⟨g, KB⟩ := hb sh hsh
  refine ⟨fun pins s σ H Q I h => ?_⟩
  obtain ⟨ρ, L, cc, hh, h⟩ := h
  refine wpAny_Call_Name_kw (ld_glob I hg hm ?_ hdb)
  have sel : selL V.non sh.rest (sh.ms.map fun q => scV q.2) = selL V.non sh.rest ((sh.ms.map (·.2)).map scV) := by rw [List.map_map]; rfl
  refine PySem.W.callWith_KW (h₀ := X.base) I.ok.mod.kin hk hall (L2.thn (ha.run pos pins s σ H (fun vs H1 => rA X.K X.mg W mk σ H1 fun zs H2 => vs.length = sh.n ∧ zs.length = sh.ks.length ∧ spF ps.length X.K X.mg mf (vs ++ selL .non sh.rest ((sh.ms.map (·.2)).map scV) zs) H2 Q (fun cls d H' => W.w cls d σ H')) I ?_) fun us s1 ⟨vs, H1, I1, r, q⟩ => ?_) hpl he
  · refine thn cc [] hh h fun os vs ρ1 H1 h1 c1 q => ?_
    refine thn cc (oens vs os) h1 q fun zo zs ρ2 H2 h2 c2 q => ?_
    obtain ⟨ds, e1, q⟩ := Pst.opt q
    obtain ⟨rs, e2, q⟩ := Pst.opt q
    by_cases hc : os.length = sh.n ∧ ds.length = sh.ks.length
    · rw [if_pos hc] at q
      refine ⟨(oiss_len c1).trans hc.1, ?_, callN_fin (ρ1 := ρ1) h2 c1 c2 e1 e2 q⟩
      obtain ⟨L', s', R, dd⟩ := rep_tmps (L := ents σ ρ2 ++ (oens vs os ++ L)) c2 e1 (h2.rep.perm (by
        rw [← List.append_assoc, ← List.append_assoc (oens zs zo)]
        exact List.perm_append_comm.append_right _))
      exact dd.length.trans hc.2
    · rw [if_neg hc] at q
      exact q.elim
  · refine L2.thn (hkw.run pos pins s1 σ H1 _ I1 q) fun ws s2 ⟨zs, H2, I2, rz, l1, l2, q2⟩ => ⟨I2.kIn, ?_⟩
    rw [hks]
    have r2 := KB.rel r rz
    rw [sel] at r2
    refine wpAny_call (codeAny_mono (F.run X.A X.stack s2 H2 ⟨us, sh.ks.zip ws⟩ (g us ws) _ Q (fun cls d H' => W.w cls d σ H') hr I2.env0 (KB.to s2 us ws I2.kIn (r.length.symm.trans l1) (rz.length.symm.trans l2)) r2 q2) fun rr s' hq => ?_)
    cases rr with
    | error e => exact tk e s' (XE.of_call I2 (fun _ _ _ h => h) hq)
    | ok fl =>
      cases fl with
      | ret u => exact I2.after hq
      | next => exact False.elim hq
      | brk => exact False.elim hq
      | cont => exact False.elim hq
end
end LL

set_option Elab.async false
set_option linter.all false
set_option maxRecDepth 100000
set_option maxHeartbeats 1000000
/-! LayP: texts: x * n, x.index(y). -/
namespace LL
open PySem L2
section
variable {X : Cx} {W : WF} {o e : Expr} {mo : EE} {ms : EA} {apos cpos : Pos}
def repS (x : Str) (n : Nat) : Str := ⟨(List.replicate n x.cps).foldl (· ++ ·) #[]⟩
def rStrN : R2 := fun x y H Q => ∃ (z : Str) (n : Int), x = .str z ∧ y = .int n ∧ 2 ≤ n ∧ n ≤ 1000 ∧ 0 < z.length ∧ z.length ≤ 1000 ∧ Q (.str (repS z n.toNat)) H
theorem op_strN : OpR X (binaryOp .Mult) rStrN := by
  intro pins s σ H x y v u Q I rx ry ⟨z, n, e1, e2, h1, h2, h3, h4, q⟩
  subst e1 e2
  obtain ⟨t, rfl⟩ := rx
  obtain ⟨t', rfl⟩ := ry
  have hlen : z.length * n.toNat ≤ 1000000 := by
    have : n.toNat ≤ 1000 := by omega
    calc z.length * n.toNat ≤ 1000 * 1000 := Nat.mul_le_mul h4 this
      _ = 1000000 := rfl
  have nl : Builtin.Str.tooLong (z.length * n.toNat) = false := by
    refine decide_eq_false ?_
    rw [sizeLine_eq]
    omega
  refine P.mul_str ?_ (fun _ _ => ?_) (fun _ _ => nl) ?_
  · rw [decide_eq_false (by omega), decide_eq_false (by omega)]
    rfl
  · have : (z.length : Int) ≤ 1000 := by exact_mod_cast h4
    have h5 : (1000 : Int) ≤ (2 ^ 63 - 1) / n := by
      refine (Int.le_ediv_iff_mul_le (by omega)).mpr ?_
      omega
    omega
  · rw [if_neg (by omega), if_neg (by
      have a : (n == 1) = false := by rw [beq_eq_false_iff_ne]; omega
      have b : (z.length == 0) = false := by rw [beq_eq_false_iff_ne]; omega
      rw [a, b]
      decide)]
    refine ⟨?_, ⟨.str _, H, I.tok _, ⟨_, rfl⟩, q⟩⟩
    exact fits_reps nl
/-- x * n: ints; a text and an int -/
def gMulA : D → D → Option (D × Bool)
  | .str z, .int n => if 2 ≤ n ∧ n ≤ 1000 ∧ 0 < z.length ∧ z.length ≤ 1000 then some (.str (repS z n.toNat), false) else none
  | a, b => gMul a b
theorem os_mulA : OpS X (binaryOp .Mult) gMulA := by
  obtain ⟨r, hr, hs⟩ := os_mul (X := X)
  refine ⟨_, OpR.or op_strN hr, ?_⟩
  intro H L x y dx dy fx fy d fl Q R hx hy e q
  unfold gMulA at e
  split at e
  · rename_i z n
    split at e
    · rename_i hz
      cases e
      exact .inl ⟨z, n, R.str hx, R.int hy, hz.1, hz.2.1, hz.2.2.1, hz.2.2.2, q _ H (R.add rfl)⟩
    · cases e
  · exact .inr (hs H L x y dx dy fx fy d fl Q R hx hy e q)
/-! ### x.index(y), texts -/
def gSidx : D → List D → Option (D × Bool)
  | .str a, [.str b] => (match Txt.index0 a b with
    | some k => some (.int (k : Nat), false)
    | none => none)
  | _, _ => none
def mSidx (mo : EE) (ms : EA) : EE := fun ρ => (mo ρ).bind fun o ρ1 => opt (look ρ1 o) fun d0 => match d0 with
  | .str _ => (ms ρ1).bind fun os ρ2 => opt (looks ρ2 os) fun ds => opt (look ρ2 o) fun d => opt (gSidx d ds) fun x => .ok (.tmp x.1 x.2) ρ2
  | _ => .stuck
theorem se_sidx (ho : SE X W o mo) (ha : SA X W [e] ms) (tk : Takes X W.w) (hc : X.calm = true := by rfl) (hbase : attributeBase o "index" X.env (eval o X.env) = eval o X.env := by rfl)
    (hall : (((backTo cpos (starEach [e] X.env)).all fun x => !x.1) && ((backToKw cpos (keywordEach [] X.env)).all fun x => x.1.isSome) && decide ([e].length + ([] : List Keyword).length + (if ([] : List Keyword).isEmpty then 0 else 1) < 30)) = true := by rfl)
    (hline : (apos.endLine == cpos.line) = true := by rfl) (he : starEach [e] X.env = (false, eval e X.env) :: starEach [] X.env := by rfl) :
    SE X W (.Call (.Attribute o "index" apos) [e] [] cpos) (mSidx mo ms) := by
  refine PE.imp (pe_bmS PySem.F.plainAttrs_str PySem.F.slot_str_index PySem.F.type_str_index (mt_indexX hc tk) ho ha hbase hall hline he) fun σ H Q ⟨ρ, L, cc, hh, h⟩ => ?_
  refine thn cc [] hh h fun o1 x ρ1 H1 h1 c1 q => ?_
  obtain ⟨d0, e0, q⟩ := Pst.opt q
  obtain ⟨f0, m0⟩ := look_mem (T := ents σ ρ1 ++ (oen x o1 ++ L)) c1 e0 (fun e he => by simp [he]) (fun e he => by simp [he])
  cases d0 with
  | str z =>
    have ex := h1.rep.str m0
    subst ex
    refine ⟨rfl, thn cc (oen (.str z) o1) h1 q fun os vs ρ2 H2 h2 c2 q => ?_⟩
    obtain ⟨ds, e1, q⟩ := Pst.opt q
    obtain ⟨d, e2, q⟩ := Pst.opt q
    obtain ⟨r, e3, q⟩ := Pst.opt q
    have sees := looks_mem (T := ents σ ρ2 ++ (oens vs os ++ (oen (.str z) o1 ++ L))) c2 e1 (fun e he => by simp [he]) (fun e he => by simp [he])
    obtain ⟨f1, m1⟩ := look_mem (T := ents σ ρ2 ++ (oens vs os ++ (oen (.str z) o1 ++ L))) c1 e2 (fun e he => by simp [he]) (fun e he => by simp [he])
    have fq := op_fin (E := oens vs os ++ oen (.str z) o1) (by rw [List.append_assoc]; exact h2) q
    rw [List.append_assoc] at fq
    have key : ∃ a b k, d = .str a ∧ ds = [.str b] ∧ Txt.index0 a b = some k ∧ r = (.int (k : Nat), false) := by
      unfold gSidx at e3
      split at e3
      · split at e3
        · rename_i k ek
          cases e3
          exact ⟨_, _, k, rfl, rfl, ek, rfl⟩
        · cases e3
      · cases e3
    obtain ⟨a, b, k, rfl, rfl, e4, rfl⟩ := key
    have ez := h2.rep.str m1
    cases ez
    obtain ⟨y, fy, rfl, my⟩ := sees.one
    refine ⟨z, b, rfl, by rw [h2.rep.str my], fun k' ek => ?_, fun z' => by rw [e4] at z'; cases z'⟩
    rw [e4] at ek
    cases ek
    exact fq _ _ (h2.rep.add rfl)
  | _ => exact q.elim
end
end LL

set_option Elab.async false
set_option linter.all false
set_option maxRecDepth 100000
/-! LayQ: words for suites. -/
namespace LL
open PySem L2
theorem hu64m {k : Nat} {A : Around} (hr : Room k A) (h : Option Value) : (A.mark h).units + 64 < cLine := hu64 (A := A) hr
theorem hu65m {k : Nat} {A : Around} (hr : Room k A) (h : Option Value) : (A.mark h).units + 65 < cLine := hu65 (A := A) hr
end LL

set_option Elab.async false
set_option linter.all false
set_option maxRecDepth 100000
set_option maxHeartbeats 1000000
/-! LayR: the end: what the top has written; the law called. -/
namespace LL
open PySem L2
section
variable {P : Program} {w : World} {K : PySem.W.Frag} {mg : Str → Option Value} {base : Heap}
theorem kit_ref {C : Addr} {t : Value} {b : Bool} (hdct : PySem.W.hasDictIn K C = true) (ht : PySem.W.typeIn K (.ref C) = some (.type "type")) (h4 : PySem.W.subIn K t (.ref C) = some b) (hs : t = .ref C → b = true) : PySem.W.kitOne K t (.ref C) = some b := by
  obtain ⟨cd, hc, _⟩ := PySem.W.any_some hdct
  unfold PySem.W.kitOne
  by_cases e : (t == .ref C) = true
  · rw [if_pos e, hs (beq_iff_eq.mp e)]
  · rw [if_neg e]
    have e2 : ((PySem.W.clsIn K C).isSome && PySem.W.typeIn K (.ref C) == some (.type "type")) = true := by rw [hc, ht] <;> rfl
    show (if ((PySem.W.clsIn K C).isSome && PySem.W.typeIn K (.ref C) == some (.type "type")) = true then PySem.W.subIn K t (.ref C) else none) = some b
    rw [if_pos e2]
    exact h4
theorem kit_ty {T : String} {C : Addr} {b : Bool} (hm : PySem.W.kitMeta T = true) (h4 : PySem.W.subIn K (.ref C) (.type T) = some b) : PySem.W.kitOne K (.ref C) (.type T) = some b := by
  unfold PySem.W.kitOne
  rw [if_neg (by simp)]
  show (if PySem.W.kitMeta T = true then PySem.W.subIn K (.ref C) (.type T) else none) = some b
  rw [if_pos hm]
  exact h4
/-- an error with one field -/
theorem err1_mk {nm p txt qual : Str} {C fI cc cda : Addr} {p1 p2 r1 r2 r3 r4 r5 r6 q1 q2 q3 q4 : Pos} (T : ErrCls P K C fI cc cda) (gC : mg nm = some (.ref C)) (hsu : mg "super" = none) (so : SupOk [p] txt r1 r2 r3 r4 r5) (hps : (("self" : Str) == p) = false) (hpd : (p == ("__debug__" : Str)) = false) (noN : PySem.W.findIn K (.ref C) p = some none)
    (hpn : (p == ("__class__" : Str)) = false) (hpu : (p == ("super" : Str)) = false) (hsw : ∀ (q : Str) (L : Addr), swapsWith (.Name p q3) (some (.Attribute (.Name "self" q1) p q2)) q4.line (PySem.W.ksEnv q (iSc [p]) L fI (.ref cda) cc) = pure false)
    (hbd : ∀ (doc pm : Value) (an : Option Addr) (ct a b : Value), bindArgs (PySem.W.ksFn "__init__" qual (iA1 p p1 p2) [iSup txt r1 r2 r3 r4 r5 r6, iSet p q1 q2 q3 q4] (iSc [p]) .none .none doc pm an (.ref cda) ct cc) ⟨[a, b], []⟩ = pure [(("self" : Str), a), (p, b)])
    (fn : ∃ (oc : Value) (od : Option Addr) (doc pm : Value) (an : Option Addr) (ct : Value) (osl : Array (Option Value)), K.lookup fI = some ⟨oc, od, .func (PySem.W.ksFn "__init__" qual (iA1 p p1 p2) [iSup txt r1 r2 r3 r4 r5 r6, iSet p q1 q2 q3 q4] (iSc [p]) .none .none doc pm an (.ref cda) ct cc), osl⟩) (hcd : PySem.W.codeIn K (.ref cda) qual = true)
    (ga : PySem.W.findIn K (.ref C) "__getattribute__" = some (some (.builtin "BaseException.__getattribute__"))) (gg : PySem.W.findIn K (.ref C) "__getattr__" = some none) (kC : PySem.W.keepIn K (.ref C) = true) (exC : PySem.W.subIn K (.ref C) (.type "BaseException") = some true) (tyC : PySem.W.typeIn K (.ref C) = some (.type "type")) (hdC : PySem.W.hasDictIn K C = true) :
    ErrTxt P w K mg nm [p] C where
  gC := gC
  made := fun A R s vs hl M hroom hq => match vs, hl with
    | [v], _ => made_of (fs := [(p, v)]) T M (by rw [sizeLine_eq]; exact (by decide : 1 ≤ 16777216)) hroom (fun A R s x t0 M hx hnx hroom hq => init1 T so hps hpd noN hpn hpu hsw hbd fn hcd M hsu hx hnx hroom hq) hq
  ga := ga
  gg := gg
  noN := fun q hq => by
    rcases List.mem_cons.mp hq with rfl | hq
    · exact noN
    · cases hq
  kC := kC
  exC := exC
  tyC := tyC
  hdC := hdC
/-! ### the law's own call -/
def spLaw (K : PySem.W.Frag) : Sp := fun vs H Q _ => ∃ (a : Addr) (ns : List Int), vs = [.ref a] ∧ ns.length ≤ 63 ∧ SqL K H a (ns.map V.int) ∧ ∀ v H', v = .bl true → Q v H'
theorem law_fn {k : Nat} {f : Addr} {fd : FuncData} {x : Str} {mf : FM} (hp : ∀ ns : List Int, ns.length ≤ 63 → ∃ fl outs, mf [(.rol (ns.map D.int), false)] = .ok (.bl true) fl outs) (F : FnOk P w K mg base (L2.CX P w) k f fd [x] (spF 1 K mg mf)) :
    FnOk P w K mg base (L2.CX P w) k f fd [x] (spLaw K) := by
  have key : ∀ vs H Q E, spLaw K vs H Q E → spF 1 K mg mf vs H Q E := by
    rintro vs H Q E ⟨a, ns, rfl, hl, hS, q⟩
    obtain ⟨fl, outs, e⟩ := hp ns hl
    refine ⟨[(.rol (ns.map D.int), false)], [], rfl, rfl, ?_, ?_⟩
    · have R0 : Rep K ([] : List En) H := ⟨List.nodup_nil, fun e he => by cases he⟩
      refine R0.add (v := .ref a) (d := .rol (ns.map D.int)) ⟨a, ns.map V.int, rfl, ?_, Dats.map (f := D.int) (g := V.int) (fun _ => rfl) ns⟩
      rcases hS with h | h
      · exact .inl ⟨h, fun z => by cases z⟩
      · exact .inr h
    · rw [e]
      exact fun v H' R => q v H' (R.bl List.mem_cons_self)
  exact ⟨fun vs H Q E h => F.len vs H Q E (key _ _ _ _ h), fun A outer s H args us vs Q E hr h0 hb hv h => F.run A outer s H args us vs Q E hr h0 hb hv (key _ _ _ _ h)⟩
theorem cx_no {H : Hp} {s : Shared} {e : Value} {s' : Shared} {outer : List Env} (h : L2.CX P w outer H s (fun _ _ _ => False) e s') : False := by
  obtain ⟨a, B, H', cls, d, _, _, _, _, _, _, _, q⟩ := h
  exact q
/-- a def by its body, the function itself -/
theorem fnOk_of {x qual : Str} {st : Stmt} {f : Addr} {fd : FuncData} {N ps : List Str} {k : Nat} {I : List Nat} {body : ES} (F : Fun K x qual st f fd) (S : FnScope N ps (defScope st)) (hI : I.all (· < ps.length) = true)
    (hbody : ∀ (X : Cx) (E : XK), (∃ (cdv : Value) (A : Around) (outer : List Env) (s : Shared) (H : Hp), X = cxOf (L2.CX P w) P w K mg base N qual (defScope st) f cdv A outer s H E) → Room k X.A → Takes X (fun cls d _ H => E cls d H) → PassesOwn (model X.prog X.w) X.A X.env X.xe → SB X (WF.of fun cls d _ H => E cls d H) I (defBody st) body) :
    FnOk P w K mg base (L2.CX P w) (k + 1) f fd ps (spF ps.length K mg (mkF ps.length N.length I body)) := by
  refine F.okX S (fun vs H Q E h => by obtain ⟨as, L, h1, _⟩ := h; exact h1) fun cdv A outer s H vs Q E hr h => ?_
  exact ⟨_, hbody _ E ⟨cdv, A, outer, s, H, rfl⟩ hr (takes_of rfl rfl rfl rfl) (passes_of rfl), body_fin hI h⟩
end
end LL

set_option Elab.async false
set_option linter.all false
set_option maxRecDepth 100000
set_option maxHeartbeats 1000000
/-! LayS: how the meanings are computed (rules for simp). -/
namespace LL
open PySem L2
section
variable {α β : Type}
@[simp] theorem bind_ok (a : α) (ρ : Rho) (k : α → Rho → Res β) : (Res.ok a ρ).bind k = k a ρ := rfl
@[simp] theorem bind_ex (x : XD) (ρ : Rho) (k : α → Rho → Res β) : (Res.ex x ρ : Res α).bind k = .ex x ρ := rfl
@[simp] theorem opt_some (a : α) (k : α → Res β) : opt (some a) k = k a := rfl
@[simp] theorem at_zero (x : D × Bool) (ρ : Rho) : at_ (some x :: ρ) 0 = some x := rfl
@[simp] theorem at_succ (x : Option (D × Bool)) (ρ : Rho) (i : Nat) : at_ (x :: ρ) (i + 1) = at_ ρ i := by
  unfold at_
  rw [List.getElem?_cons_succ]
@[simp] theorem look_tmp (ρ : Rho) (d : D) (f : Bool) : look ρ (.tmp d f) = some d := rfl
@[simp] theorem look_slt (ρ : Rho) (i : Nat) : look ρ (.slt i) = (at_ ρ i).map (·.1) := rfl
@[simp] theorem looks_nil (ρ : Rho) : looks ρ [] = some [] := rfl
@[simp] theorem looks_cons (ρ : Rho) (o : O) (os : List O) : looks ρ (o :: os) = match look ρ o with
    | none => none
    | some d => match looks ρ os with
      | none => none
      | some ds => some (d :: ds) := rfl
theorem ownL_at {ρ : Rho} {i : Nat} {ds : List D} (h : at_ ρ i = some (.lst ds, true)) : ownL ρ i = some ds := by
  unfold ownL
  rw [h]
@[simp] theorem ownL_zero (ds : List D) (ρ : Rho) : ownL (some (.lst ds, true) :: ρ) 0 = some ds := rfl
@[simp] theorem ownL_succ (x : Option (D × Bool)) (ρ : Rho) (i : Nat) : ownL (x :: ρ) (i + 1) = ownL ρ i := by
  unfold ownL
  rw [at_succ]
@[simp] theorem gLt_int (a b : Int) : gLt (.int a) (.int b) = some (decide (a < b)) := rfl
@[simp] theorem gLe_int (a b : Int) : gLe (.int a) (.int b) = some (decide (a ≤ b)) := rfl
@[simp] theorem gGt_int (a b : Int) : gGt (.int a) (.int b) = some (decide (b < a)) := rfl
@[simp] theorem gGe_int (a b : Int) : gGe (.int a) (.int b) = some (decide (b ≤ a)) := rfl
@[simp] theorem gEq_int (a b : Int) : gEq (.int a) (.int b) = some (a == b) := rfl
@[simp] theorem gEq_str (a b : Str) : gEq (.str a) (.str b) = some (a == b) := rfl
@[simp] theorem gNe_int (a b : Int) : gNe (.int a) (.int b) = some (!(a == b)) := rfl
@[simp] theorem gNe_str (a b : Str) : gNe (.str a) (.str b) = some (!(a == b)) := rfl
@[simp] theorem gAdd_int (a b : Int) : gAdd (.int a) (.int b) = some (.int (a + b), false) := rfl
@[simp] theorem gSub_int (a b : Int) : gSub (.int a) (.int b) = some (.int (a - b), false) := rfl
theorem gMul_int {a b : Int} (h : mulOk a b = true) : gMul (.int a) (.int b) = some (.int (a * b), false) := by
  show (match (if mulOk a b = true then some (a * b) else none) with
    | some c => some (D.int c, false)
    | none => none) = _
  rw [if_pos h]
theorem gMod_int {a b : Int} (h : b ≠ 0) : gMod (.int a) (.int b) = some (.int (a.fmod b), false) := by
  show (match (if b = 0 then none else some (a.fmod b)) with
    | some c => some (D.int c, false)
    | none => none) = _
  rw [if_neg h]
theorem gFdv_int {a b : Int} (h : b ≠ 0 ∧ b.natAbs < 1073741824) : gFdv (.int a) (.int b) = some (.int (a.fdiv b), false) := by
  show (match (if b ≠ 0 ∧ b.natAbs < 1073741824 then some (a.fdiv b) else none) with
    | some c => some (D.int c, false)
    | none => none) = _
  rw [if_pos h]
@[simp] theorem gInt_int (a : Int) : gInt [.int a] = some (.int a, false) := rfl
@[simp] theorem gLen_lst (l : List D) : gLen [.lst l] = some (.int (l.length : Nat), false) := rfl
@[simp] theorem gLen_tup (l : List D) : gLen [.tup l] = some (.int (l.length : Nat), false) := rfl
theorem atI_nat {xs : List D} {i : Int} {j : Nat} {d : D} (hi : i = (j : Nat)) (h : xs[j]? = some d) : atI xs i = some d := by
  subst hi
  exact L2.atI_nat h
/-- a statement, then the rest -/
theorem seq_nx {m k : ES} {ρ ρ1 : Rho} (h : m ρ = .ok .nx ρ1) : mSeq m k ρ = k ρ1 := by
  unfold mSeq
  rw [h]
theorem seq_ret {m k : ES} {ρ ρ1 : Rho} {d : D} {f : Bool} (h : m ρ = .ok (.ret d f) ρ1) : mSeq m k ρ = .ok (.ret d f) ρ1 := by
  unfold mSeq
  rw [h]
theorem seq_ex {m k : ES} {ρ ρ1 : Rho} {x : XD} (h : m ρ = .ex x ρ1) : mSeq m k ρ = .ex x ρ1 := by
  unfold mSeq
  rw [h]
theorem if_t {t : ET} {a b : ES} {ρ ρ1 : Rho} (h : t ρ = .ok true ρ1) : mIf t a b ρ = a ρ1 := by
  unfold mIf
  rw [h]
  rfl
theorem if_f {t : ET} {a b : ES} {ρ ρ1 : Rho} (h : t ρ = .ok false ρ1) : mIf t a b ρ = b ρ1 := by
  unfold mIf
  rw [h]
  rfl
/-- a test by its proposition -/
theorem if_p {t : ET} {a b : ES} {ρ ρ1 : Rho} {p : Prop} [Decidable p] {r : Res Fl} (h : t ρ = .ok (decide p) ρ1) (ha : p → a ρ1 = r) (hb : ¬ p → b ρ1 = r) : mIf t a b ρ = r := by
  by_cases hp : p
  · rw [if_t (h.trans (by rw [decide_eq_true hp]))]
    exact ha hp
  · rw [if_f (h.trans (by rw [decide_eq_false hp]))]
    exact hb hp
theorem call_run {n : Nat} {mf : FM} {ms : EA} {os : List O} {ρ ρ1 ρ2 outs : Rho} {as : List (D × Bool)} {bs : List (Option Nat)} {d : D} {f : Bool} (h1 : ms ρ = .ok os ρ1) (hl : os.length = n) (hp : pull os ρ1 = some (as, bs, ρ2)) (hf : mf as = .ok d f outs) : mCall n mf ms ρ = .ok (.tmp d f) (push bs outs ρ2) := by
  unfold mCall
  rw [h1]
  show callK n mf os ρ1 = _
  unfold callK
  rw [if_pos hl, hp]
  simp only
  rw [hf]
theorem call_runX {n : Nat} {mf : FM} {ms : EA} {os : List O} {ρ ρ1 ρ2 outs : Rho} {as : List (D × Bool)} {bs : List (Option Nat)} {x : XD} (h1 : ms ρ = .ok os ρ1) (hl : os.length = n) (hp : pull os ρ1 = some (as, bs, ρ2)) (hf : mf as = .ex x outs) : mCall n mf ms ρ = .ex x (push bs outs ρ2) := by
  unfold mCall
  rw [h1]
  show callK n mf os ρ1 = _
  unfold callK
  rw [if_pos hl, hp]
  simp only
  rw [hf]
theorem mkF_ret {n s : Nat} {I : List Nat} {body : ES} {as : List (D × Bool)} {d : D} {f : Bool} {ρ0 ρ outs : Rho} (h0 : as.map some ++ List.replicate (s - as.length) none = ρ0) (h : body ρ0 = .ok (.ret d f) ρ) (ho : outsR I 0 n ρ = outs) : mkF n s I body as = .ok d f outs := by
  unfold mkF
  rw [h0, h, ← ho]
theorem mkF_nx {n s : Nat} {I : List Nat} {body : ES} {as : List (D × Bool)} {ρ0 ρ outs : Rho} (h0 : as.map some ++ List.replicate (s - as.length) none = ρ0) (h : body ρ0 = .ok .nx ρ) (ho : outsR I 0 n ρ = outs) : mkF n s I body as = .ok .non false outs := by
  unfold mkF
  rw [h0, h, ← ho]
theorem mkF_ex {n s : Nat} {I : List Nat} {body : ES} {as : List (D × Bool)} {x : XD} {ρ0 ρ outs : Rho} (h0 : as.map some ++ List.replicate (s - as.length) none = ρ0) (h : body ρ0 = .ex x ρ) (ho : outsR I 0 n ρ = outs) : mkF n s I body as = .ex x outs := by
  unfold mkF
  rw [h0, h, ← ho]
theorem bin_run {g : D → D → Option (D × Bool)} {ma mb : EE} {ρ ρ1 ρ2 : Rho} {o1 o2 : O} {d1 d2 : D} {x : D × Bool} (h1 : ma ρ = .ok o1 ρ1) (h2 : mb ρ1 = .ok o2 ρ2) (e1 : look ρ2 o1 = some d1) (e2 : look ρ2 o2 = some d2) (e3 : g d1 d2 = some x) : mBin g ma mb ρ = .ok (.tmp x.1 x.2) ρ2 := by
  unfold mBin
  rw [h1]
  simp only [bind_ok]
  rw [h2]
  simp only [bind_ok]
  rw [e1, e2]
  simp only [opt_some]
  rw [e3]
  rfl
theorem blt_run {g : List D → Option (D × Bool)} {ms : EA} {ρ ρ1 : Rho} {os : List O} {ds : List D} {x : D × Bool} (h1 : ms ρ = .ok os ρ1) (h2 : looks ρ1 os = some ds) (h3 : g ds = some x) : mBlt g ms ρ = .ok (.tmp x.1 x.2) ρ1 := by
  unfold mBlt
  rw [h1]
  simp only [bind_ok]
  rw [h2]
  simp only [opt_some]
  rw [h3]
  rfl
theorem sl_run {m : EE} {p1 p2 : EP} {ρ ρ1 ρ2 ρ3 : Rho} {o : O} {lo hi : Option Int} {d : D} {x : D × Bool} (h1 : m ρ = .ok o ρ1) (h2 : p1 ρ1 = .ok lo ρ2) (h3 : p2 ρ2 = .ok hi ρ3) (h4 : look ρ3 o = some d) (h5 : gSl d lo hi = some x) : mSl m p1 p2 ρ = .ok (.tmp x.1 x.2) ρ3 := by
  unfold mSl
  rw [h1]
  simp only [bind_ok]
  rw [h2]
  simp only [bind_ok]
  rw [h3]
  simp only [bind_ok]
  rw [h4]
  simp only [opt_some]
  rw [h5]
  rfl
theorem asg_run {m : EE} {t : TgM} {ρ ρ1 ρ2 : Rho} {d : D} {f : Bool} (h1 : m ρ = .ok (.tmp d f) ρ1) (h2 : t d f ρ1 = some ρ2) : mAsg m t ρ = .ok .nx ρ2 := by
  unfold mAsg
  rw [h1]
  show opt (t d f ρ1) _ = _
  rw [h2]
  rfl
theorem cons_run {m : EE} {ms : EA} {ρ ρ1 ρ2 : Rho} {o : O} {os : List O} (h1 : m ρ = .ok o ρ1) (h2 : ms ρ1 = .ok os ρ2) : mCons m ms ρ = .ok (o :: os) ρ2 := by
  unfold mCons
  rw [h1]
  simp only [bind_ok]
  rw [h2]
  rfl
theorem cmp_run {g : D → D → Option Bool} {ma mb : EE} {ρ ρ1 ρ2 : Rho} {o1 o2 : O} {d1 d2 : D} {k : Bool} (h1 : ma ρ = .ok o1 ρ1) (h2 : mb ρ1 = .ok o2 ρ2) (e1 : look ρ2 o1 = some d1) (e2 : look ρ2 o2 = some d2) (e3 : g d1 d2 = some k) : mCmp g ma mb ρ = .ok k ρ2 := by
  unfold mCmp
  rw [h1]
  simp only [bind_ok]
  rw [h2]
  simp only [bind_ok]
  rw [e1, e2]
  simp only [opt_some]
  rw [e3]
  rfl
theorem ret_run {m : EE} {ρ ρ1 : Rho} {d : D} {f : Bool} (h1 : m ρ = .ok (.tmp d f) ρ1) : mRet m ρ = .ok (.ret d f) ρ1 := by
  unfold mRet
  rw [h1]
  rfl
theorem and_t {ta tb : ET} {ρ ρ1 : Rho} (h : ta ρ = .ok true ρ1) : mAnd ta tb ρ = tb ρ1 := by
  unfold mAnd
  rw [h]
  rfl
theorem and_f {ta tb : ET} {ρ ρ1 : Rho} (h : ta ρ = .ok false ρ1) : mAnd ta tb ρ = .ok false ρ1 := by
  unfold mAnd
  rw [h]
  rfl
theorem or_t {ta tb : ET} {ρ ρ1 : Rho} (h : ta ρ = .ok true ρ1) : mOr ta tb ρ = .ok true ρ1 := by
  unfold mOr
  rw [h]
  rfl
theorem or_f {ta tb : ET} {ρ ρ1 : Rho} (h : ta ρ = .ok false ρ1) : mOr ta tb ρ = tb ρ1 := by
  unfold mOr
  rw [h]
  rfl
theorem not_run {ta : ET} {ρ ρ1 : Rho} {k : Bool} (h : ta ρ = .ok k ρ1) : mNot ta ρ = .ok (!k) ρ1 := by
  unfold mNot
  rw [h]
  rfl
theorem tst_run {m : EE} {ρ ρ1 : Rho} {o : O} {d : D} {k : Bool} (h : m ρ = .ok o ρ1) (e : look ρ1 o = some d) (e2 : truth d = some k) : mTst m ρ = .ok k ρ1 := by
  unfold mTst
  rw [h]
  simp only [bind_ok]
  rw [e]
  simp only [opt_some]
  rw [e2]
  rfl
/-- a while: one turn more, the end -/
theorem whl_more {t : ET} {b : ES} {n : Nat} {ρ ρ1 ρ2 : Rho} (h1 : t ρ = .ok true ρ1) (h2 : b ρ1 = .ok .nx ρ2) : mWhl t b (n + 1) ρ = mWhl t b n ρ2 := by
  conv => lhs; unfold mWhl
  rw [h1]
  simp only [bind_ok]
  rw [h2]
theorem whl_end {t : ET} {b : ES} {n : Nat} {ρ ρ1 : Rho} (h1 : t ρ = .ok false ρ1) : mWhl t b (n + 1) ρ = .ok .nx ρ1 := by
  unfold mWhl
  rw [h1]
  rfl
theorem whl_ex {t : ET} {b : ES} {n : Nat} {ρ ρ1 ρ2 : Rho} {x : XD} (h1 : t ρ = .ok true ρ1) (h2 : b ρ1 = .ex x ρ2) : mWhl t b (n + 1) ρ = .ex x ρ2 := by
  unfold mWhl
  rw [h1]
  simp only [bind_ok]
  rw [h2]
/-! ### loops -/
/-- a for: an invariant -/
theorem loop_inv {t : TgM} {body : ES} (P : Nat → Rho → Prop) : ∀ (ds : List D) (k : Nat) (ρ : Rho), P k ρ → (∀ i d ρ, ds[i]? = some d → P (k + i) ρ → ∃ ρ1 ρ2, t d false ρ = some ρ1 ∧ body ρ1 = .ok .nx ρ2 ∧ P (k + i + 1) ρ2) → ∃ ρ', loopM t body ds ρ = .ok .nx ρ' ∧ P (k + ds.length) ρ'
  | [], k, ρ, h, _ => ⟨ρ, rfl, h⟩
  | d :: ds, k, ρ, h, hs => by
    obtain ⟨ρ1, ρ2, e1, e2, h2⟩ := hs 0 d ρ rfl h
    obtain ⟨ρ', e3, h3⟩ := loop_inv P ds (k + 1) ρ2 h2 fun i d' ρ hi hp => by
      obtain ⟨ρ3, ρ4, q1, q2, q3⟩ := hs (i + 1) d' ρ hi (by rw [show k + (i + 1) = k + 1 + i by omega]; exact hp)
      exact ⟨ρ3, ρ4, q1, q2, by rw [show k + 1 + i + 1 = k + (i + 1) + 1 by omega]; exact q3⟩
    refine ⟨ρ', ?_, by rw [List.length_cons, show k + (ds.length + 1) = k + 1 + ds.length by omega]; exact h3⟩
    unfold loopM
    rw [e1]
    simp only
    rw [e2]
    exact e3
theorem for_run {mi : EI} {t : TgM} {body : ES} {ρ ρ1 ρ2 : Rho} {ds : List D} {b : Bk} {r : Res Fl} (h1 : mi ρ = .ok (ds, b) ρ1) (h2 : loopM t body ds ρ1 = r) : mFor mi t body ρ = r.rest b := by
  unfold mFor
  rw [h1]
  simp only [bind_ok]
  rw [h2]
end
end LL

set_option Elab.async false
set_option linter.all false
set_option maxRecDepth 100000
/-! LayT: comprehensions with two fors. -/
namespace LL
open PySem L2
section
variable {X : Cx} {W : WF} {J : List Nat} {elt tg iter tg1 iter1 c : Expr} {ifs ifs1 : List Expr} {scope : Scope} {own : List (Str × Nat)} {mi mi1 : EI} {t t1 : TgM} {tt tt1 : ET} {me : EE} {pos p2 : Pos}
/-- the inner walk of a comprehension, from a list of items made so far -/
theorem lc_loop {K : PySem.W.Frag} {mg : Str → Option Value} {σ : St} {H0 : Hp} {Dn : Hp → Prop} {vs : List Nat} {n : Nat} {g : TG} {gt : TT} {ge : TE} {Ji : It} {Dl : Addr} {E L : List En} {ds acc0 accF : List D} {ρ0 ρF : Rho}
    (hn : σ.length = n) (hg : g = rG (others n vs) K t) (hgt : gt = rT K mg W0 tt) (hge : ge = rE K mg W0 me) (wk : Wk K Ji E ds) (hl0 : ρ0.length = σ.length)
    (h0 : Here K (wipe σ vs) (rwipe ρ0 vs) ((.ref Dl, .lst acc0, true) :: (E ++ L)) H0) (hm : lcM vs t tt me ds acc0 (rwipe ρ0 vs) = some (accF, ρF))
    (hd : ∀ ρ' H', ρ'.length = σ.length → rwipe ρ' vs = ρF → Here K (wipe σ vs) (rwipe ρ' vs) ((.ref Dl, .lst accF, true) :: (E ++ L)) H' → Dn H') :
    ∃ W1 : Nat → Nat → Hp → Prop, (∃ m, W1 0 m H0) ∧ ∀ j k H, W1 j k H →
      (Ji.stop j H ∧ Dn H) ∨ (Ji.go j H ∧ ∃ Nx1 : Hp → Prop, (∀ H', Nx1 H' → ∃ k', k' < k ∧ W1 (j + 1) k' H') ∧ ∀ x H', Ji.yld j H x H' → g x (wipe σ vs) H' fun σ3 H5 => wipe σ3 vs = wipe σ vs ∧ gt σ3 H5 fun b H6 =>
        if b = true then ge σ3 H6 fun y H7 => ∃ acc, H7 Dl = some (.lst acc) ∧ acc.length < sizeLine ∧ Nx1 (upd H7 Dl (.lst (acc ++ [y]))) else Nx1 H6) := by
  subst hg hgt hge
  refine ⟨fun i n H2 => ∃ ρ2 acc, i + n = ds.length ∧ ρ2.length = σ.length ∧ Here K (wipe σ vs) (rwipe ρ2 vs) ((.ref Dl, .lst acc, true) :: (E ++ L)) H2 ∧ lcM vs t tt me (ds.drop i) acc (rwipe ρ2 vs) = some (accF, ρF), ⟨ds.length, ρ0, acc0, by omega, hl0, h0, hm⟩, ?_⟩
  rintro i n H2 ⟨ρ2, acc, en, hl2, h2, q⟩
  have R2 : Rep K (E ++ ((.ref Dl, .lst acc, true) :: (ents (wipe σ vs) (rwipe ρ2 vs) ++ L))) H2 := h2.rep.perm (by
    refine (List.perm_middle).trans ?_
    refine List.Perm.trans ?_ (List.perm_middle.symm)
    refine List.Perm.cons _ ?_
    rw [← List.append_assoc, ← List.append_assoc]
    exact List.perm_append_comm.append_right _)
  by_cases hlt : i < ds.length
  · refine .inr ⟨wk.go i _ H2 hlt R2, fun H' => ∃ ρ3 acc', ρ3.length = σ.length ∧ Here K (wipe σ vs) (rwipe ρ3 vs) ((.ref Dl, .lst acc', true) :: (E ++ L)) H' ∧ lcM vs t tt me (ds.drop (i + 1)) acc' (rwipe ρ3 vs) = some (accF, ρF), fun H' ⟨ρ3, acc', h31, h32, q3⟩ => ⟨n - 1, by omega, ρ3, acc', by omega, h31, h32, q3⟩, fun x H' y => ?_⟩
    have ed : ds[i]? = some ds[i] := List.getElem?_eq_getElem hlt
    have R3 := wk.yld i _ H2 x H' ds[i] ed R2 y
    have h3 : Here K (wipe σ vs) (rwipe ρ2 vs) ((x, ds[i], false) :: ((.ref Dl, .lst acc, true) :: (E ++ L))) H' := ⟨h2.al, R3.perm (by
      refine List.Perm.trans ?_ (List.perm_middle.symm)
      refine List.Perm.cons _ ?_
      refine List.Perm.trans ?_ (List.perm_middle.symm)
      refine (List.perm_middle).trans ?_
      refine List.Perm.cons _ ?_
      rw [← List.append_assoc, ← List.append_assoc]
      exact List.perm_append_comm.append_right _)⟩
    rw [List.drop_eq_getElem_cons hlt] at q
    unfold lcM at q
    cases e1 : lcTurn vs t tt me ds[i] acc (rwipe ρ2 vs) with
    | none => simp only [e1] at q; cases q
    | some z =>
      obtain ⟨acc', ρ'⟩ := z
      simp only [e1] at q
      unfold lcTurn at e1
      cases e2 : t ds[i] false (rwipe ρ2 vs) with
      | none => simp only [e2] at e1; cases e1
      | some ρ3 =>
        simp only [e2] at e1
        refine ⟨rwipe ρ2 vs, (.ref Dl, .lst acc, true) :: (E ++ L), ds[i], false, ρ3, h3, e2, fun σ3 h4 f4 => ⟨wipe_eq (by rw [hn]; exact f4), ?_⟩⟩
        have hw : wipe σ3 vs = wipe σ vs := wipe_eq (by rw [hn]; exact f4)
        have hl3 : σ3.length = σ.length := f4.1.trans (wipe_length σ vs)
        refine thn0 h4 (k := fun k ρ4 => match k with
          | false => some (acc, rwipe ρ4 vs) = some (acc', ρ')
          | true => (match me ρ4 with
            | .ok (.tmp x _) ρ3 => if acc.length < sizeLine then some (acc ++ [x], rwipe ρ3 vs) else none
            | _ => none) = some (acc', ρ')) ?_ fun k k' ρ4 H4 h5 c5 e3 => ?_
        · cases e5 : tt ρ3 with
          | ok k ρ4 =>
            simp only [e5] at e1
            cases k <;> exact e1
          | ex x ρ4 => simp only [e5] at e1; cases e1
          | stuck => simp only [e5] at e1; cases e1
        · subst c5
          cases k with
          | false =>
            simp only at e3
            cases e3
            refine iteF ⟨ρ4, acc, by rw [h5.al.len, hl3], ?_, q⟩
            have h6 := here_in (vs := vs) h5
            rw [hw] at h6
            exact h6
          | true =>
            simp only at e3
            refine iteT (thn0 h5 (k := fun o ρ5 => (match o with
              | .tmp x _ => if acc.length < sizeLine then some (acc ++ [x], rwipe ρ5 vs) else none
              | _ => none) = some (acc', ρ')) ?_ fun o y ρ5 H5 h6 c6 e4 => ?_)
            · cases e5 : me ρ4 with
              | ok o ρ5 =>
                simp only [e5] at e3
                cases o <;> exact e3
              | ex x ρ5 => simp only [e5] at e3; cases e3
              | stuck => simp only [e5] at e3; cases e3
            · cases o with
              | slt j => simp only at e4; cases e4
              | tmp xd xf =>
                simp only at e4
                split at e4
                · rename_i hz
                  cases e4
                  have h7 := here_in (vs := vs) h6
                  rw [hw] at h7
                  have R7 : Rep K ((y, xd, xf) :: ((.ref Dl, .lst acc, true) :: (ents (wipe σ vs) (rwipe ρ5 vs) ++ (E ++ L)))) H5 := h7.rep.perm (by
                    refine (List.perm_middle).trans (List.Perm.cons _ ?_)
                    exact List.perm_middle)
                  have R8 := Rep.cool R7
                  have R9 := R8.perm (List.Perm.swap _ _ _)
                  obtain ⟨a, ws, ea, ha, hd'⟩ := R9.own (p := .ref Dl) (ds := acc) (by simp)
                  cases ea
                  refine ⟨ws, ha, by rw [hd'.length]; exact hz, ρ5, acc ++ [xd], by rw [h6.al.len, hl3], ⟨h7.al, ?_⟩, q⟩
                  have RA := R9.put (ds' := acc ++ [xd]) (ws' := ws ++ [y]) (hd'.append (Dats.one (R9.dat (by simp))))
                  exact (RA.sublist (List.Sublist.cons_cons _ (List.sublist_cons_self _ _))).perm (List.perm_middle.symm)
                · cases e4
  · have ei : i = ds.length := by omega
    subst ei
    rw [List.drop_length] at q
    unfold lcM at q
    cases q
    exact .inl ⟨wk.stop _ _ H2 (Nat.le_refl _) R2, hd ρ2 H2 hl2 rfl h2⟩
/-- one turn of the outer for -/
def lc2Turn (vs vs1 : List Nat) (t : TgM) (tt : ET) (mi1 : EI) (t1 : TgM) (tt1 : ET) (me : EE) (d : D) (acc : List D) (ρ : Rho) : Option (List D × Rho) := match t d false ρ with
  | none => none
  | some ρ1 => match tt ρ1 with
    | .ok false ρ2 => some (acc, rwipe ρ2 vs)
    | .ok true ρ2 => match mi1 ρ2 with
      | .ok (ds1, none) ρ3 => match lcM vs1 t1 tt1 me ds1 acc (rwipe ρ3 vs1) with
        | some (acc', ρ4) => some (acc', rwipe ρ4 vs)
        | none => none
      | _ => none
    | _ => none
def lc2M (vs vs1 : List Nat) (t : TgM) (tt : ET) (mi1 : EI) (t1 : TgM) (tt1 : ET) (me : EE) : List D → List D → Rho → Option (List D × Rho)
  | [], acc, ρ => some (acc, ρ)
  | d :: ds, acc, ρ => match lc2Turn vs vs1 t tt mi1 t1 tt1 me d acc ρ with
    | none => none
    | some (acc', ρ') => lc2M vs vs1 t tt mi1 t1 tt1 me ds acc' ρ'
def mLc2 (mi : EI) (vs vs1 : List Nat) (t : TgM) (tt : ET) (mi1 : EI) (t1 : TgM) (tt1 : ET) (me : EE) : EE := fun ρ => (mi ρ).bind fun x ρ1 => match lc2M vs vs1 t tt mi1 t1 tt1 me x.1 [] (rwipe ρ1 vs) with
  | none => .stuck
  | some (acc, ρ2) => .ok (.tmp (.lst acc) true) (restore x.2 ρ2)
theorem lc2_fin {K : PySem.W.Frag} {mg : Str → Option Value} {σ : St} {H : Hp} {Q : VK} {vs vs1 : List Nat} {n : Nat} {g g1 : TG} {gt gt1 : TT} {wi1 : TI} {ge : TE} (hn : σ.length = n) (hg : g = rG (others n vs) K t) (hgt : gt = rT K mg W0 tt)
    (hwi : wi1 = rI [] K mg W0 mi1) (hg1 : g1 = rG (others n vs1) K t1) (hgt1 : gt1 = rT K mg W0 tt1) (hge : ge = rE K mg W0 me)
    (hJ : ∀ i ∈ J, i ∈ others n vs) (h : rE K mg W (mLc2 mi vs vs1 t tt mi1 t1 tt1 me) σ H Q) : tLc2 (rI J K mg W mi) g gt wi1 g1 gt1 ge vs vs1 σ H Q := by
  subst hg hgt hwi
  obtain ⟨ρ, L, cc, hh, h⟩ := h
  refine ⟨ρ, L, cc, hh, ?_⟩
  unfold mLc2 at h
  cases e0 : mi ρ with
  | stuck => rw [e0] at h; exact h.elim
  | ex x ρ1 => rw [e0] at h; exact h
  | ok x ρ1 =>
    rw [e0] at h
    obtain ⟨ds, b⟩ := x
    have h : PstE K mg W σ L (match lc2M vs vs1 t tt mi1 t1 tt1 me ds [] (rwipe ρ1 vs) with
      | none => .stuck
      | some (acc, ρ2) => .ok (.tmp (.lst acc) true) (restore b ρ2)) Q := h
    intro Ji E H1 h1 wk hbk hj
    intro Dl hD
    have R1 : Rep K ((.ref Dl, .lst [], true) :: (ents (wipe σ vs) (rwipe ρ1 vs) ++ (E ++ L))) (upd H1 Dl (.lst [])) := (here_in (vs := vs) h1).rep.newL hD rfl
    refine ⟨fun i n H2 => ∃ ρ2 acc, i + n = ds.length ∧ ρ2.length = σ.length ∧ Here K (wipe σ vs) (rwipe ρ2 vs) ((.ref Dl, .lst acc, true) :: (E ++ L)) H2 ∧ PstE K mg W σ L (match lc2M vs vs1 t tt mi1 t1 tt1 me (ds.drop i) acc (rwipe ρ2 vs) with
      | none => .stuck
      | some (acc, ρ2) => .ok (.tmp (.lst acc) true) (restore b ρ2)) Q, ⟨ds.length, ρ1, [], by omega, h1.al.len, ⟨(here_in h1).al, R1.perm (List.perm_middle.symm)⟩, h⟩, ?_⟩
    rintro i n H2 ⟨ρ2, acc, en, hl2, h2, q⟩
    have R2 : Rep K (E ++ ((.ref Dl, .lst acc, true) :: (ents (wipe σ vs) (rwipe ρ2 vs) ++ L))) H2 := h2.rep.perm (by
      refine (List.perm_middle).trans ?_
      refine List.Perm.trans ?_ (List.perm_middle.symm)
      refine List.Perm.cons _ ?_
      rw [← List.append_assoc, ← List.append_assoc]
      exact List.perm_append_comm.append_right _)
    by_cases hlt : i < ds.length
    · refine .inr ⟨wk.go i _ H2 hlt R2, fun H' => ∃ ρ3 acc', ρ3.length = σ.length ∧ Here K (wipe σ vs) (rwipe ρ3 vs) ((.ref Dl, .lst acc', true) :: (E ++ L)) H' ∧ PstE K mg W σ L (match lc2M vs vs1 t tt mi1 t1 tt1 me (ds.drop (i + 1)) acc' (rwipe ρ3 vs) with
        | none => .stuck
        | some (acc, ρ2) => .ok (.tmp (.lst acc) true) (restore b ρ2)) Q, fun H' ⟨ρ3, acc', h31, h32, q3⟩ => ⟨n - 1, by omega, ρ3, acc', by omega, h31, h32, q3⟩, fun x H' y => ?_⟩
      have ed : ds[i]? = some ds[i] := List.getElem?_eq_getElem hlt
      have R3 := wk.yld i _ H2 x H' ds[i] ed R2 y
      have h3 : Here K (wipe σ vs) (rwipe ρ2 vs) ((x, ds[i], false) :: ((.ref Dl, .lst acc, true) :: (E ++ L))) H' := ⟨h2.al, R3.perm (by
        refine List.Perm.trans ?_ (List.perm_middle.symm)
        refine List.Perm.cons _ ?_
        refine List.Perm.trans ?_ (List.perm_middle.symm)
        refine (List.perm_middle).trans ?_
        refine List.Perm.cons _ ?_
        rw [← List.append_assoc, ← List.append_assoc]
        exact List.perm_append_comm.append_right _)⟩
      rw [List.drop_eq_getElem_cons hlt] at q
      unfold lc2M at q
      cases e1 : lc2Turn vs vs1 t tt mi1 t1 tt1 me ds[i] acc (rwipe ρ2 vs) with
      | none => simp only [e1] at q; exact q.elim
      | some z =>
        obtain ⟨acc', ρ'⟩ := z
        simp only [e1] at q
        unfold lc2Turn at e1
        cases e2 : t ds[i] false (rwipe ρ2 vs) with
        | none => simp only [e2] at e1; cases e1
        | some ρ3 =>
          simp only [e2] at e1
          refine ⟨rwipe ρ2 vs, (.ref Dl, .lst acc, true) :: (E ++ L), ds[i], false, ρ3, h3, e2, fun σ3 h4 f4 => ⟨wipe_eq (by rw [hn]; exact f4), ?_⟩⟩
          have hw : wipe σ3 vs = wipe σ vs := wipe_eq (by rw [hn]; exact f4)
          have hl3 : σ3.length = σ.length := f4.1.trans (wipe_length σ vs)
          refine thn0 h4 (k := fun k ρ4 => match k with
            | false => some (acc, rwipe ρ4 vs) = some (acc', ρ')
            | true => (match mi1 ρ4 with
              | .ok (ds1, none) ρ3 => match lcM vs1 t1 tt1 me ds1 acc (rwipe ρ3 vs1) with
                | some (acc', ρ4) => some (acc', rwipe ρ4 vs)
                | none => none
              | _ => none) = some (acc', ρ')) ?_ fun k k' ρ4 H4 h5 c5 e3 => ?_
          · cases e5 : tt ρ3 with
            | ok k ρ4 =>
              simp only [e5] at e1
              cases k <;> exact e1
            | ex x ρ4 => simp only [e5] at e1; cases e1
            | stuck => simp only [e5] at e1; cases e1
          · subst c5
            cases k with
            | false =>
              simp only at e3
              cases e3
              refine iteF ⟨ρ4, acc, by rw [h5.al.len, hl3], ?_, q⟩
              have h6 := here_in (vs := vs) h5
              rw [hw] at h6
              exact h6
            | true =>
              simp only at e3
              refine iteT ⟨ρ4, _, .zero, h5, ?_⟩
              cases e5 : mi1 ρ4 with
              | ex x ρ5 => simp only [e5] at e3; cases e3
              | stuck => simp only [e5] at e3; cases e3
              | ok z ρ5 =>
                obtain ⟨ds1, b1⟩ := z
                intro Ji1 E1 H5 h6 wk1 hbk1 hj1
                cases b1 with
                | some x1 => exact absurd (hj1 x1 rfl) (by simp)
                | none =>
                  simp only [e5] at e3
                  cases e6 : lcM vs1 t1 tt1 me ds1 acc (rwipe ρ5 vs1) with
                  | none => simp only [e6] at e3; cases e3
                  | some z =>
                    obtain ⟨acc', ρF⟩ := z
                    simp only [e6] at e3
                    cases e3
                    have h7 : Here K (wipe σ3 vs1) (rwipe ρ5 vs1) ((.ref Dl, .lst acc, true) :: (E1 ++ (E ++ L))) H5 := (here_in (vs := vs1) h6).perm (by
                      exact List.perm_middle)
                    refine lc_loop (hl3.trans hn) hg1 hgt1 hge wk1 (by rw [h6.al.len]) h7 e6 fun ρ6 H6 hl6 e7 h8 => ⟨rwipe ρ6 vs1, acc', by rw [rwipe_length, hl6, hl3], ?_, ?_⟩
                    · have h9 := here_out (ρ := ρ6) h8
                      have h10 : Here K σ3 (rwipe ρ6 vs1) ((.ref Dl, .lst acc', true) :: (E ++ L)) H6 := by
                        have : Here K σ3 (rwipe ρ6 vs1) (E1 ++ ((.ref Dl, .lst acc', true) :: (E ++ L))) H6 := h9.perm (List.perm_middle.symm)
                        exact this.drop
                      have h11 := here_in (vs := vs) h10
                      rw [hw] at h11
                      exact h11
                    · rw [e7]
                      exact q
    · have ei : i = ds.length := by omega
      subst ei
      rw [List.drop_length] at q
      unfold lc2M at q
      simp only at q
      refine .inl ⟨wk.stop _ _ H2 (Nat.le_refl _) R2, ?_⟩
      have h3 := here_out (ρ := ρ2) h2
      refine q (.ref Dl) H2 ?_ trivial
      have h4 : Here K σ (rwipe ρ2 vs) (E ++ ([(V.ref Dl, .lst acc, true)] ++ L)) H2 := h3.perm (by exact (List.perm_middle (l₁ := E)).symm)
      exact (here_back (J := J) h4 hbk hj Fix.refl).1
variable {I : List Nat} {vs1 : List Nat}
theorem se_lc2 {n : Nat} (hc : X.calm = true) (hN : X.N.Nodup) (ok : BlkOk X.N X.env.scope scope own) (hi : SI X W J tg iter mi) (hg : Blk X scope fun Y => SG Y (others n (own.map (·.2))) tg t)
    (ht : Blk X scope fun Y => STs Y W0 ifs tt) (hi1 : Blk X scope fun Y => SI Y W0 [] tg1 iter1 mi1) (hg1 : Blk X scope fun Y => SG Y (others n vs1) tg1 t1) (ht1 : Blk X scope fun Y => STs Y W0 ifs1 tt1) (he : Blk X scope fun Y => SE Y W0 elt me)
    (hv : ∀ i ∈ vs1, i ∈ own.map (·.2) := by decide) (hJ : ∀ i ∈ J, i ∈ others n (own.map (·.2)) := by decide) (hn : X.N.length = n := by rfl) (hs : ∀ x, foldedSetIterable iter X.env x = pure x := by intro _; rfl) (hs1 : ∀ env x, foldedSetIterable iter1 env x = pure x := by intro _ _; rfl) :
    SE X W (.ListComp elt [⟨tg, iter, ifs, 0⟩, ⟨tg1, iter1, ifs1, 0⟩] scope pos) (mLc2 mi (own.map (·.2)) vs1 t tt mi1 t1 tt1 me) :=
  PE.impN (pe_lc2 (g := rG (others n (own.map fun x : Str × Nat => x.2)) X.K t) (tt := rT X.K X.mg W0 tt) (wi1 := rI [] X.K X.mg W0 mi1) (g1 := rG (others n vs1) X.K t1) (tt1 := rT X.K X.mg W0 tt1) (te := rE X.K X.mg W0 me) hc hN hi ok hv hg ht hi1 hg1 ht1 he hs hs1) fun σ H Q hl h => lc2_fin (hl.trans hn) rfl rfl rfl rfl rfl rfl hJ h
theorem ss_setLc2 {n i : Nat} {y : Str} {py spos : Pos} (hc : X.calm = true) (hN : X.N.Nodup) (hyl : X.env.scope.names.lookup y = some .local) (hsw : swapsWith (.ListComp elt [⟨tg, iter, ifs, 0⟩, ⟨tg1, iter1, ifs1, 0⟩] scope pos) (some (.Name y py)) spos.line X.env = pure true)
    (ok : BlkOk X.N X.env.scope scope own) (hi : SI X W J tg iter mi) (hg : Blk X scope fun Y => SG Y (others n (own.map (·.2))) tg t)
    (ht : Blk X scope fun Y => STs Y W0 ifs tt) (hi1 : Blk X scope fun Y => SI Y W0 [] tg1 iter1 mi1) (hg1 : Blk X scope fun Y => SG Y (others n vs1) tg1 t1) (ht1 : Blk X scope fun Y => STs Y W0 ifs1 tt1) (he : Blk X scope fun Y => SE Y W0 elt me)
    (hv : ∀ i ∈ vs1, i ∈ own.map (·.2) := by decide) (hJ : ∀ i ∈ J, i ∈ others n (own.map (·.2)) := by decide) (hn : X.N.length = n := by rfl) (hy : X.N[i]? = some y := by rfl) (hI : I.contains i = false := by rfl) (hs : ∀ x, foldedSetIterable iter X.env x = pure x := by intro _; rfl) (hs1 : ∀ env x, foldedSetIterable iter1 env x = pure x := by intro _ _; rfl) :
    SS X W I (.Assign [.Name y py] (.ListComp elt [⟨tg, iter, ifs, 0⟩, ⟨tg1, iter1, ifs1, 0⟩] scope pos) spos) (mAsg (mLc2 mi (own.map (·.2)) vs1 t tt mi1 t1 tt1 me) (tgN i)) :=
  PS.impN (ps_setLc2 (g := rG (others n (own.map fun x : Str × Nat => x.2)) X.K t) (tt := rT X.K X.mg W0 tt) (wi1 := rI [] X.K X.mg W0 mi1) (g1 := rG (others n vs1) X.K t1) (tt1 := rT X.K X.mg W0 tt1) (te := rE X.K X.mg W0 me) hc hN hy hyl hsw hi ok hv hg ht hi1 hg1 ht1 he hs hs1) fun D σ H hl ⟨ρ, L, cc, hh, h⟩ => by
    refine lc2_fin (K := X.K) (mg := X.mg) (W := W) (hl.trans hn) rfl rfl rfl rfl rfl rfl hJ ?_
    refine thnS cc [] hh h fun o v ρ1 H1 h1 c1 q => ?_
    obtain ⟨ρ', L', d, f, ρ2, hh', e', q'⟩ := asg_fin (t := tgN i) h1 q
    unfold tgN at e'
    split at e'
    · rename_i hlen
      cases e'
      exact q' _ (here_put hh' hlen) (Fix.set hI)
    · cases e'
end
end LL

set_option Elab.async false
set_option linter.all false
set_option maxRecDepth 100000
set_option maxHeartbeats 1000000
/-! LayU: instances of own classes: fields, making, methods, properties, static methods, operators by own methods. -/
namespace LL
open PySem L2
theorem ClsAt.fn {K : PySem.W.Frag} {c : Str} {C C' : Addr} (h : ClsAt K c C) (h' : ClsAt K c C') : C = C' := by
  have e := h.symm.trans h'
  cases e
  rfl
/-- a def at an address keeps the meaning mf -/
structure FnS (P : Program) (w : World) (K : PySem.W.Frag) (mg : Str → Option Value) (base : Heap) (k : Nat) (f : Addr) (n : Nat) (mf : FM) : Prop where
  ex : ∃ (fd : FuncData) (ps : List Str), ps.length = n ∧ Binds K fd ps [] ∧ FnOk P w K mg base (L2.CX P w) k f fd ps (spF n K mg mf)
/-- the class c has the method m, its meaning is mf -/
structure MtdS (P : Program) (w : World) (K : PySem.W.Frag) (mg : Str → Option Value) (base : Heap) (k : Nat) (c m : Str) (n : Nat) (mf : FM) : Prop where
  ex : ∃ C f : Addr, ClsAt K c C ∧ mg c = some (.ref C) ∧ Cls K C ∧ Meth K C m f ∧ FnS P w K mg base k f n mf
section
variable {X : Cx} {W : WF} {mf : FM} {k n : Nat} {f : Addr} {pins : List (Addr × Obj)} {σ : St} {H : Hp} {s : Shared} {Q : VK} {us : List Value} {vs : List V} {A1 : Around}
/-- the def runs, perhaps below a built-in -/
theorem run_at (F : FnS X.prog X.w X.K X.mg X.base k f n mf) (sb : L2.Sub X k A1) (tk : Takes X W.w) (I : Inv X pins σ H s) (r : Vals vs us) (h : spF n X.K X.mg mf vs H Q (fun cls d H' => W.w cls d σ H')) :
    wpAny (model X.prog X.w) A1 (call (.ref f) us) (L2.EP X pins σ Q) X.xe s := by
  obtain ⟨fd, ps, hn, hb, F⟩ := F.ex
  have e0 : Env0 X.prog X.w X.K X.mg X.base A1 X.stack s H := by
    have e := I.env0
    exact ⟨by rw [sb.fr]; exact e.frames, e.mod, e.bs, e.bsz, e.funs, e.frf, e.hok, e.bare⟩
  have hl : us.length = ps.length := by rw [← r.length]; exact F.len _ _ _ _ h
  refine wpAny_call (codeAny_mono (F.run A1 X.stack s H ⟨us, []⟩ us vs Q _ sb.room e0 (by
    have := hb s us I.kIn (by simpa using hl)
    simpa using this) r h) fun r s' hq => ?_)
  cases r with
  | error e => exact tk e s' (XE.of_call I (fun _ _ _ h => h) hq)
  | ok fl =>
    cases fl with
    | ret u => exact I.after hq
    | next => exact False.elim hq
    | brk => exact False.elim hq
    | cont => exact False.elim hq
end

/-! ### fields -/
def lookF : List Str → List D → Str → Option D
  | n :: ns, d :: ds, f => if f = n then some d else lookF ns ds f
  | _, _, _ => none
def putD (f : Str) (d : D) : List Str → List D → List Str × List D
  | n :: ns, x :: ds => if n = f then (n :: ns, d :: ds) else (fun z => (n :: z.1, x :: z.2)) (putD f d ns ds)
  | _, _ => ([f], [d])
section
variable {K : PySem.W.Frag} {H : Hp} {Z : Addr → Prop}
theorem lookF_fs : ∀ {fs : List (Str × V)} {ds : List D} {f : Str} {d : D}, Dats K H Z ds (fs.map (·.2)) → lookF (fs.map (·.1)) ds f = some d → ∃ v, fs.lookup f = some v ∧ Dat K H Z d v
  | [], ds, f, d, _, h => by cases ds <;> cases h
  | (n, v) :: fs, [], f, d, _, h => by cases h
  | (n, v) :: fs, x :: ds, f, d, dd, h => by
    obtain ⟨v', ws, e, h1, h2⟩ := dd
    cases e
    have h : (if f = n then some x else lookF (fs.map (·.1)) ds f) = some d := h
    by_cases hf : f = n
    · subst hf
      rw [if_pos rfl] at h
      cases h
      exact ⟨v, by simp [List.lookup], h1⟩
    · rw [if_neg hf] at h
      obtain ⟨u, e1, e2⟩ := lookF_fs h2 h
      refine ⟨u, ?_, e2⟩
      have hb : (f == n) = false := by simpa using hf
      simp only [List.lookup, hb]
      exact e1
theorem lookF_none : ∀ {fs : List (Str × V)} {f : Str}, f ∉ fs.map (·.1) → fs.lookup f = none
  | [], f, _ => rfl
  | (n, v) :: fs, f, h => by
    have hb : (f == n) = false := by
      rw [beq_eq_false_iff_ne]
      exact fun z => h (by rw [z]; exact List.mem_cons_self)
    simp only [List.lookup, hb]
    exact lookF_none fun z => h (List.mem_cons_of_mem _ z)
theorem putD_fs {f : Str} {d : D} {v : V} (hd : Dat K H Z d v) : ∀ {fs : List (Str × V)} {ds : List D}, Dats K H Z ds (fs.map (·.2)) → (putF f v fs).map (·.1) = (putD f d (fs.map (·.1)) ds).1 ∧ Dats K H Z (putD f d (fs.map (·.1)) ds).2 ((putF f v fs).map (·.2))
  | [], ds, h => by
    have e : ds = [] := by
      have := Dats.length h
      simpa using this.symm
    subst e
    exact ⟨rfl, v, [], rfl, hd, rfl⟩
  | (n, u) :: fs, [], h => by
    have := Dats.length h
    simp at this
  | (n, u) :: fs, x :: ds, h => by
    obtain ⟨v', ws, e, h1, h2⟩ := h
    cases e
    obtain ⟨i1, i2⟩ := putD_fs hd (f := f) h2
    by_cases hn : n = f
    · subst hn
      have e1 : putF n v ((n, u) :: fs) = (n, v) :: fs := by simp [putF]
      have e2 : putD n d (((n, u) :: fs).map (·.1)) (x :: ds) = (n :: fs.map (·.1), d :: ds) := by simp [putD]
      rw [e1, e2]
      exact ⟨rfl, v, _, rfl, hd, h2⟩
    · have e1 : putF f v ((n, u) :: fs) = (n, u) :: putF f v fs := by simp [putF, hn]
      have e2 : putD f d (((n, u) :: fs).map (·.1)) (x :: ds) = (n :: (putD f d (fs.map (·.1)) ds).1, x :: (putD f d (fs.map (·.1)) ds).2) := by simp [putD, hn]
      rw [e1, e2]
      exact ⟨congrArg (n :: ·) i1, u, _, rfl, h1, i2⟩
end
/-- e.f of an instance of one of these classes -/
def attrG (tab : List Str) (f : Str) : D → Option D
  | .obj c ns ds => if tab.contains c then lookF ns ds f else none
  | _ => none
def mAttr (tab : List Str) (f : Str) (m : EE) : EE := fun ρ => (m ρ).bind fun o ρ1 => opt (look ρ1 o) fun d => opt (attrG tab f d) fun x => .ok (.tmp x false) ρ1
/-- the field f of these classes -/
def Flds (K : PySem.W.Frag) (tab : List Str) (f : Str) : Prop := ∀ c ∈ tab, ∀ C, ClsAt K c C → Cls K C ∧ NoAttr K C f
section
variable {X : Cx} {W : WF} {I : List Nat} {e o : Expr} {es : List Expr} {m mo me : EE} {ms : EA} {mf : FM} {k n i : Nat} {c x f : Str} {tab : List Str} {pos apos p2 : Pos}
theorem op_fin' {σ : St} {ρ : Rho} {L E : List En} {H : Hp} {d : D} {v : V} {Q : VK} (hh : Here X.K σ ρ (E ++ L) H) (hd : Dat X.K H (· ∈ OwnA (ents σ ρ ++ (E ++ L))) d v) (q : PstE X.K X.mg W σ L (.ok (.tmp d false) ρ) Q) : Q v H :=
  op_fin hh q v H (hh.rep.add hd)
theorem se_attr (hf : Flds X.K tab f) (he : SE X W e m) (hb : attributeBase e f X.env (eval e X.env) = eval e X.env := by rfl) : SE X W (.Attribute e f pos) (mAttr tab f m) :=
  PE.imp (pe_fld he hb) fun σ H Q ⟨ρ, L, cc, hh, h⟩ => by
    refine thn cc [] hh h fun o1 v ρ1 H1 h1 c1 q => ?_
    obtain ⟨d, e1, q0⟩ := Pst.opt q
    obtain ⟨z, e2, q2⟩ := Pst.opt q0
    clear q0 q
    obtain ⟨f1, m1⟩ := look_mem (T := ents σ ρ1 ++ (oen v o1 ++ L)) c1 e1 (fun e he => by simp [he]) (fun e he => by simp [he])
    cases d with
    | obj c ns ds =>
      have e2 : (if tab.contains c then lookF ns ds f else none) = some z := e2
      by_cases ht : tab.contains c = true
      case neg => rw [if_neg ht] at e2; cases e2
      rw [if_pos ht] at e2
      obtain ⟨a, C, dx, fs, rfl, hc, ha, hn, dd⟩ := h1.rep.obj m1
      subst hn
      obtain ⟨u, l1, l2⟩ := lookF_fs dd e2
      obtain ⟨c1, c2⟩ := hf c (List.contains_iff_mem.mp ht) C hc
      exact ⟨a, C, dx, fs, u, rfl, ha, c1, c2, l1, op_fin' (E := oen _ o1) h1 l2 q2⟩
    | _ => cases e2
/-- an owned instance in a slot -/
def ownO (ρ : Rho) (i : Nat) : Option (Str × List Str × List D) := match at_ ρ i with
  | some (.obj c ns ds, true) => some (c, ns, ds)
  | _ => none
theorem ownO_some {ρ : Rho} {i : Nat} {z : Str × List Str × List D} (h : ownO ρ i = some z) : ρ[i]? = some (some (.obj z.1 z.2.1 z.2.2, true)) := by
  unfold ownO at h
  split at h
  · rename_i c ns ds e
    cases h
    exact at_some e
  · cases h
/-- self.f = e -/
def mSetA (tab : List Str) (i : Nat) (f : Str) (me : EE) : ES := fun ρ => (me ρ).bind fun o ρ1 => match o with
  | .slt _ => .stuck
  | .tmp d _ => opt (ownO ρ1 i) fun z => if tab.contains z.1 && decide (z.2.1.length < 1000) then .ok .nx (ρ1.set i (some (.obj z.1 (putD f d z.2.1 z.2.2).1 (putD f d z.2.1 z.2.2).2, true))) else .stuck
theorem ss_setA (hf : Flds X.K tab f) (he : SE X W e me) (ho : PE X o (tVar i)) (hs : swapsWith e (some (.Attribute o f p2)) pos.line X.env = pure false := by rfl) :
    SS X W I (.Assign [.Attribute o f p2] e pos) (mSetA tab i f me) :=
  PS.imp (ps_fld ho he hs) fun D σ H ⟨ρ, L, cc, hh, h⟩ => by
    refine thnS cc [] hh h fun o1 x ρ1 H1 h1 c1 q => ?_
    cases o1 with
    | slt j => exact q.elim
    | tmp d f1 =>
      obtain ⟨⟨c, ns, ds⟩, e0, q⟩ := PstS.opt q
      have hr := ownO_some e0
      obtain ⟨v, hv⟩ := h1.al.val i _ hr
      refine ⟨v, hv, ?_⟩
      by_cases ht : (tab.contains c && decide (ns.length < 1000)) = true
      case neg =>
        dsimp only at q
        rw [if_neg ht] at q
        exact q.elim
      dsimp only at q
      rw [if_pos ht] at q
      rw [Bool.and_eq_true, decide_eq_true_iff] at ht
      have hl : i < ρ1.length := (List.getElem?_eq_some_iff.mp hr).1
      have R1 : Rep X.K ((x, d, f1) :: ((v, .obj c ns ds, true) :: (ents σ (ρ1.set i none) ++ L))) H1 :=
        h1.rep.perm (List.perm_middle.trans (List.Perm.cons _ ((ents_get hv hr).append_right L)))
      have R2 := (Rep.cool R1).perm (List.Perm.swap _ _ _)
      obtain ⟨a, C, dx, fs, ep, hc, ha, hn, dd⟩ := R2.obj (p := v) List.mem_cons_self
      subst ep
      subst hn
      obtain ⟨c1, c2⟩ := hf c (List.contains_iff_mem.mp ht.1) C hc
      obtain ⟨p1, p2⟩ := putD_fs (f := f) (R2.dat (v := x) (d := d) (by simp)) dd
      refine ⟨a, C, dx, fs, rfl, ha, c1, c2, by simpa using ht.2, q σ _ ⟨h1.al.set ⟨_, hv⟩, ?_⟩ Fix.refl⟩
      have R3 := R2.putB (d' := .obj c (putD f d (fs.map (·.1)) ds).1 (putD f d (fs.map (·.1)) ds).2) (o' := .ins C dx (putF f x fs)) rfl ⟨hc, p1, rfl, rfl⟩ p2
      have R4 := R3.sublist (List.Sublist.cons_cons _ (List.sublist_cons_self _ _))
      refine R4.perm (List.Perm.symm ?_)
      exact (ents_set hv hl).append_right L
end
end LL

set_option Elab.async false
set_option linter.all false
set_option maxRecDepth 100000
set_option maxHeartbeats 1000000
/-! LayV: making an instance, methods, properties, static methods. -/
namespace LL
open PySem L2
/-- the class c is made by its __init__ with the meaning mf -/
structure MkS (P : Program) (w : World) (K : PySem.W.Frag) (mg : Str → Option Value) (base : Heap) (k : Nat) (c : Str) (n : Nat) (mf : FM) : Prop where
  ex : ∃ C f : Addr, ClsAt K c C ∧ mg c = some (.ref C) ∧ Mk K C f ∧ FnS P w K mg base k f n mf
def makeF (bs : List (Option Nat)) (ρ : Rho) : FR → Res O
  | .ok .non _ (some (.obj c ns ds, _) :: outs) => .ok (.tmp (.obj c ns ds) false) (push bs outs ρ)
  | .ex x (_ :: outs) => .ex x (push bs outs ρ)
  | _ => .stuck
def makeK (c : Str) (n : Nat) (mf : FM) (os : List O) (ρ : Rho) : Res O := if os.length + 1 = n then match pull os ρ with
  | none => .stuck
  | some (as, bs, ρ') => makeF bs ρ' (mf ((.obj c [] [], true) :: as))
  else .stuck
def mMake (c : Str) (n : Nat) (mf : FM) (ms : EA) : EE := fun ρ => (ms ρ).bind (makeK c n mf)
def mMeth (c m : Str) (n : Nat) (mf : FM) (mo : EE) (ms : EA) : EE := fun ρ => (mo ρ).bind fun o ρ1 => opt (look ρ1 o) fun d => match d with
  | .obj c' ns _ => if c' = c ∧ m ∉ ns then (ms ρ1).bind fun os ρ2 => callK n mf (o :: os) ρ2 else .stuck
  | _ => .stuck
def isO (c : Str) : D → Bool
  | .obj c' _ _ => decide (c' = c)
  | _ => false
/-- an own method of one operand, called by the language -/
def mOwn1 (c : Str) (mf : FM) (mo : EE) : EE := fun ρ => (mo ρ).bind fun o ρ1 => opt (look ρ1 o) fun d => if isO c d then callK 1 mf [o] ρ1 else .stuck
/-- .. of two -/
def mOwn2 (c : Str) (mf : FM) (ma mb : EE) : EE := fun ρ => (ma ρ).bind fun o ρ1 => (mb ρ1).bind fun o2 ρ2 => opt (look ρ2 o) fun d => if isO c d then callK 2 mf [o, o2] ρ2 else .stuck
section
variable {X : Cx} {W : WF} {I : List Nat} {e o a b : Expr} {es : List Expr} {m mo ma mb : EE} {ms : EA} {mf : FM} {k n i : Nat} {c x mn fn : Str} {pos apos p2 : Pos}
theorem isO_obj {c : Str} {d : D} (h : isO c d = true) : ∃ ns ds, d = .obj c ns ds := by
  cases d with
  | obj c' ns ds =>
    have h : decide (c' = c) = true := h
    rw [decide_eq_true_iff] at h
    subst h
    exact ⟨ns, ds, rfl⟩
  | _ => cases h
theorem run_makeS {pins : List (Addr × Obj)} {σ : St} {H : Hp} {s : Shared} {Q : VK} {us : List Value} {vs : List V} {C f : Addr} (M : Mk X.K C f) (F : FnS X.prog X.w X.K X.mg X.base k f n mf) (hr : Room (k + 1) X.A) (tk : Takes X W.w)
    (I : Inv X pins σ H s) (r : Vals vs us)
    (h : ∀ x dx, H x = none → H dx = none → dx ≠ x → spF n X.K X.mg mf (.ref x :: vs) (upd (upd H dx (.own x)) x (.ins C dx [])) (fun v H2 => v = .non ∧ Q (.ref x) H2) (fun cls d H' => W.w cls d σ H')) :
    wpAny (model X.prog X.w) X.A (call (.ref C) us) (L2.EP X pins σ Q) X.xe s := by
  obtain ⟨fd, ps, hn, hb, F⟩ := F.ex
  have hq := h (s.heap.objs.size + 1) s.heap.objs.size (I.hok.fresh (Nat.le_succ _)) (I.hok.fresh (Nat.le_refl _)) (Nat.ne_of_lt (Nat.lt_succ_self _))
  have I2 := Inv.made (C := C) I
  have r2 : Vals (V.ref (s.heap.objs.size + 1) :: vs) (Value.ref (s.heap.objs.size + 1) :: us) := .cons rfl r
  have hl : (Value.ref (s.heap.objs.size + 1) :: us).length = ps.length := by
    have e := r2.length
    rw [F.len _ _ _ _ hq] at e
    exact e.symm
  refine wpAny_call (make_map (f := f) I.kIn M.makes M.init (beq_iff_eq.mp M.fn) (codeAny_mono (F.run _ X.stack _ _ ⟨Value.ref (s.heap.objs.size + 1) :: us, []⟩ (Value.ref (s.heap.objs.size + 1) :: us) _ _ _ (hr.make C us [])
    (I2.env0.make C us []) (by
      have := hb { s with heap := _ } (Value.ref (s.heap.objs.size + 1) :: us) I2.kIn (by simpa using hl)
      simpa using this) r2 hq) fun r s' hq' => ?_))
  cases r with
  | error e => exact tk e s' (XE.of_call I2 (fun _ _ _ h => h) hq')
  | ok fl =>
    cases fl with
    | ret u =>
      obtain ⟨v, H', I3, rv, ev, q3⟩ := I2.after hq'
      subst ev
      exact ⟨rv, ⟨V.ref (s.heap.objs.size + 1), H', I3, rfl, q3⟩⟩
    | next => exact False.elim hq'
    | brk => exact False.elim hq'
    | cont => exact False.elim hq'
theorem make_fin {σ : St} {ρ1 : Rho} {L : List En} {H1 : Hp} {os : List O} {vs : List V} {Q : VK} {C : Addr} (hC : ClsAt X.K c C) (h1 : Here X.K σ ρ1 (oens vs os ++ L) H1) (c1 : OIss σ vs os) (q : PstE X.K X.mg W σ L (makeK c n mf os ρ1) Q) :
    ∀ x dx, H1 x = none → H1 dx = none → dx ≠ x → spF n X.K X.mg mf (.ref x :: vs) (upd (upd H1 dx (.own x)) x (.ins C dx [])) (fun v H2 => v = .non ∧ Q (.ref x) H2) (fun cls d H' => W.w cls d σ H') := by
  intro x dx hx hdx hne
  unfold makeK at q
  by_cases hos : os.length + 1 = n
  case neg => rw [if_neg hos] at q; exact q.elim
  rw [if_pos hos] at q
  have hn : (V.ref x :: vs).length = n := by rw [List.length_cons, oiss_len c1]; exact hos
  cases e1 : pull os ρ1 with
  | none => simp only [e1] at q; exact q.elim
  | some z =>
    obtain ⟨as, bs, ρ'⟩ := z
    simp only [e1] at q
    obtain ⟨hl, hb, A, R⟩ := pull_rep (L := L) c1 e1 h1.al (h1.rep.perm (by
      rw [← List.append_assoc, ← List.append_assoc]
      exact List.perm_append_comm.append_right _))
    have R0 := R.keep (upd_keep (o := .own x) hdx)
    have hx' : upd H1 dx (.own x) x = none := by rw [upd_ne (fun z => hne z.symm)]; exact hx
    have R1 := R0.newB (p := x) (d := .obj c [] []) (o := .ins C dx []) (ds := []) (ws := []) hx' ⟨hC, rfl, rfl, rfl⟩ rfl
    refine ⟨(.obj c [] [], true) :: as, ents σ ρ' ++ L, hn, by rw [List.length_cons, hl, ← List.length_cons (a := V.ref x)]; exact hn, R1, ?_⟩
    have fin : ∀ outs, Al σ (push bs outs ρ') ∧ ∃ T, (ents σ (push bs outs ρ')).Perm T ∧ T.Sublist (zo vs outs ++ ents σ ρ') := fun outs => push_rep hb A
    generalize mf ((.obj c [] [], true) :: as) = fr at q
    unfold makeF at q
    split at q
    · rename_i f0 c' ns ds f' outs
      obtain ⟨A2, T, t1, t2⟩ := fin outs
      intro v H2 R2
      have ev : v = .non := R2.non (f := f0) List.mem_cons_self
      refine ⟨ev, q (.ref x) H2 ⟨A2, ?_⟩ trivial⟩
      have R3 : Rep X.K ((.ref x, .obj c' ns ds, f') :: ((zo vs outs ++ ents σ ρ') ++ L)) H2 := by rw [List.append_assoc]; exact R2.tail
      have R4 := (Rep.cool R3).sublist (List.Sublist.cons_cons _ (t2.append (List.Sublist.refl L)))
      exact R4.perm ((List.Perm.cons _ (t1.symm.append_right L)).trans List.perm_middle.symm)
    · rename_i y o0 outs
      obtain ⟨A2, T, t1, t2⟩ := fin outs
      intro cls dd H2 R2 hx2
      have s0 : (zo vs outs).Sublist (zo (V.ref x :: vs) (o0 :: outs)) := by
        cases o0 with
        | none => exact List.Sublist.refl _
        | some z => exact List.sublist_cons_self _ _
      have s1 : (T ++ L).Sublist (zo (V.ref x :: vs) (o0 :: outs) ++ (ents σ ρ' ++ L)) := by
        rw [← List.append_assoc]
        exact (t2.trans (s0.append (List.Sublist.refl _))).append (List.Sublist.refl L)
      refine q cls dd H2 ⟨A2, (R2.sublist s1).perm (t1.symm.append_right L)⟩ (hx2.mono fun a ha => ?_)
      exact OwnA_sub (fun e he => s1.subset ((t1.append_right L).mem_iff.mp he)) ha
    · exact q.elim
theorem se_make {A : Around} (M : MkS X.prog X.w X.K X.mg X.base k c n mf) (hr : Room (k + 1) A) (tk : Takes X W.w) (ha : SA X W (e :: es) ms) (hA : X.A = A := by rfl) (hg : Gl X c := by rfl)
    (hdb : (c == ("__debug__" : Str)) = false := by decide) (he : starEach (e :: es) X.env = (false, eval e X.env) :: starEach es X.env := by rfl) (hpl : (backTo pos (starEach es X.env)).any (·.1) = false := by rfl) :
    SE X W (.Call (.Name c p2) (e :: es) [] pos) (mMake c n mf ms) := by
  subst hA
  obtain ⟨C, f, hC, hm, M, F⟩ := M.ex
  refine ⟨fun pins s σ H Q I ⟨ρ, L, cc, hh, h⟩ => ?_⟩
  refine wpAny_Call_Name_kw (ld_glob I hg hm ?_ hdb)
  refine PySem.W.callWith_K (h₀ := X.base) I.ok.mod.kin M.kp (L2.thn (ha.run pos pins s σ H (fun vs H1 => ∀ x dx, H1 x = none → H1 dx = none → dx ≠ x → spF n X.K X.mg mf (.ref x :: vs) (upd (upd H1 dx (.own x)) x (.ins C dx [])) (fun v H2 => v = .non ∧ Q (.ref x) H2) (fun cls d H' => W.w cls d σ H')) I ?_) fun us s1 ⟨vs, H1, I1, r, q⟩ => ⟨I1.kIn, run_makeS M F hr tk I1 r q⟩) he hpl
  exact thn cc [] hh h fun os vs ρ1 H1 h1 c1 q => make_fin hC h1 c1 q
theorem se_make0 {A : Around} (M : MkS X.prog X.w X.K X.mg X.base k c n mf) (hr : Room (k + 1) A) (tk : Takes X W.w) (hA : X.A = A := by rfl) (hg : Gl X c := by rfl)
    (hdb : (c == ("__debug__" : Str)) = false := by decide) : SE X W (.Call (.Name c p2) [] [] pos) (mMake c n mf mNil) := by
  subst hA
  obtain ⟨C, f, hC, hm, M, F⟩ := M.ex
  refine ⟨fun pins s σ H Q I ⟨ρ, L, cc, hh, h⟩ => ?_⟩
  refine wpAny_Call_Name_kw (ld_glob I hg hm ?_ hdb)
  exact PySem.W.callWith_K0 I.kIn M.kp (run_makeS (us := []) M F hr tk I .nil (make_fin (os := []) hC hh trivial h))
/-- an instance among the operands -/
theorem obj_at {σ : St} {ρ : Rho} {L E : List En} {H : Hp} {o : O} {v : V} {c : Str} {ns : List Str} {ds : List D} (hh : Here X.K σ ρ (E ++ L) H) (hv : OIs σ v o) (hE : ∀ e ∈ oen v o, e ∈ E) (hl : look ρ o = some (.obj c ns ds)) :
    ∃ a C dx fs, v = .ref a ∧ ClsAt X.K c C ∧ H a = some (.ins C dx fs) ∧ fs.map (·.1) = ns := by
  obtain ⟨f1, m1⟩ := look_mem (T := ents σ ρ ++ (E ++ L)) hv hl (fun e he => by simp [hE e he]) (fun e he => by simp [he])
  obtain ⟨a, C, dx, fs, e, hc, ha, hn, _⟩ := hh.rep.obj m1
  exact ⟨a, C, dx, fs, e, hc, ha, hn⟩
theorem se_meth {A : Around} {pl : Sem Bool} (M : MtdS X.prog X.w X.K X.mg X.base k c mn n mf) (hr : Room k A) (tk : Takes X W.w) (ho : SE X W o mo) (ha : SA X W (e :: es) ms) (hA : X.A = A := by rfl)
    (hst : starEach (e :: es) X.env = (false, eval e X.env) :: starEach es X.env := by rfl) (hpl : (backTo pos (starEach es X.env)).any (·.1) = false := by rfl)
    (ht : eval (.Call (.Attribute o mn apos) (e :: es) [] pos) X.env = (do
      let ov ← eval o X.env
      standAt apos.atName
      let (f, first) ← holding [ov] (getMethod ov mn pl)
      callWith pos f first (backTo pos (starEach (e :: es) X.env)) (backToKw pos (keywordEach [] X.env))) := by rfl) :
    SE X W (.Call (.Attribute o mn apos) (e :: es) [] pos) (mMeth c mn n mf mo ms) := by
  subst hA
  obtain ⟨C, f, hC, hm, cl, mt, F⟩ := M.ex
  refine ⟨fun pins s σ H Q I ⟨ρ, L, cc, hh, h⟩ => ?_⟩
  refine PySem.W.methodCall_KW (pl := pl) (L2.thn (ho.run pins s σ H (fun x H1 => ∃ a dx fs, x = .ref a ∧ H1 a = some (.ins C dx fs) ∧ fs.lookup mn = none ∧ rA X.K X.mg W ms σ H1 fun vs H2 => spF n X.K X.mg mf (x :: vs) H2 Q (fun cls d H' => W.w cls d σ H')) I ?_) fun u s1 ⟨x, H1, I1, rx, a, dx, fs, ex, ea, l, q⟩ => ?_) ht
  · refine thn cc [] hh h fun o1 v ρ1 H1 h1 c1 q => ?_
    obtain ⟨d, e1, q1⟩ := Pst.opt q
    clear q
    split at q1
    case h_2 => exact q1.elim
    rename_i c' ns ds
    split at q1
    case isFalse => exact q1.elim
    rename_i hcn
    obtain ⟨rfl, hns⟩ := hcn
    obtain ⟨a, C', dx, fs, rfl, hc', ha', hn⟩ := obj_at (E := oen v o1) h1 c1 (fun _ h => h) e1
    cases hC.fn hc'
    refine ⟨a, dx, fs, rfl, ha', lookF_none (by rw [hn]; exact hns), ?_⟩
    refine thn cc (oen (.ref a) o1) h1 q1 fun os vs ρ2 H2 h2 c2 q => ?_
    have z := call_fin (os := o1 :: os) (vs := .ref a :: vs) (L := L) (n := n) (mf := mf) (Q := Q) (W := W) (h2.perm (by
      show (oens vs os ++ (oen (.ref a) o1 ++ L)).Perm ((oen (.ref a) o1 ++ oens vs os) ++ L)
      rw [← List.append_assoc]
      exact List.perm_append_comm.append_right _)) ⟨c1, c2⟩ q
    rw [List.append_nil] at z
    exact z
  · subst ex
    obtain rfl : u = Value.ref a := rx
    refine getmeth_ok I1 ea cl mt l ?_
    refine PySem.W.callWith_K (first := [.ref a]) (h₀ := X.base) I.ok.mod.kin mt.kp (L2.thn (ha.run pos pins s1 σ H1 _ I1 q) fun us s2 ⟨vs, H2, I2, r, q2⟩ => ⟨I2.kIn, ?_⟩) hst hpl
    exact run_at (us := .ref a :: us) (vs := .ref a :: vs) F ⟨hr, rfl⟩ tk I2 (.cons rfl r) q2
theorem se_meth0 {A : Around} {pl : Sem Bool} (M : MtdS X.prog X.w X.K X.mg X.base k c mn n mf) (hr : Room k A) (tk : Takes X W.w) (ho : SE X W o mo) (hA : X.A = A := by rfl)
    (ht : eval (.Call (.Attribute o mn apos) [] [] pos) X.env = (do
      let ov ← eval o X.env
      standAt apos.atName
      let (f, first) ← holding [ov] (getMethod ov mn pl)
      callWith pos f first (backTo pos (starEach [] X.env)) (backToKw pos (keywordEach [] X.env))) := by rfl) :
    SE X W (.Call (.Attribute o mn apos) [] [] pos) (mMeth c mn n mf mo mNil) := by
  subst hA
  obtain ⟨C, f, hC, hm, cl, mt, F⟩ := M.ex
  refine ⟨fun pins s σ H Q I ⟨ρ, L, cc, hh, h⟩ => ?_⟩
  refine PySem.W.methodCall_KW (pl := pl) (L2.thn (ho.run pins s σ H (fun x H1 => ∃ a dx fs, x = .ref a ∧ H1 a = some (.ins C dx fs) ∧ fs.lookup mn = none ∧ spF n X.K X.mg mf [x] H1 Q (fun cls d H' => W.w cls d σ H')) I ?_) fun u s1 ⟨x, H1, I1, rx, a, dx, fs, ex, ea, l, q⟩ => ?_) ht
  · refine thn cc [] hh h fun o1 v ρ1 H1 h1 c1 q => ?_
    obtain ⟨d, e1, q1⟩ := Pst.opt q
    clear q
    split at q1
    case h_2 => exact q1.elim
    rename_i c' ns ds
    split at q1
    case isFalse => exact q1.elim
    rename_i hcn
    obtain ⟨rfl, hns⟩ := hcn
    obtain ⟨a, C', dx, fs, rfl, hc', ha', hn⟩ := obj_at (E := oen v o1) h1 c1 (fun _ h => h) e1
    cases hC.fn hc'
    refine ⟨a, dx, fs, rfl, ha', lookF_none (by rw [hn]; exact hns), ?_⟩
    have z := call_fin (os := [o1]) (vs := [.ref a]) (L := L) (n := n) (mf := mf) (Q := Q) (W := W) (h1.perm (by
      show (oen (.ref a) o1 ++ L).Perm ((oen (.ref a) o1 ++ []) ++ L)
      rw [List.append_nil])) ⟨c1, trivial⟩ q1
    rw [List.append_nil] at z
    exact z
  · subst ex
    obtain rfl : u = Value.ref a := rx
    refine getmeth_ok I1 ea cl mt l ?_
    exact PySem.W.callWith_K0 (first := [.ref a]) I1.kIn mt.kp (run_at (us := [.ref a]) (vs := [.ref a]) F ⟨hr, rfl⟩ tk I1 (.cons rfl .nil) q)
end
end LL

set_option Elab.async false
set_option linter.all false
set_option maxRecDepth 100000
set_option maxHeartbeats 1000000
/-! LayW: properties, static methods, operators by own methods, isinstance. -/
namespace LL
open PySem L2
/-- the class c has the property f, its getter's meaning is mf -/
structure PrpS (P : Program) (w : World) (K : PySem.W.Frag) (mg : Str → Option Value) (base : Heap) (k : Nat) (c f : Str) (mf : FM) : Prop where
  ex : ∃ C p g : Addr, ClsAt K c C ∧ Cls K C ∧ PropOf K C f p g ∧ FnS P w K mg base k g 1 mf
/-- the class c has the static method m -/
structure StcS (P : Program) (w : World) (K : PySem.W.Frag) (mg : Str → Option Value) (base : Heap) (k : Nat) (c m : Str) (n : Nat) (mf : FM) : Prop where
  ex : ∃ (C p g : Addr) (mc : Value) (rest : List Value), mg c = some (.ref C) ∧ ClX.CRead K C mc ∧ PySem.W.typeIn K (.ref C) = some mc ∧ PySem.W.findCls K (.ref C) mc m = some (.get (.builtin "staticmethod.__get__") (.ref p) .none (.ref C)) ∧
    PySem.W.recIn K p "staticmethod" = some (.ref g :: rest) ∧ PySem.W.keepIn K (.ref g) = true ∧ FnS P w K mg base k g n mf
/-- the class c has the method m that the language calls -/
structure OwnS (P : Program) (w : World) (K : PySem.W.Frag) (mg : Str → Option Value) (base : Heap) (k : Nat) (c m : Str) (n : Nat) (mf : FM) : Prop where
  ex : ∃ C f : Addr, ClsAt K c C ∧ PySem.W.findIn K (.ref C) m = some (some (.ref f)) ∧ PySem.W.isFn K (.ref f) = true ∧ PySem.W.fnIn K f = true ∧ PySem.W.selfFirst K C = true ∧ FnS P w K mg base k f n mf
def mBoth (c : Str) (mf : FM) (ma mb : EE) : EE := fun ρ => (ma ρ).bind fun o ρ1 => (mb ρ1).bind fun o2 ρ2 => opt (look ρ2 o) fun d => opt (look ρ2 o2) fun d2 => if isO c d && isO c d2 then callK 2 mf [o, o2] ρ2 else .stuck
theorem Pst.cut {α β γ δ : Type} {en : α → β → List En} {co : St → α → β → Prop} {en' : γ → δ → List En} {co' : St → γ → δ → Prop} {K : PySem.W.Frag} {mg : Str → Option Value} {W : WF} {σ : St} {L : List En} {r : Res α} {k : α → Rho → Res γ} {Q : δ → Hp → Prop}
    (h : Pst en' co' K mg W σ L (r.bind k) Q) : Pst en co K mg W σ L r (fun b H => ∃ a ρ', Here K σ ρ' (en a b ++ L) H ∧ co σ a b ∧ Pst en' co' K mg W σ L (k a ρ') Q) := by
  cases r with
  | ok a ρ => exact fun b H hh hc => ⟨a, ρ, hh, hc, h⟩
  | ex x ρ => exact h
  | stuck => exact h.elim
theorem EP.mono {X : Cx} {pins : List (Addr × Obj)} {σ : St} {Q Q' : VK} {u : Value} {s : Shared} (h : L2.EP X pins σ Q u s) (k : ∀ v H, Q v H → Q' v H) : L2.EP X pins σ Q' u s := by
  obtain ⟨v, H, I, r, q⟩ := h
  exact ⟨v, H, I, r, k v H q⟩
theorem EP.back {X : Cx} {pins : List (Addr × Obj)} {σ : St} {Q : VK} {u : Value} {s : Shared} (h : L2.EP X pins σ Q u s) : PySem.W.CmpBack (L2.EP X pins σ Q) u s := by
  have h' := h
  obtain ⟨v, H, I, r, q⟩ := h
  cases u with
  | notImplemented => cases v <;> first | exact r.elim | (obtain ⟨_, z⟩ := r; cases z; done) | (cases r; done)
  | _ => exact h'
section
variable {X : Cx} {W : WF} {I : List Nat} {e o a b : Expr} {es : List Expr} {m mo ma mb : EE} {ms : EA} {mf : FM} {k n i : Nat} {c x mn fn : Str} {pos apos p2 : Pos}
theorem own1_fin {σ : St} {ρ1 : Rho} {L : List En} {H1 : Hp} {o : O} {v : V} {Q : VK} (h1 : Here X.K σ ρ1 (oen v o ++ L) H1) (c1 : OIs σ v o) (q : PstE X.K X.mg W σ L (opt (look ρ1 o) fun d => if isO c d then callK 1 mf [o] ρ1 else .stuck) Q) :
    ∃ a C dx fs, v = .ref a ∧ ClsAt X.K c C ∧ H1 a = some (.ins C dx fs) ∧ spF 1 X.K X.mg mf [v] H1 Q (fun cls d H' => W.w cls d σ H') := by
  obtain ⟨d, e1, q1⟩ := Pst.opt q
  clear q
  split at q1
  case isFalse => exact q1.elim
  rename_i hd
  obtain ⟨ns, ds, rfl⟩ := isO_obj hd
  obtain ⟨a, C, dx, fs, rfl, hc, ha, hn⟩ := obj_at (E := oen v o) h1 c1 (fun _ h => h) e1
  refine ⟨a, C, dx, fs, rfl, hc, ha, ?_⟩
  have z := call_fin (os := [o]) (vs := [.ref a]) (L := L) (n := 1) (mf := mf) (Q := Q) (W := W) (h1.perm (by
    show (oen (.ref a) o ++ L).Perm ((oen (.ref a) o ++ []) ++ L)
    rw [List.append_nil])) ⟨c1, trivial⟩ q1
  rw [List.append_nil] at z
  exact z
theorem own2_call {σ : St} {ρ2 : Rho} {L : List En} {H2 : Hp} {o o2 : O} {v u : V} {Q : VK} (h2 : Here X.K σ ρ2 (oen u o2 ++ (oen v o ++ L)) H2) (c1 : OIs σ v o) (c2 : OIs σ u o2) (q : PstE X.K X.mg W σ L (callK 2 mf [o, o2] ρ2) Q) :
    spF 2 X.K X.mg mf [v, u] H2 Q (fun cls d H' => W.w cls d σ H') := by
  have z := call_fin (os := [o, o2]) (vs := [v, u]) (L := L) (n := 2) (mf := mf) (Q := Q) (W := W) (h2.perm (by
    show (oen u o2 ++ (oen v o ++ L)).Perm ((oen v o ++ (oen u o2 ++ [])) ++ L)
    rw [List.append_nil, ← List.append_assoc]
    exact List.perm_append_comm.append_right _)) ⟨c1, c2, trivial⟩ q
  rw [List.append_nil] at z
  exact z
theorem own2_fin {σ : St} {ρ2 : Rho} {L : List En} {H2 : Hp} {o o2 : O} {v u : V} {Q : VK} (h2 : Here X.K σ ρ2 (oen u o2 ++ (oen v o ++ L)) H2) (c1 : OIs σ v o) (c2 : OIs σ u o2) (q : PstE X.K X.mg W σ L (opt (look ρ2 o) fun d => if isO c d then callK 2 mf [o, o2] ρ2 else .stuck) Q) :
    ∃ a C dx fs, v = .ref a ∧ ClsAt X.K c C ∧ H2 a = some (.ins C dx fs) ∧ spF 2 X.K X.mg mf [v, u] H2 Q (fun cls d H' => W.w cls d σ H') := by
  obtain ⟨d, e1, q1⟩ := Pst.opt q
  clear q
  split at q1
  case isFalse => exact q1.elim
  rename_i hd
  obtain ⟨ns, ds, rfl⟩ := isO_obj hd
  obtain ⟨a, C, dx, fs, rfl, hc, ha, hn⟩ := obj_at (E := oen u o2 ++ oen v o) (by rw [List.append_assoc]; exact h2) c1 (fun _ h => List.mem_append_right _ h) e1
  exact ⟨a, C, dx, fs, rfl, hc, ha, own2_call h2 c1 c2 q1⟩
theorem both_fin {σ : St} {ρ2 : Rho} {L : List En} {H2 : Hp} {o o2 : O} {v u : V} {Q : VK} (h2 : Here X.K σ ρ2 (oen u o2 ++ (oen v o ++ L)) H2) (c1 : OIs σ v o) (c2 : OIs σ u o2) (q : PstE X.K X.mg W σ L (opt (look ρ2 o) fun d => opt (look ρ2 o2) fun d2 => if isO c d && isO c d2 then callK 2 mf [o, o2] ρ2 else .stuck) Q) :
    ∃ a b C dx fs dy gs, v = .ref a ∧ u = .ref b ∧ ClsAt X.K c C ∧ H2 a = some (.ins C dx fs) ∧ H2 b = some (.ins C dy gs) ∧ spF 2 X.K X.mg mf [v, u] H2 Q (fun cls d H' => W.w cls d σ H') := by
  obtain ⟨d, e1, q1⟩ := Pst.opt q
  obtain ⟨d2, e2, q2⟩ := Pst.opt q1
  clear q q1
  split at q2
  case isFalse => exact q2.elim
  rename_i hd
  rw [Bool.and_eq_true] at hd
  obtain ⟨ns, ds, rfl⟩ := isO_obj hd.1
  obtain ⟨ns2, ds2, rfl⟩ := isO_obj hd.2
  obtain ⟨a, C, dx, fs, rfl, hc, ha, hn⟩ := obj_at (E := oen u o2 ++ oen v o) (by rw [List.append_assoc]; exact h2) c1 (fun _ h => List.mem_append_right _ h) e1
  obtain ⟨b, C', dy, gs, rfl, hc', hb, hn'⟩ := obj_at (E := oen u o2 ++ oen (.ref a) o) (by rw [List.append_assoc]; exact h2) c2 (fun _ h => List.mem_append_left _ h) e2
  cases hc.fn hc'
  exact ⟨a, b, C, dx, fs, dy, gs, rfl, rfl, hc, ha, hb, own2_call h2 c1 c2 q2⟩
/-- a binary operator by an own method -/
theorem se_binO {A : Around} {op : Operator} (M : OwnS X.prog X.w X.K X.mg X.base k c (PySem.dunder op.info.2) 2 mf) (hr : Room k A) (tk : Takes X W.w) (ha : SE X W a ma) (hb : SE X W b mb) (hA : X.A = A := by rfl) :
    SE X W (.BinOp a op b pos) (mBoth c mf ma mb) := by
  subst hA
  obtain ⟨C, f, hC, hs, hf, _, hc, F⟩ := M.ex
  refine ⟨fun pins s σ H Q I ⟨ρ, L, cc, hh, h⟩ => ?_⟩
  refine wpAny_BinOp (L2.binT (R := fun x y H2 => ∃ a b C dx fs dy gs, x = .ref a ∧ y = .ref b ∧ ClsAt X.K c C ∧ H2 a = some (.ins C dx fs) ∧ H2 b = some (.ins C dy gs) ∧ spF 2 X.K X.mg mf [x, y] H2 Q (fun cls d H' => W.w cls d σ H')) ha hb I ?_ fun v u s2 x y H2 I2 rx ry q => ?_)
  · refine thn cc [] hh h fun o1 x ρ1 H1 h1 c1 q => ?_
    exact thn cc (oen x o1) h1 q fun o2 y ρ2 H2 h2 c2 q => both_fin h2 c1 c2 q
  · obtain ⟨a, b, C', dx, fs, dy, gs, rfl, rfl, hc', ea, eb, q⟩ := q
    cases hC.fn hc'
    cases rx
    cases ry
    obtain ⟨mA, J, _⟩ := ins_get I2.hok ea
    obtain ⟨mB, J', _⟩ := ins_get I2.hok eb
    obtain ⟨od, J, _⟩ := J.look
    obtain ⟨od', J', _⟩ := J'.look
    obtain ⟨m0, hF⟩ := I2.fr
    refine PySem.W.binop_K hF I2.ok.mod.kin J J'.type hc hs hf ?_
    exact wpAny_mono (run_at (vs := [.ref a, .ref b]) F ⟨hr, rfl⟩ tk I2 (.cons rfl (.cons rfl .nil)) q) (fun _ _ z => EP.back z) fun _ _ z => z
/-- == by an own method -/
theorem se_eqO {A : Around} (M : OwnS X.prog X.w X.K X.mg X.base k c "__eq__" 2 mf) (hr : Room k A) (tk : Takes X W.w) (ha : SE X W a ma) (hb : SE X W b mb) (hA : X.A = A := by rfl) (hm : behindInMarks .Eq b = false := by rfl) :
    SE X W (.Compare a [.Eq] [b] pos) (mBoth c mf ma mb) := by
  subst hA
  obtain ⟨C, f, hC, hs, hf, _, hc, F⟩ := M.ex
  refine ⟨fun pins s σ H Q I ⟨ρ, L, cc, hh, h⟩ => ?_⟩
  refine wpAny_Compare1 (L2.binT (R := fun x y H2 => ∃ a b C dx fs dy gs, x = .ref a ∧ y = .ref b ∧ ClsAt X.K c C ∧ H2 a = some (.ins C dx fs) ∧ H2 b = some (.ins C dy gs) ∧ spF 2 X.K X.mg mf [x, y] H2 Q (fun cls d H' => W.w cls d σ H')) ha hb I ?_ fun v u s2 x y H2 I2 rx ry q => ?_) hm
  · refine thn cc [] hh h fun o1 x ρ1 H1 h1 c1 q => ?_
    exact thn cc (oen x o1) h1 q fun o2 y ρ2 H2 h2 c2 q => both_fin h2 c1 c2 q
  · obtain ⟨a, b, C', dx, fs, dy, gs, rfl, rfl, hc', ea, eb, q⟩ := q
    cases hC.fn hc'
    cases rx
    cases ry
    obtain ⟨mA, J, _⟩ := ins_get I2.hok ea
    obtain ⟨mB, J', _⟩ := ins_get I2.hok eb
    obtain ⟨od, J, _⟩ := J.look
    obtain ⟨od', J', _⟩ := J'.look
    obtain ⟨m0, hF⟩ := I2.fr
    show wpAny _ _ (richCompare .Eq _ _) _ _ _
    refine PySem.W.cmp_K (op := .Eq) (tb := .ref C) hr.units0 hF I2.ok.mod.kin J J'.type (by simp [PySem.W.notFirst]) hs hf ?_
    exact wpAny_mono (run_at (vs := [.ref a, .ref b]) F ⟨hr, rfl⟩ tk I2 (.cons rfl (.cons rfl .nil)) q) (fun _ _ z => EP.back z) fun _ _ z => z
/-- o[i] by an own method -/
theorem se_ixO {A : Around} (M : OwnS X.prog X.w X.K X.mg X.base k c "__getitem__" 2 mf) (hr : Room (k + 1) A) (tk : Takes X W.w) (ha : SE X W a ma) (hb : SE X W b mb) (hA : X.A = A := by rfl)
    (hsl : ∀ x i, subscripted b true x i = runValue (.builtin "lifetime.subscript" ⟨[x, i], []⟩) := by intro _ _; with_unfolding_all rfl) :
    SE X W (.Subscript a b pos) (mOwn2 c mf ma mb) := by
  subst hA
  obtain ⟨C, f, hC, hs, hf, hfn, hc, F⟩ := M.ex
  refine ⟨fun pins s σ H Q I ⟨ρ, L, cc, hh, h⟩ => ?_⟩
  refine PyProof.Rows.Subscript_ (L2.binT (R := fun x y H2 => ∃ a C dx fs, x = .ref a ∧ ClsAt X.K c C ∧ H2 a = some (.ins C dx fs) ∧ spF 2 X.K X.mg mf [x, y] H2 Q (fun cls d H' => W.w cls d σ H')) ha hb I ?_ fun v u s2 x y H2 I2 rx ry q => ?_)
  · refine thn cc [] hh h fun o1 x ρ1 H1 h1 c1 q => ?_
    exact thn cc (oen x o1) h1 q fun o2 y ρ2 H2 h2 c2 q => own2_fin h2 c1 c2 q
  · obtain ⟨a', C', dx, fs, rfl, hc', ea, q⟩ := q
    cases hC.fn hc'
    cases rx
    obtain ⟨mA, J, _⟩ := ins_get I2.hok ea
    obtain ⟨od, J, _⟩ := J.look
    obtain ⟨m0, hF⟩ := I2.fr
    refine PySem.W.sub_K hF I2.ok.mod.kin J hs hfn hf ?_ (hsl _ _)
    exact run_at (vs := [.ref a', y]) F (L2.Sub.in1 ⟨hr, rfl⟩) tk I2 (.cons rfl (.cons ry .nil)) q
end
end LL

set_option Elab.async false
set_option linter.all false
set_option maxRecDepth 100000
set_option maxHeartbeats 1000000
/-! LayX: !=, len, in, properties, static methods, isinstance. -/
namespace PySem.W
open PySem PySem.Calls PyProof.Rows Builtin
section
variable {prog : Program} {w : World} {A : Around} {E : Value → Shared → Prop} {s : Shared} {K : Frag} {x y C L f : Addr} {h₀ : Heap} {m : Str → Option Value} {ox : Obj} {od : Option Obj}
theorem neEntry_K {Q : Fin → Shared → Prop} (hu : A.units < cLine) (X : K.In s.heap) (I : InstAt s.heap x ox C od) (hs : findIn K (.ref C) "__eq__" = some (some (.ref f))) (hf : isFn K (.ref f) = true)
    (h : wpAny (model prog w) A (call (.ref f) [.ref x, .ref y]) (fun v s' => ∃ b, v = .bool b ∧ Q (.done (.ret (.bool (!b)))) s') E s) :
    wpAny (model prog w) A (Builtin.«object.__ne__» ⟨[.ref x, .ref y], []⟩) Q E s := by
  unfold Builtin.«object.__ne__»
  repeat (first
    | with_reducible refine wpAny_cRoomFor hu ?_
    | (refine wpAny_bind (m := callSpecialIfBound? (.ref x) (Str.ofString "__eq__") [.ref y])
        (ifBound_K X I hs hf (wpAny_mono h (fun r s' hr => by
          obtain ⟨b, rfl, hq⟩ := hr
          repeat (first | exact hq | exact wpAny_pure hq | exact wpAny_truthy_bool hq | (refine wpAny_bind (m := truthy (.bool _)) (wpAny_truthy_bool ?_)) | wp_step)) fun _ _ e => e)))
    | wp_step)
theorem ne_K {Q : Value → Shared → Prop} (hu : A.units + 1 < cLine) (F : Fr h₀ L s.heap m) (X₀ : K.In h₀) (I : InstAt s.heap x ox C od) (hb : Looks (model prog w) s.heap (typeOf (.ref y)) (.ref C))
    (hn : findIn K (.ref C) "__ne__" = some (some (.builtin "object.__ne__"))) (ho : subIn K (.ref C) (.type "object") = some true)
    (hs : findIn K (.ref C) "__eq__" = some (some (.ref f))) (hf : isFn K (.ref f) = true)
    (h : wpAny (model prog w) A.in1 (call (.ref f) [.ref x, .ref y]) (fun v s' => ∃ b, v = .bool b ∧ Q (.bool (!b)) s') E s) : wpAny (model prog w) A (richCompare .NotEq (.ref x) (.ref y)) Q E s := by
  have X := X₀.keeps F.keep
  have S := PySem.F.cmp_object.ne
  have inner : wpAny (model prog w) A (call (.builtin "object.__ne__") [.ref x, .ref y]) (fun v s' => ∃ b, v = .bool b ∧ Q v s') E s := by
    refine wpAny_call (codeAny_call_builtin S.plain PySem.F.cmpEntry_ne ?_)
    simp only [checkBuiltinCall, PySem.F.cmpKind_ne, PySem.F.cmpSplit_ne]
    refine wpAny_bind ?_
    unfold isInstance
    refine wpAny_bind (I.type.here ((looks_subIn X ho).here ?_))
    have ha := PySem.F.cmpArgs_ne (.ref x) (.ref y)
    have ent : wpAny (model prog w) A.in1 (Builtin.«object.__ne__» ⟨[.ref x, .ref y], []⟩) (fun fin s' => match fin with | .done f => wants (fun v s' => ∃ b, v = .bool b ∧ Q v s') E (.ok f) s' | .again c' => c'.quiet = true ∧ codeAny (model prog w) A c' (wants (fun v s' => ∃ b, v = .bool b ∧ Q v s') E) s') (fun e s' => wants (fun v s' => ∃ b, v = .bool b ∧ Q v s') E (.error e) s') s :=
      neEntry_K (A := A.in1) hu X I hs hf (wpAny_mono h (fun v s' ⟨b, e, q⟩ => ⟨b, e, _, rfl, q⟩) fun _ _ z => z)
    simp only [Bool.not_true, Bool.false_eq_true, if_false]
    cases hsig : Manifest.signature? "object.__ne__" with
    | none => exact wpAny_pure ent
    | some sig =>
      simp only [argsOk, hsig] at ha
      have h2 : Bind.checkArgs "object.__ne__" sig ⟨[.ref x, .ref y], []⟩ = pure () := ha
      show wpAny _ _ (Bind.checkArgs "object.__ne__" sig ⟨[.ref x, .ref y], []⟩) _ _ _
      rw [h2]
      exact wpAny_pure ent
  have one : wpAny (model prog w) A (tryCompare (.ref x) (cmpInfo .NotEq).2.1 (.ref y)) (fun r s' => ∃ v, r = some v ∧ Q v s') E s := by
    unfold tryCompare
    refine wpAny_bind ?_
    simp only [callSpecialIfBound?, bindSpecialIfBound?]
    refine wpAny_holding (wpAny_bind (wpAny_bind (wpAny_bind (I.type.here ((looks_findIn X hn).here ?_)))))
    simp only [S.bind]
    refine wpAny_bind (wpAny_askSetting (wpAny_ite ?_))
    have fin : wpAny (model prog w) A (call (.builtin "object.__ne__") ([.ref x] ++ [.ref y]) >>= fun v => pure (some v)) (fun r s' => wpAny (model prog w) A (match r with | some .notImplemented => pure none | none => pure none | some z => pure (some z)) (fun r s' => ∃ v, r = some v ∧ Q v s') E s') E s :=
      wpAny_bind (wpAny_mono inner (fun v s' ⟨b, e, q⟩ => wpAny_pure (by subst e; exact wpAny_pure ⟨_, rfl, q⟩)) fun _ _ z => z)
    split
    · refine wpAny_bind (wpAny_pure (wpAny_pure ?_))
      exact fin
    · refine wpAny_tryCatch (wpAny_bind (wpAny_pure (wpAny_pure ?_)))
      exact fin
  unfold richCompare
  simp only [oneThing_ref]
  refine wpAny_holding (wpAny_bind (wpAny_cRoomFor (Nat.lt_of_succ_lt hu) ?_))
  refine wpAny_bind (I.type.here (wpAny_bind (hb.here ?_)))
  rw [show (Value.ref C != Value.ref C) = false from by simp]
  simp only [Bool.false_eq_true, if_false]
  refine wpAny_bind (wpAny_pure ?_)
  simp only [Bool.false_eq_true, if_false]
  refine wpAny_bind (wpAny_mono one (fun r s' z => ?_) fun _ _ e => e)
  obtain ⟨v, rfl, hq⟩ := z
  exact wpAny_pure hq
end
end PySem.W
namespace LL
open PySem L2
/-- a method that the language calls, its answer told back -/
def blK (g : Bool → Bool) : O → Rho → Res O
  | .tmp (.bl x) _, ρ => .ok (.tmp (.bl (g x)) false) ρ
  | _, _ => .stuck
def mNe (c : Str) (mf : FM) (ma mb : EE) : EE := fun ρ => (mBoth c mf ma mb ρ).bind (blK fun x => !x)
def mLenO (c : Str) (mf : FM) (mo : EE) : EE := fun ρ => (mOwn1 c mf mo ρ).bind fun o ρ1 => match o with
  | .tmp (.int x) _ => if 0 ≤ x ∧ x < 2 ^ 63 then .ok (.tmp (.int x) false) ρ1 else .stuck
  | _ => .stuck
/-- a in o, by the own method of o -/
def mInO (c : Str) (neg : Bool) (mf : FM) (ma mb : EE) : EE := fun ρ => (ma ρ).bind fun o ρ1 => (mb ρ1).bind fun o2 ρ2 => opt (look ρ2 o2) fun d => if isO c d then (callK 2 mf [o2, o] ρ2).bind (blK fun x => if neg then !x else x) else .stuck
def mIsC (c : Str) (mo : EE) : EE := fun ρ => (mo ρ).bind fun o ρ1 => opt (look ρ1 o) fun d => if isO c d then .ok (.tmp (.bl true) false) ρ1 else .stuck
section
variable {X : Cx} {W : WF} {I : List Nat} {e o a b : Expr} {es : List Expr} {m mo ma mb : EE} {ms : EA} {mf : FM} {k n i : Nat} {c x mn fn : Str} {pos apos p2 p3 : Pos}
theorem bl_back {K : PySem.W.Frag} {mg : Str → Option Value} {σ : St} {L : List En} {g : Bool → Bool} {o1 : O} {v : V} {ρ1 : Rho} {H : Hp} {Q : VK} (hh : Here K σ ρ1 (oen v o1 ++ L) H)
    (q : PstE K mg W σ L (blK g o1 ρ1) Q) : ∃ x, v = .bl x ∧ Q (.bl (g x)) H := by
  cases o1 with
  | slt j => exact q.elim
  | tmp d f =>
    cases d with
    | bl x =>
      have hv : v = .bl x := hh.rep.bl (f := f) (by simp [oen])
      exact ⟨x, hv, q (.bl (g x)) H (here_scal hh.drop fun _ => rfl) trivial⟩
    | _ => exact q.elim
theorem se_neO {A : Around} (M : OwnS X.prog X.w X.K X.mg X.base k c "__eq__" 2 mf) (N : ∀ C, ClsAt X.K c C → PySem.W.findIn X.K (.ref C) "__ne__" = some (some (.builtin "object.__ne__")) ∧ PySem.W.subIn X.K (.ref C) (.type "object") = some true) (hr : Room (k + 1) A) (tk : Takes X W.w) (ha : SE X W a ma) (hb : SE X W b mb) (hA : X.A = A := by rfl) (hm : behindInMarks .NotEq b = false := by rfl) :
    SE X W (.Compare a [.NotEq] [b] pos) (mNe c mf ma mb) := by
  subst hA
  obtain ⟨C, f, hC, hs, hf, _, hc, F⟩ := M.ex
  obtain ⟨n1, n2⟩ := N C hC
  refine ⟨fun pins s σ H Q I ⟨ρ, L, cc, hh, h⟩ => ?_⟩
  refine wpAny_Compare1 (L2.binT (R := fun x y H2 => ∃ a b C dx fs dy gs, x = .ref a ∧ y = .ref b ∧ ClsAt X.K c C ∧ H2 a = some (.ins C dx fs) ∧ H2 b = some (.ins C dy gs) ∧ spF 2 X.K X.mg mf [x, y] H2 (fun v H' => ∃ x, v = .bl x ∧ Q (.bl (!x)) H') (fun cls d H' => W.w cls d σ H')) ha hb I ?_ fun v u s2 x y H2 I2 rx ry q => ?_) hm
  · have h : PstE X.K X.mg W σ L ((mBoth c mf ma mb ρ).bind _) Q := h
    have h := Pst.cut (en := fun o v => oen v o) (co := fun σ o v => OIs σ v o) h
    refine thn cc [] hh h fun o1 x ρ1 H1 h1 c1 q => ?_
    refine thn cc (oen x o1) h1 q fun o2 y ρ2 H2 h2 c2 q => ?_
    obtain ⟨a, b, C, dx, fs, dy, gs, e1, e2, e3, e4, e5, as, L', a1, a2, a3, a4⟩ := both_fin h2 c1 c2 q
    refine ⟨a, b, C, dx, fs, dy, gs, e1, e2, e3, e4, e5, as, L', a1, a2, a3, ?_⟩
    cases e6 : mf as with
    | stuck => rw [e6] at a4; exact a4.elim
    | ex x outs => rw [e6] at a4; exact a4
    | ok d f outs =>
      rw [e6] at a4
      intro v H' R
      obtain ⟨o3, ρ3, h3, c3, q3⟩ := a4 v H' R
      exact bl_back (g := fun x => !x) h3 q3
  · obtain ⟨a, b, C', dx, fs, dy, gs, rfl, rfl, hc', ea, eb, q⟩ := q
    cases hC.fn hc'
    cases rx
    cases ry
    obtain ⟨mA, J, _⟩ := ins_get I2.hok ea
    obtain ⟨mB, J', _⟩ := ins_get I2.hok eb
    obtain ⟨od, J, _⟩ := J.look
    obtain ⟨od', J', _⟩ := J'.look
    obtain ⟨m0, hF⟩ := I2.fr
    show wpAny _ _ (richCompare .NotEq _ _) _ _ _
    refine PySem.W.ne_K (f := f) hr.in1.units0 hF I2.ok.mod.kin J J'.type n1 n2 hs hf ?_
    refine wpAny_mono (run_at (vs := [.ref a, .ref b]) F (L2.Sub.in1 ⟨hr, rfl⟩) tk I2 (.cons rfl (.cons rfl .nil)) q) (fun u s' z => ?_) fun _ _ z => z
    obtain ⟨v, H', I', r, x, rfl, q'⟩ := z
    cases r
    exact ⟨x, rfl, .bl (!x), H', I', rfl, q'⟩
theorem cut_sp {σ : St} {L : List En} {Q : VK} {vs : List V} {H : Hp} {kk : O → Rho → Res O} {P : VK} (z : spF n X.K X.mg mf vs H (fun b H => ∃ a ρ', Here X.K σ ρ' (oen b a ++ L) H ∧ OIs σ b a ∧ PstE X.K X.mg W σ L (kk a ρ') Q) (fun cls d H' => W.w cls d σ H'))
    (hk : ∀ a b ρ' H, Here X.K σ ρ' (oen b a ++ L) H → OIs σ b a → PstE X.K X.mg W σ L (kk a ρ') Q → P b H) : spF n X.K X.mg mf vs H P (fun cls d H' => W.w cls d σ H') := by
  obtain ⟨as, L', a1, a2, a3, a4⟩ := z
  refine ⟨as, L', a1, a2, a3, ?_⟩
  cases e6 : mf as with
  | stuck => rw [e6] at a4; exact a4.elim
  | ex x outs => rw [e6] at a4; exact a4
  | ok d f outs =>
    rw [e6] at a4
    intro v H' R
    obtain ⟨o3, ρ3, h3, c3, q3⟩ := a4 v H' R
    exact hk o3 v ρ3 H' h3 c3 q3
theorem se_lenO {A : Around} (M : OwnS X.prog X.w X.K X.mg X.base k c "__len__" 1 mf) (hm : X.mg "len" = none) (hr : Room (k + 1) A) (tk : Takes X W.w) (ho : SE X W o mo) (hA : X.A = A := by rfl) (hg : Gl X "len" := by rfl)
    (he : starEach [o] X.env = (false, eval o X.env) :: starEach [] X.env := by rfl) (hpl : (backTo pos (starEach [] X.env)).any (·.1) = false := by rfl) : SE X W (.Call (.Name "len" p2) [o] [] pos) (mLenO c mf mo) := by
  subst hA
  obtain ⟨C, f, hC, hs, hf, _, hc, F⟩ := M.ex
  have ha : SA X W [o] (mCons mo mNil) := sa_cons ho sa_nil he
  refine ⟨fun pins s σ H Q I ⟨ρ, L, cc, hh, h⟩ => ?_⟩
  refine wpAny_Call_Name_kw (ld_blt I hg hm PySem.boot_len ?_ (by decide) (by decide))
  refine PyProof.Rows.callWith_builtin1 (L2.thn (ha.run pos pins s σ H (fun vs H1 => ∃ a C dx fs, vs = [.ref a] ∧ ClsAt X.K c C ∧ H1 a = some (.ins C dx fs) ∧ spF 1 X.K X.mg mf vs H1 (fun v H' => ∃ x, v = .int x ∧ (0 ≤ x ∧ x < 2 ^ 63) ∧ Q (.int x) H') (fun cls d H' => W.w cls d σ H')) I ?_) fun us s1 ⟨vs, H1, I1, r1, a, C', dx, fs, e1, hc', ea, q⟩ => ?_) he hpl
  · have h : PstE X.K X.mg W σ L ((mOwn1 c mf mo ρ).bind _) Q := h
    have h := Pst.cut (en := fun o v => oen v o) (co := fun σ o v => OIs σ v o) h
    refine ⟨ρ, L, cc, hh, ?_⟩
    unfold mCons mOwn1 at *
    cases e0 : mo ρ with
    | stuck => rw [e0] at h; exact h.elim
    | ex x ρ1 => rw [e0] at h; exact h
    | ok o1 ρ1 =>
      rw [e0] at h
      intro vs H1 h1 c1
      match vs, c1 with
      | [v], c1 =>
        have h1 : Here X.K σ ρ1 (oen v o1 ++ L) H1 := h1.perm (by
          show ((oen v o1 ++ []) ++ L).Perm (oen v o1 ++ L)
          rw [List.append_nil])
        obtain ⟨a, C, dx, fs, rfl, e3, e4, z⟩ := own1_fin h1 c1.1 h
        refine ⟨a, C, dx, fs, rfl, e3, e4, cut_sp z fun o3 v ρ3 H3 h3 c3 q3 => ?_⟩
        cases o3 with
        | slt j => exact q3.elim
        | tmp d fl =>
          cases d with
          | int x =>
            dsimp only at q3
            split at q3
            case isFalse => exact q3.elim
            rename_i hx
            have hv : v = .int x := h3.rep.int (f := fl) (by simp [oen])
            exact ⟨x, hv, hx, q3 (.int x) H3 (here_scal h3.drop fun _ => rfl) trivial⟩
          | _ => exact q3.elim
  · subst e1
    obtain ⟨u, rfl, ru⟩ := r1.one
    cases hC.fn hc'
    cases ru
    obtain ⟨mA, J, _⟩ := ins_get I1.hok ea
    obtain ⟨od, J, _⟩ := J.look
    obtain ⟨m0, hF⟩ := I1.fr
    refine PySem.W.len_K hF I1.ok.mod.kin J hs hf ?_
    refine wpAny_mono (run_at (vs := [.ref a]) F (L2.Sub.in1 ⟨hr, rfl⟩) tk I1 (.cons rfl .nil) q) (fun u s' z => ?_) fun _ _ z => z
    obtain ⟨v, H', I', r, x, rfl, hx, q'⟩ := z
    obtain ⟨t, rfl⟩ := (show ∃ t, u = Value.int x t from r)
    exact ⟨hx, .int x, H', I'.tok _, ⟨_, rfl⟩, q'⟩
end
end LL

set_option Elab.async false
set_option linter.all false
set_option maxRecDepth 100000
set_option maxHeartbeats 1000000
/-! LayY: iterators of tuples: the end with the iterator still there; list(o) of an instance whose __iter__ is an iterator of a field. -/
namespace LL
open PySem L2
section
variable {prog : Program} {w : World} {A : Around} {E : Value → Shared → Prop} {s : Shared}
theorem ti_end {it t : Addr} {i : Nat} {items : Array Value} {Q : Option Value → Shared → Prop} (hh : A.handled = none) (hit : s.heap.IsTupleIter it t i) (ht : s.heap.IsTuple t items) (hx : items[i]? = none)
    (hQ : ∀ h', Heap.ExtBut it s.heap h' → (∃ o, h'.get? it = some o) → Q none { s with heap := h' }) : wpAny (model prog w) A (pyNext (.ref it)) Q E s := by
  have hT := hit.typeIs
  obtain ⟨o, ho, hc, hd⟩ := hit
  obtain ⟨ol, hol, _, nl, hdl⟩ := ht
  unfold pyNext
  refine wpAny_bind (wpAny_attempt (wpAny_callSpecial?_slot (name := Str.ofString "__next__") hT F.slot_tuple_iterator_next (wpAny_call_entry F.slot_tuple_iterator_next hT F.entry_tuple_iterator_next ?_ (F.args_tuple_iterator_next_1 _))))
  refine wpAny_bind (m := field (.ref it) 0) (wpAny_field ho hd (x := .ref t) rfl ?_)
  refine (if_neg (show ¬ ((Value.ref t == Value.none) = true) from Bool.false_ne_true)).symm ▸ ?_
  refine wpAny_bind (m := field (.ref it) 1) (wpAny_field ho hd (x := .int i 0) rfl ?_)
  refine wpAny_bind (m := seqItems? (.ref t)) (wpAny_seqItems hol hdl ?_)
  simp only [hx, Int.toNat_natCast]
  refine wpAny_bind (wpAny_rule (wpAny_bind (wpAny_setField ho hd (by simp) (wpAny_bind (m := newExc (.type "StopIteration") []) ?_))))
  simp only [newTuple, newExc]
  refine wpAny_bind (wpAny_newObj_type (wpAny_bind (m := firstArgMember _ _) (wpAny_of_eq (a := Value.none) (by first | rfl | (simp only [firstArgMember]; rfl)) (wpAny_newObj_type ?_ (by size_fits)))) (by size_fits))
  unfold raiseNew
  refine wpAny_bind (wpAny_handled ?_)
  rw [show A.in1.handled = none from hh]
  refine wpAny_bind (wpAny_pure (wpAny_throw ?_))
  refine wpAny_bind (wpAny_isInstance (b := true) (T := "StopIteration") ⟨_, Heap.get?_push_size _ rfl, rfl⟩ isSubtype_stop ?_)
  refine wpAny_pure (hQ _ (((Heap.SameBut.update ..).extBut.push _).push _) ⟨_, Heap.get?_push_of_some _ (Heap.get?_push_of_some _ (Heap.get?_update_self _ ho (Obj.isFreed_of_fields (Obj.data_mapFields hd _))))⟩)
end
/-- an iterator of the tuple at t, at its place i; one that is used up -/
def TiO (t it : Addr) (i : Nat) : HO := .ext fun h => h.IsTupleIter it t i
def TiE (it : Addr) : HO := .ext fun h => ∃ o, h.get? it = some o
theorem tiO_ok {P : Program} {w : World} {H : Hp} {h : Heap} {t it : Addr} {i : Nat} (e : h.IsTupleIter it t i) : ObjOk P w H h it (TiO t it i) := ⟨e, let ⟨o, ho, _⟩ := e; ⟨o, ho⟩, fun h1 h2 q k => q.at fun o e => k o e⟩
theorem tiE_ok {P : Program} {w : World} {H : Hp} {h : Heap} {it : Addr} (e : ∃ o, h.get? it = some o) : ObjOk P w H h it (TiE it) := ⟨e, e, fun h1 h2 q k => let ⟨o, ho⟩ := q; ⟨o, k o ho⟩⟩
/-- __iter__: an iterator of the field F -/
def spIt (K : PySem.W.Frag) (F : Str) : Sp := fun vs H Q _ => ∃ a C dx fs t ys, vs = [.ref a] ∧ H a = some (.ins C dx fs) ∧ Cls K C ∧ NoAttr K C F ∧ fs.lookup F = some (.ref t) ∧ SqT K H t ys ∧ ∀ it, H it = none → Q (.ref it) (upd H it (TiO t it 0))
/-- __len__: the length of the field F -/
def spLn (K : PySem.W.Frag) (F : Str) : Sp := fun vs H Q _ => ∃ a C dx fs t ys, vs = [.ref a] ∧ H a = some (.ins C dx fs) ∧ Cls K C ∧ NoAttr K C F ∧ fs.lookup F = some (.ref t) ∧ SqT K H t ys ∧ Q (.int ys.length) H
section
variable {X : Cx} {pins : List (Addr × Obj)} {σ : St} {H : Hp} {s : Shared}
theorem call_iterT : CallR X (.builtin "iter") (fun xs H Q => ∃ t ys, xs = [.ref t] ∧ SqT X.K H t ys ∧ ∀ it, H it = none → Q (.ref it) (upd H it (TiO t it 0))) := fun pins s σ H xs us Q I r ⟨t, ys, ex, hq, q⟩ => by
  subst ex
  obtain ⟨u, rfl, ru⟩ := vals1 r
  cases ru
  obtain ⟨its, rv, p, hz⟩ := I.tuple hq
  refine Calls.call_function_entry (by decide +kernel) (by decide +kernel) PySem.W.kdk_entry_iter (PySem.W.kdk_args_iter _) ?_
  unfold Builtin.«iter»
  refine wpAny_bind (m := someArgs "iter" 1 2 _) (wpAny_of_eq (a := [Value.ref t]) (by first | rfl | kernel_rfl!) (wpAny_bind (m := pyIter (.ref t)) ?_))
  refine wpAny_pyIter_tuple (show s.heap.IsTuple t its.toArray from p) (wpAny_pure ⟨_, rfl, ?_⟩)
  refine ⟨.ref s.heap.objs.size, _, I.laid (t' := s.toks) (fun b u e => Heap.get?_push_of_some _ e) (Nat.le_refl _) (tiO_ok ⟨_, Heap.get?_push_size _ rfl, rfl, rfl⟩), rfl, q _ (I.hok.fresh (Nat.le_refl _))⟩
end
section
variable {P : Program} {w : World} {K : PySem.W.Frag} {mg : Str → Option Value} {base : Heap} {x qual F : Str} {st : Stmt} {f : Addr} {fd : FuncData} {N : List Str} {k : Nat} {p0 p1 p2 p3 p4 : Pos}
theorem fn_itF (Fn : Fun K x qual st f fd) (S : FnScope N ["self"] (defScope st)) (hN : N[0]? = some ("self" : Str)) (hb : defBody st = [.Return (some (.Call (.Name "iter" p0) [.Attribute (.Name "self" p1) F p2] [] p3)) p4]) (hm : mg "iter" = none)
    (hg : ∀ (cdv : Value) (A : Around) (outer : List Env) (s : Shared) (H : Hp) (E : XK), Gl (cxOf (L2.CX P w) P w K mg base N qual (defScope st) f cdv A outer s H E) "iter") : FnOk P w K mg base (L2.CX P w) (k + 1) f fd ["self"] (spIt K F) := by
  refine Fn.okX S (fun vs H Q E h => by obtain ⟨a, C, dx, fs, t, ys, e, _⟩ := h; rw [e]; rfl) fun cdv A outer s H vs Q E hr h => ?_
  obtain ⟨a, C, dx, fs, t, ys, e, ea, c, n, l, hq, q⟩ := h
  subst e
  rw [hb]
  refine ⟨_, pss_one (ps_ret (pe_callB call_iterT (hg cdv A outer s H E) hm (by decide +kernel) (pa_cons (pe_fld (pe_var (i := 0) hN ((S.par "self" (List.Mem.head _)).elim (fun z => .inl z) (fun z => .inr (.inl z)))) rfl) pa_nil))), ?_⟩
  exact ⟨.ref a, rfl, a, C, dx, fs, .ref t, rfl, ea, c, n, l, t, ys, rfl, hq, q⟩
theorem fn_lnF (Fn : Fun K x qual st f fd) (S : FnScope N ["self"] (defScope st)) (hN : N[0]? = some ("self" : Str)) (hb : defBody st = [.Return (some (.Call (.Name "len" p0) [.Attribute (.Name "self" p1) F p2] [] p3)) p4]) (hm : mg "len" = none)
    (hg : ∀ (cdv : Value) (A : Around) (outer : List Env) (s : Shared) (H : Hp) (E : XK), Gl (cxOf (L2.CX P w) P w K mg base N qual (defScope st) f cdv A outer s H E) "len") : FnOk P w K mg base (L2.CX P w) (k + 1) f fd ["self"] (spLn K F) := by
  refine Fn.okX S (fun vs H Q E h => by obtain ⟨a, C, dx, fs, t, ys, e, _⟩ := h; rw [e]; rfl) fun cdv A outer s H vs Q E hr h => ?_
  obtain ⟨a, C, dx, fs, t, ys, e, ea, c, n, l, hq, q⟩ := h
  subst e
  rw [hb]
  refine ⟨_, pss_one (ps_ret (pe_callB call_len_seq (hg cdv A outer s H E) hm PySem.boot_len (pa_cons (pe_fld (pe_var (i := 0) hN ((S.par "self" (List.Mem.head _)).elim (fun z => .inl z) (fun z => .inr (.inl z)))) rfl) pa_nil))), ?_⟩
  exact ⟨.ref a, rfl, a, C, dx, fs, .ref t, rfl, ea, c, n, l, t, ys, rfl, .inr hq, q⟩
end
theorem upd_comm {H : Hp} {a b : Addr} {o u : HO} (h : a ≠ b) : upd (upd H a o) b u = upd (upd H b u) a o := by
  funext c
  by_cases h1 : c = a
  · subst h1
    rw [upd_ne h, upd_same, upd_same]
  · by_cases h2 : c = b
    · subst h2
      rw [upd_same, upd_ne h1, upd_same]
    · rw [upd_ne h2, upd_ne h1, upd_ne h1, upd_ne h2]
/-- the class c: __iter__ is an iterator of the field F, __len__ its length -/
structure ItrS (P : Program) (w : World) (K : PySem.W.Frag) (mg : Str → Option Value) (base : Heap) (k : Nat) (c F : Str) : Prop where
  ex : ∃ (C fi fl : Addr) (di dl : FuncData), ClsAt K c C ∧ Cls K C ∧ NoAttr K C F ∧ PySem.W.findIn K (.ref C) "__iter__" = some (some (.ref fi)) ∧ PySem.W.isFn K (.ref fi) = true ∧ PySem.W.findIn K (.ref C) "__len__" = some (some (.ref fl)) ∧ PySem.W.isFn K (.ref fl) = true ∧
    Binds K di ["self"] [] ∧ Binds K dl ["self"] [] ∧ FnOk P w K mg base (L2.CX P w) k fi di ["self"] (spIt K F) ∧ FnOk P w K mg base (L2.CX P w) k fl dl ["self"] (spLn K F)
section
variable {X : Cx} {pins : List (Addr × Obj)} {σ : St} {H : Hp} {s : Shared} {A1 : Around} {k n : Nat} {f : Addr} {fd : FuncData} {sp : Sp} {Q : VK}
/-- a def runs that raises nothing -/
theorem run_no (F : FnOk X.prog X.w X.K X.mg X.base (L2.CX X.prog X.w) k f fd ["self"] sp) (hb : Binds X.K fd ["self"] []) (sb : L2.Sub X k A1) (I : Inv X pins σ H s) {a : Addr} {E : Value → Shared → Prop} (h : sp [.ref a] H Q (fun _ _ _ => False)) :
    wpAny (model X.prog X.w) A1 (call (.ref f) [.ref a]) (L2.EP X pins σ Q) E s := by
  have e0 : Env0 X.prog X.w X.K X.mg X.base A1 X.stack s H := by
    have e := I.env0
    exact ⟨by rw [sb.fr]; exact e.frames, e.mod, e.bs, e.bsz, e.funs, e.frf, e.hok, e.bare⟩
  have r : Vals [V.ref a] [Value.ref a] := .cons rfl .nil
  refine wpAny_call (codeAny_mono (F.run A1 X.stack s H ⟨[.ref a], []⟩ [.ref a] [.ref a] Q _ sb.room e0 (by
    have := hb s [.ref a] I.kIn rfl
    simpa using this) r h) fun r s' hq => ?_)
  cases r with
  | error e =>
    obtain ⟨a1, B, H1, cls1, d1, e1, fl, hok, ub, na, os, ag, z⟩ := hq
    exact z.elim
  | ok fl =>
    cases fl with
    | ret u => exact I.after hq
    | next => exact False.elim hq
    | brk => exact False.elim hq
    | cont => exact False.elim hq
theorem ti_loop {H0 : Hp} {t it q : Addr} {ys : List V} {Rs : Result → Shared → Prop} (hc : X.calm = true) (hA : A1.handled = X.A.handled) (h0i : H0 it = none) (h0q : H0 q = none) (hne : it ≠ q) (ht : SqT X.K H0 t ys) (hz : ys.length ≤ sizeLine)
    (hdone : ∀ s, Inv X pins σ (upd (upd H0 it (TiE it)) q (.lst ys)) s → Rs (.ok (.ret .none)) s) :
    ∀ (m i : Nat) (s : Shared), ys.length - i = m → i ≤ ys.length → Inv X pins σ (upd (upd H0 it (TiO t it i)) q (.lst (ys.take i))) s → codeAny (model X.prog X.w) A1 (.builtin "list.extend.loop" ⟨[.ref q, .ref it, .none], []⟩) Rs s := by
  intro m
  induction m with
  | zero =>
    intro i s hm hi I
    have ei : i = ys.length := by omega
    subst ei
    refine codeAny_builtin PySem.F.entry_extend_loop ?_
    rw [Around.under_plainId PySem.F.plain_extend_loop _]
    refine wpAny_bind (m := pyNext (.ref it)) ?_
    have e1 : upd (upd H0 it (TiO t it ys.length)) q (.lst (ys.take ys.length)) it = some (TiO t it ys.length) := by rw [upd_ne hne, upd_same]
    have st : s.heap.IsTupleIter it t ys.length := (I.hok it _ e1).1
    have hq : SqT X.K (upd (upd H0 it (TiO t it ys.length)) q (.lst (ys.take ys.length))) t ys := SqT.ext ht ((Ext.upd h0i).upd' (by rw [upd_ne (fun z => hne z.symm)]; exact h0q))
    obtain ⟨its, rv, p, _⟩ := I.tuple hq
    have hl := rv.length
    refine ti_end (A := A1.in1) (hA.trans (I.ok.hd hc)) st (show s.heap.IsTuple t its.toArray from p) (by simp; omega) fun h' eb ex => wpAny_pure (hdone _ ?_)
    have I2 := I.write (x := it) (e := it) (o := TiE it) (t' := s.toks) (by rw [e1]; exact True.intro) (.inl rfl) (fun b o hb e => eb b o hb e) ex (tiE_ok ex)
    rw [List.take_length, upd_comm (fun z => hne z.symm), upd_upd] at I2
    exact I2
  | succ m ih =>
    intro i s hm hi I
    have hlt : i < ys.length := by omega
    refine codeAny_builtin PySem.F.entry_extend_loop ?_
    rw [Around.under_plainId PySem.F.plain_extend_loop _]
    refine wpAny_bind (m := pyNext (.ref it)) ?_
    have e1 : upd (upd H0 it (TiO t it i)) q (.lst (ys.take i)) it = some (TiO t it i) := by rw [upd_ne hne, upd_same]
    have st : s.heap.IsTupleIter it t i := (I.hok it _ e1).1
    have hq : SqT X.K (upd (upd H0 it (TiO t it i)) q (.lst (ys.take i))) t ys := SqT.ext ht ((Ext.upd h0i).upd' (by rw [upd_ne (fun z => hne z.symm)]; exact h0q))
    obtain ⟨its, rv, p, _⟩ := I.tuple hq
    obtain ⟨u, hu, ru⟩ := rv.get (List.getElem?_eq_getElem hlt)
    refine wpAny_pyNext_tuple_item st (show s.heap.IsTuple t its.toArray from p) (x := u) (by simpa using hu) fun h' st' sb => ?_
    have I2 := I.write (x := it) (e := it) (o := TiO t it (i + 1)) (t' := s.toks) (by rw [e1]; exact True.intro) (.inl rfl) (fun b o hb e => (sb.2 b hb).trans e) (let ⟨o, ho, _⟩ := st'; ⟨o, ho⟩) (tiO_ok st')
    rw [upd_comm (fun z => hne z.symm), upd_upd] at I2
    obtain ⟨z, its2, k2, r2, hl2, e2⟩ := I2.lstM upd_same
    refine wpAny_bind (m := updateSeq q (·.push u)) (wpAny_updateSeq e2 rfl (wpAny_pure ⟨plainId_quiet PySem.F.plain_extend_loop _, ?_⟩) (by rw [List.size_toArray]; omega) (by show (its2.toArray.push u).size ≤ sizeLine + 1; rw [Array.size_push, List.size_toArray]; omega))
    have I3 := I2.lset (f := (·.push u)) (its' := its2 ++ [u]) (ys := ys.take (i + 1)) (t' := s.toks) upd_same e2 (by simp) (by rw [List.take_add_one, List.getElem?_eq_getElem hlt]; exact r2.append (.cons ru .nil)) (by rw [List.length_take]; omega)
    rw [upd_upd] at I3
    exact ih (i + 1) _ (by omega) hlt I3
/-- the length is asked: an own __len__ -/
theorem ti_hint {C fl a dx t : Addr} {dl : FuncData} {fs : List (Str × V)} {F : Str} {ys : List V} {QB : Bool → Shared → Prop} {E : Value → Shared → Prop} (sb : L2.Sub X (k + 1) A1) (c : Cls X.K C) (nf : NoAttr X.K C F)
    (hs : PySem.W.findIn X.K (.ref C) "__len__" = some (some (.ref fl))) (hf : PySem.W.isFn X.K (.ref fl) = true) (bl : Binds X.K dl ["self"] []) (FL : FnOk X.prog X.w X.K X.mg X.base (L2.CX X.prog X.w) k fl dl ["self"] (spLn X.K F))
    (I : Inv X pins σ H s) (ea : H a = some (.ins C dx fs)) (l : fs.lookup F = some (.ref t)) (hq : SqT X.K H t ys) (h : ∀ b s', Inv X pins σ H s' → QB b s') :
    wpAny (model X.prog X.w) A1 (Builtin.List.listLengthHint (.ref a)) QB E s := by
  obtain ⟨mA, J, _⟩ := ins_get I.hok ea
  obtain ⟨od, J, _⟩ := J.look
  obtain ⟨m0, hF⟩ := I.fr
  unfold Builtin.List.listLengthHint
  refine wpAny_bind (wpAny_bind (J.type.here ((PySem.W.looks_findIn I.kIn hs).here ?_)))
  refine PySem.W.KFB.if_not rfl ?_
  refine (if_pos (show (some (Value.ref fl)).isSome = true from rfl)).symm ▸ ?_
  refine wpAny_bind (wpAny_rule (wpAny_bind (wpAny_attempt ?_)))
  obtain ⟨its, rv, p, hz⟩ := I.tuple hq
  have hz' : ys.length ≤ sizeLine := hz
  refine PySem.W.len_K hF I.ok.mod.kin J hs hf ?_
  refine wpAny_mono (run_no FL bl (L2.Sub.in1 sb) I (Q := fun v H' => v = .int ys.length ∧ H' = H) ⟨a, C, dx, fs, t, ys, rfl, ea, c, nf, l, hq, rfl, rfl⟩) (fun u s' z => ?_) fun _ _ z => z
  obtain ⟨v, H', I', r, rfl, rfl⟩ := z
  obtain ⟨tk, rfl⟩ := (show ∃ t, u = Value.int ys.length t from r)
  have hb : ys.length < 2 ^ 63 := Nat.lt_of_le_of_lt hz' (by rw [sizeLine_eq]; decide)
  refine ⟨⟨by omega, by exact_mod_cast hb⟩, ?_⟩
  refine wpAny_bind (m := asInt? (.int ys.length _)) (wpAny_pure ?_)
  have hn : Builtin.List.listTooLong ((ys.length : Int)).toNat = false := by
    unfold Builtin.List.listTooLong
    rw [Int.toNat_natCast]
    simpa using hz'
  dsimp only
  rw [hn]
  exact wpAny_pure (h _ _ (I'.tok _))
/-- list(o) -/
def rLstO (K : PySem.W.Frag) (c F : Str) : List V → Hp → VK → Prop := fun xs H Q => ∃ a C dx fs t ys, xs = [.ref a] ∧ ClsAt K c C ∧ H a = some (.ins C dx fs) ∧ fs.lookup F = some (.ref t) ∧ SqT K H t ys ∧ ∀ it q, H it = none → H q = none → it ≠ q → Q (.ref q) (upd (upd H it (TiE it)) q (.lst ys))
theorem call_lstO {c F : Str} (T : ItrS X.prog X.w X.K X.mg X.base k c F) (hc : X.calm = true) (hr : Room (k + 3) X.A) : CallR X (.type "list") (rLstO X.K c F) := by
  obtain ⟨C, fi, fl, di, dl, hC, cl, nf, hi, hif, hl, hlf, bi, bl, FI, FL⟩ := T.ex
  intro pins s σ H xs us Q I rv h
  obtain ⟨a, C', dx, fs, t, ys, rfl, hC', ea, l, ht, q⟩ := h
  cases hC.fn hC'
  obtain ⟨u, rfl, ru⟩ := rv.one
  cases ru
  have sb : L2.Sub X (k + 1) X.A.in1.in1 := (L2.Sub.in1 (L2.Sub.in1 (⟨hr, rfl⟩ : L2.Sub X (k + 3) X.A)))
  obtain ⟨its0, rv0, p0, hz⟩ := I.tuple ht
  have hz' : ys.length ≤ sizeLine := hz
  refine callType_codes (Q₁ := fun obj s₁ => obj = .ref s.heap.objs.size ∧ s₁ = { s with heap := s.heap.push { cls := .type "list", data := .seq #[] } }) PySem.F.called_list (PySem.F.typeCall_list_1 _) PySem.F.entry_list_init (code_list_new _ ⟨rfl, rfl⟩) fun obj s₁ h₁ => ?_
  obtain ⟨e1, e2⟩ := h₁
  subst e1
  subst e2
  have hS := Heap.get?_push_size s.heap (o := { cls := .type "list", data := .seq #[] }) rfl
  refine ⟨⟨_, hS, rfl⟩, PySem.F.args_list_init_2 _ _, ?_⟩
  have fr : H s.heap.objs.size = none := I.hok.fresh (Nat.le_refl _)
  have I1 : Inv X pins σ (upd H s.heap.objs.size (.lst [])) _ := I.lnew (its := []) (t' := s.toks) .nil (Nat.zero_le _)
  refine wpAny_bind (m := Builtin.List.listItems (.ref s.heap.objs.size)) (wpAny_bind (m := seqItems? (.ref s.heap.objs.size)) (wpAny_seqItems hS rfl (wpAny_pure ?_)))
  refine wpAny_bind (m := updateSeq s.heap.objs.size (fun _ => #[])) (wpAny_updateSeq hS rfl (wpAny_bind (m := letGo _) (wpAny_letGo ?_)))
  have I2 := I1.lset (f := fun _ => #[]) (its := []) (its' := []) (ys := []) (t' := s.toks) upd_same hS rfl .nil (Nat.zero_le _)
  rw [upd_upd] at I2
  have ea2 : upd H s.heap.objs.size (.lst []) a = some (.ins C dx fs) := by rw [upd_ne (ne_of_none ea fr)]; exact ea
  have hne : s.heap.objs.size ≠ a := fun z => ne_of_none ea fr z.symm
  obtain ⟨mA, J, _⟩ := ins_get I2.hok ea2
  obtain ⟨od, J, _⟩ := J.look
  obtain ⟨m0, hF⟩ := I2.fr
  unfold Builtin.List.listExtendWith
  refine wpAny_bind (J.type.here ?_)
  have h1 : Builtin.List.listSameRef (.ref s.heap.objs.size) (.ref a) = false := by simp [Builtin.List.listSameRef, hne]
  have h2 : (Value.ref C == Value.type "list") = false := rfl
  have h3 : (Value.ref C == Value.type "tuple") = false := rfl
  simp only [h1, h2, h3, Bool.or_false, Bool.false_eq_true, if_false]
  refine wpAny_bind (PySem.W.owit_iter hF I2.ok.mod.kin J hi hif ?_)
  have ht2 : SqT X.K (upd H s.heap.objs.size (.lst [])) t ys := SqT.ext ht (Ext.upd fr)
  refine wpAny_mono (run_no FI bi (sb.mono (Nat.le_succ _)) I2 (Q := fun v H' => ∃ it, upd H s.heap.objs.size (.lst []) it = none ∧ v = .ref it ∧ H' = upd (upd H s.heap.objs.size (.lst [])) it (TiO t it 0)) ⟨a, C, dx, fs, t, ys, rfl, ea2, cl, nf, l, ht2, fun it hit => ⟨it, hit, rfl, rfl⟩⟩) (fun u s' z => ?_) fun _ _ z => z
  obtain ⟨v, H', I', r, it, hit, rfl, rfl⟩ := z
  cases r
  have hiq : it ≠ s.heap.objs.size := fun z => by
    rw [z, upd_same] at hit
    cases hit
  have h0i : H it = none := by rw [upd_ne hiq] at hit; exact hit
  have st : s'.heap.IsTupleIter it t 0 := (I'.hok it _ upd_same).1
  refine wpAny_specialOf (name := Str.ofString "__next__") st.typeIs PySem.F.slot_tuple_iterator_next.lookup ?_
  have ea3 : upd (upd H s.heap.objs.size (.lst [])) it (TiO t it 0) a = some (.ins C dx fs) := by rw [upd_ne (ne_of_none ea h0i)]; exact ea2
  have ht3 := SqT.ext ht2 (Ext.upd (o := TiO t it 0) hit)
  refine wpAny_bind (wpAny_holding (ti_hint sb cl nf hl hlf bl FL I' ea3 l ht3 fun b s3 I3 => ?_))
  have eH : upd (upd H s.heap.objs.size (.lst [])) it (TiO t it 0) = upd (upd H it (TiO t it 0)) s.heap.objs.size (.lst (ys.take 0)) := upd_comm fun z => hiq z.symm
  rw [eH] at I3
  have go : ∀ s4, Inv X pins σ (upd (upd H it (TiO t it 0)) s.heap.objs.size (.lst (ys.take 0))) s4 → codeAny (model X.prog X.w) X.A.in1 (.builtin "list.extend.loop" ⟨[.ref s.heap.objs.size, .ref it, .none], []⟩) (wants (fun r s₂ => r = .none ∧ L2.EP X pins σ Q (.ref s.heap.objs.size) s₂) X.xe) s4 :=
    fun s4 I4 => ti_loop (A1 := X.A.in1) hc rfl h0i fr hiq ht hz' (fun s5 I5 => ⟨rfl, .ref s.heap.objs.size, _, I5, rfl, q it _ h0i fr hiq⟩) _ 0 s4 rfl (Nat.zero_le _) I4
  refine wpAny_ite_split (fun _ => ?_) (fun _ => wpAny_pure ⟨plainId_quiet PySem.F.plain_extend_loop _, go _ I3⟩)
  obtain ⟨z, its, kk, r3, hl3, e3⟩ := I3.lstM upd_same
  cases r3
  refine wpAny_bind (wpAny_rule (wpAny_bind (m := updateSeq s.heap.objs.size (·.push .none) >>= fun _ => updateSeq s.heap.objs.size (·.pop)) (wpAny_bind (wpAny_updateSeq e3 rfl ?_))))
  have J2 := I3.lset (f := (·.push Value.none)) (its' := [Value.none]) (ys := [.non]) (t' := s3.toks) upd_same e3 (by simp) (.cons rfl .nil) (by rw [List.length_singleton, sizeLine_eq]; decide)
  obtain ⟨z4, its4, k4, r4, hl4, e4⟩ := J2.lstM upd_same
  obtain ⟨u4, rfl, ru4⟩ := r4.one
  refine wpAny_updateSeq e4 rfl ?_ (by show 1 ≤ sizeLine; rw [sizeLine_eq]; decide) (by show 0 ≤ sizeLine + 1; exact Nat.zero_le _)
  refine wpAny_pure ⟨plainId_quiet PySem.F.plain_extend_loop _, go _ ?_⟩
  have J3 := J2.lset (f := (·.pop)) (its := [u4]) (its' := []) (ys := []) (t' := s3.toks) upd_same e4 rfl .nil (Nat.zero_le _)
  rw [upd_upd, upd_upd] at J3
  exact J3
end
end LL

set_option Elab.async false
set_option linter.all false
set_option maxRecDepth 100000
set_option maxHeartbeats 1000000
/-! LayZ: list(o), properties, static methods, in by an own method, isinstance of an own class. -/
namespace LL
open PySem L2
def lstO (c F : Str) : D → Option (List D)
  | .obj c' ns ds => if c' = c then match lookF ns ds F with
    | some (.tup l) => some l
    | _ => none
    else none
  | _ => none
/-- an own method that raises nothing -/
def noX : Res O → Res O
  | .ex _ _ => .stuck
  | r => r
def mPrp (c : Str) (mf : FM) (mo : EE) : EE := fun ρ => (mo ρ).bind fun o ρ1 => opt (look ρ1 o) fun d => if isO c d then noX (callK 1 mf [o] ρ1) else .stuck
def mLstO (c F : Str) (mo : EE) : EE := fun ρ => (mo ρ).bind fun o ρ1 => opt (look ρ1 o) fun d => opt (lstO c F d) fun l => .ok (.tmp (.lst l) true) ρ1
section
variable {X : Cx} {W : WF} {I : List Nat} {e o a b : Expr} {es : List Expr} {m mo ma mb : EE} {ms : EA} {mf : FM} {k n i : Nat} {c x mn fn F : Str} {pos apos p2 p3 : Pos}
theorem lstO_some {d : D} {l : List D} (h : lstO c F d = some l) : ∃ ns ds, d = .obj c ns ds ∧ lookF ns ds F = some (.tup l) := by
  cases d with
  | obj c' ns ds =>
    have h : (if c' = c then match lookF ns ds F with | some (.tup l) => some l | _ => none else none) = some l := h
    by_cases hc : c' = c
    case neg => rw [if_neg hc] at h; cases h
    rw [if_pos hc] at h
    cases e : lookF ns ds F with
    | none => rw [e] at h; cases h
    | some z =>
      rw [e] at h
      cases z with
      | tup l' =>
        cases h
        exact ⟨ns, ds, by rw [hc], e⟩
      | _ => cases h
  | _ => cases h
theorem se_lstO {A : Around} (T : ItrS X.prog X.w X.K X.mg X.base k c F) (hm : X.mg "list" = none) (hr : Room (k + 3) A) (ho : SE X W o mo) (hA : X.A = A := by rfl) (hc : X.calm = true := by rfl) (hg : Gl X "list" := by rfl)
    (he : starEach [o] X.env = (false, eval o X.env) :: starEach [] X.env := by rfl) (hpl : (backTo pos (starEach [] X.env)).any (·.1) = false := by rfl) : SE X W (.Call (.Name "list" p2) [o] [] pos) (mLstO c F mo) := by
  subst hA
  have ha : SA X W [o] (mCons mo mNil) := sa_cons ho sa_nil he
  refine PE.imp (pe_callTy (call_lstO T hc hr) hg hm PyProof.Rows.boot_list ha (by decide) (by decide) he hpl) fun σ H Q ⟨ρ, L, cc, hh, h⟩ => ?_
  refine ⟨ρ, L, cc, hh, ?_⟩
  unfold mLstO at h
  unfold mCons
  cases e0 : mo ρ with
  | stuck => rw [e0] at h; exact h.elim
  | ex x ρ1 => rw [e0] at h; exact h
  | ok o1 ρ1 =>
    rw [e0] at h
    intro vs H1 h1 c1
    match vs, c1 with
    | [v], c1 =>
      have h1 : Here X.K σ ρ1 (oen v o1 ++ L) H1 := h1.perm (by
        show ((oen v o1 ++ []) ++ L).Perm (oen v o1 ++ L)
        rw [List.append_nil])
      obtain ⟨d, e1, q1⟩ := Pst.opt h
      obtain ⟨l, e2, q2⟩ := Pst.opt q1
      clear h q1
      obtain ⟨ns, ds, rfl, e3⟩ := lstO_some e2
      obtain ⟨f1, m1⟩ := look_mem (T := ents σ ρ1 ++ (oen v o1 ++ L)) c1.1 e1 (fun e he => by simp [he]) (fun e he => by simp [he])
      obtain ⟨a, C, dx, fs, rfl, hC, ha, hn, dd⟩ := h1.rep.obj m1
      subst hn
      obtain ⟨u, l1, l2⟩ := lookF_fs dd e3
      obtain ⟨t, ys, rfl, l3, l4⟩ := l2
      refine ⟨a, C, dx, fs, t, ys, rfl, hC, ha, l1, l3.sq.sq, fun it q hi hq hne => ?_⟩
      refine op_fin (E := oen (.ref a) o1) h1 q2 _ _ ?_
      have hq' : upd H1 it (TiE it) q = none := by rw [upd_ne (fun z => hne z.symm)]; exact hq
      exact (h1.rep.keep (upd_keep hi)).newL hq' (l4.mono (fun _ x => x) (fun b u e _ => upd_keep hi _ _ e))
/-- o.f, a property -/
theorem se_prp {A : Around} (P : PrpS X.prog X.w X.K X.mg X.base k c fn mf) (hr : Room (k + 1) A) (ho : SE X W o mo) (hA : X.A = A := by rfl) (hab : attributeBase o fn X.env (eval o X.env) = eval o X.env := by rfl) :
    SE X W (.Attribute o fn pos) (mPrp c mf mo) := by
  subst hA
  obtain ⟨C, p, g, hC, cl, hp, F⟩ := P.ex
  refine ⟨fun pins s σ H Q I ⟨ρ, L, cc, hh, h⟩ => ?_⟩
  refine attr_of hab (L2.thn (ho.run pins s σ H (fun v H1 => ∃ a C dx fs, v = .ref a ∧ ClsAt X.K c C ∧ H1 a = some (.ins C dx fs) ∧ spF 1 X.K X.mg mf [v] H1 Q (fun _ _ _ => False)) I ?_) fun u s1 ⟨x, H1, I1, rx, a, C', dx, fs, ex, hC', ea, q⟩ => ?_)
  · refine thn cc [] hh h fun o1 v ρ1 H1 h1 c1 q => own1_fin (W := WF.of fun _ _ _ _ => False) h1 c1 ?_
    obtain ⟨d, e1, q1⟩ := Pst.opt q
    clear q
    rw [e1]
    show PstE _ _ _ _ _ (if isO c d then callK 1 mf [o1] ρ1 else .stuck) _
    split at q1
    case isFalse => exact q1.elim
    rename_i hd
    rw [if_pos hd]
    generalize callK 1 mf [o1] ρ1 = r at q1
    cases r with
    | ok a ρ => exact q1
    | ex x ρ => exact q1.elim
    | stuck => exact q1.elim
  · subst ex
    cases hC.fn hC'
    obtain rfl : u = Value.ref a := rx
    obtain ⟨mA, O, _, _, _, _⟩ := ins_get I1.hok ea
    obtain ⟨od, J, _⟩ := O.look
    obtain ⟨rest, hrec⟩ := hp.rec_
    have I2 := I1.tok (s1.toks + 1)
    have hc : (PySem.W.clsIn X.K C).isSome = true := by
      obtain ⟨cd, hc, _⟩ := PySem.W.any_some cl.hd
      rw [hc]; rfl
    obtain ⟨fd, ps, hn, hb, F⟩ := F.ex
    have hl : [Value.ref a].length = ps.length := by rw [hn]; rfl
    refine PySem.W.get_bind I1.kIn J (PySem.W.plainGet_of (cl.get fn)).1 (PySem.W.findObj_data hc hp.at_ hp.get hp.tak) (PySem.W.plainGet_of (cl.get fn)).2 (wpAny_call (PySem.W.prop_get (s := { s1 with toks := s1.toks + 1 }) I1.kIn hrec ?_))
    refine codeAny_mono (F.run X.A.in1 X.stack { s1 with toks := s1.toks + 1 } H1 ⟨[.ref a], []⟩ [.ref a] [.ref a] Q _ hr.in1 I2.env0.in1 (by
      have := hb { s1 with toks := s1.toks + 1 } [.ref a] I2.kIn (by simpa using hl)
      simpa using this) (.cons rfl .nil) q) fun r s' hq => ?_
    cases r with
    | error er =>
      obtain ⟨a1, B, H1, cls1, d1, e1, fl, hok, ub, na, os, ag, z⟩ := hq
      exact z.elim
    | ok fl =>
      cases fl with
      | ret u =>
        obtain ⟨v, H', I3, rv, q3⟩ := I2.after hq
        show wpAny _ _ (handedOut u) _ _ _
        rw [PySem.W.handedOut_of (handed_of rv)]
        exact wpAny_pure ⟨v, H', I3, rv, q3⟩
      | next => exact False.elim hq
      | brk => exact False.elim hq
      | cont => exact False.elim hq
/-- C.m(e, ..), a static method -/
theorem se_stc {A : Around} {pl : Sem Bool} (M : StcS X.prog X.w X.K X.mg X.base k c mn n mf) (hr : Room k A) (tk : Takes X W.w) (ha : SA X W (e :: es) ms) (hA : X.A = A := by rfl) (hg : Gl X c := by rfl) (hdb : (c == ("__debug__" : Str)) = false := by decide)
    (hst : starEach (e :: es) X.env = (false, eval e X.env) :: starEach es X.env := by rfl) (hpl : (backTo pos (starEach es X.env)).any (·.1) = false := by rfl)
    (ht : eval (.Call (.Attribute (.Name c p2) mn apos) (e :: es) [] pos) X.env = (do
      let ov ← eval (.Name c p2) X.env
      standAt apos.atName
      let (f, first) ← holding [ov] (getMethod ov mn pl)
      callWith pos f first (backTo pos (starEach (e :: es) X.env)) (backToKw pos (keywordEach [] X.env))) := by rfl) :
    SE X W (.Call (.Attribute (.Name c p2) mn apos) (e :: es) [] pos) (mCall n mf ms) := by
  subst hA
  obtain ⟨C, p, g, mc, rest, hm, r, hty, hfc, hrec, hk, F⟩ := M.ex
  refine ⟨fun pins s σ H Q I ⟨ρ, L, cc, hh, h⟩ => ?_⟩
  refine PySem.W.methodCall_KW (pl := pl) (ld_glob I hg hm ?_ hdb) ht
  obtain ⟨m0, hF⟩ := I.fr
  refine PySem.W.method_cls I.kIn r.ga (PySem.W.cls_sm hF I.ok.mod.kin hty r.rd hfc hrec rfl ?_)
  have I1 := I.tok (s.toks + 1)
  refine PySem.W.callWith_K (first := []) (h₀ := X.base) I.ok.mod.kin hk (L2.thn (ha.run pos pins _ σ H (fun vs H1 => spF n X.K X.mg mf (vs ++ []) H1 Q (fun cls d H' => W.w cls d σ H')) I1 ?_) fun us s2 ⟨vs, H2, I2, r2, q2⟩ => ⟨I2.kIn, ?_⟩) hst hpl
  · exact thn cc [] hh h fun os vs ρ1 H1 h1 c1 q => call_fin h1 c1 q
  · have q2 : spF n X.K X.mg mf (vs ++ []) H2 Q _ := q2
    rw [List.append_nil] at q2
    exact run_at (us := us) (vs := vs) F ⟨hr, rfl⟩ tk I2 r2 q2
/-- x in o -/
theorem se_inO {A : Around} {op : CmpOp} {neg : Bool} (hop : (op = .In ∧ neg = false) ∨ (op = .NotIn ∧ neg = true)) (M : OwnS X.prog X.w X.K X.mg X.base k c "__contains__" 2 mf) (hr : Room k A) (tk : Takes X W.w) (ha : SE X W a ma) (hb : SE X W b mb) (hA : X.A = A := by rfl) (hm : behindInMarks op b = false := by rfl) :
    SE X W (.Compare a [op] [b] pos) (mInO c neg mf ma mb) := by
  subst hA
  obtain ⟨C, f, hC, hs, hf, _, hc, F⟩ := M.ex
  refine ⟨fun pins s σ H Q I ⟨ρ, L, cc, hh, h⟩ => ?_⟩
  refine wpAny_Compare1 (L2.binT (R := fun x y H2 => ∃ a C dx fs, y = .ref a ∧ ClsAt X.K c C ∧ H2 a = some (.ins C dx fs) ∧ spF 2 X.K X.mg mf [y, x] H2 (fun v H' => ∃ x, v = .bl x ∧ Q (.bl (if neg then !x else x)) H') (fun cls d H' => W.w cls d σ H')) ha hb I ?_ fun v u s2 x y H2 I2 rx ry q => ?_) hm
  · refine thn cc [] hh h fun o1 x ρ1 H1 h1 c1 q => ?_
    refine thn cc (oen x o1) h1 q fun o2 y ρ2 H2 h2 c2 q => ?_
    obtain ⟨d, e1, q1⟩ := Pst.opt q
    clear q
    split at q1
    case isFalse => exact q1.elim
    rename_i hd
    obtain ⟨ns, ds, rfl⟩ := isO_obj hd
    obtain ⟨a, C, dx, fs, rfl, hc, ha, hn⟩ := obj_at (E := oen y o2 ++ oen x o1) (by rw [List.append_assoc]; exact h2) c2 (fun _ h => List.mem_append_left _ h) e1
    refine ⟨a, C, dx, fs, rfl, hc, ha, ?_⟩
    have q2 := Pst.cut (en := fun o v => oen v o) (co := fun σ o v => OIs σ v o) q1
    refine cut_sp (own2_call (h2.perm (by
      show (oen (.ref a) o2 ++ (oen x o1 ++ L)).Perm (oen x o1 ++ (oen (.ref a) o2 ++ L))
      rw [← List.append_assoc, ← List.append_assoc]
      exact List.perm_append_comm.append_right _)) c2 c1 q2) fun o3 v ρ3 H3 h3 c3 q3 => bl_back (g := fun x => if neg then !x else x) h3 q3
  · obtain ⟨a, C', dx, fs, rfl, hc', ea, q⟩ := q
    cases hC.fn hc'
    cases ry
    obtain ⟨mA, J, _⟩ := ins_get I2.hok ea
    obtain ⟨od, J, _⟩ := J.look
    obtain ⟨m0, hF⟩ := I2.fr
    have run := run_at (vs := [.ref a, x]) (us := [.ref a, v]) F ⟨hr, rfl⟩ tk I2 (.cons rfl (.cons rx .nil)) q
    rcases hop with ⟨rfl, rfl⟩ | ⟨rfl, rfl⟩
    · refine PySem.W.in_K hF I2.ok.mod.kin J hs hf (wpAny_mono run (fun u s' z => ?_) fun _ _ z => z)
      obtain ⟨v, H', I', r, x, rfl, q'⟩ := z
      cases r
      exact wpAny_truthy_bool ⟨.bl x, H', I', rfl, q'⟩
    · refine PySem.W.notIn_K hF I2.ok.mod.kin J hs hf (wpAny_mono run (fun u s' z => ?_) fun _ _ z => z)
      obtain ⟨v, H', I', r, x, rfl, q'⟩ := z
      cases r
      exact wpAny_truthy_bool ⟨.bl (!x), H', I', rfl, q'⟩
/-- isinstance(o, C), o an instance of C -/
theorem se_isC (hi : ∃ C, ClsAt X.K c C ∧ X.mg c = some (.ref C) ∧ C8.InsC X.K C) (hm : X.mg "isinstance" = none) (ho : SE X W o mo) (hg : Gl X "isinstance" := by rfl) (hgc : Gl X c := by rfl) (hdb : (c == ("__debug__" : Str)) = false := by decide)
    (he : starEach [o, .Name c p2] X.env = (false, eval o X.env) :: starEach [.Name c p2] X.env := by rfl) : SE X W (.Call (.Name "isinstance" apos) [o, .Name c p2] [] pos) (mIsC c mo) := by
  obtain ⟨C, hC, hmc, ic⟩ := hi
  refine PE.imp (pe_callB (C8.call_isC ic) hg hm PyProof.Rows.boot_isinstance (pa_cons ho (pa_cons (pe_glob (v := .ref C) hgc hmc rfl hdb) pa_nil) he) (he := he)) fun σ H Q ⟨ρ, L, cc, hh, h⟩ => ?_
  refine thn cc [] hh h fun o1 v ρ1 H1 h1 c1 q => ?_
  obtain ⟨d1, e1, q1⟩ := Pst.opt q
  clear q
  split at q1
  case isFalse => exact q1.elim
  rename_i hd
  obtain ⟨ns, ds, rfl⟩ := isO_obj hd
  obtain ⟨a, C', dx, fs, rfl, hc', ha, hn⟩ := obj_at (E := oen v o1) h1 c1 (fun _ h => h) e1
  cases hC.fn hc'
  exact ⟨a, dx, fs, rfl, ha, q1 _ H1 (here_scal h1.drop fun _ => rfl) trivial⟩
end
end LL

set_option Elab.async false
set_option linter.all false
set_option maxRecDepth 100000
set_option maxHeartbeats 1000000
/-! LayAA: methods by their texts. -/
namespace LL
open PySem L2
def clsBody : Stmt → List Stmt
  | .ClassDef _ _ _ b _ _ _ _ _ _ _ => b
  | _ => []
def asgVal : Stmt → Expr
  | .Assign _ v _ => v
  | _ => default
def lcScope : Expr → Scope
  | .ListComp _ _ sc _ => sc
  | _ => { kind := .function, names := [], isGenerator := false, isCoroutine := false }
/-- the class c and its method m by its text -/
structure MtX (K : PySem.W.Frag) (mg : Str → Option Value) (c m qual : Str) (st : Stmt) : Prop where
  ex : ∃ (C f : Addr) (fd : FuncData), ClsAt K c C ∧ mg c = some (.ref C) ∧ Cls K C ∧ Meth K C m f ∧ PySem.W.fnIn K f = true ∧ PySem.W.selfFirst K C = true ∧ Fun K m qual st f fd
structure PrX (K : PySem.W.Frag) (mg : Str → Option Value) (c m qual : Str) (st : Stmt) : Prop where
  ex : ∃ (C p f : Addr) (fd : FuncData), ClsAt K c C ∧ Cls K C ∧ PropOf K C m p f ∧ Fun K m qual st f fd
structure StX (K : PySem.W.Frag) (mg : Str → Option Value) (c m qual : Str) (st : Stmt) : Prop where
  ex : ∃ (C p f : Addr) (mc : Value) (rest : List Value) (fd : FuncData), mg c = some (.ref C) ∧ ClX.CRead K C mc ∧ PySem.W.typeIn K (.ref C) = some mc ∧ PySem.W.findCls K (.ref C) mc m = some (.get (.builtin "staticmethod.__get__") (.ref p) .none (.ref C)) ∧
    PySem.W.recIn K p "staticmethod" = some (.ref f :: rest) ∧ Fun K m qual st f fd
/-- all that a method promises -/
structure MA (P : Program) (w : World) (K : PySem.W.Frag) (mg : Str → Option Value) (base : Heap) (k : Nat) (c m : Str) (n : Nat) (mf : FM) : Prop where
  ex : ∃ C f : Addr, ClsAt K c C ∧ mg c = some (.ref C) ∧ Cls K C ∧ Meth K C m f ∧ PySem.W.fnIn K f = true ∧ PySem.W.selfFirst K C = true ∧ FnS P w K mg base k f n mf
def Mkr (K : PySem.W.Frag) (c : Str) : Prop := ∀ C, ClsAt K c C → PySem.W.makesIn K C = true ∧ PySem.W.keepIn K (.ref C) = true
def Neq (K : PySem.W.Frag) (c : Str) : Prop := ∀ C, ClsAt K c C → PySem.W.findIn K (.ref C) "__ne__" = some (some (.builtin "object.__ne__")) ∧ PySem.W.subIn K (.ref C) (.type "object") = some true
section
variable {P : Program} {w : World} {K : PySem.W.Frag} {mg : Str → Option Value} {base : Heap} {k n : Nat} {c m : Str} {mf : FM}
theorem MA.mtd (M : MA P w K mg base k c m n mf) : MtdS P w K mg base k c m n mf := by
  obtain ⟨C, f, h1, h2, h3, h4, h5, h6, h7⟩ := M.ex
  exact ⟨C, f, h1, h2, h3, h4, h7⟩
theorem MA.own (M : MA P w K mg base k c m n mf) : OwnS P w K mg base k c m n mf := by
  obtain ⟨C, f, h1, h2, h3, h4, h5, h6, h7⟩ := M.ex
  exact ⟨C, f, h1, h4.at_, h4.fn, h5, h6, h7⟩
theorem MA.mkr (M : MA P w K mg base k c "__init__" n mf) (hk : Mkr K c) : MkS P w K mg base k c n mf := by
  obtain ⟨C, f, h1, h2, h3, h4, h5, h6, h7⟩ := M.ex
  obtain ⟨k1, k2⟩ := hk C h1
  exact ⟨C, f, h1, h2, ⟨k1, h4.at_, h4.fn, k2⟩, h7⟩
/-- THE RULE for a method's text -/
theorem fns_of {x qual : Str} {st : Stmt} {f : Addr} {fd : FuncData} {N ps : List Str} {k : Nat} {I : List Nat} {body : ES} (F : Fun K x qual st f fd) (S : FnScope N ps (defScope st)) (hI : I.all (· < ps.length) = true)
    (hb : ∀ (kV doc pm : Value) (an : Option Addr) (cdv ct : Value) (us : List Value), us.length = ps.length → bindArgs (PySem.W.fnOf x qual (defArgs st) (defBody st) (defScope st) .none kV doc pm an cdv ct) ⟨us, []⟩ = pure (ps.zip us))
    (hbody : ∀ (X : Cx) (E : XK), (∃ (cdv : Value) (A : Around) (outer : List Env) (s : Shared) (H : Hp), X = cxOf (L2.CX P w) P w K mg base N qual (defScope st) f cdv A outer s H E) → Room k X.A → Takes X (fun cls d _ H => E cls d H) → PassesOwn (model X.prog X.w) X.A X.env X.xe → SB X (WF.of fun cls d _ H => E cls d H) I (defBody st) body) :
    FnS P w K mg base (k + 1) f ps.length (mkF ps.length N.length I body) := by
  refine ⟨fd, ps, rfl, F.binds hb, ?_⟩
  refine F.okX S (fun vs H Q E h => by obtain ⟨as, L, h1, _⟩ := h; exact h1) fun cdv A outer s H vs Q E hr h => ?_
  exact ⟨_, hbody _ E ⟨cdv, A, outer, s, H, rfl⟩ hr (takes_of rfl rfl rfl rfl) (passes_of rfl), body_fin hI h⟩
theorem itr_of {F qi ql : Str} {si sl : Stmt} {Ni Nl : List Str} {p0 p1 p2 p3 p4 r0 r1 r2 r3 r4 : Pos} (Mi : MtX K mg c "__iter__" qi si) (Ml : MtX K mg c "__len__" ql sl) (hf : Flds K [c] F) (hmi : mg "iter" = none) (hml : mg "len" = none)
    (Si : FnScope Ni ["self"] (defScope si)) (Sl : FnScope Nl ["self"] (defScope sl)) (hNi : Ni[0]? = some ("self" : Str)) (hNl : Nl[0]? = some ("self" : Str))
    (bi : defBody si = [.Return (some (.Call (.Name "iter" p0) [.Attribute (.Name "self" p1) F p2] [] p3)) p4]) (bl : defBody sl = [.Return (some (.Call (.Name "len" r0) [.Attribute (.Name "self" r1) F r2] [] r3)) r4])
    (hbi : ∀ (kV doc pm : Value) (an : Option Addr) (cdv ct : Value) (us : List Value), us.length = ["self"].length → bindArgs (PySem.W.fnOf "__iter__" qi (defArgs si) (defBody si) (defScope si) .none kV doc pm an cdv ct) ⟨us, []⟩ = pure ((["self"] : List Str).zip us))
    (hbl : ∀ (kV doc pm : Value) (an : Option Addr) (cdv ct : Value) (us : List Value), us.length = ["self"].length → bindArgs (PySem.W.fnOf "__len__" ql (defArgs sl) (defBody sl) (defScope sl) .none kV doc pm an cdv ct) ⟨us, []⟩ = pure ((["self"] : List Str).zip us))
    (gi : ∀ (f : Addr) (cdv : Value) (A : Around) (outer : List Env) (s : Shared) (H : Hp) (E : XK), Gl (cxOf (L2.CX P w) P w K mg base Ni qi (defScope si) f cdv A outer s H E) "iter")
    (gl : ∀ (f : Addr) (cdv : Value) (A : Around) (outer : List Env) (s : Shared) (H : Hp) (E : XK), Gl (cxOf (L2.CX P w) P w K mg base Nl ql (defScope sl) f cdv A outer s H E) "len") : ItrS P w K mg base 1 c F := by
  obtain ⟨C, fi, di, h1, h2, h3, h4, h5, h6, Fi⟩ := Mi.ex
  obtain ⟨C', fl, dl, g1, g2, g3, g4, g5, g6, Fl⟩ := Ml.ex
  cases h1.fn g1
  obtain ⟨c1, c2⟩ := hf c (List.mem_singleton.mpr rfl) C h1
  exact ⟨C, fi, fl, di, dl, h1, c1, c2, h4.at_, h4.fn, g4.at_, g4.fn, Fi.binds hbi, Fl.binds hbl, fn_itF Fi Si hNi bi hmi (gi fi), fn_lnF Fl Sl hNl bl hml (gl fl)⟩
/-- any statement is stuck -/
theorem ss_stuck {X : Cx} {W : WF} {I : List Nat} {st : Stmt} : SS X W I st (fun _ => .stuck) := ⟨fun pins s σ H D I ⟨ρ, L, cc, hh, h⟩ => h.elim⟩
end
section
variable {X : Cx} {W : WF} {a b : Expr} {ma mb : EE} {mf : FM} {k : Nat} {c : Str} {pos : Pos}
theorem tst_cut {σ : St} {L : List En} {r : Res O} {Q : Bool → Hp → Prop} (h : PstT X.K X.mg W σ L (r.bind fun o ρ1 => opt (look ρ1 o) fun d => opt (truth d) fun k => .ok k ρ1) Q) (hr : ∀ o ρ, r = .ok o ρ → ∃ x f, o = .tmp (.bl x) f) :
    PstE X.K X.mg W σ L r (fun v H => ∃ x, v = .bl x ∧ Q x H) := by
  cases r with
  | stuck => exact h.elim
  | ex x ρ => exact h
  | ok o ρ =>
    intro v H hh hc
    obtain ⟨x, f, rfl⟩ := hr o ρ rfl
    have hv : v = .bl x := hh.rep.bl (f := f) (by simp [oen])
    exact ⟨x, hv, h x H hh.drop rfl⟩
theorem mNe_bl {ρ ρ' : Rho} {o : O} (h : mNe c mf ma mb ρ = .ok o ρ') : ∃ x f, o = .tmp (.bl x) f := by
  unfold mNe at h
  cases e : mBoth c mf ma mb ρ with
  | stuck => rw [e] at h; cases h
  | ex x ρ => rw [e] at h; cases h
  | ok o1 ρ1 =>
    rw [e] at h
    have h : blK (fun x => !x) o1 ρ1 = .ok o ρ' := h
    cases o1 with
    | slt i => cases h
    | tmp d f =>
      cases d with
      | bl x => cases h; exact ⟨_, _, rfl⟩
      | _ => cases h
theorem st_neO {A : Around} (M : OwnS X.prog X.w X.K X.mg X.base k c "__eq__" 2 mf) (N : Neq X.K c) (hr : Room (k + 1) A) (tk : Takes X W.w) (ha : SE X W a ma) (hb : SE X W b mb) (hA : X.A = A := by rfl) (hm : behindInMarks .NotEq b = false := by rfl) :
    ST X W (.Compare a [.NotEq] [b] pos) (mTst (mNe c mf ma mb)) := by
  subst hA
  obtain ⟨C, f, hC, hs, hf, _, hc, F⟩ := M.ex
  obtain ⟨n1, n2⟩ := N C hC
  refine ⟨fun pins s σ H Q I ⟨ρ, L, cc, hh, h⟩ => ?_⟩
  have h := tst_cut h fun o ρ' e => mNe_bl e
  have h : PstE X.K X.mg W σ L ((mBoth c mf ma mb ρ).bind _) _ := h
  have h := Pst.cut (en := fun o v => oen v o) (co := fun σ o v => OIs σ v o) h
  have rd : rE X.K X.mg W ma σ H fun x H1 => rE X.K X.mg W mb σ H1 fun y H2 => ∃ a b C dx fs dy gs, x = .ref a ∧ y = .ref b ∧ ClsAt X.K c C ∧ H2 a = some (.ins C dx fs) ∧ H2 b = some (.ins C dy gs) ∧ spF 2 X.K X.mg mf [x, y] H2 (fun v H' => ∃ x, v = .bl x ∧ Q (!x) H') (fun cls d H' => W.w cls d σ H') := by
    refine thn cc [] hh h fun o1 x ρ1 H1 h1 c1 q => ?_
    refine thn cc (oen x o1) h1 q fun o2 y ρ2 H2 h2 c2 q => ?_
    obtain ⟨a, b, C, dx, fs, dy, gs, e1, e2, e3, e4, e5, z⟩ := both_fin h2 c1 c2 q
    refine ⟨a, b, C, dx, fs, dy, gs, e1, e2, e3, e4, e5, cut_sp z fun o3 v ρ3 H3 h3 c3 q3 => ?_⟩
    obtain ⟨x, e6, x', e7, q4⟩ := bl_back (g := fun x => !x) h3 q3
    cases e7
    exact ⟨x, e6, q4⟩
  refine wpAny_isTrue_Compare1 (L2.thn (ha.run pins s σ H _ I rd) fun v s1 ⟨x, H1, I1, r1, q1⟩ => L2.thn (hb.run pins s1 σ H1 _ I1 q1) fun u s2 ⟨y, H2, I2, r2, q⟩ => ?_) hm
  obtain ⟨a, b, C', dx, fs, dy, gs, rfl, rfl, hc', ea, eb, q⟩ := q
  cases hC.fn hc'
  cases r1
  cases r2
  obtain ⟨mA, J, _⟩ := ins_get I2.hok ea
  obtain ⟨mB, J', _⟩ := ins_get I2.hok eb
  obtain ⟨od, J, _⟩ := J.look
  obtain ⟨od', J', _⟩ := J'.look
  obtain ⟨m0, hF⟩ := I2.fr
  refine PySem.W.ne_K (f := f) hr.in1.units0 hF I2.ok.mod.kin J J'.type n1 n2 hs hf ?_
  refine wpAny_mono (run_at (vs := [.ref a, .ref b]) F (L2.Sub.in1 ⟨hr, rfl⟩) tk I2 (.cons rfl (.cons rfl .nil)) q) (fun u s' z => ?_) fun _ _ z => z
  obtain ⟨v, H', I', r, x, rfl, q'⟩ := z
  cases r
  exact ⟨x, rfl, wpAny_truthy_bool ⟨H', I', q'⟩⟩
end
end LL

set_option Elab.async false
set_option linter.all false
set_option maxRecDepth 100000
set_option maxHeartbeats 1000000
/-! LayAB: a local list of lists that are changed: its items are owned, hidden from the slots. -/
namespace LL
open PySem L2
/-- the list at Dl, its items owned -/
def hidG (Dl : Addr) (G : List (V × D)) : List En := (.ref Dl, .raw (G.map (·.1)), true) :: G.map fun z => (z.1, z.2, true)
def lcOTurn (vs : List Nat) (t : TgM) (me : EE) (d : D) (acc : List D) (ρ : Rho) : Option (List D × Rho) := match t d false ρ with
  | none => none
  | some ρ1 => match me ρ1 with
    | .ok (.tmp x true) ρ3 => if acc.length < sizeLine then some (acc ++ [x], rwipe ρ3 vs) else none
    | _ => none
def lcOM (vs : List Nat) (t : TgM) (me : EE) : List D → List D → Rho → Option (List D × Rho)
  | [], acc, ρ => some (acc, ρ)
  | d :: ds, acc, ρ => match lcOTurn vs t me d acc ρ with
    | none => none
    | some (acc', ρ') => lcOM vs t me ds acc' ρ'
def lcOR (vs : List Nat) (t : TgM) (me : EE) (b : Bk) (ds acc : List D) (ρ : Rho) : Option (Rho × List D) := match lcOM vs t me ds acc (rwipe ρ vs) with
  | none => none
  | some (acc, ρ2) => some (restore b ρ2, acc)
def mLcO (mi : EI) (vs : List Nat) (t : TgM) (me : EE) : Rho → Option (Rho × List D) := fun ρ => match mi ρ with
  | .ok x ρ1 => lcOR vs t me x.2 x.1 [] ρ1
  | _ => none
section
variable {X : Cx} {W : WF} {J : List Nat} {elt tg iter c : Expr} {ifs : List Expr} {scope : Scope} {own : List (Str × Nat)} {mi : EI} {t : TgM} {tt : ET} {me : EE} {pos p2 : Pos}
theorem pm3 (A B C : List En) : (A ++ (B ++ C)).Perm (B ++ (A ++ C)) := by
  rw [← List.append_assoc, ← List.append_assoc]
  exact List.perm_append_comm.append_right _
theorem hid_add {K : PySem.W.Frag} {L : List En} {H : Hp} {Dl : Addr} {G : List (V × D)} {y : V} {d : D} (R : Rep K ((y, d, true) :: (hidG Dl G ++ L)) H) : H Dl = some (.lst (G.map (·.1))) ∧ Rep K (hidG Dl (G ++ [(y, d)]) ++ L) (upd H Dl (.lst (G.map (·.1) ++ [y]))) := by
  have R1 : Rep K ((.ref Dl, .raw (G.map (·.1)), true) :: ((y, d, true) :: (G.map (fun z => (z.1, z.2, true)) ++ L))) H := R.perm (List.Perm.swap _ _ _)
  have q := R1.ok _ List.mem_cons_self
  unfold EnOk at q
  rw [if_pos (by rfl)] at q
  obtain ⟨p, o, es, us, e, h1, hb, h2⟩ := q
  cases e
  cases o with
  | lst ws =>
    obtain ⟨rfl, rfl, rfl⟩ := hb
    refine ⟨h1, ?_⟩
    have R2 := R1.putB (d' := .raw (G.map (·.1) ++ [y])) (o' := .lst (G.map (·.1) ++ [y])) rfl ⟨rfl, rfl, rfl⟩ rfl
    refine R2.perm ?_
    show ((V.ref Dl, D.raw (G.map (·.1) ++ [y]), true) :: ((y, d, true) :: (G.map (fun z => (z.1, z.2, true)) ++ L))).Perm ((V.ref Dl, D.raw ((G ++ [(y, d)]).map (·.1)), true) :: ((G ++ [(y, d)]).map (fun z => (z.1, z.2, true)) ++ L))
    rw [List.map_append, List.map_append]
    refine List.Perm.cons _ ?_
    rw [List.append_assoc]
    exact List.perm_middle.symm
  | _ => exact hb.elim
theorem lcO_fin {K : PySem.W.Frag} {mg : Str → Option Value} {σ : St} {H : Hp} {Q : VK} {vs : List Nat} {n : Nat} {g : TG} {gt : TT} {ge : TE} {ρ : Rho} {L : List En} {r : Rho × List D} (hn : σ.length = n) (hg : g = rG (others n vs) K t) (hgt : gt = rT K mg W0 mYes) (hge : ge = rE K mg W0 me)
    (hJ : ∀ i ∈ J, i ∈ others n vs) (cc : W.C σ L) (hh : Here K σ ρ L H) (hm : mLcO mi vs t me ρ = some r) (h : ∀ Dl G H', G.map (·.2) = r.2 → Here K σ r.1 (hidG Dl G ++ L) H' → Q (.ref Dl) H') : tLc (rI J K mg W mi) g gt ge vs σ H Q := by
  subst hg hgt hge
  refine ⟨ρ, L, cc, hh, ?_⟩
  unfold mLcO at hm
  cases e0 : mi ρ with
  | stuck => rw [e0] at hm; cases hm
  | ex x ρ1 => rw [e0] at hm; cases hm
  | ok x ρ1 =>
    rw [e0] at hm
    obtain ⟨ds, b⟩ := x
    have hm : lcOR vs t me b ds [] ρ1 = some r := hm
    intro Ji E H1 h1 wk hbk hj
    intro Dl hD
    have R1 : Rep K ((.ref Dl, .raw [], true) :: (ents (wipe σ vs) (rwipe ρ1 vs) ++ (E ++ L))) (upd H1 Dl (.lst [])) := (here_in (vs := vs) h1).rep.newB (d := .raw []) (o := .lst []) (ds := []) (ws := []) hD ⟨rfl, rfl, rfl⟩ rfl
    refine ⟨fun i n H2 => ∃ ρ2 G, i + n = ds.length ∧ ρ2.length = σ.length ∧ Here K (wipe σ vs) (rwipe ρ2 vs) (hidG Dl G ++ (E ++ L)) H2 ∧ lcOR vs t me b (ds.drop i) (G.map (·.2)) ρ2 = some r, ⟨ds.length, ρ1, [], by omega, h1.al.len, ⟨(here_in h1).al, R1.perm (List.perm_middle.symm)⟩, hm⟩, ?_⟩
    rintro i n H2 ⟨ρ2, G, en, hl2, h2, q⟩
    have pm : (ents (wipe σ vs) (rwipe ρ2 vs) ++ (hidG Dl G ++ (E ++ L))).Perm (E ++ (hidG Dl G ++ (ents (wipe σ vs) (rwipe ρ2 vs) ++ L))) := by
      refine (pm3 _ _ _).trans ?_
      exact (List.Perm.append_left _ (pm3 _ _ _)).trans (pm3 _ _ _)
    have R2 := h2.rep.perm pm
    by_cases hlt : i < ds.length
    · refine .inr ⟨wk.go i _ H2 hlt R2, fun H' => ∃ ρ3 G', ρ3.length = σ.length ∧ Here K (wipe σ vs) (rwipe ρ3 vs) (hidG Dl G' ++ (E ++ L)) H' ∧ lcOR vs t me b (ds.drop (i + 1)) (G'.map (·.2)) ρ3 = some r, fun H' ⟨ρ3, G', h31, h32, q3⟩ => ⟨n - 1, by omega, ρ3, G', by omega, h31, h32, q3⟩, fun x H' y => ?_⟩
      have ed : ds[i]? = some ds[i] := List.getElem?_eq_getElem hlt
      have R3 := wk.yld i _ H2 x H' ds[i] ed R2 y
      have h3 : Here K (wipe σ vs) (rwipe ρ2 vs) ((x, ds[i], false) :: (hidG Dl G ++ (E ++ L))) H' := ⟨h2.al, R3.perm (by
        refine List.Perm.trans ?_ (List.perm_middle.symm)
        exact List.Perm.cons _ pm.symm)⟩
      unfold lcOR at q
      rw [List.drop_eq_getElem_cons hlt] at q
      unfold lcOM at q
      cases e1 : lcOTurn vs t me ds[i] (G.map (·.2)) (rwipe ρ2 vs) with
      | none => simp only [e1] at q; cases q
      | some z =>
        obtain ⟨acc', ρ'⟩ := z
        simp only [e1] at q
        unfold lcOTurn at e1
        cases e2 : t ds[i] false (rwipe ρ2 vs) with
        | none => simp only [e2] at e1; cases e1
        | some ρ3 =>
          simp only [e2] at e1
          refine ⟨rwipe ρ2 vs, hidG Dl G ++ (E ++ L), ds[i], false, ρ3, h3, e2, fun σ3 h4 f4 => ⟨wipe_eq (by rw [hn]; exact f4), ?_⟩⟩
          have hw : wipe σ3 vs = wipe σ vs := wipe_eq (by rw [hn]; exact f4)
          have hl3 : σ3.length = σ.length := f4.1.trans (wipe_length σ vs)
          refine ⟨ρ3, _, .zero, h4, fun k H4 h5 c5 => ?_⟩
          cases c5
          refine iteT ⟨ρ3, _, .zero, h5, ?_⟩
          cases e5 : me ρ3 with
          | ex x ρ5 => simp only [e5] at e1; cases e1
          | stuck => simp only [e5] at e1; cases e1
          | ok o ρ5 =>
            intro y H5 h6 c6
            cases o with
            | slt j => simp only [e5] at e1; cases e1
            | tmp xd xf =>
              cases xf with
              | false => simp only [e5] at e1; cases e1
              | true =>
                simp only [e5] at e1
                split at e1
                case isFalse => cases e1
                rename_i hz
                cases e1
                have h7 := here_in (vs := vs) h6
                rw [hw] at h7
                obtain ⟨ha, RA⟩ := hid_add (L := ents (wipe σ vs) (rwipe ρ5 vs) ++ (E ++ L)) (y := y) (d := xd) (h7.rep.perm (by
                  show (ents (wipe σ vs) (rwipe ρ5 vs) ++ ((y, xd, true) :: (hidG Dl G ++ (E ++ L)))).Perm ((y, xd, true) :: (hidG Dl G ++ (ents (wipe σ vs) (rwipe ρ5 vs) ++ (E ++ L))))
                  exact List.perm_middle.trans (List.Perm.cons _ (pm3 _ _ _))))
                refine ⟨G.map (·.1), ha, by rw [List.length_map] at hz ⊢; exact hz, ρ5, G ++ [(y, xd)], by rw [h6.al.len, hl3], ⟨h7.al, ?_⟩, ?_⟩
                · exact RA.perm (pm3 _ _ _)
                · rw [List.map_append]
                  exact q
    · have ei : i = ds.length := by omega
      subst ei
      rw [List.drop_length] at q
      have q : some (restore b (rwipe ρ2 vs), G.map (·.2)) = some r := q
      cases q
      refine .inl ⟨wk.stop _ _ H2 (Nat.le_refl _) R2, ?_⟩
      have h3 := here_out (ρ := ρ2) h2
      refine h Dl G H2 rfl ?_
      have h4 : Here K σ (rwipe ρ2 vs) (E ++ (hidG Dl G ++ L)) H2 := h3.perm (by
        rw [← List.append_assoc, ← List.append_assoc]
        exact List.perm_append_comm.append_right _)
      exact (here_back (J := J) h4 hbk hj Fix.refl).1
end
end LL

set_option Elab.async false
set_option linter.all false
set_option maxRecDepth 100000
set_option maxHeartbeats 1000000
/-! LayAC: statements beside a local list whose items are owned and hidden. -/
namespace LL
open PySem L2
abbrev HM := Rho → List D → Option (Rho × List D)
def rH (i : Nat) (I : List Nat) (K : PySem.W.Frag) (mg : Str → Option Value) (W : WF) (m : HM) : TS := fun D σ H => ∃ ρ Dl G L r, W.CS I σ L ∧ σ[i]? = some (some (.ref Dl)) ∧ Here K σ ρ (hidG Dl G ++ L) H ∧ m ρ (G.map (·.2)) = some r ∧
  ∀ σ' H' G', G'.map (·.2) = r.2 → σ'[i]? = some (some (.ref Dl)) → Here K σ' r.1 (hidG Dl G' ++ L) H' → Fix I σ σ' → D.nx σ' H'
def SH (X : Cx) (W : WF) (I : List Nat) (i : Nat) (st : Stmt) (m : HM) : Prop := PS X st (rH i I X.K X.mg W m)
def rH0 (i : Nat) (I : List Nat) (K : PySem.W.Frag) (mg : Str → Option Value) (W : WF) (m : Rho → Option (Rho × List D)) : TS := fun D σ H => ∃ ρ L r, W.CS I σ L ∧ Here K σ ρ L H ∧ m ρ = some r ∧
  ∀ σ' H' Dl G', G'.map (·.2) = r.2 → σ'[i]? = some (some (.ref Dl)) → Here K σ' r.1 (hidG Dl G' ++ L) H' → Fix I σ σ' → D.nx σ' H'
def SH0 (X : Cx) (W : WF) (I : List Nat) (i : Nat) (st : Stmt) (m : Rho → Option (Rho × List D)) : Prop := PS X st (rH0 i I X.K X.mg W m)
theorem Fix.cons {i : Nat} {I : List Nat} {σ σ' : St} (f : Fix (i :: I) σ σ') : Fix I σ σ' := ⟨f.1, fun j hj => f.2 j (List.mem_cons_of_mem _ hj)⟩
section
variable {X : Cx} {W : WF} {I J : List Nat} {i a : Nat} {st : Stmt} {sts rest : List Stmt} {m : ES} {mh : HM} {e : Expr} {me : EE} {mf : FM} {k n : Nat} {c : Str}
/-- a statement that does not touch it -/
def hPl (m : ES) : HM := fun ρ ds => match m ρ with
  | .ok .nx ρ' => some (ρ', ds)
  | _ => none
theorem sh_ss (h : SS X W (i :: I) st m) : SH X W I i st (hPl m) := PS.imp h fun D σ H ⟨ρ, Dl, G, L, r, cc, hi, hh, em, q⟩ => by
  refine ⟨ρ, hidG Dl G ++ L, cc.more _ fun j hj => List.mem_cons_of_mem _ hj, hh, ?_⟩
  unfold hPl at em
  cases e : m ρ with
  | stuck => rw [e] at em; cases em
  | ex x ρ1 => rw [e] at em; cases em
  | ok fl ρ1 =>
    cases fl with
    | nx =>
      rw [e] at em
      cases em
      exact fun σ' H' h' f => q σ' H' G rfl ((f.2 i List.mem_cons_self).trans hi) h' f.cons
    | _ => rw [e] at em; cases em
theorem hid_get {K : PySem.W.Frag} {σ : St} {ρ : Rho} {L : List En} {H : Hp} {Dl : Addr} {G : List (V × D)} (hh : Here K σ ρ (hidG Dl G ++ L) H) : H Dl = some (.lst (G.map (·.1))) := by
  have q := hh.rep.ok (.ref Dl, .raw (G.map (·.1)), true) (List.mem_append_right _ (List.mem_append_left _ List.mem_cons_self))
  unfold EnOk at q
  rw [if_pos (by rfl)] at q
  obtain ⟨p, o, es, us, e, h1, hb, h2⟩ := q
  cases e
  cases o with
  | lst ws =>
    obtain ⟨rfl, rfl, rfl⟩ := hb
    exact h1
  | _ => exact hb.elim
theorem er_perm {α : Type} : ∀ {G : List α} {j : Nat} {z : α}, G[j]? = some z → G.Perm (z :: G.eraseIdx j)
  | [], j, z, h => by simp at h
  | x :: G, 0, z, h => by
    have e : x = z := by simpa using h
    subst e
    exact List.Perm.refl _
  | x :: G, j + 1, z, h => ((er_perm (G := G) (j := j) (by simpa using h)).cons x).trans (List.Perm.swap _ _ _)
theorem set_perm {α : Type} {y : α} : ∀ {G : List α} {j : Nat} {z : α}, G[j]? = some z → (G.set j y).Perm (y :: G.eraseIdx j)
  | [], j, z, h => by simp at h
  | x :: G, 0, z, h => List.Perm.refl _
  | x :: G, j + 1, z, h => ((set_perm (G := G) (j := j) (z := z) (by simpa using h)).cons x).trans (List.Perm.swap _ _ _)
/-- the j-th item taken out -/
theorem hid_out {Dl : Addr} {G : List (V × D)} {j : Nat} {z : V × D} (h : G[j]? = some z) (L : List En) : (hidG Dl G ++ L).Perm ((z.1, z.2, true) :: ((.ref Dl, .raw (G.map (·.1)), true) :: ((G.eraseIdx j).map (fun z => (z.1, z.2, true)) ++ L))) := by
  obtain ⟨hl, hz⟩ := List.getElem?_eq_some_iff.mp h
  refine List.Perm.trans ?_ (List.Perm.swap _ _ _)
  refine List.Perm.cons _ ?_
  exact ((er_perm h).map fun z : V × D => ((z.1, z.2, true) : En)).append_right L
theorem hid_back {Dl : Addr} {G : List (V × D)} {j : Nat} {z : V × D} {d : D} (h : G[j]? = some z) (L : List En) : ((z.1, d, true) :: ((.ref Dl, .raw (G.map (·.1)), true) :: ((G.eraseIdx j).map (fun z => (z.1, z.2, true)) ++ L))).Perm (hidG Dl (G.set j (z.1, d)) ++ L) := by
  obtain ⟨hl, hz⟩ := List.getElem?_eq_some_iff.mp h
  have e1 : (G.set j (z.1, d)).map (·.1) = G.map (·.1) := by
    rw [List.map_set]
    refine List.ext_getElem? fun q => ?_
    by_cases hq : j = q
    · subst hq
      rw [List.getElem?_set_self (by simpa using hl), List.getElem?_map, h]
      rfl
    · rw [List.getElem?_set_ne hq]
  unfold hidG
  rw [e1]
  refine (List.Perm.swap _ _ _).trans ?_
  refine List.Perm.cons _ ?_
  exact ((set_perm (y := (z.1, d)) h).symm.map fun z : V × D => ((z.1, z.2, true) : En)).append_right L
/-- y = C(h[j]) -/
def hMk (c : Str) (mf : FM) (a j : Nat) : HM := fun ρ ds => match ds[j]? with
  | some (.lst es) => match mf [(.obj c [] [], true), (.lst es, true)] with
    | .ok .non _ [some (.obj c' ns os, _), some (d', true)] => if a < ρ.length then some (ρ.set a (some (.obj c' ns os, false)), ds.set j d') else none
    | _ => none
  | _ => none
theorem sh_mk {A : Around} {j : Nat} {y h : Str} {py p1 p2 p3 p4 p5 spos : Pos} (M : MkS X.prog X.w X.K X.mg X.base k c 2 mf) (hr : Room (k + 1) A) (tk : Takes X W.w) (hv : PE X (.Name h p1) (tVar i)) (hg : SG X (i :: I) (.Name y py) (tgN a)) (hA : X.A = A := by rfl) (hgc : Gl X c := by rfl) (hdb : (c == ("__debug__" : Str)) = false := by decide)
    (he : starEach [.Subscript (.Name h p1) (.Constant (.int j) 0 p2) p3] X.env = (false, eval (.Subscript (.Name h p1) (.Constant (.int j) 0 p2) p3) X.env) :: starEach [] X.env := by rfl)
    (hs : swapsWithSole [.Name y py] (.Call (.Name c p4) [.Subscript (.Name h p1) (.Constant (.int j) 0 p2) p3] [] p5) spos.line X.env = pure false := by rfl) (hw : swappedStores [.Name y py] (.Call (.Name c p4) [.Subscript (.Name h p1) (.Constant (.int j) 0 p2) p3] [] p5) X.env = pure none := by rfl)
    (h1 : (assignEach [.Name y py] X.env).map (·.2) = [assign (.Name y py) X.env] := by rfl) :
    SH X W I i (.Assign [.Name y py] (.Call (.Name c p4) [.Subscript (.Name h p1) (.Constant (.int j) 0 p2) p3] [] p5) spos) (hMk c mf a j) := by
  subst hA
  obtain ⟨C, f, hC, hm, Mk, F⟩ := M.ex
  have hpe : PE X (.Call (.Name c p4) [.Subscript (.Name h p1) (.Constant (.int j) 0 p2) p3] [] p5) (fun σ H Q => tCons (tOp (rIxL X.K) (tVar i) (tC (.int j))) tNil σ H fun vs H1 => ∀ x dx, H1 x = none → H1 dx = none → dx ≠ x → spF 2 X.K X.mg mf (.ref x :: vs) (upd (upd H1 dx (.own x)) x (.ins C dx [])) (fun v H2 => v = .non ∧ Q (.ref x) H2) (fun cls d H' => W.w cls d σ H')) := by
    have ha := pa_cons (pe_ix ix_list hv (pe_int (X := X) (i := (j : Int)) (j := 0) (pos := p2)) (pos := p3) (fun _ _ => rfl)) pa_nil he
    refine ⟨fun pins s σ H Q I hq => ?_⟩
    refine wpAny_Call_Name_kw (ld_glob I hgc hm ?_ hdb)
    exact PySem.W.callWith_K (h₀ := X.base) I.ok.mod.kin Mk.kp (L2.thn (ha.run p5 pins s σ H _ I hq) fun us s1 ⟨vs, H1, I1, r, q⟩ => ⟨I1.kIn, run_makeS Mk F hr tk I1 r q⟩) he rfl
  refine PS.imp (ps_asg hpe hg hs hw h1) fun D σ H ⟨ρ, Dl, G, L, r, cc, hi, hh, em, q⟩ => ?_
  unfold hMk at em
  cases e1 : (G.map (·.2))[j]? with
  | none => rw [e1] at em; cases em
  | some dj =>
    rw [e1] at em
    cases dj with
    | lst es =>
      rw [List.getElem?_map] at e1
      cases e2 : G[j]? with
      | none => rw [e2] at e1; cases e1
      | some z =>
        rw [e2] at e1
        obtain ⟨vj, dj⟩ := z
        have e1 : dj = .lst es := by simpa using e1
        subst e1
        have hlen : j < G.length := (List.getElem?_eq_some_iff.mp e2).1
        refine ⟨.ref Dl, hi, Dl, G.map (·.1), (j : Int), vj, rfl, rfl, .inl (.inl (hid_get hh)), ?_, fun x dx hx hdx hne => ?_⟩
        · unfold atI ixN
          rw [if_pos (by omega), if_pos (by rw [List.length_map]; omega)]
          show (G.map (·.1))[(j : Int).toNat]? = _
          rw [Int.toNat_natCast, List.getElem?_map, e2]
          rfl
        · have R0 := (hh.rep.perm ((List.Perm.append_left _ (hid_out e2 L)).trans List.perm_middle)).keep (upd_keep (o := .own x) hdx)
          have hx' : upd H dx (.own x) x = none := by rw [upd_ne (fun z => hne z.symm)]; exact hx
          have R1 := R0.newB (p := x) (d := .obj c [] []) (o := .ins C dx []) (ds := []) (ws := []) hx' ⟨hC, rfl, rfl, rfl⟩ rfl
          refine ⟨[(.obj c [] [], true), (.lst es, true)], _, rfl, rfl, R1, ?_⟩
          dsimp only at em
          split at em
          case h_2 => cases em
          rename_i f0 c' ns os fl d' heq
          rw [heq]
          split at em
          case isFalse => cases em
          rename_i hal
          cases em
          intro v H2 R2
          have ev : v = .non := R2.non (f := f0) List.mem_cons_self
          refine ⟨ev, ρ, hidG Dl (G.set j (vj, d')) ++ L, .obj c' ns os, false, ρ.set a (some (.obj c' ns os, false)), ⟨hh.al, ?_⟩, by unfold tgN; rw [if_pos hal], fun σ' h' f' => ?_⟩
          · have R3 : Rep X.K ((.ref x, .obj c' ns os, fl) :: ((vj, d', true) :: (ents σ ρ ++ ((.ref Dl, .raw (G.map (·.1)), true) :: ((G.eraseIdx j).map (fun z => (z.1, z.2, true)) ++ L))))) H2 := R2.tail
            refine (Rep.cool R3).perm ?_
            refine List.Perm.trans (List.Perm.cons _ ?_) List.perm_middle.symm
            refine List.Perm.trans List.perm_middle.symm (List.Perm.append_left _ ?_)
            exact hid_back (z := (vj, .lst es)) e2 L
          · exact q σ' H2 (G.set j (vj, d')) (by rw [List.map_set]) ((f'.2 i List.mem_cons_self).trans hi) h' f'.cons
    | _ => cases em
/-- h[j].append(e) -/
def hAp (j : Nat) (me : EE) : HM := fun ρ ds => match me ρ with
  | .ok (.tmp d _) ρ1 => match ds[j]? with
    | some (.lst es) => if es.length < sizeLine then some (ρ1, ds.set j (.lst (es ++ [d]))) else none
    | _ => none
  | _ => none
theorem sh_ap {j : Nat} {h : Str} {p1 p2 p3 apos cpos spos : Pos} (hv : PE X (.Name h p1) (tVar i)) (he : SE X W e me)
    (hbase : attributeBase (.Subscript (.Name h p1) (.Constant (.int j) 0 p2) p3) "append" X.env (eval (.Subscript (.Name h p1) (.Constant (.int j) 0 p2) p3) X.env) = eval (.Subscript (.Name h p1) (.Constant (.int j) 0 p2) p3) X.env := by rfl)
    (hall : (((backTo cpos (starEach [e] X.env)).all fun x => !x.1) && ((backToKw cpos (keywordEach [] X.env)).all fun x => x.1.isSome) && decide ([e].length + ([] : List Keyword).length + (if ([] : List Keyword).isEmpty then 0 else 1) < 30)) = true := by rfl)
    (hline : (apos.endLine == cpos.line) = true := by rfl) (hst : starEach [e] X.env = (false, eval e X.env) :: starEach [] X.env := by rfl) (hpl : (backTo cpos (starEach [] X.env)).any (·.1) = false := by rfl)
    (hs : swapsWith (.Call (.Attribute (.Subscript (.Name h p1) (.Constant (.int j) 0 p2) p3) "append" apos) [e] [] cpos) none spos.line X.env = pure false := by rfl) :
    SH X W I i (.Expr (.Call (.Attribute (.Subscript (.Name h p1) (.Constant (.int j) 0 p2) p3) "append" apos) [e] [] cpos) spos) (hAp j me) := by
  obtain ⟨r, hr, hr2⟩ := ms_append (X := X)
  have ha : SA X W [e] (mCons me mNil) := sa_cons he sa_nil hst
  refine PS.imp (ps_expr (pe_bm PySem.F.plainAttrs_list PySem.F.slot_list_append PySem.F.type_list_append hr (pe_ix ix_list hv (pe_int (X := X) (i := (j : Int)) (j := 0) (pos := p2)) (pos := p3) (fun _ _ => rfl)) ha hbase hall hline hst hpl) hs) fun D σ H ⟨ρ, Dl, G, L, r1, cc, hi, hh, em, q⟩ => ?_
  unfold hAp at em
  cases e0 : me ρ with
  | stuck => rw [e0] at em; cases em
  | ex x ρ1 => rw [e0] at em; cases em
  | ok o ρ1 =>
    rw [e0] at em
    cases o with
    | slt i => cases em
    | tmp d fd =>
      cases e1 : (G.map (·.2))[j]? with
      | none => simp only [e1] at em; cases em
      | some dj =>
        simp only [e1] at em
        cases dj with
        | lst es =>
          rw [List.getElem?_map] at e1
          cases e2 : G[j]? with
          | none => rw [e2] at e1; cases e1
          | some z =>
            rw [e2] at e1
            obtain ⟨vj, dj⟩ := z
            have e1 : dj = .lst es := by simpa using e1
            subst e1
            have hlen : j < G.length := (List.getElem?_eq_some_iff.mp e2).1
            by_cases hz : es.length < sizeLine
            case neg => simp only [if_neg hz] at em; cases em
            simp only [if_pos hz] at em
            cases em
            have R0 := hh.rep.perm ((List.Perm.append_left _ (hid_out e2 L)).trans List.perm_middle)
            obtain ⟨pj, wj, ep, hpj, _⟩ := R0.own (p := vj) (ds := es) List.mem_cons_self
            subst ep
            refine ⟨.ref Dl, hi, Dl, G.map (·.1), (j : Int), .ref pj, rfl, rfl, .inl (.inl (hid_get hh)), ?_, .inl ⟨rfl, wj, .inl (.inl hpj)⟩, ?_⟩
            · unfold atI ixN
              rw [if_pos (by omega), if_pos (by rw [List.length_map]; omega)]
              show (G.map (·.1))[(j : Int).toNat]? = _
              rw [Int.toNat_natCast, List.getElem?_map, e2]
              rfl
            · refine ⟨ρ, hidG Dl G ++ L, cc.toC.up _, hh, ?_⟩
              unfold mCons
              rw [e0]
              intro vs H1 h1 c1
              match vs, c1 with
              | [v], c1 =>
                have R1 : Rep X.K ((.ref pj, .lst es, true) :: ((v, d, false) :: (ents σ ρ1 ++ ((.ref Dl, .raw (G.map (·.1)), true) :: ((G.eraseIdx j).map (fun z => (z.1, z.2, true)) ++ L))))) H1 := by
                  have h1 : Rep X.K (ents σ ρ1 ++ ((v, d, fd) :: (hidG Dl G ++ L))) H1 := h1.rep
                  have h2 := Rep.cool (h1.perm List.perm_middle)
                  refine h2.perm ?_
                  refine List.Perm.trans (List.Perm.cons _ ((List.Perm.append_left _ (hid_out e2 L)).trans List.perm_middle)) (List.Perm.swap _ _ _)
                refine hr2 H1 _ pj es [d] (es ++ [d]) [v] .non false _ R1 rfl (fun e he => by
                  have : e = (v, d, false) := by simpa [zf] using he
                  rw [this]
                  exact List.mem_cons_self) (show (if es.length < sizeLine then some (LL.D.non, false, es ++ [d]) else none) = _ from if_pos hz) fun u H' R => ?_
                refine q σ H' (G.set j (.ref pj, .lst (es ++ [d]))) (by rw [List.map_set]) hi ⟨h1.al, ?_⟩ Fix.refl
                have R3 : Rep X.K ((.ref pj, .lst (es ++ [d]), true) :: (ents σ ρ1 ++ ((.ref Dl, .raw (G.map (·.1)), true) :: ((G.eraseIdx j).map (fun z => (z.1, z.2, true)) ++ L)))) H' := R.tail.sublist (List.Sublist.cons_cons _ (List.sublist_cons_self _ _))
                refine R3.perm ?_
                refine List.Perm.trans List.perm_middle.symm (List.Perm.append_left _ ?_)
                exact hid_back (z := (.ref pj, .lst es)) e2 L
        | _ => cases em
/-- h = [e for ..], its items owned -/
def hLc (i : Nat) (m : Rho → Option (Rho × List D)) : Rho → Option (Rho × List D) := fun ρ => match m ρ with
  | some r => some (r.1.set i none, r.2)
  | none => none
theorem here_blank {K : PySem.W.Frag} {σ : St} {ρ : Rho} {L : List En} {H : Hp} {v : V} (hh : Here K σ ρ L H) : Here K (σ.set i (some v)) (ρ.set i none) L H := by
  have hs : ∀ (j : Nat) (x : D × Bool), (ρ.set i none)[j]? = some (some x) → (σ.set i (some v))[j]? = σ[j]? := fun j x e => by
    by_cases h : i = j
    · subst h
      by_cases hl : i < ρ.length
      · rw [List.getElem?_set_self hl] at e
        cases e
      · rw [List.getElem?_eq_none (by rw [List.length_set]; omega)] at e
        cases e
    · rw [List.getElem?_set_ne h]
  refine ⟨⟨by rw [List.length_set, List.length_set]; exact hh.al.len, fun j x e => ?_⟩, ?_⟩
  · rw [hs j x e]
    exact (hh.al.forget i).val j x e
  · rw [ents_same (σ' := σ) (by rw [List.length_set]) hs]
    exact hh.rep.sublist ((ents_drop σ ρ i).append (List.Sublist.refl _))
theorem sh_lc {n : Nat} {y : Str} {elt tg iter : Expr} {scope : Scope} {own : List (Str × Nat)} {mi : EI} {t : TgM} {py pos spos : Pos} (hc : X.calm = true) (hN : X.N.Nodup) (hyl : X.env.scope.names.lookup y = some .local) (hsw : swapsWith (.ListComp elt [⟨tg, iter, [], 0⟩] scope pos) (some (.Name y py)) spos.line X.env = pure true)
    (ok : BlkOk X.N X.env.scope scope own) (hi : SI X W J tg iter mi) (hg : Blk X scope fun Y => SG Y (others n (own.map (·.2))) tg t)
    (ht : Blk X scope fun Y => STs Y W0 [] mYes) (he : Blk X scope fun Y => SE Y W0 elt me) (hJ : ∀ i ∈ J, i ∈ others n (own.map (·.2)) := by decide) (hn : X.N.length = n := by rfl) (hy : X.N[i]? = some y := by rfl) (hI : I.contains i = false := by rfl) (hs : ∀ x, foldedSetIterable iter X.env x = pure x := by intro _; rfl) :
    SH0 X W I i (.Assign [.Name y py] (.ListComp elt [⟨tg, iter, [], 0⟩] scope pos) spos) (hLc i (mLcO mi (own.map (·.2)) t me)) :=
  PS.impN (ps_setLc (g := rG (others n (own.map fun x : Str × Nat => x.2)) X.K t) (tt := rT X.K X.mg W0 mYes) (te := rE X.K X.mg W0 me) hc hN hy hyl hsw hi ok hg ht he hs) fun D σ H hl ⟨ρ, L, r, cc, hh, em, q⟩ => by
    unfold hLc at em
    cases e1 : mLcO mi (own.map (·.2)) t me ρ with
    | none => rw [e1] at em; cases em
    | some r1 =>
      rw [e1] at em
      cases em
      refine lcO_fin (K := X.K) (mg := X.mg) (W := W) (hl.trans hn) rfl rfl rfl hJ cc.toC hh e1 fun Dl G H' eG h' => ?_
      have hil : i < σ.length := by
        rw [hl]
        exact (List.getElem?_eq_some_iff.mp hy).1
      exact q _ H' Dl G eG (List.getElem?_set_self hil) (here_blank h') (Fix.set hI)
/-- several of them -/
def hSq (m1 m2 : HM) : HM := fun ρ ds => match m1 ρ ds with
  | some r => m2 r.1 r.2
  | none => none
def rHs (i : Nat) (I : List Nat) (K : PySem.W.Frag) (mg : Str → Option Value) (W : WF) (mh : HM) (mr : ES) : TS := fun D σ H => ∃ ρ Dl G L r, W.CS I σ L ∧ σ[i]? = some (some (.ref Dl)) ∧ Here K σ ρ (hidG Dl G ++ L) H ∧ mh ρ (G.map (·.2)) = some r ∧ PstS I K mg W σ L (mr r.1) D
def SHs (X : Cx) (W : WF) (I : List Nat) (i : Nat) (sts : List Stmt) (mh : HM) (mr : ES) : Prop := PSs X sts (rHs i I X.K X.mg W mh mr)
theorem shs_last {m1 : HM} {mr : ES} (h1 : SH X W I i st m1) (h : SB X W I rest mr) : SHs X W I i (st :: rest) m1 mr :=
  PSs.imp (pss_cons h1 h) fun D σ H ⟨ρ, Dl, G, L, r, cc, hi, hh, em, q⟩ =>
    ⟨ρ, Dl, G, L, r, cc, hi, hh, em, fun σ' H' G' e' hi' hh' f' => ⟨r.1, L, cc.fix f', hh'.drop, PstS.shift q f'⟩⟩
theorem shs_cons {m1 m2 : HM} {mr : ES} (h1 : SH X W I i st m1) (h : SHs X W I i sts m2 mr) : SHs X W I i (st :: sts) (hSq m1 m2) mr :=
  PSs.imp (pss_cons h1 h) fun D σ H ⟨ρ, Dl, G, L, r, cc, hi, hh, em, q⟩ => by
    unfold hSq at em
    cases e1 : m1 ρ (G.map (·.2)) with
    | none => rw [e1] at em; cases em
    | some r1 =>
      rw [e1] at em
      exact ⟨ρ, Dl, G, L, r1, cc, hi, hh, e1, fun σ' H' G' e' hi' hh' f' => ⟨r1.1, Dl, G', L, r, cc.fix f', hi', hh', by rw [e']; exact em, PstS.shift q f'⟩⟩
def mHid (m0 : Rho → Option (Rho × List D)) (mh : HM) (mr : ES) : ES := fun ρ => match m0 ρ with
  | some r => match mh r.1 r.2 with
    | some r2 => mr r2.1
    | none => .stuck
  | none => .stuck
theorem sb_hid {m0 : Rho → Option (Rho × List D)} {mr : ES} (h0 : SH0 X W I i st m0) (h : SHs X W I i sts mh mr) : SB X W I (st :: sts) (mHid m0 mh mr) :=
  PSs.imp (pss_cons h0 h) fun D σ H ⟨ρ, L, cc, hh, q⟩ => by
    unfold mHid at q
    cases e1 : m0 ρ with
    | none => rw [e1] at q; exact q.elim
    | some r =>
      rw [e1] at q
      cases e2 : mh r.1 r.2 with
      | none => simp only [e2] at q; exact q.elim
      | some r2 =>
        simp only [e2] at q
        exact ⟨ρ, L, r, cc, hh, e1, fun σ' H' Dl G' e' hi' hh' f' => ⟨r.1, Dl, G', L, r2, cc.fix f', hi', hh', by rw [e']; exact e2, PstS.shift q f'⟩⟩
end
end LL

set_option Elab.async false
set_option linter.all false
set_option maxRecDepth 100000
set_option maxHeartbeats 1000000
/-! LayRun: rules by which a meaning is run, one for each combinator; their results are found from left to right. -/
namespace LL
open PySem L2
theorem sz_le {n : Nat} (h : n ≤ 1000000) : n ≤ sizeLine := Nat.le_trans h (by rw [sizeLine_eq]; decide)
theorem sz_lt {n : Nat} (h : n < 1000000) : n < sizeLine := Nat.lt_of_lt_of_le h (by rw [sizeLine_eq]; decide)
/-- what a function answers -/
structure Ran (a b : FR) : Prop where
  eq : a = b
section
variable {ρ ρ1 ρ2 ρ3 outs : Rho} {o o1 o2 o3 : O} {os : List O} {d d1 d2 d3 : D} {f k k2 : Bool} {ds as' : List D}
theorem look_s {i : Nat} (h : at_ ρ i = some (d, f)) : look ρ (.slt i) = some d := by
  unfold look
  simp only
  rw [h]
  rfl
theorem looks_n : looks ρ [] = some [] := rfl
theorem looks_c (h1 : look ρ o = some d) (h2 : looks ρ os = some ds) : looks ρ (o :: os) = some (d :: ds) := by
  rw [looks_cons, h1, h2]
theorem tmps_n : tmps [] = some [] := rfl
theorem tmps_c (h2 : tmps os = some ds) : tmps (.tmp d f :: os) = some (d :: ds) := by
  unfold tmps
  rw [h2]
  rfl
theorem cool_t : cool (.tmp d f) ρ = .ok (.tmp d f) ρ := rfl
theorem cool_s {i : Nat} (h : at_ ρ i = some (d, f)) (h2 : ρ.set i (some (d, false)) = ρ1) : cool (.slt i) ρ = .ok (.tmp d false) ρ1 := by
  subst h2
  unfold cool
  simp only
  rw [h]
  rfl
theorem mv_t : mv (.tmp d f) ρ = .ok (.tmp d f) ρ := rfl
theorem mv_s {i : Nat} (h : at_ ρ i = some (d, f)) (h2 : ρ.set i none = ρ1) : mv (.slt i) ρ = .ok (.tmp d f) ρ1 := by
  subst h2
  unfold mv
  simp only
  rw [h]
  rfl
theorem pull_n : pull [] ρ = some ([], [], ρ) := rfl
theorem pull_t {as : List (D × Bool)} {bs : List (Option Nat)} (h : pull os ρ = some (as, bs, ρ1)) : pull (.tmp d f :: os) ρ = some ((d, f) :: as, none :: bs, ρ1) := by
  unfold pull
  rw [h]
theorem pull_f {i : Nat} {as : List (D × Bool)} {bs : List (Option Nat)} (h0 : at_ ρ i = some (d, f)) (h1 : (f && d.mu) = false) (h : pull os ρ = some (as, bs, ρ1)) : pull (.slt i :: os) ρ = some ((d, false) :: as, none :: bs, ρ1) := by
  unfold pull
  rw [h0]
  simp only
  rw [h1]
  simp only
  rw [h]
theorem pull_o {i : Nat} {as : List (D × Bool)} {bs : List (Option Nat)} (h0 : at_ ρ i = some (d, true)) (h1 : d.mu = true) (h2 : ρ.set i none = ρ1) (h : pull os ρ1 = some (as, bs, ρ2)) : pull (.slt i :: os) ρ = some ((d, true) :: as, some i :: bs, ρ2) := by
  subst h2
  unfold pull
  rw [h0]
  simp only
  rw [h1]
  simp only [Bool.and_self]
  rw [h]
theorem tgN_go {i : Nat} (h : decide (i < ρ.length) = true) (h2 : ρ.set i (some (d, f)) = ρ1) : tgN i d f ρ = some ρ1 := by
  subst h2
  exact if_pos (of_decide_eq_true h)
theorem tgT_go {n : Nat} {ts : TgMs} (h : ds.length = n) (h2 : ts ds ρ = some ρ1) : tgT n ts (.tup ds) f ρ = some ρ1 := (if_pos h).trans h2
theorem tgC_go {t : TgM} {ts : TgMs} (h : t d false ρ = some ρ1) (h2 : ts ds ρ1 = some ρ2) : tgCons t ts (d :: ds) ρ = some ρ2 := by
  show (match t d false ρ with | none => none | some ρ1 => ts ds ρ1) = _
  rw [h]
  exact h2
theorem tgNil_go : tgNil [] ρ = some ρ := rfl
theorem it_t {J : List Nat} (h : itemsOf d = some ds) : itK J (.tmp d f) ρ = .ok (ds, none) ρ := by
  unfold itK
  simp only
  rw [h]
  rfl
theorem it_s {J : List Nat} {i : Nat} (h0 : at_ ρ i = some (d, f)) (h : itemsOf d = some ds) (hj : J.contains i = true) (h2 : ρ.set i none = ρ1) : itK J (.slt i) ρ = .ok (ds, some (i, d, f)) ρ1 := by
  subst h2
  unfold itK
  simp only
  rw [h0]
  simp only [opt_some]
  rw [h]
  exact if_pos hj
theorem cond_t {α : Type} {a b r : α} (h : a = r) : cond true a b = r := h
theorem cond_f {α : Type} {a b r : α} (h : b = r) : cond false a b = r := h
theorem cond_gt {α : Type} {k : Bool} {a b r : α} (hk : k = true) (h : a = r) : cond k a b = r := by
  subst hk
  exact h
theorem cond_gf {α : Type} {k : Bool} {a b r : α} (hk : k = false) (h : b = r) : cond k a b = r := by
  subst hk
  exact h
theorem cond_if {α : Type} {k : Bool} {a b r : α} (ha : k = true → a = r) (hb : k = false → b = r) : cond k a b = r := by
  cases k
  · exact hb rfl
  · exact ha rfl
theorem seq_go {m k : ES} {r : Res Fl} (h : m ρ = .ok .nx ρ1) (h2 : k ρ1 = r) : mSeq m k ρ = r := (seq_nx h).trans h2
/-- the rest behind a result -/
def thenR (r : Res Fl) (k : ES) : Res Fl := match r with
  | .ok .nx ρ1 => k ρ1
  | r => r
theorem seq_gen {m k : ES} {r1 r : Res Fl} (h : m ρ = r1) (h2 : thenR r1 k = r) : mSeq m k ρ = r := by
  subst h
  exact h2
theorem then_nx {k : ES} {r : Res Fl} (h : k ρ = r) : thenR (.ok .nx ρ) k = r := h
theorem then_ret {k : ES} : thenR (.ok (.ret d f) ρ) k = .ok (.ret d f) ρ := rfl
theorem then_bk {k : ES} : thenR (.ok .bk ρ) k = .ok .bk ρ := rfl
theorem then_ct {k : ES} : thenR (.ok .ct ρ) k = .ok .ct ρ := rfl
theorem then_ex {x : XD} {k : ES} : thenR (.ex x ρ) k = .ex x ρ := rfl
theorem skip_go : mSkip ρ = .ok .nx ρ := rfl
theorem retN_go : mRetN ρ = .ok (.ret .non false) ρ := rfl
theorem raise_go {nm : Str} {ps : List Str} {ms : EA} {fs : List (Str × D)} (h : ms ρ = .ok os ρ1) (h2 : tmps os = some ds) (h3 : ds.length = ps.length) (h4 : ps.zip ds = fs) : mRaise nm ps ms ρ = .ex (nm, fs) ρ1 := by
  subst h4
  unfold mRaise
  rw [h]
  show opt (tmps os) _ = _
  rw [h2]
  exact if_pos h3
theorem addL_go {a b c : List D} (h : a.length + b.length ≤ sizeLine) (e : a ++ b = c) : gAdd (.lst a) (.lst b) = some (.lst c, true) := e ▸ if_pos h
theorem addT_go {a b c : List D} (h : a.length + b.length ≤ sizeLine) (e : a ++ b = c) : gAdd (.tup a) (.tup b) = some (.tup c, false) := e ▸ if_pos h
theorem str_go {i : Int} (h : -1000000 ≤ i ∧ i ≤ 1000000) : gStr [.int i] = some (.str (Str.ofString (toString i)), false) := by
  have hz : Nat.log2 i.natAbs < 1920 := by
    by_cases h0 : i.natAbs = 0
    · rw [h0]; decide
    · have := (Nat.log2_lt h0 (k := 21)).mpr (by omega)
      omega
  exact if_pos hz
theorem mul_go {a b : Int} (h : (-1000000 ≤ a ∧ a ≤ 1000000) ∨ (-1000000 ≤ b ∧ b ≤ 1000000)) : gMul (.int a) (.int b) = some (.int (a * b), false) := gMul_int (by
  simp only [mulOk, decide_eq_true_eq]
  omega)
theorem mod_go {a b : Int} (h : b ≠ 0) : gMod (.int a) (.int b) = some (.int (a.fmod b), false) := gMod_int h
theorem pickL {l : List D} {n : Int} (h0 : 0 ≤ n) (h1 : n < l.length) : ∃ x, gIx (.lst l) (.int n) = some x ∧ x ∈ l := by
  obtain ⟨k, rfl⟩ : ∃ k : Nat, n = k := ⟨n.toNat, by omega⟩
  have hk : k < l.length := by omega
  exact ⟨l[k], L2.atI_nat (List.getElem?_eq_getElem hk), List.getElem_mem hk⟩
theorem nin_go {a : Str} {l : List Str} (h : a ∉ l) : a ∉ l := h
theorem eqH {α : Type} {a b : α} (h : a = b) : a = b := h
theorem seq_ret_go {m k : ES} (h : m ρ = .ok (.ret d f) ρ1) : mSeq m k ρ = .ok (.ret d f) ρ1 := seq_ret h
theorem if_go {t : ET} {a b : ES} {r : Res Fl} (h : t ρ = .ok k ρ1) (h2 : cond k (a ρ1) (b ρ1) = r) : mIf t a b ρ = r := by
  cases k
  · exact (if_f h).trans h2
  · exact (if_t h).trans h2
theorem ifE_go {t : ET} {a b : EE} {r : Res O} (h : t ρ = .ok k ρ1) (h2 : cond k (a ρ1) (b ρ1) = r) : mIfE t a b ρ = r := by
  unfold mIfE
  rw [h]
  cases k <;> exact h2
theorem and_go {ta tb : ET} {r : Res Bool} (h : ta ρ = .ok k ρ1) (h2 : cond k (tb ρ1) (.ok false ρ1) = r) : mAnd ta tb ρ = r := by
  cases k
  · exact (and_f h).trans h2
  · exact (and_t h).trans h2
theorem or_go {ta tb : ET} {r : Res Bool} (h : ta ρ = .ok k ρ1) (h2 : cond k (.ok true ρ1) (tb ρ1) = r) : mOr ta tb ρ = r := by
  cases k
  · exact (or_f h).trans h2
  · exact (or_t h).trans h2
theorem andV_go {ma mb : EE} {r : Res O} (h : ma ρ = .ok o ρ1) (e : look ρ1 o = some d) (e2 : truth d = some k) (h2 : cond k (mb ρ1) (.ok o ρ1) = r) : mAndV ma mb ρ = r := by
  unfold mAndV
  rw [h]
  show opt (look ρ1 o) _ = r
  rw [e]
  show opt (truth d) _ = r
  rw [e2]
  cases k <;> exact h2
theorem orV_go {ma mb : EE} {r : Res O} (h : ma ρ = .ok o ρ1) (e : look ρ1 o = some d) (e2 : truth d = some k) (h2 : cond k (.ok o ρ1) (mb ρ1) = r) : mOrV ma mb ρ = r := by
  unfold mOrV
  rw [h]
  show opt (look ρ1 o) _ = r
  rw [e]
  show opt (truth d) _ = r
  rw [e2]
  cases k <;> exact h2
theorem notV_go {ma : EE} (h : ma ρ = .ok o ρ1) (e : look ρ1 o = some d) (e2 : truth d = some k) : mNotV ma ρ = .ok (.tmp (.bl (!k)) false) ρ1 := by
  unfold mNotV
  rw [h]
  show opt (look ρ1 o) _ = _
  rw [e]
  show opt (truth d) _ = _
  rw [e2]
  rfl
theorem bin_go {g : D → D → Option (D × Bool)} {ma mb : EE} (h1 : ma ρ = .ok o1 ρ1) (h2 : mb ρ1 = .ok o2 ρ2) (e1 : look ρ2 o1 = some d1) (e2 : look ρ2 o2 = some d2) (e3 : g d1 d2 = some (d, f)) : mBin g ma mb ρ = .ok (.tmp d f) ρ2 := bin_run h1 h2 e1 e2 e3
theorem ix_go {ma mb : EE} (h1 : ma ρ = .ok o1 ρ1) (h2 : mb ρ1 = .ok o2 ρ2) (e1 : look ρ2 o1 = some d1) (e2 : look ρ2 o2 = some d2) (e3 : gIx d1 d2 = some d) : mIx ma mb ρ = .ok (.tmp d false) ρ2 :=
  bin_run (x := (d, false)) h1 h2 e1 e2 (by unfold ixG; rw [e3])
theorem bl_go {g : D → D → Option Bool} (h : g d1 d2 = some k) : blOf g d1 d2 = some (.bl k, false) := by
  unfold blOf
  rw [h]
theorem un_go {g : D → Option (D × Bool)} {ma : EE} (h1 : ma ρ = .ok o1 ρ1) (e1 : look ρ1 o1 = some d1) (e3 : g d1 = some (d, f)) : mUn g ma ρ = .ok (.tmp d f) ρ1 := by
  unfold mUn
  rw [h1]
  show opt (look ρ1 o1) _ = _
  rw [e1]
  show opt (g d1) _ = _
  rw [e3]
  rfl
theorem blt_go {g : List D → Option (D × Bool)} {ms : EA} (h1 : ms ρ = .ok os ρ1) (h2 : looks ρ1 os = some ds) (h3 : g ds = some (d, f)) : mBlt g ms ρ = .ok (.tmp d f) ρ1 := blt_run (x := (d, f)) h1 h2 h3
theorem tup_go {ms : EA} (h1 : ms ρ = .ok os ρ1) (h2 : tmps os = some ds) (h3 : ds.length ≤ sizeLine) : mTup ms ρ = .ok (.tmp (.tup ds) false) ρ1 := by
  unfold mTup
  rw [h1]
  show opt (tmps os) _ = _
  rw [h2]
  exact if_pos h3
theorem lst_go {ms : EA} (h1 : ms ρ = .ok os ρ1) (h2 : tmps os = some ds) (h3 : ds.length ≤ sizeLine) : mLst ms ρ = .ok (.tmp (.lst ds) true) ρ1 := by
  unfold mLst
  rw [h1]
  show opt (tmps os) _ = _
  rw [h2]
  exact if_pos h3
theorem esc_go {m : EE} {r : Res O} (h : m ρ = .ok o ρ1) (h2 : cool o ρ1 = r) : mEsc m ρ = r := by
  unfold mEsc
  rw [h]
  exact h2
theorem mv_go {m : EE} {r : Res O} (h : m ρ = .ok o ρ1) (h2 : mv o ρ1 = r) : mMv m ρ = r := by
  unfold mMv
  rw [h]
  exact h2
theorem sl_go {m : EE} {p1 p2 : EP} {lo hi : Option Int} (h1 : m ρ = .ok o ρ1) (h2 : p1 ρ1 = .ok lo ρ2) (h3 : p2 ρ2 = .ok hi ρ3) (h4 : look ρ3 o = some d1) (h5 : gSl d1 lo hi = some (d, f)) : mSl m p1 p2 ρ = .ok (.tmp d f) ρ3 := sl_run (x := (d, f)) h1 h2 h3 h4 h5
theorem p_go {m : EE} {n : Int} (h : m ρ = .ok o ρ1) (h2 : look ρ1 o = some (.int n)) : mP m ρ = .ok (some n) ρ1 := by
  unfold mP
  rw [h]
  show opt (look ρ1 o) _ = _
  rw [h2]
  rfl
theorem isi_go {T : String} {m : EE} (h : m ρ = .ok o ρ1) (e : look ρ1 o = some d) (e2 : gIsi T d = some k) : mIsi T m ρ = .ok (.tmp (.bl k) false) ρ1 := by
  unfold mIsi
  rw [h]
  show opt (look ρ1 o) _ = _
  rw [e]
  show opt (gIsi T d) _ = _
  rw [e2]
  rfl
theorem chn_go {g g' : D → D → Option Bool} {ma mb mc : EE} {r : Res O} (h1 : ma ρ = .ok o1 ρ1) (h2 : mb ρ1 = .ok o2 ρ2) (e1 : look ρ2 o1 = some d1) (e2 : look ρ2 o2 = some d2) (e3 : g d1 d2 = some k)
    (h3 : mc ρ2 = .ok o3 ρ3) (e4 : look ρ3 o2 = some d2) (e5 : look ρ3 o3 = some d3) (e6 : g' d2 d3 = some k2) (h : cond k (.ok (.tmp (.bl k2) false) ρ3) (.ok (.tmp (.bl false) false) ρ2) = r) : mChn g g' ma mb mc ρ = r := by
  unfold mChn
  rw [h1]
  show (mb ρ1).bind _ = r
  rw [h2]
  show opt (look ρ2 o1) _ = r
  rw [e1]
  show opt (look ρ2 o2) _ = r
  rw [e2]
  show opt (g d1 d2) _ = r
  rw [e3]
  cases k with
  | false => exact h
  | true =>
    show (mc ρ2).bind _ = r
    rw [h3]
    show opt (look ρ3 o2) _ = r
    rw [e4]
    show opt (look ρ3 o3) _ = r
    rw [e5]
    show opt (g' d2 d3) _ = r
    rw [e6]
    exact h
/-- a chain whose last part changes no slot -/
theorem chn_same {g g' : D → D → Option Bool} {ma mb mc : EE} (h1 : ma ρ = .ok o1 ρ1) (h2 : mb ρ1 = .ok o2 ρ2) (e1 : look ρ2 o1 = some d1) (e2 : look ρ2 o2 = some d2) (e3 : g d1 d2 = some k)
    (h3 : mc ρ2 = .ok o3 ρ2) (e5 : look ρ2 o3 = some d3) (e6 : g' d2 d3 = some k2) : mChn g g' ma mb mc ρ = .ok (.tmp (.bl (k && k2)) false) ρ2 :=
  chn_go h1 h2 e1 e2 e3 h3 e2 e5 e6 (by cases k <;> rfl)
theorem chnT_go {g g' : D → D → Option Bool} {ma mb mc : EE} (h : mChn g g' ma mb mc ρ = .ok (.tmp (.bl k) f) ρ1) : mChnT g g' ma mb mc ρ = .ok k ρ1 := by
  unfold mChnT
  rw [h]
  rfl
theorem call_go {n : Nat} {mf : FM} {ms : EA} {as : List (D × Bool)} {bs : List (Option Nat)} (h1 : ms ρ = .ok os ρ1) (hl : os.length = n) (hp : pull os ρ1 = some (as, bs, ρ2)) (hf : Ran (mf as) (.ok d f outs)) (he : push bs outs ρ2 = ρ3) : mCall n mf ms ρ = .ok (.tmp d f) ρ3 := he ▸ call_run h1 hl hp hf.eq
theorem callK_go {n : Nat} {mf : FM} {as : List (D × Bool)} {bs : List (Option Nat)} (hl : os.length = n) (hp : pull os ρ1 = some (as, bs, ρ2)) (hf : Ran (mf as) (.ok d f outs)) (he : push bs outs ρ2 = ρ3) : callK n mf os ρ1 = .ok (.tmp d f) ρ3 := by
  subst he
  unfold callK
  rw [if_pos hl, hp]
  simp only
  rw [hf.eq]
theorem make_go {c c' : Str} {n : Nat} {mf : FM} {ms : EA} {as : List (D × Bool)} {bs : List (Option Nat)} {ns : List Str} {g : Bool} (h1 : ms ρ = .ok os ρ1) (hl : os.length + 1 = n) (hp : pull os ρ1 = some (as, bs, ρ2)) (hf : Ran (mf ((.obj c [] [], true) :: as)) (.ok .non f (some (.obj c' ns ds, g) :: outs))) (he : push bs outs ρ2 = ρ3) : mMake c n mf ms ρ = .ok (.tmp (.obj c' ns ds) false) ρ3 := by
  subst he
  unfold mMake
  rw [h1]
  show makeK c n mf os ρ1 = _
  unfold makeK
  rw [if_pos hl, hp]
  simp only
  rw [hf.eq]
  rfl
theorem own1_go {c : Str} {mf : FM} {mo : EE} {r : Res O} (h1 : mo ρ = .ok o ρ1) (e : look ρ1 o = some d) (e2 : isO c d = true) (h : callK 1 mf [o] ρ1 = r) : mOwn1 c mf mo ρ = r := by
  unfold mOwn1
  rw [h1]
  show opt (look ρ1 o) _ = r
  rw [e]
  exact (if_pos e2).trans h
theorem own2_go {c : Str} {mf : FM} {ma mb : EE} {r : Res O} (h1 : ma ρ = .ok o1 ρ1) (h2 : mb ρ1 = .ok o2 ρ2) (e : look ρ2 o1 = some d) (e2 : isO c d = true) (h : callK 2 mf [o1, o2] ρ2 = r) : mOwn2 c mf ma mb ρ = r := by
  unfold mOwn2
  rw [h1]
  show (mb ρ1).bind _ = r
  rw [h2]
  show opt (look ρ2 o1) _ = r
  rw [e]
  exact (if_pos e2).trans h
theorem both_go {c : Str} {mf : FM} {ma mb : EE} {r : Res O} (h1 : ma ρ = .ok o1 ρ1) (h2 : mb ρ1 = .ok o2 ρ2) (e1 : look ρ2 o1 = some d1) (e2 : look ρ2 o2 = some d2) (e3 : (isO c d1 && isO c d2) = true) (h : callK 2 mf [o1, o2] ρ2 = r) : mBoth c mf ma mb ρ = r := by
  unfold mBoth
  rw [h1]
  show (mb ρ1).bind _ = r
  rw [h2]
  show opt (look ρ2 o1) _ = r
  rw [e1]
  show opt (look ρ2 o2) _ = r
  rw [e2]
  exact (if_pos e3).trans h
theorem ne_go {c : Str} {mf : FM} {ma mb : EE} (h : mBoth c mf ma mb ρ = .ok (.tmp (.bl k) f) ρ1) : mNe c mf ma mb ρ = .ok (.tmp (.bl (!k)) false) ρ1 := by
  unfold mNe
  rw [h]
  rfl
theorem len63 {n : Nat} (h2 : n < 1000000) : 0 ≤ (n : Int) ∧ (n : Int) < 2 ^ 63 := ⟨by omega, by omega⟩
theorem lenO_a {x : Int} {c : Str} {mf : FM} {mo : EE} (h : mOwn1 c mf mo ρ = .ok (.tmp (.int x) f) ρ1) (h2 : 0 ≤ x ∧ x < 2 ^ 63) : mLenO c mf mo ρ = .ok (.tmp (.int x) false) ρ1 := by
  unfold mLenO
  rw [h]
  exact if_pos h2
theorem lenO_go {c : Str} {mf : FM} {mo : EE} {n : Nat} (h : mOwn1 c mf mo ρ = .ok (.tmp (.int (n : Nat)) f) ρ1) (h2 : n < 1000000) : mLenO c mf mo ρ = .ok (.tmp (.int (n : Nat)) false) ρ1 := lenO_a h (len63 h2)
theorem inO_go {c : Str} {neg : Bool} {mf : FM} {ma mb : EE} (h1 : ma ρ = .ok o1 ρ1) (h2 : mb ρ1 = .ok o2 ρ2) (e1 : look ρ2 o2 = some d) (e2 : isO c d = true) (h : callK 2 mf [o2, o1] ρ2 = .ok (.tmp (.bl k) f) ρ3) : mInO c neg mf ma mb ρ = .ok (.tmp (.bl (if neg then !k else k)) false) ρ3 := by
  unfold mInO
  rw [h1]
  show (mb ρ1).bind _ = _
  rw [h2]
  show opt (look ρ2 o2) _ = _
  rw [e1]
  show (if isO c d = true then _ else _) = _
  rw [if_pos e2, h]
  rfl
theorem prp_go {c : Str} {mf : FM} {mo : EE} (h1 : mo ρ = .ok o ρ1) (e : look ρ1 o = some d1) (e2 : isO c d1 = true) (h : callK 1 mf [o] ρ1 = .ok (.tmp d f) ρ2) : mPrp c mf mo ρ = .ok (.tmp d f) ρ2 := by
  unfold mPrp
  rw [h1]
  show opt (look ρ1 o) _ = _
  rw [e]
  show (if isO c d1 = true then _ else _) = _
  rw [if_pos e2, h]
  rfl
theorem attr_go {tab : List Str} {x : Str} {m : EE} (h1 : m ρ = .ok o ρ1) (e : look ρ1 o = some d1) (e2 : attrG tab x d1 = some d) : mAttr tab x m ρ = .ok (.tmp d false) ρ1 := by
  unfold mAttr
  rw [h1]
  show opt (look ρ1 o) _ = _
  rw [e]
  show opt (attrG tab x d1) _ = _
  rw [e2]
  rfl
theorem isC_go {c : Str} {m : EE} (h1 : m ρ = .ok o ρ1) (e : look ρ1 o = some d1) (e2 : isO c d1 = true) : mIsC c m ρ = .ok (.tmp (.bl true) false) ρ1 := by
  unfold mIsC
  rw [h1]
  show opt (look ρ1 o) _ = _
  rw [e]
  exact if_pos e2
theorem lstO_go {c x : Str} {m : EE} {l : List D} (h1 : m ρ = .ok o ρ1) (e : look ρ1 o = some d1) (e2 : lstO c x d1 = some l) : mLstO c x m ρ = .ok (.tmp (.lst l) true) ρ1 := by
  unfold mLstO
  rw [h1]
  show opt (look ρ1 o) _ = _
  rw [e]
  show opt (lstO c x d1) _ = _
  rw [e2]
  rfl
theorem meth_go {c m : Str} {n : Nat} {mf : FM} {mo : EE} {ms : EA} {ns : List Str} {r : Res O} (h1 : mo ρ = .ok o ρ1) (e : look ρ1 o = some (.obj c ns ds)) (e2 : m ∉ ns) (h2 : ms ρ1 = .ok os ρ2) (h : callK n mf (o :: os) ρ2 = r) : mMeth c m n mf mo ms ρ = r := by
  unfold mMeth
  rw [h1]
  show opt (look ρ1 o) _ = r
  rw [e]
  show (if c = c ∧ m ∉ ns then _ else _) = r
  rw [if_pos ⟨rfl, e2⟩, h2]
  exact h
theorem drop_go {m : EE} (h : m ρ = .ok o ρ1) : mDrop m ρ = .ok .nx ρ1 := by
  unfold mDrop
  rw [h]
  rfl
theorem mut_go {i : Nat} {gm : List D → List D → Option (D × Bool × List D)} {ms : EA} {as ds0 ds ds' : List D} (h0 : ownL ρ i = some ds0) (h1 : ms ρ = .ok os ρ1) (h2 : tmps os = some as) (h3 : ownL ρ1 i = some ds) (h4 : gm ds as = some (d, f, ds')) (h5 : ρ1.set i (some (.lst ds', true)) = ρ2) : mMut i gm ms ρ = .ok (.tmp d f) ρ2 := by
  subst h5
  unfold mMut
  simp only [h0, h1, h2, h3, h4, opt_some, bind_ok]
theorem append_go {a : D} {ds : List D} (h : ds.length < sizeLine) : gAppend ds [a] = some (.non, false, ds ++ [a]) := if_pos h
theorem setI_go {i j : Nat} {me mi : EE} {kk : Int} {ds0 ds : List D} (h1 : me ρ = .ok (.tmp d f) ρ1) (h2 : ownL ρ1 i = some ds0) (h3 : mi ρ1 = .ok o2 ρ2) (h4 : look ρ2 o2 = some (.int kk)) (h5 : ownL ρ2 i = some ds) (h6 : ixN ds.length kk = some j) (h7 : ρ2.set i (some (.lst (ds.set j d), true)) = ρ3) : mSetI i me mi ρ = .ok .nx ρ3 := by
  subst h7
  unfold mSetI
  simp only [h1, h2, h3, h4, h5, h6, opt_some, bind_ok]
theorem aug_go {i : Nat} {g : Int → Int → Int} {m : EE} {a b : Int} (h0 : at_ ρ i = some (.int a, k)) (h1 : m ρ = .ok o ρ1) (h2 : look ρ1 o = some (.int b)) (h3 : ρ1.set i (some (.int (g a b), false)) = ρ2) : mAug i g m ρ = .ok .nx ρ2 := by
  subst h3
  unfold mAug
  simp only [h0, h1, h2, opt_some, bind_ok]
theorem for_go {mi : EI} {t : TgM} {body : ES} {b : Bk} {r r1 : Res Fl} (h1 : mi ρ = .ok (ds, b) ρ1) (h2 : loopM t body ds ρ1 = r1) (h3 : r1.rest b = r) : mFor mi t body ρ = r := by
  subst h3
  exact for_run (ρ2 := []) h1 h2
theorem loop_nil {t : TgM} {body : ES} : loopM t body [] ρ = .ok .nx ρ := rfl
theorem loop_cons {t : TgM} {body : ES} {r : Res Fl} (h1 : t d false ρ = some ρ1) (h2 : body ρ1 = .ok .nx ρ2) (h3 : loopM t body ds ρ2 = r) : loopM t body (d :: ds) ρ = r := by
  unfold loopM
  rw [h1]
  simp only
  rw [h2]
  exact h3
theorem loop_ret {t : TgM} {body : ES} (h1 : t d1 false ρ = some ρ1) (h2 : body ρ1 = .ok (.ret d f) ρ2) : loopM t body (d1 :: ds) ρ = .ok (.ret d f) ρ2 := by
  unfold loopM
  rw [h1]
  simp only
  rw [h2]
theorem it_go {J : List Nat} {m : EE} {r : Res (List D × Bk)} (h : m ρ = .ok o ρ1) (h2 : itK J o ρ1 = r) : mIt J m ρ = r := by
  unfold mIt
  rw [h]
  exact h2
theorem rng1_go {ms : EA} {j : Int} (h : ms ρ = .ok os ρ1) (h2 : looks ρ1 os = some [.int j]) (h3 : -1000000 ≤ j ∧ j ≤ 1000000) : mRng1 ms ρ = .ok (rngD 0 j, none) ρ1 := by
  unfold mRng1
  rw [h]
  show opt (looks ρ1 os) _ = _
  rw [h2]
  have hr : rngOk 0 j = true := by
    simp only [rngOk, decide_eq_true_eq]
    omega
  exact if_pos hr
theorem rng2_go {ms : EA} {i j : Int} (h : ms ρ = .ok os ρ1) (h2 : looks ρ1 os = some [.int i, .int j]) (h3 : -1000000 ≤ j ∧ j ≤ 1000000) (h4 : -1000000 ≤ i ∧ i ≤ 1000000) : mRng2 ms ρ = .ok (rngD i j, none) ρ1 := by
  unfold mRng2
  rw [h]
  show opt (looks ρ1 os) _ = _
  rw [h2]
  have hr : rngOk i j = true := by
    simp only [rngOk, decide_eq_true_eq]
    omega
  exact if_pos hr
theorem lc_go {mi : EI} {vs : List Nat} {t : TgM} {tt : ET} {me : EE} {acc : List D} {b : Bk} (h1 : mi ρ = .ok (ds, b) ρ1) (h2 : lcM vs t tt me ds [] (rwipe ρ1 vs) = some (acc, ρ2)) (h3 : restore b ρ2 = ρ3) : mLc mi vs t tt me ρ = .ok (.tmp (.lst acc) true) ρ3 := by
  subst h3
  unfold mLc
  rw [h1]
  show (match lcM vs t tt me ds [] (rwipe ρ1 vs) with | none => Res.stuck | some (acc, ρ2) => Res.ok (O.tmp (.lst acc) true) (restore b ρ2)) = _
  rw [h2]
/-- a comprehension without a test: an invariant of the slots -/
theorem lcM_inv {vs : List Nat} {t : TgM} {tt : ET} {me : EE} (P : Rho → Prop) (Q : D → Prop) : ∀ (ds acc : List D) (ρ : Rho), P ρ → acc.length + ds.length ≤ sizeLine →
    (∀ d ∈ ds, ∀ ρ, P ρ → ∃ ρ1 ρ2 ρ3 x fx, t d false ρ = some ρ1 ∧ tt ρ1 = .ok true ρ2 ∧ me ρ2 = .ok (.tmp x fx) ρ3 ∧ P (rwipe ρ3 vs) ∧ Q x) → ∃ xs ρ', lcM vs t tt me ds acc ρ = some (acc ++ xs, ρ') ∧ P ρ' ∧ xs.length = ds.length ∧ ∀ x ∈ xs, Q x
  | [], acc, ρ, h, _, _ => ⟨[], ρ, by simp [lcM], h, rfl, fun x hx => by cases hx⟩
  | d :: ds, acc, ρ, h, hl, hs => by
    obtain ⟨ρ1, ρ2, ρ3, x, fx, e1, e2, e3, h2, hq⟩ := hs d List.mem_cons_self ρ h
    have hz : acc.length < sizeLine := by simp at hl; omega
    obtain ⟨xs, ρ', e4, h4, h5, h6⟩ := lcM_inv P Q ds (acc ++ [x]) (rwipe ρ3 vs) h2 (by simp at hl ⊢; omega) fun d' hd => hs d' (List.mem_cons_of_mem _ hd)
    refine ⟨x :: xs, ρ', ?_, h4, by simp [h5], fun y hy => ?_⟩
    · have e : lcTurn vs t tt me d acc ρ = some (acc ++ [x], rwipe ρ3 vs) := by
        unfold lcTurn
        rw [e1]
        simp only
        rw [e2]
        simp only
        rw [e3]
        simp only
        rw [if_pos hz]
      unfold lcM
      rw [e]
      simp only
      rw [e4]
      simp
    · rcases List.mem_cons.mp hy with rfl | hy
      · exact hq
      · exact h6 y hy
theorem lcM_nil {vs : List Nat} {t : TgM} {tt : ET} {me : EE} {acc : List D} : lcM vs t tt me [] acc ρ = some (acc, ρ) := rfl
theorem lcM_cons {vs : List Nat} {t : TgM} {tt : ET} {me : EE} {acc : List D} {x : D} {fx : Bool} {ρ4 : Rho} {r : Option (List D × Rho)} (e1 : t d false ρ = some ρ1) (e2 : tt ρ1 = .ok true ρ2) (e3 : me ρ2 = .ok (.tmp x fx) ρ3) (hz : acc.length < sizeLine) (e4 : rwipe ρ3 vs = ρ4) (h : lcM vs t tt me ds (acc ++ [x]) ρ4 = r) : lcM vs t tt me (d :: ds) acc ρ = r := by
  subst e4
  have e : lcTurn vs t tt me d acc ρ = some (acc ++ [x], rwipe ρ3 vs) := by
    unfold lcTurn
    rw [e1]
    simp only
    rw [e2]
    simp only
    rw [e3]
    simp only
    rw [if_pos hz]
  unfold lcM
  rw [e]
  exact h
theorem yes_go : mYes ρ = .ok true ρ := rfl
theorem try_ok {body : ES} {tab : List (Str × List Str)} {hit : List (Str × Bool)} {i : Nat} {suite : XD → ES} {fl : Fl} (h : body ρ = .ok fl ρ1) : mTryAs body tab hit i suite ρ = .ok fl ρ1 := by
  unfold mTryAs
  rw [h]
end
end LL

set_option Elab.async false
set_option linter.all false
set_option maxRecDepth 100000
set_option maxHeartbeats 2000000
namespace Gn
open PySem L2 LL
def topS (i : Nat) : Stmt := PySem.Challenge.pw_onelooker_k28_sums_of_certificates.main.body.getD i (.Pass ⟨0, 0, 0, 0⟩)
abbrev s_Certificate___init__ : Stmt := ((clsBody (topS 10)).getD 0 (.Pass ⟨0, 0, 0, 0⟩))
abbrev N_Certificate___init__ : List Str := ["self", "rows"]
theorem S_Certificate___init__ : FnScope N_Certificate___init__ ["self", "rows"] (defScope s_Certificate___init__) := ⟨rfl, rfl, rfl, by decide +kernel, rfl, by decide +kernel, by decide +kernel⟩
abbrev s_Certificate_given : Stmt := ((clsBody (topS 10)).getD 1 (.Pass ⟨0, 0, 0, 0⟩))
abbrev N_Certificate_given : List Str := ["label"]
theorem S_Certificate_given : FnScope N_Certificate_given ["label"] (defScope s_Certificate_given) := ⟨rfl, rfl, rfl, by decide +kernel, rfl, by decide +kernel, by decide +kernel⟩
abbrev s_Certificate_theory : Stmt := ((clsBody (topS 10)).getD 2 (.Pass ⟨0, 0, 0, 0⟩))
abbrev N_Certificate_theory : List Str := ["owner", "clause"]
theorem S_Certificate_theory : FnScope N_Certificate_theory ["owner", "clause"] (defScope s_Certificate_theory) := ⟨rfl, rfl, rfl, by decide +kernel, rfl, by decide +kernel, by decide +kernel⟩
abbrev s_Certificate_last : Stmt := ((clsBody (topS 10)).getD 3 (.Pass ⟨0, 0, 0, 0⟩))
abbrev N_Certificate_last : List Str := ["self"]
theorem S_Certificate_last : FnScope N_Certificate_last ["self"] (defScope s_Certificate_last) := ⟨rfl, rfl, rfl, by decide +kernel, rfl, by decide +kernel, by decide +kernel⟩
abbrev s_Certificate___len__ : Stmt := ((clsBody (topS 10)).getD 4 (.Pass ⟨0, 0, 0, 0⟩))
abbrev N_Certificate___len__ : List Str := ["self"]
theorem S_Certificate___len__ : FnScope N_Certificate___len__ ["self"] (defScope s_Certificate___len__) := ⟨rfl, rfl, rfl, by decide +kernel, rfl, by decide +kernel, by decide +kernel⟩
abbrev s_is_whole : Stmt := topS 5
abbrev N_is_whole : List Str := ["value", "least", "most"]
theorem S_is_whole : FnScope N_is_whole ["value", "least", "most"] (defScope s_is_whole) := ⟨rfl, rfl, rfl, by decide +kernel, rfl, by decide +kernel, by decide +kernel⟩
abbrev s_Certificate___getitem__ : Stmt := ((clsBody (topS 10)).getD 6 (.Pass ⟨0, 0, 0, 0⟩))
abbrev N_Certificate___getitem__ : List Str := ["self", "at"]
theorem S_Certificate___getitem__ : FnScope N_Certificate___getitem__ ["self", "at"] (defScope s_Certificate___getitem__) := ⟨rfl, rfl, rfl, by decide +kernel, rfl, by decide +kernel, by decide +kernel⟩
abbrev s_Certificate___eq__ : Stmt := ((clsBody (topS 10)).getD 7 (.Pass ⟨0, 0, 0, 0⟩))
abbrev N_Certificate___eq__ : List Str := ["self", "other"]
theorem S_Certificate___eq__ : FnScope N_Certificate___eq__ ["self", "other"] (defScope s_Certificate___eq__) := ⟨rfl, rfl, rfl, by decide +kernel, rfl, by decide +kernel, by decide +kernel⟩
abbrev s_is_integer : Stmt := topS 7
abbrev N_is_integer : List Str := ["value"]
theorem S_is_integer : FnScope N_is_integer ["value"] (defScope s_is_integer) := ⟨rfl, rfl, rfl, by decide +kernel, rfl, by decide +kernel, by decide +kernel⟩
abbrev s_is_resolve_row : Stmt := topS 8
abbrev N_is_resolve_row : List Str := ["row"]
theorem S_is_resolve_row : FnScope N_is_resolve_row ["row"] (defScope s_is_resolve_row) := ⟨rfl, rfl, rfl, by decide +kernel, rfl, by decide +kernel, by decide +kernel⟩
abbrev s_moved_row : Stmt := topS 9
abbrev N_moved_row : List Str := ["row", "steps"]
theorem S_moved_row : FnScope N_moved_row ["row", "steps"] (defScope s_moved_row) := ⟨rfl, rfl, rfl, by decide +kernel, rfl, by decide +kernel, by decide +kernel⟩
abbrev s_Certificate___add__ : Stmt := ((clsBody (topS 10)).getD 8 (.Pass ⟨0, 0, 0, 0⟩))
abbrev N_Certificate___add__ : List Str := ["self", "other", "steps", "row"]
theorem S_Certificate___add__ : FnScope N_Certificate___add__ ["self", "other"] (defScope s_Certificate___add__) := ⟨rfl, rfl, rfl, by decide +kernel, rfl, by decide +kernel, by decide +kernel⟩
abbrev s_Certificate_resolve : Stmt := ((clsBody (topS 10)).getD 9 (.Pass ⟨0, 0, 0, 0⟩))
abbrev N_Certificate_resolve : List Str := ["self", "first", "second", "atom"]
theorem S_Certificate_resolve : FnScope N_Certificate_resolve ["self", "first", "second", "atom"] (defScope s_Certificate_resolve) := ⟨rfl, rfl, rfl, by decide +kernel, rfl, by decide +kernel, by decide +kernel⟩
abbrev s__law_state : Stmt := topS 12
abbrev N__law_state : List Str := ["_law_script"]
theorem S__law_state : FnScope N__law_state ["_law_script"] (defScope s__law_state) := ⟨rfl, rfl, rfl, by decide +kernel, rfl, by decide +kernel, by decide +kernel⟩
abbrev s__law_draw : Stmt := topS 13
abbrev N__law_draw : List Str := ["_law_state_here", "_law_many", "_law_cell", "_law_found", "_law_mixed"]
theorem S__law_draw : FnScope N__law_draw ["_law_state_here", "_law_many"] (defScope s__law_draw) := ⟨rfl, rfl, rfl, by decide +kernel, rfl, by decide +kernel, by decide +kernel⟩
abbrev s__law_alike : Stmt := topS 14
abbrev N__law_alike : List Str := ["_law_actual", "_law_due", "_law_k"]
theorem S__law_alike : FnScope N__law_alike ["_law_actual", "_law_due"] (defScope s__law_alike) := ⟨rfl, rfl, rfl, by decide +kernel, rfl, by decide +kernel, by decide +kernel⟩
abbrev s__law_value : Stmt := topS 15
abbrev N__law_value : List Str := ["_law_state_here", "_law_atom", "_law_i", "_law_j", "_law_menu"]
theorem S__law_value : FnScope N__law_value ["_law_state_here"] (defScope s__law_value) := ⟨rfl, rfl, rfl, by decide +kernel, rfl, by decide +kernel, by decide +kernel⟩
abbrev s__law_is_whole : Stmt := topS 16
abbrev N__law_is_whole : List Str := ["_law_value_here"]
theorem S__law_is_whole : FnScope N__law_is_whole ["_law_value_here"] (defScope s__law_is_whole) := ⟨rfl, rfl, rfl, by decide +kernel, rfl, by decide +kernel, by decide +kernel⟩
abbrev s__law_moved : Stmt := topS 17
abbrev N__law_moved : List Str := ["_law_rows", "_law_steps", "_law_found", "_law_row", "_law_resolve"]
theorem S__law_moved : FnScope N__law_moved ["_law_rows", "_law_steps"] (defScope s__law_moved) := ⟨rfl, rfl, rfl, by decide +kernel, rfl, by decide +kernel, by decide +kernel⟩
abbrev s__law_item : Stmt := topS 18
abbrev N__law_item : List Str := ["_law_certificate", "_law_at", "error"]
theorem S__law_item : FnScope N__law_item ["_law_certificate", "_law_at"] (defScope s__law_item) := ⟨rfl, rfl, rfl, by decide +kernel, rfl, by decide +kernel, by decide +kernel⟩
abbrev s__law_is : Stmt := topS 19
abbrev N__law_is : List Str := ["_law_certificate", "_law_rows", "_law_at"]
theorem S__law_is : FnScope N__law_is ["_law_certificate", "_law_rows"] (defScope s__law_is) := ⟨rfl, rfl, rfl, by decide +kernel, rfl, by decide +kernel, by decide +kernel⟩
abbrev s_law : Stmt := topS 20
abbrev N_law : List Str := ["_law_script", "_law_state_here", "_law_rows", "_law_handed", "_law_first", "_law_second", "_law_third", "_law_both", "_law_due", "_law_whole", "_law_label", "_law_clause", "_law_i", "_law_j", "_law_row", "_law_k"]
theorem S_law : FnScope N_law ["_law_script"] (defScope s_law) := ⟨rfl, rfl, rfl, by decide +kernel, rfl, by decide +kernel, by decide +kernel⟩
abbrev s_Certificate___iter__ : Stmt := ((clsBody (topS 10)).getD 5 (.Pass ⟨0, 0, 0, 0⟩))
theorem S_Certificate___iter__ : FnScope ["self"] ["self"] (defScope s_Certificate___iter__) := ⟨rfl, rfl, rfl, by decide +kernel, rfl, by decide +kernel, by decide +kernel⟩
/-- the errors: names, fields -/
abbrev errTab : List (Str × List Str) := [("BadRow", ["index"]), ("BadStep", ["index"])]
abbrev hit_BadRow : List (Str × Bool) := [("BadRow", true), ("BadStep", false)]
abbrev hit_BadStep : List (Str × Bool) := [("BadRow", false), ("BadStep", true)]
abbrev hit_LookerError : List (Str × Bool) := [("BadRow", true), ("BadStep", true)]
abbrev hit_ValueError : List (Str × Bool) := [("BadRow", true), ("BadStep", true)]
structure Txt (P : Program) (w : World) (K : PySem.W.Frag) (mg : Str → Option Value) : Prop where
  mt_Certificate___init__ : MtX K mg "Certificate" "__init__" "Certificate.__init__" s_Certificate___init__
  mt_Certificate_given : StX K mg "Certificate" "given" "Certificate.given" s_Certificate_given
  mt_Certificate_theory : StX K mg "Certificate" "theory" "Certificate.theory" s_Certificate_theory
  mt_Certificate_last : PrX K mg "Certificate" "last" "Certificate.last" s_Certificate_last
  mt_Certificate___len__ : MtX K mg "Certificate" "__len__" "Certificate.__len__" s_Certificate___len__
  mt_Certificate___getitem__ : MtX K mg "Certificate" "__getitem__" "Certificate.__getitem__" s_Certificate___getitem__
  mt_Certificate___eq__ : MtX K mg "Certificate" "__eq__" "Certificate.__eq__" s_Certificate___eq__
  mt_Certificate___add__ : MtX K mg "Certificate" "__add__" "Certificate.__add__" s_Certificate___add__
  mt_Certificate_resolve : MtX K mg "Certificate" "resolve" "Certificate.resolve" s_Certificate_resolve
  mt_Certificate___iter__ : MtX K mg "Certificate" "__iter__" "Certificate.__iter__" s_Certificate___iter__
  fld_Certificate_rows : Flds K ["Certificate"] "rows"
  mkr_Certificate : Mkr K "Certificate"
  neq_Certificate : Neq K "Certificate"
  isc_Certificate : ∃ C, ClsAt K "Certificate" C ∧ mg "Certificate" = some (.ref C) ∧ C8.InsC K C
  fx_is_whole : Fx K mg "is_whole" s_is_whole
  fx_is_integer : Fx K mg "is_integer" s_is_integer
  fx_is_resolve_row : Fx K mg "is_resolve_row" s_is_resolve_row
  fx_moved_row : Fx K mg "moved_row" s_moved_row
  fx__law_state : Fx K mg "_law_state" s__law_state
  fx__law_draw : Fx K mg "_law_draw" s__law_draw
  fx__law_alike : Fx K mg "_law_alike" s__law_alike
  fx__law_value : Fx K mg "_law_value" s__law_value
  fx__law_is_whole : Fx K mg "_law_is_whole" s__law_is_whole
  fx__law_moved : Fx K mg "_law_moved" s__law_moved
  fx__law_item : Fx K mg "_law_item" s__law_item
  fx__law_is : Fx K mg "_law_is" s__law_is
  fx_law : Fx K mg "law" s_law
  m_bool : mg "bool" = none
  m_int : mg "int" = none
  m_isinstance : mg "isinstance" = none
  m_iter : mg "iter" = none
  m_len : mg "len" = none
  m_list : mg "list" = none
  m_range : mg "range" = none
  m_str : mg "str" = none
  m_tuple : mg "tuple" = none
  errs : Errs P w K mg errTab
  kito : KitO K
  kitc : ∀ e ∈ errTab, KitC K mg e.1
  cl_LookerError : ∃ C, mg "LookerError" = some (.ref C) ∧ Hit K mg (.ref C) hit_LookerError
  ki_BadRow : ∃ C, mg "BadRow" = some (.ref C) ∧ Kit K mg (.ref C) hit_BadRow
  ki_BadStep : ∃ C, mg "BadStep" = some (.ref C) ∧ Kit K mg (.ref C) hit_BadStep
  kb_ValueError : mg "ValueError" = none ∧ Kit K mg (.type "ValueError") hit_ValueError
section
variable {P : Program} {w : World} {K : PySem.W.Frag} {mg : Str → Option Value} {base : Heap}
def b_Certificate___init__ : ES := (mSetA ["Certificate"] 0 "rows" (mBlt gTuple (mCons (mVar 1) mNil)))
def f_Certificate___init__ : FM := mkF 2 2 [0, 1] b_Certificate___init__
theorem ok_Certificate___init__ (T : Txt P w K mg)  : MA P w K mg base 1 "Certificate" "__init__" 2 f_Certificate___init__ := by
  obtain ⟨C, f, fd, h1, h2, h3, h4, h5, h6, F⟩ := T.mt_Certificate___init__.ex
  refine ⟨C, f, h1, h2, h3, h4, h5, h6, ?_⟩
  refine fns_of (k := 0) (N := N_Certificate___init__) (ps := ["self", "rows"]) (I := [0, 1]) F S_Certificate___init__ (by decide) (fun _ _ _ _ _ _ us hl => match us, hl with | [_, _], _ => rfl) fun X E ⟨cdv, A, outer, s, H, e⟩ hr tk po => ?_
  subst e
  exact (sb_one (ss_setA T.fld_Certificate_rows (se_ty cs_tuple T.m_tuple PyProof.Rows.boot_tuple (sa_cons (se_var 1 (pv 1)) sa_nil)) (pv 0)))
def b_Certificate_given : ES := (mRet (mMake "Certificate" 2 f_Certificate___init__ (mCons (mLst (mCons (mTup (mCons (mC (.str "given")) (mCons (mEsc (mVar 0)) mNil))) mNil)) mNil)))
def f_Certificate_given : FM := mkF 1 1 [0] b_Certificate_given
theorem ok_Certificate_given (T : Txt P w K mg) (D_Certificate___init__ : MA P w K mg base 1 "Certificate" "__init__" 2 f_Certificate___init__) : StcS P w K mg base 3 "Certificate" "given" 1 f_Certificate_given := by
  obtain ⟨C, p, f, mc, rest, fd, h1, h2, h3, h4, h5, F⟩ := T.mt_Certificate_given.ex
  refine ⟨C, p, f, mc, rest, h1, h2, h3, h4, h5, F.kp, ?_⟩
  refine fns_of (k := 2) (N := N_Certificate_given) (ps := ["label"]) (I := [0]) F S_Certificate_given (by decide) (fun _ _ _ _ _ _ us hl => match us, hl with | [_], _ => rfl) fun X E ⟨cdv, A, outer, s, H, e⟩ hr tk po => ?_
  subst e
  exact (sb_one (ss_ret (se_make (D_Certificate___init__.mkr T.mkr_Certificate) (hr.mono (by omega)) tk (sa_cons (se_lst (sa_cons (se_tup (sa_cons se_str (sa_cons (se_esc (se_var 0 (pv 0))) sa_nil))) sa_nil)) sa_nil))))
def b_Certificate_theory : ES := (mRet (mMake "Certificate" 2 f_Certificate___init__ (mCons (mLst (mCons (mTup (mCons (mC (.str "theory")) (mCons (mEsc (mVar 0)) (mCons (mEsc (mVar 1)) mNil)))) mNil)) mNil)))
def f_Certificate_theory : FM := mkF 2 2 [0, 1] b_Certificate_theory
theorem ok_Certificate_theory (T : Txt P w K mg) (D_Certificate___init__ : MA P w K mg base 1 "Certificate" "__init__" 2 f_Certificate___init__) : StcS P w K mg base 3 "Certificate" "theory" 2 f_Certificate_theory := by
  obtain ⟨C, p, f, mc, rest, fd, h1, h2, h3, h4, h5, F⟩ := T.mt_Certificate_theory.ex
  refine ⟨C, p, f, mc, rest, h1, h2, h3, h4, h5, F.kp, ?_⟩
  refine fns_of (k := 2) (N := N_Certificate_theory) (ps := ["owner", "clause"]) (I := [0, 1]) F S_Certificate_theory (by decide) (fun _ _ _ _ _ _ us hl => match us, hl with | [_, _], _ => rfl) fun X E ⟨cdv, A, outer, s, H, e⟩ hr tk po => ?_
  subst e
  exact (sb_one (ss_ret (se_make (D_Certificate___init__.mkr T.mkr_Certificate) (hr.mono (by omega)) tk (sa_cons (se_lst (sa_cons (se_tup (sa_cons se_str (sa_cons (se_esc (se_var 0 (pv 0))) (sa_cons (se_esc (se_var 1 (pv 1))) sa_nil)))) sa_nil)) sa_nil))))
def b_Certificate_last : ES := (mRet (mBin gSub (mBlt gLen (mCons (mAttr ["Certificate"] "rows" (mVar 0)) mNil)) (mC (.int 1))))
def f_Certificate_last : FM := mkF 1 1 [0] b_Certificate_last
theorem ok_Certificate_last (T : Txt P w K mg)  : PrpS P w K mg base 1 "Certificate" "last" f_Certificate_last := by
  obtain ⟨C, p, f, fd, h1, h2, h3, F⟩ := T.mt_Certificate_last.ex
  refine ⟨C, p, f, h1, h2, h3, ?_⟩
  refine fns_of (k := 0) (N := N_Certificate_last) (ps := ["self"]) (I := [0]) F S_Certificate_last (by decide) (fun _ _ _ _ _ _ us hl => match us, hl with | [_], _ => rfl) fun X E ⟨cdv, A, outer, s, H, e⟩ hr tk po => ?_
  subst e
  exact (sb_one (ss_ret (se_bin os_sub (se_blt cs_len T.m_len PySem.boot_len (sa_cons (se_attr T.fld_Certificate_rows (se_var 0 (pv 0))) sa_nil)) se_int)))
def b_Certificate___len__ : ES := (mRet (mBlt gLen (mCons (mAttr ["Certificate"] "rows" (mVar 0)) mNil)))
def f_Certificate___len__ : FM := mkF 1 1 [0] b_Certificate___len__
theorem ok_Certificate___len__ (T : Txt P w K mg)  : MA P w K mg base 1 "Certificate" "__len__" 1 f_Certificate___len__ := by
  obtain ⟨C, f, fd, h1, h2, h3, h4, h5, h6, F⟩ := T.mt_Certificate___len__.ex
  refine ⟨C, f, h1, h2, h3, h4, h5, h6, ?_⟩
  refine fns_of (k := 0) (N := N_Certificate___len__) (ps := ["self"]) (I := [0]) F S_Certificate___len__ (by decide) (fun _ _ _ _ _ _ us hl => match us, hl with | [_], _ => rfl) fun X E ⟨cdv, A, outer, s, H, e⟩ hr tk po => ?_
  subst e
  exact (sb_one (ss_ret (se_blt cs_len T.m_len PySem.boot_len (sa_cons (se_attr T.fld_Certificate_rows (se_var 0 (pv 0))) sa_nil))))
def b_is_whole : ES := (mRet (mAndV (mIsi "int" (mVar 0)) (mAndV (mNotV (mIsi "bool" (mVar 0))) (mChn gLe gLe (mVar 1) (mVar 0) (mVar 2)))))
def f_is_whole : FM := mkF 3 3 [0, 1, 2] b_is_whole
theorem ok_is_whole (T : Txt P w K mg)  : Def P w K mg base 1 "is_whole" ["value", "least", "most"] f_is_whole := by
  obtain ⟨f, fd, F, hx⟩ := T.fx_is_whole
  refine def_of (k := 0) (N := N_is_whole) (I := [0, 1, 2]) F hx S_is_whole (by decide) (fun _ _ _ _ _ _ us hl => match us, hl with | [_, _, _], _ => rfl) fun X E ⟨cdv, A, outer, s, H, e⟩ hr tk po => ?_
  subst e
  exact (sb_one (ss_ret (se_and (se_isi (T := "int") T.m_isinstance T.m_int PyProof.Rows.boot_int (se_var 0 (pv 0))) (se_and (se_not (se_isi (T := "bool") T.m_isinstance T.m_bool PyProof.Rows.boot_bool (se_var 0 (pv 0)))) (se_one (se_chn os_le os_le (se_var 1 (pv 1)) (se_var 0 (pv 0)) (se_var 2 (pv 2))))))))
def b_Certificate___getitem__ : ES := (mSeq (mIf (mNot (mTst (mCall 3 f_is_whole (mCons (mVar 1) (mCons (mC (.int 0)) (mCons (mBin gSub (mBlt gLen (mCons (mAttr ["Certificate"] "rows" (mVar 0)) mNil)) (mC (.int 1))) mNil)))))) (mRaise "BadRow" ["index"] (mCons (mEsc (mVar 1)) mNil)) mSkip)
  (mRet (mIx (mAttr ["Certificate"] "rows" (mVar 0)) (mVar 1))))
def f_Certificate___getitem__ : FM := mkF 2 2 [0, 1] b_Certificate___getitem__
theorem ok_Certificate___getitem__ (T : Txt P w K mg) (D_is_whole : Def P w K mg base 1 "is_whole" ["value", "least", "most"] f_is_whole) : MA P w K mg base 2 "Certificate" "__getitem__" 2 f_Certificate___getitem__ := by
  obtain ⟨C, f, fd, h1, h2, h3, h4, h5, h6, F⟩ := T.mt_Certificate___getitem__.ex
  refine ⟨C, f, h1, h2, h3, h4, h5, h6, ?_⟩
  obtain ⟨C_BadRow, T_BadRow⟩ := T.errs ("BadRow", ["index"]) (by simp [errTab])
  refine fns_of (k := 1) (N := N_Certificate___getitem__) (ps := ["self", "at"]) (I := [0, 1]) F S_Certificate___getitem__ (by decide) (fun _ _ _ _ _ _ us hl => match us, hl with | [_, _], _ => rfl) fun X E ⟨cdv, A, outer, s, H, e⟩ hr tk po => ?_
  subst e
  exact (sb_cons (ss_if (st_not (st_truth (se_call D_is_whole (hr.mono (by omega)) tk (sa_cons (se_var 1 (pv 1)) (sa_cons se_int (sa_cons (se_bin os_sub (se_blt cs_len T.m_len PySem.boot_len (sa_cons (se_attr T.fld_Certificate_rows (se_var 0 (pv 0))) sa_nil)) se_int) sa_nil)))))) (sb_one (ss_raise T_BadRow hr tk (sa_cons (se_esc (se_var 1 (pv 1))) sa_nil))) sb_nil)
  (sb_one (ss_ret (se_ix (se_attr T.fld_Certificate_rows (se_var 0 (pv 0))) (se_var 1 (pv 1))))))
def b_Certificate___eq__ : ES := (mSeq (mIf (mNot (mTst (mIsC "Certificate" (mVar 1)))) (fun _ => .stuck) mSkip)
  (mRet (mBin (blOf gEq) (mAttr ["Certificate"] "rows" (mVar 0)) (mAttr ["Certificate"] "rows" (mVar 1)))))
def f_Certificate___eq__ : FM := mkF 2 2 [0, 1] b_Certificate___eq__
theorem ok_Certificate___eq__ (T : Txt P w K mg)  : MA P w K mg base 1 "Certificate" "__eq__" 2 f_Certificate___eq__ := by
  obtain ⟨C, f, fd, h1, h2, h3, h4, h5, h6, F⟩ := T.mt_Certificate___eq__.ex
  refine ⟨C, f, h1, h2, h3, h4, h5, h6, ?_⟩
  refine fns_of (k := 0) (N := N_Certificate___eq__) (ps := ["self", "other"]) (I := [0, 1]) F S_Certificate___eq__ (by decide) (fun _ _ _ _ _ _ us hl => match us, hl with | [_, _], _ => rfl) fun X E ⟨cdv, A, outer, s, H, e⟩ hr tk po => ?_
  subst e
  exact (sb_cons (ss_if (st_not (st_truth (se_isC T.isc_Certificate T.m_isinstance (se_var 1 (pv 1))))) (sb_one ss_stuck) sb_nil)
  (sb_one (ss_ret (se_cmp (oq_eq (hu64 hr)) (se_attr T.fld_Certificate_rows (se_var 0 (pv 0))) (se_attr T.fld_Certificate_rows (se_var 1 (pv 1)))))))
def b_is_integer : ES := (mRet (mAndV (mIsi "int" (mVar 0)) (mNotV (mIsi "bool" (mVar 0)))))
def f_is_integer : FM := mkF 1 1 [0] b_is_integer
theorem ok_is_integer (T : Txt P w K mg)  : Def P w K mg base 1 "is_integer" ["value"] f_is_integer := by
  obtain ⟨f, fd, F, hx⟩ := T.fx_is_integer
  refine def_of (k := 0) (N := N_is_integer) (I := [0]) F hx S_is_integer (by decide) (fun _ _ _ _ _ _ us hl => match us, hl with | [_], _ => rfl) fun X E ⟨cdv, A, outer, s, H, e⟩ hr tk po => ?_
  subst e
  exact (sb_one (ss_ret (se_and (se_isi (T := "int") T.m_isinstance T.m_int PyProof.Rows.boot_int (se_var 0 (pv 0))) (se_one (se_not (se_isi (T := "bool") T.m_isinstance T.m_bool PyProof.Rows.boot_bool (se_var 0 (pv 0))))))))
def b_is_resolve_row : ES := (mSeq (mIf (mOr (mNot (mTst (mIsi "tuple" (mVar 0)))) (mOr (mCmp gNe (mBlt gLen (mCons (mVar 0) mNil)) (mC (.int 4))) (mCmp gNe (mIx (mVar 0) (mC (.int 0))) (mC (.str "resolve"))))) (mRet (mC (.bl false))) mSkip)
  (mRet (mAndV (mCall 1 f_is_integer (mCons (mIx (mVar 0) (mC (.int 1))) mNil)) (mCall 1 f_is_integer (mCons (mIx (mVar 0) (mC (.int 2))) mNil)))))
def f_is_resolve_row : FM := mkF 1 1 [0] b_is_resolve_row
theorem ok_is_resolve_row (T : Txt P w K mg) (D_is_integer : Def P w K mg base 1 "is_integer" ["value"] f_is_integer) : Def P w K mg base 2 "is_resolve_row" ["row"] f_is_resolve_row := by
  obtain ⟨f, fd, F, hx⟩ := T.fx_is_resolve_row
  refine def_of (k := 1) (N := N_is_resolve_row) (I := [0]) F hx S_is_resolve_row (by decide) (fun _ _ _ _ _ _ us hl => match us, hl with | [_], _ => rfl) fun X E ⟨cdv, A, outer, s, H, e⟩ hr tk po => ?_
  subst e
  exact (sb_cons (ss_if (st_w (sw_or (st_not (st_truth (se_isi (T := "tuple") T.m_isinstance T.m_tuple PyProof.Rows.boot_tuple (se_var 0 (pv 0))))) (sw_or (st_cmp (oq_ne (hu64 hr)) (se_blt cs_len T.m_len PySem.boot_len (sa_cons (se_var 0 (pv 0)) sa_nil)) se_int) (sw_or1 (st_cmp (oq_ne (hu64 hr)) (se_ix (se_var 0 (pv 0)) se_int) se_str))))) (sb_one (ss_ret se_bl)) sb_nil)
  (sb_one (ss_ret (se_and (se_call D_is_integer (hr.mono (by omega)) tk (sa_cons (se_ix (se_var 0 (pv 0)) se_int) sa_nil)) (se_one (se_call D_is_integer (hr.mono (by omega)) tk (sa_cons (se_ix (se_var 0 (pv 0)) se_int) sa_nil)))))))
def b_moved_row : ES := (mSeq (mIf (mNot (mTst (mCall 1 f_is_resolve_row (mCons (mVar 0) mNil)))) (mRet (mEsc (mVar 0))) mSkip)
  (mRet (mTup (mCons (mC (.str "resolve")) (mCons (mBin gAdd (mIx (mVar 0) (mC (.int 1))) (mVar 1)) (mCons (mBin gAdd (mIx (mVar 0) (mC (.int 2))) (mVar 1)) (mCons (mIx (mVar 0) (mC (.int 3))) mNil)))))))
def f_moved_row : FM := mkF 2 2 [0, 1] b_moved_row
theorem ok_moved_row (T : Txt P w K mg) (D_is_resolve_row : Def P w K mg base 2 "is_resolve_row" ["row"] f_is_resolve_row) : Def P w K mg base 3 "moved_row" ["row", "steps"] f_moved_row := by
  obtain ⟨f, fd, F, hx⟩ := T.fx_moved_row
  refine def_of (k := 2) (N := N_moved_row) (I := [0, 1]) F hx S_moved_row (by decide) (fun _ _ _ _ _ _ us hl => match us, hl with | [_, _], _ => rfl) fun X E ⟨cdv, A, outer, s, H, e⟩ hr tk po => ?_
  subst e
  exact (sb_cons (ss_if (st_not (st_truth (se_call D_is_resolve_row (hr.mono (by omega)) tk (sa_cons (se_var 0 (pv 0)) sa_nil)))) (sb_one (ss_ret (se_esc (se_var 0 (pv 0))))) sb_nil)
  (sb_one (ss_ret (se_tup (sa_cons se_str (sa_cons (se_bin os_add (se_ix (se_var 0 (pv 0)) se_int) (se_var 1 (pv 1))) (sa_cons (se_bin os_add (se_ix (se_var 0 (pv 0)) se_int) (se_var 1 (pv 1))) (sa_cons (se_ix (se_var 0 (pv 0)) se_int) sa_nil))))))))
def b_Certificate___add__ : ES := (mSeq (mAsg (mBlt gLen (mCons (mAttr ["Certificate"] "rows" (mVar 0)) mNil)) (tgN 2))
  (mRet (mMake "Certificate" 2 f_Certificate___init__ (mCons (mBin gAdd (mAttr ["Certificate"] "rows" (mVar 0)) (mBlt gTuple (mCons (mLc (mIt [] (mAttr ["Certificate"] "rows" (mVar 1))) [3] (tgN 3) mYes (mCall 2 f_moved_row (mCons (mVar 3) (mCons (mVar 2) mNil)))) mNil))) mNil))))
def f_Certificate___add__ : FM := mkF 2 4 [0, 1] b_Certificate___add__
theorem ok_Certificate___add__ (T : Txt P w K mg) (D_Certificate___init__ : MA P w K mg base 1 "Certificate" "__init__" 2 f_Certificate___init__) (D_moved_row : Def P w K mg base 3 "moved_row" ["row", "steps"] f_moved_row) : MA P w K mg base 4 "Certificate" "__add__" 2 f_Certificate___add__ := by
  obtain ⟨C, f, fd, h1, h2, h3, h4, h5, h6, F⟩ := T.mt_Certificate___add__.ex
  refine ⟨C, f, h1, h2, h3, h4, h5, h6, ?_⟩
  refine fns_of (k := 3) (N := N_Certificate___add__) (ps := ["self", "other"]) (I := [0, 1]) F S_Certificate___add__ (by decide) (fun _ _ _ _ _ _ us hl => match us, hl with | [_, _], _ => rfl) fun X E ⟨cdv, A, outer, s, H, e⟩ hr tk po => ?_
  subst e
  exact (sb_cons (ss_asg (se_blt cs_len T.m_len PySem.boot_len (sa_cons (se_attr T.fld_Certificate_rows (se_var 0 (pv 0))) sa_nil)) (sg_name (i := 2) S_Certificate___add__.nd))
  (sb_one (ss_ret (se_make (D_Certificate___init__.mkr T.mkr_Certificate) (hr.mono (by omega)) tk (sa_cons (se_bin os_add (se_attr T.fld_Certificate_rows (se_var 0 (pv 0))) (se_ty cs_tuple T.m_tuple PyProof.Rows.boot_tuple (sa_cons (se_lc (own := [("row", 3)]) (J := []) (n := 4) rfl S_Certificate___add__.nd (blkOk_by (own := [("row", 3)]) (N := N_Certificate___add__) (sc := (defScope s_Certificate___add__)) (by decide +kernel)) (si_seq (se_attr T.fld_Certificate_rows (se_var 1 (pv 1)))) (fun _ _ _ _ _ => (sg_name (i := 3) S_Certificate___add__.nd)) (fun _ _ _ _ _ => sts_nil) (fun _ _ _ _ _ => (se_call D_moved_row (hr.mono (by omega)) takes0 (sa_cons (se_var 3 (pv 3)) (sa_cons (se_var 2 (pv 2)) sa_nil))))) sa_nil))) sa_nil)))))
def b_Certificate_resolve : ES := (mRet (mMake "Certificate" 2 f_Certificate___init__ (mCons (mBin gAdd (mAttr ["Certificate"] "rows" (mVar 0)) (mTup (mCons (mTup (mCons (mC (.str "resolve")) (mCons (mEsc (mVar 1)) (mCons (mEsc (mVar 2)) (mCons (mEsc (mVar 3)) mNil))))) mNil))) mNil)))
def f_Certificate_resolve : FM := mkF 4 4 [0, 1, 2, 3] b_Certificate_resolve
theorem ok_Certificate_resolve (T : Txt P w K mg) (D_Certificate___init__ : MA P w K mg base 1 "Certificate" "__init__" 2 f_Certificate___init__) : MA P w K mg base 3 "Certificate" "resolve" 4 f_Certificate_resolve := by
  obtain ⟨C, f, fd, h1, h2, h3, h4, h5, h6, F⟩ := T.mt_Certificate_resolve.ex
  refine ⟨C, f, h1, h2, h3, h4, h5, h6, ?_⟩
  refine fns_of (k := 2) (N := N_Certificate_resolve) (ps := ["self", "first", "second", "atom"]) (I := [0, 1, 2, 3]) F S_Certificate_resolve (by decide) (fun _ _ _ _ _ _ us hl => match us, hl with | [_, _, _, _], _ => rfl) fun X E ⟨cdv, A, outer, s, H, e⟩ hr tk po => ?_
  subst e
  exact (sb_one (ss_ret (se_make (D_Certificate___init__.mkr T.mkr_Certificate) (hr.mono (by omega)) tk (sa_cons (se_bin os_add (se_attr T.fld_Certificate_rows (se_var 0 (pv 0))) (se_tup (sa_cons (se_tup (sa_cons se_str (sa_cons (se_esc (se_var 1 (pv 1))) (sa_cons (se_esc (se_var 2 (pv 2))) (sa_cons (se_esc (se_var 3 (pv 3))) sa_nil))))) sa_nil))) sa_nil))))
def b__law_state : ES := (mRet (mLst (mCons (mBlt gList (mCons (mVar 0) mNil)) (mCons (mC (.int 0)) (mCons (mC (.int 0)) (mCons (mC (.int 0)) (mCons (mC (.int 0)) mNil)))))))
def f__law_state : FM := mkF 1 1 [0] b__law_state
theorem ok__law_state (T : Txt P w K mg)  : Def P w K mg base 1 "_law_state" ["_law_script"] f__law_state := by
  obtain ⟨f, fd, F, hx⟩ := T.fx__law_state
  refine def_of (k := 0) (N := N__law_state) (I := [0]) F hx S__law_state (by decide) (fun _ _ _ _ _ _ us hl => match us, hl with | [_], _ => rfl) fun X E ⟨cdv, A, outer, s, H, e⟩ hr tk po => ?_
  subst e
  exact (sb_one (ss_ret (se_lst (sa_cons (se_ty cs_list T.m_list PyProof.Rows.boot_list (sa_cons (se_var 0 (pv 0)) sa_nil)) (sa_cons se_int (sa_cons se_int (sa_cons se_int (sa_cons se_int sa_nil))))))))
def b__law_draw : ES := (mSeq (mIf (mCmp gLt (mVar 1) (mC (.int 2))) (mRet (mC (.int 0))) mSkip)
  (mSeq (mIf (mAnd (mCmp gEq (mIx (mVar 0) (mC (.int 2))) (mC (.int 0))) (mAnd (mCmp gEq (mIx (mVar 0) (mC (.int 4))) (mC (.int 0))) (mCmp gLt (mIx (mVar 0) (mC (.int 1))) (mBlt gLen (mCons (mIx (mVar 0) (mC (.int 0))) mNil))))) (mSeq (mAsg (mIx (mIx (mVar 0) (mC (.int 0))) (mIx (mVar 0) (mC (.int 1)))) (tgN 2))
  (mSeq (mSetI 0 (mBin gAdd (mIx (mVar 0) (mC (.int 1))) (mC (.int 1))) (mC (.int 1)))
  (mSeq (mIf (mCmp gLt (mVar 2) (mC (.int 0))) (mAsg (mBin gSub (mC (.int 1)) (mBin gMul (mC (.int 2)) (mVar 2))) (tgN 2)) mSkip)
  (mIf (mCmp gGe (mVar 2) (mBin gPow (mC (.int 10)) (mC (.int 18)))) (mSetI 0 (mEsc (mVar 2)) (mC (.int 2))) (mSeq (mSetI 0 (mEsc (mVar 2)) (mC (.int 3)))
  (mSetI 0 (mC (.int 6)) (mC (.int 4)))))))) mSkip)
  (mSeq (mIf (mCmp gGt (mIx (mVar 0) (mC (.int 2))) (mC (.int 0))) (mSeq (mAsg (mBin gMod (mBlt gInt (mCons (mIx (mVar 0) (mC (.int 2))) mNil)) (mVar 1)) (tgN 3))
  (mSeq (mSetI 0 (mBin gFdv (mIx (mVar 0) (mC (.int 2))) (mVar 1)) (mC (.int 2)))
  (mRet (mMv (mVar 3))))) mSkip)
  (mSeq (mIf (mCmp gGt (mIx (mVar 0) (mC (.int 4))) (mC (.int 0))) (mSeq (mSetI 0 (mBin gSub (mIx (mVar 0) (mC (.int 4))) (mC (.int 1))) (mC (.int 4)))
  (mSeq (mAsg (mBin gMod (mBlt gInt (mCons (mBin gMul (mIx (mVar 0) (mC (.int 3))) (mBin gAdd (mC (.int 48271)) (mBin gMul (mC (.int 2)) (mIx (mVar 0) (mC (.int 4)))))) mNil)) (mC (.int 2147483647))) (tgN 4))
  (mSeq (mAsg (mBin gMod (mBlt gInt (mCons (mBin gMul (mVar 4) (mBin gAdd (mC (.int 16807)) (mIx (mVar 0) (mC (.int 4))))) mNil)) (mC (.int 1000003))) (tgN 4))
  (mRet (mBin gMod (mBlt gInt (mCons (mVar 4) mNil)) (mVar 1)))))) mSkip)
  (mRet (mC (.int 0)))))))
def f__law_draw : FM := mkF 2 5 [0, 1] b__law_draw
theorem ok__law_draw (T : Txt P w K mg)  : Def P w K mg base 1 "_law_draw" ["_law_state_here", "_law_many"] f__law_draw := by
  obtain ⟨f, fd, F, hx⟩ := T.fx__law_draw
  refine def_of (k := 0) (N := N__law_draw) (I := [0, 1]) F hx S__law_draw (by decide) (fun _ _ _ _ _ _ us hl => match us, hl with | [_, _], _ => rfl) fun X E ⟨cdv, A, outer, s, H, e⟩ hr tk po => ?_
  subst e
  exact (sb_cons (ss_if (st_cmp os_lt (se_var 1 (pv 1)) se_int) (sb_one (ss_ret se_int)) sb_nil)
  (sb_cons (ss_if (st_w (sw_and (st_cmp (oq_eq (hu64 hr)) (se_ix (se_var 0 (pv 0)) se_int) se_int) (sw_and (st_cmp (oq_eq (hu64 hr)) (se_ix (se_var 0 (pv 0)) se_int) se_int) (sw_and1 (st_cmp os_lt (se_ix (se_var 0 (pv 0)) se_int) (se_blt cs_len T.m_len PySem.boot_len (sa_cons (se_ix (se_var 0 (pv 0)) se_int) sa_nil))))))) (sb_cons (ss_asg (se_ix (se_ix (se_var 0 (pv 0)) se_int) (se_ix (se_var 0 (pv 0)) se_int)) (sg_name (i := 2) S__law_draw.nd))
  (sb_cons (ss_setI (se_bin os_add (se_ix (se_var 0 (pv 0)) se_int) se_int) (pv 0) se_int)
  (sb_cons (ss_if (st_cmp os_lt (se_var 2 (pv 2)) se_int) (sb_one (ss_asg (se_bin os_sub se_int (se_bin os_mul se_int (se_var 2 (pv 2)))) (sg_name (i := 2) S__law_draw.nd))) sb_nil)
  (sb_one (ss_if (st_cmp os_ge (se_var 2 (pv 2)) (se_bin os_pow se_int se_int)) (sb_one (ss_setI (se_esc (se_var 2 (pv 2))) (pv 0) se_int)) (sb_cons (ss_setI (se_esc (se_var 2 (pv 2))) (pv 0) se_int)
  (sb_one (ss_setI se_int (pv 0) se_int)))))))) sb_nil)
  (sb_cons (ss_if (st_cmp os_gt (se_ix (se_var 0 (pv 0)) se_int) se_int) (sb_cons (ss_asg (se_bin os_mod (se_ty cs_int T.m_int PyProof.Rows.boot_int (sa_cons (se_ix (se_var 0 (pv 0)) se_int) sa_nil)) (se_var 1 (pv 1))) (sg_name (i := 3) S__law_draw.nd))
  (sb_cons (ss_setI (se_bin os_fdv (se_ix (se_var 0 (pv 0)) se_int) (se_var 1 (pv 1))) (pv 0) se_int)
  (sb_one (ss_ret (se_mv (se_var 3 (pv 3))))))) sb_nil)
  (sb_cons (ss_if (st_cmp os_gt (se_ix (se_var 0 (pv 0)) se_int) se_int) (sb_cons (ss_setI (se_bin os_sub (se_ix (se_var 0 (pv 0)) se_int) se_int) (pv 0) se_int)
  (sb_cons (ss_asg (se_bin os_mod (se_ty cs_int T.m_int PyProof.Rows.boot_int (sa_cons (se_bin os_mul (se_ix (se_var 0 (pv 0)) se_int) (se_bin os_add se_int (se_bin os_mul se_int (se_ix (se_var 0 (pv 0)) se_int)))) sa_nil)) se_int) (sg_name (i := 4) S__law_draw.nd))
  (sb_cons (ss_asg (se_bin os_mod (se_ty cs_int T.m_int PyProof.Rows.boot_int (sa_cons (se_bin os_mul (se_var 4 (pv 4)) (se_bin os_add se_int (se_ix (se_var 0 (pv 0)) se_int))) sa_nil)) se_int) (sg_name (i := 4) S__law_draw.nd))
  (sb_one (ss_ret (se_bin os_mod (se_ty cs_int T.m_int PyProof.Rows.boot_int (sa_cons (se_var 4 (pv 4)) sa_nil)) (se_var 1 (pv 1)))))))) sb_nil)
  (sb_one (ss_ret se_int))))))
def b__law_alike (self_ : FM) : ES := (mSeq (mIf (mCmp gIs (mVar 1) (mC .non)) (mRet (mBin (blOf gIs) (mVar 0) (mC .non))) mSkip)
  (mSeq (mIf (mOr (mTst (mIsi "bool" (mVar 1))) (mTst (mIsi "bool" (mVar 0)))) (mRet (mAndV (mIsi "bool" (mVar 1)) (mAndV (mIsi "bool" (mVar 0)) (mBin (blOf gEq) (mVar 0) (mVar 1))))) mSkip)
  (mSeq (mIf (mTst (mIsi "int" (mVar 1))) (mRet (mAndV (mIsi "int" (mVar 0)) (mBin (blOf gEq) (mVar 0) (mVar 1)))) mSkip)
  (mSeq (mIf (mTst (mIsi "str" (mVar 1))) (mRet (mAndV (mIsi "str" (mVar 0)) (mBin (blOf gEq) (mVar 0) (mVar 1)))) mSkip)
  (mSeq (mIf (mTst (mIsi "list" (mVar 1))) (mIf (mNot (mTst (mIsi "list" (mVar 0)))) (mRet (mC (.bl false))) mSkip) (mIf (mNot (mTst (mIsi "tuple" (mVar 0)))) (mRet (mC (.bl false))) mSkip))
  (mSeq (mIf (mCmp gNe (mBlt gLen (mCons (mVar 0) mNil)) (mBlt gLen (mCons (mVar 1) mNil))) (mRet (mC (.bl false))) mSkip)
  (mSeq (mFor (mRng1 (mCons (mBlt gLen (mCons (mVar 1) mNil)) mNil)) (tgN 2)
  (mIf (mNot (mTst (mCall 2 self_ (mCons (mIx (mVar 0) (mVar 2)) (mCons (mIx (mVar 1) (mVar 2)) mNil))))) (mRet (mC (.bl false))) mSkip))
  (mRet (mC (.bl true))))))))))
def f__law_alikeN : Nat → FM
  | 0 => fun _ => .stuck
  | k + 1 => mkF 2 3 [0, 1] (b__law_alike (f__law_alikeN k))
def f__law_alike : FM := f__law_alikeN 70
theorem okN__law_alike (T : Txt P w K mg)  : ∀ k, Def P w K mg base (0 + k) "_law_alike" ["_law_actual", "_law_due"] (f__law_alikeN k)
  | 0 => def_stuck T.fx__law_alike S__law_alike (by decide) (fun _ _ _ _ _ _ us hl => match us, hl with | [_, _], _ => rfl)
  | k + 1 => by
    have Self := okN__law_alike T  k
    obtain ⟨f, fd, F, hx⟩ := T.fx__law_alike
    refine def_of (k := (0 + k)) (N := N__law_alike) (I := [0, 1]) F hx S__law_alike (by decide) (fun _ _ _ _ _ _ us hl => match us, hl with | [_, _], _ => rfl) fun X E ⟨cdv, A, outer, s, H, e⟩ hr tk po => ?_
    subst e
    exact (sb_cons (ss_if (st_cmp os_is (se_var 1 (pv 1)) se_non) (sb_one (ss_ret (se_cmp os_is (se_var 0 (pv 0)) se_non))) sb_nil)
  (sb_cons (ss_if (st_w (sw_or (st_truth (se_isi (T := "bool") T.m_isinstance T.m_bool PyProof.Rows.boot_bool (se_var 1 (pv 1)))) (sw_or1 (st_truth (se_isi (T := "bool") T.m_isinstance T.m_bool PyProof.Rows.boot_bool (se_var 0 (pv 0))))))) (sb_one (ss_ret (se_and (se_isi (T := "bool") T.m_isinstance T.m_bool PyProof.Rows.boot_bool (se_var 1 (pv 1))) (se_and (se_isi (T := "bool") T.m_isinstance T.m_bool PyProof.Rows.boot_bool (se_var 0 (pv 0))) (se_one (se_cmp (oq_eq (hu64 hr)) (se_var 0 (pv 0)) (se_var 1 (pv 1)))))))) sb_nil)
  (sb_cons (ss_if (st_truth (se_isi (T := "int") T.m_isinstance T.m_int PyProof.Rows.boot_int (se_var 1 (pv 1)))) (sb_one (ss_ret (se_and (se_isi (T := "int") T.m_isinstance T.m_int PyProof.Rows.boot_int (se_var 0 (pv 0))) (se_one (se_cmp (oq_eq (hu64 hr)) (se_var 0 (pv 0)) (se_var 1 (pv 1))))))) sb_nil)
  (sb_cons (ss_if (st_truth (se_isi (T := "str") T.m_isinstance T.m_str PyProof.Rows.boot_str (se_var 1 (pv 1)))) (sb_one (ss_ret (se_and (se_isi (T := "str") T.m_isinstance T.m_str PyProof.Rows.boot_str (se_var 0 (pv 0))) (se_one (se_cmp (oq_eq (hu64 hr)) (se_var 0 (pv 0)) (se_var 1 (pv 1))))))) sb_nil)
  (sb_cons (ss_if (st_truth (se_isi (T := "list") T.m_isinstance T.m_list PyProof.Rows.boot_list (se_var 1 (pv 1)))) (sb_one (ss_if (st_not (st_truth (se_isi (T := "list") T.m_isinstance T.m_list PyProof.Rows.boot_list (se_var 0 (pv 0))))) (sb_one (ss_ret se_bl)) sb_nil)) (sb_one (ss_if (st_not (st_truth (se_isi (T := "tuple") T.m_isinstance T.m_tuple PyProof.Rows.boot_tuple (se_var 0 (pv 0))))) (sb_one (ss_ret se_bl)) sb_nil)))
  (sb_cons (ss_if (st_cmp (oq_ne (hu64 hr)) (se_blt cs_len T.m_len PySem.boot_len (sa_cons (se_var 0 (pv 0)) sa_nil)) (se_blt cs_len T.m_len PySem.boot_len (sa_cons (se_var 1 (pv 1)) sa_nil))) (sb_one (ss_ret se_bl)) sb_nil)
  (sb_cons (ss_for (J := []) po rfl (si_rng1 T.m_range (sa_cons (se_blt cs_len T.m_len PySem.boot_len (sa_cons (se_var 1 (pv 1)) sa_nil)) sa_nil)) (sg_name (i := 2) S__law_alike.nd)
  (sb_one (ss_if (st_not (st_truth (se_call Self (hr.mono (by omega)) tk (sa_cons (se_ix (se_var 0 (pv 0)) (se_var 2 (pv 2))) (sa_cons (se_ix (se_var 1 (pv 1)) (se_var 2 (pv 2))) sa_nil))))) (sb_one (ss_ret se_bl)) sb_nil)))
  (sb_one (ss_ret se_bl)))))))))
theorem ok__law_alike (T : Txt P w K mg)  : Def P w K mg base 70 "_law_alike" ["_law_actual", "_law_due"] f__law_alike := okN__law_alike T  70
def b__law_value : ES := (mSeq (mAsg (mIx (mLst (mCons (mTup (mCons (mC (.str "")) (mCons (mC (.str "size")) (mCons (mC (.int 1)) mNil)))) (mCons (mTup (mCons (mC (.str "o")) (mCons (mC (.str "word")) (mCons (mC (.str "w")) mNil)))) (mCons (mTup (mCons (mC (.str "t2")) (mCons (mC (.str "below")) (mCons (mC (.str "a")) (mCons (mC (.str "b10")) mNil))))) mNil)))) (mCall 2 f__law_draw (mCons (mVar 0) (mCons (mC (.int 3)) mNil)))) (tgN 1))
  (mSeq (mAsg (mBin gMul (mBin gSub (mCall 2 f__law_draw (mCons (mVar 0) (mCons (mC (.int 9)) mNil))) (mC (.int 2))) (mIx (mLst (mCons (mC (.int 1)) (mCons (mC (.int 1)) (mCons (mC (.int 1000001)) mNil)))) (mCall 2 f__law_draw (mCons (mVar 0) (mCons (mC (.int 3)) mNil))))) (tgN 2))
  (mSeq (mAsg (mBin gSub (mCall 2 f__law_draw (mCons (mVar 0) (mCons (mC (.int 9)) mNil))) (mC (.int 2))) (tgN 3))
  (mSeq (mIf (mCmp gEq (mCall 2 f__law_draw (mCons (mVar 0) (mCons (mC (.int 2)) mNil))) (mC (.int 0))) (mRet (mTup (mCons (mC (.str "resolve")) (mCons (mEsc (mVar 2)) (mCons (mEsc (mVar 3)) (mCons (mEsc (mVar 1)) mNil)))))) mSkip)
  (mSeq (mAsg (mLst (mCons (mTup (mCons (mC (.str "given")) (mCons (mBin gAdd (mC (.int 1)) (mVar 3)) mNil))) (mCons (mTup (mCons (mC (.str "theory")) (mCons (mC (.str "")) (mCons (mTup (mCons (mTup (mCons (mEsc (mVar 1)) (mCons (mC (.bl false)) mNil))) (mCons (mTup (mCons (mEsc (mVar 1)) (mCons (mC (.bl true)) mNil))) mNil))) mNil)))) (mCons (mTup (mCons (mC (.str "theory")) (mCons (mC (.str "o")) (mCons (mTup mNil) mNil)))) (mCons (mTup (mCons (mC (.str "given")) (mCons (mEsc (mVar 2)) (mCons (mEsc (mVar 3)) mNil)))) mNil))))) (tgN 4))
  (mSeq (mAsg (mBin gAdd (mVar 4) (mLst (mCons (mTup (mCons (mC (.str "resolve")) (mCons (mEsc (mVar 2)) (mCons (mEsc (mVar 3)) mNil)))) (mCons (mTup (mCons (mC (.str "resolve")) (mCons (mEsc (mVar 2)) (mCons (mEsc (mVar 3)) (mCons (mEsc (mVar 1)) (mCons (mEsc (mVar 1)) mNil)))))) (mCons (mTup (mCons (mC (.str "resolve")) (mCons (mC (.bl true)) (mCons (mEsc (mVar 3)) (mCons (mEsc (mVar 1)) mNil))))) mNil))))) (tgN 4))
  (mSeq (mAsg (mBin gAdd (mVar 4) (mLst (mCons (mTup (mCons (mC (.str "resolve")) (mCons (mEsc (mVar 2)) (mCons (mC (.bl false)) (mCons (mEsc (mVar 1)) mNil))))) (mCons (mTup (mCons (mC (.str "resolve")) (mCons (mEsc (mVar 2)) (mCons (mBlt gStr (mCons (mVar 3) mNil)) (mCons (mEsc (mVar 1)) mNil))))) (mCons (mTup (mCons (mC (.str "Resolve")) (mCons (mEsc (mVar 2)) (mCons (mEsc (mVar 3)) (mCons (mEsc (mVar 1)) mNil))))) mNil))))) (tgN 4))
  (mSeq (mAsg (mBin gAdd (mVar 4) (mLst (mCons (mC (.str "resolve")) (mCons (mC .non) (mCons (mEsc (mVar 2)) (mCons (mTup mNil) mNil)))))) (tgN 4))
  (mRet (mIx (mVar 4) (mCall 2 f__law_draw (mCons (mVar 0) (mCons (mBlt gLen (mCons (mVar 4) mNil)) mNil)))))))))))))
def f__law_value : FM := mkF 1 5 [0] b__law_value
theorem ok__law_value (T : Txt P w K mg) (D__law_draw : Def P w K mg base 1 "_law_draw" ["_law_state_here", "_law_many"] f__law_draw) : Def P w K mg base 2 "_law_value" ["_law_state_here"] f__law_value := by
  obtain ⟨f, fd, F, hx⟩ := T.fx__law_value
  refine def_of (k := 1) (N := N__law_value) (I := [0]) F hx S__law_value (by decide) (fun _ _ _ _ _ _ us hl => match us, hl with | [_], _ => rfl) fun X E ⟨cdv, A, outer, s, H, e⟩ hr tk po => ?_
  subst e
  exact (sb_cons (ss_asg (se_ix (se_lst (sa_cons (se_tup (sa_cons se_str (sa_cons se_str (sa_cons se_int sa_nil)))) (sa_cons (se_tup (sa_cons se_str (sa_cons se_str (sa_cons se_str sa_nil)))) (sa_cons (se_tup (sa_cons se_str (sa_cons se_str (sa_cons se_str (sa_cons se_str sa_nil))))) sa_nil)))) (se_call D__law_draw (hr.mono (by omega)) tk (sa_cons (se_var 0 (pv 0)) (sa_cons se_int sa_nil)))) (sg_name (i := 1) S__law_value.nd))
  (sb_cons (ss_asg (se_bin os_mul (se_bin os_sub (se_call D__law_draw (hr.mono (by omega)) tk (sa_cons (se_var 0 (pv 0)) (sa_cons se_int sa_nil))) se_int) (se_ix (se_lst (sa_cons se_int (sa_cons se_int (sa_cons se_int sa_nil)))) (se_call D__law_draw (hr.mono (by omega)) tk (sa_cons (se_var 0 (pv 0)) (sa_cons se_int sa_nil))))) (sg_name (i := 2) S__law_value.nd))
  (sb_cons (ss_asg (se_bin os_sub (se_call D__law_draw (hr.mono (by omega)) tk (sa_cons (se_var 0 (pv 0)) (sa_cons se_int sa_nil))) se_int) (sg_name (i := 3) S__law_value.nd))
  (sb_cons (ss_if (st_cmp (oq_eq (hu64 hr)) (se_call D__law_draw (hr.mono (by omega)) tk (sa_cons (se_var 0 (pv 0)) (sa_cons se_int sa_nil))) se_int) (sb_one (ss_ret (se_tup (sa_cons se_str (sa_cons (se_esc (se_var 2 (pv 2))) (sa_cons (se_esc (se_var 3 (pv 3))) (sa_cons (se_esc (se_var 1 (pv 1))) sa_nil))))))) sb_nil)
  (sb_cons (ss_asg (se_lst (sa_cons (se_tup (sa_cons se_str (sa_cons (se_bin os_add se_int (se_var 3 (pv 3))) sa_nil))) (sa_cons (se_tup (sa_cons se_str (sa_cons se_str (sa_cons (se_tup (sa_cons (se_tup (sa_cons (se_esc (se_var 1 (pv 1))) (sa_cons se_bl sa_nil))) (sa_cons (se_tup (sa_cons (se_esc (se_var 1 (pv 1))) (sa_cons se_bl sa_nil))) sa_nil))) sa_nil)))) (sa_cons (se_tup (sa_cons se_str (sa_cons se_str (sa_cons (se_tup sa_nil) sa_nil)))) (sa_cons (se_tup (sa_cons se_str (sa_cons (se_esc (se_var 2 (pv 2))) (sa_cons (se_esc (se_var 3 (pv 3))) sa_nil)))) sa_nil))))) (sg_name (i := 4) S__law_value.nd))
  (sb_cons (ss_asg (se_bin os_add (se_var 4 (pv 4)) (se_lst (sa_cons (se_tup (sa_cons se_str (sa_cons (se_esc (se_var 2 (pv 2))) (sa_cons (se_esc (se_var 3 (pv 3))) sa_nil)))) (sa_cons (se_tup (sa_cons se_str (sa_cons (se_esc (se_var 2 (pv 2))) (sa_cons (se_esc (se_var 3 (pv 3))) (sa_cons (se_esc (se_var 1 (pv 1))) (sa_cons (se_esc (se_var 1 (pv 1))) sa_nil)))))) (sa_cons (se_tup (sa_cons se_str (sa_cons se_bl (sa_cons (se_esc (se_var 3 (pv 3))) (sa_cons (se_esc (se_var 1 (pv 1))) sa_nil))))) sa_nil))))) (sg_name (i := 4) S__law_value.nd))
  (sb_cons (ss_asg (se_bin os_add (se_var 4 (pv 4)) (se_lst (sa_cons (se_tup (sa_cons se_str (sa_cons (se_esc (se_var 2 (pv 2))) (sa_cons se_bl (sa_cons (se_esc (se_var 1 (pv 1))) sa_nil))))) (sa_cons (se_tup (sa_cons se_str (sa_cons (se_esc (se_var 2 (pv 2))) (sa_cons (se_ty cs_str T.m_str PyProof.Rows.boot_str (sa_cons (se_var 3 (pv 3)) sa_nil)) (sa_cons (se_esc (se_var 1 (pv 1))) sa_nil))))) (sa_cons (se_tup (sa_cons se_str (sa_cons (se_esc (se_var 2 (pv 2))) (sa_cons (se_esc (se_var 3 (pv 3))) (sa_cons (se_esc (se_var 1 (pv 1))) sa_nil))))) sa_nil))))) (sg_name (i := 4) S__law_value.nd))
  (sb_cons (ss_asg (se_bin os_add (se_var 4 (pv 4)) (se_lst (sa_cons se_str (sa_cons se_non (sa_cons (se_esc (se_var 2 (pv 2))) (sa_cons (se_tup sa_nil) sa_nil)))))) (sg_name (i := 4) S__law_value.nd))
  (sb_one (ss_ret (se_ix (se_var 4 (pv 4)) (se_call D__law_draw (hr.mono (by omega)) tk (sa_cons (se_var 0 (pv 0)) (sa_cons (se_blt cs_len T.m_len PySem.boot_len (sa_cons (se_var 4 (pv 4)) sa_nil)) sa_nil))))))))))))))
def b__law_is_whole : ES := (mRet (mAndV (mIsi "int" (mVar 0)) (mNotV (mIsi "bool" (mVar 0)))))
def f__law_is_whole : FM := mkF 1 1 [0] b__law_is_whole
theorem ok__law_is_whole (T : Txt P w K mg)  : Def P w K mg base 1 "_law_is_whole" ["_law_value_here"] f__law_is_whole := by
  obtain ⟨f, fd, F, hx⟩ := T.fx__law_is_whole
  refine def_of (k := 0) (N := N__law_is_whole) (I := [0]) F hx S__law_is_whole (by decide) (fun _ _ _ _ _ _ us hl => match us, hl with | [_], _ => rfl) fun X E ⟨cdv, A, outer, s, H, e⟩ hr tk po => ?_
  subst e
  exact (sb_one (ss_ret (se_and (se_isi (T := "int") T.m_isinstance T.m_int PyProof.Rows.boot_int (se_var 0 (pv 0))) (se_one (se_not (se_isi (T := "bool") T.m_isinstance T.m_bool PyProof.Rows.boot_bool (se_var 0 (pv 0))))))))
def b__law_moved : ES := (mSeq (mAsg (mLst mNil) (tgN 2))
  (mSeq (mFor (mIt [0] (mVar 0)) (tgN 3)
  (mSeq (mAsg (mAndV (mIsi "tuple" (mVar 3)) (mAndV (mBin (blOf gEq) (mBlt gLen (mCons (mVar 3) mNil)) (mC (.int 4))) (mBin (blOf gEq) (mIx (mVar 3) (mC (.int 0))) (mC (.str "resolve"))))) (tgN 4))
  (mIf (mAnd (mTst (mVar 4)) (mAnd (mTst (mCall 1 f__law_is_whole (mCons (mIx (mVar 3) (mC (.int 1))) mNil))) (mTst (mCall 1 f__law_is_whole (mCons (mIx (mVar 3) (mC (.int 2))) mNil))))) (mDrop (mMut 2 gAppend (mCons (mTup (mCons (mC (.str "resolve")) (mCons (mBin gAdd (mIx (mVar 3) (mC (.int 1))) (mVar 1)) (mCons (mBin gAdd (mIx (mVar 3) (mC (.int 2))) (mVar 1)) (mCons (mIx (mVar 3) (mC (.int 3))) mNil))))) mNil))) (mDrop (mMut 2 gAppend (mCons (mEsc (mVar 3)) mNil))))))
  (mRet (mMv (mVar 2)))))
def f__law_moved : FM := mkF 2 5 [0, 1] b__law_moved
theorem ok__law_moved (T : Txt P w K mg) (D__law_is_whole : Def P w K mg base 1 "_law_is_whole" ["_law_value_here"] f__law_is_whole) : Def P w K mg base 2 "_law_moved" ["_law_rows", "_law_steps"] f__law_moved := by
  obtain ⟨f, fd, F, hx⟩ := T.fx__law_moved
  refine def_of (k := 1) (N := N__law_moved) (I := [0, 1]) F hx S__law_moved (by decide) (fun _ _ _ _ _ _ us hl => match us, hl with | [_, _], _ => rfl) fun X E ⟨cdv, A, outer, s, H, e⟩ hr tk po => ?_
  subst e
  exact (sb_cons (ss_asg (se_lst sa_nil) (sg_name (i := 2) S__law_moved.nd))
  (sb_cons (ss_for (J := [0]) po rfl (si_seq (se_var 0 (pv 0))) (sg_name (i := 3) S__law_moved.nd)
  (sb_cons (ss_asg (se_and (se_isi (T := "tuple") T.m_isinstance T.m_tuple PyProof.Rows.boot_tuple (se_var 3 (pv 3))) (se_and (se_cmp (oq_eq (hu64 hr)) (se_blt cs_len T.m_len PySem.boot_len (sa_cons (se_var 3 (pv 3)) sa_nil)) se_int) (se_one (se_cmp (oq_eq (hu64 hr)) (se_ix (se_var 3 (pv 3)) se_int) se_str)))) (sg_name (i := 4) S__law_moved.nd))
  (sb_one (ss_if (st_w (sw_and (st_truth (se_var 4 (pv 4))) (sw_and (st_truth (se_call D__law_is_whole (hr.mono (by omega)) tk (sa_cons (se_ix (se_var 3 (pv 3)) se_int) sa_nil))) (sw_and1 (st_truth (se_call D__law_is_whole (hr.mono (by omega)) tk (sa_cons (se_ix (se_var 3 (pv 3)) se_int) sa_nil))))))) (sb_one (ss_expr (se_mut ms_append PySem.F.slot_list_append PySem.F.type_list_append (pv 2) (sa_cons (se_tup (sa_cons se_str (sa_cons (se_bin os_add (se_ix (se_var 3 (pv 3)) se_int) (se_var 1 (pv 1))) (sa_cons (se_bin os_add (se_ix (se_var 3 (pv 3)) se_int) (se_var 1 (pv 1))) (sa_cons (se_ix (se_var 3 (pv 3)) se_int) sa_nil))))) sa_nil)))) (sb_one (ss_expr (se_mut ms_append PySem.F.slot_list_append PySem.F.type_list_append (pv 2) (sa_cons (se_esc (se_var 3 (pv 3))) sa_nil))))))))
  (sb_one (ss_ret (se_mv (se_var 2 (pv 2)))))))
def b__law_item : ES := (mSeq (mTryAs (mRet (mLst (mCons (mOwn2 "Certificate" f_Certificate___getitem__ (mVar 0) (mVar 1)) mNil))) errTab hit_LookerError 2 (fun x_ => (mIf (mAnd (mTst (mIsE hit_BadRow x_)) (mAnd (mTst (mIsE hit_ValueError x_)) (mNot (mTst (mIsE hit_BadStep x_))))) (mRet (mLst (mCons (mC (.str "refused")) (mCons (mFld x_ "index") mNil)))) mSkip)))
  (mRet (mLst mNil)))
def f__law_item : FM := mkF 2 3 [0, 1] b__law_item
theorem ok__law_item (T : Txt P w K mg) (D_Certificate___getitem__ : MA P w K mg base 2 "Certificate" "__getitem__" 2 f_Certificate___getitem__) : Def P w K mg base 4 "_law_item" ["_law_certificate", "_law_at"] f__law_item := by
  obtain ⟨f, fd, F, hx⟩ := T.fx__law_item
  obtain ⟨Cc_LookerError, cm_LookerError, ch_LookerError⟩ := T.cl_LookerError
  obtain ⟨Ck_BadRow, km_BadRow, kh_BadRow⟩ := T.ki_BadRow
  obtain ⟨Ck_BadStep, km_BadStep, kh_BadStep⟩ := T.ki_BadStep
  refine def_of (k := 3) (N := N__law_item) (I := [0, 1]) F hx S__law_item (by decide) (fun _ _ _ _ _ _ us hl => match us, hl with | [_, _], _ => rfl) fun X E ⟨cdv, A, outer, s, H, e⟩ hr tk po => ?_
  subst e
  exact (sb_cons (ss_tryAs (i := 2) (c := .ref Cc_LookerError) (tab := errTab) (hit := hit_LookerError) (A := A) tk ⟨rfl, by decide, .inl cm_LookerError⟩ ch_LookerError S__law_item.nd (fun W pn xe tk po => (sb_one (ss_ret (se_lst (sa_cons (se_ixO D_Certificate___getitem__.own (hr.mono (by omega)) tk (se_var 0 (pv 0)) (se_var 1 (pv 1))) sa_nil))))) (fun a_ oe_ cls_ d_ pn_ x_ g_ => (sb_one (ss_if (st_w (sw_and (st_truth (se_isE (c := .ref Ck_BadRow) (cv := .ref Ck_BadRow) (hit := hit_BadRow) T.errs T.kito (T.kitc _ (lookup_mem g_.tb)) g_ kh_BadRow (fun _ h => h) T.m_isinstance (pv 2) (pe_glob (by rfl) km_BadRow rfl))) (sw_and (st_truth (se_isE (c := .ty "ValueError") (cv := .type "ValueError") (hit := hit_ValueError) T.errs T.kito (T.kitc _ (lookup_mem g_.tb)) g_ T.kb_ValueError.2 (fun _ h => h) T.m_isinstance (pv 2) (pe_bltn (by rfl) T.kb_ValueError.1 (by decide +kernel) rfl))) (sw_and1 (st_not (st_truth (se_isE (c := .ref Ck_BadStep) (cv := .ref Ck_BadStep) (hit := hit_BadStep) T.errs T.kito (T.kitc _ (lookup_mem g_.tb)) g_ kh_BadStep (fun _ h => h) T.m_isinstance (pv 2) (pe_glob (by rfl) km_BadStep rfl)))))))) (sb_one (ss_ret (se_lst (sa_cons se_str (sa_cons (se_fld T.errs g_ (pv 2)) sa_nil))))) sb_nil))))
  (sb_one (ss_ret (se_lst sa_nil))))
def b__law_is : ES := (mSeq (mIf (mOr (mNot (mTst (mIsC "Certificate" (mVar 0)))) (mNot (mTst (mCall 2 f__law_alike (mCons (mAttr ["Certificate"] "rows" (mVar 0)) (mCons (mBlt gTuple (mCons (mVar 1) mNil)) mNil)))))) (mRet (mC (.bl false))) mSkip)
  (mSeq (mIf (mOr (mCmp gNe (mLenO "Certificate" f_Certificate___len__ (mVar 0)) (mBlt gLen (mCons (mVar 1) mNil))) (mNot (mTst (mCall 2 f__law_alike (mCons (mPrp "Certificate" f_Certificate_last (mVar 0)) (mCons (mBin gSub (mBlt gLen (mCons (mVar 1) mNil)) (mC (.int 1))) mNil)))))) (mRet (mC (.bl false))) mSkip)
  (mSeq (mIf (mOr (mNot (mTst (mCall 2 f__law_alike (mCons (mLstO "Certificate" "rows" (mVar 0)) (mCons (mVar 1) mNil))))) (mTst (mNe "Certificate" f_Certificate___eq__ (mVar 0) (mMake "Certificate" 2 f_Certificate___init__ (mCons (mBlt gTuple (mCons (mVar 1) mNil)) mNil))))) (mRet (mC (.bl false))) mSkip)
  (mSeq (mFor (mRng1 (mCons (mBlt gLen (mCons (mVar 1) mNil)) mNil)) (tgN 2)
  (mIf (mNot (mTst (mCall 2 f__law_alike (mCons (mCall 2 f__law_item (mCons (mVar 0) (mCons (mVar 2) mNil))) (mCons (mLst (mCons (mIx (mVar 1) (mVar 2)) mNil)) mNil))))) (mRet (mC (.bl false))) mSkip))
  (mSeq (mFor (mIt [] (mLst (mCons (mUn gNeg (mC (.int 1))) (mCons (mBlt gLen (mCons (mVar 1) mNil)) (mCons (mBin gAdd (mBlt gLen (mCons (mVar 1) mNil)) (mC (.int 7))) (mCons (mC (.bl true)) (mCons (mC (.bl false)) (mCons (mC .non) (mCons (mC (.str "0")) mNil))))))))) (tgN 2)
  (mIf (mNot (mTst (mCall 2 f__law_alike (mCons (mCall 2 f__law_item (mCons (mVar 0) (mCons (mVar 2) mNil))) (mCons (mLst (mCons (mC (.str "refused")) (mCons (mEsc (mVar 2)) mNil))) mNil))))) (mRet (mC (.bl false))) mSkip))
  (mRet (mNe "Certificate" f_Certificate___eq__ (mVar 0) (mMake "Certificate" 2 f_Certificate___init__ (mCons (mBin gAdd (mVar 1) (mLst (mCons (mTup (mCons (mC (.str "given")) (mCons (mC (.int 1)) mNil))) mNil))) mNil)))))))))
def f__law_is : FM := mkF 2 3 [0, 1] b__law_is
theorem ok__law_is (T : Txt P w K mg) (D_Certificate___eq__ : MA P w K mg base 1 "Certificate" "__eq__" 2 f_Certificate___eq__) (D_Certificate___init__ : MA P w K mg base 1 "Certificate" "__init__" 2 f_Certificate___init__) (D_Certificate___len__ : MA P w K mg base 1 "Certificate" "__len__" 1 f_Certificate___len__) (D_Certificate_last : PrpS P w K mg base 1 "Certificate" "last" f_Certificate_last) (D__law_alike : Def P w K mg base 70 "_law_alike" ["_law_actual", "_law_due"] f__law_alike) (D__law_item : Def P w K mg base 4 "_law_item" ["_law_certificate", "_law_at"] f__law_item) (D_itr_Certificate : ItrS P w K mg base 1 "Certificate" "rows") : Def P w K mg base 71 "_law_is" ["_law_certificate", "_law_rows"] f__law_is := by
  obtain ⟨f, fd, F, hx⟩ := T.fx__law_is
  refine def_of (k := 70) (N := N__law_is) (I := [0, 1]) F hx S__law_is (by decide) (fun _ _ _ _ _ _ us hl => match us, hl with | [_, _], _ => rfl) fun X E ⟨cdv, A, outer, s, H, e⟩ hr tk po => ?_
  subst e
  exact (sb_cons (ss_if (st_w (sw_or (st_not (st_truth (se_isC T.isc_Certificate T.m_isinstance (se_var 0 (pv 0))))) (sw_or1 (st_not (st_truth (se_call D__law_alike (hr.mono (by omega)) tk (sa_cons (se_attr T.fld_Certificate_rows (se_var 0 (pv 0))) (sa_cons (se_ty cs_tuple T.m_tuple PyProof.Rows.boot_tuple (sa_cons (se_var 1 (pv 1)) sa_nil)) sa_nil)))))))) (sb_one (ss_ret se_bl)) sb_nil)
  (sb_cons (ss_if (st_w (sw_or (st_cmp (oq_ne (hu64 hr)) (se_lenO D_Certificate___len__.own T.m_len (hr.mono (by omega)) tk (se_var 0 (pv 0))) (se_blt cs_len T.m_len PySem.boot_len (sa_cons (se_var 1 (pv 1)) sa_nil))) (sw_or1 (st_not (st_truth (se_call D__law_alike (hr.mono (by omega)) tk (sa_cons (se_prp D_Certificate_last (hr.mono (by omega)) (se_var 0 (pv 0))) (sa_cons (se_bin os_sub (se_blt cs_len T.m_len PySem.boot_len (sa_cons (se_var 1 (pv 1)) sa_nil)) se_int) sa_nil)))))))) (sb_one (ss_ret se_bl)) sb_nil)
  (sb_cons (ss_if (st_w (sw_or (st_not (st_truth (se_call D__law_alike (hr.mono (by omega)) tk (sa_cons (se_lstO D_itr_Certificate T.m_list (hr.mono (by omega)) (se_var 0 (pv 0))) (sa_cons (se_var 1 (pv 1)) sa_nil))))) (sw_or1 (st_neO D_Certificate___eq__.own T.neq_Certificate (hr.mono (by omega)) tk (se_var 0 (pv 0)) (se_make (D_Certificate___init__.mkr T.mkr_Certificate) (hr.mono (by omega)) tk (sa_cons (se_ty cs_tuple T.m_tuple PyProof.Rows.boot_tuple (sa_cons (se_var 1 (pv 1)) sa_nil)) sa_nil)))))) (sb_one (ss_ret se_bl)) sb_nil)
  (sb_cons (ss_for (J := []) po rfl (si_rng1 T.m_range (sa_cons (se_blt cs_len T.m_len PySem.boot_len (sa_cons (se_var 1 (pv 1)) sa_nil)) sa_nil)) (sg_name (i := 2) S__law_is.nd)
  (sb_one (ss_if (st_not (st_truth (se_call D__law_alike (hr.mono (by omega)) tk (sa_cons (se_call D__law_item (hr.mono (by omega)) tk (sa_cons (se_var 0 (pv 0)) (sa_cons (se_var 2 (pv 2)) sa_nil))) (sa_cons (se_lst (sa_cons (se_ix (se_var 1 (pv 1)) (se_var 2 (pv 2))) sa_nil)) sa_nil))))) (sb_one (ss_ret se_bl)) sb_nil)))
  (sb_cons (ss_for (J := []) po rfl (si_seq (se_lst (sa_cons (se_un us_neg se_int) (sa_cons (se_blt cs_len T.m_len PySem.boot_len (sa_cons (se_var 1 (pv 1)) sa_nil)) (sa_cons (se_bin os_add (se_blt cs_len T.m_len PySem.boot_len (sa_cons (se_var 1 (pv 1)) sa_nil)) se_int) (sa_cons se_bl (sa_cons se_bl (sa_cons se_non (sa_cons se_str sa_nil))))))))) (sg_name (i := 2) S__law_is.nd)
  (sb_one (ss_if (st_not (st_truth (se_call D__law_alike (hr.mono (by omega)) tk (sa_cons (se_call D__law_item (hr.mono (by omega)) tk (sa_cons (se_var 0 (pv 0)) (sa_cons (se_var 2 (pv 2)) sa_nil))) (sa_cons (se_lst (sa_cons se_str (sa_cons (se_esc (se_var 2 (pv 2))) sa_nil))) sa_nil))))) (sb_one (ss_ret se_bl)) sb_nil)))
  (sb_one (ss_ret (se_neO D_Certificate___eq__.own T.neq_Certificate (hr.mono (by omega)) tk (se_var 0 (pv 0)) (se_make (D_Certificate___init__.mkr T.mkr_Certificate) (hr.mono (by omega)) tk (sa_cons (se_bin os_add (se_var 1 (pv 1)) (se_lst (sa_cons (se_tup (sa_cons se_str (sa_cons se_int sa_nil))) sa_nil))) sa_nil))))))))))
def b_law : ES := (mSeq (mAsg (mCall 1 f__law_state (mCons (mVar 0) mNil)) (tgN 1))
  (mSeq (mAsg (mLc (mRng1 (mCons (mC (.int 3)) mNil)) [13] (tgN 13) mYes (mLc (mRng1 (mCons (mCall 2 f__law_draw (mCons (mVar 1) (mCons (mC (.int 6)) mNil))) mNil)) [15] (tgN 15) mYes (mCall 1 f__law_value (mCons (mVar 1) mNil)))) (tgN 2))
  (mHid (hLc 3 (mLcO (mIt [2] (mVar 2)) [14] (tgN 14) (mBlt gList (mCons (mVar 14) mNil))))
  (hSq (hMk "Certificate" f_Certificate___init__ 4 0)
  (hSq (hPl (mAsg (mMake "Certificate" 2 f_Certificate___init__ (mCons (mBlt gTuple (mCons (mIx (mVar 2) (mC (.int 1))) mNil)) mNil)) (tgN 5)))
  (hSq (hMk "Certificate" f_Certificate___init__ 6 2)
  (hSq (hAp 0 (mTup (mCons (mC (.str "given")) (mCons (mC (.int 7)) mNil))))
  (hAp 2 (mC .non))))))
  (mSeq (mAsg (mBoth "Certificate" f_Certificate___add__ (mVar 4) (mVar 5)) (tgN 7))
  (mSeq (mAsg (mBin gAdd (mIx (mVar 2) (mC (.int 0))) (mCall 2 f__law_moved (mCons (mIx (mVar 2) (mC (.int 1))) (mCons (mBlt gLen (mCons (mIx (mVar 2) (mC (.int 0))) mNil)) mNil)))) (tgN 8))
  (mSeq (mIf (mOr (mNot (mTst (mCall 2 f__law_is (mCons (mVar 7) (mCons (mVar 8) mNil))))) (mNot (mTst (mCall 2 f__law_is (mCons (mBoth "Certificate" f_Certificate___add__ (mVar 4) (mVar 4)) (mCons (mBin gAdd (mIx (mVar 2) (mC (.int 0))) (mCall 2 f__law_moved (mCons (mIx (mVar 2) (mC (.int 0))) (mCons (mBlt gLen (mCons (mIx (mVar 2) (mC (.int 0))) mNil)) mNil)))) mNil)))))) (mRet (mC (.bl false))) mSkip)
  (mSeq (mAsg (mBin gAdd (mVar 8) (mCall 2 f__law_moved (mCons (mIx (mVar 2) (mC (.int 2))) (mCons (mBlt gLen (mCons (mVar 8) mNil)) mNil)))) (tgN 9))
  (mSeq (mIf (mOr (mNot (mTst (mCall 2 f__law_is (mCons (mBoth "Certificate" f_Certificate___add__ (mVar 7) (mVar 6)) (mCons (mVar 9) mNil))))) (mNot (mTst (mCall 2 f__law_is (mCons (mBoth "Certificate" f_Certificate___add__ (mVar 4) (mBoth "Certificate" f_Certificate___add__ (mVar 5) (mVar 6))) (mCons (mVar 9) mNil)))))) (mRet (mC (.bl false))) mSkip)
  (mSeq (mIf (mOr (mNot (mTst (mCall 2 f__law_is (mCons (mBoth "Certificate" f_Certificate___add__ (mVar 4) (mMake "Certificate" 2 f_Certificate___init__ (mCons (mTup mNil) mNil))) (mCons (mIx (mVar 2) (mC (.int 0))) mNil))))) (mNot (mTst (mCall 2 f__law_is (mCons (mBoth "Certificate" f_Certificate___add__ (mMake "Certificate" 2 f_Certificate___init__ (mCons (mLst mNil) mNil)) (mVar 5)) (mCons (mIx (mVar 2) (mC (.int 1))) mNil)))))) (mRet (mC (.bl false))) mSkip)
  (mSeq (mAsg (mBin gAdd (mBin gMul (mCall 2 f__law_draw (mCons (mVar 1) (mCons (mC (.int 60)) mNil))) (mC (.int 16))) (mC (.int 1))) (tgN 10))
  (mSeq (mAsg (mTup (mCons (mTup (mCons (mTup (mCons (mC (.str "")) (mCons (mC (.str "size")) (mCons (mC (.int 1)) mNil)))) (mCons (mC (.bl false)) mNil))) (mCons (mTup (mCons (mTup (mCons (mC (.str "")) (mCons (mC (.str "size")) (mCons (mC (.int 2)) mNil)))) (mCons (mC (.bl true)) mNil))) mNil))) (tgN 11))
  (mSeq (mIf (mNot (mTst (mCall 2 f__law_is (mCons (mCall 1 f_Certificate_given (mCons (mVar 10) mNil)) (mCons (mLst (mCons (mTup (mCons (mC (.str "given")) (mCons (mEsc (mVar 10)) mNil))) mNil)) mNil))))) (mRet (mC (.bl false))) mSkip)
  (mSeq (mIf (mNot (mTst (mCall 2 f__law_is (mCons (mCall 2 f_Certificate_theory (mCons (mC (.str "")) (mCons (mVar 11) mNil))) (mCons (mLst (mCons (mTup (mCons (mC (.str "theory")) (mCons (mC (.str "")) (mCons (mEsc (mVar 11)) mNil)))) mNil)) mNil))))) (mRet (mC (.bl false))) mSkip)
  (mSeq (mAsg (mBin gSub (mCall 2 f__law_draw (mCons (mVar 1) (mCons (mC (.int 9)) mNil))) (mC (.int 2))) (tgN 12))
  (mSeq (mIf (mNot (mTst (mCall 2 f__law_is (mCons (mMeth "Certificate" "resolve" 4 f_Certificate_resolve (mVar 7) (mCons (mVar 12) (mCons (mVar 10) (mCons (mTup (mCons (mC (.str "")) (mCons (mC (.str "size")) (mCons (mC (.int 2)) mNil)))) mNil)))) (mCons (mBin gAdd (mVar 8) (mLst (mCons (mTup (mCons (mC (.str "resolve")) (mCons (mEsc (mVar 12)) (mCons (mEsc (mVar 10)) (mCons (mTup (mCons (mC (.str "")) (mCons (mC (.str "size")) (mCons (mC (.int 2)) mNil)))) mNil))))) mNil))) mNil))))) (mRet (mC (.bl false))) mSkip)
  (mRet (mAndV (mCall 2 f__law_is (mCons (mVar 4) (mCons (mIx (mVar 2) (mC (.int 0))) mNil))) (mAndV (mCall 2 f__law_is (mCons (mVar 5) (mCons (mIx (mVar 2) (mC (.int 1))) mNil))) (mAndV (mCall 2 f__law_is (mCons (mVar 6) (mCons (mIx (mVar 2) (mC (.int 2))) mNil))) (mCall 2 f__law_is (mCons (mVar 7) (mCons (mVar 8) mNil))))))))))))))))))))))
def f_law : FM := mkF 1 16 [0] b_law
theorem ok_law (T : Txt P w K mg) {f : Addr} {fd : FuncData} (F : Fun K "law" "law" s_law f fd) (D_Certificate___add__ : MA P w K mg base 4 "Certificate" "__add__" 2 f_Certificate___add__) (D_Certificate___init__ : MA P w K mg base 1 "Certificate" "__init__" 2 f_Certificate___init__) (D_Certificate_given : StcS P w K mg base 3 "Certificate" "given" 1 f_Certificate_given) (D_Certificate_resolve : MA P w K mg base 3 "Certificate" "resolve" 4 f_Certificate_resolve) (D_Certificate_theory : StcS P w K mg base 3 "Certificate" "theory" 2 f_Certificate_theory) (D__law_draw : Def P w K mg base 1 "_law_draw" ["_law_state_here", "_law_many"] f__law_draw) (D__law_is : Def P w K mg base 71 "_law_is" ["_law_certificate", "_law_rows"] f__law_is) (D__law_moved : Def P w K mg base 2 "_law_moved" ["_law_rows", "_law_steps"] f__law_moved) (D__law_state : Def P w K mg base 1 "_law_state" ["_law_script"] f__law_state) (D__law_value : Def P w K mg base 2 "_law_value" ["_law_state_here"] f__law_value) : FnOk P w K mg base (L2.CX P w) 72 f fd ["_law_script"] (spF 1 K mg f_law) := by
  refine fnOk_of (k := 71) (N := N_law) (I := [0]) F S_law (by decide) fun X E ⟨cdv, A, outer, s, H, e⟩ hr tk po => ?_
  subst e
  exact (sb_cons (ss_asg (se_call D__law_state (hr.mono (by omega)) tk (sa_cons (se_var 0 (pv 0)) sa_nil)) (sg_name (i := 1) S_law.nd))
  (sb_cons (ss_setLc (i := 2) (own := [("_law_j", 13)]) (J := []) (n := 16) rfl S_law.nd rfl (sw_true rfl rfl rfl (by decide +kernel)) (blkOk_by (own := [("_law_j", 13)]) (N := N_law) (sc := (defScope s_law)) (by decide +kernel)) (si_rng1 T.m_range (sa_cons se_int sa_nil)) (fun _ _ _ _ _ => (sg_name (i := 13) S_law.nd)) (fun _ _ _ _ _ => sts_nil) (fun _ _ _ _ _ => (se_lc (own := [("_law_k", 15)]) (J := []) (n := 16) rfl S_law.nd (blkOk_by (own := [("_law_k", 15)]) (N := N_law) (sc := (relabel (lcScope (asgVal ((defBody s_law).getD 1 default))) (PyProof.Rows.envOfC "law" (defScope s_law) 0 0 .none))) (by decide +kernel)) (si_rng1 T.m_range (sa_cons (se_call D__law_draw (hr.mono (by omega)) takes0 (sa_cons (se_var 1 (pv 1)) (sa_cons se_int sa_nil))) sa_nil)) (fun _ _ _ _ _ => (sg_name (i := 15) S_law.nd)) (fun _ _ _ _ _ => sts_nil) (fun _ _ _ _ _ => (se_call D__law_value (hr.mono (by omega)) takes0 (sa_cons (se_var 1 (pv 1)) sa_nil))))))
  (sb_hid (i := 3) (sh_lc (own := [("_law_row", 14)]) (J := [2]) (n := 16) rfl S_law.nd rfl (sw_true rfl rfl rfl (by decide +kernel)) (blkOk_by (own := [("_law_row", 14)]) (N := N_law) (sc := (defScope s_law)) (by decide +kernel)) (si_seq (se_var 2 (pv 2))) (fun _ _ _ _ _ => (sg_name (i := 14) S_law.nd)) (fun _ _ _ _ _ => sts_nil) (fun _ _ _ _ _ => (se_ty cs_list T.m_list PyProof.Rows.boot_list (sa_cons (se_var 14 (pv 14)) sa_nil))))
  (shs_cons (sh_mk (j := 0) (D_Certificate___init__.mkr T.mkr_Certificate) (hr.mono (by omega)) tk (pv 3) (sg_name (i := 4) S_law.nd))
  (shs_cons (sh_ss (ss_asg (se_make (D_Certificate___init__.mkr T.mkr_Certificate) (hr.mono (by omega)) tk (sa_cons (se_ty cs_tuple T.m_tuple PyProof.Rows.boot_tuple (sa_cons (se_ix (se_var 2 (pv 2)) se_int) sa_nil)) sa_nil)) (sg_name (i := 5) S_law.nd)))
  (shs_cons (sh_mk (j := 2) (D_Certificate___init__.mkr T.mkr_Certificate) (hr.mono (by omega)) tk (pv 3) (sg_name (i := 6) S_law.nd))
  (shs_cons (sh_ap (j := 0) (pv 3) (se_tup (sa_cons se_str (sa_cons se_int sa_nil))))
  (shs_last (sh_ap (j := 2) (pv 3) se_non)
  (sb_cons (ss_asg (se_binO D_Certificate___add__.own (hr.mono (by omega)) tk (se_var 4 (pv 4)) (se_var 5 (pv 5))) (sg_name (i := 7) S_law.nd))
  (sb_cons (ss_asg (se_bin os_add (se_ix (se_var 2 (pv 2)) se_int) (se_call D__law_moved (hr.mono (by omega)) tk (sa_cons (se_ix (se_var 2 (pv 2)) se_int) (sa_cons (se_blt cs_len T.m_len PySem.boot_len (sa_cons (se_ix (se_var 2 (pv 2)) se_int) sa_nil)) sa_nil)))) (sg_name (i := 8) S_law.nd))
  (sb_cons (ss_if (st_w (sw_or (st_not (st_truth (se_call D__law_is (hr.mono (by omega)) tk (sa_cons (se_var 7 (pv 7)) (sa_cons (se_var 8 (pv 8)) sa_nil))))) (sw_or1 (st_not (st_truth (se_call D__law_is (hr.mono (by omega)) tk (sa_cons (se_binO D_Certificate___add__.own (hr.mono (by omega)) tk (se_var 4 (pv 4)) (se_var 4 (pv 4))) (sa_cons (se_bin os_add (se_ix (se_var 2 (pv 2)) se_int) (se_call D__law_moved (hr.mono (by omega)) tk (sa_cons (se_ix (se_var 2 (pv 2)) se_int) (sa_cons (se_blt cs_len T.m_len PySem.boot_len (sa_cons (se_ix (se_var 2 (pv 2)) se_int) sa_nil)) sa_nil)))) sa_nil)))))))) (sb_one (ss_ret se_bl)) sb_nil)
  (sb_cons (ss_asg (se_bin os_add (se_var 8 (pv 8)) (se_call D__law_moved (hr.mono (by omega)) tk (sa_cons (se_ix (se_var 2 (pv 2)) se_int) (sa_cons (se_blt cs_len T.m_len PySem.boot_len (sa_cons (se_var 8 (pv 8)) sa_nil)) sa_nil)))) (sg_name (i := 9) S_law.nd))
  (sb_cons (ss_if (st_w (sw_or (st_not (st_truth (se_call D__law_is (hr.mono (by omega)) tk (sa_cons (se_binO D_Certificate___add__.own (hr.mono (by omega)) tk (se_var 7 (pv 7)) (se_var 6 (pv 6))) (sa_cons (se_var 9 (pv 9)) sa_nil))))) (sw_or1 (st_not (st_truth (se_call D__law_is (hr.mono (by omega)) tk (sa_cons (se_binO D_Certificate___add__.own (hr.mono (by omega)) tk (se_var 4 (pv 4)) (se_binO D_Certificate___add__.own (hr.mono (by omega)) tk (se_var 5 (pv 5)) (se_var 6 (pv 6)))) (sa_cons (se_var 9 (pv 9)) sa_nil)))))))) (sb_one (ss_ret se_bl)) sb_nil)
  (sb_cons (ss_if (st_w (sw_or (st_not (st_truth (se_call D__law_is (hr.mono (by omega)) tk (sa_cons (se_binO D_Certificate___add__.own (hr.mono (by omega)) tk (se_var 4 (pv 4)) (se_make (D_Certificate___init__.mkr T.mkr_Certificate) (hr.mono (by omega)) tk (sa_cons (se_tup sa_nil) sa_nil))) (sa_cons (se_ix (se_var 2 (pv 2)) se_int) sa_nil))))) (sw_or1 (st_not (st_truth (se_call D__law_is (hr.mono (by omega)) tk (sa_cons (se_binO D_Certificate___add__.own (hr.mono (by omega)) tk (se_make (D_Certificate___init__.mkr T.mkr_Certificate) (hr.mono (by omega)) tk (sa_cons (se_lst sa_nil) sa_nil)) (se_var 5 (pv 5))) (sa_cons (se_ix (se_var 2 (pv 2)) se_int) sa_nil)))))))) (sb_one (ss_ret se_bl)) sb_nil)
  (sb_cons (ss_asg (se_bin os_add (se_bin os_mul (se_call D__law_draw (hr.mono (by omega)) tk (sa_cons (se_var 1 (pv 1)) (sa_cons se_int sa_nil))) se_int) se_int) (sg_name (i := 10) S_law.nd))
  (sb_cons (ss_asg (se_tup (sa_cons (se_tup (sa_cons (se_tup (sa_cons se_str (sa_cons se_str (sa_cons se_int sa_nil)))) (sa_cons se_bl sa_nil))) (sa_cons (se_tup (sa_cons (se_tup (sa_cons se_str (sa_cons se_str (sa_cons se_int sa_nil)))) (sa_cons se_bl sa_nil))) sa_nil))) (sg_name (i := 11) S_law.nd))
  (sb_cons (ss_if (st_not (st_truth (se_call D__law_is (hr.mono (by omega)) tk (sa_cons (se_stc D_Certificate_given (hr.mono (by omega)) tk (sa_cons (se_var 10 (pv 10)) sa_nil)) (sa_cons (se_lst (sa_cons (se_tup (sa_cons se_str (sa_cons (se_esc (se_var 10 (pv 10))) sa_nil))) sa_nil)) sa_nil))))) (sb_one (ss_ret se_bl)) sb_nil)
  (sb_cons (ss_if (st_not (st_truth (se_call D__law_is (hr.mono (by omega)) tk (sa_cons (se_stc D_Certificate_theory (hr.mono (by omega)) tk (sa_cons se_str (sa_cons (se_var 11 (pv 11)) sa_nil))) (sa_cons (se_lst (sa_cons (se_tup (sa_cons se_str (sa_cons se_str (sa_cons (se_esc (se_var 11 (pv 11))) sa_nil)))) sa_nil)) sa_nil))))) (sb_one (ss_ret se_bl)) sb_nil)
  (sb_cons (ss_asg (se_bin os_sub (se_call D__law_draw (hr.mono (by omega)) tk (sa_cons (se_var 1 (pv 1)) (sa_cons se_int sa_nil))) se_int) (sg_name (i := 12) S_law.nd))
  (sb_cons (ss_if (st_not (st_truth (se_call D__law_is (hr.mono (by omega)) tk (sa_cons (se_meth D_Certificate_resolve.mtd (hr.mono (by omega)) tk (se_var 7 (pv 7)) (sa_cons (se_var 12 (pv 12)) (sa_cons (se_var 10 (pv 10)) (sa_cons (se_tup (sa_cons se_str (sa_cons se_str (sa_cons se_int sa_nil)))) sa_nil)))) (sa_cons (se_bin os_add (se_var 8 (pv 8)) (se_lst (sa_cons (se_tup (sa_cons se_str (sa_cons (se_esc (se_var 12 (pv 12))) (sa_cons (se_esc (se_var 10 (pv 10))) (sa_cons (se_tup (sa_cons se_str (sa_cons se_str (sa_cons se_int sa_nil)))) sa_nil))))) sa_nil))) sa_nil))))) (sb_one (ss_ret se_bl)) sb_nil)
  (sb_one (ss_ret (se_and (se_call D__law_is (hr.mono (by omega)) tk (sa_cons (se_var 4 (pv 4)) (sa_cons (se_ix (se_var 2 (pv 2)) se_int) sa_nil))) (se_and (se_call D__law_is (hr.mono (by omega)) tk (sa_cons (se_var 5 (pv 5)) (sa_cons (se_ix (se_var 2 (pv 2)) se_int) sa_nil))) (se_and (se_call D__law_is (hr.mono (by omega)) tk (sa_cons (se_var 6 (pv 6)) (sa_cons (se_ix (se_var 2 (pv 2)) se_int) sa_nil))) (se_one (se_call D__law_is (hr.mono (by omega)) tk (sa_cons (se_var 7 (pv 7)) (sa_cons (se_var 8 (pv 8)) sa_nil)))))))))))))))))))))))))))))
theorem ok_all (T : Txt P w K mg) {f : Addr} {fd : FuncData} (F : Fun K "law" "law" s_law f fd) : FnOk P w K mg base (L2.CX P w) 72 f fd ["_law_script"] (spF 1 K mg f_law) := by
  have D_itr_Certificate : ItrS P w K mg base 1 "Certificate" "rows" := itr_of T.mt_Certificate___iter__ T.mt_Certificate___len__ T.fld_Certificate_rows T.m_iter T.m_len S_Certificate___iter__ S_Certificate___len__ rfl rfl rfl rfl (fun _ _ _ _ _ _ us hl => match us, hl with | [_], _ => rfl) (fun _ _ _ _ _ _ us hl => match us, hl with | [_], _ => rfl) (fun _ _ _ _ _ _ _ => rfl) (fun _ _ _ _ _ _ _ => rfl)
  have D_Certificate___init__ := ok_Certificate___init__ (base := base) T 
  have D_Certificate_given := ok_Certificate_given (base := base) T D_Certificate___init__
  have D_Certificate_theory := ok_Certificate_theory (base := base) T D_Certificate___init__
  have D_Certificate_last := ok_Certificate_last (base := base) T 
  have D_Certificate___len__ := ok_Certificate___len__ (base := base) T 
  have D_is_whole := ok_is_whole (base := base) T 
  have D_Certificate___getitem__ := ok_Certificate___getitem__ (base := base) T D_is_whole
  have D_Certificate___eq__ := ok_Certificate___eq__ (base := base) T 
  have D_is_integer := ok_is_integer (base := base) T 
  have D_is_resolve_row := ok_is_resolve_row (base := base) T D_is_integer
  have D_moved_row := ok_moved_row (base := base) T D_is_resolve_row
  have D_Certificate___add__ := ok_Certificate___add__ (base := base) T D_Certificate___init__ D_moved_row
  have D_Certificate_resolve := ok_Certificate_resolve (base := base) T D_Certificate___init__
  have D__law_state := ok__law_state (base := base) T 
  have D__law_draw := ok__law_draw (base := base) T 
  have D__law_alike := ok__law_alike (base := base) T 
  have D__law_value := ok__law_value (base := base) T D__law_draw
  have D__law_is_whole := ok__law_is_whole (base := base) T 
  have D__law_moved := ok__law_moved (base := base) T D__law_is_whole
  have D__law_item := ok__law_item (base := base) T D_Certificate___getitem__
  have D__law_is := ok__law_is (base := base) T D_Certificate___eq__ D_Certificate___init__ D_Certificate___len__ D_Certificate_last D__law_alike D__law_item D_itr_Certificate
  exact ok_law T F D_Certificate___add__ D_Certificate___init__ D_Certificate_given D_Certificate_resolve D_Certificate_theory D__law_draw D__law_is D__law_moved D__law_state D__law_value
end
end Gn

set_option Elab.async false
set_option linter.all false
set_option maxRecDepth 100000
set_option maxHeartbeats 1000000
namespace Gn
open PySem L2 LL
/-- the feed: the cells, the place, what is left of a big one, the small one, its turns -/
structure Feed (d : D) : Prop where
  ex : ∃ (cs : List Int) (p : Nat) (b c : Int) (e : Nat), d = .lst [.lst (cs.map D.int), .int (p : Nat), .int b, .int c, .int (e : Nat)] ∧ 0 ≤ b ∧ 0 ≤ c ∧ c < 10 ^ 18 ∧ e ≤ 6
/-- what follows the filling -/
def drawT : ES := (mSeq (mIf (mCmp gGt (mIx (mVar 0) (mC (.int 2))) (mC (.int 0))) (mSeq (mAsg (mBin gMod (mBlt gInt (mCons (mIx (mVar 0) (mC (.int 2))) mNil)) (mVar 1)) (tgN 3))
  (mSeq (mSetI 0 (mBin gFdv (mIx (mVar 0) (mC (.int 2))) (mVar 1)) (mC (.int 2)))
  (mRet (mMv (mVar 3))))) mSkip)
  (mSeq (mIf (mCmp gGt (mIx (mVar 0) (mC (.int 4))) (mC (.int 0))) (mSeq (mSetI 0 (mBin gSub (mIx (mVar 0) (mC (.int 4))) (mC (.int 1))) (mC (.int 4)))
  (mSeq (mAsg (mBin gMod (mBlt gInt (mCons (mBin gMul (mIx (mVar 0) (mC (.int 3))) (mBin gAdd (mC (.int 48271)) (mBin gMul (mC (.int 2)) (mIx (mVar 0) (mC (.int 4)))))) mNil)) (mC (.int 2147483647))) (tgN 4))
  (mSeq (mAsg (mBin gMod (mBlt gInt (mCons (mBin gMul (mVar 4) (mBin gAdd (mC (.int 16807)) (mIx (mVar 0) (mC (.int 4))))) mNil)) (mC (.int 1000003))) (tgN 4))
  (mRet (mBin gMod (mBlt gInt (mCons (mVar 4) mNil)) (mVar 1)))))) mSkip)
  (mRet (mC (.int 0)))))
def drawF : ES := (mIf (mAnd (mCmp gEq (mIx (mVar 0) (mC (.int 2))) (mC (.int 0))) (mAnd (mCmp gEq (mIx (mVar 0) (mC (.int 4))) (mC (.int 0))) (mCmp gLt (mIx (mVar 0) (mC (.int 1))) (mBlt gLen (mCons (mIx (mVar 0) (mC (.int 0))) mNil))))) (mSeq (mAsg (mIx (mIx (mVar 0) (mC (.int 0))) (mIx (mVar 0) (mC (.int 1)))) (tgN 2))
  (mSeq (mSetI 0 (mBin gAdd (mIx (mVar 0) (mC (.int 1))) (mC (.int 1))) (mC (.int 1)))
  (mSeq (mIf (mCmp gLt (mVar 2) (mC (.int 0))) (mAsg (mBin gSub (mC (.int 1)) (mBin gMul (mC (.int 2)) (mVar 2))) (tgN 2)) mSkip)
  (mIf (mCmp gGe (mVar 2) (mBin gPow (mC (.int 10)) (mC (.int 18)))) (mSetI 0 (mEsc (mVar 2)) (mC (.int 2))) (mSeq (mSetI 0 (mEsc (mVar 2)) (mC (.int 3)))
  (mSetI 0 (mC (.int 6)) (mC (.int 4)))))))) mSkip)
theorem draw_cut : b__law_draw = mSeq (mIf (mCmp gLt (mVar 1) (mC (.int 2))) (mRet (mC (.int 0))) mSkip) (mSeq drawF drawT) := rfl
theorem atI2 {a b c d e : D} : atI [a, b, c, d, e] 2 = some c := rfl
theorem atI1 {a b c d e : D} : atI [a, b, c, d, e] 1 = some b := rfl
theorem atI0 {a b c d e : D} : atI [a, b, c, d, e] 0 = some a := rfl
theorem atI3 {a b c d e : D} : atI [a, b, c, d, e] 3 = some d := rfl
theorem atI4 {a b c d e : D} : atI [a, b, c, d, e] 4 = some e := rfl
theorem mix_ok {many : Int} {x : Int} (h2 : 2 ≤ many) : 0 ≤ x.fmod many ∧ x.fmod many < many := ⟨Int.fmod_nonneg_of_pos _ (by omega), Int.fmod_lt_of_pos _ (by omega)⟩
theorem drawT_ok {cs : List Int} {p : Nat} {b c : Int} {e : Nat} {r : Option (D × Bool)} {many : Int} (h2 : 2 ≤ many) (h1 : many < 2 ^ 29) (hb : 0 ≤ b) (hc : 0 ≤ c) (hc2 : c < 10 ^ 18) (he : e ≤ 6) :
    ∃ n d' ρ, drawT [some (.lst [.lst (cs.map D.int), .int (p : Nat), .int b, .int c, .int (e : Nat)], true), some (.int many, false), r, none, none] = .ok (.ret (.int n) false) (some (d', true) :: some (.int many, false) :: ρ) ∧ Feed d' ∧ 0 ≤ n ∧ n < many := by
  have hmz : many ≠ 0 := by omega
  by_cases hb0 : 0 < b
  · have hf : many ≠ 0 ∧ many.natAbs < 1073741824 := ⟨hmz, by omega⟩
    refine ⟨b.fmod many, .lst [.lst (cs.map D.int), .int (p : Nat), .int (b.fdiv many), .int c, .int (e : Nat)], [r, none, none], ?_, ⟨cs, p, _, c, e, rfl, Int.fdiv_nonneg hb (by omega), hc, hc2, he⟩, (mix_ok h2).1, (mix_ok h2).2⟩
    simp [drawT, mSeq, mIf, mCmp, mIx, mVar, mC, mRet, mRetN, ixG, gIx, mAsg, mBin, mBlt, mCons, mNil, asgK, tgN, mSetI, ixN, mMv, mv, mSkip, mEsc, cool, mAnd, mOr, mNot, mTst, truth, mDrop, mUn, mTup, mLst, tmps, blOf, atI2, hb0, gMod_int hmz, gFdv_int hf]
  · have e0 : b = 0 := by omega
    subst e0
    by_cases he0 : 0 < e
    · obtain ⟨e, rfl⟩ : ∃ k, e = k + 1 := ⟨e - 1, by omega⟩
      have m1 : mulOk 2 (e : Int) = true := by simp [mulOk]
      have m2 : mulOk c (48271 + 2 * (e : Int)) = true := by
        simp only [mulOk, decide_eq_true_eq]
        left
        omega
      have k1 : (2147483647 : Int) ≠ 0 := by decide
      have k2 : (1000003 : Int) ≠ 0 := by decide
      have m3 : mulOk ((c * (48271 + 2 * (e : Int))).fmod 2147483647) (16807 + (e : Int)) = true := by
        simp only [mulOk, decide_eq_true_eq]
        right
        omega
      refine ⟨((((c * (48271 + 2 * (e : Int))).fmod 2147483647) * (16807 + (e : Int))).fmod 1000003).fmod many, .lst [.lst (cs.map D.int), .int (p : Nat), .int 0, .int c, .int (e : Nat)],
        [r, none, some (.int ((((c * (48271 + 2 * (e : Int))).fmod 2147483647) * (16807 + (e : Int))).fmod 1000003), false)], ?_, ⟨cs, p, 0, c, e, rfl, by omega, hc, hc2, by omega⟩, (mix_ok h2).1, (mix_ok h2).2⟩
      have z : ((e : Int) + 1 - 1) = (e : Int) := by omega
      have z2 : (0 : Int) < (e : Int) + 1 := by omega
      simp [drawT, mSeq, mIf, mCmp, mIx, mVar, mC, mRet, mRetN, ixG, gIx, mAsg, mBin, mBlt, mCons, mNil, asgK, tgN, mSetI, ixN, mMv, mv, mSkip, mEsc, cool, mAnd, mOr, mNot, mTst, truth, mDrop, mUn, mTup, mLst, tmps, blOf, atI2, atI3, atI4, z, z2, gMod_int hmz, gMod_int k1, gMod_int k2, gMul_int m1, gMul_int m2, gMul_int m3]
    · have e1 : e = 0 := by omega
      subst e1
      refine ⟨0, _, [r, none, none], ?_, ⟨cs, p, 0, c, 0, rfl, by omega, hc, hc2, by omega⟩, by omega, by omega⟩
      simp [drawT, mSeq, mIf, mCmp, mIx, mVar, mC, mRet, mRetN, ixG, gIx, mAsg, mBin, mBlt, mCons, mNil, asgK, tgN, mSetI, ixN, mMv, mv, mSkip, mEsc, cool, mAnd, mOr, mNot, mTst, truth, mDrop, mUn, mTup, mLst, tmps, blOf, atI2, atI4]
theorem pow18 : gPow (.int 10) (.int 18) = some (.int (10 ^ 18), false) := rfl
theorem drawF_ok {cs : List Int} {p : Nat} {b c : Int} {e : Nat} {many : D × Bool} (hb : 0 ≤ b) (hc : 0 ≤ c) (hc2 : c < 10 ^ 18) (he : e ≤ 6) :
    ∃ (p' : Nat) (b' c' : Int) (e' : Nat) (r : Option (D × Bool)), drawF [some (.lst [.lst (cs.map D.int), .int (p : Nat), .int b, .int c, .int (e : Nat)], true), some many, none, none, none] = .ok .nx [some (.lst [.lst (cs.map D.int), .int (p' : Nat), .int b', .int c', .int (e' : Nat)], true), some many, r, none, none] ∧ 0 ≤ b' ∧ 0 ≤ c' ∧ c' < 10 ^ 18 ∧ e' ≤ 6 := by
  by_cases hb0 : b = 0
  · subst hb0
    by_cases he0 : e = 0
    · subst he0
      by_cases hp : p < cs.length
      · have hpi : (p : Int) < (cs.length : Int) := by omega
        have g1 : atI (cs.map D.int) (p : Int) = some (.int cs[p]) := L2.atI_nat (by rw [List.getElem?_map, List.getElem?_eq_getElem hp]; rfl)
        generalize cs[p] = z at g1
        have mm : mulOk 2 z = true := by simp [mulOk]
        by_cases hz : z < 0
        · by_cases hbig : (1000000000000000000 : Int) ≤ 1 - 2 * z
          · refine ⟨p + 1, 1 - 2 * z, c, 0, some (.int (1 - 2 * z), false), ?_, by omega, hc, hc2, by omega⟩
            simp [drawF, mSeq, mIf, mCmp, mIx, mVar, mC, mRet, mRetN, ixG, gIx, mAsg, mBin, mBlt, mCons, mNil, asgK, tgN, mSetI, ixN, mMv, mv, mSkip, mEsc, cool, mAnd, mOr, mNot, mTst, truth, mDrop, mUn, mTup, mLst, tmps, blOf, atI0, atI1, atI2, atI4, hpi, g1, hz, hbig, gMul_int mm, pow18]
          · refine ⟨p + 1, 0, 1 - 2 * z, 6, some (.int (1 - 2 * z), false), ?_, by omega, by omega, by omega, by omega⟩
            simp [drawF, mSeq, mIf, mCmp, mIx, mVar, mC, mRet, mRetN, ixG, gIx, mAsg, mBin, mBlt, mCons, mNil, asgK, tgN, mSetI, ixN, mMv, mv, mSkip, mEsc, cool, mAnd, mOr, mNot, mTst, truth, mDrop, mUn, mTup, mLst, tmps, blOf, atI0, atI1, atI2, atI4, hpi, g1, hz, hbig, gMul_int mm, pow18]
        · by_cases hbig : (1000000000000000000 : Int) ≤ z
          · refine ⟨p + 1, z, c, 0, some (.int z, false), ?_, by omega, hc, hc2, by omega⟩
            simp [drawF, mSeq, mIf, mCmp, mIx, mVar, mC, mRet, mRetN, ixG, gIx, mAsg, mBin, mBlt, mCons, mNil, asgK, tgN, mSetI, ixN, mMv, mv, mSkip, mEsc, cool, mAnd, mOr, mNot, mTst, truth, mDrop, mUn, mTup, mLst, tmps, blOf, atI0, atI1, atI2, atI4, hpi, g1, hz, hbig, gMul_int mm, pow18]
          · refine ⟨p + 1, 0, z, 6, some (.int z, false), ?_, by omega, by omega, by omega, by omega⟩
            simp [drawF, mSeq, mIf, mCmp, mIx, mVar, mC, mRet, mRetN, ixG, gIx, mAsg, mBin, mBlt, mCons, mNil, asgK, tgN, mSetI, ixN, mMv, mv, mSkip, mEsc, cool, mAnd, mOr, mNot, mTst, truth, mDrop, mUn, mTup, mLst, tmps, blOf, atI0, atI1, atI2, atI4, hpi, g1, hz, hbig, gMul_int mm, pow18]
      · refine ⟨p, 0, c, 0, none, ?_, by omega, hc, hc2, by omega⟩
        have hpi : ¬ (p : Int) < (cs.length : Int) := by omega
        simp [drawF, mSeq, mIf, mCmp, mIx, mVar, mC, mRet, mRetN, ixG, gIx, mAsg, mBin, mBlt, mCons, mNil, asgK, tgN, mSetI, ixN, mMv, mv, mSkip, mEsc, cool, mAnd, mOr, mNot, mTst, truth, mDrop, mUn, mTup, mLst, tmps, blOf, atI0, atI1, atI2, atI4, hpi]
    · refine ⟨p, 0, c, e, none, ?_, by omega, hc, hc2, he⟩
      have he1 : ((e : Int) == 0) = false := by rw [beq_eq_false_iff_ne]; omega
      simp [drawF, mSeq, mIf, mCmp, mIx, mVar, mC, mRet, mRetN, ixG, gIx, mAsg, mBin, mBlt, mCons, mNil, asgK, tgN, mSetI, ixN, mMv, mv, mSkip, mEsc, cool, mAnd, mOr, mNot, mTst, truth, mDrop, mUn, mTup, mLst, tmps, blOf, atI0, atI1, atI2, atI4, he1]
  · refine ⟨p, b, c, e, none, ?_, hb, hc, hc2, he⟩
    have hb1 : (b == 0) = false := by rw [beq_eq_false_iff_ne]; exact hb0
    simp [drawF, mSeq, mIf, mCmp, mIx, mVar, mC, mRet, mRetN, ixG, gIx, mAsg, mBin, mBlt, mCons, mNil, asgK, tgN, mSetI, ixN, mMv, mv, mSkip, mEsc, cool, mAnd, mOr, mNot, mTst, truth, mDrop, mUn, mTup, mLst, tmps, blOf, atI0, atI1, atI2, atI4, hb1]
theorem draw_ok {d : D} (F : Feed d) {many : Int} (h1 : many < 2 ^ 29) : ∃ n d', f__law_draw [(d, true), (.int many, false)] = .ok (.int n) false [some (d', true), some (.int many, false)] ∧ Feed d' ∧ 0 ≤ n ∧ (n < many ∨ n = 0) := by
  obtain ⟨cs, p, b, c, e, rfl, hb, hc, hc2, he⟩ := F.ex
  by_cases hm : many < 2
  · refine ⟨0, _, ?_, F, Int.le_refl _, .inr rfl⟩
    simp [f__law_draw, b__law_draw, mkF, mSeq, mIf, mCmp, mIx, mVar, mC, mRet, mRetN, ixG, gIx, mAsg, mBin, mBlt, mCons, mNil, asgK, tgN, mSetI, ixN, mMv, mv, mSkip, mEsc, cool, mAnd, mOr, mNot, mTst, truth, mDrop, mUn, mTup, mLst, tmps, blOf, hm, outsR]
  · obtain ⟨p', b', c', e', r, e1, q1, q2, q3, q4⟩ := drawF_ok (cs := cs) (p := p) (many := (.int many, false)) hb hc hc2 he
    obtain ⟨n, d', ρ, e2, q5, q6, q7⟩ := drawT_ok (cs := cs) (p := p') (r := r) (many := many) (by omega) h1 q1 q2 q3 q4
    refine ⟨n, d', ?_, q5, q6, .inl q7⟩
    unfold f__law_draw mkF
    have e0 : b__law_draw ([(D.lst [.lst (cs.map D.int), .int (p : Nat), .int b, .int c, .int (e : Nat)], true), (.int many, false)].map some ++ List.replicate (5 - [(D.lst [.lst (cs.map D.int), .int (p : Nat), .int b, .int c, .int (e : Nat)], true), (D.int many, false)].length) none) = .ok (.ret (.int n) false) (some (d', true) :: some (.int many, false) :: ρ) := by
      rw [draw_cut]
      refine (seq_nx ?_).trans ((seq_nx e1).trans e2)
      simp [mSeq, mIf, mCmp, mIx, mVar, mC, mRet, mRetN, ixG, gIx, mAsg, mBin, mBlt, mCons, mNil, asgK, tgN, mSetI, ixN, mMv, mv, mSkip, mEsc, cool, mAnd, mOr, mNot, mTst, truth, mDrop, mUn, mTup, mLst, tmps, blOf, hm]
    rw [e0]
    rfl
end Gn

set_option Elab.async false
set_option linter.all false
set_option maxRecDepth 100000
set_option maxHeartbeats 1000000
namespace Gn
open PySem L2 LL
/-! ### alike -/
def Okd : Nat → D → Prop
  | 0, _ => False
  | k + 1, .tup l => l.length < 1000000 ∧ ∀ x ∈ l, Okd k x
  | k + 1, .lst l => l.length < 1000000 ∧ ∀ x ∈ l, Okd k x
  | _ + 1, .non => True
  | _ + 1, .bl _ => True
  | _ + 1, .int _ => True
  | _ + 1, .str _ => True
  | _ + 1, _ => False
@[simp] theorem isi_bl_bl (b : Bool) : gIsi "bool" (.bl b) = some true := by decide +revert
@[simp] theorem isi_bl_int (b : Int) : gIsi "bool" (.int b) = some false := by simp [gIsi, tyOf, isiT]
@[simp] theorem isi_bl_str (b : Str) : gIsi "bool" (.str b) = some false := by simp [gIsi, tyOf, isiT]
@[simp] theorem isi_bl_tup (b : List D) : gIsi "bool" (.tup b) = some false := by simp [gIsi, tyOf, isiT]
@[simp] theorem isi_bl_lst (b : List D) : gIsi "bool" (.lst b) = some false := by simp [gIsi, tyOf, isiT]
@[simp] theorem isi_bl_non : gIsi "bool" .non = some false := by simp [gIsi, tyOf, isiT]
@[simp] theorem isi_int_bl (b : Bool) : gIsi "int" (.bl b) = some true := by simp [gIsi, tyOf, isiT]
@[simp] theorem isi_int_int (b : Int) : gIsi "int" (.int b) = some true := by simp [gIsi, tyOf, isiT]
@[simp] theorem isi_int_str (b : Str) : gIsi "int" (.str b) = some false := by simp [gIsi, tyOf, isiT]
@[simp] theorem isi_int_tup (b : List D) : gIsi "int" (.tup b) = some false := by simp [gIsi, tyOf, isiT]
@[simp] theorem isi_int_lst (b : List D) : gIsi "int" (.lst b) = some false := by simp [gIsi, tyOf, isiT]
@[simp] theorem isi_int_non : gIsi "int" .non = some false := by simp [gIsi, tyOf, isiT]
@[simp] theorem isi_str_str (b : Str) : gIsi "str" (.str b) = some true := by simp [gIsi, tyOf, isiT]
@[simp] theorem isi_str_tup (b : List D) : gIsi "str" (.tup b) = some false := by simp [gIsi, tyOf, isiT]
@[simp] theorem isi_str_lst (b : List D) : gIsi "str" (.lst b) = some false := by simp [gIsi, tyOf, isiT]
@[simp] theorem isi_lst_lst (b : List D) : gIsi "list" (.lst b) = some true := by simp [gIsi, tyOf, isiT]
@[simp] theorem isi_lst_tup (b : List D) : gIsi "list" (.tup b) = some false := by simp [gIsi, tyOf, isiT]
@[simp] theorem isi_tup_tup (b : List D) : gIsi "tuple" (.tup b) = some true := by simp [gIsi, tyOf, isiT]
@[simp] theorem gIs_non (d : D) : gIs d .non = some d.isN := rfl
theorem rng_ok {j : Int} (h : -1000000 ≤ j ∧ j < 1000000) : rngOk 0 j = true := by
  simp only [rngOk, decide_eq_true_eq]
  omega
theorem rng1_ok {j : Int} {f : Bool} {ρ : Rho} (h : rngOk 0 j = true) : (Res.ok [O.tmp (.int j) f] ρ).bind rngK1 = .ok (rngD 0 j, none) ρ := by
  show (if rngOk 0 j = true then Res.ok (rngD 0 j, none) ρ else .stuck) = _
  rw [if_pos h]
def alB (self_ : FM) : ES := (mIf (mNot (mTst (mCall 2 self_ (mCons (mIx (mVar 0) (mVar 2)) (mCons (mIx (mVar 1) (mVar 2)) mNil))))) (mRet (mC (.bl false))) mSkip)
def alF (self_ : FM) : ES := (mFor (mRng1 (mCons (mBlt gLen (mCons (mVar 1) mNil)) mNil)) (tgN 2) (alB self_))
theorem alB_ok {self_ : FM} {A B : D × Bool} {x y : D} {j : Int} (hA : gIx A.1 (.int j) = some x) (hB : gIx B.1 (.int j) = some y) {o} (hs : self_ [(x, false), (y, false)] = .ok (.bl true) false o) :
    alB self_ [some A, some B, some (.int j, false)] = .ok .nx [some A, some B, some (.int j, false)] := by
  obtain ⟨a, fa⟩ := A
  obtain ⟨b, fb⟩ := B
  have hA : gIx a (.int j) = some x := hA
  have hB : gIx b (.int j) = some y := hB
  have e1 : mIx (mVar 0) (mVar 2) [some (a, fa), some (b, fb), some (.int j, false)] = .ok (.tmp x false) [some (a, fa), some (b, fb), some (.int j, false)] := by
    simp [mIx, mBin, mVar, ixG, hA]
  have e2 : mIx (mVar 1) (mVar 2) [some (a, fa), some (b, fb), some (.int j, false)] = .ok (.tmp y false) [some (a, fa), some (b, fb), some (.int j, false)] := by
    simp [mIx, mBin, mVar, ixG, hB]
  have e3 : mCall 2 self_ (mCons (mIx (mVar 0) (mVar 2)) (mCons (mIx (mVar 1) (mVar 2)) mNil)) [some (a, fa), some (b, fb), some (.int j, false)] = .ok (.tmp (.bl true) false) [some (a, fa), some (b, fb), some (.int j, false)] := by
    unfold mCall mCons
    rw [e1]
    simp only [bind_ok]
    rw [e2]
    simp only [bind_ok, mNil, callK, pull, hs, List.length_cons, List.length_nil]
    rw [if_pos trivial]
    match o with
    | [] => rfl
    | [_] => rfl
    | _ :: _ :: _ => rfl
  unfold alB mIf mNot mTst
  rw [e3]
  rfl
theorem al_loop {self_ : FM} {A B : D × Bool} : ∀ (js : List D), (∀ d ∈ js, ∃ (j : Int) (x y : D) (o : Rho), d = .int j ∧ gIx A.1 (.int j) = some x ∧ gIx B.1 (.int j) = some y ∧ self_ [(x, false), (y, false)] = .ok (.bl true) false o) → ∀ r, ∃ r', loopM (tgN 2) (alB self_) js [some A, some B, r] = .ok .nx [some A, some B, r']
  | [], _, r => ⟨r, rfl⟩
  | d :: js, h, r => by
    obtain ⟨j, x, y, o, rfl, h1, h2, h3⟩ := h d List.mem_cons_self
    obtain ⟨r', e3⟩ := al_loop (self_ := self_) (A := A) (B := B) js (fun d hd => h d (List.mem_cons_of_mem _ hd)) (some (.int j, false))
    refine ⟨r', ?_⟩
    unfold loopM
    have e1 : tgN 2 (.int j) false [some A, some B, r] = some [some A, some B, some (.int j, false)] := rfl
    rw [e1]
    simp only
    rw [alB_ok h1 h2 h3]
    exact e3
theorem alF_ok {self_ : FM} {A B : D × Bool} {xs ys : List D} (hA : ∀ j : Nat, gIx A.1 (.int (j : Int)) = xs[j]?) (hB : ∀ j : Nat, gIx B.1 (.int (j : Int)) = ys[j]?) (hl : gLen [B.1] = some (.int (ys.length : Nat), false)) (hn : ys.length < 1000000)
    (hs : ∀ j : Nat, j < ys.length → ∃ x y o, xs[j]? = some x ∧ ys[j]? = some y ∧ self_ [(x, false), (y, false)] = .ok (.bl true) false o) (r : Option (D × Bool)) : ∃ r', alF self_ [some A, some B, r] = .ok .nx [some A, some B, r'] := by
  have hr : rngOk 0 (ys.length : Int) = true := rng_ok (by omega)
  obtain ⟨r', e⟩ := al_loop (self_ := self_) (A := A) (B := B) (rngD 0 (ys.length : Int)) (fun d hd => by
    unfold rngD at hd
    obtain ⟨k, hk, rfl⟩ := List.mem_map.mp hd
    have hk' : k < ys.length := by
      have := List.mem_range.mp hk
      omega
    obtain ⟨x, y, o, h1, h2, h3⟩ := hs k hk'
    refine ⟨(k : Int), x, y, o, by rw [Int.zero_add], ?_, ?_, h3⟩
    · rw [hA, h1]
    · rw [hB, h2]) r
  refine ⟨r', ?_⟩
  unfold alF mFor
  have e0 : mRng1 (mCons (mBlt gLen (mCons (mVar 1) mNil)) mNil) [some A, some B, r] = .ok (rngD 0 (ys.length : Int), none) [some A, some B, r] := by
    have e1 : mBlt gLen (mCons (mVar 1) mNil) [some A, some B, r] = .ok (.tmp (.int (ys.length : Nat)) false) [some A, some B, r] := by
      simp [mCons, mBlt, mVar, mNil, hl]
    have e2 : mCons (mBlt gLen (mCons (mVar 1) mNil)) mNil [some A, some B, r] = .ok [.tmp (.int (ys.length : Nat)) false] [some A, some B, r] := by
      unfold mCons at e1 ⊢
      rw [e1]
      rfl
    unfold mRng1
    rw [e2]
    exact rng1_ok hr
  rw [e0]
  simp only [bind_ok]
  rw [e]
  rfl
theorem alike_cut (self_ : FM) : b__law_alike self_ = (mSeq (mIf (mCmp gIs (mVar 1) (mC .non)) (mRet (mBin (blOf gIs) (mVar 0) (mC .non))) mSkip)
  (mSeq (mIf (mOr (mTst (mIsi "bool" (mVar 1))) (mTst (mIsi "bool" (mVar 0)))) (mRet (mAndV (mIsi "bool" (mVar 1)) (mAndV (mIsi "bool" (mVar 0)) (mBin (blOf gEq) (mVar 0) (mVar 1))))) mSkip)
  (mSeq (mIf (mTst (mIsi "int" (mVar 1))) (mRet (mAndV (mIsi "int" (mVar 0)) (mBin (blOf gEq) (mVar 0) (mVar 1)))) mSkip)
  (mSeq (mIf (mTst (mIsi "str" (mVar 1))) (mRet (mAndV (mIsi "str" (mVar 0)) (mBin (blOf gEq) (mVar 0) (mVar 1)))) mSkip)
  (mSeq (mIf (mTst (mIsi "list" (mVar 1))) (mIf (mNot (mTst (mIsi "list" (mVar 0)))) (mRet (mC (.bl false))) mSkip) (mIf (mNot (mTst (mIsi "tuple" (mVar 0)))) (mRet (mC (.bl false))) mSkip))
  (mSeq (mIf (mCmp gNe (mBlt gLen (mCons (mVar 0) mNil)) (mBlt gLen (mCons (mVar 1) mNil))) (mRet (mC (.bl false))) mSkip)
  (mSeq (alF self_) (mRet (mC (.bl true)))))))))) := rfl
theorem atI_get? {l : List D} (j : Nat) : atI l (j : Int) = l[j]? := by
  cases e : l[j]? with
  | some d => exact L2.atI_nat e
  | none =>
    have hl : l.length ≤ j := List.getElem?_eq_none_iff.mp e
    unfold atI ixN
    rw [if_pos (by omega), if_neg (by omega)]
    rfl
theorem alike_scal (k : Nat) (f g : Bool) (d : D) (h : (∃ b, d = .bl b) ∨ (∃ b, d = .int b) ∨ (∃ b, d = .str b) ∨ d = .non) : f__law_alikeN (k + 1) [(d, f), (d, g)] = .ok (.bl true) false [some (d, f), some (d, g)] := by
  rcases h with ⟨b, rfl⟩ | ⟨b, rfl⟩ | ⟨b, rfl⟩ | rfl <;> simp [f__law_alikeN, b__law_alike, mkF, mSeq, mIf, mCmp, mIx, mVar, mC, mRet, mRetN, ixG, gIx, mAsg, mBin, mBlt, mCons, mNil, asgK, tgN, mSetI, ixN, mMv, mv, mSkip, mEsc, cool, mAnd, mOr, mNot, mTst, truth, mDrop, mUn, mTup, mLst, tmps, blOf, outsR, D.isN, mIsi, mAndV, gEq]
theorem alike_tup (k : Nat) (f g : Bool) (l : List D) (hn : l.length < 1000000) (ih : ∀ x ∈ l, f__law_alikeN k [(x, false), (x, false)] = .ok (.bl true) false [some (x, false), some (x, false)]) : f__law_alikeN (k + 1) [(.tup l, f), (.tup l, g)] = .ok (.bl true) false [some (.tup l, f), some (.tup l, g)] := by
  obtain ⟨r', e⟩ := alF_ok (self_ := f__law_alikeN k) (A := (.tup l, f)) (B := (.tup l, g)) (xs := l) (ys := l) atI_get? atI_get? rfl hn (fun j hj => ⟨_, _, _, List.getElem?_eq_getElem hj, List.getElem?_eq_getElem hj, ih _ (List.getElem_mem hj)⟩) none
  have e0 : b__law_alike (f__law_alikeN k) [some (.tup l, f), some (.tup l, g), none] = .ok (.ret (.bl true) false) [some (.tup l, f), some (.tup l, g), r'] := by
    rw [alike_cut]
    refine (seq_nx (ρ1 := [some (.tup l, f), some (.tup l, g), none]) ?_).trans ?_
    · exact (if_f (ρ1 := [some (.tup l, f), some (.tup l, g), none]) rfl).trans rfl
    refine (seq_nx (ρ1 := [some (.tup l, f), some (.tup l, g), none]) ?_).trans ?_
    · refine (if_f (ρ1 := [some (.tup l, f), some (.tup l, g), none]) ?_).trans rfl
      simp [mOr, mTst, mIsi, mVar, truth]
    refine (seq_nx (ρ1 := [some (.tup l, f), some (.tup l, g), none]) ?_).trans ?_
    · refine (if_f (ρ1 := [some (.tup l, f), some (.tup l, g), none]) ?_).trans rfl
      simp [mTst, mIsi, mVar, truth]
    refine (seq_nx (ρ1 := [some (.tup l, f), some (.tup l, g), none]) ?_).trans ?_
    · refine (if_f (ρ1 := [some (.tup l, f), some (.tup l, g), none]) ?_).trans rfl
      simp [mTst, mIsi, mVar, truth]
    refine (seq_nx (ρ1 := [some (.tup l, f), some (.tup l, g), none]) ?_).trans ?_
    · refine (if_f (ρ1 := [some (.tup l, f), some (.tup l, g), none]) ?_).trans ((if_f (ρ1 := [some (.tup l, f), some (.tup l, g), none]) ?_).trans rfl)
      · simp [mTst, mIsi, mVar, truth]
      · simp [mNot, mTst, mIsi, mVar, truth]
    refine (seq_nx (ρ1 := [some (.tup l, f), some (.tup l, g), none]) ?_).trans ?_
    · refine (if_f (ρ1 := [some (.tup l, f), some (.tup l, g), none]) ?_).trans rfl
      show Res.ok (!((l.length : Int) == (l.length : Int))) [some (.tup l, f), some (.tup l, g), none] = _
      rw [beq_self_eq_true]
      rfl
    exact (seq_nx e).trans rfl
  unfold f__law_alikeN mkF
  show (match b__law_alike (f__law_alikeN k) [some (.tup l, f), some (.tup l, g), none] with
    | .ok .nx ρ => FR.ok .non false (outsR [0, 1] 0 2 ρ)
    | .ok (.ret d f) ρ => .ok d f (outsR [0, 1] 0 2 ρ)
    | .ex x ρ => .ex x (outsR [0, 1] 0 2 ρ)
    | _ => .stuck) = _
  rw [e0]
  rfl
theorem alike_lst (k : Nat) (f g : Bool) (l : List D) (hn : l.length < 1000000) (ih : ∀ x ∈ l, f__law_alikeN k [(x, false), (x, false)] = .ok (.bl true) false [some (x, false), some (x, false)]) : f__law_alikeN (k + 1) [(.lst l, f), (.lst l, g)] = .ok (.bl true) false [some (.lst l, f), some (.lst l, g)] := by
  obtain ⟨r', e⟩ := alF_ok (self_ := f__law_alikeN k) (A := (.lst l, f)) (B := (.lst l, g)) (xs := l) (ys := l) atI_get? atI_get? rfl hn (fun j hj => ⟨_, _, _, List.getElem?_eq_getElem hj, List.getElem?_eq_getElem hj, ih _ (List.getElem_mem hj)⟩) none
  have e0 : b__law_alike (f__law_alikeN k) [some (.lst l, f), some (.lst l, g), none] = .ok (.ret (.bl true) false) [some (.lst l, f), some (.lst l, g), r'] := by
    rw [alike_cut]
    refine (seq_nx (ρ1 := [some (.lst l, f), some (.lst l, g), none]) ?_).trans ?_
    · exact (if_f (ρ1 := [some (.lst l, f), some (.lst l, g), none]) rfl).trans rfl
    refine (seq_nx (ρ1 := [some (.lst l, f), some (.lst l, g), none]) ?_).trans ?_
    · refine (if_f (ρ1 := [some (.lst l, f), some (.lst l, g), none]) ?_).trans rfl
      simp [mOr, mTst, mIsi, mVar, truth]
    refine (seq_nx (ρ1 := [some (.lst l, f), some (.lst l, g), none]) ?_).trans ?_
    · refine (if_f (ρ1 := [some (.lst l, f), some (.lst l, g), none]) ?_).trans rfl
      simp [mTst, mIsi, mVar, truth]
    refine (seq_nx (ρ1 := [some (.lst l, f), some (.lst l, g), none]) ?_).trans ?_
    · refine (if_f (ρ1 := [some (.lst l, f), some (.lst l, g), none]) ?_).trans rfl
      simp [mTst, mIsi, mVar, truth]
    refine (seq_nx (ρ1 := [some (.lst l, f), some (.lst l, g), none]) ?_).trans ?_
    · refine (if_t (ρ1 := [some (.lst l, f), some (.lst l, g), none]) ?_).trans ((if_f (ρ1 := [some (.lst l, f), some (.lst l, g), none]) ?_).trans rfl)
      · simp [mTst, mIsi, mVar, truth]
      · simp [mNot, mTst, mIsi, mVar, truth]
    refine (seq_nx (ρ1 := [some (.lst l, f), some (.lst l, g), none]) ?_).trans ?_
    · refine (if_f (ρ1 := [some (.lst l, f), some (.lst l, g), none]) ?_).trans rfl
      show Res.ok (!((l.length : Int) == (l.length : Int))) [some (.lst l, f), some (.lst l, g), none] = _
      rw [beq_self_eq_true]
      rfl
    exact (seq_nx e).trans rfl
  unfold f__law_alikeN mkF
  show (match b__law_alike (f__law_alikeN k) [some (.lst l, f), some (.lst l, g), none] with
    | .ok .nx ρ => FR.ok .non false (outsR [0, 1] 0 2 ρ)
    | .ok (.ret d f) ρ => .ok d f (outsR [0, 1] 0 2 ρ)
    | .ex x ρ => .ex x (outsR [0, 1] 0 2 ρ)
    | _ => .stuck) = _
  rw [e0]
  rfl
theorem alike_ok (k : Nat) : ∀ (d : D), Okd k d → ∀ f g, f__law_alikeN k [(d, f), (d, g)] = .ok (.bl true) false [some (d, f), some (d, g)] := by
  induction k with
  | zero => exact fun d h => h.elim
  | succ k ih =>
    intro d h f g
    cases d with
    | non => exact alike_scal k f g _ (.inr (.inr (.inr rfl)))
    | bl b => exact alike_scal k f g _ (.inl ⟨b, rfl⟩)
    | int b => exact alike_scal k f g _ (.inr (.inl ⟨b, rfl⟩))
    | str b => exact alike_scal k f g _ (.inr (.inr (.inl ⟨b, rfl⟩)))
    | tup l => exact alike_tup k f g l h.1 fun x hx => ih x (h.2 x hx) false false
    | lst l => exact alike_lst k f g l h.1 fun x hx => ih x (h.2 x hx) false false
    | _ => exact h.elim
end Gn

set_option Elab.async false
set_option linter.all false
set_option maxRecDepth 100000
set_option maxHeartbeats 1000000
namespace LL
open PySem L2
theorem make_run {c : Str} {n : Nat} {mf : FM} {ms : EA} {os : List O} {ρ ρ1 : Rho} {r : Res O} (h1 : ms ρ = .ok os ρ1) (h2 : makeK c n mf os ρ1 = r) : mMake c n mf ms ρ = r := by
  unfold mMake
  rw [h1]
  exact h2
theorem both_run {c : Str} {mf : FM} {ma mb : EE} {ρ ρ1 ρ2 : Rho} {o1 o2 : O} {d1 d2 : D} {r : Res O} (h1 : ma ρ = .ok o1 ρ1) (h2 : mb ρ1 = .ok o2 ρ2) (e1 : look ρ2 o1 = some d1) (e2 : look ρ2 o2 = some d2) (e3 : (isO c d1 && isO c d2) = true) (h : callK 2 mf [o1, o2] ρ2 = r) : mBoth c mf ma mb ρ = r := by
  unfold mBoth
  rw [h1]
  show (mb ρ1).bind _ = r
  rw [h2]
  show opt (look ρ2 o1) _ = r
  rw [e1]
  show opt (look ρ2 o2) _ = r
  rw [e2]
  show (if (isO c d1 && isO c d2) = true then _ else _) = r
  rw [if_pos e3]
  exact h
theorem ne_run {c : Str} {mf : FM} {ma mb : EE} {ρ ρ1 : Rho} {x f : Bool} (h : mBoth c mf ma mb ρ = .ok (.tmp (.bl x) f) ρ1) : mNe c mf ma mb ρ = .ok (.tmp (.bl (!x)) false) ρ1 := by
  unfold mNe
  rw [h]
  rfl
end LL
namespace Gn
open PySem L2 LL
abbrev cert (rows : List D) : D := .obj "Certificate" ["rows"] [.tup rows]
abbrev cert0 : D := .obj "Certificate" [] []
theorem gAddT {a b : List D} (h : a.length + b.length ≤ sizeLine) : gAdd (.tup a) (.tup b) = some (.tup (a ++ b), false) := if_pos h
theorem gAddL {a b : List D} (h : a.length + b.length ≤ sizeLine) : gAdd (.lst a) (.lst b) = some (.lst (a ++ b), true) := if_pos h
theorem init_l (rows : List D) (f : Bool) : f_Certificate___init__ [(cert0, true), (.lst rows, f)] = .ok .non false [some (cert rows, true), some (.lst rows, f)] := rfl
theorem init_t (rows : List D) (f : Bool) : f_Certificate___init__ [(cert0, true), (.tup rows, f)] = .ok .non false [some (cert rows, true), some (.tup rows, f)] := rfl
theorem mk_l (rows : List D) (f : Bool) (ρ : Rho) : makeK "Certificate" 2 f_Certificate___init__ [.tmp (.lst rows) f] ρ = .ok (.tmp (cert rows) false) ρ := rfl
theorem mk_t (rows : List D) (f : Bool) (ρ : Rho) : makeK "Certificate" 2 f_Certificate___init__ [.tmp (.tup rows) f] ρ = .ok (.tmp (cert rows) false) ρ := rfl
theorem given_ok (n : Int) : f_Certificate_given [(.int n, false)] = .ok (cert [.tup [.str "given", .int n]]) false [some (.int n, false)] := rfl
theorem theory_ok (x d : D) : f_Certificate_theory [(x, false), (d, false)] = .ok (cert [.tup [.str "theory", x, d]]) false [some (x, false), some (d, false)] := rfl
theorem last_ok (rows : List D) : f_Certificate_last [(cert rows, false)] = .ok (.int ((rows.length : Int) - 1)) false [some (cert rows, false)] := rfl
theorem len_ok (rows : List D) : f_Certificate___len__ [(cert rows, false)] = .ok (.int (rows.length : Int)) false [some (cert rows, false)] := rfl
theorem sz {n : Nat} (h : n ≤ 4000) : n ≤ sizeLine := Nat.le_trans h (by rw [sizeLine_eq]; decide)
theorem resolve_ok (rows : List D) (a b c : D) (h : rows.length < 1000) : f_Certificate_resolve [(cert rows, false), (a, false), (b, false), (c, false)] = .ok (cert (rows ++ [.tup [.str "resolve", a, b, c]])) false [some (cert rows, false), some (a, false), some (b, false), some (c, false)] :=
  mkF_ret rfl (ret_run (make_run (cons_run (bin_run rfl rfl rfl rfl (gAddT (b := [.tup [.str "resolve", a, b, c]]) (sz (by simp; omega)))) rfl) (mk_t _ _ _))) rfl
/-! ### rows -/
inductive At : D → Prop
  | a1 : At (.tup [.str "", .str "size", .int 1]) | a2 : At (.tup [.str "o", .str "word", .str "w"]) | a3 : At (.tup [.str "t2", .str "below", .str "a", .str "b10"]) | a4 : At (.tup [.str "", .str "size", .int 2])
inductive Rw : D → Prop
  | res (i j : Int) {a : D} (h : At a) : Rw (.tup [.str "resolve", .int i, .int j, a])
  | giv (j : Int) : Rw (.tup [.str "given", .int j])
  | the {a b : D} (h : At a) (h2 : At b) : Rw (.tup [.str "theory", .str "", .tup [.tup [a, .bl false], .tup [b, .bl true]]])
  | theo : Rw (.tup [.str "theory", .str "o", .tup []])
  | giv2 (i j : Int) : Rw (.tup [.str "given", .int i, .int j])
  | res3 (i j : Int) : Rw (.tup [.str "resolve", .int i, .int j])
  | res5 (i j : Int) {a : D} (h : At a) : Rw (.tup [.str "resolve", .int i, .int j, a, a])
  | resT (j : Int) {a : D} (h : At a) : Rw (.tup [.str "resolve", .bl true, .int j, a])
  | resF (i : Int) {a : D} (h : At a) : Rw (.tup [.str "resolve", .int i, .bl false, a])
  | resS (i : Int) {s : Str} {a : D} (hs : PyData.strOk s = true) (h : At a) : Rw (.tup [.str "resolve", .int i, .str s, a])
  | Res (i j : Int) {a : D} (h : At a) : Rw (.tup [.str "Resolve", .int i, .int j, a])
  | str : Rw (.str "resolve") | non : Rw .non | int (i : Int) : Rw (.int i) | emp : Rw (.tup [])
def mv (n : Int) : D → D
  | .tup [.str s, .int i, .int j, a] => if s = "resolve" then .tup [.str s, .int (i + n), .int (j + n), a] else .tup [.str s, .int i, .int j, a]
  | d => d
theorem mv_rw {d : D} (h : Rw d) (n : Int) : Rw (mv n d) := by
  cases h with
  | res i j h => exact .res _ _ h
  | Res i j h => exact .Res _ _ h
  | giv j => exact .giv _
  | the h h2 => exact .the h h2
  | theo => exact .theo
  | giv2 i j => exact .giv2 _ _
  | res3 i j => exact .res3 _ _
  | res5 i j h => exact .res5 _ _ h
  | resT j h => exact .resT _ h
  | resF i h => exact .resF _ h
  | resS i hs h => exact .resS _ hs h
  | str => exact .str
  | non => exact .non
  | int i => exact .int _
  | emp => exact .emp
theorem mv_mv {d : D} (h : Rw d) (n m : Int) : mv m (mv n d) = mv (n + m) d := by
  cases h with
  | res i j h =>
    show D.tup [.str "resolve", .int (i + n + m), .int (j + n + m), _] = .tup [.str "resolve", .int (i + (n + m)), .int (j + (n + m)), _]
    rw [Int.add_assoc, Int.add_assoc]
  | _ => rfl
theorem mv0 {d : D} (h : Rw d) : mv 0 d = d := by
  cases h with
  | res i j h =>
    show D.tup [.str "resolve", .int (i + 0), .int (j + 0), _] = _
    rw [Int.add_zero, Int.add_zero]
  | _ => rfl
theorem movedRow_ok {d : D} (h : Rw d) (n : Int) : f_moved_row [(d, false), (.int n, false)] = .ok (mv n d) false [some (d, false), some (.int n, false)] := by
  cases h <;> rfl
theorem at_lay {a : D} (h : At a) : (toP a).canLay0 = true ∧ (toP a).depth ≤ 2 := by
  cases h <;> exact ⟨by decide +kernel, by decide +kernel⟩
theorem rw_lay {d : D} (h : Rw d) : (toP d).canLay0 = true ∧ (toP d).depth ≤ 8 := by
  have l1 : PyData.strOk "resolve" = true := by decide +kernel
  have l2 : PyData.strOk "given" = true := by decide +kernel
  have l3 : PyData.strOk "theory" = true := by decide +kernel
  have l4 : PyData.strOk "" = true := by decide +kernel
  have l5 : PyData.strOk "o" = true := by decide +kernel
  have l6 : PyData.strOk "Resolve" = true := by decide +kernel
  cases h with
  | res i j h => exact ⟨by simp [toP, toPs, PyData.canLay0, PyData.canLayAll0, l1, (at_lay h).1], by have := (at_lay h).2; simp only [toP, toPs, PyData.depth, PyData.depthAll]; omega⟩
  | resS i hs h => exact ⟨by simp [toP, toPs, PyData.canLay0, PyData.canLayAll0, l1, hs, (at_lay h).1], by have := (at_lay h).2; simp only [toP, toPs, PyData.depth, PyData.depthAll]; omega⟩
  | the h h2 => exact ⟨by simp [toP, toPs, PyData.canLay0, PyData.canLayAll0, l3, l4, (at_lay h).1, (at_lay h2).1], by have := (at_lay h).2; have := (at_lay h2).2; simp only [toP, toPs, PyData.depth, PyData.depthAll]; omega⟩
  | res5 i j h => exact ⟨by simp [toP, toPs, PyData.canLay0, PyData.canLayAll0, l1, (at_lay h).1], by have := (at_lay h).2; simp only [toP, toPs, PyData.depth, PyData.depthAll]; omega⟩
  | resT j h => exact ⟨by simp [toP, toPs, PyData.canLay0, PyData.canLayAll0, l1, (at_lay h).1], by have := (at_lay h).2; simp only [toP, toPs, PyData.depth, PyData.depthAll]; omega⟩
  | resF i h => exact ⟨by simp [toP, toPs, PyData.canLay0, PyData.canLayAll0, l1, (at_lay h).1], by have := (at_lay h).2; simp only [toP, toPs, PyData.depth, PyData.depthAll]; omega⟩
  | Res i j h => exact ⟨by simp [toP, toPs, PyData.canLay0, PyData.canLayAll0, l6, (at_lay h).1], by have := (at_lay h).2; simp only [toP, toPs, PyData.depth, PyData.depthAll]; omega⟩
  | _ => exact ⟨by simp [toP, toPs, PyData.canLay0, PyData.canLayAll0, l1, l2, l3, l5], by simp [toP, toPs, PyData.depth, PyData.depthAll]⟩
/-- rows all of these forms -/
def Rws (l : List D) : Prop := ∀ d ∈ l, Rw d
theorem Rws.append {a b : List D} (h : Rws a) (k : Rws b) : Rws (a ++ b) := fun d hd => (List.mem_append.mp hd).elim (h d) (k d)
theorem Rws.mv {a : List D} (h : Rws a) (n : Int) : Rws (a.map (mv n)) := fun d hd => by
  obtain ⟨x, hx, rfl⟩ := List.mem_map.mp hd
  exact mv_rw (h x hx) n
theorem rws_lay : ∀ {l : List D}, Rws l → PyData.canLayAll0 (toPs l) = true ∧ PyData.depthAll (toPs l) ≤ 8
  | [], _ => ⟨rfl, Nat.zero_le _⟩
  | d :: l, h => by
    obtain ⟨h1, h2⟩ := rw_lay (h d List.mem_cons_self)
    obtain ⟨h3, h4⟩ := rws_lay (l := l) fun x hx => h x (List.mem_cons_of_mem _ hx)
    exact ⟨by simp [toPs, PyData.canLayAll0, h1, h3], by simp only [toPs, PyData.depthAll]; omega⟩
theorem rws_sh {l : List D} (h : Rws l) : sh (.tup l) = true := by
  obtain ⟨h1, h2⟩ := rws_lay h
  unfold sh SeqAt.shaped
  simp only [toP, PyData.canLay0, PyData.depth, h1, Bool.true_and, decide_eq_true_eq]
  omega
theorem eq_t {l : List D} (h : Rws l) : gEq (.tup l) (.tup l) = some true := by
  show (if sh (.tup l) && sh (.tup l) then some (deq (.tup l) (.tup l)) else none) = _
  rw [rws_sh h]
  show some (deq (.tup l) (.tup l)) = _
  unfold deq
  rw [SeqAt.eqv_refl _ (SeqAt.canLay_of_shaped (rws_sh h))]
theorem eqvAll_len : ∀ (l m : List PyData), l.length ≠ m.length → PyData.eqvAll l m = false
  | [], [], h => absurd rfl h
  | [], _ :: _, _ => rfl
  | _ :: _, [], _ => rfl
  | x :: l, y :: m, h => by
    simp only [PyData.eqvAll]
    rw [eqvAll_len l m (by simpa using h), Bool.and_false]
theorem toPs_len : ∀ (l : List D), (toPs l).length = l.length
  | [] => rfl
  | d :: l => by simp [toPs, toPs_len l]
theorem eq_f {l m : List D} (h : Rws l) (k : Rws m) (hl : l.length ≠ m.length) : gEq (.tup l) (.tup m) = some false := by
  show (if sh (.tup l) && sh (.tup m) then some (deq (.tup l) (.tup m)) else none) = _
  rw [rws_sh h, rws_sh k]
  show some (PyData.eqvAll (toPs l) (toPs m)) = _
  rw [eqvAll_len _ _ (by rw [toPs_len, toPs_len]; exact hl)]
theorem at_okd {a : D} (h : At a) : Okd 3 a := by
  cases h <;> simp [Okd]
theorem rw_okd {d : D} (h : Rw d) : Okd 8 d := by
  have up : ∀ {a : D}, At a → ∀ k, Okd (k + 3) a := fun {a} h k => by cases h <;> simp [Okd]
  cases h with
  | res i j h => have := up h 4; simp [Okd, this]
  | resS i hs h => have := up h 4; simp [Okd, this]
  | the h h2 => have := up h 2; have := up h2 2; simp [Okd, *]
  | res5 i j h => have := up h 4; simp [Okd, this]
  | resT i h => have := up h 4; simp [Okd, this]
  | resF i h => have := up h 4; simp [Okd, this]
  | Res i j h => have := up h 4; simp [Okd, this]
  | _ => simp [Okd]
end Gn

set_option Elab.async false
set_option linter.all false
set_option maxRecDepth 100000
set_option maxHeartbeats 1000000
namespace LL
open PySem L2
theorem lc_run {mi : EI} {vs : List Nat} {t : TgM} {tt : ET} {me : EE} {ρ ρ1 ρ2 : Rho} {ds acc : List D} {b : Bk} (h1 : mi ρ = .ok (ds, b) ρ1) (h2 : lcM vs t tt me ds [] (rwipe ρ1 vs) = some (acc, ρ2)) : mLc mi vs t tt me ρ = .ok (.tmp (.lst acc) true) (restore b ρ2) := by
  unfold mLc
  rw [h1]
  show (match lcM vs t tt me ds [] (rwipe ρ1 vs) with | none => Res.stuck | some (acc, ρ2) => Res.ok (O.tmp (.lst acc) true) (restore b ρ2)) = _
  rw [h2]
theorem lcM_map {vs : List Nat} {t : TgM} {tt : ET} {me : EE} {ρ : Rho} (g : D → D) : ∀ (ds acc : List D), acc.length + ds.length ≤ sizeLine → (∀ d ∈ ds, ∃ ρ1 ρ3 fx, t d false ρ = some ρ1 ∧ tt ρ1 = .ok true ρ1 ∧ me ρ1 = .ok (.tmp (g d) fx) ρ3 ∧ rwipe ρ3 vs = ρ) → lcM vs t tt me ds acc ρ = some (acc ++ ds.map g, ρ)
  | [], acc, _, _ => by simp [lcM]
  | d :: ds, acc, hl, h => by
    obtain ⟨ρ1, ρ3, fx, e1, e2, e3, e4⟩ := h d List.mem_cons_self
    have hz : acc.length < sizeLine := by simp at hl; omega
    have e : lcTurn vs t tt me d acc ρ = some (acc ++ [g d], ρ) := by
      unfold lcTurn
      rw [e1]
      show (match tt ρ1 with | .ok false ρ2 => some (acc, rwipe ρ2 vs) | .ok true ρ2 => (match me ρ2 with | .ok (.tmp x _) ρ3 => if acc.length < sizeLine then some (acc ++ [x], rwipe ρ3 vs) else none | _ => none) | _ => none) = _
      rw [e2]
      show (match me ρ1 with | .ok (.tmp x _) ρ3 => if acc.length < sizeLine then some (acc ++ [x], rwipe ρ3 vs) else none | _ => none) = _
      rw [e3]
      show (if acc.length < sizeLine then some (acc ++ [g d], rwipe ρ3 vs) else none) = _
      rw [if_pos hz, e4]
    unfold lcM
    rw [e]
    show lcM vs t tt me ds (acc ++ [g d]) ρ = _
    rw [lcM_map g ds (acc ++ [g d]) (by simp at hl ⊢; omega) fun x hx => h x (List.mem_cons_of_mem _ hx)]
    simp
theorem mutD_run {i : Nat} {gm : List D → List D → Option (D × Bool × List D)} {ms : EA} {ρ ρ1 : Rho} {os : List O} {as ds0 ds : List D} {x : D × Bool × List D} (h0 : ownL ρ i = some ds0) (h1 : ms ρ = .ok os ρ1) (h2 : tmps os = some as) (h3 : ownL ρ1 i = some ds) (h4 : gm ds as = some x) :
    mDrop (mMut i gm ms) ρ = .ok .nx (ρ1.set i (some (.lst x.2.2, true))) := by
  unfold mDrop mMut
  simp only [h0, h1, h2, h3, h4, opt_some, bind_ok]
theorem appD_run {i : Nat} {ms : EA} {ρ ρ1 : Rho} {d : D} {f : Bool} {ds0 ds : List D} (h0 : ownL ρ i = some ds0) (h1 : ms ρ = .ok [.tmp d f] ρ1) (h3 : ownL ρ1 i = some ds) (hz : ds.length < sizeLine) :
    mDrop (mMut i gAppend ms) ρ = .ok .nx (ρ1.set i (some (.lst (ds ++ [d]), true))) :=
  mutD_run (x := (.non, false, ds ++ [d])) h0 h1 rfl h3 (show (if ds.length < sizeLine then some (D.non, false, ds ++ [d]) else none) = _ from if_pos hz)
end LL
namespace Gn
open PySem L2 LL
/-! ### + -/
theorem add_ok {a b : List D} (hb : Rws b) (ha : a.length ≤ 1000) (hb2 : b.length ≤ 1000) : f_Certificate___add__ [(cert a, false), (cert b, false)] = .ok (cert (a ++ b.map (mv a.length))) false [some (cert a, false), some (cert b, false)] := by
  have lc : mLc (mIt [] (mAttr ["Certificate"] "rows" (mVar 1))) [3] (tgN 3) mYes (mCall 2 f_moved_row (mCons (mVar 3) (mCons (mVar 2) mNil))) [some (cert a, false), some (cert b, false), some (.int (a.length : Int), false), none] = .ok (.tmp (.lst (b.map (mv a.length))) true) [some (cert a, false), some (cert b, false), some (.int (a.length : Int), false), none] := by
    refine (lc_run (ds := b) (b := none) (ρ1 := [some (cert a, false), some (cert b, false), some (.int (a.length : Int), false), none]) rfl (lcM_map (mv a.length) b [] (sz (by simp; omega)) fun d hd => ?_)).trans rfl
    exact ⟨[some (cert a, false), some (cert b, false), some (.int (a.length : Int), false), some (d, false)], _, false, rfl, rfl, call_run (os := [.slt 3, .slt 2]) rfl rfl rfl (movedRow_ok (hb d hd) _), rfl⟩
  refine mkF_ret rfl ((seq_nx rfl).trans (ret_run (make_run (cons_run (bin_run (o1 := .tmp (.tup a) false) rfl (blt_run (cons_run lc rfl) rfl rfl) rfl rfl (gAddT (b := b.map (mv a.length)) (sz (by simp; omega)))) rfl) (mk_t _ _ _)))) rfl
/-! ### _law_moved -/
def mvB : ES := (mSeq (mAsg (mAndV (mIsi "tuple" (mVar 3)) (mAndV (mBin (blOf gEq) (mBlt gLen (mCons (mVar 3) mNil)) (mC (.int 4))) (mBin (blOf gEq) (mIx (mVar 3) (mC (.int 0))) (mC (.str "resolve"))))) (tgN 4))
  (mIf (mAnd (mTst (mVar 4)) (mAnd (mTst (mCall 1 f__law_is_whole (mCons (mIx (mVar 3) (mC (.int 1))) mNil))) (mTst (mCall 1 f__law_is_whole (mCons (mIx (mVar 3) (mC (.int 2))) mNil))))) (mDrop (mMut 2 gAppend (mCons (mTup (mCons (mC (.str "resolve")) (mCons (mBin gAdd (mIx (mVar 3) (mC (.int 1))) (mVar 1)) (mCons (mBin gAdd (mIx (mVar 3) (mC (.int 2))) (mVar 1)) (mCons (mIx (mVar 3) (mC (.int 3))) mNil))))) mNil))) (mDrop (mMut 2 gAppend (mCons (mEsc (mVar 3)) mNil)))))
theorem moved_cut : b__law_moved = (mSeq (mAsg (mLst mNil) (tgN 2)) (mSeq (mFor (mIt [0] (mVar 0)) (tgN 3) mvB) (mRet (mMv (mVar 2))))) := rfl
theorem mvB_ok {d : D} (h : Rw d) {n : Int} {r0 x4 : Option (D × Bool)} {acc : List D} (hz : acc.length < sizeLine) : ∃ y, mvB [r0, some (.int n, false), some (.lst acc, true), some (d, false), x4] = .ok .nx [r0, some (.int n, false), some (.lst (acc ++ [mv n d]), true), some (d, false), y] := by
  unfold mvB
  cases h <;> (
    apply Exists.intro
    apply Eq.trans
    · apply seq_nx
      exact rfl
    apply Eq.trans
    · first
      | (apply if_t; exact rfl)
      | (apply if_f; exact rfl)
    apply Eq.trans
    · apply appD_run (ds0 := acc) (ds := acc)
      · exact rfl
      · exact rfl
      · exact rfl
      · exact hz
    exact rfl)
theorem mv_loop {n : Int} {r0 : Option (D × Bool)} : ∀ (rows acc : List D) (x3 x4 : Option (D × Bool)), Rws rows → acc.length + rows.length ≤ sizeLine → ∃ y3 y4, loopM (tgN 3) mvB rows [r0, some (.int n, false), some (.lst acc, true), x3, x4] = .ok .nx [r0, some (.int n, false), some (.lst (acc ++ rows.map (mv n)), true), y3, y4]
  | [], acc, x3, x4, _, _ => ⟨x3, x4, by simp [loopM]⟩
  | d :: rows, acc, x3, x4, h, hz => by
    obtain ⟨y, e1⟩ := mvB_ok (h d List.mem_cons_self) (n := n) (r0 := r0) (x4 := x4) (acc := acc) (by simp at hz; omega)
    obtain ⟨y3, y4, e2⟩ := mv_loop rows (acc ++ [mv n d]) (some (d, false)) y (fun x hx => h x (List.mem_cons_of_mem _ hx)) (by simp at hz ⊢; omega)
    refine ⟨y3, y4, ?_⟩
    unfold loopM
    have et : tgN 3 d false [r0, some (.int n, false), some (.lst acc, true), x3, x4] = some [r0, some (.int n, false), some (.lst acc, true), some (d, false), x4] := rfl
    rw [et]
    simp only
    rw [e1]
    simp only
    rw [e2]
    simp
theorem moved_ok {rows : List D} {n : Int} (h : Rws rows) (hl : rows.length ≤ 1000) : f__law_moved [(.lst rows, false), (.int n, false)] = .ok (.lst (rows.map (mv n))) true [some (.lst rows, false), some (.int n, false)] := by
  obtain ⟨y3, y4, e⟩ := mv_loop (n := n) (r0 := none) rows [] none none h (sz (by simp; omega))
  unfold f__law_moved
  rw [moved_cut]
  refine mkF_ret (ρ0 := [some (.lst rows, false), some (.int n, false), none, none, none]) rfl ((seq_nx (ρ1 := [some (.lst rows, false), some (.int n, false), some (.lst [], true), none, none]) rfl).trans ((seq_nx (ρ1 := [some (.lst rows, false), some (.int n, false), some (.lst (rows.map (mv n)), true), y3, y4]) ?_).trans rfl)) rfl
  have hm : mIt [0] (mVar 0) [some (.lst rows, false), some (.int n, false), some (.lst [], true), none, none] = .ok (rows, some (0, .lst rows, false)) [none, some (.int n, false), some (.lst [], true), none, none] := rfl
  exact (for_run (ρ2 := []) hm e).trans rfl
/-! ### o[i] -/
theorem whole_int (k m : Int) : f_is_whole [(.int k, false), (.int 0, false), (.int m, false)] = .ok (.bl (decide (0 ≤ k) && decide (k ≤ m))) false [some (.int k, false), some (.int 0, false), some (.int m, false)] := by
  by_cases h : 0 ≤ k
  · simp [f_is_whole, b_is_whole, mkF, mSeq, mIf, mCmp, mIx, mVar, mC, mRet, mRetN, ixG, gIx, mAsg, mBin, mBlt, mCons, mNil, asgK, tgN, mSetI, ixN, mMv, mv, mSkip, mEsc, cool, mAnd, mOr, mNot, mTst, truth, mDrop, mUn, mTup, mLst, tmps, blOf, mAndV, mIsi, mNotV, mChn, h, outsR]
  · simp [f_is_whole, b_is_whole, mkF, mSeq, mIf, mCmp, mIx, mVar, mC, mRet, mRetN, ixG, gIx, mAsg, mBin, mBlt, mCons, mNil, asgK, tgN, mSetI, ixN, mMv, mv, mSkip, mEsc, cool, mAnd, mOr, mNot, mTst, truth, mDrop, mUn, mTup, mLst, tmps, blOf, mAndV, mIsi, mNotV, mChn, h, outsR]
def gtM : EE := (mCall 3 f_is_whole (mCons (mVar 1) (mCons (mC (.int 0)) (mCons (mBin gSub (mBlt gLen (mCons (mAttr ["Certificate"] "rows" (mVar 0)) mNil)) (mC (.int 1))) mNil))))
theorem get_cut : b_Certificate___getitem__ = mSeq (mIf (mNot (mTst gtM)) (mRaise "BadRow" ["index"] (mCons (mEsc (mVar 1)) mNil)) mSkip) (mRet (mIx (mAttr ["Certificate"] "rows" (mVar 0)) (mVar 1))) := rfl
theorem get_in {rows : List D} {k : Nat} {x : D} (h : rows[k]? = some x) : f_Certificate___getitem__ [(cert rows, false), (.int k, false)] = .ok x false [some (cert rows, false), some (.int k, false)] := by
  have hl : k < rows.length := (List.getElem?_eq_some_iff.mp h).1
  have e1 : gtM [some (cert rows, false), some (.int k, false)] = .ok (.tmp (.bl true) false) [some (cert rows, false), some (.int k, false)] := by
    show (match f_is_whole [(.int (k : Int), false), (.int 0, false), (.int ((rows.length : Int) - 1), false)] with | .ok d f outs => Res.ok (O.tmp d f) (push [none, none, none] outs [some (cert rows, false), some (.int (k : Int), false)]) | .ex x outs => .ex x (push [none, none, none] outs [some (cert rows, false), some (.int (k : Int), false)]) | .stuck => .stuck) = _
    have : (decide (0 ≤ (k : Int)) && decide ((k : Int) ≤ (rows.length : Int) - 1)) = true := by simp; omega
    rw [whole_int, this]
    rfl
  unfold f_Certificate___getitem__
  rw [get_cut]
  refine mkF_ret (ρ0 := [some (cert rows, false), some (.int k, false)]) (ρ := [some (cert rows, false), some (.int k, false)]) rfl ((seq_nx (ρ1 := [some (cert rows, false), some (.int k, false)]) ((if_f (ρ1 := [some (cert rows, false), some (.int k, false)]) (not_run (k := true) (tst_run e1 rfl rfl))).trans rfl)).trans ?_) rfl
  have ei : atI rows (k : Int) = some x := by
    rw [atI_get?]
    exact h
  simp [mSeq, mIf, mCmp, mIx, mVar, mC, mRet, mRetN, ixG, gIx, mAsg, mBin, mBlt, mCons, mNil, asgK, tgN, mSetI, ixN, mMv, mv, mSkip, mEsc, cool, mAnd, mOr, mNot, mTst, truth, mDrop, mUn, mTup, mLst, tmps, blOf, mAttr, attrG, lookF, ei]
/-- what is no index -/
inductive NoIx (n : Nat) : D → Prop
  | lo : NoIx n (.int (-1)) | hi {k : Int} (h : (n : Int) ≤ k) : NoIx n (.int k) | bl (b : Bool) : NoIx n (.bl b) | non : NoIx n .non | str : NoIx n (.str "0")
theorem get_out {rows : List D} {d : D} (h : NoIx rows.length d) : f_Certificate___getitem__ [(cert rows, false), (d, false)] = .ex ("BadRow", [("index", d)]) [some (cert rows, false), some (d, false)] := by
  have e1 : gtM [some (cert rows, false), some (d, false)] = .ok (.tmp (.bl false) false) [some (cert rows, false), some (d, false)] := by
    cases h with
    | lo =>
      show (match f_is_whole [(.int (-1), false), (.int 0, false), (.int ((rows.length : Int) - 1), false)] with | .ok d f outs => Res.ok (O.tmp d f) (push [none, none, none] outs [some (cert rows, false), some (.int (-1), false)]) | .ex x outs => .ex x (push [none, none, none] outs [some (cert rows, false), some (.int (-1), false)]) | .stuck => .stuck) = _
      rw [whole_int]
      rfl
    | hi h =>
      rename_i k
      show (match f_is_whole [(.int k, false), (.int 0, false), (.int ((rows.length : Int) - 1), false)] with | .ok d f outs => Res.ok (O.tmp d f) (push [none, none, none] outs [some (cert rows, false), some (.int k, false)]) | .ex x outs => .ex x (push [none, none, none] outs [some (cert rows, false), some (.int k, false)]) | .stuck => .stuck) = _
      have : (decide (0 ≤ k) && decide (k ≤ (rows.length : Int) - 1)) = false := by simp; omega
      rw [whole_int, this]
      rfl
    | bl b => rfl
    | non => rfl
    | str => rfl
  unfold f_Certificate___getitem__
  rw [get_cut]
  exact mkF_ex (ρ0 := [some (cert rows, false), some (d, false)]) rfl (seq_ex ((if_t (ρ1 := [some (cert rows, false), some (d, false)]) (not_run (k := false) (tst_run e1 rfl rfl))).trans rfl)) rfl
theorem own2_run {c : Str} {mf : FM} {ma mb : EE} {ρ ρ1 ρ2 : Rho} {o1 o2 : O} {d1 : D} {r : Res O} (h1 : ma ρ = .ok o1 ρ1) (h2 : mb ρ1 = .ok o2 ρ2) (e1 : look ρ2 o1 = some d1) (e3 : isO c d1 = true) (h : callK 2 mf [o1, o2] ρ2 = r) : mOwn2 c mf ma mb ρ = r := by
  unfold mOwn2
  simp only [h1, h2, e1, e3, opt_some, bind_ok, if_true]
  exact h
theorem item_in {rows : List D} {k : Nat} {x : D} (h : rows[k]? = some x) : f__law_item [(cert rows, false), (.int k, false)] = .ok (.lst [x]) true [some (cert rows, false), some (.int k, false)] := by
  have e1 : callK 2 f_Certificate___getitem__ [.slt 0, .slt 1] [some (cert rows, false), some (.int k, false), none] = .ok (.tmp x false) [some (cert rows, false), some (.int k, false), none] := by
    show (match f_Certificate___getitem__ [(cert rows, false), (.int k, false)] with | .ok d f outs => Res.ok (O.tmp d f) (push [none, none] outs _) | .ex x outs => .ex x (push [none, none] outs _) | .stuck => .stuck) = _
    rw [get_in h]
    rfl
  have e2 : (mRet (mLst (mCons (mOwn2 "Certificate" f_Certificate___getitem__ (mVar 0) (mVar 1)) mNil))) [some (cert rows, false), some (.int k, false), none] = .ok (.ret (.lst [x]) true) [some (cert rows, false), some (.int k, false), none] := by
    have e3 : mOwn2 "Certificate" f_Certificate___getitem__ (mVar 0) (mVar 1) [some (cert rows, false), some (.int (k : Int), false), none] = .ok (.tmp x false) [some (cert rows, false), some (.int (k : Int), false), none] := e1
    unfold mRet mLst mCons
    rw [e3]
    rfl
  refine mkF_ret (ρ0 := [some (cert rows, false), some (.int k, false), none]) (ρ := [some (cert rows, false), some (.int k, false), none]) rfl (seq_ret ?_) rfl
  unfold mTryAs
  rw [e2]
theorem item_out {rows : List D} {d : D} (h : NoIx rows.length d) : f__law_item [(cert rows, false), (d, false)] = .ok (.lst [.str "refused", d]) true [some (cert rows, false), some (d, false)] := by
  have e1 : callK 2 f_Certificate___getitem__ [.slt 0, .slt 1] [some (cert rows, false), some (d, false), none] = .ex ("BadRow", [("index", d)]) [some (cert rows, false), some (d, false), none] := by
    show (match f_Certificate___getitem__ [(cert rows, false), (d, false)] with | .ok d f outs => Res.ok (O.tmp d f) (push [none, none] outs _) | .ex x outs => .ex x (push [none, none] outs _) | .stuck => .stuck) = _
    rw [get_out h]
    rfl
  have e2 : (mRet (mLst (mCons (mOwn2 "Certificate" f_Certificate___getitem__ (mVar 0) (mVar 1)) mNil))) [some (cert rows, false), some (d, false), none] = .ex ("BadRow", [("index", d)]) [some (cert rows, false), some (d, false), none] := by
    have e3 : mOwn2 "Certificate" f_Certificate___getitem__ (mVar 0) (mVar 1) [some (cert rows, false), some (d, false), none] = .ex ("BadRow", [("index", d)]) [some (cert rows, false), some (d, false), none] := e1
    unfold mRet mLst mCons
    rw [e3]
    rfl
  refine mkF_ret (ρ0 := [some (cert rows, false), some (d, false), none]) (ρ := [some (cert rows, false), some (d, false), none]) rfl (seq_ret ?_) rfl
  unfold mTryAs
  rw [e2]
  rfl
end Gn

set_option Elab.async false
set_option linter.all false
set_option maxRecDepth 100000
set_option maxHeartbeats 1000000
namespace LL
open PySem L2
theorem nn_run {A B : EE} {a : ES} {ρ : Rho} {fa fb : Bool} (hA : A ρ = .ok (.tmp (.bl true) fa) ρ) (hB : B ρ = .ok (.tmp (.bl true) fb) ρ) : mIf (mOr (mNot (mTst A)) (mNot (mTst B))) a mSkip ρ = .ok .nx ρ := by
  simp [mIf, mOr, mNot, mTst, hA, hB, truth, mSkip]
theorem cn_run {A L1 L2 : EE} {a : ES} {ρ : Rho} {f1 f2 fb : Bool} {n : Int} (h1 : L1 ρ = .ok (.tmp (.int n) f1) ρ) (h2 : L2 ρ = .ok (.tmp (.int n) f2) ρ) (hA : A ρ = .ok (.tmp (.bl true) fb) ρ) : mIf (mOr (mCmp gNe L1 L2) (mNot (mTst A))) a mSkip ρ = .ok .nx ρ := by
  have e : mCmp gNe L1 L2 ρ = .ok false ρ := cmp_run h1 h2 rfl rfl (by simp)
  simp [mIf, mOr, mNot, mTst, e, hA, truth, mSkip]
theorem nt_run {A B : EE} {a : ES} {ρ : Rho} {fa fb : Bool} (hA : A ρ = .ok (.tmp (.bl true) fa) ρ) (hB : B ρ = .ok (.tmp (.bl false) fb) ρ) : mIf (mOr (mNot (mTst A)) (mTst B)) a mSkip ρ = .ok .nx ρ := by
  simp [mIf, mOr, mNot, mTst, hA, hB, truth, mSkip]
theorem n1_run {A : EE} {a : ES} {ρ : Rho} {fa : Bool} (hA : A ρ = .ok (.tmp (.bl true) fa) ρ) : mIf (mNot (mTst A)) a mSkip ρ = .ok .nx ρ := by
  simp [mIf, mNot, mTst, hA, truth, mSkip]
theorem loop_all {i : Nat} {body : ES} {base : Option (D × Bool) → Rho} (ht : ∀ d r, tgN i d false (base r) = some (base (some (d, false)))) : ∀ (ds : List D) (r : Option (D × Bool)), (∀ d ∈ ds, body (base (some (d, false))) = .ok .nx (base (some (d, false)))) → ∃ r', loopM (tgN i) body ds (base r) = .ok .nx (base r')
  | [], r, _ => ⟨r, rfl⟩
  | d :: ds, r, h => by
    obtain ⟨r', e⟩ := loop_all ht ds (some (d, false)) fun x hx => h x (List.mem_cons_of_mem _ hx)
    refine ⟨r', ?_⟩
    unfold loopM
    rw [ht]
    simp only
    rw [h d List.mem_cons_self]
    exact e
end LL
namespace Gn
open PySem L2 LL
theorem okd_up : ∀ (k : Nat) (d : D), Okd k d → Okd (k + 1) d
  | 0, d, h => h.elim
  | k + 1, d, h => by
    cases d with
    | tup l => exact ⟨h.1, fun x hx => okd_up k x (h.2 x hx)⟩
    | lst l => exact ⟨h.1, fun x hx => okd_up k x (h.2 x hx)⟩
    | _ => exact h
theorem okd_le {k m : Nat} {d : D} (h : Okd k d) : k ≤ m → Okd m d := fun hl => by
  induction hl with
  | refl => exact h
  | step _ ih => exact okd_up _ _ ih
theorem okT {rows : List D} (h : Rws rows) (hl : rows.length < 5000) : Okd 70 (.tup rows) := ⟨by omega, fun x hx => okd_le (rw_okd (h x hx)) (by decide)⟩
theorem okL {rows : List D} (h : Rws rows) (hl : rows.length < 5000) : Okd 70 (.lst rows) := ⟨by omega, fun x hx => okd_le (rw_okd (h x hx)) (by decide)⟩
theorem al_tt {x : D} (h : Okd 70 x) {ρ : Rho} {f g : Bool} : callK 2 f__law_alike [.tmp x f, .tmp x g] ρ = .ok (.tmp (.bl true) false) ρ := by
  show (match f__law_alikeN 70 [(x, f), (x, g)] with | .ok d f outs => Res.ok (O.tmp d f) (push [none, none] outs ρ) | .ex x outs => .ex x (push [none, none] outs ρ) | .stuck => .stuck) = _
  rw [alike_ok 70 x h]
  rfl
section
variable {rows : List D} {f : Bool}
abbrev RI (rows : List D) (f : Bool) (r : Option (D × Bool)) : Rho := [some (cert rows, false), some (.lst rows, f), r]
theorem is1 (h : Rws rows) (hl : rows.length < 5000) : mCall 2 f__law_alike (mCons (mAttr ["Certificate"] "rows" (mVar 0)) (mCons (mBlt gTuple (mCons (mVar 1) mNil)) mNil)) (RI rows f none) = .ok (.tmp (.bl true) false) (RI rows f none) := al_tt (x := .tup rows) (okT h hl)
theorem is2 : mCall 2 f__law_alike (mCons (mPrp "Certificate" f_Certificate_last (mVar 0)) (mCons (mBin gSub (mBlt gLen (mCons (mVar 1) mNil)) (mC (.int 1))) mNil)) (RI rows f none) = .ok (.tmp (.bl true) false) (RI rows f none) := al_tt (x := .int ((rows.length : Int) - 1)) trivial
theorem is3 (h : Rws rows) (hl : rows.length < 5000) : mCall 2 f__law_alike (mCons (mLstO "Certificate" "rows" (mVar 0)) (mCons (mVar 1) mNil)) (RI rows f none) = .ok (.tmp (.bl true) false) (RI rows f none) := by
  cases f with
  | false =>
    show (match f__law_alikeN 70 [(.lst rows, true), (.lst rows, false)] with | .ok d f outs => Res.ok (O.tmp d f) (push [none, none] outs (RI rows false none)) | .ex x outs => .ex x (push [none, none] outs (RI rows false none)) | .stuck => .stuck) = _
    rw [alike_ok 70 _ (okL h hl)]
    rfl
  | true =>
    show (match f__law_alikeN 70 [(.lst rows, true), (.lst rows, true)] with | .ok d f outs => Res.ok (O.tmp d f) (push [none, some 1] outs [some (cert rows, false), none, none]) | .ex x outs => .ex x (push [none, some 1] outs [some (cert rows, false), none, none]) | .stuck => .stuck) = _
    rw [alike_ok 70 _ (okL h hl)]
    rfl
theorem eqC {a b : List D} {k : Bool} (h : gEq (.tup a) (.tup b) = some k) : f_Certificate___eq__ [(cert a, false), (cert b, false)] = .ok (.bl k) false [some (cert a, false), some (cert b, false)] := by
  have e : mBin (blOf gEq) (mAttr ["Certificate"] "rows" (mVar 0)) (mAttr ["Certificate"] "rows" (mVar 1)) [some (cert a, false), some (cert b, false)] = .ok (.tmp (.bl k) false) [some (cert a, false), some (cert b, false)] := by
    show opt (blOf gEq (.tup a) (.tup b)) _ = _
    unfold blOf
    rw [h]
    rfl
  refine mkF_ret (ρ0 := [some (cert a, false), some (cert b, false)]) (ρ := [some (cert a, false), some (cert b, false)]) rfl ((seq_nx (ρ1 := [some (cert a, false), some (cert b, false)]) rfl).trans (ret_run e)) rfl
theorem isNe (h : Rws rows) : mNe "Certificate" f_Certificate___eq__ (mVar 0) (mMake "Certificate" 2 f_Certificate___init__ (mCons (mBlt gTuple (mCons (mVar 1) mNil)) mNil)) (RI rows f none) = .ok (.tmp (.bl false) false) (RI rows f none) := by
  have e : mBoth "Certificate" f_Certificate___eq__ (mVar 0) (mMake "Certificate" 2 f_Certificate___init__ (mCons (mBlt gTuple (mCons (mVar 1) mNil)) mNil)) (RI rows f none) = .ok (.tmp (.bl true) false) (RI rows f none) := by
    show (match f_Certificate___eq__ [(cert rows, false), (cert rows, false)] with | .ok d f' outs => Res.ok (O.tmp d f') (push [none, none] outs (RI rows f none)) | .ex x outs => .ex x (push [none, none] outs (RI rows f none)) | .stuck => .stuck) = _
    rw [eqC (eq_t h)]
    rfl
  exact ne_run e
theorem isItem {rows : List D} {f : Bool} {d y : D} (hd : f__law_item [(cert rows, false), (d, false)] = .ok y true [some (cert rows, false), some (d, false)]) (hy : Okd 70 y) {B : EE} (hB : B (RI rows f (some (d, false))) = .ok (.tmp y true) (RI rows f (some (d, false)))) :
    mCall 2 f__law_alike (mCons (mCall 2 f__law_item (mCons (mVar 0) (mCons (mVar 2) mNil))) (mCons B mNil)) (RI rows f (some (d, false))) = .ok (.tmp (.bl true) false) (RI rows f (some (d, false))) := by
  have e1 : mCall 2 f__law_item (mCons (mVar 0) (mCons (mVar 2) mNil)) (RI rows f (some (d, false))) = .ok (.tmp y true) (RI rows f (some (d, false))) := by
    show (match f__law_item [(cert rows, false), (d, false)] with | .ok d' f' outs => Res.ok (O.tmp d' f') (push [none, none] outs (RI rows f (some (d, false)))) | .ex x outs => .ex x (push [none, none] outs (RI rows f (some (d, false)))) | .stuck => .stuck) = _
    rw [hd]
    rfl
  have e2 : mCons (mCall 2 f__law_item (mCons (mVar 0) (mCons (mVar 2) mNil))) (mCons B mNil) (RI rows f (some (d, false))) = .ok [.tmp y true, .tmp y true] (RI rows f (some (d, false))) := cons_run e1 (cons_run hB rfl)
  show ((mCons (mCall 2 f__law_item (mCons (mVar 0) (mCons (mVar 2) mNil))) (mCons B mNil)) (RI rows f (some (d, false)))).bind _ = _
  rw [e2]
  exact al_tt hy
def isB1 : ES := (mIf (mNot (mTst (mCall 2 f__law_alike (mCons (mCall 2 f__law_item (mCons (mVar 0) (mCons (mVar 2) mNil))) (mCons (mLst (mCons (mIx (mVar 1) (mVar 2)) mNil)) mNil))))) (mRet (mC (.bl false))) mSkip)
def isB2 : ES := (mIf (mNot (mTst (mCall 2 f__law_alike (mCons (mCall 2 f__law_item (mCons (mVar 0) (mCons (mVar 2) mNil))) (mCons (mLst (mCons (mC (.str "refused")) (mCons (mEsc (mVar 2)) mNil))) mNil))))) (mRet (mC (.bl false))) mSkip)
theorem isB1_ok (h : Rws rows) {k : Nat} (hk : k < rows.length) : isB1 (RI rows f (some (.int k, false))) = .ok .nx (RI rows f (some (.int k, false))) := by
  have hx : rows[k]? = some rows[k] := List.getElem?_eq_getElem hk
  have hm : rows[k] ∈ rows := List.getElem_mem hk
  have ok : Okd 70 (.lst [rows[k]]) := by
    refine ⟨by show 1 < 1000000; omega, fun x hx => ?_⟩
    have e : x = rows[k] := List.mem_singleton.mp hx
    subst e
    exact okd_le (rw_okd (h _ hm)) (by decide)
  refine n1_run (isItem (item_in hx) ok ?_)
  · have e : mIx (mVar 1) (mVar 2) (RI rows f (some (.int (k : Int), false))) = .ok (.tmp rows[k] false) (RI rows f (some (.int (k : Int), false))) := by
      have ei : atI rows (k : Int) = some rows[k] := by rw [atI_get?]; exact hx
      simp [mIx, mBin, mVar, ixG, gIx, ei]
    have e' : mCons (mIx (mVar 1) (mVar 2)) mNil (RI rows f (some (.int (k : Int), false))) = .ok [.tmp rows[k] false] (RI rows f (some (.int (k : Int), false))) := cons_run e rfl
    unfold mLst
    rw [e']
    rfl
theorem isB2_ok {d : D} (h : NoIx rows.length d) : isB2 (RI rows f (some (d, false))) = .ok .nx (RI rows f (some (d, false))) := by
  have ok : Okd 70 (.lst [.str "refused", d]) := by
    refine ⟨by show 2 < 1000000; omega, fun x hx => ?_⟩
    rcases List.mem_cons.mp hx with rfl | hx
    · trivial
    · rcases List.mem_cons.mp hx with rfl | hx
      · cases h <;> trivial
      · cases hx
  have hB : mLst (mCons (mC (.str "refused")) (mCons (mEsc (mVar 2)) mNil)) (RI rows f (some (d, false))) = .ok (.tmp (.lst [.str "refused", d]) true) (RI rows f (some (d, false))) := rfl
  exact n1_run (isItem (item_out h) ok hB)
end
end Gn

set_option Elab.async false
set_option linter.all false
set_option maxRecDepth 100000
set_option maxHeartbeats 1000000
namespace Gn
open PySem L2 LL
section
variable {rows : List D} {f : Bool}
def isS1 : ES := (mIf (mOr (mNot (mTst (mIsC "Certificate" (mVar 0)))) (mNot (mTst (mCall 2 f__law_alike (mCons (mAttr ["Certificate"] "rows" (mVar 0)) (mCons (mBlt gTuple (mCons (mVar 1) mNil)) mNil)))))) (mRet (mC (.bl false))) mSkip)
def isS2 : ES := (mIf (mOr (mCmp gNe (mLenO "Certificate" f_Certificate___len__ (mVar 0)) (mBlt gLen (mCons (mVar 1) mNil))) (mNot (mTst (mCall 2 f__law_alike (mCons (mPrp "Certificate" f_Certificate_last (mVar 0)) (mCons (mBin gSub (mBlt gLen (mCons (mVar 1) mNil)) (mC (.int 1))) mNil)))))) (mRet (mC (.bl false))) mSkip)
def isS3 : ES := (mIf (mOr (mNot (mTst (mCall 2 f__law_alike (mCons (mLstO "Certificate" "rows" (mVar 0)) (mCons (mVar 1) mNil))))) (mTst (mNe "Certificate" f_Certificate___eq__ (mVar 0) (mMake "Certificate" 2 f_Certificate___init__ (mCons (mBlt gTuple (mCons (mVar 1) mNil)) mNil))))) (mRet (mC (.bl false))) mSkip)
def isI4 : EI := (mRng1 (mCons (mBlt gLen (mCons (mVar 1) mNil)) mNil))
def isI5 : EI := (mIt [] (mLst (mCons (mUn gNeg (mC (.int 1))) (mCons (mBlt gLen (mCons (mVar 1) mNil)) (mCons (mBin gAdd (mBlt gLen (mCons (mVar 1) mNil)) (mC (.int 7))) (mCons (mC (.bl true)) (mCons (mC (.bl false)) (mCons (mC .non) (mCons (mC (.str "0")) mNil)))))))))
def isE6 : EE := (mNe "Certificate" f_Certificate___eq__ (mVar 0) (mMake "Certificate" 2 f_Certificate___init__ (mCons (mBin gAdd (mVar 1) (mLst (mCons (mTup (mCons (mC (.str "given")) (mCons (mC (.int 1)) mNil))) mNil))) mNil)))
theorem is_cut : b__law_is = mSeq isS1 (mSeq isS2 (mSeq isS3 (mSeq (mFor isI4 (tgN 2) isB1) (mSeq (mFor isI5 (tgN 2) isB2) (mRet isE6))))) := rfl
theorem is_L1 (hl : rows.length < 3000) : mLenO "Certificate" f_Certificate___len__ (mVar 0) (RI rows f none) = .ok (.tmp (.int (rows.length : Nat)) false) (RI rows f none) := by
  have e : mOwn1 "Certificate" f_Certificate___len__ (mVar 0) (RI rows f none) = .ok (.tmp (.int (rows.length : Nat)) false) (RI rows f none) := rfl
  exact lenO_go e (by omega)
theorem is_ok (h : Rws rows) (hl : rows.length < 3000) : f__law_is [(cert rows, false), (.lst rows, f)] = .ok (.bl true) false [some (cert rows, false), some (.lst rows, f)] := by
  have L1 := is_L1 (rows := rows) (f := f) hl
  obtain ⟨r1, e4⟩ := loop_all (i := 2) (body := isB1) (base := RI rows f) (fun d r => rfl) (rngD 0 (rows.length : Int)) none fun d hd => by
    unfold rngD at hd
    obtain ⟨k, hk, rfl⟩ := List.mem_map.mp hd
    have hk' : k < rows.length := by
      have := List.mem_range.mp hk
      omega
    rw [Int.zero_add]
    exact isB1_ok h hk'
  obtain ⟨r2, e5⟩ := loop_all (i := 2) (body := isB2) (base := RI rows f) (fun d r => rfl) [.int (-1), .int (rows.length : Int), .int ((rows.length : Int) + 7), .bl true, .bl false, .non, .str "0"] r1 fun d hd => by
    refine isB2_ok ?_
    simp only [List.mem_cons, List.not_mem_nil, or_false] at hd
    rcases hd with rfl | rfl | rfl | rfl | rfl | rfl | rfl
    · exact .lo
    · exact .hi (Int.le_refl _)
    · exact .hi (by omega)
    · exact .bl _
    · exact .bl _
    · exact .non
    · exact .str
  have e6 : isE6 (RI rows f r2) = .ok (.tmp (.bl true) false) (RI rows f r2) := by
    have ea : mBin gAdd (mVar 1) (mLst (mCons (mTup (mCons (mC (.str "given")) (mCons (mC (.int 1)) mNil))) mNil)) (RI rows f r2) = .ok (.tmp (.lst (rows ++ [.tup [.str "given", .int 1]])) true) (RI rows f r2) := by
      show opt (gAdd (.lst rows) (.lst [.tup [.str "given", .int 1]])) _ = _
      rw [gAddL (sz (by simp; omega))]
      rfl
    have em : mMake "Certificate" 2 f_Certificate___init__ (mCons (mBin gAdd (mVar 1) (mLst (mCons (mTup (mCons (mC (.str "given")) (mCons (mC (.int 1)) mNil))) mNil))) mNil) (RI rows f r2) = .ok (.tmp (cert (rows ++ [.tup [.str "given", .int 1]])) false) (RI rows f r2) := make_run (cons_run ea rfl) (mk_l _ _ _)
    have hr : Rws (rows ++ [.tup [.str "given", .int 1]]) := h.append fun d hd => by
      have e : d = .tup [.str "given", .int 1] := by simpa using hd
      rw [e]
      exact .giv 1
    unfold isE6
    refine ne_run (x := false) (f := false) (both_run (c := "Certificate") (ma := mVar 0) (mf := f_Certificate___eq__) (o1 := .slt 0) (d1 := cert rows) rfl em rfl rfl rfl ?_)
    show (match f_Certificate___eq__ [(cert rows, false), (cert (rows ++ [.tup [.str "given", .int 1]]), false)] with | .ok d f' outs => Res.ok (O.tmp d f') (push [none, none] outs (RI rows f r2)) | .ex x outs => .ex x (push [none, none] outs (RI rows f r2)) | .stuck => .stuck) = Res.ok (O.tmp (.bl false) false) (RI rows f r2)
    rw [eqC (eq_f h hr (by simp))]
    rfl
  have hr : rngOk 0 (rows.length : Int) = true := rng_ok (by omega)
  have m4 : isI4 (RI rows f none) = .ok (rngD 0 (rows.length : Int), none) (RI rows f none) := by
    have e2 : mCons (mBlt gLen (mCons (mVar 1) mNil)) mNil (RI rows f none) = .ok [.tmp (.int (rows.length : Int)) false] (RI rows f none) := rfl
    unfold isI4 mRng1
    rw [e2]
    exact rng1_ok hr
  have m5 : isI5 (RI rows f r1) = .ok ([.int (-1), .int (rows.length : Int), .int ((rows.length : Int) + 7), .bl true, .bl false, .non, .str "0"], none) (RI rows f r1) := rfl
  have s1 : isS1 (RI rows f none) = .ok .nx (RI rows f none) := by
    have hA : mIsC "Certificate" (mVar 0) (RI rows f none) = .ok (.tmp (.bl true) false) (RI rows f none) := rfl
    exact nn_run hA (is1 h (by omega))
  have s2 : isS2 (RI rows f none) = .ok .nx (RI rows f none) := by
    have h2 : mBlt gLen (mCons (mVar 1) mNil) (RI rows f none) = .ok (.tmp (.int (rows.length : Int)) false) (RI rows f none) := rfl
    exact cn_run L1 h2 is2
  have s3 : isS3 (RI rows f none) = .ok .nx (RI rows f none) := nt_run (is3 h (by omega)) (isNe h)
  have s4 : mFor isI4 (tgN 2) isB1 (RI rows f none) = .ok .nx (RI rows f r1) := (for_run (ρ2 := []) m4 e4).trans rfl
  have s5 : mFor isI5 (tgN 2) isB2 (RI rows f r1) = .ok .nx (RI rows f r2) := (for_run (ρ2 := []) m5 e5).trans rfl
  have s6 : mRet isE6 (RI rows f r2) = .ok (.ret (.bl true) false) (RI rows f r2) := ret_run e6
  have all : b__law_is (RI rows f none) = .ok (.ret (.bl true) false) (RI rows f r2) := by
    rw [is_cut, seq_nx s1, seq_nx s2, seq_nx s3, seq_nx s4, seq_nx s5, s6]
  unfold f__law_is
  exact mkF_ret (ρ0 := RI rows f none) (ρ := RI rows f r2) rfl all rfl
end
end Gn

set_option Elab.async false
set_option linter.all false
set_option maxRecDepth 100000
set_option maxHeartbeats 1000000
namespace Gn
open PySem L2 LL
theorem pick3 {a b c : D} {n : Int} (h0 : 0 ≤ n) (h1 : n < 3 ∨ n = 0) : ∃ x, gIx (.lst [a, b, c]) (.int n) = some x ∧ (x = a ∨ x = b ∨ x = c) := by
  have : n = 0 ∨ n = 1 ∨ n = 2 := by omega
  rcases this with rfl | rfl | rfl
  · exact ⟨a, rfl, .inl rfl⟩
  · exact ⟨b, rfl, .inr (.inl rfl)⟩
  · exact ⟨c, rfl, .inr (.inr rfl)⟩
theorem pickI {a b c n : Int} (h0 : 0 ≤ n) (h1 : n < 3 ∨ n = 0) : ∃ x, gIx (.lst [.int a, .int b, .int c]) (.int n) = some (.int x) ∧ (x = a ∨ x = b ∨ x = c) := by
  have : n = 0 ∨ n = 1 ∨ n = 2 := by omega
  rcases this with rfl | rfl | rfl
  · exact ⟨a, rfl, .inl rfl⟩
  · exact ⟨b, rfl, .inr (.inl rfl)⟩
  · exact ⟨c, rfl, .inr (.inr rfl)⟩
theorem value_ok {d : D} (F : Feed d) : ∃ r d', f__law_value [(d, true)] = .ok r false [some (d', true)] ∧ Feed d' ∧ Rw r := by
  have mu : ∀ {d : D}, Feed d → d.mu = true := fun {d} F => by obtain ⟨cs, p, b, c, e, rfl, _⟩ := F.ex; rfl
  obtain ⟨n1, d1, e1, F1, a1, b1⟩ := draw_ok F (many := 3) (by decide)
  obtain ⟨n2, d2, e2, F2, a2, b2⟩ := draw_ok F1 (many := 9) (by decide)
  obtain ⟨n3, d3, e3, F3, a3, b3⟩ := draw_ok F2 (many := 3) (by decide)
  obtain ⟨n4, d4, e4, F4, a4, b4⟩ := draw_ok F3 (many := 9) (by decide)
  obtain ⟨n5, d5, e5, F5, a5, b5⟩ := draw_ok F4 (many := 2) (by decide)
  obtain ⟨n6, d6, e6, F6, a6, b6⟩ := draw_ok F5 (many := 14) (by decide)
  obtain ⟨at1, g1, h1⟩ := pick3 (a := .tup [.str "", .str "size", .int 1]) (b := .tup [.str "o", .str "word", .str "w"]) (c := .tup [.str "t2", .str "below", .str "a", .str "b10"]) a1 b1
  obtain ⟨k1, g2, h2⟩ := pickI (a := 1) (b := 1) (c := 1000001) a3 b3
  have g3 : gMul (.int (n2 - 2)) (.int k1) = some (.int ((n2 - 2) * k1), false) := gMul_int (by simp only [mulOk, decide_eq_true_eq]; omega)
  have hat : At at1 := by
    rcases h1 with rfl | rfl | rfl
    · exact .a1
    · exact .a2
    · exact .a3
  have m0 := mu F
  have m1 := mu F1
  have m2 := mu F2
  have m3 := mu F3
  have m4 := mu F4
  have m5 := mu F5
  have key : ∃ r d' ρ', b__law_value [some (d, true), none, none, none, none] = .ok (.ret r false) (some (d', true) :: ρ') ∧ Feed d' ∧ Rw r := by
    unfold b__law_value
    by_cases z : n5 = 0
    · subst z
      apply Exists.intro
      apply Exists.intro
      apply Exists.intro
      refine And.intro ?_ ⟨F5, ?_⟩
      · (repeat (first | with_reducible apply seq_gen | with_reducible apply if_go | with_reducible apply asg_run | with_reducible apply ret_run | with_reducible apply drop_go | with_reducible apply cons_run | with_reducible apply bin_go | with_reducible apply ix_go | with_reducible apply blt_go | with_reducible apply cmp_run | with_reducible apply tst_run | with_reducible apply not_run | with_reducible apply and_go | with_reducible apply or_go | with_reducible apply esc_go | with_reducible apply mv_go | with_reducible apply call_go | with_reducible apply make_go | with_reducible apply tup_go | with_reducible apply lst_go | with_reducible apply un_go | with_reducible apply ifE_go | with_reducible apply andV_go | with_reducible apply orV_go | with_reducible apply notV_go | with_reducible apply isi_go | with_reducible apply chnT_go | with_reducible apply chn_same | with_reducible apply own1_go | with_reducible apply own2_go | with_reducible apply both_go | with_reducible apply ne_go | with_reducible apply lenO_go | with_reducible apply inO_go | with_reducible apply prp_go | with_reducible apply attr_go | with_reducible apply isC_go | with_reducible apply lstO_go | with_reducible apply meth_go | with_reducible apply callK_go | with_reducible apply mut_go | with_reducible apply setI_go | with_reducible apply aug_go | with_reducible apply for_go | with_reducible apply it_go | with_reducible apply rng1_go | with_reducible apply rng2_go | with_reducible apply lc_go | with_reducible apply sl_go | with_reducible apply p_go | ((with_reducible apply eqH); with_reducible assumption) | exact Ran.mk (by with_reducible assumption) | with_reducible apply yes_go | with_reducible apply addL_go | with_reducible apply addT_go | with_reducible apply str_go | with_reducible apply mul_go | with_reducible apply mod_go | with_reducible apply then_nx | with_reducible apply then_ret | with_reducible apply then_bk | with_reducible apply then_ct | with_reducible apply then_ex | with_reducible apply skip_go | with_reducible apply retN_go | with_reducible apply raise_go | with_reducible apply look_s | with_reducible apply looks_n | with_reducible apply looks_c | with_reducible apply tmps_n | with_reducible apply tmps_c | with_reducible apply cool_t | with_reducible apply cool_s | with_reducible apply mv_t | with_reducible apply mv_s | with_reducible apply pull_n | with_reducible apply pull_t | with_reducible apply tgN_go | with_reducible apply tgT_go | with_reducible apply tgC_go | with_reducible apply tgNil_go | with_reducible apply it_t | with_reducible apply it_s | with_reducible apply bl_go | with_reducible apply append_go | with_reducible apply loop_nil | ((with_reducible apply pull_f); exact rfl; exact rfl) | ((with_reducible apply pull_o); exact rfl; (first | with_reducible assumption | exact rfl); dsimp only [List.set_cons_succ, List.set_cons_zero]) | ((with_reducible apply cond_gt); exact rfl) | ((with_reducible apply cond_gf); exact rfl) | (focus ((with_reducible apply sz_le); first | decide | (simp; done) | omega | (simp; omega))) | (focus ((with_reducible apply sz_lt); first | decide | (simp; done) | omega | (simp; omega))) | dsimp only [List.set_cons_succ, List.set_cons_zero, push, restore, rwipe, List.cons_append, List.nil_append] | exact rfl | omega | (focus (with_reducible apply nin_go; decide))))
      · exact .res _ _ hat
    · have z : n5 = 1 := by omega
      subst z
      have hs : PyData.strOk (Str.ofString (toString (n4 - 2))) = true := by
        have : n4 - 2 = -2 ∨ n4 - 2 = -1 ∨ n4 - 2 = 0 ∨ n4 - 2 = 1 ∨ n4 - 2 = 2 ∨ n4 - 2 = 3 ∨ n4 - 2 = 4 ∨ n4 - 2 = 5 ∨ n4 - 2 = 6 := by omega
        rcases this with e | e | e | e | e | e | e | e | e <;> rw [e] <;> decide +kernel
      obtain ⟨x, g6, hx⟩ := pickL (l := [.tup [.str "given", .int (1 + (n4 - 2))], .tup [.str "theory", .str "", .tup [.tup [at1, .bl false], .tup [at1, .bl true]]], .tup [.str "theory", .str "o", .tup []],
            .tup [.str "given", .int ((n2 - 2) * k1), .int (n4 - 2)], .tup [.str "resolve", .int ((n2 - 2) * k1), .int (n4 - 2)], .tup [.str "resolve", .int ((n2 - 2) * k1), .int (n4 - 2), at1, at1], .tup [.str "resolve", .bl true, .int (n4 - 2), at1], .tup [.str "resolve", .int ((n2 - 2) * k1), .bl false, at1],
            .tup [.str "resolve", .int ((n2 - 2) * k1), .str (Str.ofString (toString (n4 - 2))), at1], .tup [.str "Resolve", .int ((n2 - 2) * k1), .int (n4 - 2), at1], .str "resolve", .non, .int ((n2 - 2) * k1), .tup []]) a6 (by simp; omega)
      apply Exists.intro
      apply Exists.intro
      apply Exists.intro
      refine And.intro ?_ ⟨F6, ?_⟩
      · (repeat (first | with_reducible apply seq_gen | with_reducible apply if_go | with_reducible apply asg_run | with_reducible apply ret_run | with_reducible apply drop_go | with_reducible apply cons_run | with_reducible apply bin_go | with_reducible apply ix_go | with_reducible apply blt_go | with_reducible apply cmp_run | with_reducible apply tst_run | with_reducible apply not_run | with_reducible apply and_go | with_reducible apply or_go | with_reducible apply esc_go | with_reducible apply mv_go | with_reducible apply call_go | with_reducible apply make_go | with_reducible apply tup_go | with_reducible apply lst_go | with_reducible apply un_go | with_reducible apply ifE_go | with_reducible apply andV_go | with_reducible apply orV_go | with_reducible apply notV_go | with_reducible apply isi_go | with_reducible apply chnT_go | with_reducible apply chn_same | with_reducible apply own1_go | with_reducible apply own2_go | with_reducible apply both_go | with_reducible apply ne_go | with_reducible apply lenO_go | with_reducible apply inO_go | with_reducible apply prp_go | with_reducible apply attr_go | with_reducible apply isC_go | with_reducible apply lstO_go | with_reducible apply meth_go | with_reducible apply callK_go | with_reducible apply mut_go | with_reducible apply setI_go | with_reducible apply aug_go | with_reducible apply for_go | with_reducible apply it_go | with_reducible apply rng1_go | with_reducible apply rng2_go | with_reducible apply lc_go | with_reducible apply sl_go | with_reducible apply p_go | ((with_reducible apply eqH); with_reducible assumption) | exact Ran.mk (by with_reducible assumption) | with_reducible apply yes_go | with_reducible apply addL_go | with_reducible apply addT_go | with_reducible apply str_go | with_reducible apply mul_go | with_reducible apply mod_go | with_reducible apply then_nx | with_reducible apply then_ret | with_reducible apply then_bk | with_reducible apply then_ct | with_reducible apply then_ex | with_reducible apply skip_go | with_reducible apply retN_go | with_reducible apply raise_go | with_reducible apply look_s | with_reducible apply looks_n | with_reducible apply looks_c | with_reducible apply tmps_n | with_reducible apply tmps_c | with_reducible apply cool_t | with_reducible apply cool_s | with_reducible apply mv_t | with_reducible apply mv_s | with_reducible apply pull_n | with_reducible apply pull_t | with_reducible apply tgN_go | with_reducible apply tgT_go | with_reducible apply tgC_go | with_reducible apply tgNil_go | with_reducible apply it_t | with_reducible apply it_s | with_reducible apply bl_go | with_reducible apply append_go | with_reducible apply loop_nil | ((with_reducible apply pull_f); exact rfl; exact rfl) | ((with_reducible apply pull_o); exact rfl; (first | with_reducible assumption | exact rfl); dsimp only [List.set_cons_succ, List.set_cons_zero]) | ((with_reducible apply cond_gt); exact rfl) | ((with_reducible apply cond_gf); exact rfl) | (focus ((with_reducible apply sz_le); first | decide | (simp; done) | omega | (simp; omega))) | (focus ((with_reducible apply sz_lt); first | decide | (simp; done) | omega | (simp; omega))) | dsimp only [List.set_cons_succ, List.set_cons_zero, push, restore, rwipe, List.cons_append, List.nil_append] | exact rfl | omega | (focus (with_reducible apply nin_go; decide))))
        · exact ⟨e6⟩
        (repeat (first | with_reducible apply seq_gen | with_reducible apply if_go | with_reducible apply asg_run | with_reducible apply ret_run | with_reducible apply drop_go | with_reducible apply cons_run | with_reducible apply bin_go | with_reducible apply ix_go | with_reducible apply blt_go | with_reducible apply cmp_run | with_reducible apply tst_run | with_reducible apply not_run | with_reducible apply and_go | with_reducible apply or_go | with_reducible apply esc_go | with_reducible apply mv_go | with_reducible apply call_go | with_reducible apply make_go | with_reducible apply tup_go | with_reducible apply lst_go | with_reducible apply un_go | with_reducible apply ifE_go | with_reducible apply andV_go | with_reducible apply orV_go | with_reducible apply notV_go | with_reducible apply isi_go | with_reducible apply chnT_go | with_reducible apply chn_same | with_reducible apply own1_go | with_reducible apply own2_go | with_reducible apply both_go | with_reducible apply ne_go | with_reducible apply lenO_go | with_reducible apply inO_go | with_reducible apply prp_go | with_reducible apply attr_go | with_reducible apply isC_go | with_reducible apply lstO_go | with_reducible apply meth_go | with_reducible apply callK_go | with_reducible apply mut_go | with_reducible apply setI_go | with_reducible apply aug_go | with_reducible apply for_go | with_reducible apply it_go | with_reducible apply rng1_go | with_reducible apply rng2_go | with_reducible apply lc_go | with_reducible apply sl_go | with_reducible apply p_go | ((with_reducible apply eqH); with_reducible assumption) | exact Ran.mk (by with_reducible assumption) | with_reducible apply yes_go | with_reducible apply addL_go | with_reducible apply addT_go | with_reducible apply str_go | with_reducible apply mul_go | with_reducible apply mod_go | with_reducible apply then_nx | with_reducible apply then_ret | with_reducible apply then_bk | with_reducible apply then_ct | with_reducible apply then_ex | with_reducible apply skip_go | with_reducible apply retN_go | with_reducible apply raise_go | with_reducible apply look_s | with_reducible apply looks_n | with_reducible apply looks_c | with_reducible apply tmps_n | with_reducible apply tmps_c | with_reducible apply cool_t | with_reducible apply cool_s | with_reducible apply mv_t | with_reducible apply mv_s | with_reducible apply pull_n | with_reducible apply pull_t | with_reducible apply tgN_go | with_reducible apply tgT_go | with_reducible apply tgC_go | with_reducible apply tgNil_go | with_reducible apply it_t | with_reducible apply it_s | with_reducible apply bl_go | with_reducible apply append_go | with_reducible apply loop_nil | ((with_reducible apply pull_f); exact rfl; exact rfl) | ((with_reducible apply pull_o); exact rfl; (first | with_reducible assumption | exact rfl); dsimp only [List.set_cons_succ, List.set_cons_zero]) | ((with_reducible apply cond_gt); exact rfl) | ((with_reducible apply cond_gf); exact rfl) | (focus ((with_reducible apply sz_le); first | decide | (simp; done) | omega | (simp; omega))) | (focus ((with_reducible apply sz_lt); first | decide | (simp; done) | omega | (simp; omega))) | dsimp only [List.set_cons_succ, List.set_cons_zero, push, restore, rwipe, List.cons_append, List.nil_append] | exact rfl | omega | (focus (with_reducible apply nin_go; decide))))
      · simp only [List.mem_cons, List.not_mem_nil, or_false] at hx
        rcases hx with rfl | rfl | rfl | rfl | rfl | rfl | rfl | rfl | rfl | rfl | rfl | rfl | rfl | rfl
        · exact .giv _
        · exact .the hat hat
        · exact .theo
        · exact .giv2 _ _
        · exact .res3 _ _
        · exact .res5 _ _ hat
        · exact .resT _ hat
        · exact .resF _ hat
        · exact .resS _ hs hat
        · exact .Res _ _ hat
        · exact .str
        · exact .non
        · exact .int _
        · exact .emp
  obtain ⟨r, d', ρ', e, Fd, hr⟩ := key
  exact ⟨r, d', mkF_ret (ρ0 := [some (d, true), none, none, none, none]) rfl e rfl, Fd, hr⟩
end Gn

set_option Elab.async false
set_option linter.all false
set_option maxRecDepth 100000
set_option maxHeartbeats 1000000
namespace Gn
open PySem L2 LL
theorem feed_mu {d : D} (F : Feed d) : d.mu = true := by obtain ⟨cs, p, b, c, e, rfl, _⟩ := F.ex; rfl
abbrev L16 (s : D × Bool) (d : D) (r13 r15 : Option (D × Bool)) : Rho := [some s, some (d, true), none, none, none, none, none, none, none, none, none, none, none, r13, none, r15]
theorem inner_ok {s : D × Bool} {d : D} {r13 : Option (D × Bool)} (F : Feed d) : ∃ xs d', mLc (mRng1 (mCons (mCall 2 f__law_draw (mCons (mVar 1) (mCons (mC (.int 6)) mNil))) mNil)) [15] (tgN 15) mYes (mCall 1 f__law_value (mCons (mVar 1) mNil)) (L16 s d r13 none) = .ok (.tmp (.lst xs) true) (L16 s d' r13 none) ∧ Feed d' ∧ Rws xs ∧ xs.length ≤ 5 := by
  obtain ⟨n1, d1, e1, F1, a1, b1⟩ := draw_ok F (many := 6) (by decide)
  have m0 := feed_mu F
  obtain ⟨xs, ρ', h1, ⟨d2, F2, rfl⟩, h3, h4⟩ := lcM_inv (vs := [15]) (t := tgN 15) (tt := mYes) (me := mCall 1 f__law_value (mCons (mVar 1) mNil)) (fun ρ => ∃ d, Feed d ∧ ρ = L16 s d r13 none) Rw (rngD 0 n1) [] (L16 s d1 r13 none) ⟨d1, F1, rfl⟩ (sz_le (by simp [rngD]; omega)) fun x hx ρ hp => by
    obtain ⟨d, F, rfl⟩ := hp
    obtain ⟨r, d', e, F', hr⟩ := value_ok F
    have m := feed_mu F
    refine ⟨_, _, L16 s d' r13 (some (x, false)), r, false, rfl, rfl, ?_, ⟨d', F', rfl⟩, hr⟩
    (repeat (first | with_reducible apply seq_gen | with_reducible apply if_go | with_reducible apply asg_run | with_reducible apply ret_run | with_reducible apply drop_go | with_reducible apply cons_run | with_reducible apply bin_go | with_reducible apply ix_go | with_reducible apply blt_go | with_reducible apply cmp_run | with_reducible apply tst_run | with_reducible apply not_run | with_reducible apply and_go | with_reducible apply or_go | with_reducible apply esc_go | with_reducible apply mv_go | with_reducible apply call_go | with_reducible apply make_go | with_reducible apply tup_go | with_reducible apply lst_go | with_reducible apply un_go | with_reducible apply ifE_go | with_reducible apply andV_go | with_reducible apply orV_go | with_reducible apply notV_go | with_reducible apply isi_go | with_reducible apply chnT_go | with_reducible apply chn_same | with_reducible apply own1_go | with_reducible apply own2_go | with_reducible apply both_go | with_reducible apply ne_go | with_reducible apply lenO_go | with_reducible apply inO_go | with_reducible apply prp_go | with_reducible apply attr_go | with_reducible apply isC_go | with_reducible apply lstO_go | with_reducible apply meth_go | with_reducible apply callK_go | with_reducible apply mut_go | with_reducible apply setI_go | with_reducible apply aug_go | with_reducible apply for_go | with_reducible apply it_go | with_reducible apply rng1_go | with_reducible apply rng2_go | with_reducible apply lc_go | with_reducible apply sl_go | with_reducible apply p_go | ((with_reducible apply eqH); with_reducible assumption) | exact Ran.mk (by with_reducible assumption) | with_reducible apply yes_go | with_reducible apply addL_go | with_reducible apply addT_go | with_reducible apply str_go | with_reducible apply mul_go | with_reducible apply mod_go | with_reducible apply then_nx | with_reducible apply then_ret | with_reducible apply then_bk | with_reducible apply then_ct | with_reducible apply then_ex | with_reducible apply skip_go | with_reducible apply retN_go | with_reducible apply raise_go | with_reducible apply look_s | with_reducible apply looks_n | with_reducible apply looks_c | with_reducible apply tmps_n | with_reducible apply tmps_c | with_reducible apply cool_t | with_reducible apply cool_s | with_reducible apply mv_t | with_reducible apply mv_s | with_reducible apply pull_n | with_reducible apply pull_t | with_reducible apply tgN_go | with_reducible apply tgT_go | with_reducible apply tgC_go | with_reducible apply tgNil_go | with_reducible apply it_t | with_reducible apply it_s | with_reducible apply bl_go | with_reducible apply append_go | with_reducible apply loop_nil | ((with_reducible apply pull_f); exact rfl; exact rfl) | ((with_reducible apply pull_o); exact rfl; (first | with_reducible assumption | exact rfl); dsimp only [List.set_cons_succ, List.set_cons_zero]) | ((with_reducible apply cond_gt); exact rfl) | ((with_reducible apply cond_gf); exact rfl) | (focus ((with_reducible apply sz_le); first | decide | (simp; done) | omega | (simp; omega))) | (focus ((with_reducible apply sz_lt); first | decide | (simp; done) | omega | (simp; omega))) | dsimp only [List.set_cons_succ, List.set_cons_zero, push, restore, rwipe, List.cons_append, List.nil_append] | exact rfl | omega | (focus (with_reducible apply nin_go; decide))))
  rw [List.nil_append] at h1
  refine ⟨xs, d2, ?_, F2, h4, ?_⟩
  · (repeat (first | with_reducible apply seq_gen | with_reducible apply if_go | with_reducible apply asg_run | with_reducible apply ret_run | with_reducible apply drop_go | with_reducible apply cons_run | with_reducible apply bin_go | with_reducible apply ix_go | with_reducible apply blt_go | with_reducible apply cmp_run | with_reducible apply tst_run | with_reducible apply not_run | with_reducible apply and_go | with_reducible apply or_go | with_reducible apply esc_go | with_reducible apply mv_go | with_reducible apply call_go | with_reducible apply make_go | with_reducible apply tup_go | with_reducible apply lst_go | with_reducible apply un_go | with_reducible apply ifE_go | with_reducible apply andV_go | with_reducible apply orV_go | with_reducible apply notV_go | with_reducible apply isi_go | with_reducible apply chnT_go | with_reducible apply chn_same | with_reducible apply own1_go | with_reducible apply own2_go | with_reducible apply both_go | with_reducible apply ne_go | with_reducible apply lenO_go | with_reducible apply inO_go | with_reducible apply prp_go | with_reducible apply attr_go | with_reducible apply isC_go | with_reducible apply lstO_go | with_reducible apply meth_go | with_reducible apply callK_go | with_reducible apply mut_go | with_reducible apply setI_go | with_reducible apply aug_go | with_reducible apply for_go | with_reducible apply it_go | with_reducible apply rng1_go | with_reducible apply rng2_go | with_reducible apply lc_go | with_reducible apply sl_go | with_reducible apply p_go | ((with_reducible apply eqH); with_reducible assumption) | exact Ran.mk (by with_reducible assumption) | with_reducible apply yes_go | with_reducible apply addL_go | with_reducible apply addT_go | with_reducible apply str_go | with_reducible apply mul_go | with_reducible apply mod_go | with_reducible apply then_nx | with_reducible apply then_ret | with_reducible apply then_bk | with_reducible apply then_ct | with_reducible apply then_ex | with_reducible apply skip_go | with_reducible apply retN_go | with_reducible apply raise_go | with_reducible apply look_s | with_reducible apply looks_n | with_reducible apply looks_c | with_reducible apply tmps_n | with_reducible apply tmps_c | with_reducible apply cool_t | with_reducible apply cool_s | with_reducible apply mv_t | with_reducible apply mv_s | with_reducible apply pull_n | with_reducible apply pull_t | with_reducible apply tgN_go | with_reducible apply tgT_go | with_reducible apply tgC_go | with_reducible apply tgNil_go | with_reducible apply it_t | with_reducible apply it_s | with_reducible apply bl_go | with_reducible apply append_go | with_reducible apply loop_nil | ((with_reducible apply pull_f); exact rfl; exact rfl) | ((with_reducible apply pull_o); exact rfl; (first | with_reducible assumption | exact rfl); dsimp only [List.set_cons_succ, List.set_cons_zero]) | ((with_reducible apply cond_gt); exact rfl) | ((with_reducible apply cond_gf); exact rfl) | (focus ((with_reducible apply sz_le); first | decide | (simp; done) | omega | (simp; omega))) | (focus ((with_reducible apply sz_lt); first | decide | (simp; done) | omega | (simp; omega))) | dsimp only [List.set_cons_succ, List.set_cons_zero, push, restore, rwipe, List.cons_append, List.nil_append] | exact rfl | omega | (focus (with_reducible apply nin_go; decide))))
  · rw [h3]
    simp [rngD]
    omega
theorem rows_ok {s : D × Bool} {d : D} (F : Feed d) : ∃ r0 r1 r2 d', mLc (mRng1 (mCons (mC (.int 3)) mNil)) [13] (tgN 13) mYes (mLc (mRng1 (mCons (mCall 2 f__law_draw (mCons (mVar 1) (mCons (mC (.int 6)) mNil))) mNil)) [15] (tgN 15) mYes (mCall 1 f__law_value (mCons (mVar 1) mNil))) (L16 s d none none) = .ok (.tmp (.lst [.lst r0, .lst r1, .lst r2]) true) (L16 s d' none none) ∧ Feed d' ∧ (Rws r0 ∧ r0.length ≤ 5) ∧ (Rws r1 ∧ r1.length ≤ 5) ∧ (Rws r2 ∧ r2.length ≤ 5) := by
  obtain ⟨r0, d1, e1, F1, h1⟩ := inner_ok (s := s) (r13 := some (.int 0, false)) F
  obtain ⟨r1, d2, e2, F2, h2⟩ := inner_ok (s := s) (r13 := some (.int 1, false)) F1
  obtain ⟨r2, d3, e3, F3, h3⟩ := inner_ok (s := s) (r13 := some (.int 2, false)) F2
  refine ⟨r0, r1, r2, d3, ?_, F3, h1, h2, h3⟩
  have er : mRng1 (mCons (mC (.int 3)) mNil) (L16 s d none none) = .ok (rngD 0 3, none) (L16 s d none none) := by
    (repeat (first | with_reducible apply seq_gen | with_reducible apply if_go | with_reducible apply asg_run | with_reducible apply ret_run | with_reducible apply drop_go | with_reducible apply cons_run | with_reducible apply bin_go | with_reducible apply ix_go | with_reducible apply blt_go | with_reducible apply cmp_run | with_reducible apply tst_run | with_reducible apply not_run | with_reducible apply and_go | with_reducible apply or_go | with_reducible apply esc_go | with_reducible apply mv_go | with_reducible apply call_go | with_reducible apply make_go | with_reducible apply tup_go | with_reducible apply lst_go | with_reducible apply un_go | with_reducible apply ifE_go | with_reducible apply andV_go | with_reducible apply orV_go | with_reducible apply notV_go | with_reducible apply isi_go | with_reducible apply chnT_go | with_reducible apply chn_same | with_reducible apply own1_go | with_reducible apply own2_go | with_reducible apply both_go | with_reducible apply ne_go | with_reducible apply lenO_go | with_reducible apply inO_go | with_reducible apply prp_go | with_reducible apply attr_go | with_reducible apply isC_go | with_reducible apply lstO_go | with_reducible apply meth_go | with_reducible apply callK_go | with_reducible apply mut_go | with_reducible apply setI_go | with_reducible apply aug_go | with_reducible apply for_go | with_reducible apply it_go | with_reducible apply rng1_go | with_reducible apply rng2_go | with_reducible apply lc_go | with_reducible apply sl_go | with_reducible apply p_go | ((with_reducible apply eqH); with_reducible assumption) | exact Ran.mk (by with_reducible assumption) | with_reducible apply yes_go | with_reducible apply addL_go | with_reducible apply addT_go | with_reducible apply str_go | with_reducible apply mul_go | with_reducible apply mod_go | with_reducible apply then_nx | with_reducible apply then_ret | with_reducible apply then_bk | with_reducible apply then_ct | with_reducible apply then_ex | with_reducible apply skip_go | with_reducible apply retN_go | with_reducible apply raise_go | with_reducible apply look_s | with_reducible apply looks_n | with_reducible apply looks_c | with_reducible apply tmps_n | with_reducible apply tmps_c | with_reducible apply cool_t | with_reducible apply cool_s | with_reducible apply mv_t | with_reducible apply mv_s | with_reducible apply pull_n | with_reducible apply pull_t | with_reducible apply tgN_go | with_reducible apply tgT_go | with_reducible apply tgC_go | with_reducible apply tgNil_go | with_reducible apply it_t | with_reducible apply it_s | with_reducible apply bl_go | with_reducible apply append_go | with_reducible apply loop_nil | ((with_reducible apply pull_f); exact rfl; exact rfl) | ((with_reducible apply pull_o); exact rfl; (first | with_reducible assumption | exact rfl); dsimp only [List.set_cons_succ, List.set_cons_zero]) | ((with_reducible apply cond_gt); exact rfl) | ((with_reducible apply cond_gf); exact rfl) | (focus ((with_reducible apply sz_le); first | decide | (simp; done) | omega | (simp; omega))) | (focus ((with_reducible apply sz_lt); first | decide | (simp; done) | omega | (simp; omega))) | dsimp only [List.set_cons_succ, List.set_cons_zero, push, restore, rwipe, List.cons_append, List.nil_append] | exact rfl | omega | (focus (with_reducible apply nin_go; decide))))
  refine lc_go (b := none) er ?_ rfl
  show lcM [13] _ _ _ [.int 0, .int 1, .int 2] [] (L16 s d none none) = some ([.lst r0, .lst r1, .lst r2], L16 s d3 none none)
  exact lcM_cons rfl rfl e1 (sz_lt (by decide)) rfl (lcM_cons rfl rfl e2 (sz_lt (by simp)) rfl (lcM_cons rfl rfl e3 (sz_lt (by simp)) rfl rfl))
end Gn

set_option Elab.async false
set_option linter.all false
set_option maxRecDepth 100000
set_option maxHeartbeats 1000000
namespace Gn
open PySem L2 LL
def lawH0 : Rho → Option (Rho × List D) := (hLc 3 (mLcO (mIt [2] (mVar 2)) [14] (tgN 14) (mBlt gList (mCons (mVar 14) mNil))))
def lawH1 : HM := (hSq (hMk "Certificate" f_Certificate___init__ 4 0)
  (hSq (hPl (mAsg (mMake "Certificate" 2 f_Certificate___init__ (mCons (mBlt gTuple (mCons (mIx (mVar 2) (mC (.int 1))) mNil)) mNil)) (tgN 5)))
  (hSq (hMk "Certificate" f_Certificate___init__ 6 2)
  (hSq (hAp 0 (mTup (mCons (mC (.str "given")) (mCons (mC (.int 7)) mNil))))
  (hAp 2 (mC .non))))))
abbrev RL (s : D × Bool) (d : D) (r0 r1 r2 : List D) (x3 x4 x5 x6 : Option (D × Bool)) : Rho := [some s, some (d, true), some (.lst [.lst r0, .lst r1, .lst r2], true), x3, x4, x5, x6, none, none, none, none, none, none, none, none, none]
theorem h0_ok {s : D × Bool} {d : D} {r0 r1 r2 : List D} : lawH0 (RL s d r0 r1 r2 none none none none) = some (RL s d r0 r1 r2 none none none none, [.lst r0, .lst r1, .lst r2]) := by
  have e : lcOM [14] (tgN 14) (mBlt gList (mCons (mVar 14) mNil)) [.lst r0, .lst r1, .lst r2] [] [some s, some (d, true), none, none, none, none, none, none, none, none, none, none, none, none, none, none] = some ([.lst r0, .lst r1, .lst r2], [some s, some (d, true), none, none, none, none, none, none, none, none, none, none, none, none, none, none]) := by
    have z : ∀ n, n < 3 → n < sizeLine := fun n h => sz_lt (by omega)
    have t1 : ∀ (r acc : List D), acc.length < 3 → lcOTurn [14] (tgN 14) (mBlt gList (mCons (mVar 14) mNil)) (.lst r) acc [some s, some (d, true), none, none, none, none, none, none, none, none, none, none, none, none, none, none] = some (acc ++ [.lst r], [some s, some (d, true), none, none, none, none, none, none, none, none, none, none, none, none, none, none]) := fun r acc h => by
      show (if acc.length < sizeLine then _ else _) = _
      rw [if_pos (z _ h)]
      rfl
    unfold lcOM
    rw [t1 r0 [] (by simp)]
    simp only
    unfold lcOM
    rw [t1 r1 _ (by simp)]
    simp only
    unfold lcOM
    rw [t1 r2 _ (by simp)]
    rfl
  show (match (match lcOM [14] (tgN 14) (mBlt gList (mCons (mVar 14) mNil)) [.lst r0, .lst r1, .lst r2] [] [some s, some (d, true), none, none, none, none, none, none, none, none, none, none, none, none, none, none] with | none => none | some (acc, ρ2) => some (restore (some (2, .lst [.lst r0, .lst r1, .lst r2], true)) ρ2, acc)) with | some r => some (r.1.set 3 none, r.2) | none => none) = _
  rw [e]
  rfl
theorem h1_ok {s : D × Bool} {d : D} {r0 r1 r2 : List D} (h0 : r0.length ≤ 5) (h2 : r2.length ≤ 5) : lawH1 (RL s d r0 r1 r2 none none none none) [.lst r0, .lst r1, .lst r2] = some (RL s d r0 r1 r2 none (some (cert r0, false)) (some (cert r1, false)) (some (cert r2, false)), [.lst (r0 ++ [.tup [.str "given", .int 7]]), .lst r1, .lst (r2 ++ [.non])]) := by
  have a1 : hMk "Certificate" f_Certificate___init__ 4 0 (RL s d r0 r1 r2 none none none none) [.lst r0, .lst r1, .lst r2] = some (RL s d r0 r1 r2 none (some (cert r0, false)) none none, [.lst r0, .lst r1, .lst r2]) := rfl
  have a2 : (mAsg (mMake "Certificate" 2 f_Certificate___init__ (mCons (mBlt gTuple (mCons (mIx (mVar 2) (mC (.int 1))) mNil)) mNil)) (tgN 5)) (RL s d r0 r1 r2 none (some (cert r0, false)) none none) = .ok .nx (RL s d r0 r1 r2 none (some (cert r0, false)) (some (cert r1, false)) none) := rfl
  have a3 : hMk "Certificate" f_Certificate___init__ 6 2 (RL s d r0 r1 r2 none (some (cert r0, false)) (some (cert r1, false)) none) [.lst r0, .lst r1, .lst r2] = some (RL s d r0 r1 r2 none (some (cert r0, false)) (some (cert r1, false)) (some (cert r2, false)), [.lst r0, .lst r1, .lst r2]) := rfl
  have a4 : hAp 0 (mTup (mCons (mC (.str "given")) (mCons (mC (.int 7)) mNil))) (RL s d r0 r1 r2 none (some (cert r0, false)) (some (cert r1, false)) (some (cert r2, false))) [.lst r0, .lst r1, .lst r2] = some (RL s d r0 r1 r2 none (some (cert r0, false)) (some (cert r1, false)) (some (cert r2, false)), [.lst (r0 ++ [.tup [.str "given", .int 7]]), .lst r1, .lst r2]) := by
    have e : mTup (mCons (mC (.str "given")) (mCons (mC (.int 7)) mNil)) (RL s d r0 r1 r2 none (some (cert r0, false)) (some (cert r1, false)) (some (cert r2, false))) = .ok (.tmp (.tup [.str "given", .int 7]) false) (RL s d r0 r1 r2 none (some (cert r0, false)) (some (cert r1, false)) (some (cert r2, false))) := by (repeat (first | with_reducible apply seq_gen | with_reducible apply if_go | with_reducible apply asg_run | with_reducible apply ret_run | with_reducible apply drop_go | with_reducible apply cons_run | with_reducible apply bin_go | with_reducible apply ix_go | with_reducible apply blt_go | with_reducible apply cmp_run | with_reducible apply tst_run | with_reducible apply not_run | with_reducible apply and_go | with_reducible apply or_go | with_reducible apply esc_go | with_reducible apply mv_go | with_reducible apply call_go | with_reducible apply make_go | with_reducible apply tup_go | with_reducible apply lst_go | with_reducible apply un_go | with_reducible apply ifE_go | with_reducible apply andV_go | with_reducible apply orV_go | with_reducible apply notV_go | with_reducible apply isi_go | with_reducible apply chnT_go | with_reducible apply chn_same | with_reducible apply own1_go | with_reducible apply own2_go | with_reducible apply both_go | with_reducible apply ne_go | with_reducible apply lenO_go | with_reducible apply inO_go | with_reducible apply prp_go | with_reducible apply attr_go | with_reducible apply isC_go | with_reducible apply lstO_go | with_reducible apply meth_go | with_reducible apply callK_go | with_reducible apply mut_go | with_reducible apply setI_go | with_reducible apply aug_go | with_reducible apply for_go | with_reducible apply it_go | with_reducible apply rng1_go | with_reducible apply rng2_go | with_reducible apply lc_go | with_reducible apply sl_go | with_reducible apply p_go | ((with_reducible apply eqH); with_reducible assumption) | exact Ran.mk (by with_reducible assumption) | with_reducible apply yes_go | with_reducible apply addL_go | with_reducible apply addT_go | with_reducible apply str_go | with_reducible apply mul_go | with_reducible apply mod_go | with_reducible apply then_nx | with_reducible apply then_ret | with_reducible apply then_bk | with_reducible apply then_ct | with_reducible apply then_ex | with_reducible apply skip_go | with_reducible apply retN_go | with_reducible apply raise_go | with_reducible apply look_s | with_reducible apply looks_n | with_reducible apply looks_c | with_reducible apply tmps_n | with_reducible apply tmps_c | with_reducible apply cool_t | with_reducible apply cool_s | with_reducible apply mv_t | with_reducible apply mv_s | with_reducible apply pull_n | with_reducible apply pull_t | with_reducible apply tgN_go | with_reducible apply tgT_go | with_reducible apply tgC_go | with_reducible apply tgNil_go | with_reducible apply it_t | with_reducible apply it_s | with_reducible apply bl_go | with_reducible apply append_go | with_reducible apply loop_nil | ((with_reducible apply pull_f); exact rfl; exact rfl) | ((with_reducible apply pull_o); exact rfl; (first | with_reducible assumption | exact rfl); dsimp only [List.set_cons_succ, List.set_cons_zero]) | ((with_reducible apply cond_gt); exact rfl) | ((with_reducible apply cond_gf); exact rfl) | (focus ((with_reducible apply sz_le); first | decide | (simp; done) | omega | (simp; omega))) | (focus ((with_reducible apply sz_lt); first | decide | (simp; done) | omega | (simp; omega))) | dsimp only [List.set_cons_succ, List.set_cons_zero, push, restore, rwipe, List.cons_append, List.nil_append] | exact rfl | omega | (focus (with_reducible apply nin_go; decide))))
    unfold hAp
    rw [e]
    exact if_pos (sz_lt (by omega))
  have a5 : hAp 2 (mC .non) (RL s d r0 r1 r2 none (some (cert r0, false)) (some (cert r1, false)) (some (cert r2, false))) [.lst (r0 ++ [.tup [.str "given", .int 7]]), .lst r1, .lst r2] = some (RL s d r0 r1 r2 none (some (cert r0, false)) (some (cert r1, false)) (some (cert r2, false)), [.lst (r0 ++ [.tup [.str "given", .int 7]]), .lst r1, .lst (r2 ++ [.non])]) := if_pos (sz_lt (by omega))
  unfold lawH1 hSq hPl
  rw [a1]
  simp only
  rw [a2]
  simp only
  rw [a3]
  simp only
  rw [a4]
  simp only
  rw [a5]
theorem mv_assoc {r0 r1 r2 : List D} (h1 : Rws r1) (h2 : Rws r2) : r0 ++ (r1 ++ r2.map (mv r1.length)).map (mv r0.length) = (r0 ++ r1.map (mv r0.length)) ++ r2.map (mv (r0 ++ r1.map (mv r0.length)).length) := by
  rw [List.map_append, ← List.append_assoc, List.map_map]
  congr 1
  refine List.map_congr_left fun x hx => ?_
  show mv _ (mv _ x) = _
  rw [mv_mv (h2 x hx)]
  congr 1
  simp
  omega
def lawB : ES := (mSeq (mAsg (mBoth "Certificate" f_Certificate___add__ (mVar 4) (mVar 5)) (tgN 7))
  (mSeq (mAsg (mBin gAdd (mIx (mVar 2) (mC (.int 0))) (mCall 2 f__law_moved (mCons (mIx (mVar 2) (mC (.int 1))) (mCons (mBlt gLen (mCons (mIx (mVar 2) (mC (.int 0))) mNil)) mNil)))) (tgN 8))
  (mSeq (mIf (mOr (mNot (mTst (mCall 2 f__law_is (mCons (mVar 7) (mCons (mVar 8) mNil))))) (mNot (mTst (mCall 2 f__law_is (mCons (mBoth "Certificate" f_Certificate___add__ (mVar 4) (mVar 4)) (mCons (mBin gAdd (mIx (mVar 2) (mC (.int 0))) (mCall 2 f__law_moved (mCons (mIx (mVar 2) (mC (.int 0))) (mCons (mBlt gLen (mCons (mIx (mVar 2) (mC (.int 0))) mNil)) mNil)))) mNil)))))) (mRet (mC (.bl false))) mSkip)
  (mSeq (mAsg (mBin gAdd (mVar 8) (mCall 2 f__law_moved (mCons (mIx (mVar 2) (mC (.int 2))) (mCons (mBlt gLen (mCons (mVar 8) mNil)) mNil)))) (tgN 9))
  (mSeq (mIf (mOr (mNot (mTst (mCall 2 f__law_is (mCons (mBoth "Certificate" f_Certificate___add__ (mVar 7) (mVar 6)) (mCons (mVar 9) mNil))))) (mNot (mTst (mCall 2 f__law_is (mCons (mBoth "Certificate" f_Certificate___add__ (mVar 4) (mBoth "Certificate" f_Certificate___add__ (mVar 5) (mVar 6))) (mCons (mVar 9) mNil)))))) (mRet (mC (.bl false))) mSkip)
  (mSeq (mIf (mOr (mNot (mTst (mCall 2 f__law_is (mCons (mBoth "Certificate" f_Certificate___add__ (mVar 4) (mMake "Certificate" 2 f_Certificate___init__ (mCons (mTup mNil) mNil))) (mCons (mIx (mVar 2) (mC (.int 0))) mNil))))) (mNot (mTst (mCall 2 f__law_is (mCons (mBoth "Certificate" f_Certificate___add__ (mMake "Certificate" 2 f_Certificate___init__ (mCons (mLst mNil) mNil)) (mVar 5)) (mCons (mIx (mVar 2) (mC (.int 1))) mNil)))))) (mRet (mC (.bl false))) mSkip)
  (mSeq (mAsg (mBin gAdd (mBin gMul (mCall 2 f__law_draw (mCons (mVar 1) (mCons (mC (.int 60)) mNil))) (mC (.int 16))) (mC (.int 1))) (tgN 10))
  (mSeq (mAsg (mTup (mCons (mTup (mCons (mTup (mCons (mC (.str "")) (mCons (mC (.str "size")) (mCons (mC (.int 1)) mNil)))) (mCons (mC (.bl false)) mNil))) (mCons (mTup (mCons (mTup (mCons (mC (.str "")) (mCons (mC (.str "size")) (mCons (mC (.int 2)) mNil)))) (mCons (mC (.bl true)) mNil))) mNil))) (tgN 11))
  (mSeq (mIf (mNot (mTst (mCall 2 f__law_is (mCons (mCall 1 f_Certificate_given (mCons (mVar 10) mNil)) (mCons (mLst (mCons (mTup (mCons (mC (.str "given")) (mCons (mEsc (mVar 10)) mNil))) mNil)) mNil))))) (mRet (mC (.bl false))) mSkip)
  (mSeq (mIf (mNot (mTst (mCall 2 f__law_is (mCons (mCall 2 f_Certificate_theory (mCons (mC (.str "")) (mCons (mVar 11) mNil))) (mCons (mLst (mCons (mTup (mCons (mC (.str "theory")) (mCons (mC (.str "")) (mCons (mEsc (mVar 11)) mNil)))) mNil)) mNil))))) (mRet (mC (.bl false))) mSkip)
  (mSeq (mAsg (mBin gSub (mCall 2 f__law_draw (mCons (mVar 1) (mCons (mC (.int 9)) mNil))) (mC (.int 2))) (tgN 12))
  (mSeq (mIf (mNot (mTst (mCall 2 f__law_is (mCons (mMeth "Certificate" "resolve" 4 f_Certificate_resolve (mVar 7) (mCons (mVar 12) (mCons (mVar 10) (mCons (mTup (mCons (mC (.str "")) (mCons (mC (.str "size")) (mCons (mC (.int 2)) mNil)))) mNil)))) (mCons (mBin gAdd (mVar 8) (mLst (mCons (mTup (mCons (mC (.str "resolve")) (mCons (mEsc (mVar 12)) (mCons (mEsc (mVar 10)) (mCons (mTup (mCons (mC (.str "")) (mCons (mC (.str "size")) (mCons (mC (.int 2)) mNil)))) mNil))))) mNil))) mNil))))) (mRet (mC (.bl false))) mSkip)
  (mRet (mAndV (mCall 2 f__law_is (mCons (mVar 4) (mCons (mIx (mVar 2) (mC (.int 0))) mNil))) (mAndV (mCall 2 f__law_is (mCons (mVar 5) (mCons (mIx (mVar 2) (mC (.int 1))) mNil))) (mAndV (mCall 2 f__law_is (mCons (mVar 6) (mCons (mIx (mVar 2) (mC (.int 2))) mNil))) (mCall 2 f__law_is (mCons (mVar 7) (mCons (mVar 8) mNil)))))))))))))))))))
theorem lawB_ok {s : D × Bool} {d : D} {r0 r1 r2 : List D} (F : Feed d) (h0 : Rws r0) (l0 : r0.length ≤ 5) (h1 : Rws r1) (l1 : r1.length ≤ 5) (h2 : Rws r2) (l2 : r2.length ≤ 5) : ∃ ρ', lawB (RL s d r0 r1 r2 none (some (cert r0, false)) (some (cert r1, false)) (some (cert r2, false))) = .ok (.ret (.bl true) false) ρ' := by
  obtain ⟨n1, d1, e1, F1, a1, b1⟩ := draw_ok F (many := 60) (by decide)
  obtain ⟨n2, d2, e2, F2, a2, b2⟩ := draw_ok F1 (many := 9) (by decide)
  have m0 := feed_mu F
  have m1 := feed_mu F1
  have hd : Rws (r0 ++ r1.map (mv r0.length)) := h0.append (h1.mv _)
  have hd0 : Rws (r0 ++ r0.map (mv r0.length)) := h0.append (h0.mv _)
  have hw : Rws ((r0 ++ r1.map (mv r0.length)) ++ r2.map (mv (r0 ++ r1.map (mv r0.length)).length)) := hd.append (h2.mv _)
  have c1 := add_ok (a := r0) (b := r1) h1 (by omega) (by omega)
  have c2 := add_ok (a := r0) (b := r0) h0 (by omega) (by omega)
  have c3 := add_ok (a := r0 ++ r1.map (mv r0.length)) (b := r2) h2 (by simp; omega) (by omega)
  have c4 := add_ok (a := r1) (b := r2) h2 (by omega) (by omega)
  have c5 := add_ok (a := r0) (b := r1 ++ r2.map (mv r1.length)) (h1.append (h2.mv _)) (by omega) (by simp; omega)
  have c6 := add_ok (a := r0) (b := []) (fun d hd => by cases hd) (by omega) (by simp)
  have c7 := add_ok (a := []) (b := r1) h1 (by simp) (by omega)
  have v1 := moved_ok (n := (r0.length : Nat)) h1 (by omega)
  have v2 := moved_ok (n := (r0.length : Nat)) h0 (by omega)
  have v3 := moved_ok (n := ((r0 ++ r1.map (mv r0.length)).length : Nat)) h2 (by omega)
  have i1 := is_ok (f := true) hd (by simp; omega)
  have i2 := is_ok (f := true) hd0 (by simp; omega)
  have i3 := is_ok (f := true) hw (by simp; omega)
  have i4 : f__law_is [(cert (r0 ++ (r1 ++ r2.map (mv r1.length)).map (mv r0.length)), false), (.lst ((r0 ++ r1.map (mv r0.length)) ++ r2.map (mv (r0 ++ r1.map (mv r0.length)).length)), true)] = .ok (.bl true) false [some (cert (r0 ++ (r1 ++ r2.map (mv r1.length)).map (mv r0.length)), false), some (.lst ((r0 ++ r1.map (mv r0.length)) ++ r2.map (mv (r0 ++ r1.map (mv r0.length)).length)), true)] := by
    rw [mv_assoc h1 h2]
    exact i3
  have i5 := is_ok (f := false) h0 (by omega)
  have i6 := is_ok (f := false) h1 (by omega)
  have i7 := is_ok (f := false) h2 (by omega)
  have k1 := init_t [] false
  have k2 := init_l [] true
  have i8 : f__law_is [(cert (r0 ++ ([] : List D).map (mv r0.length)), false), (.lst r0, false)] = .ok (.bl true) false [some (cert (r0 ++ ([] : List D).map (mv r0.length)), false), some (.lst r0, false)] := by
    rw [List.map_nil, List.append_nil]
    exact i5
  have i9 : f__law_is [(cert ([] ++ r1.map (mv ([] : List D).length)), false), (.lst r1, false)] = .ok (.bl true) false [some (cert ([] ++ r1.map (mv ([] : List D).length)), false), some (.lst r1, false)] := by
    have e : r1.map (mv ([] : List D).length) = r1 := by
      have : r1.map (mv 0) = r1.map id := List.map_congr_left fun x hx => mv0 (h1 x hx)
      rw [List.map_id] at this
      exact this
    rw [e, List.nil_append]
    exact i6
  have g1 := given_ok (n1 * 16 + 1)
  have g2 := theory_ok (.str "") (.tup [.tup [.tup [.str "", .str "size", .int 1], .bl false], .tup [.tup [.str "", .str "size", .int 2], .bl true]])
  have g3 := resolve_ok (r0 ++ r1.map (mv r0.length)) (.int (n2 - 2)) (.int (n1 * 16 + 1)) (.tup [.str "", .str "size", .int 2]) (by simp; omega)
  have i10 := is_ok (rows := [.tup [.str "given", .int (n1 * 16 + 1)]]) (f := true) (fun d hd => by rcases List.mem_singleton.mp hd with rfl; exact .giv _) (by simp)
  have i11 := is_ok (rows := [.tup [.str "theory", .str "", .tup [.tup [.tup [.str "", .str "size", .int 1], .bl false], .tup [.tup [.str "", .str "size", .int 2], .bl true]]]]) (f := true) (fun d hd => by rcases List.mem_singleton.mp hd with rfl; exact .the .a1 .a4) (by simp)
  have i12 := is_ok (rows := r0 ++ r1.map (mv r0.length) ++ [.tup [.str "resolve", .int (n2 - 2), .int (n1 * 16 + 1), .tup [.str "", .str "size", .int 2]]]) (f := true) (hd.append fun d hd => by rcases List.mem_singleton.mp hd with rfl; exact .res _ _ .a4) (by simp; omega)
  unfold lawB
  apply Exists.intro
  (repeat (first | with_reducible apply seq_gen | with_reducible apply if_go | with_reducible apply asg_run | with_reducible apply ret_run | with_reducible apply drop_go | with_reducible apply cons_run | with_reducible apply bin_go | with_reducible apply ix_go | with_reducible apply blt_go | with_reducible apply cmp_run | with_reducible apply tst_run | with_reducible apply not_run | with_reducible apply and_go | with_reducible apply or_go | with_reducible apply esc_go | with_reducible apply mv_go | with_reducible apply call_go | with_reducible apply make_go | with_reducible apply tup_go | with_reducible apply lst_go | with_reducible apply un_go | with_reducible apply ifE_go | with_reducible apply andV_go | with_reducible apply orV_go | with_reducible apply notV_go | with_reducible apply isi_go | with_reducible apply chnT_go | with_reducible apply chn_same | with_reducible apply own1_go | with_reducible apply own2_go | with_reducible apply both_go | with_reducible apply ne_go | with_reducible apply lenO_go | with_reducible apply inO_go | with_reducible apply prp_go | with_reducible apply attr_go | with_reducible apply isC_go | with_reducible apply lstO_go | with_reducible apply meth_go | with_reducible apply callK_go | with_reducible apply mut_go | with_reducible apply setI_go | with_reducible apply aug_go | with_reducible apply for_go | with_reducible apply it_go | with_reducible apply rng1_go | with_reducible apply rng2_go | with_reducible apply lc_go | with_reducible apply sl_go | with_reducible apply p_go | ((with_reducible apply eqH); with_reducible assumption) | exact Ran.mk (by with_reducible assumption) | with_reducible apply yes_go | with_reducible apply addL_go | with_reducible apply addT_go | with_reducible apply str_go | with_reducible apply mul_go | with_reducible apply mod_go | with_reducible apply then_nx | with_reducible apply then_ret | with_reducible apply then_bk | with_reducible apply then_ct | with_reducible apply then_ex | with_reducible apply skip_go | with_reducible apply retN_go | with_reducible apply raise_go | with_reducible apply look_s | with_reducible apply looks_n | with_reducible apply looks_c | with_reducible apply tmps_n | with_reducible apply tmps_c | with_reducible apply cool_t | with_reducible apply cool_s | with_reducible apply mv_t | with_reducible apply mv_s | with_reducible apply pull_n | with_reducible apply pull_t | with_reducible apply tgN_go | with_reducible apply tgT_go | with_reducible apply tgC_go | with_reducible apply tgNil_go | with_reducible apply it_t | with_reducible apply it_s | with_reducible apply bl_go | with_reducible apply append_go | with_reducible apply loop_nil | ((with_reducible apply pull_f); exact rfl; exact rfl) | ((with_reducible apply pull_o); exact rfl; (first | with_reducible assumption | exact rfl); dsimp only [List.set_cons_succ, List.set_cons_zero]) | ((with_reducible apply cond_gt); exact rfl) | ((with_reducible apply cond_gf); exact rfl) | (focus ((with_reducible apply sz_le); first | decide | (simp; done) | omega | (simp; omega))) | (focus ((with_reducible apply sz_lt); first | decide | (simp; done) | omega | (simp; omega))) | dsimp only [List.set_cons_succ, List.set_cons_zero, push, restore, rwipe, List.cons_append, List.nil_append] | exact rfl | omega | (focus (with_reducible apply nin_go; decide))))
theorem law_cut : b_law = (mSeq (mAsg (mCall 1 f__law_state (mCons (mVar 0) mNil)) (tgN 1))
  (mSeq (mAsg (mLc (mRng1 (mCons (mC (.int 3)) mNil)) [13] (tgN 13) mYes (mLc (mRng1 (mCons (mCall 2 f__law_draw (mCons (mVar 1) (mCons (mC (.int 6)) mNil))) mNil)) [15] (tgN 15) mYes (mCall 1 f__law_value (mCons (mVar 1) mNil)))) (tgN 2)) (mHid lawH0 lawH1 lawB))) := rfl
theorem law_pure : ∀ ns : List Int, ns.length ≤ 63 → ∃ fl outs, f_law [(.rol (ns.map D.int), false)] = .ok (.bl true) fl outs := fun ns hn => by
  have es : f__law_state [(.rol (ns.map D.int), false)] = .ok (.lst [.lst (ns.map D.int), .int 0, .int 0, .int 0, .int 0]) true [some (.rol (ns.map D.int), false)] := rfl
  have F : Feed (.lst [.lst (ns.map D.int), .int 0, .int 0, .int 0, .int 0]) := ⟨ns, 0, 0, 0, 0, rfl, by decide, by decide, by decide, by decide⟩
  obtain ⟨r0, r1, r2, d, er, Fd, h0, h1, h2⟩ := rows_ok (s := (.rol (ns.map D.int), false)) F
  obtain ⟨ρ', eb⟩ := lawB_ok (s := (.rol (ns.map D.int), false)) Fd h0.1 h0.2 h1.1 h1.2 h2.1 h2.2
  refine ⟨false, outsR [0] 0 1 ρ', mkF_ret (ρ := ρ') (ρ0 := [some (.rol (ns.map D.int), false), none, none, none, none, none, none, none, none, none, none, none, none, none, none, none]) rfl ?_ rfl⟩
  rw [law_cut]
  refine seq_go (ρ1 := L16 (.rol (ns.map D.int), false) (.lst [.lst (ns.map D.int), .int 0, .int 0, .int 0, .int 0]) none none) ?_ ?_
  · (repeat (first | with_reducible apply seq_gen | with_reducible apply if_go | with_reducible apply asg_run | with_reducible apply ret_run | with_reducible apply drop_go | with_reducible apply cons_run | with_reducible apply bin_go | with_reducible apply ix_go | with_reducible apply blt_go | with_reducible apply cmp_run | with_reducible apply tst_run | with_reducible apply not_run | with_reducible apply and_go | with_reducible apply or_go | with_reducible apply esc_go | with_reducible apply mv_go | with_reducible apply call_go | with_reducible apply make_go | with_reducible apply tup_go | with_reducible apply lst_go | with_reducible apply un_go | with_reducible apply ifE_go | with_reducible apply andV_go | with_reducible apply orV_go | with_reducible apply notV_go | with_reducible apply isi_go | with_reducible apply chnT_go | with_reducible apply chn_same | with_reducible apply own1_go | with_reducible apply own2_go | with_reducible apply both_go | with_reducible apply ne_go | with_reducible apply lenO_go | with_reducible apply inO_go | with_reducible apply prp_go | with_reducible apply attr_go | with_reducible apply isC_go | with_reducible apply lstO_go | with_reducible apply meth_go | with_reducible apply callK_go | with_reducible apply mut_go | with_reducible apply setI_go | with_reducible apply aug_go | with_reducible apply for_go | with_reducible apply it_go | with_reducible apply rng1_go | with_reducible apply rng2_go | with_reducible apply lc_go | with_reducible apply sl_go | with_reducible apply p_go | ((with_reducible apply eqH); with_reducible assumption) | exact Ran.mk (by with_reducible assumption) | with_reducible apply yes_go | with_reducible apply addL_go | with_reducible apply addT_go | with_reducible apply str_go | with_reducible apply mul_go | with_reducible apply mod_go | with_reducible apply then_nx | with_reducible apply then_ret | with_reducible apply then_bk | with_reducible apply then_ct | with_reducible apply then_ex | with_reducible apply skip_go | with_reducible apply retN_go | with_reducible apply raise_go | with_reducible apply look_s | with_reducible apply looks_n | with_reducible apply looks_c | with_reducible apply tmps_n | with_reducible apply tmps_c | with_reducible apply cool_t | with_reducible apply cool_s | with_reducible apply mv_t | with_reducible apply mv_s | with_reducible apply pull_n | with_reducible apply pull_t | with_reducible apply tgN_go | with_reducible apply tgT_go | with_reducible apply tgC_go | with_reducible apply tgNil_go | with_reducible apply it_t | with_reducible apply it_s | with_reducible apply bl_go | with_reducible apply append_go | with_reducible apply loop_nil | ((with_reducible apply pull_f); exact rfl; exact rfl) | ((with_reducible apply pull_o); exact rfl; (first | with_reducible assumption | exact rfl); dsimp only [List.set_cons_succ, List.set_cons_zero]) | ((with_reducible apply cond_gt); exact rfl) | ((with_reducible apply cond_gf); exact rfl) | (focus ((with_reducible apply sz_le); first | decide | (simp; done) | omega | (simp; omega))) | (focus ((with_reducible apply sz_lt); first | decide | (simp; done) | omega | (simp; omega))) | dsimp only [List.set_cons_succ, List.set_cons_zero, push, restore, rwipe, List.cons_append, List.nil_append] | exact rfl | omega | (focus (with_reducible apply nin_go; decide))))
  refine seq_go (asg_run er rfl) ?_
  unfold mHid
  show (match lawH0 (RL (.rol (ns.map D.int), false) d r0 r1 r2 none none none none) with | some r => (match lawH1 r.1 r.2 with | some r2 => lawB r2.1 | none => .stuck) | none => .stuck) = _
  rw [h0_ok]
  simp only
  rw [h1_ok h0.2 h2.2]
  exact eb
end Gn

set_option Elab.async false
set_option linter.all false
set_option maxRecDepth 100000
set_option maxHeartbeats 4000000
namespace Gn
open PySem L2 LL
theorem all_mk {P : Program} {w : World} {K : PySem.W.Frag} {h : Heap} {mg : Str → Option Value} {fa : Addr} (X : K.In h) (G : h.Ns mainGlobals mg) (hfa : mg "law" = some (.ref fa))
    {C_Certificate : Addr}
    {f0 : Addr} {od0 an0 : Option Addr} {sl0 : Array (Option Value)} {oc0 dc0 pm0 cd0 ct0 kV0 : Value}
    {f1 : Addr} {od1 an1 : Option Addr} {sl1 : Array (Option Value)} {oc1 dc1 pm1 cd1 ct1 kV1 : Value}
    {p1 : Addr} {rs1 : List Value}
    {f2 : Addr} {od2 an2 : Option Addr} {sl2 : Array (Option Value)} {oc2 dc2 pm2 cd2 ct2 kV2 : Value}
    {p2 : Addr} {rs2 : List Value}
    {f3 : Addr} {od3 an3 : Option Addr} {sl3 : Array (Option Value)} {oc3 dc3 pm3 cd3 ct3 kV3 : Value}
    {p3 : Addr} {rs3 : List Value}
    {f4 : Addr} {od4 an4 : Option Addr} {sl4 : Array (Option Value)} {oc4 dc4 pm4 cd4 ct4 kV4 : Value}
    {f6 : Addr} {od6 an6 : Option Addr} {sl6 : Array (Option Value)} {oc6 dc6 pm6 cd6 ct6 kV6 : Value}
    {f7 : Addr} {od7 an7 : Option Addr} {sl7 : Array (Option Value)} {oc7 dc7 pm7 cd7 ct7 kV7 : Value}
    {f11 : Addr} {od11 an11 : Option Addr} {sl11 : Array (Option Value)} {oc11 dc11 pm11 cd11 ct11 kV11 : Value}
    {f12 : Addr} {od12 an12 : Option Addr} {sl12 : Array (Option Value)} {oc12 dc12 pm12 cd12 ct12 kV12 : Value}
    {f22 : Addr} {od22 an22 : Option Addr} {sl22 : Array (Option Value)} {oc22 dc22 pm22 cd22 ct22 kV22 : Value}
    {f5 : Addr} {od5 an5 : Option Addr} {sl5 : Array (Option Value)} {oc5 dc5 pm5 cd5 ct5 : Value}
    {kV5 : Value}
    {f8 : Addr} {od8 an8 : Option Addr} {sl8 : Array (Option Value)} {oc8 dc8 pm8 cd8 ct8 : Value}
    {kV8 : Value}
    {f9 : Addr} {od9 an9 : Option Addr} {sl9 : Array (Option Value)} {oc9 dc9 pm9 cd9 ct9 : Value}
    {kV9 : Value}
    {f10 : Addr} {od10 an10 : Option Addr} {sl10 : Array (Option Value)} {oc10 dc10 pm10 cd10 ct10 : Value}
    {kV10 : Value}
    {f13 : Addr} {od13 an13 : Option Addr} {sl13 : Array (Option Value)} {oc13 dc13 pm13 cd13 ct13 : Value}
    {kV13 : Value}
    {f14 : Addr} {od14 an14 : Option Addr} {sl14 : Array (Option Value)} {oc14 dc14 pm14 cd14 ct14 : Value}
    {kV14 : Value}
    {f15 : Addr} {od15 an15 : Option Addr} {sl15 : Array (Option Value)} {oc15 dc15 pm15 cd15 ct15 : Value}
    {kV15 : Value}
    {f16 : Addr} {od16 an16 : Option Addr} {sl16 : Array (Option Value)} {oc16 dc16 pm16 cd16 ct16 : Value}
    {kV16 : Value}
    {f17 : Addr} {od17 an17 : Option Addr} {sl17 : Array (Option Value)} {oc17 dc17 pm17 cd17 ct17 : Value}
    {kV17 : Value}
    {f18 : Addr} {od18 an18 : Option Addr} {sl18 : Array (Option Value)} {oc18 dc18 pm18 cd18 ct18 : Value}
    {kV18 : Value}
    {f19 : Addr} {od19 an19 : Option Addr} {sl19 : Array (Option Value)} {oc19 dc19 pm19 cd19 ct19 : Value}
    {kV19 : Value}
    {f20 : Addr} {od20 an20 : Option Addr} {sl20 : Array (Option Value)} {oc20 dc20 pm20 cd20 ct20 : Value}
    {kV20 : Value}
    {f21 : Addr} {od21 an21 : Option Addr} {sl21 : Array (Option Value)} {oc21 dc21 pm21 cd21 ct21 : Value}
    {kV21 : Value}
    {C_LookerError : Addr}
    {C_BadRow : Addr}
    {nm_BadRow q_BadRow : Str} {N_BadRow fI_BadRow cc_BadRow cda_BadRow : Addr} {bs_BadRow bm_BadRow sub_BadRow : List Value} {sn_BadRow : List Str} {ab_BadRow : Bool} {col_BadRow : Option Bool} {dd_BadRow od_BadRow an_BadRow cld_BadRow cdd_BadRow : Option Addr} {m0_BadRow m1_BadRow m2_BadRow m3_BadRow m5_BadRow : Option Value} {oc_BadRow dc_BadRow pm_BadRow ct_BadRow cl_BadRow ccl_BadRow : Value} {sl_BadRow csl_BadRow ccs_BadRow : Array (Option Value)} {vs_BadRow : Array Value} {file_BadRow : Str} {tf_BadRow : Tok}
    {C_BadStep : Addr}
    {nm_BadStep q_BadStep : Str} {N_BadStep fI_BadStep cc_BadStep cda_BadStep : Addr} {bs_BadStep bm_BadStep sub_BadStep : List Value} {sn_BadStep : List Str} {ab_BadStep : Bool} {col_BadStep : Option Bool} {dd_BadStep od_BadStep an_BadStep cld_BadStep cdd_BadStep : Option Addr} {m0_BadStep m1_BadStep m2_BadStep m3_BadStep m5_BadStep : Option Value} {oc_BadStep dc_BadStep pm_BadStep ct_BadStep cl_BadStep ccl_BadStep : Value} {sl_BadStep csl_BadStep ccs_BadStep : Array (Option Value)} {vs_BadStep : Array Value} {file_BadStep : Str} {tf_BadStep : Tok}
    (aK_Certificate : PySem.W.nsIn K mainGlobals "Certificate" = some (some (.ref C_Certificate)))
    (pg_Certificate : PySem.W.plainGet K C_Certificate Str.empty = true)
    (hd_Certificate : PySem.W.hasDictIn K C_Certificate = true)
    (po_Certificate : PySem.W.plainOver K C_Certificate = true)
    (sa_Certificate : PySem.W.findIn K (.ref C_Certificate) "__setattr__" = some (some (.builtin "object.__setattr__")))
    (sf_Certificate : PySem.W.selfFirst K C_Certificate = true)
    (nf_Certificate_rows : PySem.W.findIn K (.ref C_Certificate) "rows" = some none)
    (mk1_Certificate : PySem.W.makesIn K C_Certificate = true)
    (mk2_Certificate : PySem.W.keepIn K (.ref C_Certificate) = true)
    (ne1_Certificate : PySem.W.findIn K (.ref C_Certificate) "__ne__" = some (some (.builtin "object.__ne__")))
    (ne2_Certificate : PySem.W.subIn K (.ref C_Certificate) (.type "object") = some true)
    (ic1_Certificate : PySem.W.findIn K (.ref C_Certificate) "__class__" = some (some (.builtin "object.__class__")))
    (ic2_Certificate : PySem.W.specialIn K (.builtin "object.__class__") "__get__" = some (some (.builtin "getset_descriptor.__get__")))
    (ic3_Certificate : PySem.W.takesIn K (.builtin "object.__class__") = some true)
    (ic4_Certificate : PySem.W.mroIn K C_Certificate (.type "object") = some true)
    (ic5_Certificate : PySem.W.typeIn K (.ref C_Certificate) = some (.type "type"))
    (ic6_Certificate : PySem.W.subIn K (.ref C_Certificate) (.ref C_Certificate) = some true)
    (rd_Certificate : PySem.W.readsIn K C_Certificate (.type "type") = true)
    (gt_Certificate : PySem.W.specialIn K (.ref C_Certificate) "__getattribute__" = some (some (.builtin "type.__getattribute__")))
    (tc_Certificate : PySem.W.typeIn K (.ref C_Certificate) = some (.type "type"))
    (a0 : PySem.W.findIn K (.ref C_Certificate) "__init__" = some (some (.ref f0)))
    (l0 : K.lookup f0 = some ⟨oc0, od0, .func (PySem.W.fnOf "__init__" "Certificate.__init__" (defArgs s_Certificate___init__) (defBody s_Certificate___init__) (defScope s_Certificate___init__) .none kV0 dc0 pm0 an0 cd0 ct0), sl0⟩)
    (c0 : PySem.W.codeIn K cd0 "Certificate.__init__" = true)
    (k0 : PySem.W.keepIn K (.ref f0) = true)
    (if0 : PySem.W.isFn K (.ref f0) = true)
    (fi0 : PySem.W.fnIn K f0 = true)
    (a1 : PySem.W.findCls K (.ref C_Certificate) (.type "type") "given" = some (.get (.builtin "staticmethod.__get__") (.ref p1) .none (.ref C_Certificate)))
    (pc1 : PySem.W.recIn K p1 "staticmethod" = some (.ref f1 :: rs1))
    (l1 : K.lookup f1 = some ⟨oc1, od1, .func (PySem.W.fnOf "given" "Certificate.given" (defArgs s_Certificate_given) (defBody s_Certificate_given) (defScope s_Certificate_given) .none kV1 dc1 pm1 an1 cd1 ct1), sl1⟩)
    (c1 : PySem.W.codeIn K cd1 "Certificate.given" = true)
    (k1 : PySem.W.keepIn K (.ref f1) = true)
    (a2 : PySem.W.findCls K (.ref C_Certificate) (.type "type") "theory" = some (.get (.builtin "staticmethod.__get__") (.ref p2) .none (.ref C_Certificate)))
    (pc2 : PySem.W.recIn K p2 "staticmethod" = some (.ref f2 :: rs2))
    (l2 : K.lookup f2 = some ⟨oc2, od2, .func (PySem.W.fnOf "theory" "Certificate.theory" (defArgs s_Certificate_theory) (defBody s_Certificate_theory) (defScope s_Certificate_theory) .none kV2 dc2 pm2 an2 cd2 ct2), sl2⟩)
    (c2 : PySem.W.codeIn K cd2 "Certificate.theory" = true)
    (k2 : PySem.W.keepIn K (.ref f2) = true)
    (a3 : PySem.W.findIn K (.ref C_Certificate) "last" = some (some (.ref p3)))
    (pa3 : PySem.W.specialIn K (.ref p3) "__get__" = some (some (.builtin "property.__get__")))
    (pb3 : PySem.W.takesIn K (.ref p3) = some true)
    (pc3 : PySem.W.recIn K p3 "property" = some (.ref f3 :: rs3))
    (l3 : K.lookup f3 = some ⟨oc3, od3, .func (PySem.W.fnOf "last" "Certificate.last" (defArgs s_Certificate_last) (defBody s_Certificate_last) (defScope s_Certificate_last) .none kV3 dc3 pm3 an3 cd3 ct3), sl3⟩)
    (c3 : PySem.W.codeIn K cd3 "Certificate.last" = true)
    (k3 : PySem.W.keepIn K (.ref f3) = true)
    (a4 : PySem.W.findIn K (.ref C_Certificate) "__len__" = some (some (.ref f4)))
    (l4 : K.lookup f4 = some ⟨oc4, od4, .func (PySem.W.fnOf "__len__" "Certificate.__len__" (defArgs s_Certificate___len__) (defBody s_Certificate___len__) (defScope s_Certificate___len__) .none kV4 dc4 pm4 an4 cd4 ct4), sl4⟩)
    (c4 : PySem.W.codeIn K cd4 "Certificate.__len__" = true)
    (k4 : PySem.W.keepIn K (.ref f4) = true)
    (if4 : PySem.W.isFn K (.ref f4) = true)
    (fi4 : PySem.W.fnIn K f4 = true)
    (a6 : PySem.W.findIn K (.ref C_Certificate) "__getitem__" = some (some (.ref f6)))
    (l6 : K.lookup f6 = some ⟨oc6, od6, .func (PySem.W.fnOf "__getitem__" "Certificate.__getitem__" (defArgs s_Certificate___getitem__) (defBody s_Certificate___getitem__) (defScope s_Certificate___getitem__) .none kV6 dc6 pm6 an6 cd6 ct6), sl6⟩)
    (c6 : PySem.W.codeIn K cd6 "Certificate.__getitem__" = true)
    (k6 : PySem.W.keepIn K (.ref f6) = true)
    (if6 : PySem.W.isFn K (.ref f6) = true)
    (fi6 : PySem.W.fnIn K f6 = true)
    (a7 : PySem.W.findIn K (.ref C_Certificate) "__eq__" = some (some (.ref f7)))
    (l7 : K.lookup f7 = some ⟨oc7, od7, .func (PySem.W.fnOf "__eq__" "Certificate.__eq__" (defArgs s_Certificate___eq__) (defBody s_Certificate___eq__) (defScope s_Certificate___eq__) .none kV7 dc7 pm7 an7 cd7 ct7), sl7⟩)
    (c7 : PySem.W.codeIn K cd7 "Certificate.__eq__" = true)
    (k7 : PySem.W.keepIn K (.ref f7) = true)
    (if7 : PySem.W.isFn K (.ref f7) = true)
    (fi7 : PySem.W.fnIn K f7 = true)
    (a11 : PySem.W.findIn K (.ref C_Certificate) "__add__" = some (some (.ref f11)))
    (l11 : K.lookup f11 = some ⟨oc11, od11, .func (PySem.W.fnOf "__add__" "Certificate.__add__" (defArgs s_Certificate___add__) (defBody s_Certificate___add__) (defScope s_Certificate___add__) .none kV11 dc11 pm11 an11 cd11 ct11), sl11⟩)
    (c11 : PySem.W.codeIn K cd11 "Certificate.__add__" = true)
    (k11 : PySem.W.keepIn K (.ref f11) = true)
    (if11 : PySem.W.isFn K (.ref f11) = true)
    (fi11 : PySem.W.fnIn K f11 = true)
    (a12 : PySem.W.findIn K (.ref C_Certificate) "resolve" = some (some (.ref f12)))
    (l12 : K.lookup f12 = some ⟨oc12, od12, .func (PySem.W.fnOf "resolve" "Certificate.resolve" (defArgs s_Certificate_resolve) (defBody s_Certificate_resolve) (defScope s_Certificate_resolve) .none kV12 dc12 pm12 an12 cd12 ct12), sl12⟩)
    (c12 : PySem.W.codeIn K cd12 "Certificate.resolve" = true)
    (k12 : PySem.W.keepIn K (.ref f12) = true)
    (if12 : PySem.W.isFn K (.ref f12) = true)
    (fi12 : PySem.W.fnIn K f12 = true)
    (a22 : PySem.W.findIn K (.ref C_Certificate) "__iter__" = some (some (.ref f22)))
    (l22 : K.lookup f22 = some ⟨oc22, od22, .func (PySem.W.fnOf "__iter__" "Certificate.__iter__" (defArgs s_Certificate___iter__) (defBody s_Certificate___iter__) (defScope s_Certificate___iter__) .none kV22 dc22 pm22 an22 cd22 ct22), sl22⟩)
    (c22 : PySem.W.codeIn K cd22 "Certificate.__iter__" = true)
    (k22 : PySem.W.keepIn K (.ref f22) = true)
    (if22 : PySem.W.isFn K (.ref f22) = true)
    (fi22 : PySem.W.fnIn K f22 = true)
    (a5 : PySem.W.nsIn K mainGlobals "is_whole" = some (some (.ref f5)))
    (l5 : K.lookup f5 = some ⟨oc5, od5, .func (PySem.W.fnOf "is_whole" "is_whole" (defArgs s_is_whole) (defBody s_is_whole) (defScope s_is_whole) .none kV5 dc5 pm5 an5 cd5 ct5), sl5⟩)
    (c5 : PySem.W.codeIn K cd5 "is_whole" = true)
    (k5 : PySem.W.keepIn K (.ref f5) = true)
    (a8 : PySem.W.nsIn K mainGlobals "is_integer" = some (some (.ref f8)))
    (l8 : K.lookup f8 = some ⟨oc8, od8, .func (PySem.W.fnOf "is_integer" "is_integer" (defArgs s_is_integer) (defBody s_is_integer) (defScope s_is_integer) .none kV8 dc8 pm8 an8 cd8 ct8), sl8⟩)
    (c8 : PySem.W.codeIn K cd8 "is_integer" = true)
    (k8 : PySem.W.keepIn K (.ref f8) = true)
    (a9 : PySem.W.nsIn K mainGlobals "is_resolve_row" = some (some (.ref f9)))
    (l9 : K.lookup f9 = some ⟨oc9, od9, .func (PySem.W.fnOf "is_resolve_row" "is_resolve_row" (defArgs s_is_resolve_row) (defBody s_is_resolve_row) (defScope s_is_resolve_row) .none kV9 dc9 pm9 an9 cd9 ct9), sl9⟩)
    (c9 : PySem.W.codeIn K cd9 "is_resolve_row" = true)
    (k9 : PySem.W.keepIn K (.ref f9) = true)
    (a10 : PySem.W.nsIn K mainGlobals "moved_row" = some (some (.ref f10)))
    (l10 : K.lookup f10 = some ⟨oc10, od10, .func (PySem.W.fnOf "moved_row" "moved_row" (defArgs s_moved_row) (defBody s_moved_row) (defScope s_moved_row) .none kV10 dc10 pm10 an10 cd10 ct10), sl10⟩)
    (c10 : PySem.W.codeIn K cd10 "moved_row" = true)
    (k10 : PySem.W.keepIn K (.ref f10) = true)
    (a13 : PySem.W.nsIn K mainGlobals "_law_state" = some (some (.ref f13)))
    (l13 : K.lookup f13 = some ⟨oc13, od13, .func (PySem.W.fnOf "_law_state" "_law_state" (defArgs s__law_state) (defBody s__law_state) (defScope s__law_state) .none kV13 dc13 pm13 an13 cd13 ct13), sl13⟩)
    (c13 : PySem.W.codeIn K cd13 "_law_state" = true)
    (k13 : PySem.W.keepIn K (.ref f13) = true)
    (a14 : PySem.W.nsIn K mainGlobals "_law_draw" = some (some (.ref f14)))
    (l14 : K.lookup f14 = some ⟨oc14, od14, .func (PySem.W.fnOf "_law_draw" "_law_draw" (defArgs s__law_draw) (defBody s__law_draw) (defScope s__law_draw) .none kV14 dc14 pm14 an14 cd14 ct14), sl14⟩)
    (c14 : PySem.W.codeIn K cd14 "_law_draw" = true)
    (k14 : PySem.W.keepIn K (.ref f14) = true)
    (a15 : PySem.W.nsIn K mainGlobals "_law_alike" = some (some (.ref f15)))
    (l15 : K.lookup f15 = some ⟨oc15, od15, .func (PySem.W.fnOf "_law_alike" "_law_alike" (defArgs s__law_alike) (defBody s__law_alike) (defScope s__law_alike) .none kV15 dc15 pm15 an15 cd15 ct15), sl15⟩)
    (c15 : PySem.W.codeIn K cd15 "_law_alike" = true)
    (k15 : PySem.W.keepIn K (.ref f15) = true)
    (a16 : PySem.W.nsIn K mainGlobals "_law_value" = some (some (.ref f16)))
    (l16 : K.lookup f16 = some ⟨oc16, od16, .func (PySem.W.fnOf "_law_value" "_law_value" (defArgs s__law_value) (defBody s__law_value) (defScope s__law_value) .none kV16 dc16 pm16 an16 cd16 ct16), sl16⟩)
    (c16 : PySem.W.codeIn K cd16 "_law_value" = true)
    (k16 : PySem.W.keepIn K (.ref f16) = true)
    (a17 : PySem.W.nsIn K mainGlobals "_law_is_whole" = some (some (.ref f17)))
    (l17 : K.lookup f17 = some ⟨oc17, od17, .func (PySem.W.fnOf "_law_is_whole" "_law_is_whole" (defArgs s__law_is_whole) (defBody s__law_is_whole) (defScope s__law_is_whole) .none kV17 dc17 pm17 an17 cd17 ct17), sl17⟩)
    (c17 : PySem.W.codeIn K cd17 "_law_is_whole" = true)
    (k17 : PySem.W.keepIn K (.ref f17) = true)
    (a18 : PySem.W.nsIn K mainGlobals "_law_moved" = some (some (.ref f18)))
    (l18 : K.lookup f18 = some ⟨oc18, od18, .func (PySem.W.fnOf "_law_moved" "_law_moved" (defArgs s__law_moved) (defBody s__law_moved) (defScope s__law_moved) .none kV18 dc18 pm18 an18 cd18 ct18), sl18⟩)
    (c18 : PySem.W.codeIn K cd18 "_law_moved" = true)
    (k18 : PySem.W.keepIn K (.ref f18) = true)
    (a19 : PySem.W.nsIn K mainGlobals "_law_item" = some (some (.ref f19)))
    (l19 : K.lookup f19 = some ⟨oc19, od19, .func (PySem.W.fnOf "_law_item" "_law_item" (defArgs s__law_item) (defBody s__law_item) (defScope s__law_item) .none kV19 dc19 pm19 an19 cd19 ct19), sl19⟩)
    (c19 : PySem.W.codeIn K cd19 "_law_item" = true)
    (k19 : PySem.W.keepIn K (.ref f19) = true)
    (a20 : PySem.W.nsIn K mainGlobals "_law_is" = some (some (.ref f20)))
    (l20 : K.lookup f20 = some ⟨oc20, od20, .func (PySem.W.fnOf "_law_is" "_law_is" (defArgs s__law_is) (defBody s__law_is) (defScope s__law_is) .none kV20 dc20 pm20 an20 cd20 ct20), sl20⟩)
    (c20 : PySem.W.codeIn K cd20 "_law_is" = true)
    (k20 : PySem.W.keepIn K (.ref f20) = true)
    (a21 : PySem.W.nsIn K mainGlobals "law" = some (some (.ref f21)))
    (l21 : K.lookup f21 = some ⟨oc21, od21, .func (PySem.W.fnOf "law" "law" (defArgs s_law) (defBody s_law) (defScope s_law) .none kV21 dc21 pm21 an21 cd21 ct21), sl21⟩)
    (c21 : PySem.W.codeIn K cd21 "law" = true)
    (k21 : PySem.W.keepIn K (.ref f21) = true)
    (z_bool : PySem.W.nsIn K mainGlobals "bool" = some none)
    (z_int : PySem.W.nsIn K mainGlobals "int" = some none)
    (z_isinstance : PySem.W.nsIn K mainGlobals "isinstance" = some none)
    (z_iter : PySem.W.nsIn K mainGlobals "iter" = some none)
    (z_len : PySem.W.nsIn K mainGlobals "len" = some none)
    (z_list : PySem.W.nsIn K mainGlobals "list" = some none)
    (z_range : PySem.W.nsIn K mainGlobals "range" = some none)
    (z_str : PySem.W.nsIn K mainGlobals "str" = some none)
    (z_tuple : PySem.W.nsIn K mainGlobals "tuple" = some none)
    (z_ValueError : PySem.W.nsIn K mainGlobals "ValueError" = some none)
    (z_super : PySem.W.nsIn K mainGlobals "super" = some none)
    (o_any : PySem.W.nsIn K PySem.cStatics "thirdparty.any" = some none)
    (top : (P.main.scope.names.lookup ("super" : Str)).isSome = false)
    (kn : PySem.W.specialIn K (.builtin "object.__class__") "__get__" = some (some (.builtin "getset_descriptor.__get__")))
    (kt : PySem.W.takesIn K (.builtin "object.__class__") = some true)
    (aC_LookerError : PySem.W.nsIn K mainGlobals "LookerError" = some (some (.ref C_LookerError)))
    (ex_LookerError : PySem.W.subIn K (.ref C_LookerError) (.type "BaseException") = some true)
    (ty_LookerError : PySem.W.typeIn K (.ref C_LookerError) = some (.type "type"))
    (hd_LookerError : PySem.W.hasDictIn K C_LookerError = true)
    (aC_BadRow : PySem.W.nsIn K mainGlobals "BadRow" = some (some (.ref C_BadRow)))
    (ex_BadRow : PySem.W.subIn K (.ref C_BadRow) (.type "BaseException") = some true)
    (ty_BadRow : PySem.W.typeIn K (.ref C_BadRow) = some (.type "type"))
    (hd_BadRow : PySem.W.hasDictIn K C_BadRow = true)
    (xL_BadRow : K.lookup C_BadRow = some (excClassObj nm_BadRow q_BadRow C_BadRow N_BadRow bs_BadRow bm_BadRow true sn_BadRow sub_BadRow ab_BadRow col_BadRow dd_BadRow m0_BadRow m1_BadRow m2_BadRow m3_BadRow m5_BadRow "ValueError.__new__"))
    (vb_BadRow : PySem.HandSPX.refsVE bm_BadRow = true)
    (sa_BadRow : PySem.W.findIn K (.ref C_BadRow) "__setattr__" = some (some (.builtin "object.__setattr__")))
    (ga_BadRow : PySem.W.findIn K (.ref C_BadRow) "__getattribute__" = some (some (.builtin "BaseException.__getattribute__")))
    (gg_BadRow : PySem.W.findIn K (.ref C_BadRow) "__getattr__" = some none)
    (no_BadRow_index : PySem.W.findIn K (.ref C_BadRow) "index" = some none)
    (iC_BadRow : PySem.W.findIn K (.ref C_BadRow) "__init__" = some (some (.ref fI_BadRow)))
    (tC_BadRow : PySem.W.typeIn K (.ref fI_BadRow) = some (.type "function"))
    (lI_BadRow : K.lookup fI_BadRow = some ⟨oc_BadRow, od_BadRow, .func (PySem.W.ksFn "__init__" "BadRow.__init__" (iA1 "index" ⟨6, 17, 6, 21⟩ ⟨6, 23, 6, 28⟩) [iSup "row is not right" ⟨7, 8, 7, 13⟩ ⟨7, 8, 7, 15⟩ ⟨7, 8, 7, 24⟩ ⟨7, 25, 7, 43⟩ ⟨7, 8, 7, 44⟩ ⟨7, 8, 7, 44⟩, iSet "index" ⟨8, 8, 8, 12⟩ ⟨8, 8, 8, 18⟩ ⟨8, 21, 8, 26⟩ ⟨8, 8, 8, 26⟩] (iSc ["index"]) .none .none dc_BadRow pm_BadRow an_BadRow (.ref cda_BadRow) ct_BadRow cc_BadRow), sl_BadRow⟩)
    (cI_BadRow : PySem.W.codeIn K (.ref cda_BadRow) "BadRow.__init__" = true)
    (ce_BadRow : K.lookup cc_BadRow = some ⟨cl_BadRow, cld_BadRow, .cell (some (.ref C_BadRow)), csl_BadRow⟩)
    (co_BadRow : K.lookup cda_BadRow = some ⟨ccl_BadRow, cdd_BadRow, .fields vs_BadRow, ccs_BadRow⟩)
    (v2_BadRow : vs_BadRow[2]? = some (.str file_BadRow tf_BadRow))
    (fi_BadRow : ((P.main.file : Str) == file_BadRow) = true)
    (sC_BadRow : PySem.W.mroIn K C_BadRow (.ref C_BadRow) = some true)
    (sB_BadRow : PySem.W.subIn K (.ref C_BadRow) (.type "ValueError") = some true)
    (su_BadRow : PySem.W.ks_superIn K C_BadRow C_BadRow "__init__" = some (some (.builtin "ValueError.__init__")))
    (kC_BadRow : PySem.W.keepIn K (.ref C_BadRow) = true)
    (kc_BadRow : PySem.W.findIn K (.ref C_BadRow) "__class__" = some (some (.builtin "object.__class__")))
    (ko_BadRow : PySem.W.mroIn K C_BadRow (.type "object") = some true)
    (aC_BadStep : PySem.W.nsIn K mainGlobals "BadStep" = some (some (.ref C_BadStep)))
    (ex_BadStep : PySem.W.subIn K (.ref C_BadStep) (.type "BaseException") = some true)
    (ty_BadStep : PySem.W.typeIn K (.ref C_BadStep) = some (.type "type"))
    (hd_BadStep : PySem.W.hasDictIn K C_BadStep = true)
    (xL_BadStep : K.lookup C_BadStep = some (excClassObj nm_BadStep q_BadStep C_BadStep N_BadStep bs_BadStep bm_BadStep true sn_BadStep sub_BadStep ab_BadStep col_BadStep dd_BadStep m0_BadStep m1_BadStep m2_BadStep m3_BadStep m5_BadStep "ValueError.__new__"))
    (vb_BadStep : PySem.HandSPX.refsVE bm_BadStep = true)
    (sa_BadStep : PySem.W.findIn K (.ref C_BadStep) "__setattr__" = some (some (.builtin "object.__setattr__")))
    (ga_BadStep : PySem.W.findIn K (.ref C_BadStep) "__getattribute__" = some (some (.builtin "BaseException.__getattribute__")))
    (gg_BadStep : PySem.W.findIn K (.ref C_BadStep) "__getattr__" = some none)
    (no_BadStep_index : PySem.W.findIn K (.ref C_BadStep) "index" = some none)
    (iC_BadStep : PySem.W.findIn K (.ref C_BadStep) "__init__" = some (some (.ref fI_BadStep)))
    (tC_BadStep : PySem.W.typeIn K (.ref fI_BadStep) = some (.type "function"))
    (lI_BadStep : K.lookup fI_BadStep = some ⟨oc_BadStep, od_BadStep, .func (PySem.W.ksFn "__init__" "BadStep.__init__" (iA1 "index" ⟨11, 17, 11, 21⟩ ⟨11, 23, 11, 28⟩) [iSup "step is not right" ⟨12, 8, 12, 13⟩ ⟨12, 8, 12, 15⟩ ⟨12, 8, 12, 24⟩ ⟨12, 25, 12, 44⟩ ⟨12, 8, 12, 45⟩ ⟨12, 8, 12, 45⟩, iSet "index" ⟨13, 8, 13, 12⟩ ⟨13, 8, 13, 18⟩ ⟨13, 21, 13, 26⟩ ⟨13, 8, 13, 26⟩] (iSc ["index"]) .none .none dc_BadStep pm_BadStep an_BadStep (.ref cda_BadStep) ct_BadStep cc_BadStep), sl_BadStep⟩)
    (cI_BadStep : PySem.W.codeIn K (.ref cda_BadStep) "BadStep.__init__" = true)
    (ce_BadStep : K.lookup cc_BadStep = some ⟨cl_BadStep, cld_BadStep, .cell (some (.ref C_BadStep)), csl_BadStep⟩)
    (co_BadStep : K.lookup cda_BadStep = some ⟨ccl_BadStep, cdd_BadStep, .fields vs_BadStep, ccs_BadStep⟩)
    (v2_BadStep : vs_BadStep[2]? = some (.str file_BadStep tf_BadStep))
    (fi_BadStep : ((P.main.file : Str) == file_BadStep) = true)
    (sC_BadStep : PySem.W.mroIn K C_BadStep (.ref C_BadStep) = some true)
    (sB_BadStep : PySem.W.subIn K (.ref C_BadStep) (.type "ValueError") = some true)
    (su_BadStep : PySem.W.ks_superIn K C_BadStep C_BadStep "__init__" = some (some (.builtin "ValueError.__init__")))
    (kC_BadStep : PySem.W.keepIn K (.ref C_BadStep) = true)
    (kc_BadStep : PySem.W.findIn K (.ref C_BadStep) "__class__" = some (some (.builtin "object.__class__")))
    (ko_BadStep : PySem.W.mroIn K C_BadStep (.type "object") = some true)
    (sb_BadRow_BadRow : PySem.W.subIn K (.ref C_BadRow) (.ref C_BadRow) = some true)
    (sb_BadStep_BadRow : PySem.W.subIn K (.ref C_BadStep) (.ref C_BadRow) = some false)
    (sb_BadRow_BadStep : PySem.W.subIn K (.ref C_BadRow) (.ref C_BadStep) = some false)
    (sb_BadStep_BadStep : PySem.W.subIn K (.ref C_BadStep) (.ref C_BadStep) = some true)
    (sb_BadRow_LookerError : PySem.W.subIn K (.ref C_BadRow) (.ref C_LookerError) = some true)
    (sb_BadStep_LookerError : PySem.W.subIn K (.ref C_BadStep) (.ref C_LookerError) = some true)
    (sb_BadRow_ValueError : PySem.W.subIn K (.ref C_BadRow) (.type "ValueError") = some true)
    (sb_BadStep_ValueError : PySem.W.subIn K (.ref C_BadStep) (.type "ValueError") = some true)
    : ∃ fd : FuncData, (∀ (s : Shared) (v : Value), BindsTo s fd ⟨[v], []⟩ [("_law_script", v)]) ∧ ∀ base : Heap, K.In base → base.Ns mainGlobals mg → FnOk P w K mg base (L2.CX P w) 72 fa fd ["_law_script"] (spLaw K) := by
  have e := hfa.symm.trans (PySem.W.mg_of X G a21)
  cases e
  have cK_Certificate : Cls K C_Certificate := ⟨pg_Certificate, hd_Certificate, po_Certificate, sa_Certificate⟩
  have T : Txt P w K mg := {
    mt_Certificate___init__ := ⟨C_Certificate, f0, _, aK_Certificate, PySem.W.mg_of X G aK_Certificate, cK_Certificate, ⟨a0, if0, k0⟩, fi0, sf_Certificate, fun_mk (st := s_Certificate___init__) l0 c0 k0⟩
    mt_Certificate_given := ⟨C_Certificate, p1, f1, _, _, _, PySem.W.mg_of X G aK_Certificate, ⟨rd_Certificate, gt_Certificate⟩, tc_Certificate, a1, pc1, fun_mk (st := s_Certificate_given) l1 c1 k1⟩
    mt_Certificate_theory := ⟨C_Certificate, p2, f2, _, _, _, PySem.W.mg_of X G aK_Certificate, ⟨rd_Certificate, gt_Certificate⟩, tc_Certificate, a2, pc2, fun_mk (st := s_Certificate_theory) l2 c2 k2⟩
    mt_Certificate_last := ⟨C_Certificate, p3, f3, _, aK_Certificate, cK_Certificate, ⟨a3, pa3, pb3, ⟨_, pc3⟩⟩, fun_mk (st := s_Certificate_last) l3 c3 k3⟩
    mt_Certificate___len__ := ⟨C_Certificate, f4, _, aK_Certificate, PySem.W.mg_of X G aK_Certificate, cK_Certificate, ⟨a4, if4, k4⟩, fi4, sf_Certificate, fun_mk (st := s_Certificate___len__) l4 c4 k4⟩
    mt_Certificate___getitem__ := ⟨C_Certificate, f6, _, aK_Certificate, PySem.W.mg_of X G aK_Certificate, cK_Certificate, ⟨a6, if6, k6⟩, fi6, sf_Certificate, fun_mk (st := s_Certificate___getitem__) l6 c6 k6⟩
    mt_Certificate___eq__ := ⟨C_Certificate, f7, _, aK_Certificate, PySem.W.mg_of X G aK_Certificate, cK_Certificate, ⟨a7, if7, k7⟩, fi7, sf_Certificate, fun_mk (st := s_Certificate___eq__) l7 c7 k7⟩
    mt_Certificate___add__ := ⟨C_Certificate, f11, _, aK_Certificate, PySem.W.mg_of X G aK_Certificate, cK_Certificate, ⟨a11, if11, k11⟩, fi11, sf_Certificate, fun_mk (st := s_Certificate___add__) l11 c11 k11⟩
    mt_Certificate_resolve := ⟨C_Certificate, f12, _, aK_Certificate, PySem.W.mg_of X G aK_Certificate, cK_Certificate, ⟨a12, if12, k12⟩, fi12, sf_Certificate, fun_mk (st := s_Certificate_resolve) l12 c12 k12⟩
    mt_Certificate___iter__ := ⟨C_Certificate, f22, _, aK_Certificate, PySem.W.mg_of X G aK_Certificate, cK_Certificate, ⟨a22, if22, k22⟩, fi22, sf_Certificate, fun_mk (st := s_Certificate___iter__) l22 c22 k22⟩
    fld_Certificate_rows := fun c hc C hC => by rcases List.mem_singleton.mp hc with rfl; cases ClsAt.fn hC aK_Certificate; exact ⟨cK_Certificate, nf_Certificate_rows⟩
    mkr_Certificate := fun C hC => by cases ClsAt.fn hC aK_Certificate; exact ⟨mk1_Certificate, mk2_Certificate⟩
    neq_Certificate := fun C hC => by cases ClsAt.fn hC aK_Certificate; exact ⟨ne1_Certificate, ne2_Certificate⟩
    isc_Certificate := ⟨C_Certificate, aK_Certificate, PySem.W.mg_of X G aK_Certificate, ⟨cK_Certificate, ic1_Certificate, ic2_Certificate, ic3_Certificate, ic4_Certificate, kit_ref hd_Certificate ic5_Certificate ic6_Certificate (fun _ => rfl)⟩⟩
    fx_is_whole := ⟨_, _, fun_mk (st := s_is_whole) l5 c5 k5, PySem.W.mg_of X G a5⟩
    fx_is_integer := ⟨_, _, fun_mk (st := s_is_integer) l8 c8 k8, PySem.W.mg_of X G a8⟩
    fx_is_resolve_row := ⟨_, _, fun_mk (st := s_is_resolve_row) l9 c9 k9, PySem.W.mg_of X G a9⟩
    fx_moved_row := ⟨_, _, fun_mk (st := s_moved_row) l10 c10 k10, PySem.W.mg_of X G a10⟩
    fx__law_state := ⟨_, _, fun_mk (st := s__law_state) l13 c13 k13, PySem.W.mg_of X G a13⟩
    fx__law_draw := ⟨_, _, fun_mk (st := s__law_draw) l14 c14 k14, PySem.W.mg_of X G a14⟩
    fx__law_alike := ⟨_, _, fun_mk (st := s__law_alike) l15 c15 k15, PySem.W.mg_of X G a15⟩
    fx__law_value := ⟨_, _, fun_mk (st := s__law_value) l16 c16 k16, PySem.W.mg_of X G a16⟩
    fx__law_is_whole := ⟨_, _, fun_mk (st := s__law_is_whole) l17 c17 k17, PySem.W.mg_of X G a17⟩
    fx__law_moved := ⟨_, _, fun_mk (st := s__law_moved) l18 c18 k18, PySem.W.mg_of X G a18⟩
    fx__law_item := ⟨_, _, fun_mk (st := s__law_item) l19 c19 k19, PySem.W.mg_of X G a19⟩
    fx__law_is := ⟨_, _, fun_mk (st := s__law_is) l20 c20 k20, PySem.W.mg_of X G a20⟩
    fx_law := ⟨_, _, fun_mk (st := s_law) l21 c21 k21, PySem.W.mg_of X G a21⟩
    m_bool := PySem.W.mg_none_of X G z_bool
    m_int := PySem.W.mg_none_of X G z_int
    m_isinstance := PySem.W.mg_none_of X G z_isinstance
    m_iter := PySem.W.mg_none_of X G z_iter
    m_len := PySem.W.mg_none_of X G z_len
    m_list := PySem.W.mg_none_of X G z_list
    m_range := PySem.W.mg_none_of X G z_range
    m_str := PySem.W.mg_none_of X G z_str
    m_tuple := PySem.W.mg_none_of X G z_tuple
    errs := by
      intro e he
      simp only [List.mem_cons, List.not_mem_nil, or_false] at he
      rcases he with rfl | rfl
      · exact ⟨C_BadRow, err1_mk (w := w) (C := C_BadRow) (fI := fI_BadRow) (cc := cc_BadRow) (cda := cda_BadRow) ⟨⟨_, _, _, _, _, _, _, _, _, _, _, _, _, _, _, xL_BadRow, vb_BadRow⟩, sa_BadRow, iC_BadRow, tC_BadRow, ⟨_, _, _, ce_BadRow⟩, ⟨_, _, _, _, _, _, co_BadRow, v2_BadRow, fi_BadRow⟩, top, sC_BadRow, sB_BadRow, o_any, su_BadRow⟩ (PySem.W.mg_of X G aC_BadRow) (PySem.W.mg_none_of X G z_super) (fun _ _ _ _ _ => rfl) (by decide) (by decide) no_BadRow_index (by decide) (by decide) (fun _ _ => rfl) (fun _ _ _ _ _ _ => rfl) ⟨_, _, _, _, _, _, _, lI_BadRow⟩ cI_BadRow ga_BadRow gg_BadRow kC_BadRow ex_BadRow ty_BadRow hd_BadRow⟩
      · exact ⟨C_BadStep, err1_mk (w := w) (C := C_BadStep) (fI := fI_BadStep) (cc := cc_BadStep) (cda := cda_BadStep) ⟨⟨_, _, _, _, _, _, _, _, _, _, _, _, _, _, _, xL_BadStep, vb_BadStep⟩, sa_BadStep, iC_BadStep, tC_BadStep, ⟨_, _, _, ce_BadStep⟩, ⟨_, _, _, _, _, _, co_BadStep, v2_BadStep, fi_BadStep⟩, top, sC_BadStep, sB_BadStep, o_any, su_BadStep⟩ (PySem.W.mg_of X G aC_BadStep) (PySem.W.mg_none_of X G z_super) (fun _ _ _ _ _ => rfl) (by decide) (by decide) no_BadStep_index (by decide) (by decide) (fun _ _ => rfl) (fun _ _ _ _ _ _ => rfl) ⟨_, _, _, _, _, _, _, lI_BadStep⟩ cI_BadStep ga_BadStep gg_BadStep kC_BadStep ex_BadStep ty_BadStep hd_BadStep⟩
    kito := ⟨kn, kt⟩
    kitc := by
      intro e he
      simp only [List.mem_cons, List.not_mem_nil, or_false] at he
      rcases he with rfl | rfl
      · exact ⟨fun C hC => by cases hC.symm.trans (PySem.W.mg_of X G aC_BadRow); obtain ⟨cd, hc, _⟩ := PySem.W.any_some hd_BadRow; exact ⟨kc_BadRow, ko_BadRow, by rw [hc]; rfl⟩⟩
      · exact ⟨fun C hC => by cases hC.symm.trans (PySem.W.mg_of X G aC_BadStep); obtain ⟨cd, hc, _⟩ := PySem.W.any_some hd_BadStep; exact ⟨kc_BadStep, ko_BadStep, by rw [hc]; rfl⟩⟩
    cl_LookerError := by
      refine ⟨C_LookerError, PySem.W.mg_of X G aC_LookerError, ?_⟩
      intro e he
      simp only [List.mem_cons, List.not_mem_nil, or_false] at he
      rcases he with rfl | rfl
      · exact fun C hC => by cases hC.symm.trans (PySem.W.mg_of X G aC_BadRow); exact PySem.W.exm_ref ex_LookerError hd_LookerError ty_LookerError sb_BadRow_LookerError
      · exact fun C hC => by cases hC.symm.trans (PySem.W.mg_of X G aC_BadStep); exact PySem.W.exm_ref ex_LookerError hd_LookerError ty_LookerError sb_BadStep_LookerError
    ki_BadRow := by
      refine ⟨C_BadRow, PySem.W.mg_of X G aC_BadRow, ?_⟩
      intro e he
      simp only [List.mem_cons, List.not_mem_nil, or_false] at he
      rcases he with rfl | rfl
      · exact fun C hC => by cases hC.symm.trans (PySem.W.mg_of X G aC_BadRow); exact kit_ref hd_BadRow ty_BadRow sb_BadRow_BadRow (fun z => by first | rfl | (cases z; exact absurd (sb_BadRow_BadRow.symm.trans sb_BadRow_BadRow) (by decide)))
      · exact fun C hC => by cases hC.symm.trans (PySem.W.mg_of X G aC_BadStep); exact kit_ref hd_BadRow ty_BadRow sb_BadStep_BadRow (fun z => by first | rfl | (cases z; exact absurd (sb_BadStep_BadRow.symm.trans sb_BadRow_BadRow) (by decide)))
    ki_BadStep := by
      refine ⟨C_BadStep, PySem.W.mg_of X G aC_BadStep, ?_⟩
      intro e he
      simp only [List.mem_cons, List.not_mem_nil, or_false] at he
      rcases he with rfl | rfl
      · exact fun C hC => by cases hC.symm.trans (PySem.W.mg_of X G aC_BadRow); exact kit_ref hd_BadStep ty_BadStep sb_BadRow_BadStep (fun z => by first | rfl | (cases z; exact absurd (sb_BadRow_BadStep.symm.trans sb_BadStep_BadStep) (by decide)))
      · exact fun C hC => by cases hC.symm.trans (PySem.W.mg_of X G aC_BadStep); exact kit_ref hd_BadStep ty_BadStep sb_BadStep_BadStep (fun z => by first | rfl | (cases z; exact absurd (sb_BadStep_BadStep.symm.trans sb_BadStep_BadStep) (by decide)))
    kb_ValueError := by
      refine ⟨PySem.W.mg_none_of X G z_ValueError, ?_⟩
      intro e he
      simp only [List.mem_cons, List.not_mem_nil, or_false] at he
      rcases he with rfl | rfl
      · exact fun C hC => by cases hC.symm.trans (PySem.W.mg_of X G aC_BadRow); exact kit_ty (by decide +kernel) sb_BadRow_ValueError
      · exact fun C hC => by cases hC.symm.trans (PySem.W.mg_of X G aC_BadStep); exact kit_ty (by decide +kernel) sb_BadStep_ValueError
  }
  exact ⟨_, fun s v => .of_eq rfl, fun base _ _ => law_fn law_pure (ok_all T (fun_mk (st := s_law) l21 c21 k21))⟩
end Gn
open PySem PySem.W PyProof.Rows
set_option maxHeartbeats 0 in
theorem PySem.Challenge.cw_onelooker_k28_sums_of_certificates_holds : PySem.Challenge.rw_onelooker_k28_sums_of_certificates.Holds := by
  w_on; o_law; k_head; (case hw => w_witness2)
  k_fill
  refine L2.walk_of (l := PySem.Challenge.rw_onelooker_k28_sums_of_certificates) (n := 63) (k := 72) (x := "_law_script") (CX := fun w => L2.CX (PySem.Challenge.rw_onelooker_k28_sums_of_certificates).prog w) (sp := fun w => LL.spLaw _) rfl (by decide) rfl ⟨rfl, by decide, by decide⟩ (fun w h Y => PySem.W.kIn_of Y) ?F (fun _ _ a ns hl _ hS => ⟨a, ns, rfl, hl, hS, fun _ _ e => e⟩) (fun _ _ _ _ _ h => LL.cx_no h)
  case F =>
    intro w mg fa h KX G hmg
    refine' Gn.all_mk KX G hmg ?aK_Certificate ?pg_Certificate ?hd_Certificate ?po_Certificate ?sa_Certificate ?sf_Certificate ?nf_Certificate_rows ?mk1_Certificate ?mk2_Certificate ?ne1_Certificate ?ne2_Certificate ?ic1_Certificate ?ic2_Certificate ?ic3_Certificate ?ic4_Certificate ?ic5_Certificate ?ic6_Certificate ?rd_Certificate ?gt_Certificate ?tc_Certificate ?a0 ?l0 ?c0 ?k0 ?if0 ?fi0 ?a1 ?pc1 ?l1 ?c1 ?k1 ?a2 ?pc2 ?l2 ?c2 ?k2 ?a3 ?pa3 ?pb3 ?pc3 ?l3 ?c3 ?k3 ?a4 ?l4 ?c4 ?k4 ?if4 ?fi4 ?a6 ?l6 ?c6 ?k6 ?if6 ?fi6 ?a7 ?l7 ?c7 ?k7 ?if7 ?fi7 ?a11 ?l11 ?c11 ?k11 ?if11 ?fi11 ?a12 ?l12 ?c12 ?k12 ?if12 ?fi12 ?a22 ?l22 ?c22 ?k22 ?if22 ?fi22 ?a5 ?l5 ?c5 ?k5 ?a8 ?l8 ?c8 ?k8 ?a9 ?l9 ?c9 ?k9 ?a10 ?l10 ?c10 ?k10 ?a13 ?l13 ?c13 ?k13 ?a14 ?l14 ?c14 ?k14 ?a15 ?l15 ?c15 ?k15 ?a16 ?l16 ?c16 ?k16 ?a17 ?l17 ?c17 ?k17 ?a18 ?l18 ?c18 ?k18 ?a19 ?l19 ?c19 ?k19 ?a20 ?l20 ?c20 ?k20 ?a21 ?l21 ?c21 ?k21 ?z_bool ?z_int ?z_isinstance ?z_iter ?z_len ?z_list ?z_range ?z_str ?z_tuple ?z_ValueError ?z_super ?o_any ?top ?kn ?kt ?aC_LookerError ?ex_LookerError ?ty_LookerError ?hd_LookerError ?aC_BadRow ?ex_BadRow ?ty_BadRow ?hd_BadRow ?xL_BadRow ?vb_BadRow ?sa_BadRow ?ga_BadRow ?gg_BadRow ?no_BadRow_index ?iC_BadRow ?tC_BadRow ?lI_BadRow ?cI_BadRow ?ce_BadRow ?co_BadRow ?v2_BadRow ?fi_BadRow ?sC_BadRow ?sB_BadRow ?su_BadRow ?kC_BadRow ?kc_BadRow ?ko_BadRow ?aC_BadStep ?ex_BadStep ?ty_BadStep ?hd_BadStep ?xL_BadStep ?vb_BadStep ?sa_BadStep ?ga_BadStep ?gg_BadStep ?no_BadStep_index ?iC_BadStep ?tC_BadStep ?lI_BadStep ?cI_BadStep ?ce_BadStep ?co_BadStep ?v2_BadStep ?fi_BadStep ?sC_BadStep ?sB_BadStep ?su_BadStep ?kC_BadStep ?kc_BadStep ?ko_BadStep ?sb_BadRow_BadRow ?sb_BadStep_BadRow ?sb_BadRow_BadStep ?sb_BadStep_BadStep ?sb_BadRow_LookerError ?sb_BadStep_LookerError ?sb_BadRow_ValueError ?sb_BadStep_ValueError
    (case aK_Certificate => k_is)
    (case pg_Certificate => k_is)
    (case hd_Certificate => k_is)
    (case po_Certificate => k_is)
    (case sa_Certificate => k_is)
    (case sf_Certificate => k_is)
    (case nf_Certificate_rows => k_is)
    (case mk1_Certificate => k_is)
    (case mk2_Certificate => k_is)
    (case ne1_Certificate => k_is)
    (case ne2_Certificate => k_is)
    (case ic1_Certificate => k_is)
    (case ic2_Certificate => k_is)
    (case ic3_Certificate => k_is)
    (case ic4_Certificate => k_is)
    (case ic5_Certificate => k_is)
    (case ic6_Certificate => k_is)
    (case rd_Certificate => k_is)
    (case gt_Certificate => k_is)
    (case tc_Certificate => k_is)
    (case a0 => k_is)
    (case l0 => k_is)
    (case c0 => k_is)
    (case k0 => k_is)
    (case if0 => k_is)
    (case fi0 => k_is)
    (case a1 => k_is)
    (case pc1 => k_is)
    (case l1 => k_is)
    (case c1 => k_is)
    (case k1 => k_is)
    (case a2 => k_is)
    (case pc2 => k_is)
    (case l2 => k_is)
    (case c2 => k_is)
    (case k2 => k_is)
    (case a3 => k_is)
    (case pa3 => k_is)
    (case pb3 => k_is)
    (case pc3 => k_is)
    (case l3 => k_is)
    (case c3 => k_is)
    (case k3 => k_is)
    (case a4 => k_is)
    (case l4 => k_is)
    (case c4 => k_is)
    (case k4 => k_is)
    (case if4 => k_is)
    (case fi4 => k_is)
    (case a6 => k_is)
    (case l6 => k_is)
    (case c6 => k_is)
    (case k6 => k_is)
    (case if6 => k_is)
    (case fi6 => k_is)
    (case a7 => k_is)
    (case l7 => k_is)
    (case c7 => k_is)
    (case k7 => k_is)
    (case if7 => k_is)
    (case fi7 => k_is)
    (case a11 => k_is)
    (case l11 => k_is)
    (case c11 => k_is)
    (case k11 => k_is)
    (case if11 => k_is)
    (case fi11 => k_is)
    (case a12 => k_is)
    (case l12 => k_is)
    (case c12 => k_is)
    (case k12 => k_is)
    (case if12 => k_is)
    (case fi12 => k_is)
    (case a22 => k_is)
    (case l22 => k_is)
    (case c22 => k_is)
    (case k22 => k_is)
    (case if22 => k_is)
    (case fi22 => k_is)
    (case a5 => k_is)
    (case l5 => k_is)
    (case c5 => k_is)
    (case k5 => k_is)
    (case a8 => k_is)
    (case l8 => k_is)
    (case c8 => k_is)
    (case k8 => k_is)
    (case a9 => k_is)
    (case l9 => k_is)
    (case c9 => k_is)
    (case k9 => k_is)
    (case a10 => k_is)
    (case l10 => k_is)
    (case c10 => k_is)
    (case k10 => k_is)
    (case a13 => k_is)
    (case l13 => k_is)
    (case c13 => k_is)
    (case k13 => k_is)
    (case a14 => k_is)
    (case l14 => k_is)
    (case c14 => k_is)
    (case k14 => k_is)
    (case a15 => k_is)
    (case l15 => k_is)
    (case c15 => k_is)
    (case k15 => k_is)
    (case a16 => k_is)
    (case l16 => k_is)
    (case c16 => k_is)
    (case k16 => k_is)
    (case a17 => k_is)
    (case l17 => k_is)
    (case c17 => k_is)
    (case k17 => k_is)
    (case a18 => k_is)
    (case l18 => k_is)
    (case c18 => k_is)
    (case k18 => k_is)
    (case a19 => k_is)
    (case l19 => k_is)
    (case c19 => k_is)
    (case k19 => k_is)
    (case a20 => k_is)
    (case l20 => k_is)
    (case c20 => k_is)
    (case k20 => k_is)
    (case a21 => k_is)
    (case l21 => k_is)
    (case c21 => k_is)
    (case k21 => k_is)
    (case z_bool => k_is)
    (case z_int => k_is)
    (case z_isinstance => k_is)
    (case z_iter => k_is)
    (case z_len => k_is)
    (case z_list => k_is)
    (case z_range => k_is)
    (case z_str => k_is)
    (case z_tuple => k_is)
    (case z_ValueError => k_is)
    (case z_super => k_is)
    (case o_any => k_is)
    (case top => decide +kernel)
    (case kn => k_is)
    (case kt => k_is)
    (case aC_LookerError => k_is)
    (case ex_LookerError => k_is)
    (case ty_LookerError => k_is)
    (case hd_LookerError => k_is)
    (case aC_BadRow => k_is)
    (case ex_BadRow => k_is)
    (case ty_BadRow => k_is)
    (case hd_BadRow => k_is)
    (case xL_BadRow => k_is)
    (case vb_BadRow => rfl)
    (case sa_BadRow => k_is)
    (case ga_BadRow => k_is)
    (case gg_BadRow => k_is)
    (case no_BadRow_index => k_is)
    (case iC_BadRow => k_is)
    (case tC_BadRow => k_is)
    (case lI_BadRow => k_is)
    (case cI_BadRow => k_is)
    (case ce_BadRow => k_is)
    (case co_BadRow => k_is)
    (case v2_BadRow => rfl)
    (case fi_BadRow => decide +kernel)
    (case sC_BadRow => k_is)
    (case sB_BadRow => k_is)
    (case su_BadRow => ks_is)
    (case kC_BadRow => k_is)
    (case kc_BadRow => k_is)
    (case ko_BadRow => k_is)
    (case aC_BadStep => k_is)
    (case ex_BadStep => k_is)
    (case ty_BadStep => k_is)
    (case hd_BadStep => k_is)
    (case xL_BadStep => k_is)
    (case vb_BadStep => rfl)
    (case sa_BadStep => k_is)
    (case ga_BadStep => k_is)
    (case gg_BadStep => k_is)
    (case no_BadStep_index => k_is)
    (case iC_BadStep => k_is)
    (case tC_BadStep => k_is)
    (case lI_BadStep => k_is)
    (case cI_BadStep => k_is)
    (case ce_BadStep => k_is)
    (case co_BadStep => k_is)
    (case v2_BadStep => rfl)
    (case fi_BadStep => decide +kernel)
    (case sC_BadStep => k_is)
    (case sB_BadStep => k_is)
    (case su_BadStep => ks_is)
    (case kC_BadStep => k_is)
    (case kc_BadStep => k_is)
    (case ko_BadStep => k_is)
    (case sb_BadRow_BadRow => k_is)
    (case sb_BadStep_BadRow => k_is)
    (case sb_BadRow_BadStep => k_is)
    (case sb_BadStep_BadStep => k_is)
    (case sb_BadRow_LookerError => k_is)
    (case sb_BadStep_LookerError => k_is)
    (case sb_BadRow_ValueError => k_is)
    (case sb_BadStep_ValueError => k_is)

