import PyProof.Rows.All
import Wide.All
import OpenK.AllK
import Wide.FinOn
import HandS.Base
import HandS.Call
import HandS.List
import HandS.TupAny
import HandS.Ends
import HandS.More
import HandS.Words
import KE.KIndexOf
import KE.KRevSl
import HandS.ForMost
import HandS.Star
import HandS.Zip
import HandS.Style
import HandS.SortInts
import HandS.IsInst
import HandS.Conv
import HandS.Wide
import HandS.Evl
import HandS.Lambda
import KE.DataMinMax
import KE.DataAny
import KE.DataEq
import HandS.Strs
import HandS.Text
import HandS.Dict
import KE.GoesMore
import KE.GoesEnum
import HandS.Iter
import HandS.HeadHook1
import HandS.RaiseMore
import KE.SortData
import KE.SortLaws
import KE.SortKeyHeap
import HandS.EndTab
import HandS.HeadHook4
import HandS.SetFor
import HandS.TupMul
import KE.GoesZip
import PySem.Challenge.RW_reeledeven_k22_strands_laid_and_spans_at
import KE.Datum
import KE.DatumOrd
import KE.DatumMore
import HandS.HeadWalk
import HandS.Head0
import HandS.Head1
import HandS.Head2
import HandS.HeadEnd
import HandS.HeadHook2
import HandS.HeadNt
set_option Elab.async false
set_option linter.all false
set_option maxRecDepth 100000
set_option maxHeartbeats 2000000
/-! DLTup: tuples known to have no dict of their own, from their making on. -/
namespace DL
open PySem PySem.Spec PyProof.Rows L2
/-- a tuple that is known to the letter -/
def Tp (H : Hp) (a : Addr) (xs : List V) : Prop := ∃ o : Obj, H a = some (.frz o (.tup xs)) ∧ o.dict = none
theorem Tp.sq {K : PySem.W.Frag} {H : Hp} {a : Addr} {xs : List V} (h : Tp H a xs) : SqT K H a xs := by
  obtain ⟨o, h, _⟩ := h
  exact .inl (.inr ⟨o, h⟩)
/-- a new one -/
def newT (Q : VK) (H : Hp) (xs : List V) : Prop := ∀ p o, H p = none → Obj.dict o = none → Q (.ref p) (upd H p (.frz o (.tup xs)))
section
variable {X : Cx} {pins : List (Addr × Obj)} {σ : L2.St} {H : Hp} {s : Shared} {Q : VK}
theorem new_tup (I : Inv X pins σ H s) {xs : List V} {us : List Value} (r : Vals xs us) (z : xs.length ≤ sizeLine) (q : newT Q H xs) :
    EP X pins σ Q (.ref s.heap.objs.size) { s with heap := s.heap.push { cls := .type "tuple", data := .seq us.toArray } } := by
  refine ⟨.ref s.heap.objs.size, _, I.laid (t' := s.toks) (o := .frz { cls := .type "tuple", data := .seq us.toArray } (.tup xs)) (fun b u e => Heap.get?_push_of_some _ e) (Nat.le_refl _) ?_, rfl, q _ _ (I.hok.fresh (Nat.le_refl _)) rfl⟩
  exact ⟨Heap.get?_push_size _ rfl, z, us, r, IsTup.new _ _⟩
def tTupP (t : TA) : TE := fun σ H Q => t σ H fun xs H1 => xs.length ≤ sizeLine ∧ newT Q H1 xs
theorem pe_tupP {es : List Expr} {t : TA} {x1 : Nat} {pos : Pos} (h : PA X es t) : PE X (.Tuple es x1 pos) (tTupP t) := by
  refine ⟨fun pins s σ H Q I hq => ?_⟩
  refine wpAny_Tuple_spliced (thn (h.run pos pins s σ H _ I hq) fun us s1 ⟨xs, H1, I1, r, z, q⟩ => ⟨by rw [← r.length]; exact z, ?_⟩)
  exact new_tup I1 r z q
theorem call_tupleP : CallR X (.type "tuple") (fun xs H Q => ∃ p ys, xs = [.ref p] ∧ ((SqL X.K H p ys ∧ newT Q H ys) ∨ (SqT X.K H p ys ∧ Q (.ref p) H))) := by
  intro pins s σ H xs us Q I r ⟨p, ys, hx, h⟩
  subst hx
  obtain ⟨u, rfl, rx⟩ := vals1 r
  cases rx
  rcases h with ⟨hq, q⟩ | ⟨hq, q⟩
  · obtain ⟨its, r', pl, hz⟩ := I.list hq
    have hlen := r'.length
    refine call_tuple_list pl.isList (fun h' kp => ?_) (by simp only [List.size_toArray] <;> omega)
    have I1 : Inv X pins σ H { s with heap := h' } := I.kept (t' := s.toks) kp
    exact new_tup I1 r' hz q
  · obtain ⟨its, r', pl, hz⟩ := I.tuple hq
    exact call_tuple_same pl ⟨.ref p, H, I, rfl, q⟩
def rSlP (K : PySem.W.Frag) : V → Option Int → Option Int → Hp → VK → Prop := fun x lo hi H Q => ∃ a xs, x = .ref a ∧ SqT K H a xs ∧
  (HT.sIx xs.length 0 lo = 0 ∧ HT.sIx xs.length xs.length hi = xs.length → Q (.ref a) H) ∧ (¬ (HT.sIx xs.length 0 lo = 0 ∧ HT.sIx xs.length xs.length hi = xs.length) → newT Q H (cutV xs lo hi))
theorem sl_tupP : SlR X (rSlP X.K) := by
  intro pins s σ H x v vl vu lo hi sl Q I rx hs pl pu ⟨a, xs, ex, hx, q1, q2⟩
  subst ex
  cases rx
  obtain ⟨its, r, ht, hz⟩ := I.tuple hx
  have hlen : its.toArray.size = xs.length := by rw [List.size_toArray]; exact r.length.symm
  refine ⟨"tuple", _, PyProof.Rows.slot_tuple_getitem.lookup, ht.typeIs, ?_⟩
  by_cases hw : HT.sIx xs.length 0 lo = 0 ∧ HT.sIx xs.length xs.length hi = xs.length
  · exact getItem_tuple_whole ht hs pl pu (by rw [hlen]; exact hw) ⟨.ref a, H, I, rfl, q1 hw⟩
  · refine HT.getItem_tuple_cut ht hs pl pu (by rw [hlen]; exact hw) ?_ (by rw [hlen]; exact hz)
    rw [hlen]
    exact new_tup I ((r.drop (HT.sIx xs.length 0 lo)).take (HT.sIx xs.length xs.length hi - HT.sIx xs.length 0 lo)) (Nat.le_trans (cutV_length xs lo hi) hz) (q2 hw)
def rCatP (K : PySem.W.Frag) : R2 := fun x y H Q => ∃ a b xs ys, x = .ref a ∧ y = .ref b ∧ SqT K H a xs ∧ SqT K H b ys ∧ xs.length + ys.length ≤ sizeLine ∧
  (xs = [] → Q (.ref b) H) ∧ (xs ≠ [] → ys = [] → Q (.ref a) H) ∧ (xs ≠ [] → ys ≠ [] → newT Q H (xs ++ ys))
theorem op_catP : OpR X (binaryOp .Add) (rCatP X.K) := by
  intro pins s σ H x y v u Q I rx ry ⟨a, b, xs, ys, ex, ey, ha, hb, hz, q0, q1, q2⟩
  subst ex ey
  cases rx
  cases ry
  obtain ⟨its, r1, p1, _⟩ := I.tuple ha
  obtain ⟨its2, r2, p2, _⟩ := I.tuple hb
  by_cases hx : xs = []
  · subst hx
    cases r1
    exact cat_tup0 p1 p2 ⟨.ref b, H, I, rfl, q0 rfl⟩
  · refine HT.cat_tup p1 p2 (fun z => hx (r1.nil_iff.mp z)) (fun z => ⟨.ref a, H, I, rfl, q1 hx (r2.nil_iff.mp z)⟩) (fun z => ?_) (by rw [← r1.length, ← r2.length]; exact hz)
    exact new_tup I (r1.append r2) (by rw [List.length_append]; exact hz) (q2 hx fun w => z (r2.nil_iff.mpr w))
/-! ### t.index(k) -/
def tIndexT (K : PySem.W.Frag) (to te : TE) : TE := fun σ H Q => to σ H fun x H1 => (∃ a xs, x = V.ref a ∧ Tp H1 a xs) ∧ te σ H1 fun y H2 => ∃ (a : Addr) (ns : List Int) (k : Int), x = V.ref a ∧ [y] = [V.int k] ∧ SqT K H2 a (ns.map V.int) ∧ k ∈ ns ∧ Q (.int (ns.idxOf k : Nat)) H2
theorem pe_indexT {o e : Expr} {to te : TE} {apos cpos : Pos} (ho : PE X o to) (he : PE X e te)
    (hbase : attributeBase o "index" X.env (eval o X.env) = eval o X.env := by rfl)
    (hline : (apos.endLine == cpos.line) = true := by rfl) (hs : starEach [e] X.env = [(false, eval e X.env)] := by rfl) :
    PE X (.Call (.Attribute o "index" apos) [e] [] cpos) (tIndexT X.K to te) := by
  refine ⟨fun pins s σ H Q I h => ?_⟩
  refine wpAny_Call_method1_late hbase hline (by rw [hs]; rfl) (thn (ho.run pins s σ H _ I h) fun v s1 ⟨x, H1, I1, r1, ty, q1⟩ => ?_)
  obtain ⟨a, xs, ex, o', hp, hd⟩ := ty
  subst ex
  cases r1
  have ok := I1.hok a _ hp
  obtain ⟨hg, hz, its, rv, p⟩ := (show s1.heap.get? a = some o' ∧ (xs.length ≤ sizeLine ∧ ∃ its : List Value, Vals xs its ∧ IsTup s1.heap a its.toArray) from ok)
  refine ⟨"tuple", _, PySem.F.plainAttrs_tuple, PySem.F.slot_tuple_index, PySem.F.type_tuple_index, p.typeIs, fun b eb => ?_, ?_⟩
  · cases eb
    exact ⟨o', hg, hd⟩
  · refine Calls.callWith_builtin rfl (Calls.evalArgs_plain ?_)
    have hA := (pa_cons he pa_nil hs).run cpos pins s1 σ H1 (fun ys H2 => ∃ (a' : Addr) (ns : List Int) (k : Int), V.ref a = V.ref a' ∧ ys = [V.int k] ∧ SqT X.K H2 a' (ns.map V.int) ∧ k ∈ ns ∧ Q (.int (ns.idxOf k : Nat)) H2) I1 q1
    rw [hs] at hA
    refine thn hA fun us s2 ⟨ys, H2, I2, r2, a', ns, k, ea, ey, hq, hk, q2⟩ => ?_
    cases ea
    subst ey
    obtain ⟨u, rfl, t, rfl⟩ := vals1 r2
    obtain ⟨its2, rv2, p2, _⟩ := I2.tuple hq
    exact PySem.SeqAt.tuple_index_ints p2 rv2.ints hk ⟨.int _, H2, I2.tok _, ⟨_, rfl⟩, q2⟩
end
end DL

set_option Elab.async false
set_option linter.all false
set_option maxRecDepth 100000
set_option maxHeartbeats 2000000
/-! DLCore: a data layer over the hand layer: values as data (PyData), a def's text tied to a Lean function that may fail (its mirror), construct by construct. -/
namespace DL
open PySem PySem.Spec PyProof.Rows L2
abbrev D := PyData
abbrev Ex := Evl.Ex

/-! ### the mirror's monad: it may fail, with a state that is carried -/
def M (S α : Type) := S → Option (α × S)
def P {S α : Type} (a : α) : M S α := fun s => some (a, s)
def B {S α β : Type} (m : M S α) (f : α → M S β) : M S β := fun s => match m s with
  | some (a, s') => f a s'
  | none => none
def fail {S α : Type} : M S α := fun _ => none
def L {S α : Type} (o : Option α) : M S α := fun s => match o with
  | some a => some (a, s)
  | none => none
theorem B_some {S α β : Type} {m : M S α} {f : α → M S β} {s s' : S} {b : β} (h : B m f s = some (b, s')) : ∃ a s1, m s = some (a, s1) ∧ f a s1 = some (b, s') := by
  unfold B at h
  split at h
  · exact ⟨_, _, by assumption, h⟩
  · cases h
theorem BL_some {S α β : Type} {o : Option α} {f : α → M S β} {s s' : S} {b : β} (h : B (L o) f s = some (b, s')) : ∃ a, o = some a ∧ f a s = some (b, s') := by
  cases o with
  | none => cases h
  | some a => exact ⟨a, rfl, h⟩
theorem L_some {S α : Type} {o : Option α} {s s' : S} {a : α} (h : L o s = some (a, s')) : o = some a ∧ s' = s := by
  unfold L at h
  split at h
  · cases h
    exact ⟨rfl, rfl⟩
  · cases h
theorem P_some {S α : Type} {a b : α} {s s' : S} (h : P a s = some (b, s')) : b = a ∧ s' = s := by
  unfold P at h
  cases h
  exact ⟨rfl, rfl⟩

/-! ### what a value is worth -/
def kD : Key → D
  | .inl i => .int i
  | .inr x => .str x
theorem Tp.mono {H H' : Hp} {a : Addr} {xs : List V} (e : Ex H H') (h : Tp H a xs) : Tp H' a xs := let ⟨o, h1, h2⟩ := h; ⟨o, e _ _ h1, h2⟩
theorem Tp.new {H : Hp} {a : Addr} {o : Obj} {xs : List V} (h : o.dict = none) : Tp (upd H a (.frz o (.tup xs))) a xs := ⟨o, upd_same, h⟩
mutual
inductive Rp (H : Hp) : V → D → Prop
  | non : Rp H .non .none
  | bl (b : Bool) : Rp H (.bl b) (.bool b)
  | int (i : Int) : Rp H (.int i) (.int i)
  | str (x : Str) : Rp H (.str x) (.str x)
  | lst {a : Addr} {xs : List V} {ds : List D} : H a = some (.lst xs) → Rps H xs ds → Rp H (.ref a) (.list ds)
  | tup {a : Addr} {xs : List V} {ds : List D} : Tp H a xs → Rps H xs ds → Rp H (.ref a) (.tuple ds)
  | dic {a : Addr} {kvs : List (Key × V)} {ds : List (D × D)} : H a = some (.dK kvs) → Rkv H kvs ds → Rp H (.ref a) (.dict ds)
inductive Rps (H : Hp) : List V → List D → Prop
  | nil : Rps H [] []
  | cons {v : V} {vs : List V} {d : D} {ds : List D} : Rp H v d → Rps H vs ds → Rps H (v :: vs) (d :: ds)
inductive Rkv (H : Hp) : List (Key × V) → List (D × D) → Prop
  | nil : Rkv H [] []
  | cons {k : Key} {v : V} {vs : List (Key × V)} {d : D} {ds : List (D × D)} : Rp H v d → Rkv H vs ds → Rkv H ((k, v) :: vs) ((kD k, d) :: ds)
end
mutual
theorem Rp.mono {H H' : Hp} (e : Ex H H') : ∀ {v : V} {d : D}, Rp H v d → Rp H' v d
  | _, _, .non => .non
  | _, _, .bl b => .bl b
  | _, _, .int i => .int i
  | _, _, .str x => .str x
  | _, _, .lst h r => .lst (e _ _ h) (Rps.mono e r)
  | _, _, .tup h r => .tup (h.mono e) (Rps.mono e r)
  | _, _, .dic h r => .dic (e _ _ h) (Rkv.mono e r)
theorem Rps.mono {H H' : Hp} (e : Ex H H') : ∀ {v : List V} {d : List D}, Rps H v d → Rps H' v d
  | _, _, .nil => .nil
  | _, _, .cons h r => .cons (Rp.mono e h) (Rps.mono e r)
theorem Rkv.mono {H H' : Hp} (e : Ex H H') : ∀ {v : List (Key × V)} {d : List (D × D)}, Rkv H v d → Rkv H' v d
  | _, _, .nil => .nil
  | _, _, .cons h r => .cons (Rp.mono e h) (Rkv.mono e r)
end
theorem Rps.length {H : Hp} : ∀ {vs : List V} {ds : List D}, Rps H vs ds → vs.length = ds.length
  | _, _, .nil => rfl
  | _, _, .cons _ r => by simp [Rps.length r]
theorem Rps.append {H : Hp} : ∀ {vs ws : List V} {ds es : List D}, Rps H vs ds → Rps H ws es → Rps H (vs ++ ws) (ds ++ es)
  | _, _, _, _, .nil, s => s
  | _, _, _, _, .cons h r, s => .cons h (Rps.append r s)
theorem Rps.get {H : Hp} : ∀ {vs : List V} {ds : List D} {i : Nat} {d : D}, Rps H vs ds → ds[i]? = some d → ∃ v, vs[i]? = some v ∧ Rp H v d
  | _, _, _, _, .nil, e => by simp at e
  | _, _, 0, _, .cons h _, e => by simp at e; subst e; exact ⟨_, rfl, h⟩
  | _, _, i + 1, _, .cons _ r, e => by
    obtain ⟨v, h1, h2⟩ := Rps.get (i := i) r (by simpa using e)
    exact ⟨v, by simpa using h1, h2⟩
theorem Rps.getV {H : Hp} : ∀ {vs : List V} {ds : List D} {i : Nat} {v : V}, Rps H vs ds → vs[i]? = some v → ∃ d, ds[i]? = some d ∧ Rp H v d
  | _, _, _, _, .nil, e => by simp at e
  | _, _, 0, _, .cons h _, e => by simp at e; subst e; exact ⟨_, rfl, h⟩
  | _, _, i + 1, _, .cons _ r, e => by
    obtain ⟨v, h1, h2⟩ := Rps.getV (i := i) r (by simpa using e)
    exact ⟨v, by simpa using h1, h2⟩
theorem Rps.take {H : Hp} : ∀ {vs : List V} {ds : List D} (n : Nat), Rps H vs ds → Rps H (vs.take n) (ds.take n)
  | _, _, 0, _ => .nil
  | _, _, _ + 1, .nil => .nil
  | _, _, n + 1, .cons h r => .cons h (Rps.take n r)
theorem Rps.drop {H : Hp} : ∀ {vs : List V} {ds : List D} (n : Nat), Rps H vs ds → Rps H (vs.drop n) (ds.drop n)
  | _, _, 0, r => r
  | _, _, _ + 1, .nil => .nil
  | _, _, n + 1, .cons _ r => Rps.drop n r
theorem Rps.reverse {H : Hp} : ∀ {vs : List V} {ds : List D}, Rps H vs ds → Rps H vs.reverse ds.reverse
  | _, _, .nil => .nil
  | _, _, .cons h r => by
    rw [List.reverse_cons, List.reverse_cons]
    exact (Rps.reverse r).append (.cons h .nil)
theorem Rps.set {H : Hp} {v : V} {d : D} (h : Rp H v d) : ∀ {vs : List V} {ds : List D} (n : Nat), Rps H vs ds → Rps H (vs.set n v) (ds.set n d)
  | _, _, _, .nil => .nil
  | _, _, 0, .cons _ r => .cons h r
  | _, _, n + 1, .cons k r => .cons k (Rps.set h n r)
theorem Rps.ints {H : Hp} : ∀ {vs : List V} {ns : List Int}, Rps H vs (ns.map PyData.int) → vs = ns.map V.int
  | _, [], .nil => rfl
  | _, n :: ns, .cons h r => by
    cases h
    rw [Rps.ints (ns := ns) r]
    rfl
theorem Rps.of_ints {H : Hp} : ∀ (ns : List Int), Rps H (ns.map V.int) (ns.map PyData.int)
  | [] => .nil
  | n :: ns => .cons (.int n) (Rps.of_ints ns)
theorem Rps.bls {H : Hp} : ∀ {vs : List V} {ns : List Bool}, Rps H vs (ns.map PyData.bool) → vs = ns.map V.bl
  | _, [], .nil => rfl
  | _, n :: ns, .cons h r => by
    cases h
    rw [Rps.bls (ns := ns) r]
    rfl
theorem Rps.strs {H : Hp} : ∀ {vs : List V} {ns : List Str}, Rps H vs (ns.map PyData.str) → vs = ns.map V.str
  | _, [], .nil => rfl
  | _, n :: ns, .cons h r => by
    cases h
    rw [Rps.strs (ns := ns) r]
    rfl
theorem Rps.of_strs {H : Hp} : ∀ (ns : List Str), Rps H (ns.map V.str) (ns.map PyData.str)
  | [] => .nil
  | n :: ns => .cons (.str n) (Rps.of_strs ns)
/-- values that hang on no object -/
def flatD : D → Bool
  | .none => true
  | .bool _ => true
  | .int _ => true
  | .str _ => true
  | _ => false
theorem Rp.flat {H H' : Hp} {v : V} {d : D} (r : Rp H v d) (f : flatD d = true) : Rp H' v d := by
  cases r with
  | non => exact .non
  | bl b => exact .bl b
  | int i => exact .int i
  | str x => exact .str x
  | lst _ _ => cases f
  | tup _ _ => cases f
  | dic _ _ => cases f

/-! ### the two heaps: H, what never changes again; F, all that stands. T: what a callee may change -/
structure Stp (T : Addr → Prop) (H F H' F' : Hp) : Prop where
  hh : Ex H H'
  hf : Ex H' F'
  ff : ∀ a o, ¬ T a → F a = some o → F' a = some o
  fr : ∀ a, H a = none → H' a ≠ none → F a = none
  tt : ∀ a, T a → H a = none → H' a = none
section
variable {T : Addr → Prop} {H F H' F' H2 F2 : Hp}
theorem Stp.refl (h : Ex H F) : Stp T H F H F := ⟨Evl.Ex.refl H, h, fun _ _ _ e => e, fun _ h1 h2 => absurd h1 h2, fun _ _ h => h⟩
theorem Stp.trans (a : Stp T H F H' F') (b : Stp T H' F' H2 F2) : Stp T H F H2 F2 := by
  refine ⟨a.hh.trans b.hh, b.hf, fun x o n e => b.ff x o n (a.ff x o n e), fun x h1 h2 => ?_, fun x t h => b.tt x t (a.tt x t h)⟩
  cases e : H' x with
  | some o => exact a.fr x h1 (by rw [e]; simp)
  | none =>
    cases ef : F x with
    | none => rfl
    | some o =>
      have nt : ¬ T x := fun t => h2 (b.tt x t e)
      have q := b.fr x e h2
      rw [a.ff x o nt ef] at q
      cases q
/-- a new object, known to both heaps -/
theorem Stp.new {p : Addr} {o : HO} (h : Ex H F) (hp : F p = none) (ht : ¬ T p) : Stp T H F (upd H p o) (upd F p o) := by
  have hn : H p = none := Evl.fresh_back h hp
  refine ⟨Evl.Ex.new hn, fun a u e => ?_, fun a u _ e => Evl.Ex.new hp a u e, fun a h1 h2 => ?_, fun a t h1 => ?_⟩
  · by_cases c : a = p
    · subst c
      rw [upd_same] at e ⊢
      exact e
    · rw [upd_ne c] at e ⊢
      exact h a u e
  · by_cases c : a = p
    · subst c
      exact hp
    · rw [upd_ne c] at h2
      exact absurd h1 h2
  · have c : a ≠ p := fun z => ht (z ▸ t)
    rw [upd_ne c]
    exact h1
end

/-! ### tables of code objects: they grow where a lambda is made -/
/-- the table at P: each code object that it tells bears the name q, and is known for good -/
def TabH (H F : Hp) (P : Addr) (q : Str) : Prop := ∃ ps : Array Value, F P = some (.tbl ps) ∧ TriplesOk ps.toList ∧ ∀ (pos : Pos) (cv : Value), codeAmong pos ps.toList = some cv → ∃ c, cv = .ref c ∧ H c = some (LamX.CodeO c q)
def TabsOk (TT : List (Addr × Str)) (H F : Hp) : Prop := ∀ p ∈ TT, H p.1 = none ∧ TabH H F p.1 p.2
def tpt (TT : List (Addr × Str)) (a : Addr) : Prop := ∃ p ∈ TT, p.1 = a
theorem TabsOk.used {TT : List (Addr × Str)} {H F : Hp} {a : Addr} (h : TabsOk TT H F) (t : tpt TT a) : ∃ ps, F a = some (.tbl ps) := by
  obtain ⟨p, hp, rfl⟩ := t
  obtain ⟨_, ps, e, _⟩ := h p hp
  exact ⟨ps, e⟩
theorem TabsOk.hout {TT : List (Addr × Str)} {H F : Hp} {a : Addr} (h : TabsOk TT H F) (t : tpt TT a) : H a = none := by
  obtain ⟨p, hp, rfl⟩ := t
  exact (h p hp).1
theorem TabsOk.loc {TT : List (Addr × Str)} {H F H' F' : Hp} (h : TabsOk TT H F) (e : Ex H H') (k : ∀ a, tpt TT a → F' a = F a) (f : ∀ a, tpt TT a → H a = none → H' a = none) : TabsOk TT H' F' := fun p hp => by
  obtain ⟨h1, ps, h2, h3, h4⟩ := h p hp
  refine ⟨f _ ⟨p, hp, rfl⟩ h1, ps, (k _ ⟨p, hp, rfl⟩).trans h2, h3, fun pos cv hc => ?_⟩
  obtain ⟨c, e1, e2⟩ := h4 pos cv hc
  exact ⟨c, e1, e _ _ e2⟩
/-- nothing that stands is changed but tables -/
abbrev StT (TT : List (Addr × Str)) (H F H' F' : Hp) : Prop := Stp (tpt TT) H F H' F'

/-- how the carried state lies in the heap: pt, the addresses that it may change; po, its own list; tb, the tables -/
structure Tie (S : Type) where
  tb : List (Addr × Str)
  po : Addr → Prop
  pt : Addr → Prop
  at_ : S → Hp → Hp → Prop
  used : ∀ s H F p, at_ s H F → pt p → F p ≠ none
  hout : ∀ s H F p, at_ s H F → pt p → H p = none
  loc : ∀ s H F H' F', at_ s H F → Ex H H' → (∀ a, pt a → F' a = F a) → (∀ a, pt a → H a = none → H' a = none) → at_ s H' F'
  tabs : ∀ s H F, at_ s H F → TabsOk tb H F
  tsub : ∀ a, tpt tb a → pt a
  part : ∀ s H F H' F', at_ s H F → Stp (tpt tb) H F H' F' → TabsOk tb H' F' → at_ s H' F'
theorem Tie.stay {S : Type} (T : Tie S) (s : S) (H F H' F' : Hp) (h : T.at_ s H F) (x : Ex H H') (k : ∀ a o, F a = some o → F' a = some o) (f : ∀ a, H a = none → H' a ≠ none → F a = none) : T.at_ s H' F' :=
  T.loc s H F H' F' h x (fun a p => by
    cases e : F a with
    | none => exact absurd e (T.used s H F a h p)
    | some o => exact k a o e) fun a p hn => by
    cases e : H' a with
    | none => rfl
    | some o => exact absurd (f a hn (by rw [e]; simp)) (T.used s H F a h p)
/-- tables are changed: so much may be -/
theorem Tie.upT {S : Type} (T : Tie S) {s : S} {H F H' F' : Hp} (h : T.at_ s H F) (st : StT T.tb H F H' F') : Stp T.pt H F H' F' :=
  ⟨st.hh, st.hf, fun a o n e => st.ff a o (fun t => n (T.tsub a t)) e, st.fr, fun a t e => by
    cases q : H' a with
    | none => rfl
    | some o => exact absurd (st.fr a e (by rw [q]; simp)) (T.used s H F a h t)⟩
def tie0 (TT : List (Addr × Str)) : Tie Unit where
  tb := TT
  po := fun _ => False
  pt := tpt TT
  at_ := fun _ H F => TabsOk TT H F
  used := fun _ _ _ _ h t e => by
    obtain ⟨ps, q⟩ := h.used t
    rw [q] at e
    cases e
  hout := fun _ _ _ _ h t => h.hout t
  loc := fun _ _ _ _ _ h e k f => h.loc e k f
  tabs := fun _ _ _ h => h
  tsub := fun _ t => t
  part := fun _ _ _ _ _ _ _ h => h
structure Pot where
  a : Int
  b : Int
  c : Int
def tieP (TT : List (Addr × Str)) (p : Addr) : Tie Pot where
  tb := TT
  po := fun b => b = p
  pt := fun b => b = p ∨ tpt TT b
  at_ := fun s H F => F p = some (.lst [.int s.a, .int s.b, .int s.c]) ∧ H p = none ∧ TabsOk TT H F
  used := fun s H F q h e z => by
    rcases e with e | e
    · subst e
      rw [h.1] at z
      cases z
    · obtain ⟨ps, q⟩ := h.2.2.used e
      rw [q] at z
      cases z
  hout := fun s H F q h e => by
    rcases e with e | e
    · subst e
      exact h.2.1
    · exact h.2.2.hout e
  loc := fun s H F H' F' h x k f => ⟨(k p (.inl rfl)).trans h.1, f p (.inl rfl) h.2.1, h.2.2.loc x (fun a t => k a (.inr t)) fun a t => f a (.inr t)⟩
  tabs := fun s H F h => h.2.2
  tsub := fun a t => .inr t
  part := fun s H F H' F' h st t => by
    have np : ¬ tpt TT p := fun z => by
      obtain ⟨ps, q⟩ := h.2.2.used z
      rw [h.1] at q
      cases q
    refine ⟨st.ff _ _ np h.1, ?_, t⟩
    cases q : H' p with
    | none => rfl
    | some o =>
      have z := st.fr p h.2.1 (by rw [q]; simp)
      rw [h.1] at z
      cases z

/-! ### slots -/
inductive Sl where
  /-- nothing is known -/
  | unk
  | val (d : D)
  /-- a list that is still changed, its items -/
  | own (xs : List D)
  /-- a dict that is still changed -/
  | dic (kvs : List (D × D))
  /-- the carried state's own list -/
  | pot
  /-- the law's script -/
  | scr (ns : List Int)
/-- the script: locked, or an object of the module -/
def ScrR (K : PySem.W.Frag) (F : Hp) (a : Addr) (ns : List Int) : Prop := (∃ o, F a = some (.frz o (.lst (ns.map V.int)))) ∨
  ∃ (o : Obj) (its : Array Value) (n : Nat), K.lookup a = some o ∧ o.cls = .type "list" ∧ o.dict = none ∧ o.data = .seq its n ∧ its.size ≤ sizeLine ∧ Vals (ns.map V.int) its.toList
theorem ScrR.sq {K : PySem.W.Frag} {F : Hp} {a : Addr} {ns : List Int} (h : ScrR K F a ns) : SqL K F a (ns.map V.int) := h.elim (fun ⟨o, e⟩ => .inl (.inr ⟨o, e⟩)) .inr
theorem ScrR.ex {K : PySem.W.Frag} {F F' : Hp} {a : Addr} {ns : List Int} (h : ScrR K F a ns) (e : ∀ o u, F a = some (.frz o u) → F' a = some (.frz o u)) : ScrR K F' a ns := h.elim (fun ⟨o, h⟩ => .inl ⟨o, e _ _ h⟩) .inr
def SlR (K : PySem.W.Frag) {S : Type} (T : Tie S) (H F : Hp) : Sl → Option V → Prop
  | .unk, _ => True
  | .val d, ov => ∃ v, ov = some v ∧ Rp H v d
  | .own xs, ov => ∃ p vs, ov = some (.ref p) ∧ H p = none ∧ ¬ T.pt p ∧ F p = some (.lst vs) ∧ Rps H vs xs
  | .dic kvs, ov => ∃ p vs, ov = some (.ref p) ∧ H p = none ∧ ¬ T.pt p ∧ F p = some (.dK vs) ∧ Rkv H vs kvs
  | .pot, ov => ∃ p, ov = some (.ref p) ∧ T.po p
  | .scr ns, ov => ∃ a, ov = some (.ref a) ∧ ¬ T.pt a ∧ ScrR K F a ns
/-- the addresses of the lists that are still changed -/
def isOwn : Sl → Bool
  | .own _ => true
  | .dic _ => true
  | _ => false
structure EnvR (K : PySem.W.Frag) {S : Type} (T : Tie S) (ρ : List Sl) (σ : L2.St) (H F : Hp) : Prop where
  len : ρ.length = σ.length
  at_ : ∀ (i : Nat) (sl : Sl), ρ[i]? = some sl → ∃ ov, σ[i]? = some ov ∧ SlR K T H F sl ov
  apart : ∀ (i j : Nat) (sl sl' : Sl) (p : Addr), i ≠ j → ρ[i]? = some sl → isOwn sl = true → σ[i]? = some (some (V.ref p)) → ρ[j]? = some sl' → isOwn sl' = true → σ[j]? ≠ some (some (V.ref p))
section
variable {K : PySem.W.Frag} {S : Type} {T : Tie S} {H F H' F' : Hp} {ρ : List Sl} {σ : L2.St}
theorem SlR.step (e : Stp T.pt H F H' F') {sl : Sl} {ov : Option V} (h : SlR K T H F sl ov) : SlR K T H' F' sl ov := by
  cases sl with
  | unk => trivial
  | val d =>
    obtain ⟨v, h1, h2⟩ := h
    exact ⟨v, h1, h2.mono e.hh⟩
  | own xs =>
    obtain ⟨p, vs, h1, h2, h3, h4, h5⟩ := h
    refine ⟨p, vs, h1, ?_, h3, e.ff _ _ h3 h4, h5.mono e.hh⟩
    cases q : H' p with
    | none => rfl
    | some o =>
      have z := e.fr p h2 (by rw [q]; simp)
      rw [h4] at z
      cases z
  | dic kvs =>
    obtain ⟨p, vs, h1, h2, h3, h4, h5⟩ := h
    refine ⟨p, vs, h1, ?_, h3, e.ff _ _ h3 h4, h5.mono e.hh⟩
    cases q : H' p with
    | none => rfl
    | some o =>
      have z := e.fr p h2 (by rw [q]; simp)
      rw [h4] at z
      cases z
  | pot => exact h
  | scr ns =>
    obtain ⟨a, h1, h2, h3⟩ := h
    exact ⟨a, h1, h2, h3.ex fun o u z => e.ff _ _ h2 z⟩
theorem EnvR.step (e : Stp T.pt H F H' F') (h : EnvR K T ρ σ H F) : EnvR K T ρ σ H' F' :=
  ⟨h.len, fun i sl hi => let ⟨ov, h1, h2⟩ := h.at_ i sl hi; ⟨ov, h1, h2.step e⟩, h.apart⟩
/-- a slot gets a value -/
theorem EnvR.set (h : EnvR K T ρ σ H F) {v : V} {d : D} (r : Rp H v d) (i : Nat) : EnvR K T (ρ.set i (.val d)) (σ.set i (some v)) H F := by
  refine ⟨by simp [h.len], fun j sl hj => ?_, fun j k sl sl' p hjk hj oj sj hk ok => ?_⟩
  · by_cases c : i = j
    · subst c
      have hl : i < ρ.length := by
        have := (List.getElem?_eq_some_iff.mp hj).1
        simpa using this
      rw [List.getElem?_set_self hl] at hj
      cases hj
      exact ⟨some v, by rw [List.getElem?_set_self (by rw [← h.len]; exact hl)], v, rfl, r⟩
    · rw [List.getElem?_set_ne c] at hj ⊢
      exact h.at_ j sl hj
  · have ne : ∀ (j : Nat) (sl : Sl), (ρ.set i (.val d))[j]? = some sl → isOwn sl = true → i ≠ j := fun j sl e o c => by
      subst c
      have hl : i < ρ.length := by
        have := (List.getElem?_eq_some_iff.mp e).1
        simpa using this
      rw [List.getElem?_set_self hl] at e
      cases e
      cases o
    have nj := ne j sl hj oj
    have nk := ne k sl' hk ok
    rw [List.getElem?_set_ne nj] at hj sj
    rw [List.getElem?_set_ne nk] at hk ⊢
    exact h.apart j k sl sl' p hjk hj oj sj hk ok
/-- less is known -/
def slLe : Sl → Sl → Prop := fun a b => b = .unk ∨ a = b
theorem EnvR.weak (h : EnvR K T ρ σ H F) {ρ' : List Sl} (hl : ρ'.length = ρ.length) (w : ∀ (i : Nat) (sl : Sl), ρ'[i]? = some sl → sl = .unk ∨ ρ[i]? = some sl) : EnvR K T ρ' σ H F := by
  refine ⟨hl.trans h.len, fun i sl hi => ?_, fun j k sl sl' p hjk hj oj sj hk ok => ?_⟩
  · rcases w i sl hi with c | c
    · subst c
      have q : i < σ.length := by
        have := (List.getElem?_eq_some_iff.mp hi).1
        rw [← h.len, ← hl]
        exact this
      exact ⟨σ[i], List.getElem?_eq_getElem q, trivial⟩
    · exact h.at_ i sl c
  · have a : ρ[j]? = some sl := (w j sl hj).resolve_left fun c => by subst c; cases oj
    have b : ρ[k]? = some sl' := (w k sl' hk).resolve_left fun c => by subst c; cases ok
    exact h.apart j k sl sl' p hjk a oj sj b ok
end

/-! ### what a piece of text is worth by itself: its weakest reading -/
section
variable (X : Cx)
def sE (e : Expr) : TE := fun σ H Q => ∀ pins s, Inv X pins σ H s → wpAny (model X.prog X.w) X.A (eval e X.env) (EP X pins σ Q) X.xe s
def sT (e : Expr) : TT := fun σ H Q => ∀ pins s, Inv X pins σ H s → wpAny (model X.prog X.w) X.A (isTrue e X.env (eval e X.env)) (TP X pins σ Q) X.xe s
def sW (e : Expr) : TT := fun σ H Q => ∀ whole pins s, Inv X pins σ H s → wpAny (model X.prog X.w) X.A (isTrue e X.env whole) (TP X pins σ Q) X.xe s
def sA (es : List Expr) : TA := fun σ H Q => ∀ pos pins s, Inv X pins σ H s → wpAny (model X.prog X.w) X.A (spliced (backTo pos (starEach es X.env))) (AP X pins σ Q) X.xe s
def sS (st : Stmt) : TS := fun D σ H => ∀ pins s, Inv X pins σ H s → wpAny (model X.prog X.w) X.A (exec st X.env) (SP X pins D) X.xe s
def sSs (st : List Stmt) : TS := fun D σ H => ∀ pins s, Inv X pins σ H s → wpAny (model X.prog X.w) X.A (execs st X.env) (SP X pins D) X.xe s
def sG (tg : Expr) : TG := fun v σ H Q => ∀ pins s u, Inv X pins σ H s → RelV v u → wpAny (model X.prog X.w) X.A (assign tg X.env u) (fun _ s' => ∃ σ' H', Inv X pins σ' H' s' ∧ Q σ' H') X.xe s
def sI (tg iter : Expr) : TI := fun σ H R => ∀ pins s, Inv X pins σ H s →
    wpAny (model X.prog X.w) X.A (eval iter X.env) (fun v s1 => wpAny (model X.prog X.w) X.A (pyIter v) (PIE X pins σ tg R) X.xe s1) X.xe s
end
theorem pE (X : Cx) (e : Expr) : PE X e (sE X e) := ⟨fun pins s _ _ _ I h => h pins s I⟩
theorem pT (X : Cx) (e : Expr) : PT X e (sT X e) := ⟨fun pins s _ _ _ I h => h pins s I⟩
theorem pW (X : Cx) (e : Expr) : PW X e (sW X e) := ⟨fun whole pins s _ _ _ I h => h whole pins s I⟩
theorem pA (X : Cx) (es : List Expr) : PA X es (sA X es) := ⟨fun pos pins s _ _ _ I h => h pos pins s I⟩
theorem pS (X : Cx) (st : Stmt) : PS X st (sS X st) := ⟨fun pins s _ _ _ I h => h pins s I⟩
theorem pSs (X : Cx) (st : List Stmt) : PSs X st (sSs X st) := ⟨fun pins s _ _ _ I h => h pins s I⟩
theorem pG (X : Cx) (tg : Expr) : PG X tg (sG X tg) := ⟨fun pins s _ _ _ u _ I r h => h pins s u I r⟩
theorem pI (X : Cx) (tg iter : Expr) : PI X tg iter (sI X tg iter) := ⟨fun pins s _ _ _ I h => h pins s I⟩
theorem sE_of {X : Cx} {e : Expr} {t : TE} (p : PE X e t) {σ : L2.St} {H : Hp} {Q : VK} (h : t σ H Q) : sE X e σ H Q := fun pins s I => p.run pins s σ H Q I h
theorem sT_of {X : Cx} {e : Expr} {t : TT} (p : PT X e t) {σ : L2.St} {H : Hp} {Q : Bool → Hp → Prop} (h : t σ H Q) : sT X e σ H Q := fun pins s I => p.run pins s σ H Q I h
theorem sW_of {X : Cx} {e : Expr} {t : TT} (p : PW X e t) {σ : L2.St} {H : Hp} {Q : Bool → Hp → Prop} (h : t σ H Q) : sW X e σ H Q := fun whole pins s I => p.run whole pins s σ H Q I h
theorem sA_of {X : Cx} {e : List Expr} {t : TA} (p : PA X e t) {σ : L2.St} {H : Hp} {Q : List V → Hp → Prop} (h : t σ H Q) : sA X e σ H Q := fun pos pins s I => p.run pos pins s σ H Q I h
theorem sS_of {X : Cx} {e : Stmt} {t : TS} (p : PS X e t) {σ : L2.St} {H : Hp} {Q : Ends} (h : t Q σ H) : sS X e Q σ H := fun pins s I => p.run pins s σ H Q I h
theorem sSs_of {X : Cx} {e : List Stmt} {t : TS} (p : PSs X e t) {σ : L2.St} {H : Hp} {Q : Ends} (h : t Q σ H) : sSs X e Q σ H := fun pins s I => p.run pins s σ H Q I h
theorem sG_of {X : Cx} {e : Expr} {t : TG} (p : PG X e t) {v : V} {σ : L2.St} {H : Hp} {Q : L2.St → Hp → Prop} (h : t v σ H Q) : sG X e v σ H Q := fun pins s u I r => p.run pins s σ H v u Q I r h
theorem sI_of {X : Cx} {tg e : Expr} {t : TI} (p : PI X tg e t) {σ : L2.St} {H : Hp} {Q : It → Hp → Prop} (h : t σ H Q) : sI X tg e σ H Q := fun pins s I => p.run pins s σ H Q I h

/-! ### the judgements -/
/-- a view: a value that is known, or a list that is still changed, as it now stands -/
def Rv (T : Addr → Prop) (H F : Hp) (v : V) (d : D) : Prop :=
  Rp H v d ∨ ∃ p vs ds, v = .ref p ∧ d = .list ds ∧ H p = none ∧ ¬ T p ∧ F p = some (.lst vs) ∧ Rps H vs ds
inductive Rvs (T : Addr → Prop) (H F : Hp) : List V → List D → Prop
  | nil : Rvs T H F [] []
  | cons {v : V} {vs : List V} {d : D} {ds : List D} : Rv T H F v d → Rvs T H F vs ds → Rvs T H F (v :: vs) (d :: ds)
theorem Rv.step {T : Addr → Prop} {H F H' F' : Hp} (e : Stp T H F H' F') {v : V} {d : D} (h : Rv T H F v d) : Rv T H' F' v d := by
  rcases h with h | ⟨p, vs, ds, h1, h2, h3, h4, h5, h6⟩
  · exact .inl (h.mono e.hh)
  · refine .inr ⟨p, vs, ds, h1, h2, ?_, h4, e.ff _ _ h4 h5, h6.mono e.hh⟩
    cases q : H' p with
    | none => rfl
    | some o =>
      have z := e.fr p h3 (by rw [q]; simp)
      rw [h5] at z
      cases z
theorem Rv.full {T : Addr → Prop} {H F : Hp} (e : Ex H F) {v : V} {d : D} (h : Rv T H F v d) : Rp F v d := by
  rcases h with h | ⟨p, vs, ds, h1, h2, h3, h4, h5, h6⟩
  · exact h.mono e
  · subst h1 h2
    exact .lst h5 (h6.mono e)
theorem Rps.view {T : Addr → Prop} {H F : Hp} : ∀ {vs : List V} {ds : List D}, Rps H vs ds → Rvs T H F vs ds
  | _, _, .nil => .nil
  | _, _, .cons h r => .cons (.inl h) (Rps.view r)
/-- an expression: what it is worth is a value for good -/
structure JE (X : Cx) {S : Type} (T : Tie S) (e : Expr) (ρ : List Sl) (m : M S D) : Prop where
  run : ∀ {σ : L2.St} {H F : Hp} {s : S} {d : D} {s' : S}, Ex H F → EnvR X.K T ρ σ H F → T.at_ s H F → m s = some (d, s') →
    ∀ Q : VK, (∀ v H' F', Stp T.pt H F H' F' → T.at_ s' H' F' → Rp H' v d → Q v F') → sE X e σ F Q
/-- .. a view -/
structure JV (X : Cx) {S : Type} (T : Tie S) (e : Expr) (ρ : List Sl) (m : M S D) : Prop where
  run : ∀ {σ : L2.St} {H F : Hp} {s : S} {d : D} {s' : S}, Ex H F → EnvR X.K T ρ σ H F → T.at_ s H F → m s = some (d, s') →
    ∀ Q : VK, (∀ v H' F', Stp T.pt H F H' F' → T.at_ s' H' F' → Rv T.pt H' F' v d → Q v F') → sE X e σ F Q
/-- a test -/
structure JT (X : Cx) {S : Type} (T : Tie S) (e : Expr) (ρ : List Sl) (m : M S Bool) : Prop where
  run : ∀ {σ : L2.St} {H F : Hp} {s : S} {d : Bool} {s' : S}, Ex H F → EnvR X.K T ρ σ H F → T.at_ s H F → m s = some (d, s') →
    ∀ Q : Bool → Hp → Prop, (∀ H' F', Stp T.pt H F H' F' → T.at_ s' H' F' → Q d F') → sT X e σ F Q
structure JW (X : Cx) {S : Type} (T : Tie S) (e : Expr) (ρ : List Sl) (m : M S Bool) : Prop where
  run : ∀ {σ : L2.St} {H F : Hp} {s : S} {d : Bool} {s' : S}, Ex H F → EnvR X.K T ρ σ H F → T.at_ s H F → m s = some (d, s') →
    ∀ Q : Bool → Hp → Prop, (∀ H' F', Stp T.pt H F H' F' → T.at_ s' H' F' → Q d F') → sW X e σ F Q
/-- arguments, one behind another; k: what is made of them -/
structure JA (X : Cx) {S β : Type} (T : Tie S) (es : List Expr) (ρ : List Sl) (k : List D → M S β) (m : M S β) : Prop where
  run : ∀ {σ : L2.St} {H F : Hp} {s : S} {b : β} {s' : S}, Ex H F → EnvR X.K T ρ σ H F → T.at_ s H F → m s = some (b, s') →
    ∀ Q : List V → Hp → Prop, (∀ vs ds s1 H' F', Stp T.pt H F H' F' → T.at_ s1 H' F' → Rps H' vs ds → k ds s1 = some (b, s') → Q vs F') → sA X es σ F Q
/-- .. views -/
structure JAV (X : Cx) {S β : Type} (T : Tie S) (es : List Expr) (ρ : List Sl) (k : List D → M S β) (m : M S β) : Prop where
  run : ∀ {σ : L2.St} {H F : Hp} {s : S} {b : β} {s' : S}, Ex H F → EnvR X.K T ρ σ H F → T.at_ s H F → m s = some (b, s') →
    ∀ Q : List V → Hp → Prop, (∀ vs ds s1 H' F', Stp T.pt H F H' F' → T.at_ s1 H' F' → Rvs T.pt H' F' vs ds → k ds s1 = some (b, s') → Q vs F') → sA X es σ F Q

section
variable {X : Cx} {S : Type} {T : Tie S} {ρ : List Sl} {m : M S D} {e : Expr}
theorem JE.v (h : JE X T e ρ m) : JV X T e ρ m := ⟨fun hE hR hA hm Q k => h.run hE hR hA hm Q fun v H' F' st ha r => k v H' F' st ha (.inl r)⟩
theorem je_name (i : Nat) {x : Str} {pos : Pos} {d : D} (hN : X.N[i]? = some x) (hv : Vis X.env.scope x) (hρ : ρ[i]? = some (.val d)) (hd : (x == ("__debug__" : Str)) = false := by decide)
    (hcd : (x == ("__classdict__" : Str)) = false := by decide) : JE X T (.Name x pos) ρ (P d) := ⟨fun {σ H F s d' s'} hE hR hA hm Q k => by
  obtain ⟨rfl, rfl⟩ := P_some hm
  obtain ⟨ov, h1, v, rfl, r⟩ := hR.at_ i _ hρ
  exact sE_of (pe_var hN hv hd hcd) ⟨v, h1, k v H F (.refl hE) hA r⟩⟩
theorem jv_own (i : Nat) {x : Str} {pos : Pos} {ds : List D} (hN : X.N[i]? = some x) (hv : Vis X.env.scope x) (hρ : ρ[i]? = some (.own ds)) (hd : (x == ("__debug__" : Str)) = false := by decide)
    (hcd : (x == ("__classdict__" : Str)) = false := by decide) : JV X T (.Name x pos) ρ (P (.list ds)) := ⟨fun {σ H F s d' s'} hE hR hA hm Q k => by
  obtain ⟨rfl, rfl⟩ := P_some hm
  obtain ⟨ov, h1, p, vs, rfl, h2, h3, h4, h5⟩ := hR.at_ i _ hρ
  exact sE_of (pe_var hN hv hd hcd) ⟨_, h1, k _ H F (.refl hE) hA (.inr ⟨p, vs, ds, rfl, rfl, h2, h3, h4, h5⟩)⟩⟩
theorem je_c {v : V} {d : D} (p : PE X e (tC v)) (r : ∀ H, Rp H v d) : JE X T e ρ (P d) := ⟨fun {σ H F s d' s'} hE hR hA hm Q k => by
  obtain ⟨rfl, rfl⟩ := P_some hm
  exact sE_of p (k v H F (.refl hE) hA (r H))⟩
theorem je_int {i : Int} {j : Nat} {pos : Pos} : JE X T (.Constant (.int i) j pos) ρ (P (.int i)) := je_c pe_int fun _ => .int i
theorem je_bl {b : Bool} {j : Nat} {pos : Pos} : JE X T (.Constant (.bool b) j pos) ρ (P (.bool b)) := je_c pe_bl fun _ => .bl b
theorem je_non {j : Nat} {pos : Pos} : JE X T (.Constant .none j pos) ρ (P .none) := je_c pe_non fun _ => .non
theorem je_str {x : Str} {j : Nat} {pos : Pos} : JE X T (.Constant (.str x) j pos) ρ (P (.str x)) := je_c pe_str fun _ => .str x
/-- a constant of the module -/
theorem je_gint {x : Str} {i : Int} {pos : Pos} (hm : ∃ t, X.mg x = some (.int i t)) (hg : Gl X x) (hd : (x == ("__debug__" : Str)) = false := by decide) : JE X T (.Name x pos) ρ (P (.int i)) := by
  obtain ⟨t, hm⟩ := hm
  exact je_c (pe_glob (v := V.int i) hg hm ⟨t, rfl⟩ hd) fun _ => .int i
theorem je_gstr {x : Str} {i : Str} {pos : Pos} (hm : ∃ t, X.mg x = some (.str i t)) (hg : Gl X x) (hd : (x == ("__debug__" : Str)) = false := by decide) : JE X T (.Name x pos) ρ (P (.str i)) := by
  obtain ⟨t, hm⟩ := hm
  exact je_c (pe_glob (v := V.str i) hg hm ⟨t, rfl⟩ hd) fun _ => .str i
end

/-! ### operators -/
/-- nothing that stands is changed -/
abbrev Stq (H F H' F' : Hp) : Prop := Stp (fun _ => False) H F H' F'
theorem Stq.lift {H F H' F' : Hp} (st : Stq H F H' F') {T : Addr → Prop} (u : ∀ p, T p → F p ≠ none) : Stp T H F H' F' :=
  ⟨st.hh, st.hf, fun a o _ e => st.ff a o (fun h => h) e, st.fr, fun a t h => by
    cases e : H' a with
    | none => rfl
    | some o => exact absurd (st.fr a h (by rw [e]; simp)) (u a t)⟩
theorem Stq.at {S : Type} {T : Tie S} {H F H' F' : Hp} {s : S} (st : Stq H F H' F') (ha : T.at_ s H F) : T.at_ s H' F' :=
  T.stay s H F H' F' ha st.hh (fun a o e => st.ff a o (fun h => h) e) st.fr
theorem Stq.up {S : Type} {T : Tie S} {H F H' F' : Hp} {s : S} (st : Stq H F H' F') (ha : T.at_ s H F) : Stp T.pt H F H' F' := st.lift fun p hp => T.used _ _ _ p ha hp
/-- on values for good -/
def OpD (X : Cx) (f : Value → Value → Sem Value) (g : D → D → Option D) : Prop := ∃ r : R2, OpR X f r ∧
  ∀ (H F : Hp) (x y : V) (a b d : D) (Q : VK), Ex H F → Rp H x a → Rp H y b → g a b = some d → (∀ v H' F', Stq H F H' F' → Rp H' v d → Q v F') → r x y F Q
/-- on views, a truth value -/
def OpB (X : Cx) (f : Value → Value → Sem Value) (g : D → D → Option Bool) : Prop := ∃ r : R2, OpR X f r ∧
  ∀ (F : Hp) (x y : V) (a b : D) (c : Bool) (Q : VK), Rp F x a → Rp F y b → g a b = some c → Q (.bl c) F → r x y F Q
section
variable {X : Cx} {S : Type} {T : Tie S} {ρ : List Sl} {ma mb mc : M S D} {a b c : Expr} {pos : Pos} {g : D → D → Option D} {gb gb' : D → D → Option Bool}
theorem je_bin {op : Operator} (ho : OpD X (binaryOp op) g) (ha : JE X T a ρ ma) (hb : JE X T b ρ mb) : JE X T (.BinOp a op b pos) ρ (B ma fun x => B mb fun y => L (g x y)) := by
  obtain ⟨r, h1, h2⟩ := ho
  refine ⟨fun {σ H F s d s'} hE hR hA hm Q k => ?_⟩
  obtain ⟨x, s1, m1, hm⟩ := B_some hm
  obtain ⟨y, s2, m2, hm⟩ := B_some hm
  obtain ⟨hg, rfl⟩ := L_some hm
  refine sE_of (pe_op h1 (pE X a) (pE X b)) (ha.run hE hR hA m1 _ fun v H1 F1 st1 a1 r1 => hb.run st1.hf (hR.step st1) a1 m2 _ fun u H2 F2 st2 a2 r2 => ?_)
  refine h2 H2 F2 v u x y d Q st2.hf (r1.mono st2.hh) r2 hg fun z H3 F3 st3 r3 => ?_
  exact k z H3 F3 ((st1.trans st2).trans (st3.up a2)) (st3.at a2) r3
theorem je_cmp {op : CmpOp} (ho : OpB X (compareOp op) gb) (ha : JV X T a ρ ma) (hb : JV X T b ρ mb) (hm' : behindInMarks op b = false) : JE X T (.Compare a [op] [b] pos) ρ (B ma fun x => B mb fun y => B (L (gb x y)) fun c => P (.bool c)) := by
  obtain ⟨r, h1, h2⟩ := ho
  refine ⟨fun {σ H F s d s'} hE hR hA hm Q k => ?_⟩
  obtain ⟨x, s1, m1, hm⟩ := B_some hm
  obtain ⟨y, s2, m2, hm⟩ := B_some hm
  obtain ⟨c, hg, hm⟩ := BL_some hm
  obtain ⟨rfl, rfl⟩ := P_some hm
  refine sE_of (pe_cmpR h1 (pE X a) (pE X b) hm') (ha.run hE hR hA m1 _ fun v H1 F1 st1 a1 r1 => hb.run st1.hf (hR.step st1) a1 m2 _ fun u H2 F2 st2 a2 r2 => ?_)
  exact h2 F2 v u x y c Q ((r1.step st2).full st2.hf) (r2.full st2.hf) hg (k _ H2 F2 (st1.trans st2) a2 (.bl c))
theorem jt_cmp {op : CmpOp} (ho : OpB X (compareOp op) gb) (ha : JV X T a ρ ma) (hb : JV X T b ρ mb) (hm' : behindInMarks op b = false) : JT X T (.Compare a [op] [b] pos) ρ (B ma fun x => B mb fun y => L (gb x y)) := by
  obtain ⟨r, h1, h2⟩ := ho
  refine ⟨fun {σ H F s d s'} hE hR hA hm Q k => ?_⟩
  obtain ⟨x, s1, m1, hm⟩ := B_some hm
  obtain ⟨y, s2, m2, hm⟩ := B_some hm
  obtain ⟨hg, rfl⟩ := L_some hm
  refine sT_of (pt_cmpR h1 (pE X a) (pE X b) hm') (ha.run hE hR hA m1 _ fun v H1 F1 st1 a1 r1 => hb.run st1.hf (hR.step st1) a1 m2 _ fun u H2 F2 st2 a2 r2 => ?_)
  exact h2 F2 v u x y d _ ((r1.step st2).full st2.hf) (r2.full st2.hf) hg ⟨d, rfl, k H2 F2 (st1.trans st2) a2⟩
theorem je_chain {op op' : CmpOp} (ho : OpB X (compareOp op) gb) (ho' : OpB X (compareOp op') gb') (ha : JV X T a ρ ma) (hb : JV X T b ρ mb) (hc : JV X T c ρ mc) (hm' : lastMarks [op, op'] [b, c] = false := by with_unfolding_all rfl) :
    JE X T (.Compare a [op, op'] [b, c] pos) ρ (B ma fun x => B mb fun y => B (L (gb x y)) fun z => if z then B mc fun w => B (L (gb' y w)) fun c => P (.bool c) else P (.bool false)) := by
  obtain ⟨r, h1, h2⟩ := ho
  obtain ⟨r', h1', h2'⟩ := ho'
  refine ⟨fun {σ H F s d s'} hE hR hA hm Q k => ?_⟩
  obtain ⟨x, s1, m1, hm⟩ := B_some hm
  obtain ⟨y, s2, m2, hm⟩ := B_some hm
  obtain ⟨z, hg, hm⟩ := BL_some hm
  refine sE_of (pe_chain h1 h1' (pE X a) (pE X b) (pE X c) hm') (ha.run hE hR hA m1 _ fun v H1 F1 st1 a1 r1 => hb.run st1.hf (hR.step st1) a1 m2 _ fun u H2 F2 st2 a2 r2 => ?_)
  refine h2 F2 v u x y z _ ((r1.step st2).full st2.hf) (r2.full st2.hf) hg ⟨z, rfl, ?_⟩
  cases z with
  | false =>
    obtain ⟨rfl, rfl⟩ := P_some hm
    exact k _ H2 F2 (st1.trans st2) a2 (.bl false)
  | true =>
    obtain ⟨w, s4, m4, hm⟩ := B_some hm
    obtain ⟨z', hg', hm⟩ := BL_some hm
    obtain ⟨rfl, rfl⟩ := P_some hm
    refine hc.run st2.hf (hR.step (st1.trans st2)) a2 m4 _ fun o H4 F4 st4 a4 r4 => ?_
    exact h2' F4 u o y w z' Q ((r2.step st4).full st4.hf) (r4.full st4.hf) hg' (k _ H4 F4 ((st1.trans st2).trans st4) a4 (.bl z'))
theorem jt_chain {op op' : CmpOp} (ho : OpB X (compareOp op) gb) (ho' : OpB X (compareOp op') gb') (ha : JV X T a ρ ma) (hb : JV X T b ρ mb) (hc : JV X T c ρ mc) (hm' : lastMarks [op, op'] [b, c] = false := by with_unfolding_all rfl) :
    JT X T (.Compare a [op, op'] [b, c] pos) ρ (B ma fun x => B mb fun y => B (L (gb x y)) fun z => if z then B mc fun w => L (gb' y w) else P false) := by
  obtain ⟨r, h1, h2⟩ := ho
  obtain ⟨r', h1', h2'⟩ := ho'
  refine ⟨fun {σ H F s d s'} hE hR hA hm Q k => ?_⟩
  obtain ⟨x, s1, m1, hm⟩ := B_some hm
  obtain ⟨y, s2, m2, hm⟩ := B_some hm
  obtain ⟨z, hg, hm⟩ := BL_some hm
  refine sT_of (pt_chain h1 h1' (pE X a) (pE X b) (pE X c) hm') (ha.run hE hR hA m1 _ fun v H1 F1 st1 a1 r1 => hb.run st1.hf (hR.step st1) a1 m2 _ fun u H2 F2 st2 a2 r2 => ?_)
  refine h2 F2 v u x y z _ ((r1.step st2).full st2.hf) (r2.full st2.hf) hg ⟨z, rfl, ?_⟩
  cases z with
  | false =>
    obtain ⟨rfl, rfl⟩ := P_some hm
    exact ⟨_, rfl, k H2 F2 (st1.trans st2) a2⟩
  | true =>
    obtain ⟨w, s4, m4, hm⟩ := B_some hm
    obtain ⟨hg', rfl⟩ := L_some hm
    refine hc.run st2.hf (hR.step (st1.trans st2)) a2 m4 _ fun o H4 F4 st4 a4 r4 => ?_
    exact h2' F4 u o y w d _ ((r2.step st4).full st4.hf) (r4.full st4.hf) hg' ⟨_, rfl, k H4 F4 ((st1.trans st2).trans st4) a4⟩
end

/-! ### truth -/
def boolD : D → Option Bool
  | .bool b => some b
  | _ => none
theorem boolD_some {d : D} {b : Bool} (h : boolD d = some b) : d = .bool b := by
  cases d <;> first | (cases h; rfl) | cases h
section
variable {X : Cx} {S : Type} {T : Tie S} {ρ : List Sl} {ma mb mc m : M S D} {a b c e : Expr} {rest : List Expr} {pos : Pos} {ta tb : M S Bool}
theorem jt_val (h : JE X T e ρ m) (he : ∀ whole, isTrue e X.env whole = (do let v ← whole; standAt e.pos; holding [v] (truthy v)) := by intro _; rfl) : JT X T e ρ (B m fun x => L (boolD x)) := ⟨fun {σ H F s d s'} hE hR hA hm Q k => by
  obtain ⟨x, s1, m1, hm⟩ := B_some hm
  obtain ⟨hg, rfl⟩ := L_some hm
  refine sT_of (pt_val (pE X e) he) (h.run hE hR hA m1 _ fun v H1 F1 st1 a1 r1 => ?_)
  rw [boolD_some hg] at r1
  cases r1
  exact ⟨d, rfl, k H1 F1 st1 a1⟩⟩
theorem jt_not (h : JT X T e ρ ta) : JT X T (.UnaryOp .Not e pos) ρ (B ta fun x => P (!x)) := ⟨fun {σ H F s d s'} hE hR hA hm Q k => by
  obtain ⟨x, s1, m1, hm⟩ := B_some hm
  obtain ⟨rfl, rfl⟩ := P_some hm
  exact sT_of (pt_not (pT X e)) (h.run hE hR hA m1 _ fun H1 F1 st1 a1 => k H1 F1 st1 a1)⟩
theorem jw_and1 (h : JT X T e ρ ta) : JW X T (.BoolOp .And [e] pos) ρ ta := ⟨fun hE hR hA hm Q k => sW_of (pw_and1 (pT X e)) (h.run hE hR hA hm _ k)⟩
theorem jw_or1 (h : JT X T e ρ ta) : JW X T (.BoolOp .Or [e] pos) ρ ta := ⟨fun hE hR hA hm Q k => sW_of (pw_or1 (pT X e)) (h.run hE hR hA hm _ k)⟩
theorem jw_and (h : JT X T a ρ ta) (h2 : JW X T (.BoolOp .And (b :: rest) pos) ρ tb) : JW X T (.BoolOp .And (a :: b :: rest) pos) ρ (B ta fun x => if x then tb else P false) := ⟨fun {σ H F s d s'} hE hR hA hm Q k => by
  obtain ⟨x, s1, m1, hm⟩ := B_some hm
  refine sW_of (pw_and (pT X a) (pW X _)) (h.run hE hR hA m1 _ fun H1 F1 st1 a1 => ?_)
  cases x with
  | true => exact h2.run st1.hf (hR.step st1) a1 hm Q fun H2 F2 st2 a2 => k H2 F2 (st1.trans st2) a2
  | false =>
    obtain ⟨rfl, rfl⟩ := P_some hm
    exact k H1 F1 st1 a1⟩
theorem jw_or (h : JT X T a ρ ta) (h2 : JW X T (.BoolOp .Or (b :: rest) pos) ρ tb) : JW X T (.BoolOp .Or (a :: b :: rest) pos) ρ (B ta fun x => if x then P true else tb) := ⟨fun {σ H F s d s'} hE hR hA hm Q k => by
  obtain ⟨x, s1, m1, hm⟩ := B_some hm
  refine sW_of (pw_or (pT X a) (pW X _)) (h.run hE hR hA m1 _ fun H1 F1 st1 a1 => ?_)
  cases x with
  | false => exact h2.run st1.hf (hR.step st1) a1 hm Q fun H2 F2 st2 a2 => k H2 F2 (st1.trans st2) a2
  | true =>
    obtain ⟨rfl, rfl⟩ := P_some hm
    exact k H1 F1 st1 a1⟩
theorem JW.t (h : JW X T e ρ ta) : JT X T e ρ ta := ⟨fun hE hR hA hm Q k => fun pins s I => h.run hE hR hA hm Q k _ pins s I⟩
theorem je_one {op : BoolOp} (h : JE X T a ρ ma) : JE X T (.BoolOp op [a] pos) ρ ma := ⟨fun hE hR hA hm Q k => sE_of (pe_one (pE X a)) (h.run hE hR hA hm Q k)⟩
theorem je_and (h : JE X T a ρ ma) (h2 : JE X T (.BoolOp .And (b :: rest) pos) ρ mb) : JE X T (.BoolOp .And (a :: b :: rest) pos) ρ (B ma fun x => B (L (boolD x)) fun c => if c then mb else P (.bool false)) := ⟨fun {σ H F s d s'} hE hR hA hm Q k => by
  obtain ⟨x, s1, m1, hm⟩ := B_some hm
  obtain ⟨c, hg, hm⟩ := BL_some hm
  refine sE_of (pe_and (pE X a) (pE X _)) (h.run hE hR hA m1 _ fun v H1 F1 st1 a1 r1 => ?_)
  rw [boolD_some hg] at r1
  cases r1
  refine ⟨c, rfl, ?_⟩
  cases c with
  | true => exact h2.run st1.hf (hR.step st1) a1 hm Q fun v H2 F2 st2 a2 r2 => k v H2 F2 (st1.trans st2) a2 r2
  | false =>
    obtain ⟨rfl, rfl⟩ := P_some hm
    exact k _ H1 F1 st1 a1 (.bl false)⟩
theorem je_or (h : JE X T a ρ ma) (h2 : JE X T (.BoolOp .Or (b :: rest) pos) ρ mb) : JE X T (.BoolOp .Or (a :: b :: rest) pos) ρ (B ma fun x => B (L (boolD x)) fun c => if c then P (.bool true) else mb) := ⟨fun {σ H F s d s'} hE hR hA hm Q k => by
  obtain ⟨x, s1, m1, hm⟩ := B_some hm
  obtain ⟨c, hg, hm⟩ := BL_some hm
  refine sE_of (pe_or (pE X a) (pE X _)) (h.run hE hR hA m1 _ fun v H1 F1 st1 a1 r1 => ?_)
  rw [boolD_some hg] at r1
  cases r1
  refine ⟨c, rfl, ?_⟩
  cases c with
  | false => exact h2.run st1.hf (hR.step st1) a1 hm Q fun v H2 F2 st2 a2 r2 => k v H2 F2 (st1.trans st2) a2 r2
  | true =>
    obtain ⟨rfl, rfl⟩ := P_some hm
    exact k _ H1 F1 st1 a1 (.bl true)⟩
theorem je_not (h : JE X T a ρ ma) : JE X T (.UnaryOp .Not a pos) ρ (B ma fun x => B (L (boolD x)) fun c => P (.bool (!c))) := ⟨fun {σ H F s d s'} hE hR hA hm Q k => by
  obtain ⟨x, s1, m1, hm⟩ := B_some hm
  obtain ⟨c, hg, hm⟩ := BL_some hm
  obtain ⟨rfl, rfl⟩ := P_some hm
  refine sE_of (pe_not (pE X a)) (h.run hE hR hA m1 _ fun v H1 F1 st1 a1 r1 => ?_)
  rw [boolD_some hg] at r1
  cases r1
  exact ⟨c, rfl, k _ H1 F1 st1 a1 (.bl (!c))⟩⟩
theorem je_if (hc : JT X T c ρ ta) (ha : JE X T a ρ ma) (hb : JE X T b ρ mb) : JE X T (.IfExp c a b pos) ρ (B ta fun x => if x then ma else mb) := ⟨fun {σ H F s d s'} hE hR hA hm Q k => by
  obtain ⟨x, s1, m1, hm⟩ := B_some hm
  refine sE_of (pe_ifExp (pT X c) (pE X a) (pE X b)) (hc.run hE hR hA m1 _ fun H1 F1 st1 a1 => ?_)
  cases x with
  | true => exact ha.run st1.hf (hR.step st1) a1 hm Q fun v H2 F2 st2 a2 r2 => k v H2 F2 (st1.trans st2) a2 r2
  | false => exact hb.run st1.hf (hR.step st1) a1 hm Q fun v H2 F2 st2 a2 r2 => k v H2 F2 (st1.trans st2) a2 r2⟩
theorem jv_if (hc : JT X T c ρ ta) (ha : JV X T a ρ ma) (hb : JV X T b ρ mb) : JV X T (.IfExp c a b pos) ρ (B ta fun x => if x then ma else mb) := ⟨fun {σ H F s d s'} hE hR hA hm Q k => by
  obtain ⟨x, s1, m1, hm⟩ := B_some hm
  refine sE_of (pe_ifExp (pT X c) (pE X a) (pE X b)) (hc.run hE hR hA m1 _ fun H1 F1 st1 a1 => ?_)
  cases x with
  | true => exact ha.run st1.hf (hR.step st1) a1 hm Q fun v H2 F2 st2 a2 r2 => k v H2 F2 (st1.trans st2) a2 r2
  | false => exact hb.run st1.hf (hR.step st1) a1 hm Q fun v H2 F2 st2 a2 r2 => k v H2 F2 (st1.trans st2) a2 r2⟩
end

/-! ### arguments, calls, displays -/
def seqD : D → Option (List D)
  | .list xs => some xs
  | .tuple xs => some xs
  | _ => none
theorem Rv.seq {T : Addr → Prop} {H F : Hp} {K : PySem.W.Frag} (e : Ex H F) {v : V} {d : D} (h : Rv T H F v d) {ds : List D} (hd : seqD d = some ds) : ∃ a vs, v = .ref a ∧ Rps H vs ds ∧ ((d = .list ds ∧ F a = some (.lst vs)) ∨ (d = .tuple ds ∧ Tp F a vs ∧ Tp H a vs)) := by
  rcases h with h | ⟨p, vs, es, h1, h2, h3, h4, h5, h6⟩
  · cases h with
    | lst h r => cases hd; exact ⟨_, _, rfl, r, .inl ⟨rfl, e _ _ h⟩⟩
    | tup h r => cases hd; exact ⟨_, _, rfl, r, .inr ⟨rfl, h.mono e, h⟩⟩
    | non => cases hd
    | bl _ => cases hd
    | int _ => cases hd
    | str _ => cases hd
    | dic _ _ => cases hd
  · subst h1 h2
    cases hd
    exact ⟨_, _, rfl, h6, .inl ⟨rfl, h5⟩⟩
def tupD (ds : List D) : Option D := if ds.length ≤ 16777216 then some (.tuple ds) else none
def lstD (ds : List D) : Option D := if ds.length ≤ 16777216 then some (.list ds) else none
theorem tupD_some {ds : List D} {d : D} (h : tupD ds = some d) : ds.length ≤ sizeLine ∧ d = .tuple ds := by
  unfold tupD at h
  split at h
  · cases h
    exact ⟨by rw [sizeLine_eq]; assumption, rfl⟩
  · cases h
theorem lstD_some {ds : List D} {d : D} (h : lstD ds = some d) : ds.length ≤ sizeLine ∧ d = .list ds := by
  unfold lstD at h
  split at h
  · cases h
    exact ⟨by rw [sizeLine_eq]; assumption, rfl⟩
  · cases h
section
variable {X : Cx} {S β : Type} {T : Tie S} {ρ : List Sl} {me : M S D} {m : M S β} {e : Expr} {es : List Expr} {k : List D → M S β} {f : D → M S β} {g : List D → M S β} {p pos : Pos}
theorem ja_nil : JA X T [] ρ k (k []) := ⟨fun {σ H F s b s'} hE hR hA hm Q q => sA_of pa_nil (q [] [] s H F (.refl hE) hA .nil hm)⟩
theorem jav_nil : JAV X T [] ρ k (k []) := ⟨fun {σ H F s b s'} hE hR hA hm Q q => sA_of pa_nil (q [] [] s H F (.refl hE) hA .nil hm)⟩
theorem ja_cons (h : JE X T e ρ me) (hr : ∀ d, JA X T es ρ (fun ds => k (d :: ds)) (f d)) (hs : starEach (e :: es) X.env = (false, eval e X.env) :: starEach es X.env := by rfl) : JA X T (e :: es) ρ k (B me f) := ⟨fun {σ H F s b s'} hE hR hA hm Q q => by
  obtain ⟨x, s1, m1, hm⟩ := B_some hm
  refine sA_of (pa_cons (pE X e) (pA X es) hs) (h.run hE hR hA m1 _ fun v H1 F1 st1 a1 r1 => (hr x).run st1.hf (hR.step st1) a1 hm _ fun vs ds s2 H2 F2 st2 a2 r2 hk => ?_)
  exact q (v :: vs) (x :: ds) s2 H2 F2 (st1.trans st2) a2 (.cons (r1.mono st2.hh) r2) hk⟩
theorem jav_cons (h : JV X T e ρ me) (hr : ∀ d, JAV X T es ρ (fun ds => k (d :: ds)) (f d)) (hs : starEach (e :: es) X.env = (false, eval e X.env) :: starEach es X.env := by rfl) : JAV X T (e :: es) ρ k (B me f) := ⟨fun {σ H F s b s'} hE hR hA hm Q q => by
  obtain ⟨x, s1, m1, hm⟩ := B_some hm
  refine sA_of (pa_cons (pE X e) (pA X es) hs) (h.run hE hR hA m1 _ fun v H1 F1 st1 a1 r1 => (hr x).run st1.hf (hR.step st1) a1 hm _ fun vs ds s2 H2 F2 st2 a2 r2 hk => ?_)
  exact q (v :: vs) (x :: ds) s2 H2 F2 (st1.trans st2) a2 (.cons (r1.step st2) r2) hk⟩
theorem ja_star (h : JV X T e ρ me) (hr : ∀ xs, JA X T es ρ (fun ds => k (xs ++ ds)) (g xs)) (hs : starEach (.Starred e p :: es) X.env = (true, eval e X.env) :: starEach es X.env := by rfl) : JA X T (.Starred e p :: es) ρ k (B me fun d => B (L (seqD d)) g) := ⟨fun {σ H F s b s'} hE hR hA hm Q q => by
  obtain ⟨x, s1, m1, hm⟩ := B_some hm
  obtain ⟨xs, hg, hm⟩ := BL_some hm
  refine sA_of (StX.pa_star (pE X e) (pA X es) hs) (h.run hE hR hA m1 _ fun v H1 F1 st1 a1 r1 => ?_)
  obtain ⟨a, vs, rfl, r, hh⟩ := r1.seq (K := X.K) st1.hf hg
  refine ⟨a, vs, rfl, ?_, (hr xs).run st1.hf (hR.step st1) a1 hm _ fun ws ds s2 H2 F2 st2 a2 r2 hk => ?_⟩
  · rcases hh with ⟨_, h⟩ | ⟨_, h, _⟩
    · exact .inr (SqL.of h)
    · exact .inl h.sq
  · exact q (vs ++ ws) (xs ++ ds) s2 H2 F2 (st1.trans st2) a2 ((r.mono st2.hh).append r2) hk⟩
end
/-- a built-in by its values -/
def CallD (X : Cx) (f : Value) (g : List D → Option D) : Prop := ∃ r : List V → Hp → VK → Prop, CallR X f r ∧
  ∀ (T : Addr → Prop) (H F : Hp) (vs : List V) (ds : List D) (d : D) (Q : VK), Ex H F → Rvs T H F vs ds → g ds = some d → (∀ v H' F', Stq H F H' F' → Rp H' v d → Q v F') → r vs F Q
/-- what a def of the text promises: its mirror -/
def spF (TT : List (Addr × Str)) (f : List D → Option D) : Sp := fun vs F Q _ => ∃ H ds r, Ex H F ∧ TabsOk TT H F ∧ Rps H vs ds ∧ f ds = some r ∧ ∀ v H' F', StT TT H F H' F' → TabsOk TT H' F' → Rp H' v r → Q v F'
/-- .. one that is given the carried state's list -/
def spP (TT : List (Addr × Str)) (f : List D → M Pot D) : Sp := fun vs F Q _ => ∃ p ws H ds s r s', vs = .ref p :: ws ∧ Ex H F ∧ (tieP TT p).at_ s H F ∧ Rps H ws ds ∧ f ds s = some (r, s') ∧
  ∀ v H' F', Stp (tieP TT p).pt H F H' F' → (tieP TT p).at_ s' H' F' → Rp H' v r → Q v F'
section
variable {X : Cx} {S : Type} {T : Tie S} {ρ : List Sl} {m : M S D} {e : Expr} {es : List Expr} {p pos : Pos} {x : Str} {id : String} {g : List D → Option D}
theorem je_callB (hc : CallD X (.builtin id) g) (hg : Gl X x) (hm : X.mg x = none) (hv : bootBuiltins x = some (.builtin id)) (ha : JAV X T (e :: es) ρ (fun ds => L (g ds)) m) (hn : x ≠ "__name__" := by decide) (hdb : (x == ("__debug__" : Str)) = false := by decide)
    (he : starEach (e :: es) X.env = (false, eval e X.env) :: starEach es X.env := by rfl) (hpl : (backTo pos (starEach es X.env)).any (·.1) = false := by rfl) : JE X T (.Call (.Name x p) (e :: es) [] pos) ρ m := by
  obtain ⟨r, h1, h2⟩ := hc
  refine ⟨fun {σ H F s d s'} hE hR hA hm' Q k => sE_of (pe_callB h1 hg hm hv (pA X (e :: es)) hn hdb he hpl) (ha.run hE hR hA hm' _ fun vs ds s1 H1 F1 st1 a1 r1 hk => ?_)⟩
  obtain ⟨hg', rfl⟩ := L_some hk
  exact h2 T.pt H1 F1 vs ds d Q st1.hf r1 hg' fun v H2 F2 st2 r2 => k v H2 F2 (st1.trans (st2.up a1)) (st2.at a1) r2
theorem je_callTy (hc : CallD X (.type id) g) (hg : Gl X x) (hm : X.mg x = none) (hv : bootBuiltins x = some (.type id)) (ha : JAV X T (e :: es) ρ (fun ds => L (g ds)) m) (hn : x ≠ "__name__" := by decide) (hdb : (x == ("__debug__" : Str)) = false := by decide)
    (he : starEach (e :: es) X.env = (false, eval e X.env) :: starEach es X.env := by rfl) (hpl : (backTo pos (starEach es X.env)).any (·.1) = false := by rfl) : JE X T (.Call (.Name x p) (e :: es) [] pos) ρ m := by
  obtain ⟨r, h1, h2⟩ := hc
  refine ⟨fun {σ H F s d s'} hE hR hA hm' Q k => sE_of (pe_callTy h1 hg hm hv (pA X (e :: es)) hn hdb he hpl) (ha.run hE hR hA hm' _ fun vs ds s1 H1 F1 st1 a1 r1 hk => ?_)⟩
  obtain ⟨hg', rfl⟩ := L_some hk
  exact h2 T.pt H1 F1 vs ds d Q st1.hf r1 hg' fun v H2 F2 st2 r2 => k v H2 F2 (st1.trans (st2.up a1)) (st2.at a1) r2
theorem je_tup {x1} (ha : JA X T es ρ (fun ds => L (tupD ds)) m) : JE X T (.Tuple es x1 pos) ρ m := ⟨fun {σ H F s d s'} hE hR hA hm Q k => by
  refine sE_of (pe_tupP (pA X es)) (ha.run hE hR hA hm _ fun vs ds s1 H1 F1 st1 a1 r1 hk => ?_)
  obtain ⟨hg, rfl⟩ := L_some hk
  obtain ⟨hz, rfl⟩ := tupD_some hg
  refine ⟨by rw [r1.length]; exact hz, fun q ob hq hd => ?_⟩
  have nt : ¬ T.pt q := fun z => T.used _ _ _ q a1 z hq
  have st2 : Stq H1 F1 (upd H1 q (.frz ob (.tup vs))) (upd F1 q (.frz ob (.tup vs))) := .new st1.hf hq fun z => z
  exact k _ _ _ (st1.trans (st2.up a1)) (st2.at a1) (.tup (.new hd) (r1.mono st2.hh))⟩
theorem je_lst (ha : JA X T es ρ (fun ds => L (lstD ds)) m) : JE X T (.List es pos) ρ m := ⟨fun {σ H F s d s'} hE hR hA hm Q k => by
  refine sE_of (pe_lst (pA X es)) (ha.run hE hR hA hm _ fun vs ds s1 H1 F1 st1 a1 r1 hk => ?_)
  obtain ⟨hg, rfl⟩ := L_some hk
  obtain ⟨hz, rfl⟩ := lstD_some hg
  refine ⟨by rw [r1.length]; exact hz, fun q hq => ?_⟩
  have st2 : Stq H1 F1 (upd H1 q (.lst vs)) (upd F1 q (.lst vs)) := .new st1.hf hq fun z => z
  exact k _ _ _ (st1.trans (st2.up a1)) (st2.at a1) (.lst upd_same (r1.mono st2.hh))⟩
/-- a def of the text, called -/
theorem je_call {CX : CXT} {kk : Nat} {f : Addr} {fd : FuncData} {ps : List Str} {mf : List D → Option D} {E : XK} (Fo : FnOk X.prog X.w X.K X.mg X.base CX kk f fd ps (spF T.tb mf)) (hr : Room kk X.A) (hg : Gl X x) (hm : X.mg x = some (.ref f)) (hk : PySem.W.keepIn X.K (.ref f) = true)
    (hb : Binds X.K fd ps []) (hx : Passes CX X E) (ha : JA X T (e :: es) ρ (fun ds => L (mf ds)) m) (hdb : (x == ("__debug__" : Str)) = false := by decide)
    (he : starEach (e :: es) X.env = (false, eval e X.env) :: starEach es X.env := by rfl) (hpl : (backTo pos (starEach es X.env)).any (·.1) = false := by rfl) : JE X T (.Call (.Name x p) (e :: es) [] pos) ρ m := ⟨fun {σ H F s d s'} hE hR hA hm' Q k => by
  refine sE_of (pe_call Fo hr hg hm hk hb .nil hx (pA X (e :: es)) hdb he hpl) (ha.run hE hR hA hm' _ fun vs ds s1 H1 F1 st1 a1 r1 hk' => ?_)
  obtain ⟨hg', rfl⟩ := L_some hk'
  show spF T.tb mf (vs ++ []) F1 Q E
  rw [List.append_nil]
  exact ⟨H1, ds, d, st1.hf, T.tabs _ _ _ a1, r1, hg', fun v H2 F2 st2 t2 r2 => k v H2 F2 (st1.trans (T.upT a1 st2)) (T.part _ _ _ _ _ a1 st2 t2) r2⟩⟩
/-- .. given the carried state -/
theorem je_callP {TT : List (Addr × Str)} {q : Addr} {m : M Pot D} {CX : CXT} {kk i : Nat} {f : Addr} {fd : FuncData} {ps : List Str} {mf : List D → M Pot D} {E : XK} {y : Str} {pos' : Pos} (Fo : FnOk X.prog X.w X.K X.mg X.base CX kk f fd ps (spP TT mf)) (hr : Room kk X.A) (hg : Gl X x) (hm : X.mg x = some (.ref f)) (hk : PySem.W.keepIn X.K (.ref f) = true)
    (hb : Binds X.K fd ps []) (hx : Passes CX X E) (hN : X.N[i]? = some y) (hv : Vis X.env.scope y) (hρ : ρ[i]? = some .pot) (ha : JA X (tieP TT q) es ρ mf m) (hdb : (x == ("__debug__" : Str)) = false := by decide) (hd : (y == ("__debug__" : Str)) = false := by decide) (hcd : (y == ("__classdict__" : Str)) = false := by decide)
    (he : starEach (.Name y pos' :: es) X.env = (false, eval (.Name y pos') X.env) :: starEach es X.env := by rfl) (hpl : (backTo pos (starEach es X.env)).any (·.1) = false := by rfl) : JE X (tieP TT q) (.Call (.Name x p) (.Name y pos' :: es) [] pos) ρ m := ⟨fun {σ H F s d s'} hE hR hA hm' Q k => by
  refine sE_of (pe_call Fo hr hg hm hk hb .nil hx (pa_cons (pe_var hN hv hd hcd) (pA X es) he) hdb he hpl) ?_
  obtain ⟨ov, h1, p', rfl, h2⟩ := hR.at_ i _ hρ
  refine ⟨_, h1, ha.run hE hR hA hm' _ fun vs ds s1 H1 F1 st1 a1 r1 hk' => ?_⟩
  show spP TT mf ((V.ref p' :: vs) ++ []) F1 Q E
  rw [List.append_nil]
  have e : p' = q := h2
  subst e
  exact ⟨p', vs, H1, ds, s1, d, s', rfl, st1.hf, a1, r1, hk', fun v H2 F2 st2 a2 r2 => k v H2 F2 (st1.trans st2) a2 r2⟩⟩
end

/-! ### subscripts -/
def ixD : D → D → Option D
  | .list xs, .int i => atI xs i
  | .tuple xs, .int i => atI xs i
  | .str z, .int i => if z.length ≤ 16777216 then (atI z.cps.toList i).map fun c => .str ⟨#[c]⟩ else none
  | _, _ => none
theorem Rps.atI {H : Hp} {vs : List V} {ds : List D} {i : Int} {d : D} (r : Rps H vs ds) (h : L2.atI ds i = some d) : ∃ v, L2.atI vs i = some v ∧ Rp H v d := by
  unfold L2.atI at h ⊢
  rw [r.length]
  cases e : ixN ds.length i with
  | none => rw [e] at h; cases h
  | some j =>
    rw [e] at h
    obtain ⟨v, h1, h2⟩ := r.get (i := j) h
    exact ⟨v, h1, h2⟩
def partD : D → Option Int
  | .int i => some i
  | _ => none
def cutL {α : Type} (xs : List α) (lo hi : Option Int) : List α := (xs.drop (HT.sIx xs.length 0 lo)).take (HT.sIx xs.length xs.length hi - HT.sIx xs.length 0 lo)
def sliceD : D → Option Int → Option Int → Option D
  | .list xs, lo, hi => some (.list (cutL xs lo hi))
  | .tuple xs, lo, hi => some (.tuple (cutL xs lo hi))
  | _, _, _ => none
theorem Rps.cut {H : Hp} {vs : List V} {ds : List D} (r : Rps H vs ds) (lo hi : Option Int) : Rps H (cutV vs lo hi) (cutL ds lo hi) := by
  unfold cutV cutL
  rw [r.length]
  exact (r.drop _).take _
theorem cut_whole {xs : List V} {lo hi : Option Int} (h : HT.sIx xs.length 0 lo = 0 ∧ HT.sIx xs.length xs.length hi = xs.length) : cutV xs lo hi = xs := by
  unfold cutV
  rw [h.1, h.2, List.drop_zero, Nat.sub_zero, List.take_length]
/-- a slice's part -/
def JO (X : Cx) {S : Type} (T : Tie S) (e : Option Expr) (ρ : List Sl) (m : M S (Option Int)) : Prop :=
  ∃ t : TO, PO X e t ∧ ∀ {σ : L2.St} {H F : Hp} {s : S} {d : Option Int} {s' : S}, Ex H F → EnvR X.K T ρ σ H F → T.at_ s H F → m s = some (d, s') →
    ∀ Q : Option Int → Hp → Prop, (∀ H' F', Stp T.pt H F H' F' → T.at_ s' H' F' → Q d F') → t σ F Q
section
variable {X : Cx} {S : Type} {T : Tie S} {ρ : List Sl} {ma mb m : M S D} {a b e : Expr} {lo hi : Option Expr} {ml mh : M S (Option Int)} {pos p2 : Pos}
theorem je_ix (ha : JV X T a ρ ma) (hb : JE X T b ρ mb) (hs : PlainIx b := by intro _ _; rfl) : JE X T (.Subscript a b pos) ρ (B ma fun x => B mb fun y => L (ixD x y)) := ⟨fun {σ H F s d s'} hE hR hA hm Q k => by
  obtain ⟨x, s1, m1, hm⟩ := B_some hm
  obtain ⟨y, s2, m2, hm⟩ := B_some hm
  obtain ⟨hg, rfl⟩ := L_some hm
  refine sE_of (pe_ix ix_seq (pE X a) (pE X b) hs) (ha.run hE hR hA m1 _ fun v H1 F1 st1 a1 r1 => hb.run st1.hf (hR.step st1) a1 m2 _ fun u H2 F2 st2 a2 r2 => ?_)
  have r1 := r1.step st2
  have st := st1.trans st2
  cases y with
  | int i =>
    cases r2
    cases x with
    | list xs =>
      obtain ⟨p, vs, rfl, r, hh⟩ := r1.seq (K := X.K) st2.hf (ds := _) rfl
      rcases hh with ⟨_, hh⟩ | ⟨z, _⟩
      · obtain ⟨w, hw, rw'⟩ := r.atI hg
        exact .inl ⟨p, vs, _, w, rfl, rfl, SqL.of hh, hw, k w H2 F2 st a2 rw'⟩
      · cases z
    | tuple xs =>
      obtain ⟨p, vs, rfl, r, hh⟩ := r1.seq (K := X.K) st2.hf (ds := _) rfl
      rcases hh with ⟨z, _⟩ | ⟨_, hh, _⟩
      · cases z
      · obtain ⟨w, hw, rw'⟩ := r.atI hg
        exact .inr (.inl ⟨p, vs, _, w, rfl, rfl, hh.sq, hw, k w H2 F2 st a2 rw'⟩)
    | str z =>
      have r1' := r1.full st2.hf
      cases r1'
      have hg : (if z.length ≤ 16777216 then (L2.atI z.cps.toList i).map fun c => PyData.str ⟨#[c]⟩ else none) = some d := hg
      by_cases hz : z.length ≤ 16777216
      · rw [if_pos hz] at hg
        cases e : L2.atI z.cps.toList i with
        | none => rw [e] at hg; cases hg
        | some c =>
          rw [e] at hg
          cases hg
          exact .inr (.inr ⟨z, i, c, rfl, rfl, by rw [sizeLine_eq]; exact hz, e, k _ H2 F2 st a2 (.str _)⟩)
      · rw [if_neg hz] at hg
        cases hg
    | _ => cases hg
  | _ => cases x <;> cases hg⟩
theorem jo_none : JO X T none ρ (P none) := ⟨tNoPart, po_none, fun {σ H F s d s'} hE hR hA hm Q k => by
  obtain ⟨rfl, rfl⟩ := P_some hm
  exact k H F (.refl hE) hA⟩
theorem jo_some (h : JE X T e ρ m) : JO X T (some e) ρ (B m fun x => B (L (partD x)) fun i => P (some i)) := ⟨_, po_some (pE X e), fun {σ H F s d s'} hE hR hA hm Q k => by
  obtain ⟨x, s1, m1, hm⟩ := B_some hm
  obtain ⟨i, hg, hm⟩ := BL_some hm
  obtain ⟨rfl, rfl⟩ := P_some hm
  refine h.run hE hR hA m1 _ fun v H1 F1 st1 a1 r1 => ?_
  cases x with
  | int j =>
    cases hg
    cases r1
    exact ⟨_, rfl, k H1 F1 st1 a1⟩
  | _ => cases hg⟩
theorem je_slice (he : JV X T e ρ m) (hl : JO X T lo ρ ml) (hh : JO X T hi ρ mh) : JE X T (.Subscript e (.Slice lo hi none p2) pos) ρ (B m fun x => B ml fun l => B mh fun h => L (sliceD x l h)) := by
  obtain ⟨tl, pl, hl⟩ := hl
  obtain ⟨th, ph, hh⟩ := hh
  refine ⟨fun {σ H F s d s'} hE hR hA hm Q k => ?_⟩
  obtain ⟨x, s1, m1, hm⟩ := B_some hm
  obtain ⟨l, s2, m2, hm⟩ := B_some hm
  obtain ⟨h, s3, m3, hm⟩ := B_some hm
  obtain ⟨hg, rfl⟩ := L_some hm
  refine sE_of (pe_slice (sl_list.or sl_tupP) (pE X e) pl ph) (he.run hE hR hA m1 _ fun v H1 F1 st1 a1 r1 => hl st1.hf (hR.step st1) a1 m2 _ fun H2 F2 st2 a2 => hh st2.hf (hR.step (st1.trans st2)) a2 m3 _ fun H3 F3 st3 a3 => ?_)
  have st := (st1.trans st2).trans st3
  have r := (r1.step st2).step st3
  unfold sliceD at hg
  split at hg
  · cases hg
    obtain ⟨p, vs, rfl, r, hh⟩ := r.seq (K := X.K) st3.hf (ds := _) rfl
    rcases hh with ⟨_, hh⟩ | ⟨z, _⟩
    · refine .inl ⟨p, vs, rfl, SqL.of hh, fun q hq => ?_⟩
      have st4 : Stq H3 F3 (upd H3 q (.lst (cutV vs l h))) (upd F3 q (.lst (cutV vs l h))) := .new st3.hf hq fun z => z
      exact k _ _ _ (st.trans (st4.up a3)) (st4.at a3) (.lst upd_same ((r.cut l h).mono st4.hh))
    · cases z
  · cases hg
    obtain ⟨p, vs, rfl, r, hh⟩ := r.seq (K := X.K) st3.hf (ds := _) rfl
    rcases hh with ⟨z, _⟩ | ⟨_, hh, h2⟩
    · cases z
    · refine .inr ⟨p, vs, rfl, hh.sq, fun w => ?_, fun _ q ob hq hd => ?_⟩
      · have e := cut_whole w
        have rc := r.cut l h
        rw [e] at rc
        exact k _ _ _ st a3 (.tup h2 rc)
      · have st4 : Stq H3 F3 (upd H3 q (.frz ob (.tup (cutV vs l h)))) (upd F3 q (.frz ob (.tup (cutV vs l h)))) := .new st3.hf hq fun z => z
        exact k _ _ _ (st.trans (st4.up a3)) (st4.at a3) (.tup (.new hd) ((r.cut l h).mono st4.hh))
  · cases hg
end
end DL

set_option Elab.async false
set_option linter.all false
set_option maxRecDepth 100000
set_option maxHeartbeats 2000000
/-! DLComp: what is walked, targets, list comprehensions. -/
namespace DL
open PySem PySem.Spec PyProof.Rows L2

/-! ### targets -/
inductive Sh where
  | n (i : Nat)
  | t2 (a b : Sh)
  | t3 (a b c : Sh)
  | t4 (a b c d : Sh)
def gSh (K : PySem.W.Frag) : Sh → TG
  | .n i => gName i
  | .t2 a b => gTup K 2 (gCons (gSh K a) (gCons (gSh K b) gNil))
  | .t3 a b c => gTup K 3 (gCons (gSh K a) (gCons (gSh K b) (gCons (gSh K c) gNil)))
  | .t4 a b c d => gTup K 4 (gCons (gSh K a) (gCons (gSh K b) (gCons (gSh K c) (gCons (gSh K d) gNil))))
def Sh.ix : Sh → List Nat
  | .n i => [i]
  | .t2 a b => a.ix ++ b.ix
  | .t3 a b c => a.ix ++ b.ix ++ c.ix
  | .t4 a b c d => a.ix ++ b.ix ++ c.ix ++ d.ix
def Sh.bind : Sh → D → List Sl → Option (List Sl)
  | .n i, d, ρ => some (ρ.set i (.val d))
  | .t2 a b, .tuple [x, y], ρ => (a.bind x ρ).bind fun ρ => b.bind y ρ
  | .t3 a b c, .tuple [x, y, z], ρ => (a.bind x ρ).bind fun ρ => (b.bind y ρ).bind fun ρ => c.bind z ρ
  | .t4 a b c d, .tuple [x, y, z, u], ρ => (a.bind x ρ).bind fun ρ => (b.bind y ρ).bind fun ρ => (c.bind z ρ).bind fun ρ => d.bind u ρ
  | _, _, _ => none
/-- a tuple of which nothing more is known -/
def Rt (H : Hp) (v : V) (d : D) : Prop := ∃ a vs ds, v = .ref a ∧ d = .tuple ds ∧ H a = some (.tup vs) ∧ Rps H vs ds
def Sh.tupy : Sh → Bool
  | .n _ => false
  | _ => true
def isTupE : Expr → Bool
  | .Tuple _ _ _ => true
  | _ => false
def tupOk (tg : Expr) (sh : Sh) : Bool := !isTupE tg || sh.tupy
theorem tupOk_some {tg : Expr} {sh : Sh} (h : tupOk tg sh = true) (b : isTupE tg = true) : sh.tupy = true := by
  unfold tupOk at h
  rw [b] at h
  exact h
def Rq (b : Bool) (H : Hp) (v : V) (d : D) : Prop := Rp H v d ∨ (b = true ∧ Rt H v d)
theorem Rq.tup {b : Bool} {H : Hp} {v : V} {ds : List D} (r : Rq b H v (.tuple ds)) : ∃ a vs, v = .ref a ∧ (∀ (K : PySem.W.Frag) (F : Hp), Ex H F → SqT K F a vs) ∧ Rps H vs ds := by
  rcases r with r | ⟨_, a, vs, ds', h1, h2, h3, h4⟩
  · cases r with
    | tup h r => exact ⟨_, _, rfl, fun K F e => (h.mono e).sq, r⟩
  · cases h2
    exact ⟨a, vs, h1, fun K F e => SqT.of (e _ _ h3), h4⟩
def PGd (X : Cx) (tg : Expr) (sh : Sh) : Prop := PG X tg (gSh X.K sh)
section
variable {X : Cx} {pos : Pos}
theorem pgd_n (i : Nat) {x : Str} (hN : X.N.Nodup) (hi : X.N[i]? = some x) (hx : Loc X.env.scope x) (hf : X.fn x = true ∨ X.env.scope.names.lookup x = some .local := by first | exact .inl rfl | exact .inr rfl | assumption) : PGd X (.Name x pos) (.n i) := pg_name hN hi hx hf
theorem pgd_2 {e1 e2 : Expr} {k : Nat} {a b : Sh} (hc : X.calm = true) (h1 : PGd X e1 a) (h2 : PGd X e2 b) (hs1 : (assignEach [e1, e2] X.env).map (·.2) = assign e1 X.env :: (assignEach [e2] X.env).map (·.2) := by rfl) (hs2 : (assignEach [e2] X.env).map (·.2) = assign e2 X.env :: (assignEach [] X.env).map (·.2) := by rfl)
    (hn : (assignEach [e1, e2] X.env).length = 2 := by rfl) (hst : (assignEach [e1, e2] X.env).findIdx? (·.1) = none := by rfl) : PGd X (.Tuple [e1, e2] k pos) (.t2 a b) := pg_tup hc (pgs_cons h1 (pgs_cons h2 pgs_nil hs2) hs1) hn hst
theorem pgd_3 {e1 e2 e3 : Expr} {k : Nat} {a b c : Sh} (hc : X.calm = true) (h1 : PGd X e1 a) (h2 : PGd X e2 b) (h3 : PGd X e3 c) (hs1 : (assignEach [e1, e2, e3] X.env).map (·.2) = assign e1 X.env :: (assignEach [e2, e3] X.env).map (·.2) := by rfl) (hs2 : (assignEach [e2, e3] X.env).map (·.2) = assign e2 X.env :: (assignEach [e3] X.env).map (·.2) := by rfl) (hs3 : (assignEach [e3] X.env).map (·.2) = assign e3 X.env :: (assignEach [] X.env).map (·.2) := by rfl)
    (hn : (assignEach [e1, e2, e3] X.env).length = 3 := by rfl) (hst : (assignEach [e1, e2, e3] X.env).findIdx? (·.1) = none := by rfl) : PGd X (.Tuple [e1, e2, e3] k pos) (.t3 a b c) := pg_tup hc (pgs_cons h1 (pgs_cons h2 (pgs_cons h3 pgs_nil hs3) hs2) hs1) hn hst
end
section
variable {K : PySem.W.Frag} {S : Type} {T : Tie S} {H F : Hp}
theorem Rps.two {vs : List V} {x y : D} (r : Rps H vs [x, y]) : ∃ u v, vs = [u, v] ∧ Rp H u x ∧ Rp H v y := by
  cases r with
  | cons h1 r => cases r with
    | cons h2 r => cases r; exact ⟨_, _, rfl, h1, h2⟩
theorem Rps.three {vs : List V} {x y z : D} (r : Rps H vs [x, y, z]) : ∃ u v w, vs = [u, v, w] ∧ Rp H u x ∧ Rp H v y ∧ Rp H w z := by
  cases r with
  | cons h1 r =>
    obtain ⟨v, w, rfl, h2, h3⟩ := r.two
    exact ⟨_, _, _, rfl, h1, h2, h3⟩
theorem Rps.four {vs : List V} {x y z t : D} (r : Rps H vs [x, y, z, t]) : ∃ u v w o, vs = [u, v, w, o] ∧ Rp H u x ∧ Rp H v y ∧ Rp H w z ∧ Rp H o t := by
  cases r with
  | cons h1 r =>
    obtain ⟨v, w, o, rfl, h2, h3, h4⟩ := r.three
    exact ⟨_, _, _, _, rfl, h1, h2, h3, h4⟩
/-- slots set outside a list are as they were -/
def SameOut (ix : List Nat) (σ σ' : L2.St) : Prop := σ'.length = σ.length ∧ ∀ i, i ∉ ix → σ'[i]? = σ[i]?
theorem SameOut.refl (ix : List Nat) (σ : L2.St) : SameOut ix σ σ := ⟨rfl, fun _ _ => rfl⟩
theorem gSh_run (hE : Ex H F) : ∀ (sh : Sh) {v : V} {d : D} {ρ ρ' : List Sl} {σ : L2.St}, Rq sh.tupy H v d → EnvR K T ρ σ H F → sh.bind d ρ = some ρ' → ∀ Q : L2.St → Hp → Prop, (∀ σ', EnvR K T ρ' σ' H F → SameOut sh.ix σ σ' → Q σ' F) → gSh K sh v σ F Q := by
  intro sh
  induction sh with
  | n i =>
    intro v d ρ ρ' σ r hR hb Q k
    cases hb
    have r : Rp H v d := r.elim id fun z => nomatch z.1
    refine k _ (hR.set r i) ⟨by simp, fun j hj => ?_⟩
    have : i ≠ j := fun e => hj (by simp [Sh.ix, e])
    rw [List.getElem?_set_ne this]
  | t2 a b ha hb' =>
    intro v d ρ ρ' σ r hR hb Q k
    cases d with
    | tuple ds =>
      match ds, hb with
      | [x, y], hb =>
        obtain ⟨a0, vs0, rfl, hsq, r⟩ := r.tup
        · skip
          obtain ⟨u, w, rfl, r1, r2⟩ := r.two
          cases e1 : a.bind x ρ with
          | none => simp [Sh.bind, e1] at hb
          | some ρ1 =>
            have e2 : b.bind y ρ1 = some ρ' := by simpa [Sh.bind, e1] using hb
            refine ⟨_, _, rfl, hsq K F hE, rfl, u, [w], rfl, ha (.inl r1) hR e1 _ fun σ1 hR1 s1 => ⟨w, [], rfl, hb' (.inl r2) hR1 e2 _ fun σ2 hR2 s2 => ⟨rfl, k σ2 hR2 ⟨s2.1.trans s1.1, fun i hi => ?_⟩⟩⟩⟩
            simp only [Sh.ix, List.mem_append, not_or] at hi
            exact (s2.2 i hi.2).trans (s1.2 i hi.1)
    | _ => simp [Sh.bind] at hb
  | t3 a b c ha hb' hc =>
    intro v d ρ ρ' σ r hR hb Q k
    cases d with
    | tuple ds =>
      match ds, hb with
      | [x, y, z], hb =>
        obtain ⟨a0, vs0, rfl, hsq, r⟩ := r.tup
        · skip
          obtain ⟨u, w, o, rfl, r1, r2, r3⟩ := r.three
          cases e1 : a.bind x ρ with
          | none => simp [Sh.bind, e1] at hb
          | some ρ1 =>
            cases e2 : b.bind y ρ1 with
            | none => simp [Sh.bind, e1, e2] at hb
            | some ρ2 =>
              have e3 : c.bind z ρ2 = some ρ' := by simpa [Sh.bind, e1, e2] using hb
              refine ⟨_, _, rfl, hsq K F hE, rfl, u, [w, o], rfl, ha (.inl r1) hR e1 _ fun σ1 hR1 s1 => ⟨w, [o], rfl, hb' (.inl r2) hR1 e2 _ fun σ2 hR2 s2 => ⟨o, [], rfl, hc (.inl r3) hR2 e3 _ fun σ3 hR3 s3 => ⟨rfl, k σ3 hR3 ⟨s3.1.trans (s2.1.trans s1.1), fun i hi => ?_⟩⟩⟩⟩⟩
              simp only [Sh.ix, List.mem_append, not_or] at hi
              exact (s3.2 i hi.2).trans ((s2.2 i hi.1.2).trans (s1.2 i hi.1.1))
    | _ => simp [Sh.bind] at hb
  | t4 a b c d4 ha hb' hc hd =>
    intro v d ρ ρ' σ r hR hb Q k
    cases d with
    | tuple ds =>
      match ds, hb with
      | [x, y, z, t], hb =>
        obtain ⟨a0, vs0, rfl, hsq, r⟩ := r.tup
        · skip
          obtain ⟨u, w, o, o2, rfl, r1, r2, r3, r4⟩ := r.four
          cases e1 : a.bind x ρ with
          | none => simp [Sh.bind, e1] at hb
          | some ρ1 =>
            cases e2 : b.bind y ρ1 with
            | none => simp [Sh.bind, e1, e2] at hb
            | some ρ2 =>
              cases e3 : c.bind z ρ2 with
              | none => simp [Sh.bind, e1, e2, e3] at hb
              | some ρ3 =>
                have e4 : d4.bind t ρ3 = some ρ' := by simpa [Sh.bind, e1, e2, e3] using hb
                refine ⟨_, _, rfl, hsq K F hE, rfl, u, [w, o, o2], rfl, ha (.inl r1) hR e1 _ fun σ1 hR1 s1 => ⟨w, [o, o2], rfl, hb' (.inl r2) hR1 e2 _ fun σ2 hR2 s2 => ⟨o, [o2], rfl, hc (.inl r3) hR2 e3 _ fun σ3 hR3 s3 => ⟨o2, [], rfl, hd (.inl r4) hR3 e4 _ fun σ4 hR4 s4 => ⟨rfl, k σ4 hR4 ⟨s4.1.trans (s3.1.trans (s2.1.trans s1.1)), fun i hi => ?_⟩⟩⟩⟩⟩⟩
                simp only [Sh.ix, List.mem_append, not_or] at hi
                exact (s4.2 i hi.2).trans ((s3.2 i hi.1.2).trans ((s2.2 i hi.1.1.2).trans (s1.2 i hi.1.1.1)))
    | _ => simp [Sh.bind] at hb
end

/-! ### what is walked -/
/-- J gives ds, one by one, while F keeps what stands at U -/
structure WalkD (b : Bool) (U : Addr → Prop) (J : It) (ds : List D) (H F : Hp) : Prop where
  goes : ∀ i H1 F1, Ex H H1 → Ex H1 F1 → (∀ a, U a → F1 a = F a) → i < ds.length → J.go i F1
  stops : ∀ H1 F1, Ex H H1 → Ex H1 F1 → (∀ a, U a → F1 a = F a) → J.stop ds.length F1
  yields : ∀ i H1 F1 x F2, Ex H H1 → Ex H1 F1 → (∀ a, U a → F1 a = F a) → i < ds.length → J.yld i F1 x F2 → ∃ H2 d, Stq H1 F1 H2 F2 ∧ ds[i]? = some d ∧ Rq b H2 x d
/-- the walked thing: pure, if nothing hangs on a list that may still change -/
structure JI (X : Cx) {S : Type} (T : Tie S) (tg iter : Expr) (ρ : List Sl) (pure : Bool) (m : M S (List D)) : Prop where
  run : ∀ {σ : L2.St} {H F : Hp} {s : S} {ds : List D} {s' : S}, Ex H F → EnvR X.K T ρ σ H F → T.at_ s H F → m s = some (ds, s') →
    ∀ R : It → Hp → Prop, (∀ U J H' F', Stp T.pt H F H' F' → T.at_ s' H' F' → (∀ a, U a → ¬ T.pt a ∧ H' a = none ∧ F' a ≠ none) → (pure = true → ∀ a, ¬ U a) → WalkD (isTupE tg) U J ds H' F' → R J F') → sI X tg iter σ F R
theorem walkD_list {b : Bool} {K : PySem.W.Frag} {H F : Hp} {a : Addr} {vs : List V} {ds : List D} {U : Addr → Prop} (hs : ∀ F1, (∀ H1, Ex H H1 → Ex H1 F1 → (∀ a, U a → F1 a = F a) → SqL K F1 a vs)) (r : Rps H vs ds) : WalkD b U (Itl K a) ds H F where
  goes := fun i H1 F1 e1 e2 u hi => ⟨vs, vs[i]'(by rw [r.length]; exact hi), hs F1 H1 e1 e2 u, by simp [r.length, hi]⟩
  stops := fun H1 F1 e1 e2 u => ⟨vs, hs F1 H1 e1 e2 u, by rw [r.length]; exact Nat.le_refl _⟩
  yields := fun i H1 F1 x F2 e1 e2 u hi y => by
    obtain ⟨rfl, f⟩ := y
    obtain ⟨d, h1, h2⟩ := r.getV (f vs (hs F2 H1 e1 e2 u))
    exact ⟨H1, d, .refl e2, h1, .inl (h2.mono e1)⟩
theorem walkD_tup {b : Bool} {K : PySem.W.Frag} {H F : Hp} {a : Addr} {vs : List V} {ds : List D} {U : Addr → Prop} (hs : ∀ F1, (∀ H1, Ex H H1 → Ex H1 F1 → (∀ a, U a → F1 a = F a) → SqT K F1 a vs)) (r : Rps H vs ds) : WalkD b U (Itt K a) ds H F where
  goes := fun i H1 F1 e1 e2 u hi => ⟨vs, vs[i]'(by rw [r.length]; exact hi), hs F1 H1 e1 e2 u, by simp [r.length, hi]⟩
  stops := fun H1 F1 e1 e2 u => ⟨vs, hs F1 H1 e1 e2 u, by rw [r.length]; exact Nat.le_refl _⟩
  yields := fun i H1 F1 x F2 e1 e2 u hi y => by
    obtain ⟨rfl, f⟩ := y
    obtain ⟨d, h1, h2⟩ := r.getV (f vs (hs F2 H1 e1 e2 u))
    exact ⟨H1, d, .refl e2, h1, .inl (h2.mono e1)⟩
theorem PI.or {X : Cx} {tg e : Expr} {w1 w2 : TI} (h1 : PI X tg e w1) (h2 : PI X tg e w2) : PI X tg e (fun σ H R => w1 σ H R ∨ w2 σ H R) := ⟨fun pins s σ H R I h => h.elim (h1.run pins s σ H R I) (h2.run pins s σ H R I)⟩
section
variable {X : Cx} {S : Type} {T : Tie S} {ρ : List Sl} {m : M S D} {tg e : Expr} {pos p : Pos}
/-- over a list or a tuple -/
theorem ji_seq (h : JE X T e ρ m) : JI X T tg e ρ true (B m fun x => L (seqD x)) := ⟨fun {σ H F s ds s'} hE hR hA hm R k => by
  obtain ⟨x, s1, m1, hm⟩ := B_some hm
  obtain ⟨hg, rfl⟩ := L_some hm
  refine sI_of (PI.or (pi_list (pE X e)) (pi_tup (pE X e))) ?_
  cases x with
  | list xs =>
    cases hg
    refine .inl (h.run hE hR hA m1 _ fun v H1 F1 st1 a1 r1 => ?_)
    cases r1 with
    | lst ha r => exact ⟨_, rfl, ⟨_, SqL.of (st1.hf _ _ ha)⟩, k (fun _ => False) _ H1 F1 st1 a1 (fun _ h => h.elim) (fun _ _ h => h) (walkD_list (fun F2 H2 e1 e2 _ => SqL.of (e2 _ _ (e1 _ _ ha))) r)⟩
  | tuple xs =>
    cases hg
    refine .inr (h.run hE hR hA m1 _ fun v H1 F1 st1 a1 r1 => ?_)
    cases r1 with
    | tup ha r => exact ⟨_, rfl, ⟨_, (ha.mono st1.hf).sq⟩, k (fun _ => False) _ H1 F1 st1 a1 (fun _ h => h.elim) (fun _ _ h => h) (walkD_tup (fun F2 H2 e1 e2 _ => ((ha.mono e1).mono e2).sq) r)⟩
  | _ => cases hg⟩
/-- over a view -/
theorem ji_view (h : JV X T e ρ m) : JI X T tg e ρ false (B m fun x => L (seqD x)) := ⟨fun {σ H F s ds s'} hE hR hA hm R k => by
  obtain ⟨x, s1, m1, hm⟩ := B_some hm
  obtain ⟨hg, rfl⟩ := L_some hm
  refine sI_of (PI.or (pi_list (pE X e)) (pi_tup (pE X e))) ?_
  cases x with
  | list xs =>
    cases hg
    refine .inl (h.run hE hR hA m1 _ fun v H1 F1 st1 a1 r1 => ?_)
    rcases r1 with r1 | ⟨q, vs, es, rfl, ed, h1, h2, h3, h4⟩
    · cases r1 with
      | lst ha r => exact ⟨_, rfl, ⟨_, SqL.of (st1.hf _ _ ha)⟩, k (fun _ => False) _ H1 F1 st1 a1 (fun _ h => h.elim) (fun _ _ h => h) (walkD_list (fun F2 H2 e1 e2 _ => SqL.of (e2 _ _ (e1 _ _ ha))) r)⟩
    · cases ed
      exact ⟨_, rfl, ⟨_, SqL.of h3⟩, k (fun a => a = q) _ H1 F1 st1 a1 (fun a ea => by subst ea; exact ⟨h2, h1, by rw [h3]; simp⟩) (fun z => Bool.noConfusion z) (walkD_list (fun F2 H2 e1 e2 u => SqL.of ((u q rfl).trans h3)) h4)⟩
  | tuple xs =>
    cases hg
    refine .inr (h.run hE hR hA m1 _ fun v H1 F1 st1 a1 r1 => ?_)
    rcases r1 with r1 | ⟨q, vs, es, rfl, ed, _⟩
    · cases r1 with
      | tup ha r => exact ⟨_, rfl, ⟨_, (ha.mono st1.hf).sq⟩, k (fun _ => False) _ H1 F1 st1 a1 (fun _ h => h.elim) (fun _ _ h => h) (walkD_tup (fun F2 H2 e1 e2 _ => ((ha.mono e1).mono e2).sq) r)⟩
    · cases ed
  | _ => cases hg⟩
/-- ranges -/
def rgL (lo hi : Int) : List D := (List.range (hi - lo).toNat).map fun i => .int (lo + (i : Nat))
theorem rgL_length (lo hi : Int) : (rgL lo hi).length = (hi - lo).toNat := by simp [rgL]
theorem rgL_get {lo hi : Int} {i : Nat} (h : i < (hi - lo).toNat) : (rgL lo hi)[i]? = some (.int (lo + (i : Nat))) := by simp [rgL, h]
def range1L : List D → Option (List D)
  | [.int j] => if -(2 ^ 62) ≤ j ∧ j < 2 ^ 62 then some (rgL 0 j) else none
  | _ => none
def range2L : List D → Option (List D)
  | [.int i, .int j] => if -(2 ^ 62) ≤ i ∧ i < 2 ^ 62 ∧ -(2 ^ 62) ≤ j ∧ j < 2 ^ 62 then some (rgL i j) else none
  | _ => none
theorem range1L_some {ds : List D} {r : List D} (h : range1L ds = some r) : ∃ j, ds = [.int j] ∧ -(2 ^ 62) ≤ j ∧ j < 2 ^ 62 ∧ r = rgL 0 j := by
  unfold range1L at h
  split at h
  · split at h
    · cases h
      rename_i c
      exact ⟨_, rfl, c.1, c.2, rfl⟩
    · cases h
  · cases h
theorem range2L_some {ds : List D} {r : List D} (h : range2L ds = some r) : ∃ i j, ds = [.int i, .int j] ∧ (-(2 ^ 62) ≤ i ∧ i < 2 ^ 62 ∧ -(2 ^ 62) ≤ j ∧ j < 2 ^ 62) ∧ r = rgL i j := by
  unfold range2L at h
  split at h
  · split at h
    · cases h
      exact ⟨_, _, rfl, by assumption, rfl⟩
    · cases h
  · cases h
theorem walkD_range {b : Bool} {H F : Hp} {lo hi : Int} : WalkD b (fun _ => False) (Itr lo (hi - lo).toNat) (rgL lo hi) H F where
  goes := fun i H1 F1 e1 e2 u h => by rw [rgL_length] at h; exact h
  stops := fun H1 F1 e1 e2 u => by rw [rgL_length]; exact Nat.le_refl _
  yields := fun i H1 F1 x F2 e1 e2 u h y => by
    obtain ⟨rfl, rfl⟩ := y
    rw [rgL_length] at h
    exact ⟨H1, _, .refl e2, rgL_get h, .inl (.int _)⟩
theorem Rps.int1 {H : Hp} {vs : List V} {i : Int} (r : Rps H vs [.int i]) : vs = [.int i] := Rps.ints (ns := [i]) r
theorem Rps.int2 {H : Hp} {vs : List V} {i j : Int} (r : Rps H vs [.int i, .int j]) : vs = [.int i, .int j] := Rps.ints (ns := [i, j]) r
theorem Rps.int3 {H : Hp} {vs : List V} {i j k : Int} (r : Rps H vs [.int i, .int j, .int k]) : vs = [.int i, .int j, .int k] := Rps.ints (ns := [i, j, k]) r
theorem ji_range1 {a : Expr} {ma : M S (List D)} (hg : Gl X "range") (hm : X.mg "range" = none) (ha : JA X T [a] ρ (fun ds => L (range1L ds)) ma) (hs : starEach [a] X.env = [(false, eval a X.env)] := by rfl) : JI X T tg (.Call (.Name "range" p) [a] [] pos) ρ true ma := ⟨fun {σ H F s ds s'} hE hR hA hm' R k => by
  refine sI_of (pi_range1 hg hm (pA X _) hs) (ha.run hE hR hA hm' _ fun vs es s1 H1 F1 st1 a1 r1 hk => ?_)
  obtain ⟨hq, rfl⟩ := L_some hk
  obtain ⟨j, rfl, c1, c2, rfl⟩ := range1L_some hq
  have w : WalkD (isTupE tg) (fun _ => False) (Itr 0 (j - 0).toNat) (rgL 0 j) H1 F1 := walkD_range
  rw [Int.sub_zero] at w
  exact ⟨j, r1.int1, c1, c2, k _ _ H1 F1 st1 a1 (fun _ h => h.elim) (fun _ _ h => h) w⟩⟩
theorem ji_range2 {a b : Expr} {ma : M S (List D)} (hg : Gl X "range") (hm : X.mg "range" = none) (ha : JA X T [a, b] ρ (fun ds => L (range2L ds)) ma) (hs : starEach [a, b] X.env = [(false, eval a X.env), (false, eval b X.env)] := by rfl) (hs2 : starEach [b] X.env = [(false, eval b X.env)] := by rfl) :
    JI X T tg (.Call (.Name "range" p) [a, b] [] pos) ρ true ma := ⟨fun {σ H F s ds s'} hE hR hA hm' R k => by
  refine sI_of (pi_range2 hg hm (pA X _) hs hs2) (ha.run hE hR hA hm' _ fun vs es s1 H1 F1 st1 a1 r1 hk => ?_)
  obtain ⟨hq, rfl⟩ := L_some hk
  obtain ⟨i, j, rfl, c, rfl⟩ := range2L_some hq
  exact ⟨i, j, r1.int2, c, k _ _ H1 F1 st1 a1 (fun _ h => h.elim) (fun _ _ h => h) walkD_range⟩⟩
/-- pairs -/
def pairs2 : List D → List D → List D
  | x :: xs, y :: ys => .tuple [x, y] :: pairs2 xs ys
  | _, _ => []
theorem pairs2_length : ∀ xs ys : List D, (pairs2 xs ys).length = min xs.length ys.length
  | [], _ => by simp [pairs2]
  | _ :: _, [] => by simp [pairs2]
  | x :: xs, y :: ys => by simp [pairs2, pairs2_length xs ys]
theorem pairs2_get : ∀ (xs ys : List D) (i : Nat) (x y : D), xs[i]? = some x → ys[i]? = some y → (pairs2 xs ys)[i]? = some (.tuple [x, y])
  | [], _, _, _, _, h, _ => by simp at h
  | _ :: _, [], _, _, _, _, h => by simp at h
  | x :: xs, y :: ys, 0, a, b, h, h' => by simp at h h'; subst h h'; rfl
  | x :: xs, y :: ys, i + 1, a, b, h, h' => by
    show (pairs2 xs ys)[i]? = _
    exact pairs2_get xs ys i a b (by simpa using h) (by simpa using h')
def zipL : List D → Option (List D)
  | [.list xs, .list ys] => some (pairs2 xs ys)
  | [.tuple xs, .tuple ys] => some (pairs2 xs ys)
  | _ => none
theorem zipL_some {ds r : List D} (h : zipL ds = some r) : (∃ xs ys, ds = [.list xs, .list ys] ∧ r = pairs2 xs ys) ∨ (∃ xs ys, ds = [.tuple xs, .tuple ys] ∧ r = pairs2 xs ys) := by
  unfold zipL at h
  split at h
  · cases h
    exact .inl ⟨_, _, rfl, rfl⟩
  · cases h
    exact .inr ⟨_, _, rfl, rfl⟩
  · cases h
theorem Rp.list_inv {H : Hp} {v : V} {xs : List D} (r : Rp H v (.list xs)) : ∃ a vs, v = .ref a ∧ H a = some (.lst vs) ∧ Rps H vs xs := by
  cases r with
  | lst h r => exact ⟨_, _, rfl, h, r⟩
theorem Rp.tup_inv {H : Hp} {v : V} {xs : List D} (r : Rp H v (.tuple xs)) : ∃ a vs, v = .ref a ∧ Tp H a vs ∧ Rps H vs xs := by
  cases r with
  | tup h r => exact ⟨_, _, rfl, h, r⟩
theorem new_pair {H1 F1 : Hp} {Tq : Addr} {u w : V} {x y : D} (e2 : Ex H1 F1) (hn : F1 Tq = none) (r1 : Rp H1 u x) (r2 : Rp H1 w y) : Stq H1 F1 (upd H1 Tq (.tup [u, w])) (upd F1 Tq (.tup [u, w])) ∧ Rt (upd H1 Tq (.tup [u, w])) (.ref Tq) (.tuple [x, y]) := by
  have st : Stq H1 F1 (upd H1 Tq (.tup [u, w])) (upd F1 Tq (.tup [u, w])) := .new e2 hn fun z => z
  exact ⟨st, _, _, _, rfl, rfl, upd_same, .cons (r1.mono st.hh) (.cons (r2.mono st.hh) .nil)⟩
theorem ji_zip {a b : Expr} {elts : List Expr} {kk : Nat} {tpos : Pos} {ma : M S (List D)} (hg : Gl X "zip") (hm : X.mg "zip" = none) (ha : JA X T [a, b] ρ (fun ds => L (zipL ds)) ma)
    (hs : starEach [a, b] X.env = (false, eval a X.env) :: starEach [b] X.env := by rfl) (hpl : (backTo pos (starEach [b] X.env)).any (·.1) = false := by rfl) : JI X T (.Tuple elts kk tpos) (.Call (.Name "zip" p) [a, b] [] pos) ρ true ma := ⟨fun {σ H F s ds s'} hE hR hA hm' R k => by
  refine sI_of (RZ.pi_zipA hg hm (pA X _) hs hpl) (ha.run hE hR hA hm' _ fun vs es s1 H1 F1 st1 a1 r1 hk => ?_)
  obtain ⟨hq, rfl⟩ := L_some hk
  rcases zipL_some hq with ⟨xs, ys, rfl, rfl⟩ | ⟨xs, ys, rfl, rfl⟩
  · obtain ⟨u, w, rfl, ru, rw'⟩ := r1.two
    obtain ⟨c, cs, rfl, hc, rc⟩ := ru.list_inv
    obtain ⟨d, es, rfl, hd, rd⟩ := rw'.list_inv
    refine ⟨c, d, cs, es, rfl, .inl ⟨SqL.of (st1.hf _ _ hc), SqL.of (st1.hf _ _ hd), k (fun _ => False) _ H1 F1 st1 a1 (fun _ h => h.elim) (fun _ _ h => h) ⟨fun i H2 F2 e1 e2 _ hi => ?_, fun H2 F2 e1 e2 _ => ?_, fun i H2 F2 x F3 e1 e2 _ hi y => ?_⟩⟩⟩
    · rw [pairs2_length] at hi
      have l1 := rc.length
      have l2 := rd.length
      exact ⟨cs, es, cs[i]'(by omega), es[i]'(by omega), SqL.of (e2 _ _ (e1 _ _ hc)), SqL.of (e2 _ _ (e1 _ _ hd)), by simp [show i < cs.length by omega], by simp [show i < es.length by omega]⟩
    · rw [pairs2_length]
      exact ⟨cs, es, SqL.of (e2 _ _ (e1 _ _ hc)), SqL.of (e2 _ _ (e1 _ _ hd)), by rw [rc.length, rd.length]; omega⟩
    · obtain ⟨Tq, x1, x2, rfl, nT, rfl, f1, f2⟩ := y
      obtain ⟨y1, g1, q1⟩ := rc.getV (f1 cs (SqL.of (e2 _ _ (e1 _ _ hc))))
      obtain ⟨y2, g2, q2⟩ := rd.getV (f2 es (SqL.of (e2 _ _ (e1 _ _ hd))))
      obtain ⟨st, rp⟩ := new_pair e2 nT (q1.mono e1) (q2.mono e1)
      exact ⟨_, _, st, pairs2_get _ _ _ _ _ g1 g2, .inr ⟨rfl, rp⟩⟩
  · obtain ⟨u, w, rfl, ru, rw'⟩ := r1.two
    obtain ⟨c, cs, rfl, hc, rc⟩ := ru.tup_inv
    obtain ⟨d, es, rfl, hd, rd⟩ := rw'.tup_inv
    refine ⟨c, d, cs, es, rfl, .inr ⟨(hc.mono st1.hf).sq, (hd.mono st1.hf).sq, k (fun _ => False) _ H1 F1 st1 a1 (fun _ h => h.elim) (fun _ _ h => h) ⟨fun i H2 F2 e1 e2 _ hi => ?_, fun H2 F2 e1 e2 _ => ?_, fun i H2 F2 x F3 e1 e2 _ hi y => ?_⟩⟩⟩
    · rw [pairs2_length] at hi
      have l1 := rc.length
      have l2 := rd.length
      exact ⟨cs, es, cs[i]'(by omega), es[i]'(by omega), ((hc.mono e1).mono e2).sq, ((hd.mono e1).mono e2).sq, by simp [show i < cs.length by omega], by simp [show i < es.length by omega]⟩
    · rw [pairs2_length]
      exact ⟨cs, es, ((hc.mono e1).mono e2).sq, ((hd.mono e1).mono e2).sq, by rw [rc.length, rd.length]; omega⟩
    · obtain ⟨Tq, x1, x2, rfl, nT, rfl, f1, f2⟩ := y
      obtain ⟨y1, g1, q1⟩ := rc.getV (f1 cs (((hc.mono e1).mono e2).sq))
      obtain ⟨y2, g2, q2⟩ := rd.getV (f2 es (((hd.mono e1).mono e2).sq))
      obtain ⟨st, rp⟩ := new_pair e2 nT (q1.mono e1) (q2.mono e1)
      exact ⟨_, _, st, pairs2_get _ _ _ _ _ g1 g2, .inr ⟨rfl, rp⟩⟩⟩
/-- enumerate of a list -/
def enumL (xs : List D) : List D := pairs2 ((List.range xs.length).map fun i => .int (i : Nat)) xs
theorem enumL_length (xs : List D) : (enumL xs).length = xs.length := by simp [enumL, pairs2_length]
theorem enumL_get {xs : List D} {i : Nat} {x : D} (h : xs[i]? = some x) : (enumL xs)[i]? = some (.tuple [.int (i : Nat), x]) := by
  have hi : i < xs.length := (List.getElem?_eq_some_iff.mp h).1
  exact pairs2_get _ _ _ _ _ (by simp [hi]) h
def enumD : List D → Option (List D)
  | [.list xs] => some (enumL xs)
  | _ => none
theorem enumD_some {ds r : List D} (h : enumD ds = some r) : ∃ xs, ds = [.list xs] ∧ r = enumL xs := by
  unfold enumD at h
  split at h
  · cases h
    exact ⟨_, rfl, rfl⟩
  · cases h
theorem Rps.one {H : Hp} {vs : List V} {x : D} (r : Rps H vs [x]) : ∃ u, vs = [u] ∧ Rp H u x := by
  cases r with
  | cons h1 r => cases r; exact ⟨_, rfl, h1⟩
theorem ji_enum {a : Expr} {elts : List Expr} {kk : Nat} {tpos : Pos} {ma : M S (List D)} (hg : Gl X "enumerate") (hm : X.mg "enumerate" = none) (ha : JA X T [a] ρ (fun ds => L (enumD ds)) ma)
    (hs : starEach [a] X.env = [(false, eval a X.env)] := by rfl) : JI X T (.Tuple elts kk tpos) (.Call (.Name "enumerate" p) [a] [] pos) ρ true ma := ⟨fun {σ H F s ds s'} hE hR hA hm' R k => by
  refine sI_of (pi_enum hg hm (pA X _) hs) (ha.run hE hR hA hm' _ fun vs es s1 H1 F1 st1 a1 r1 hk => ?_)
  obtain ⟨hq, rfl⟩ := L_some hk
  obtain ⟨xs, rfl, rfl⟩ := enumD_some hq
  obtain ⟨u, rfl, ru⟩ := r1.one
  obtain ⟨c, cs, rfl, hc, rc⟩ := ru.list_inv
  refine ⟨c, cs, rfl, SqL.of (st1.hf _ _ hc), k (fun _ => False) _ H1 F1 st1 a1 (fun _ h => h.elim) (fun _ _ h => h) ⟨fun i H2 F2 e1 e2 _ hi => ?_, fun H2 F2 e1 e2 _ => ?_, fun i H2 F2 x F3 e1 e2 _ hi y => ?_⟩⟩
  · rw [enumL_length] at hi
    have l1 := rc.length
    exact ⟨cs, cs[i]'(by omega), SqL.of (e2 _ _ (e1 _ _ hc)), by simp [show i < cs.length by omega]⟩
  · rw [enumL_length]
    exact ⟨cs, SqL.of (e2 _ _ (e1 _ _ hc)), by rw [rc.length]; exact Nat.le_refl _⟩
  · obtain ⟨Tq, x1, rfl, nT, rfl, f1⟩ := y
    obtain ⟨y1, g1, q1⟩ := rc.getV (f1 cs (SqL.of (e2 _ _ (e1 _ _ hc))))
    obtain ⟨st, rp⟩ := new_pair e2 nT (.int (i : Nat)) (q1.mono e1)
    exact ⟨_, _, st, enumL_get g1, .inr ⟨rfl, rp⟩⟩⟩
end

/-! ### list comprehensions -/
def cmp {S : Type} : List D → (D → M S (Option D)) → M S (List D)
  | [], _ => P []
  | d :: ds, f => B (f d) fun o => B (cmp ds f) fun r => P (match o with
    | some x => x :: r
    | none => r)
/-- a turn: the target takes an item, then Post -/
def JItem {S β : Type} (sh : Sh) (ρ : List Sl) (mb : D → M S β) (Post : List Sl → M S β → Prop) : Prop := ∀ d s r s', mb d s = some (r, s') → ∃ ρ' m', sh.bind d ρ = some ρ' ∧ Post ρ' m' ∧ m' s = some (r, s')
def u2 {S β : Type} (d : D) (f : D → D → M S β) : M S β := match d with
  | .tuple [x, y] => f x y
  | _ => fail
def u3 {S β : Type} (d : D) (f : D → D → D → M S β) : M S β := match d with
  | .tuple [x, y, z] => f x y z
  | _ => fail
def u4 {S β : Type} (d : D) (f : D → D → D → D → M S β) : M S β := match d with
  | .tuple [x, y, z, t] => f x y z t
  | _ => fail
theorem u2_some {S β : Type} {d : D} {f : D → D → M S β} {s s' : S} {r : β} (h : u2 d f s = some (r, s')) : ∃ x y, d = .tuple [x, y] ∧ f x y s = some (r, s') := by
  unfold u2 at h
  split at h
  · exact ⟨_, _, rfl, h⟩
  · cases h
theorem u3_some {S β : Type} {d : D} {f : D → D → D → M S β} {s s' : S} {r : β} (h : u3 d f s = some (r, s')) : ∃ x y z, d = .tuple [x, y, z] ∧ f x y z s = some (r, s') := by
  unfold u3 at h
  split at h
  · exact ⟨_, _, _, rfl, h⟩
  · cases h
theorem u4_some {S β : Type} {d : D} {f : D → D → D → D → M S β} {s s' : S} {r : β} (h : u4 d f s = some (r, s')) : ∃ x y z t, d = .tuple [x, y, z, t] ∧ f x y z t s = some (r, s') := by
  unfold u4 at h
  split at h
  · exact ⟨_, _, _, _, rfl, h⟩
  · cases h
section
variable {S β : Type} {ρ : List Sl} {Post : List Sl → M S β → Prop}
theorem ji_n {i : Nat} {mb : D → M S β} (h : ∀ d, Post (ρ.set i (.val d)) (mb d)) : JItem (.n i) ρ mb Post := fun d s r s' e => ⟨_, _, rfl, h d, e⟩
theorem ji_2 {i j : Nat} {mb : D → D → M S β} (h : ∀ x y, Post ((ρ.set i (.val x)).set j (.val y)) (mb x y)) : JItem (.t2 (.n i) (.n j)) ρ (fun d => u2 d mb) Post := fun d s r s' e => by
  obtain ⟨x, y, rfl, e⟩ := u2_some e
  exact ⟨_, _, rfl, h x y, e⟩
theorem ji_3 {i j k : Nat} {mb : D → D → D → M S β} (h : ∀ x y z, Post (((ρ.set i (.val x)).set j (.val y)).set k (.val z)) (mb x y z)) : JItem (.t3 (.n i) (.n j) (.n k)) ρ (fun d => u3 d mb) Post := fun d s r s' e => by
  obtain ⟨x, y, z, rfl, e⟩ := u3_some e
  exact ⟨_, _, rfl, h x y z, e⟩
theorem ji_4 {i j k l : Nat} {mb : D → D → D → D → M S β} (h : ∀ x y z t, Post ((((ρ.set i (.val x)).set j (.val y)).set k (.val z)).set l (.val t)) (mb x y z t)) : JItem (.t4 (.n i) (.n j) (.n k) (.n l)) ρ (fun d => u4 d mb) Post := fun d s r s' e => by
  obtain ⟨x, y, z, t, rfl, e⟩ := u4_some e
  exact ⟨_, _, rfl, h x y z t, e⟩
theorem ji_12 {i j k : Nat} {mb : D → D → D → M S β} (h : ∀ x y z, Post (((ρ.set i (.val x)).set j (.val y)).set k (.val z)) (mb x y z)) : JItem (.t2 (.n i) (.t2 (.n j) (.n k))) ρ (fun d => u2 d fun x e => u2 e (mb x)) Post := fun d s r s' e => by
  obtain ⟨x, w, rfl, e1⟩ := u2_some e
  obtain ⟨y, z, rfl, e2⟩ := u2_some e1
  exact ⟨_, _, rfl, h x y z, e2⟩
end
/-- the element with its tests, in the block's context (any of them) -/
def BlkAll (X : Cx) (scope : Scope) (Q : Cx → Prop) : Prop := ∀ (s : Shared) (H : Hp) (C : Addr) (cl : List (Str × Addr)) (fp : List Addr), Q (X.blk s H scope (compEnvC scope cl C X.env) fp)
inductive JEl (X : Cx) {S : Type} (T : Tie S) (scope : Scope) (elt : Expr) : List Expr → List Sl → M S (Option D) → Prop
  | plain {ρ : List Sl} {me : M S D} : BlkAll X scope (fun X' => JE X' T elt ρ me) → JEl X T scope elt [] ρ (B me fun x => P (some x))
  | cond {c : Expr} {ρ : List Sl} {mc : M S Bool} {me : M S D} : BlkAll X scope (fun X' => JT X' T c ρ mc) → BlkAll X scope (fun X' => JE X' T elt ρ me) → JEl X T scope elt [c] ρ (B mc fun b => if b then B me fun x => P (some x) else P none)
/-- the slots of the block's own names forgotten -/
def wipeS (ρ : List Sl) : List Nat → List Sl
  | [] => ρ
  | v :: vs => (wipeS ρ vs).set v .unk
theorem EnvR.wipe {K : PySem.W.Frag} {S : Type} {T : Tie S} {H F : Hp} {ρ : List Sl} {σ : L2.St} (h : EnvR K T ρ σ H F) : ∀ vs : List Nat, EnvR K T (wipeS ρ vs) (L2.wipe σ vs) H F
  | [] => h
  | v :: vs => by
    have h1 := EnvR.wipe h vs
    refine ⟨by simp [wipeS, L2.wipe, h1.len], fun i sl hi => ?_, fun i j sl sl' p hij hi oi si hj oj => ?_⟩
    · unfold wipeS at hi
      unfold L2.wipe
      by_cases c : v = i
      · subst c
        have hl : v < (wipeS ρ vs).length := by
          have := (List.getElem?_eq_some_iff.mp hi).1
          simpa using this
        rw [List.getElem?_set_self hl] at hi
        cases hi
        exact ⟨none, by rw [List.getElem?_set_self (by rw [← h1.len]; exact hl)], trivial⟩
      · rw [List.getElem?_set_ne c] at hi ⊢
        exact h1.at_ i sl hi
    · unfold wipeS at hi hj
      unfold L2.wipe at si ⊢
      have ne : ∀ (k : Nat) (sl : Sl), ((wipeS ρ vs).set v .unk)[k]? = some sl → isOwn sl = true → v ≠ k := fun k sl e o c => by
        subst c
        have hl : v < (wipeS ρ vs).length := by
          have := (List.getElem?_eq_some_iff.mp e).1
          simpa using this
        rw [List.getElem?_set_self hl] at e
        cases e
        cases o
      have n1 := ne i sl hi oi
      have n2 := ne j sl' hj oj
      rw [List.getElem?_set_ne n1] at hi si
      rw [List.getElem?_set_ne n2] at hj ⊢
      exact h1.apart i j sl sl' p hij hi oi si hj oj
theorem wipe_get_in {σ : L2.St} {i : Nat} : ∀ {vs : List Nat}, i ∈ vs → i < σ.length → (L2.wipe σ vs)[i]? = some none
  | v :: vs, h, hl => by
    unfold L2.wipe
    by_cases c : v = i
    · subst c
      rw [List.getElem?_set_self (by rw [wipe_length]; exact hl)]
    · rw [List.getElem?_set_ne c]
      rcases List.mem_cons.mp h with e | e
      · exact absurd e.symm c
      · exact wipe_get_in e hl
theorem wipe_get_out {σ : L2.St} {i : Nat} : ∀ {vs : List Nat}, i ∉ vs → (L2.wipe σ vs)[i]? = σ[i]?
  | [], _ => rfl
  | v :: vs, h => by
    unfold L2.wipe
    simp only [List.mem_cons, not_or] at h
    rw [List.getElem?_set_ne (fun e => h.1 e.symm)]
    exact wipe_get_out h.2
theorem wipe_same {σ σ2 : L2.St} {ix vs : List Nat} (s : SameOut ix (L2.wipe σ vs) σ2) (h : ∀ i ∈ ix, i ∈ vs) : L2.wipe σ2 vs = L2.wipe σ vs := by
  have hl : σ2.length = σ.length := by rw [s.1, wipe_length]
  refine List.ext_getElem? fun i => ?_
  by_cases c : i ∈ vs
  · by_cases hi : i < σ.length
    · rw [wipe_get_in c hi, wipe_get_in c (by rw [hl]; exact hi)]
    · rw [List.getElem?_eq_none (by rw [wipe_length, hl]; omega), List.getElem?_eq_none (by rw [wipe_length]; omega)]
  · rw [wipe_get_out c, wipe_get_out c, s.2 i fun z => c (h i z), wipe_get_out c]
section
variable {X : Cx} {S : Type} {T : Tie S} {ρ : List Sl} {tg iter elt : Expr} {ifs : List Expr} {scope : Scope} {own : List (Str × Nat)} {sh : Sh} {pr : Bool} {src : M S (List D)} {mb : D → M S (Option D)} {pos : Pos}
def gB (X : Cx) (scope : Scope) (elt : Expr) : TE := fun σ F Q => BlkAll X scope fun X' => sE X' elt σ F Q
def tB (X : Cx) (scope : Scope) (ifs : List Expr) : TT := match ifs with
  | [] => tYes
  | [c] => fun σ F Q => BlkAll X scope fun X' => sT X' c σ F Q
  | _ => fun _ _ _ => False
theorem lc_run (ht : tupOk tg sh = true) (hi : JI X T tg iter ρ pr src) (hb : JItem sh (wipeS ρ (own.map (·.2))) mb (JEl X T scope elt ifs)) (hx : ∀ i ∈ sh.ix, i ∈ own.map (·.2))
    {σ : L2.St} {H F : Hp} {s s' : S} {out : List D} (hE : Ex H F) (hR : EnvR X.K T ρ σ H F) (hA : T.at_ s H F) (hm : B src (fun ds => cmp ds mb) s = some (out, s')) (hz : out.length ≤ 16777216) (Q : VK)
    (k : ∀ v H' F', Stp T.pt H F H' F' → T.at_ s' H' F' → Rp H' v (.list out) → Q v F') : tLc (sI X tg iter) (gSh X.K sh) (tB X scope ifs) (gB X scope elt) (own.map (·.2)) σ F Q := by
  obtain ⟨ds, s1, m1, hm⟩ := B_some hm
  refine hi.run hE hR hA m1 _ fun U J H1 F1 st1 a1 hU _ w => ?_
  intro Dl hD
  have nt : ¬ T.pt Dl := fun z => T.used _ _ _ Dl a1 z hD
  have nU : ¬ U Dl := fun z => (hU Dl z).2.2 hD
  have hDH : H1 Dl = none := Evl.fresh_back st1.hf hD
  -- the invariant
  refine ⟨fun i m Fi => m = ds.length - i ∧ i ≤ ds.length ∧ ∃ Hi accV accD rest si, Stp T.pt H1 F1 Hi Fi ∧ T.at_ si Hi Fi ∧ Hi Dl = none ∧ Fi Dl = some (.lst accV) ∧ Rps Hi accV accD ∧ cmp (ds.drop i) mb si = some (rest, s') ∧ out = accD ++ rest ∧ (∀ a, U a → Fi a = F1 a),
    ⟨ds.length, rfl, Nat.zero_le _, H1, [], [], out, s1, ?_, ?_, hDH, upd_same, .nil, by simpa using hm, rfl, fun a z => upd_ne fun e => nU (by rw [← e]; exact z)⟩, fun i m Fi hW => ?_⟩
  · exact ⟨Evl.Ex.refl _, fun a u e => by rw [upd_ne (ne_of_none (st1.hf _ _ e) hD)]; exact st1.hf _ _ e, fun a u _ e => by rw [upd_ne (ne_of_none e hD)]; exact e, fun a h1 h2 => absurd h1 h2, fun a _ h => h⟩
  · exact T.stay _ H1 F1 H1 _ a1 (Evl.Ex.refl _) (fun a u e => by rw [upd_ne (ne_of_none e hD)]; exact e) fun a h1 h2 => absurd h1 h2
  obtain ⟨rfl, hi', Hi, accV, accD, rest, si, st, ai, hnD, hFD, racc, hc, ho, hUi⟩ := hW
  by_cases hlt : i < ds.length
  · -- a turn
    have hdr : ds.drop i = ds[i] :: ds.drop (i + 1) := (List.drop_eq_getElem_cons hlt)
    rw [hdr] at hc
    obtain ⟨o, s2, mo, hc⟩ := B_some hc
    obtain ⟨r, s3, mr, hc⟩ := B_some hc
    obtain ⟨er, rfl⟩ := P_some hc
    refine .inr ⟨w.goes i Hi Fi st.hh st.hf hUi hlt, fun Fi' => ∃ Hj accV' accD' rest' sj, Stp T.pt H1 F1 Hj Fi' ∧ T.at_ sj Hj Fi' ∧ Hj Dl = none ∧ Fi' Dl = some (.lst accV') ∧ Rps Hj accV' accD' ∧ cmp (ds.drop (i + 1)) mb sj = some (rest', s') ∧ out = accD' ++ rest' ∧ (∀ a, U a → Fi' a = F1 a),
      fun Fi' hN => ⟨ds.length - (i + 1), by omega, rfl, hlt, hN⟩, fun x F2 hy => ?_⟩
    obtain ⟨H2, d, st2, hd, rx⟩ := w.yields i Hi Fi x F2 st.hh st.hf hUi hlt hy
    have ed : d = ds[i] := by
      rw [List.getElem?_eq_getElem hlt] at hd
      exact (Option.some.inj hd).symm
    subst ed
    have a2 : T.at_ si H2 F2 := st2.at ai
    have st12 : Stp T.pt H1 F1 H2 F2 := st.trans (st2.up ai)
    obtain ⟨ρ', m', hbind, hpost, hm'⟩ := hb _ _ _ _ mo
    have hRw : EnvR X.K T (wipeS ρ (own.map (·.2))) (L2.wipe σ (own.map (·.2))) H2 F2 := (hR.step (st1.trans st12)).wipe _
    refine gSh_run st2.hf sh (rx.imp id fun z => ⟨tupOk_some ht z.1, z.2⟩) hRw hbind _ fun σ' hR' so => ⟨wipe_same so hx, ?_⟩
    have hD2 : F2 Dl = some (.lst accV) := st2.ff _ _ (fun z => z) hFD
    have hDn : ∀ {H3 F3 : Hp}, Stp T.pt H2 F2 H3 F3 → H3 Dl = none := fun {H3 F3} st3 => by
      cases q : H3 Dl with
      | none => rfl
      | some o =>
        have z2 : H2 Dl = none := by
          cases q2 : H2 Dl with
          | none => rfl
          | some o2 =>
            have z := st2.fr Dl hnD (by rw [q2]; simp)
            rw [hFD] at z
            cases z
        have z := st3.fr Dl z2 (by rw [q]; simp)
        rw [hD2] at z
        cases z
    have hUn : ∀ {H3 F3 : Hp}, Stp T.pt H2 F2 H3 F3 → ∀ a, U a → F3 a = F1 a := fun {H3 F3} st3 a za => by
      have z1 := hUi a za
      cases q : F1 a with
      | none => exact absurd q (hU a za).2.2
      | some o => rw [q] at z1; exact st3.ff _ _ (hU a za).1 (st2.ff _ _ (fun z => z) z1)
    have fin : ∀ {H3 F3 : Hp} {y : V} {z : D}, o = some z → Stp T.pt H2 F2 H3 F3 → T.at_ s2 H3 F3 → Rp H3 y z →
        ∃ acc, F3 Dl = some (.lst acc) ∧ acc.length < sizeLine ∧ ∃ Hj accV' accD' rest' sj, Stp T.pt H1 F1 Hj (upd F3 Dl (.lst (acc ++ [y]))) ∧ T.at_ sj Hj (upd F3 Dl (.lst (acc ++ [y]))) ∧ Hj Dl = none ∧ (upd F3 Dl (.lst (acc ++ [y]))) Dl = some (.lst accV') ∧ Rps Hj accV' accD' ∧ cmp (ds.drop (i + 1)) mb sj = some (rest', s') ∧ out = accD' ++ rest' ∧ (∀ a, U a → (upd F3 Dl (.lst (acc ++ [y]))) a = F1 a) := fun {H3 F3 y z} eo st3 a3 ry => by
      subst eo
      have hD3 : F3 Dl = some (.lst accV) := st3.ff _ _ nt hD2
      have hn3 := hDn st3
      have stj := st12.trans st3
      have ne : ∀ a u, F1 a = some u → a ≠ Dl := fun a u e z => by subst z; rw [hD] at e; cases e
      refine ⟨accV, hD3, ?_, H3, accV ++ [y], accD ++ [z], r, s2, ?_, ?_, hn3, upd_same, ((racc.mono st2.hh).mono st3.hh).append (.cons ry .nil), ?_, ?_, fun a za => ?_⟩
      · rw [sizeLine_eq, racc.length]
        have e1 : out.length = accD.length + rest.length := by rw [ho, List.length_append]
        have e2 : rest.length = r.length + 1 := by rw [er]; rfl
        omega
      · refine ⟨stj.hh, fun a u e => ?_, fun a u nta e => ?_, stj.fr, stj.tt⟩
        · rw [upd_ne (ne_of_none e hn3)]
          exact stj.hf _ _ e
        · rw [upd_ne (ne a u e)]
          exact stj.ff _ _ nta e
      · exact T.loc _ _ _ _ _ a3 (Evl.Ex.refl _) (fun a pa => upd_ne fun e => nt (by rw [← e]; exact pa)) fun a _ h => h
      · exact mr
      · rw [ho, er, List.append_assoc]
        rfl
      · rw [upd_ne fun e => nU (by rw [← e]; exact za)]
        exact hUn st3 a za
    have fin0 : ∀ {H3 F3 : Hp}, o = none → Stp T.pt H2 F2 H3 F3 → T.at_ s2 H3 F3 →
        ∃ Hj accV' accD' rest' sj, Stp T.pt H1 F1 Hj F3 ∧ T.at_ sj Hj F3 ∧ Hj Dl = none ∧ F3 Dl = some (.lst accV') ∧ Rps Hj accV' accD' ∧ cmp (ds.drop (i + 1)) mb sj = some (rest', s') ∧ out = accD' ++ rest' ∧ (∀ a, U a → F3 a = F1 a) := fun {H3 F3} eo st3 a3 => by
      subst eo
      exact ⟨H3, accV, accD, r, s2, st12.trans st3, a3, hDn st3, st3.ff _ _ nt hD2, (racc.mono st2.hh).mono st3.hh, mr, by rw [ho, er], fun a za => hUn st3 a za⟩
    cases hpost with
    | plain he =>
      obtain ⟨z, s4, me, hq⟩ := B_some hm'
      obtain ⟨eo, rfl⟩ := P_some hq
      show gB X scope elt σ' F2 _
      exact fun s0 H0 C cl fp => (he s0 H0 C cl fp).run st2.hf hR' a2 me _ fun v H3 F3 st3 a3 r3 => fin eo st3 a3 r3
    | cond hc' he =>
      obtain ⟨b, s5, mc, hq⟩ := B_some hm'
      show tB X scope _ σ' F2 _
      refine fun s0 H0 C cl fp => (hc' s0 H0 C cl fp).run st2.hf hR' a2 mc _ fun H3 F3 st3 a3 => ?_
      cases b with
      | false =>
        obtain ⟨eo, rfl⟩ := P_some hq
        exact fin0 eo st3 a3
      | true =>
        obtain ⟨z, s4, me, hq⟩ := B_some hq
        obtain ⟨eo, rfl⟩ := P_some hq
        exact fun s0 H0 C cl fp => (he s0 H0 C cl fp).run st3.hf (hR'.step st3) a3 me _ fun v H4 F4 st4 a4 r4 => fin eo (st3.trans st4) a4 r4
  · have e : i = ds.length := by omega
    subst e
    rw [List.drop_length] at hc
    obtain ⟨er, rfl⟩ := P_some hc
    subst er
    rw [List.append_nil] at ho
    subst ho
    refine .inl ⟨w.stops Hi Fi st.hh st.hf hUi, ?_⟩
    have ext : Ex Hi (upd Hi Dl (.lst accV)) := Evl.Ex.new hnD
    refine k _ (upd Hi Dl (.lst accV)) Fi (st1.trans ⟨st.hh.trans ext, fun a u e => ?_, st.ff, fun a h1 h2 => ?_, fun a ta h => ?_⟩) ?_ (.lst upd_same (racc.mono ext))
    · by_cases c : a = Dl
      · subst c
        rw [upd_same] at e
        rw [hFD]
        exact e
      · rw [upd_ne c] at e
        exact st.hf _ _ e
    · by_cases c : a = Dl
      · subst c
        exact hD
      · rw [upd_ne c] at h2
        exact st.fr a h1 h2
    · have c : a ≠ Dl := fun z => nt (by rw [← z]; exact ta)
      rw [upd_ne c]
      exact st.tt a ta h
    · exact T.loc _ _ _ _ _ ai ext (fun _ _ => rfl) fun a pa h => by
        have c : a ≠ Dl := fun z => nt (by rw [← z]; exact pa)
        rw [upd_ne c]
        exact h
theorem tB_ok (ifs : List Expr) {ρ' : List Sl} {m' : M S (Option D)} (h : JEl X T scope elt ifs ρ' m') : BlkAll X scope fun X' => PTs X' ifs (tB X scope ifs) := by
  cases h with
  | plain _ => exact fun _ _ _ _ _ => pts_nil
  | cond _ _ => exact fun s H C cl fp => pts_one ⟨fun pins s1 σ F Q I h => h s H C cl fp pins s1 I⟩
/-- the tests are of one of two forms -/
def ifsOk : List Expr → Bool
  | [] => true
  | [_] => true
  | _ => false
theorem tB_pts {ifs : List Expr} (h : ifsOk ifs = true) : BlkAll X scope fun X' => PTs X' ifs (tB X scope ifs) := by
  match ifs, h with
  | [], _ => exact fun _ _ _ _ _ => pts_nil
  | [c], _ => exact fun s H C cl fp => pts_one ⟨fun pins s1 σ F Q I h => h s H C cl fp pins s1 I⟩
theorem je_lc (hc : X.calm = true) (hN : X.N.Nodup) (hi : JI X T tg iter ρ pr src) (ok : BlkOk X.N X.env.scope scope own) (hg : BlkAll X scope fun X' => PGd X' tg sh) (hb : JItem sh (wipeS ρ (own.map (·.2))) mb (JEl X T scope elt ifs))
    (hx : ∀ i ∈ sh.ix, i ∈ own.map (·.2) := by decide) (ho : ifsOk ifs = true := by rfl) (ht : tupOk tg sh = true := by rfl) (hs : ∀ x, foldedSetIterable iter X.env x = pure x := by intro _; rfl) :
    JE X T (.ListComp elt [⟨tg, iter, ifs, 0⟩] scope pos) ρ (B src fun ds => B (cmp ds mb) fun out => L (lstD out)) := ⟨fun {σ H F s d s'} hE hR hA hm Q k => by
  obtain ⟨ds, s1, m1, hm⟩ := B_some hm
  obtain ⟨out, s2, m2, hm⟩ := B_some hm
  obtain ⟨hq, rfl⟩ := L_some hm
  obtain ⟨hz, rfl⟩ := lstD_some hq
  refine sE_of (pe_lc (g := gSh X.K sh) (tt := tB X scope ifs) (te := gB X scope elt) hc hN (pI X tg iter) ok hg (tB_pts ho) (fun s H C cl fp => ⟨fun pins s1 σ F Q I h => h s H C cl fp pins s1 I⟩) hs) ?_
  have e : B src (fun ds => cmp ds mb) s = some (out, s') := by
    unfold B
    rw [m1]
    exact m2
  exact lc_run ht hi hb hx hE hR hA e (by rw [sizeLine_eq] at hz; exact hz) Q k⟩
end
end DL

set_option Elab.async false
set_option linter.all false
set_option maxRecDepth 100000
set_option maxHeartbeats 2000000
/-! DLStmt: statements, loops, defs. -/
namespace DL
open PySem PySem.Spec PyProof.Rows L2

/-! ### a value into a slot: for good, or a new list that will be changed -/
structure JX (X : Cx) {S δ : Type} (T : Tie S) (e : Expr) (ρ : List Sl) (mk : δ → Sl) (m : M S δ) : Prop where
  run : ∀ {σ : L2.St} {H F : Hp} {s : S} {x : δ} {s' : S}, Ex H F → EnvR X.K T ρ σ H F → T.at_ s H F → m s = some (x, s') →
    ∀ Q : VK, (∀ v H' F', Stp T.pt H F H' F' → T.at_ s' H' F' → SlR X.K T H' F' (mk x) (some v) → (isOwn (mk x) = true → ∀ a, v = .ref a → F a = none) → Q v F') → sE X e σ F Q
section
variable {X : Cx} {S : Type} {T : Tie S} {ρ : List Sl} {m : M S D} {e : Expr} {es : List Expr} {pos p : Pos}
theorem JE.x (h : JE X T e ρ m) : JX X T e ρ Sl.val m := ⟨fun hE hR hA hm Q k => h.run hE hR hA hm Q fun v H' F' st ha r => k v H' F' st ha ⟨v, rfl, r⟩ fun o => by cases o⟩
def lstS (ds : List D) : Option (List D) := if ds.length ≤ 16777216 then some ds else none
theorem lstS_some {ds es : List D} (h : lstS ds = some es) : ds.length ≤ sizeLine ∧ es = ds := by
  unfold lstS at h
  split at h
  · cases h
    exact ⟨by rw [sizeLine_eq]; assumption, rfl⟩
  · cases h
/-- a list that is new -/
theorem own_new {H F : Hp} {q : Addr} {vs : List V} {ds : List D} {K : PySem.W.Frag} {s : S} (hE : Ex H F) (hq : F q = none) (hA : T.at_ s H F) (r : Rps H vs ds) : Stp T.pt H F H (upd F q (.lst vs)) ∧ T.at_ s H (upd F q (.lst vs)) ∧ SlR K T H (upd F q (.lst vs)) (.own ds) (some (.ref q)) := by
  have nt : ¬ T.pt q := fun z => T.used _ _ _ q hA z hq
  refine ⟨⟨Evl.Ex.refl _, fun a u e => ?_, fun a u _ e => ?_, fun a h1 h2 => absurd h1 h2, fun a _ h => h⟩, ?_, ⟨q, vs, rfl, Evl.fresh_back hE hq, nt, upd_same, r⟩⟩
  · rw [upd_ne (ne_of_none (hE _ _ e) hq)]
    exact hE _ _ e
  · rw [upd_ne (ne_of_none e hq)]
    exact e
  · exact T.loc _ _ _ _ _ hA (Evl.Ex.refl _) (fun a pa => upd_ne fun z => nt (by rw [← z]; exact pa)) fun _ _ h => h
theorem jn_lst {m : M S (List D)} (ha : JA X T es ρ (fun ds => L (lstS ds)) m) : JX X T (.List es pos) ρ Sl.own m := ⟨fun {σ H F s d s'} hE hR hA hm Q k => by
  refine sE_of (pe_lst (pA X es)) (ha.run hE hR hA hm _ fun vs ds s1 H1 F1 st1 a1 r1 hk => ?_)
  obtain ⟨hg, rfl⟩ := L_some hk
  obtain ⟨hz, rfl⟩ := lstS_some hg
  refine ⟨by rw [r1.length]; exact hz, fun q hq => ?_⟩
  obtain ⟨st2, a2, r2⟩ := own_new (K := X.K) st1.hf hq a1 r1
  refine k _ _ _ (st1.trans st2) a2 r2 fun _ a ea => ?_
  cases ea
  cases e : F q with
  | none => rfl
  | some o =>
    have nt : ¬ T.pt q := fun z => T.used _ _ _ q a1 z hq
    rw [st1.ff _ _ nt e] at hq
    cases hq⟩
/-- list(x) -/
theorem jn_list {a : Expr} {me : M S D} (h : JV X T a ρ me) (hg : Gl X "list") (hm : X.mg "list" = none) (he : starEach [a] X.env = (false, eval a X.env) :: starEach [] X.env := by rfl) (hpl : (backTo pos (starEach [] X.env)).any (·.1) = false := by rfl) :
    JX X T (.Call (.Name "list" p) [a] [] pos) ρ Sl.own (B me fun d => L (seqD d)) := ⟨fun {σ H F s d s'} hE hR hA hm' Q k => by
  obtain ⟨x, s1, m1, hm'⟩ := B_some hm'
  obtain ⟨hq, rfl⟩ := L_some hm'
  refine sE_of (pe_callTy call_list_of hg hm (by decide +kernel) (pa_cons (pE X a) pa_nil he) (by decide) (by decide) he hpl) (h.run hE hR hA m1 _ fun v H1 F1 st1 a1 r1 => ?_)
  obtain ⟨c, vs, rfl, r, hh⟩ := r1.seq (K := X.K) st1.hf hq
  refine ⟨c, vs, rfl, ?_, fun q hq => ?_⟩
  · rcases hh with ⟨_, h⟩ | ⟨_, h, _⟩
    · exact .inl (SqL.of h)
    · exact .inr h.sq
  · obtain ⟨st2, a2, r2⟩ := own_new (K := X.K) st1.hf hq a1 r
    refine k _ _ _ (st1.trans st2) a2 r2 fun _ a ea => ?_
    cases ea
    cases e : F q with
    | none => rfl
    | some o =>
      have nt : ¬ T.pt q := fun z => T.used _ _ _ q a1 z hq
      rw [st1.ff _ _ nt e] at hq
      cases hq⟩
end

theorem Sh.bind_own : ∀ (sh : Sh) {d : D} {ρ ρ' : List Sl}, sh.bind d ρ = some ρ' → ∀ (j : Nat) (sl : Sl), ρ'[j]? = some sl → isOwn sl = true → ρ[j]? = some sl ∧ j ∉ sh.ix := by
  intro sh
  induction sh with
  | n i =>
    intro d ρ ρ' h j sl hj oj
    cases h
    by_cases c : i = j
    · subst c
      have hl : i < ρ.length := by
        have := (List.getElem?_eq_some_iff.mp hj).1
        simpa using this
      rw [List.getElem?_set_self hl] at hj
      cases hj
      cases oj
    · rw [List.getElem?_set_ne c] at hj
      exact ⟨hj, by simp [Sh.ix]; exact fun e => c e.symm⟩
  | t2 a b ha hb =>
    intro d ρ ρ' h j sl hj oj
    cases d with
    | tuple ds =>
      match ds, h with
      | [x, y], h =>
        cases e1 : a.bind x ρ with
        | none => simp [Sh.bind, e1] at h
        | some ρ1 =>
          have e2 : b.bind y ρ1 = some ρ' := by simpa [Sh.bind, e1] using h
          obtain ⟨h1, n1⟩ := hb e2 j sl hj oj
          obtain ⟨h2, n2⟩ := ha e1 j sl h1 oj
          exact ⟨h2, by simp [Sh.ix, n1, n2]⟩
    | _ => simp [Sh.bind] at h
  | t3 a b c ha hb hc =>
    intro d ρ ρ' h j sl hj oj
    cases d with
    | tuple ds =>
      match ds, h with
      | [x, y, z], h =>
        cases e1 : a.bind x ρ with
        | none => simp [Sh.bind, e1] at h
        | some ρ1 =>
          cases e2 : b.bind y ρ1 with
          | none => simp [Sh.bind, e1, e2] at h
          | some ρ2 =>
            have e3 : c.bind z ρ2 = some ρ' := by simpa [Sh.bind, e1, e2] using h
            obtain ⟨h0, n0⟩ := hc e3 j sl hj oj
            obtain ⟨h1, n1⟩ := hb e2 j sl h0 oj
            obtain ⟨h2, n2⟩ := ha e1 j sl h1 oj
            exact ⟨h2, by simp [Sh.ix, n0, n1, n2]⟩
    | _ => simp [Sh.bind] at h
  | t4 a b c d4 ha hb hc hd =>
    intro d ρ ρ' h j sl hj oj
    cases d with
    | tuple ds =>
      match ds, h with
      | [x, y, z, u], h =>
        cases e1 : a.bind x ρ with
        | none => simp [Sh.bind, e1] at h
        | some ρ1 =>
          cases e2 : b.bind y ρ1 with
          | none => simp [Sh.bind, e1, e2] at h
          | some ρ2 =>
            cases e3 : c.bind z ρ2 with
            | none => simp [Sh.bind, e1, e2, e3] at h
            | some ρ3 =>
              have e4 : d4.bind u ρ3 = some ρ' := by simpa [Sh.bind, e1, e2, e3] using h
              obtain ⟨h9, n9⟩ := hd e4 j sl hj oj
              obtain ⟨h0, n0⟩ := hc e3 j sl h9 oj
              obtain ⟨h1, n1⟩ := hb e2 j sl h0 oj
              obtain ⟨h2, n2⟩ := ha e1 j sl h1 oj
              exact ⟨h2, by simp [Sh.ix, n9, n0, n1, n2]⟩
    | _ => simp [Sh.bind] at h

/-! ### how a block ends -/
inductive Oc where
  | nx (ρ : List Sl)
  | rt (d : D)
  | bk (ρ : List Sl)
/-- the world at a statement; C: what lies elsewhere and stays -/
structure Wo (K : PySem.W.Frag) {S : Type} (T : Tie S) (C : Hp) (ρ : List Sl) (σ : L2.St) (s : S) (H F : Hp) : Prop where
  ex : Ex H F
  env : EnvR K T ρ σ H F
  at_ : T.at_ s H F
  cx : Ex C F
  cd : ∀ a o, C a = some o → H a = none ∧ ¬ T.pt a ∧ ∀ (i : Nat) (sl : Sl), ρ[i]? = some sl → isOwn sl = true → σ[i]? ≠ some (some (V.ref a))
section
variable {K : PySem.W.Frag} {S : Type} {T : Tie S} {C : Hp} {ρ ρ' : List Sl} {σ : L2.St} {s s' : S} {H F H' F' : Hp}
theorem Wo.step (w : Wo K T C ρ σ s H F) (st : Stp T.pt H F H' F') (a : T.at_ s' H' F') : Wo K T C ρ σ s' H' F' :=
  ⟨st.hf, w.env.step st, a, fun b o e => st.ff _ _ (w.cd b o e).2.1 (w.cx b o e), fun b o e => ⟨(by
    cases q : H' b with
    | none => rfl
    | some u =>
      have z := st.fr b (w.cd b o e).1 (by rw [q]; simp)
      rw [w.cx b o e] at z
      cases z), (w.cd b o e).2⟩⟩
theorem Wo.weak (w : Wo K T C ρ σ s H F) (hl : ρ'.length = ρ.length) (h : ∀ (i : Nat) (sl : Sl), ρ'[i]? = some sl → sl = .unk ∨ ρ[i]? = some sl) : Wo K T C ρ' σ s H F :=
  ⟨w.ex, w.env.weak hl h, w.at_, w.cx, fun a o e => ⟨(w.cd a o e).1, (w.cd a o e).2.1, fun i sl hi ho => (w.cd a o e).2.2 i sl ((h i sl hi).resolve_left fun c => by subst c; cases ho) ho⟩⟩
/-- a slot is set -/
theorem Wo.set (w : Wo K T C ρ σ s H F) {sl : Sl} {v : V} (i : Nat) (r : SlR K T H F sl (some v)) (n : isOwn sl = true → ∀ a, v = .ref a → C a = none ∧ ∀ (j : Nat) (sl' : Sl), ρ[j]? = some sl' → isOwn sl' = true → σ[j]? ≠ some (some (V.ref a))) :
    Wo K T C (ρ.set i sl) (σ.set i (some v)) s H F := by
  have at_i : ∀ {sl' : Sl}, (ρ.set i sl)[i]? = some sl' → sl' = sl ∧ i < ρ.length := fun {sl'} e => by
    have hl : i < ρ.length := by
      have := (List.getElem?_eq_some_iff.mp e).1
      simpa using this
    rw [List.getElem?_set_self hl] at e
    exact ⟨(Option.some.inj e).symm, hl⟩
  refine ⟨w.ex, ⟨by simp [w.env.len], fun j sl' hj => ?_, fun j k sl1 sl2 p hjk hj oj sj hk ok => ?_⟩, w.at_, w.cx, fun a o e => ⟨(w.cd a o e).1, (w.cd a o e).2.1, fun j sl' hj oj => ?_⟩⟩
  · by_cases c : i = j
    · subst c
      obtain ⟨rfl, hl⟩ := at_i hj
      exact ⟨some v, by rw [List.getElem?_set_self (by rw [← w.env.len]; exact hl)], r⟩
    · rw [List.getElem?_set_ne c] at hj ⊢
      exact w.env.at_ j sl' hj
  · by_cases c : i = j
    · subst c
      obtain ⟨rfl, hl⟩ := at_i hj
      rw [List.getElem?_set_self (by rw [← w.env.len]; exact hl)] at sj
      have ev : v = .ref p := Option.some.inj (Option.some.inj sj)
      rw [List.getElem?_set_ne hjk] at hk ⊢
      exact (n oj p ev).2 k sl2 hk ok
    · rw [List.getElem?_set_ne c] at hj sj
      by_cases c2 : i = k
      · subst c2
        obtain ⟨rfl, hl⟩ := at_i hk
        rw [List.getElem?_set_self (by rw [← w.env.len]; exact hl)]
        intro z
        have ev : v = .ref p := Option.some.inj (Option.some.inj z)
        exact (n ok p ev).2 j sl1 hj oj sj
      · rw [List.getElem?_set_ne c2] at hk ⊢
        exact w.env.apart j k sl1 sl2 p hjk hj oj sj hk ok
  · by_cases c : i = j
    · subst c
      obtain ⟨rfl, hl⟩ := at_i hj
      rw [List.getElem?_set_self (by rw [← w.env.len]; exact hl)]
      intro z
      have ev : v = .ref a := Option.some.inj (Option.some.inj z)
      have := (n oj a ev).1
      rw [e] at this
      cases this
    · rw [List.getElem?_set_ne c] at hj ⊢
      exact (w.cd a o e).2.2 j sl' hj oj
/-- a list that is still changed is changed -/
theorem Wo.own (w : Wo K T C ρ σ s H F) {i : Nat} {ds es : List D} {p : Addr} {ws : List V} (hi : ρ[i]? = some (.own ds)) (hs : σ[i]? = some (some (.ref p))) (r : Rps H ws es) : Wo K T C (ρ.set i (.own es)) σ s H (upd F p (.lst ws)) := by
  obtain ⟨ov, h1, q, vs, e1, h2, h3, h4, h5⟩ := w.env.at_ i _ hi
  rw [hs] at h1
  have e2 : p = q := by
    have z := Option.some.inj h1
    rw [← z] at e1
    exact V.ref.inj (Option.some.inj e1)
  subst e2
  have hl : i < ρ.length := (List.getElem?_eq_some_iff.mp hi).1
  have at_i : ∀ {sl' : Sl}, (ρ.set i (.own es))[i]? = some sl' → sl' = .own es := fun {sl'} e => by
    rw [List.getElem?_set_self hl] at e
    exact (Option.some.inj e).symm
  refine ⟨fun a u e => ?_, ⟨by simp [w.env.len], fun j sl' hj => ?_, fun j k sl1 sl2 p' hjk hj oj sj hk ok => ?_⟩, ?_, fun a u e => ?_, fun a o e => ⟨(w.cd a o e).1, (w.cd a o e).2.1, fun j sl' hj oj => ?_⟩⟩
  · rw [upd_ne fun z => by subst z; rw [h2] at e; cases e]
    exact w.ex a u e
  · by_cases c : i = j
    · subst c
      rw [at_i hj]
      exact ⟨_, hs, p, ws, rfl, h2, h3, upd_same, r⟩
    · rw [List.getElem?_set_ne c] at hj
      obtain ⟨ov, g1, g2⟩ := w.env.at_ j sl' hj
      refine ⟨ov, g1, ?_⟩
      cases sl' with
      | unk => trivial
      | val d => exact g2
      | own xs =>
        obtain ⟨q, us, e3, k2, k3, k4, k5⟩ := g2
        have ne : q ≠ p := fun z => by
          subst z
          subst e3
          exact w.env.apart i j _ _ q c hi rfl hs hj rfl g1
        exact ⟨q, us, e3, k2, k3, by rw [upd_ne ne]; exact k4, k5⟩
      | dic kvs =>
        obtain ⟨q, us, e3, k2, k3, k4, k5⟩ := g2
        have ne : q ≠ p := fun z => by
          subst z
          subst e3
          exact w.env.apart i j _ _ q c hi rfl hs hj rfl g1
        exact ⟨q, us, e3, k2, k3, by rw [upd_ne ne]; exact k4, k5⟩
      | pot => exact g2
      | scr ns =>
        obtain ⟨a, e3, k2, k3⟩ := g2
        exact ⟨a, e3, k2, k3.ex fun o u z => by
          rw [upd_ne fun z2 => by subst z2; rw [h4] at z; cases z]
          exact z⟩
  · have a : ∃ sl, ρ[j]? = some sl ∧ isOwn sl = true := by
      by_cases c : i = j
      · subst c; exact ⟨_, hi, rfl⟩
      · rw [List.getElem?_set_ne c] at hj; exact ⟨_, hj, oj⟩
    have b : ∃ sl, ρ[k]? = some sl ∧ isOwn sl = true := by
      by_cases c : i = k
      · subst c; exact ⟨_, hi, rfl⟩
      · rw [List.getElem?_set_ne c] at hk; exact ⟨_, hk, ok⟩
    obtain ⟨x, a1, a2⟩ := a
    obtain ⟨y, b1, b2⟩ := b
    exact w.env.apart j k x y p' hjk a1 a2 sj b1 b2
  · exact T.loc _ _ _ _ _ w.at_ (Evl.Ex.refl _) (fun a pa => upd_ne fun z => h3 (by rw [← z]; exact pa)) fun _ _ h => h
  · rw [upd_ne fun z => by subst z; exact (w.cd a u e).2.2 i _ hi rfl hs]
    exact w.cx a u e
  · by_cases c : i = j
    · subst c
      exact (w.cd a o e).2.2 i _ hi rfl
    · rw [List.getElem?_set_ne c] at hj
      exact (w.cd a o e).2.2 j sl' hj oj
end
theorem Wo.bind {K : PySem.W.Frag} {S : Type} {T : Tie S} {C : Hp} {ρ ρ' : List Sl} {σ σ' : L2.St} {s : S} {H F : Hp} (w : Wo K T C ρ σ s H F) {sh : Sh} {d : D} (hb : sh.bind d ρ = some ρ') (hR : EnvR K T ρ' σ' H F) (so : SameOut sh.ix σ σ') : Wo K T C ρ' σ' s H F :=
  ⟨w.ex, hR, w.at_, w.cx, fun a o ea => ⟨(w.cd a o ea).1, (w.cd a o ea).2.1, fun i sl hi oi => by
    obtain ⟨g1, g2⟩ := Sh.bind_own sh hb i sl hi oi
    rw [so.2 i g2]
    exact (w.cd a o ea).2.2 i sl g1 oi⟩⟩
def OcOk (K : PySem.W.Frag) {S : Type} (T : Tie S) (C H : Hp) (s' : S) (Dn : Ends) : Oc → Prop
  | .nx ρ' => ∀ σ' H' F', Ex H H' → Wo K T C ρ' σ' s' H' F' → Dn.nx σ' F'
  | .rt d => ∀ v H' F', Ex H H' → Ex H' F' → T.at_ s' H' F' → Ex C F' → (∀ a o, C a = some o → H' a = none ∧ ¬ T.pt a) → Rp H' v d → Dn.rt v F'
  | .bk ρ' => ∀ σ' H' F', Ex H H' → Wo K T C ρ' σ' s' H' F' → Dn.bk σ' F'
theorem OcOk.mono {K : PySem.W.Frag} {S : Type} {T : Tie S} {C H H1 : Hp} {s' : S} {Dn : Ends} {o : Oc} (e : Ex H H1) (h : OcOk K T C H s' Dn o) : OcOk K T C H1 s' Dn o := by
  cases o with
  | nx ρ' => exact fun σ' H' F' e1 w => h σ' H' F' (e.trans e1) w
  | rt d => exact fun v H' F' e1 e2 a c1 c2 r => h v H' F' (e.trans e1) e2 a c1 c2 r
  | bk ρ' => exact fun σ' H' F' e1 w => h σ' H' F' (e.trans e1) w
structure JS (X : Cx) {S β : Type} (T : Tie S) (sts : List Stmt) (ρ : List Sl) (m : M S β) (out : β → Oc) : Prop where
  run : ∀ {σ : L2.St} {H F C : Hp} {s : S} {b : β} {s' : S}, Wo X.K T C ρ σ s H F → m s = some (b, s') → ∀ Dn : Ends, OcOk X.K T C H s' Dn (out b) → sSs X sts Dn σ F
/-- .. what is known is less -/
inductive Le : List Sl → List Sl → Prop
  | nil : Le [] []
  | u {a : Sl} {r r' : List Sl} : Le r r' → Le (.unk :: r) (a :: r')
  | e {a : Sl} {r r' : List Sl} : Le r r' → Le (a :: r) (a :: r')
theorem Le.len : ∀ {a b : List Sl}, Le a b → a.length = b.length
  | _, _, .nil => rfl
  | _, _, .u h => by simp [h.len]
  | _, _, .e h => by simp [h.len]
theorem Le.get : ∀ {a b : List Sl}, Le a b → ∀ (i : Nat) (sl : Sl), a[i]? = some sl → sl = .unk ∨ b[i]? = some sl
  | _, _, .nil, _, _, h => by simp at h
  | _, _, .u _, 0, _, h => .inl (by simpa using h.symm)
  | _, _, .e _, 0, _, h => .inr h
  | _, _, .u l, i + 1, sl, h => l.get i sl (by simpa using h)
  | _, _, .e l, i + 1, sl, h => l.get i sl (by simpa using h)
section
variable {X : Cx} {S β γ δ : Type} {T : Tie S} {ρ ρ' : List Sl} {m m1 m2 : M S β} {out : β → Oc} {me : M S D} {mc : M S Bool} {e c : Expr} {rest b1 b2 : List Stmt} {pos p : Pos} {f : D → M S β}
theorem js_end {b : β} (h : out b = .nx ρ') (l : Le ρ' ρ) : JS X T [] ρ (P b) out := ⟨fun {σ H F C s b' s'} w hm Dn k => by
  obtain ⟨rfl, rfl⟩ := P_some hm
  rw [h] at k
  exact sSs_of pss_nil (k σ H F (Evl.Ex.refl H) (w.weak l.len l.get))⟩
theorem js_break {b : β} (h : out b = .bk ρ') (l : Le ρ' ρ) : JS X T (.Break pos :: rest) ρ (P b) out := ⟨fun {σ H F C s b' s'} w hm Dn k => by
  obtain ⟨rfl, rfl⟩ := P_some hm
  rw [h] at k
  exact sSs_of (pss_cons ps_break pss_never) (k σ H F (Evl.Ex.refl H) (w.weak l.len l.get))⟩
theorem js_fail : JS X T rest ρ fail out := ⟨fun w hm => by cases hm⟩
theorem js_freeze {i : Nat} {ds : List D} (hi : ρ[i]? = some (.own ds)) (h : JS X T rest (ρ.set i (.val (.list ds))) m out) : JS X T rest ρ m out := ⟨fun {σ H F C s b s'} w hm Dn k => by
  obtain ⟨ov, h1, q, vs, rfl, h2, h3, h4, h5⟩ := w.env.at_ i _ hi
  have hl : i < ρ.length := (List.getElem?_eq_some_iff.mp hi).1
  have ext : Ex H (upd H q (.lst vs)) := Evl.Ex.new h2
  have cq : C q = none := by
    cases e : C q with
    | none => rfl
    | some o => exact absurd h1 ((w.cd q o e).2.2 i _ hi rfl)
  have st1 : ∀ {sl : Sl} {ov : Option V}, (isOwn sl = true → ov ≠ some (.ref q)) → SlR X.K T H F sl ov → SlR X.K T (upd H q (.lst vs)) F sl ov := fun {sl ov} n g => by
    cases sl with
    | unk => trivial
    | val d =>
      obtain ⟨v, g1, g2⟩ := g
      exact ⟨v, g1, g2.mono ext⟩
    | own xs =>
      obtain ⟨p, us, g1, g2, g3, g4, g5⟩ := g
      exact ⟨p, us, g1, by rw [upd_ne fun z => n rfl (by rw [g1, z])]; exact g2, g3, g4, g5.mono ext⟩
    | dic kvs =>
      obtain ⟨p, us, g1, g2, g3, g4, g5⟩ := g
      exact ⟨p, us, g1, by rw [upd_ne fun z => n rfl (by rw [g1, z])]; exact g2, g3, g4, g5.mono ext⟩
    | pot => exact g
    | scr ns => exact g
  refine h.run (H := upd H q (.lst vs)) (s := s) ⟨fun a u e => ?_, ⟨by simp [w.env.len], fun j sl' hj => ?_, fun j k' sl1 sl2 p' hjk hj oj sj hk ok => ?_⟩, ?_, w.cx, fun a o e => ⟨?_, (w.cd a o e).2.1, fun j sl' hj oj => ?_⟩⟩ hm Dn (k.mono ext)
  · by_cases c : a = q
    · subst c
      rw [upd_same] at e
      rw [h4]
      exact e
    · rw [upd_ne c] at e
      exact w.ex a u e
  · by_cases c : i = j
    · subst c
      rw [List.getElem?_set_self hl] at hj
      cases hj
      exact ⟨_, h1, _, rfl, .lst upd_same (h5.mono ext)⟩
    · rw [List.getElem?_set_ne c] at hj
      obtain ⟨ov', g1, g2⟩ := w.env.at_ j sl' hj
      exact ⟨ov', g1, st1 (fun oo z => w.env.apart i j _ _ q c hi rfl h1 hj oo (by rw [g1, z])) g2⟩
  · have ne : ∀ (k : Nat) (sl : Sl), (ρ.set i (.val (.list ds)))[k]? = some sl → isOwn sl = true → ρ[k]? = some sl := fun k sl e o => by
      by_cases c : i = k
      · subst c
        rw [List.getElem?_set_self hl] at e
        cases e
        cases o
      · rw [List.getElem?_set_ne c] at e
        exact e
    exact w.env.apart j k' sl1 sl2 p' hjk (ne _ _ hj oj) oj sj (ne _ _ hk ok) ok
  · exact T.loc _ _ _ _ _ w.at_ ext (fun _ _ => rfl) fun a pa h => by
      rw [upd_ne fun z => h3 (by rw [← z]; exact pa)]
      exact h
  · rw [upd_ne fun z => by subst z; rw [cq] at e; cases e]
    exact (w.cd a o e).1
  · by_cases c : i = j
    · subst c
      rw [List.getElem?_set_self hl] at hj
      cases hj
      cases oj
    · rw [List.getElem?_set_ne c] at hj
      exact (w.cd a o e).2.2 j sl' hj oj⟩
theorem js_ret {r : D → β} (he : JE X T e ρ me) (h : ∀ d, out (r d) = .rt d) : JS X T (.Return (some e) pos :: rest) ρ (B me fun d => P (r d)) out := ⟨fun {σ H F C s b s'} w hm Dn k => by
  obtain ⟨d, s1, m1, hm⟩ := B_some hm
  obtain ⟨rfl, rfl⟩ := P_some hm
  rw [h] at k
  refine sSs_of (pss_cons (ps_ret (pE X e)) pss_never) (he.run w.ex w.env w.at_ m1 _ fun v H1 F1 st1 a1 r1 => ?_)
  have w1 := w.step st1 a1
  exact k v H1 F1 st1.hh st1.hf a1 w1.cx (fun a o e => ⟨(w1.cd a o e).1, (w1.cd a o e).2.1⟩) r1⟩
/-- at the def's own level -/
theorem js_ret0 {m : M S D} (he : JE X T e ρ m) : JS X T (.Return (some e) pos :: rest) ρ m Oc.rt := ⟨fun {σ H F C s b s'} w hm Dn k => by
  refine sSs_of (pss_cons (ps_ret (pE X e)) pss_never) (he.run w.ex w.env w.at_ hm _ fun v H1 F1 st1 a1 r1 => ?_)
  have w1 := w.step st1 a1
  exact k v H1 F1 st1.hh st1.hf a1 w1.cx (fun a o e => ⟨(w1.cd a o e).1, (w1.cd a o e).2.1⟩) r1⟩
theorem js_asg {i : Nat} {x : Str} {mk : δ → Sl} {m : M S δ} {f : δ → M S β} {pos' : Pos} (hN : X.N.Nodup) (hi : X.N[i]? = some x) (hx : Loc X.env.scope x) (he : JX X T e ρ mk m) (hr : ∀ d, JS X T rest (ρ.set i (mk d)) (f d) out)
    (hs : swapsWith e (some (.Name x pos')) pos.line X.env = pure false := by rfl) (hf : X.fn x = true ∨ X.env.scope.names.lookup x = some .local := by first | exact .inl rfl | exact .inr rfl | assumption) : JS X T (.Assign [.Name x pos'] e pos :: rest) ρ (B m f) out := ⟨fun {σ H F C s b s'} w hm Dn k => by
  obtain ⟨d, s1, m1, hm⟩ := B_some hm
  refine sSs_of (pss_cons (ps_set hN hi hx (pE X e) hs hf) (pSs X rest)) (he.run w.ex w.env w.at_ m1 _ fun v H1 F1 st1 a1 r1 n1 => ?_)
  have w1 := w.step st1 a1
  refine (hr d).run (w1.set i r1 fun o a ea => ?_) hm Dn (k.mono st1.hh)
  have hn := n1 o a ea
  refine ⟨?_, fun j sl' hj oj z => ?_⟩
  · cases q : C a with
    | none => rfl
    | some u =>
      rw [w.cx a u q] at hn
      cases hn
  · cases sl' with
    | own xs =>
      obtain ⟨ov, g1, p', vs', g2, _, _, g5, _⟩ := w.env.at_ j _ hj
      rw [z] at g1
      have : a = p' := by
        have q := Option.some.inj g1
        rw [← q] at g2
        exact V.ref.inj (Option.some.inj g2)
      subst this
      rw [hn] at g5
      cases g5
    | dic kvs =>
      obtain ⟨ov, g1, p', vs', g2, _, _, g5, _⟩ := w.env.at_ j _ hj
      rw [z] at g1
      have : a = p' := by
        have q := Option.some.inj g1
        rw [← q] at g2
        exact V.ref.inj (Option.some.inj g2)
      subst this
      rw [hn] at g5
      cases g5
    | _ => cases oj⟩
theorem js_expr {f : M S β} (he : JE X T e ρ me) (hr : JS X T rest ρ f out) (hs : swapsWith e none pos.line X.env = pure false := by rfl) : JS X T (.Expr e pos :: rest) ρ (B me fun _ => f) out := ⟨fun {σ H F C s b s'} w hm Dn k => by
  obtain ⟨d, s1, m1, hm⟩ := B_some hm
  refine sSs_of (pss_cons (ps_expr (pE X e) hs) (pSs X rest)) (he.run w.ex w.env w.at_ m1 _ fun v H1 F1 st1 a1 r1 => ?_)
  exact hr.run (w.step st1 a1) hm Dn (k.mono st1.hh)⟩
theorem js_ifraise (hc : JT X T c ρ mc) (hr : JS X T rest ρ m out) : JS X T (.If c b1 [] pos :: rest) ρ (B mc fun b => if b then fail else m) out := ⟨fun {σ H F C s b s'} w hm Dn k => by
  obtain ⟨d, s1, m1, hm⟩ := B_some hm
  refine sSs_of (pss_cons (ps_if (pT X c) pss_never pss_nil) (pSs X rest)) (hc.run w.ex w.env w.at_ m1 _ fun H1 F1 st1 a1 => ?_)
  cases d with
  | true => cases hm
  | false => exact hr.run (w.step st1 a1) hm Dn (k.mono st1.hh)⟩
/-- the first block never goes on -/
theorem js_ifret (hc : JT X T c ρ mc) (h1 : JS X T b1 ρ m1 out) (hr : JS X T rest ρ m2 out) (ho : ∀ b ρ', out b ≠ .nx ρ') : JS X T (.If c b1 [] pos :: rest) ρ (B mc fun b => if b then m1 else m2) out := ⟨fun {σ H F C s b s'} w hm Dn k => by
  obtain ⟨d, s1, m1', hm⟩ := B_some hm
  refine sSs_of (pss_cons (ps_if (pT X c) (pSs X b1) pss_nil) (pSs X rest)) (hc.run w.ex w.env w.at_ m1' _ fun H1 F1 st1 a1 => ?_)
  have k1 := k.mono st1.hh
  cases d with
  | true =>
    refine h1.run (w.step st1 a1) hm _ ?_
    cases e : out b with
    | nx ρ' => exact absurd e (ho b ρ')
    | rt d => rw [e] at k1; exact k1
    | bk ρ' => rw [e] at k1; exact k1
  | false => exact hr.run (w.step st1 a1) hm Dn k1⟩
/-- both ways join, or leave -/
inductive Fl (α : Type) where
  | nx (a : α)
  | rt (d : D)
  | bk (a : α)
def Fl.oc {α : Type} (emb : α → List Sl) : Fl α → Oc
  | .nx a => .nx (emb a)
  | .rt d => .rt d
  | .bk a => .bk (emb a)
theorem js_ifjoin {α : Type} {emb : α → List Sl} {n1 n2 : M S α} {f : α → M S β} (hc : JT X T c ρ mc) (h1 : JS X T b1 ρ n1 (fun a => .nx (emb a))) (h2 : JS X T b2 ρ n2 (fun a => .nx (emb a))) (hr : ∀ a, JS X T rest (emb a) (f a) out) : JS X T (.If c b1 b2 pos :: rest) ρ (B mc fun b => B (if b then n1 else n2) f) out := ⟨fun {σ H F C s b s'} w hm Dn k => by
  obtain ⟨d, s1, m1', hm1⟩ := B_some hm
  obtain ⟨a, s2, m2', hm2⟩ := B_some hm1
  refine sSs_of (pss_cons (ps_if (pT X c) (pSs X b1) (pSs X b2)) (pSs X rest)) (hc.run w.ex w.env w.at_ m1' _ fun H1 F1 st1 a1 => ?_)
  have w1 := w.step st1 a1
  have k1 := k.mono st1.hh
  cases d with
  | true => exact h1.run w1 m2' _ fun σ' H' F' e w' => (hr a).run w' hm2 Dn (k1.mono e)
  | false => exact h2.run w1 m2' _ fun σ' H' F' e w' => (hr a).run w' hm2 Dn (k1.mono e)⟩
theorem js_ifleave {α : Type} {emb : α → List Sl} {n1 n2 : M S (Fl α)} {f : α → M S β} {r : D → β} (hc : JT X T c ρ mc) (h1 : JS X T b1 ρ n1 (Fl.oc emb)) (h2 : JS X T b2 ρ n2 (Fl.oc emb)) (hr : ∀ a, JS X T rest (emb a) (f a) out) (ho : ∀ d, out (r d) = .rt d) :
    JS X T (.If c b1 b2 pos :: rest) ρ (B mc fun b => B (if b then n1 else n2) fun
      | .nx a => f a
      | .rt d => P (r d)
      | .bk _ => fail) out := ⟨fun {σ H F C s b s'} w hm Dn k => by
  obtain ⟨d, s1, m1', hm⟩ := B_some hm
  obtain ⟨a, s2, m2', hm⟩ := B_some hm
  refine sSs_of (pss_cons (ps_if (pT X c) (pSs X b1) (pSs X b2)) (pSs X rest)) (hc.run w.ex w.env w.at_ m1' _ fun H1 F1 st1 a1 => ?_)
  have w1 := w.step st1 a1
  have k1 := k.mono st1.hh
  have go : ∀ {D1 : Ends}, D1.rt = Dn.rt → (D1.nx = fun σ' F' => sSs X rest Dn σ' F') → OcOk X.K T C H1 s2 D1 (Fl.oc emb a) := fun {D1} e1 e2 => by
    cases a with
    | nx a =>
      intro σ' H' F' e w'
      rw [e2]
      exact (hr a).run w' hm Dn (k1.mono e)
    | rt d =>
      obtain ⟨rfl, rfl⟩ := P_some hm
      rw [ho] at k1
      intro v H' F' q1 q2 q3 q4 q5 q6
      rw [e1]
      exact k1 v H' F' q1 q2 q3 q4 q5 q6
    | bk _ => cases hm
  cases d with
  | true => exact h1.run w1 m2' _ (go rfl rfl)
  | false => exact h2.run w1 m2' _ (go rfl rfl)⟩
/-- (a, b) = .. -/
theorem js_unpack {tg : Expr} {sh : Sh} {mb : D → M S β} (he : JE X T e ρ me) (hg : PGd X tg sh) (hb : JItem sh ρ mb (fun ρ' m' => JS X T rest ρ' m' out)) (hs : swapsWithSole [tg] e pos.line X.env = pure false := by rfl) (hw : swappedStores [tg] e X.env = pure none := by rfl)
    (h1 : (assignEach [tg] X.env).map (·.2) = [assign tg X.env] := by rfl) : JS X T (.Assign [tg] e pos :: rest) ρ (B me mb) out := ⟨fun {σ H F C s b s'} w hm Dn k => by
  obtain ⟨d, s1, m1, hm⟩ := B_some hm
  refine sSs_of (pss_cons (ps_asg (pE X e) hg hs hw h1) (pSs X rest)) (he.run w.ex w.env w.at_ m1 _ fun v H1 F1 st1 a1 r1 => ?_)
  have w1 := w.step st1 a1
  obtain ⟨ρ', m', e1, e2, e3⟩ := hb d _ _ _ hm
  refine gSh_run w1.ex sh (.inl r1) w1.env e1 _ fun σ' hR' so => ?_
  exact e2.run (w1.bind e1 hR' so) e3 Dn (k.mono st1.hh)⟩
theorem js_map {o2 : γ → Oc} {g : β → γ} (h : JS X T rest ρ m out) (e : ∀ b, o2 (g b) = out b) : JS X T rest ρ (B m fun b => P (g b)) o2 := ⟨fun {σ H F C s b s'} w hm Dn k => by
  obtain ⟨d, s1, m1, hm⟩ := B_some hm
  obtain ⟨rfl, rfl⟩ := P_some hm
  rw [e] at k
  exact h.run w m1 Dn k⟩
/-! ### lists that are changed -/
def appL (xs : List D) (d : D) : Option (List D) := if xs.length < 16777216 then some (xs ++ [d]) else none
def extL (xs ys : List D) : Option (List D) := if xs.length + ys.length ≤ 16777216 then some (xs ++ ys) else none
def lstOf : D → Option (List D)
  | .list xs => some xs
  | _ => none
def setL (xs : List D) (i d : D) : Option (List D) := match i with
  | .int k => (ixN xs.length k).map fun j => xs.set j d
  | _ => none
theorem own_get {K : PySem.W.Frag} {C : Hp} {σ : L2.St} {s : S} {H F : Hp} (w : Wo K T C ρ σ s H F) {i : Nat} {xs : List D} (hi : ρ[i]? = some (.own xs)) : ∃ p vs, σ[i]? = some (some (.ref p)) ∧ H p = none ∧ ¬ T.pt p ∧ F p = some (.lst vs) ∧ Rps H vs xs := by
  obtain ⟨ov, h1, q, vs, rfl, h2, h3, h4, h5⟩ := w.env.at_ i _ hi
  exact ⟨q, vs, h1, h2, h3, h4, h5⟩
theorem js_append {i : Nat} {x : Str} {xs : List D} {p1 p2 p3 : Pos} {f : List D → M S β} (hN : X.N[i]? = some x) (hv : Vis X.env.scope x) (hρ : ρ[i]? = some (.own xs)) (he : JE X T e ρ me) (hr : ∀ ys, JS X T rest (ρ.set i (.own ys)) (f ys) out)
    (hbase : attributeBase (.Name x p1) "append" X.env (eval (.Name x p1) X.env) = eval (.Name x p1) X.env := by rfl)
    (hfew : ((backTo p3 (starEach [e] X.env)).all (fun x => !x.1) && (backToKw p3 (keywordEach [] X.env)).all (fun x => x.1.isSome) && decide ([e].length + ([] : List Keyword).length + (if ([] : List Keyword).isEmpty then 0 else 1) < 30)) = true := by rfl)
    (hline : (p2.endLine == p3.line) = true := by rfl) (hse : starEach [e] X.env = (false, eval e X.env) :: starEach [] X.env := by rfl) (hplain : (backTo p3 (starEach [] X.env)).any (·.1) = false := by rfl)
    (hs : swapsWith (.Call (.Attribute (.Name x p1) "append" p2) [e] [] p3) none pos.line X.env = pure false := by rfl) (hd : (x == ("__debug__" : Str)) = false := by decide) (hcd : (x == ("__classdict__" : Str)) = false := by decide) :
    JS X T (.Expr (.Call (.Attribute (.Name x p1) "append" p2) [e] [] p3) pos :: rest) ρ (B me fun d => B (L (appL xs d)) f) out := ⟨fun {σ H F C s b s'} w hm Dn k => by
  obtain ⟨d, s1, m1, hm⟩ := B_some hm
  obtain ⟨ys, hy, hm⟩ := BL_some hm
  obtain ⟨q, vs, hs1, h2, h3, h4, h5⟩ := own_get w hρ
  refine sSs_of (pss_cons (ps_expr (pe_bm PySem.F.plainAttrs_list PySem.F.slot_list_append PySem.F.type_list_append mt_append (pe_var hN hv hd hcd) (pa_cons (pE X e) pa_nil hse) hbase hfew hline hse hplain) hs) (pSs X rest)) ?_
  refine ⟨_, hs1, .inl ⟨rfl, _, .inl (.inl h4)⟩, he.run w.ex w.env w.at_ m1 _ fun v H1 F1 st1 a1 r1 => ?_⟩
  have w1 := w.step st1 a1
  unfold appL at hy
  by_cases hz : xs.length < 16777216
  · rw [if_pos hz] at hy
    cases hy
    refine ⟨q, vs, v, rfl, rfl, st1.ff _ _ h3 h4, by rw [sizeLine_eq, h5.length]; exact hz, ?_⟩
    exact (hr _).run (w1.own hρ hs1 ((h5.mono st1.hh).append (.cons r1 .nil))) hm Dn (k.mono st1.hh)
  · rw [if_neg hz] at hy
    cases hy⟩
theorem js_extend {i : Nat} {x : Str} {xs : List D} {p1 p2 p3 : Pos} {f : List D → M S β} (hN : X.N[i]? = some x) (hv : Vis X.env.scope x) (hρ : ρ[i]? = some (.own xs)) (he : JE X T e ρ me) (hr : ∀ ys, JS X T rest (ρ.set i (.own ys)) (f ys) out)
    (hbase : attributeBase (.Name x p1) "extend" X.env (eval (.Name x p1) X.env) = eval (.Name x p1) X.env := by rfl)
    (hfew : ((backTo p3 (starEach [e] X.env)).all (fun x => !x.1) && (backToKw p3 (keywordEach [] X.env)).all (fun x => x.1.isSome) && decide ([e].length + ([] : List Keyword).length + (if ([] : List Keyword).isEmpty then 0 else 1) < 30)) = true := by rfl)
    (hline : (p2.endLine == p3.line) = true := by rfl) (hse : starEach [e] X.env = (false, eval e X.env) :: starEach [] X.env := by rfl) (hplain : (backTo p3 (starEach [] X.env)).any (·.1) = false := by rfl)
    (hs : swapsWith (.Call (.Attribute (.Name x p1) "extend" p2) [e] [] p3) none pos.line X.env = pure false := by rfl) (hd : (x == ("__debug__" : Str)) = false := by decide) (hcd : (x == ("__classdict__" : Str)) = false := by decide) :
    JS X T (.Expr (.Call (.Attribute (.Name x p1) "extend" p2) [e] [] p3) pos :: rest) ρ (B me fun d => B (L ((lstOf d).bind fun zs => extL xs zs)) f) out := ⟨fun {σ H F C s b s'} w hm Dn k => by
  obtain ⟨d, s1, m1, hm⟩ := B_some hm
  obtain ⟨ys, hy, hm⟩ := BL_some hm
  obtain ⟨q, vs, hs1, h2, h3, h4, h5⟩ := own_get w hρ
  refine sSs_of (pss_cons (ps_expr (pe_bm PySem.F.plainAttrs_list PySem.F.slot_list_extend PySem.F.type_list_extend mt_extend (pe_var hN hv hd hcd) (pa_cons (pE X e) pa_nil hse) hbase hfew hline hse hplain) hs) (pSs X rest)) ?_
  refine ⟨_, hs1, .inl ⟨rfl, _, .inl (.inl h4)⟩, he.run w.ex w.env w.at_ m1 _ fun v H1 F1 st1 a1 r1 => ?_⟩
  have w1 := w.step st1 a1
  cases d with
  | list zs =>
    have hy : (if xs.length + zs.length ≤ 16777216 then some (xs ++ zs) else none) = some ys := hy
    by_cases hz : xs.length + zs.length ≤ 16777216
    · rw [if_pos hz] at hy
      cases hy
      obtain ⟨c, ws, rfl, hc, rc⟩ := r1.list_inv
      refine ⟨q, c, vs, ws, rfl, rfl, st1.ff _ _ h3 h4, st1.hf _ _ hc, by rw [sizeLine_eq, h5.length, rc.length]; exact hz, ?_⟩
      exact (hr _).run (w1.own hρ hs1 ((h5.mono st1.hh).append rc)) hm Dn (k.mono st1.hh)
    · rw [if_neg hz] at hy
      cases hy
  | _ => cases hy⟩
/-- x[i] = e -/
theorem js_setitem {i : Nat} {x : Str} {xs : List D} {p1 p2 : Pos} {ie : Expr} {mi : M S D} {f : List D → M S β} (hN : X.N[i]? = some x) (hv : Vis X.env.scope x) (hρ : ρ[i]? = some (.own xs)) (he : JE X T e ρ me) (hi : JE X T ie ρ mi) (hr : ∀ ys, JS X T rest (ρ.set i (.own ys)) (f ys) out)
    (ha : ∀ v, assign (.Subscript (.Name x p1) ie p2) X.env v = (do
      let ov ← holding [v] (eval (.Name x p1) X.env)
      let iv ← holding [v, ov] (eval ie X.env)
      standAt p2
      holding [v, ov, iv] (setItem ov iv v)
      release [v, ov, iv] []) := by intro _; rfl) (hs : swapsWithSole [.Subscript (.Name x p1) ie p2] e pos.line X.env = pure false := by rfl) (hw : swappedStores [.Subscript (.Name x p1) ie p2] e X.env = pure none := by rfl)
    (h1 : (assignEach [.Subscript (.Name x p1) ie p2] X.env).map (·.2) = [assign (.Subscript (.Name x p1) ie p2) X.env] := by rfl) (hd : (x == ("__debug__" : Str)) = false := by decide) (hcd : (x == ("__classdict__" : Str)) = false := by decide) :
    JS X T (.Assign [.Subscript (.Name x p1) ie p2] e pos :: rest) ρ (B me fun d => B mi fun j => B (L (setL xs j d)) f) out := ⟨fun {σ H F C s b s'} w hm Dn k => by
  obtain ⟨d, s1, m1, hm⟩ := B_some hm
  obtain ⟨j, s2, m2, hm⟩ := B_some hm
  obtain ⟨ys, hy, hm⟩ := BL_some hm
  obtain ⟨q, vs, hs1, h2, h3, h4, h5⟩ := own_get w hρ
  refine sSs_of (pss_cons (ps_asg (pE X e) (pg_sub (pe_var hN hv hd hcd) (pE X ie) set_list ha) hs hw h1) (pSs X rest)) (he.run w.ex w.env w.at_ m1 _ fun v H1 F1 st1 a1 r1 => ?_)
  have w1 := w.step st1 a1
  refine ⟨_, hs1, hi.run w1.ex w1.env a1 m2 _ fun u H2 F2 st2 a2 r2 => ?_⟩
  have w2 := w1.step st2 a2
  cases j with
  | int n =>
    cases r2
    have hy : (ixN xs.length n).map (fun j => xs.set j d) = some ys := hy
    cases e : ixN xs.length n with
    | none => rw [e] at hy; cases hy
    | some j =>
      rw [e] at hy
      cases hy
      refine ⟨q, vs, n, j, rfl, rfl, st2.ff _ _ h3 (st1.ff _ _ h3 h4), by rw [h5.length]; exact e, ?_⟩
      exact (hr _).run (w2.own hρ hs1 (Rps.set (r1.mono st2.hh) j ((h5.mono st1.hh).mono st2.hh))) hm Dn ((k.mono st1.hh).mono st2.hh)
  | _ => cases hy⟩
end

/-! ### loops -/
def foldF {S α : Type} : List D → α → (α → D → M S (Fl α)) → M S (Fl α)
  | [], a, _ => P (.nx a)
  | d :: ds, a, f => B (f a d) fun
    | .nx a => foldF ds a f
    | .bk a => P (.nx a)
    | .rt d => P (.rt d)
def foldS {S α : Type} : List D → α → (α → D → M S α) → M S α
  | [], a, _ => P a
  | d :: ds, a, f => B (f a d) fun a => foldS ds a f
def whileF {S α : Type} : Nat → α → (α → M S Bool) → (α → M S (Fl α)) → M S (Fl α)
  | 0, _, _, _ => fail
  | n + 1, a, t, f => B (t a) fun b => if b then B (f a) fun
      | .nx a => whileF n a t f
      | .bk a => P (.nx a)
      | .rt d => P (.rt d)
    else P (.nx a)
section
variable {X : Cx} {S α β : Type} {T : Tie S} {ρ ρ' : List Sl} {out : β → Oc} {emb : α → List Sl} {a0 : α} {src : M S (List D)} {tg iter c : Expr} {sh : Sh} {rest body : List Stmt} {pos p : Pos}
theorem js_forF {fb : α → D → M S (Fl α)} {f : α → M S β} {r : D → β} (hp : PassesOwn (model X.prog X.w) X.A X.env X.xe) (hc : X.calm = true) (hi : JI X T tg iter ρ true src) (hg : PGd X tg sh) (h0 : Le (emb a0) ρ) (hb : ∀ a, JItem sh (emb a) (fb a) (fun ρ' m' => JS X T body ρ' m' (Fl.oc emb)))
    (hr : ∀ a, JS X T rest (emb a) (f a) out) (ho : ∀ d, out (r d) = .rt d) (hs : ∀ x, foldedSetIterable iter X.env x = pure x := by intro _; rfl) (ht : tupOk tg sh = true := by rfl) :
    JS X T (.For tg iter body [] pos :: rest) ρ (B src fun ds => B (foldF ds a0 fb) fun
      | .nx a => f a
      | .rt d => P (r d)
      | .bk _ => fail) out := ⟨fun {σ H F C s b s'} w hm Dn k => by
  obtain ⟨ds, s1, m1, hm1⟩ := B_some hm
  obtain ⟨res, s2, m2, hm2⟩ := B_some hm1
  refine sSs_of (pss_cons (ps_for hp hc (pI X tg iter) hg (pSs X body) hs) (pSs X rest)) (hi.run w.ex w.env w.at_ m1 _ fun U J H1 F1 st1 a1 hU hpu wk => ?_)
  have nU : ∀ a, ¬ U a := hpu rfl
  have w1 := w.step st1 a1
  have k1 := k.mono st1.hh
  -- what comes behind the loop
  have fin : ∀ {a : α} {σ' : L2.St} {H' F' : Hp}, res = .nx a → Ex H1 H' → Wo X.K T C (emb a) σ' s2 H' F' → sSs X rest Dn σ' F' := fun {a σ' H' F'} er e w' => by
    subst er
    exact (hr a).run w' hm2 Dn (k1.mono e)
  refine ⟨fun i m σ' F' => m = ds.length - i ∧ i ≤ ds.length ∧ ∃ H' sx a, Ex H1 H' ∧ Wo X.K T C (emb a) σ' sx H' F' ∧ foldF (ds.drop i) a fb sx = some (res, s2),
    ⟨ds.length, rfl, Nat.zero_le _, H1, s1, a0, Evl.Ex.refl _, w1.weak h0.len h0.get, by simpa using m2⟩, fun i m σ' F' hW => ?_⟩
  obtain ⟨rfl, hi', H', sx, a, eH, w', hf⟩ := hW
  have vac : ∀ b, U b → F' b = F1 b := fun b z => absurd z (nU b)
  by_cases hlt : i < ds.length
  · have hdr : ds.drop i = ds[i] :: ds.drop (i + 1) := (List.drop_eq_getElem_cons hlt)
    rw [hdr] at hf
    obtain ⟨o, s3, mo, hf⟩ := B_some hf
    refine .inr ⟨wk.goes i H' F' eH w'.ex vac hlt, fun σ7 F7 => ∃ H7 s7 a7, Ex H1 H7 ∧ Wo X.K T C (emb a7) σ7 s7 H7 F7 ∧ foldF (ds.drop (i + 1)) a7 fb s7 = some (res, s2),
      fun σ7 F7 hN => ⟨ds.length - (i + 1), by omega, rfl, hlt, hN⟩, fun x F2 hy => ?_⟩
    obtain ⟨H2, d, st2, hd, rx⟩ := wk.yields i H' F' x F2 eH w'.ex vac hlt hy
    have ed : d = ds[i] := by
      rw [List.getElem?_eq_getElem hlt] at hd
      exact (Option.some.inj hd).symm
    subst ed
    have w2 := w'.step (st2.up w'.at_) (st2.at w'.at_)
    obtain ⟨ρ', m', hbind, hpost, hm'⟩ := hb a _ _ _ _ mo
    refine gSh_run w2.ex sh (rx.imp id fun z => ⟨tupOk_some ht z.1, z.2⟩) w2.env hbind _ fun σ2 hR' so => ?_
    refine hpost.run (w2.bind hbind hR' so) hm' _ ?_
    have e12 : Ex H1 H2 := eH.trans st2.hh
    cases o with
    | nx a' => exact fun σ7 H7 F7 e7 w7 => ⟨H7, s3, a', e12.trans e7, w7, hf⟩
    | bk a' =>
      obtain ⟨er, rfl⟩ := P_some hf
      exact fun σ7 H7 F7 e7 w7 => fin er (e12.trans e7) w7
    | rt d =>
      obtain ⟨er, rfl⟩ := P_some hf
      subst er
      obtain ⟨eb, rfl⟩ := P_some hm2
      subst eb
      rw [ho] at k1
      exact fun v H7 F7 q1 q2 q3 q4 q5 q6 => k1 v H7 F7 (e12.trans q1) q2 q3 q4 q5 q6
  · have e : i = ds.length := by omega
    subst e
    rw [List.drop_length] at hf
    obtain ⟨er, rfl⟩ := P_some hf
    exact .inl ⟨wk.stops H' F' eH w'.ex vac, fin er eH w'⟩⟩
theorem B_eq {S α β : Type} {m : M S α} {f : α → M S β} {s s1 : S} {a : α} (h : m s = some (a, s1)) : B m f s = f a s1 := by
  unfold B
  rw [h]
theorem foldF_nx {fb : α → D → M S α} : ∀ (ds : List D) (a : α) (s : S), foldF ds a (fun a d => B (fb a d) fun b => P (.nx b)) s = B (foldS ds a fb) (fun b => P (.nx b)) s
  | [], a, s => rfl
  | d :: ds, a, s => by
    show B (B (fb a d) fun b => P (Fl.nx b)) _ s = B (B (fb a d) fun a => foldS ds a fb) _ s
    unfold B
    cases fb a d s with
    | none => rfl
    | some q =>
      obtain ⟨b, s1⟩ := q
      exact foldF_nx ds b s1
/-- a loop that is neither left nor broken -/
theorem js_for {fb : α → D → M S α} {f : α → M S β} {r : D → β} (hp : PassesOwn (model X.prog X.w) X.A X.env X.xe) (hc : X.calm = true) (hi : JI X T tg iter ρ true src) (hg : PGd X tg sh) (h0 : Le (emb a0) ρ) (hb : ∀ a, JItem sh (emb a) (fb a) (fun ρ' m' => JS X T body ρ' m' (fun a => .nx (emb a))))
    (hr : ∀ a, JS X T rest (emb a) (f a) out) (ho : ∀ d, out (r d) = .rt d) (hs : ∀ x, foldedSetIterable iter X.env x = pure x := by intro _; rfl) (ht : tupOk tg sh = true := by rfl) :
    JS X T (.For tg iter body [] pos :: rest) ρ (B src fun ds => B (foldS ds a0 fb) f) out := by
  have h := js_forF (fb := fun a d => B (fb a d) fun b => P (.nx b)) (f := f) (r := r) (pos := pos) hp hc hi hg h0 (fun a d s x s' e => by
    obtain ⟨y, s1, e1, e2⟩ := B_some e
    obtain ⟨ρ', m', h1, h2, h3⟩ := hb a d _ _ _ e1
    refine ⟨ρ', B m' fun b => P (.nx b), h1, js_map h2 fun b => rfl, ?_⟩
    unfold B
    rw [h3]
    exact e2) hr ho hs ht
  refine ⟨fun {σ H F C s b s'} w hm Dn k => h.run w ?_ Dn k⟩
  obtain ⟨ds, s1, m1, hm1⟩ := B_some hm
  obtain ⟨res, s2, m2, hm2⟩ := B_some hm1
  rw [B_eq m1, B_eq (show foldF ds a0 (fun a d => B (fb a d) fun b => P (.nx b)) s1 = some (.nx res, s2) by rw [foldF_nx, B_eq m2]; rfl)]
  exact hm2
theorem js_whileF {fb : α → M S (Fl α)} {tb : α → M S Bool} {f : α → M S β} {r : D → β} {n : Nat} (hp : PassesOwn (model X.prog X.w) X.A X.env X.xe) (h0 : Le (emb a0) ρ) (ht : ∀ a, JT X T c (emb a) (tb a)) (hb : ∀ a, JS X T body (emb a) (fb a) (Fl.oc emb))
    (hr : ∀ a, JS X T rest (emb a) (f a) out) (ho : ∀ d, out (r d) = .rt d) :
    JS X T (.While c body [] pos :: rest) ρ (B (whileF n a0 tb fb) fun
      | .nx a => f a
      | .rt d => P (r d)
      | .bk _ => fail) out := ⟨fun {σ H F C s b s'} w hm Dn k => by
  obtain ⟨res, s2, m2, hm2⟩ := B_some hm
  refine sSs_of (pss_cons (ps_while hp (pT X c) (pSs X body)) (pSs X rest)) ?_
  have fin : ∀ {a : α} {σ' : L2.St} {H' F' : Hp}, res = .nx a → Ex H H' → Wo X.K T C (emb a) σ' s2 H' F' → sSs X rest Dn σ' F' := fun {a σ' H' F'} er e w' => by
    subst er
    exact (hr a).run w' hm2 Dn (k.mono e)
  refine ⟨fun m σ' F' => ∃ H' sx a, Ex H H' ∧ Wo X.K T C (emb a) σ' sx H' F' ∧ whileF m a tb fb sx = some (res, s2), ⟨n, H, s, a0, Evl.Ex.refl _, w.weak h0.len h0.get, m2⟩, fun m σ' F' hW => ?_⟩
  obtain ⟨H', sx, a, eH, w', hf⟩ := hW
  cases m with
  | zero => cases hf
  | succ m =>
    obtain ⟨t, s3, mt, hf1⟩ := B_some hf
    refine (ht a).run w'.ex w'.env w'.at_ mt _ fun H3 F3 st3 a3 => ?_
    have w3 := w'.step st3 a3
    have e3 := eH.trans st3.hh
    cases t with
    | false =>
      obtain ⟨er, rfl⟩ := P_some hf1
      exact fin er e3 w3
    | true =>
      obtain ⟨o, s4, mo, hf2⟩ := B_some hf1
      refine ⟨fun σ7 F7 => ∃ H7 s7 a7, Ex H H7 ∧ Wo X.K T C (emb a7) σ7 s7 H7 F7 ∧ whileF m a7 tb fb s7 = some (res, s2), fun σ7 F7 hN => ⟨m, Nat.lt_succ_self m, hN⟩, ?_⟩
      refine (hb a).run w3 mo _ ?_
      cases o with
      | nx a' => exact fun σ7 H7 F7 e7 w7 => ⟨H7, s4, a', e3.trans e7, w7, hf2⟩
      | bk a' =>
        obtain ⟨er, rfl⟩ := P_some hf2
        exact fun σ7 H7 F7 e7 w7 => fin er (e3.trans e7) w7
      | rt d =>
        obtain ⟨er, rfl⟩ := P_some hf2
        subst er
        obtain ⟨eb, rfl⟩ := P_some hm2
        subst eb
        rw [ho] at k
        exact fun v H7 F7 q1 q2 q3 q4 q5 q6 => k v H7 F7 (e3.trans q1) q2 q3 q4 q5 q6⟩
end
/-! ### a, b = e1, e2 -/
section
variable {X : Cx} {S β δ1 δ2 δ3 : Type} {T : Tie S} {ρ : List Sl} {out : β → Oc} {mk1 : δ1 → Sl} {mk2 : δ2 → Sl} {mk3 : δ3 → Sl} {m1 : M S δ1} {m2 : M S δ2} {m3 : M S δ3} {a b c : Expr} {rest : List Stmt} {pos : Pos}
/-- a new list lies nowhere yet -/
theorem Wo.fresh {K : PySem.W.Frag} {C : Hp} {σ : L2.St} {s : S} {H F : Hp} (w : Wo K T C ρ σ s H F) {q : Addr} (hq : F q = none) : C q = none ∧ ∀ (j : Nat) (sl' : Sl), ρ[j]? = some sl' → isOwn sl' = true → σ[j]? ≠ some (some (V.ref q)) := by
  refine ⟨?_, fun j sl' hj oj z => ?_⟩
  · cases e : C q with
    | none => rfl
    | some u =>
      rw [w.cx q u e] at hq
      cases hq
  · cases sl' with
    | own xs =>
      obtain ⟨ov, g1, p', vs', g2, _, _, g5, _⟩ := w.env.at_ j _ hj
      rw [z] at g1
      have : q = p' := by
        have q := Option.some.inj g1
        rw [← q] at g2
        exact V.ref.inj (Option.some.inj g2)
      subst this
      rw [hq] at g5
      cases g5
    | dic kvs =>
      obtain ⟨ov, g1, p', vs', g2, _, _, g5, _⟩ := w.env.at_ j _ hj
      rw [z] at g1
      have : q = p' := by
        have q := Option.some.inj g1
        rw [← q] at g2
        exact V.ref.inj (Option.some.inj g2)
      subst this
      rw [hq] at g5
      cases g5
    | _ => cases oj
theorem js_par2 {i j : Nat} {x y : Str} {px py pt : Pos} {kt k2 : Nat} {pt2 : Pos} {f : δ1 → δ2 → M S β} (hc : X.calm = true) (hN : X.N.Nodup) (hi : X.N[i]? = some x) (hj : X.N[j]? = some y) (hij : i ≠ j) (hx : X.env.scope.names.lookup x = some .local) (hy : X.env.scope.names.lookup y = some .local)
    (h1 : JX X T a ρ mk1 m1) (h2 : JX X T b ρ mk2 m2) (hr : ∀ d e, JS X T rest ((ρ.set i (mk1 d)).set j (mk2 e)) (f d e) out)
    (hw : swappedStores [.Tuple [.Name x px, .Name y py] kt pt] (.Tuple [a, b] k2 pt2) X.env = pure (some [x, y]) := by rfl) (hs : swapsWithSole [.Tuple [.Name x px, .Name y py] kt pt] (.Tuple [a, b] k2 pt2) pos.line X.env = pure false := by rfl)
    (hs1 : starEach (a :: [b]) X.env = (false, eval a X.env) :: starEach [b] X.env := by rfl) (hs2 : starEach (b :: []) X.env = (false, eval b X.env) :: starEach [] X.env := by rfl) :
    JS X T (.Assign [.Tuple [.Name x px, .Name y py] kt pt] (.Tuple [a, b] k2 pt2) pos :: rest) ρ (B m1 fun d => B m2 fun e => f d e) out := ⟨fun {σ H F C s b' s'} w hm Dn k => by
  obtain ⟨d, s1, e1, hm1⟩ := B_some hm
  obtain ⟨e, s2, e2, hm2⟩ := B_some hm1
  refine sSs_of (pss_cons (ps_par hc hN hi hj hij hx hy (pa_cons (pE X a) (pa_cons (pE X b) pa_nil hs2) hs1) hw hs) (pSs X rest)) ?_
  refine h1.run w.ex w.env w.at_ e1 _ fun v1 H1 F1 st1 a1 r1 n1 => h2.run st1.hf (w.env.step st1) a1 e2 _ fun v2 H2 F2 st2 a2 r2 n2 => ⟨v1, v2, rfl, ?_⟩
  have w1 := w.step st1 a1
  have w2 := w1.step st2 a2
  have fr1 : isOwn (mk1 d) = true → ∀ q, v1 = .ref q → C q = none ∧ ∀ (j : Nat) (sl' : Sl), ρ[j]? = some sl' → isOwn sl' = true → σ[j]? ≠ some (some (V.ref q)) := fun o q eq => w.fresh (n1 o q eq)
  refine (hr d e).run ((w2.set i (r1.step st2) fr1).set j r2 fun o q eq => ?_) hm2 Dn ((k.mono st1.hh).mono st2.hh)
  have hq := n2 o q eq
  obtain ⟨c1, c2⟩ := w1.fresh hq
  refine ⟨c1, fun l sl' hl ol => ?_⟩
  by_cases c : i = l
  · subst c
    have hlt : i < ρ.length := by
      have := (List.getElem?_eq_some_iff.mp hl).1
      simpa using this
    rw [List.getElem?_set_self (by rw [← w.env.len]; exact hlt)]
    intro z
    have ev : v1 = .ref q := Option.some.inj (Option.some.inj z)
    rw [List.getElem?_set_self hlt] at hl
    cases hl
    cases hmk : mk1 d with
    | own xs =>
      rw [hmk] at r1
      obtain ⟨p', vs', g2, _, _, g5, _⟩ := r1
      rw [ev] at g2
      cases g2
      rw [hq] at g5
      cases g5
    | dic kvs =>
      rw [hmk] at r1
      obtain ⟨p', vs', g2, _, _, g5, _⟩ := r1
      rw [ev] at g2
      cases g2
      rw [hq] at g5
      cases g5
    | _ => rw [hmk] at ol; cases ol
  · rw [List.getElem?_set_ne c] at hl ⊢
    exact c2 l sl' hl ol⟩
/-- three, all for good but the first -/
theorem js_par3 {i j l : Nat} {x y z : Str} {px py pz pt : Pos} {kt k2 : Nat} {pt2 : Pos} {f : δ1 → D → D → M S β} {n2 n3 : M S D} (hc : X.calm = true) (hN : X.N.Nodup) (hi : X.N[i]? = some x) (hj : X.N[j]? = some y) (hl : X.N[l]? = some z) (hij : i ≠ j) (hil : i ≠ l) (hjl : j ≠ l)
    (hx : X.env.scope.names.lookup x = some .local) (hy : X.env.scope.names.lookup y = some .local) (hz : X.env.scope.names.lookup z = some .local)
    (h1 : JX X T a ρ mk1 m1) (h2 : JE X T b ρ n2) (h3 : JE X T c ρ n3) (hr : ∀ d e g, JS X T rest (((ρ.set i (mk1 d)).set j (.val e)).set l (.val g)) (f d e g) out)
    (hw : swappedStores [.Tuple [.Name x px, .Name y py, .Name z pz] kt pt] (.Tuple [a, b, c] k2 pt2) X.env = pure (some [x, y, z]) := by rfl) (hs : swapsWithSole [.Tuple [.Name x px, .Name y py, .Name z pz] kt pt] (.Tuple [a, b, c] k2 pt2) pos.line X.env = pure false := by rfl)
    (hs1 : starEach (a :: [b, c]) X.env = (false, eval a X.env) :: starEach [b, c] X.env := by rfl) (hs2 : starEach (b :: [c]) X.env = (false, eval b X.env) :: starEach [c] X.env := by rfl) (hs3 : starEach (c :: []) X.env = (false, eval c X.env) :: starEach [] X.env := by rfl) :
    JS X T (.Assign [.Tuple [.Name x px, .Name y py, .Name z pz] kt pt] (.Tuple [a, b, c] k2 pt2) pos :: rest) ρ (B m1 fun d => B n2 fun e => B n3 fun g => f d e g) out := ⟨fun {σ H F C s b' s'} w hm Dn k => by
  obtain ⟨d, s1, e1, hm1⟩ := B_some hm
  obtain ⟨e, s2, e2, hm2⟩ := B_some hm1
  obtain ⟨g, s3, e3, hm3⟩ := B_some hm2
  refine sSs_of (pss_cons (ps_par3 hc hN hi hj hl hij hil hjl hx hy hz (pa_cons (pE X a) (pa_cons (pE X b) (pa_cons (pE X c) pa_nil hs3) hs2) hs1) hw hs) (pSs X rest)) ?_
  refine h1.run w.ex w.env w.at_ e1 _ fun v1 H1 F1 st1 a1 r1 n1 => h2.run st1.hf (w.env.step st1) a1 e2 _ fun v2 H2 F2 st2 a2 r2 => h3.run st2.hf (w.env.step (st1.trans st2)) a2 e3 _ fun v3 H3 F3 st3 a3 r3 => ⟨v1, v2, v3, rfl, ?_⟩
  have w3 := ((w.step st1 a1).step st2 a2).step st3 a3
  have fr1 : isOwn (mk1 d) = true → ∀ q, v1 = .ref q → C q = none ∧ ∀ (j : Nat) (sl' : Sl), ρ[j]? = some sl' → isOwn sl' = true → σ[j]? ≠ some (some (V.ref q)) := fun o q eq => w.fresh (n1 o q eq)
  exact (hr d e g).run (((w3.set i ((r1.step st2).step st3) fr1).set (sl := .val e) j ⟨v2, rfl, r2.mono st3.hh⟩ fun o => by cases o).set (sl := .val g) l ⟨v3, rfl, r3⟩ fun o => by cases o) hm3 Dn (((k.mono st1.hh).mono st2.hh).mono st3.hh)⟩
end

/-! ### a def -/
def run0 {α : Type} (m : M Unit α) : Option α := (m ()).map (·.1)
theorem run0_some {α : Type} {m : M Unit α} {a : α} (h : run0 m = some a) : m () = some (a, ()) := by
  unfold run0 at h
  cases e : m () with
  | none => rw [e] at h; cases h
  | some q =>
    rw [e] at h
    obtain ⟨b, u⟩ := q
    cases h
    rfl
/-- the slots at a def's entry -/
def slots0 (N : List Str) (sls : List Sl) : List Sl := sls ++ List.replicate (N.length - sls.length) .unk
/-- what is handed in -/
inductive Rsl (K : PySem.W.Frag) {S : Type} (T : Tie S) (H F : Hp) : List V → List Sl → Prop
  | nil : Rsl K T H F [] []
  | cons {v : V} {vs : List V} {sl : Sl} {sls : List Sl} : SlR K T H F sl (some v) → isOwn sl = false → Rsl K T H F vs sls → Rsl K T H F (v :: vs) (sl :: sls)
theorem Rsl.length {K : PySem.W.Frag} {S : Type} {T : Tie S} {H F : Hp} : ∀ {vs : List V} {ds : List Sl}, Rsl K T H F vs ds → vs.length = ds.length
  | _, _, .nil => rfl
  | _, _, .cons _ _ r => by simp [Rsl.length r]
theorem Rsl.get {K : PySem.W.Frag} {S : Type} {T : Tie S} {H F : Hp} : ∀ {vs : List V} {ds : List Sl} {i : Nat} {d : Sl}, Rsl K T H F vs ds → ds[i]? = some d → isOwn d = false ∧ ∃ v, vs[i]? = some v ∧ SlR K T H F d (some v)
  | _, _, _, _, .nil, e => by simp at e
  | _, _, 0, _, .cons h o _, e => by simp at e; subst e; exact ⟨o, _, rfl, h⟩
  | _, _, i + 1, _, .cons _ _ r, e => by
    obtain ⟨o, v, h1, h2⟩ := Rsl.get (i := i) r (by simpa using e)
    exact ⟨o, v, by simpa using h1, h2⟩
theorem Rps.sl {K : PySem.W.Frag} {S : Type} {T : Tie S} {H F : Hp} : ∀ {vs : List V} {ds : List D}, Rps H vs ds → Rsl K T H F vs (ds.map .val)
  | _, _, .nil => .nil
  | _, _, .cons h r => .cons ⟨_, rfl, h⟩ rfl (Rps.sl r)
theorem slots0_no {K : PySem.W.Frag} {S : Type} {T : Tie S} {H F : Hp} {vs : List V} {sls : List Sl} (r : Rsl K T H F vs sls) (N : List Str) {i : Nat} {sl : Sl} (hi : (slots0 N sls)[i]? = some sl) : isOwn sl = false := by
  unfold slots0 at hi
  by_cases c : i < sls.length
  · rw [List.getElem?_append_left c] at hi
    exact (r.get hi).1
  · rw [List.getElem?_append_right (by omega), List.getElem?_replicate] at hi
    split at hi
    · cases hi
      rfl
    · cases hi
theorem env0_start {K : PySem.W.Frag} {S : Type} {T : Tie S} {H F : Hp} {vs : List V} {sls : List Sl} (r : Rsl K T H F vs sls) (N : List Str) : EnvR K T (slots0 N sls) (L2.start N vs) H F := by
  have hl := r.length
  refine ⟨by simp [slots0, L2.start, hl], fun i sl hi => ?_, fun i j sl sl' p hij hi oi => ?_⟩
  · unfold slots0 at hi
    unfold L2.start
    by_cases c : i < sls.length
    · rw [List.getElem?_append_left c] at hi
      rw [List.getElem?_append_left (by simpa [hl] using c)]
      obtain ⟨_, v, e1, e2⟩ := r.get hi
      exact ⟨some v, by rw [List.getElem?_map, e1]; rfl, e2⟩
    · rw [List.getElem?_append_right (by omega)] at hi
      rw [List.getElem?_append_right (by simpa [hl] using c)]
      rw [List.length_map]
      have hlt := (List.getElem?_eq_some_iff.mp hi).1
      rw [List.length_replicate] at hlt
      rw [List.getElem?_replicate, if_pos hlt] at hi
      cases hi
      exact ⟨none, by rw [List.getElem?_replicate, hl, if_pos hlt], trivial⟩
  · rw [slots0_no r N hi] at oi
    cases oi
theorem entry_run {X : Cx} {S : Type} {T : Tie S} {sts : List Stmt} {N : List Str} {sls : List Sl} {mb : M S D} (hJ : JS X T sts (slots0 N sls) mb Oc.rt) {vs : List V} {H F : Hp} {s s' : S} {r : D} (hE : Ex H F) (hR : Rsl X.K T H F vs sls) (hA : T.at_ s H F) (hm : mb s = some (r, s'))
    (Q : VK) (k : ∀ v H' F', Stp T.pt H F H' F' → T.at_ s' H' F' → Rp H' v r → Q v F') : sSs X sts { nx := fun _ H' => Q .non H', rt := Q } (L2.start N vs) F := by
  haveI := fun a => Classical.propDecidable (H a = none ∧ ¬ T.pt a)
  have hC : ∀ a o, (if H a = none ∧ ¬ T.pt a then F a else none) = some o → F a = some o ∧ H a = none ∧ ¬ T.pt a := fun a o e => by
    by_cases c : H a = none ∧ ¬ T.pt a
    · rw [if_pos c] at e
      exact ⟨e, c⟩
    · rw [if_neg c] at e
      cases e
  refine hJ.run (C := fun a => if H a = none ∧ ¬ T.pt a then F a else none) (H := H) (s := s) ⟨hE, env0_start hR N, hA, fun a o e => (hC a o e).1, fun a o e => ⟨(hC a o e).2.1, (hC a o e).2.2, fun i sl hi oi => ?_⟩⟩ hm _ ?_
  · rw [slots0_no hR N hi] at oi
    cases oi
  · intro v H' F' e1 e2 a1 e3 e4 rv
    refine k v H' F' ⟨e1, e2, fun a o nt e => ?_, fun a n1 n2 => ?_, fun a ta _ => T.hout _ _ _ _ a1 ta⟩ a1 rv
    · cases c : H a with
      | some u =>
        have z := hE a u c
        rw [e] at z
        cases z
        exact e2 _ _ (e1 _ _ c)
      | none => exact e3 a o (by show (if H a = none ∧ ¬ T.pt a then F a else none) = some o; rw [if_pos ⟨c, nt⟩]; exact e)
    · cases c : F a with
      | none => rfl
      | some u =>
        by_cases ta : T.pt a
        · exact absurd (T.hout _ _ _ _ a1 ta) n2
        · exact absurd (e4 a u (by show (if H a = none ∧ ¬ T.pt a then F a else none) = some u; rw [if_pos ⟨n1, ta⟩]; exact c)).1 n2
section
variable {P : Program} {w : World} {K : PySem.W.Frag} {mg : Str → Option Value} {base : Heap}
/-- the context of a def's body -/
abbrev bodyX (P : Program) (w : World) (K : PySem.W.Frag) (mg : Str → Option Value) (base : Heap) (N : List Str) (qual : Str) (st : Stmt) (f : Addr) (cdv : Value) (A : Around) (outer : List Env) (s : Shared) (F : Hp) (E : XK) : Cx := (cxOf CX0 P w K mg base N qual (defScope st) f cdv A outer s F E).nox
/-- the def's code object -/
def CodeAt (K : PySem.W.Frag) (f : Addr) (cdv : Value) (qual : Str) : Prop := (∃ (oc : Value) (od : Option Addr) (fd : FuncData) (osl : Array (Option Value)), K.lookup f = some ⟨oc, od, .func fd, osl⟩ ∧ fd.code = cdv) ∧ PySem.W.codeIn K cdv qual = true
abbrev BodyAll (P : Program) (w : World) (K : PySem.W.Frag) (mg : Str → Option Value) (base : Heap) (N : List Str) (qual : Str) (st : Stmt) (f : Addr) (k : Nat) (Q : Cx → Prop) : Prop :=
  ∀ (cdv : Value) (A : Around) (outer : List Env) (s : Shared) (F : Hp) (E : XK), CodeAt K f cdv qual → Room k (A.deeper (envOfC qual (defScope st) s.heap.objs.size f cdv)) → Q (bodyX P w K mg base N qual st f cdv A outer s F E)
theorem Fun.okC {x qual : Str} {st : Stmt} {f : Addr} {fd : FuncData} {N ps : List Str} {k : Nat} {sp : Sp} (F : L2.Fun K x qual st f fd) (S : FnScope N ps (defScope st)) (len : ∀ vs H Q E, sp vs H Q E → vs.length = ps.length)
    (hbody : ∀ (cdv : Value) (A : Around) (outer : List Env) (s : Shared) (H : Hp) (vs : List V) (Q : VK) (E : XK), CodeAt K f cdv qual → Room k (A.deeper (envOfC qual (defScope st) s.heap.objs.size f cdv)) → sp vs H Q E →
      ∃ t, PSs (cxOf CX0 P w K mg base N qual (defScope st) f cdv A outer s H E).nox (defBody st) t ∧ t { nx := fun _ H' => Q .non H', rt := Q } (L2.start N vs) H) : FnOk P w K mg base CX0 (k + 1) f fd ps sp := by
  obtain ⟨oc, od, kV, doc, pm, an, cdv, ct, osl, rfl, lk, hcd⟩ := F.ex
  refine fn_of lk hcd S len fun A outer s H vs Q E hr hsp => ?_
  obtain ⟨t, h, q⟩ := hbody cdv A outer s H vs Q E ⟨⟨oc, od, _, osl, lk, rfl⟩, hcd⟩ hr hsp
  exact ⟨t, h.nox, q⟩
theorem fn_pure {TT : List (Addr × Str)} {x qual : Str} {st : Stmt} {f : Addr} {fd : FuncData} {N ps : List Str} {k : Nat} {mf : List D → Option D} {mb : List D → M Unit D} (Fn : L2.Fun K x qual st f fd) (Sc : FnScope N ps (defScope st)) (hmf : ∀ ds r, mf ds = some r → ds.length = ps.length ∧ run0 (mb ds) = some r)
    (hb : ∀ ds : List D, ds.length = ps.length → BodyAll P w K mg base N qual st f k fun X => JS X (tie0 TT) (defBody st) (slots0 N (ds.map .val)) (mb ds) Oc.rt) : FnOk P w K mg base CX0 (k + 1) f fd ps (spF TT mf) := by
  refine Fun.okC Fn Sc (fun vs F Q E h => ?_) (fun cdv A outer s F vs Q E hc hr h => ?_)
  · obtain ⟨H, ds, r, _, _, h2, h3, _⟩ := h
    rw [h2.length]
    exact (hmf ds r h3).1
  · obtain ⟨H, ds, r, h1, ht, h2, h3, h4⟩ := h
    obtain ⟨hl, hm⟩ := hmf ds r h3
    exact ⟨_, pSs _ _, entry_run (hb ds hl cdv A outer s F E hc hr) (s := ()) h1 h2.sl ht (run0_some hm) Q fun v H' F' st t r => h4 v H' F' st t r⟩
/-- .. that is given the carried state -/
theorem fn_pot {TT : List (Addr × Str)} {x qual : Str} {st : Stmt} {f : Addr} {fd : FuncData} {N ps : List Str} {k : Nat} {mf : List D → M Pot D} (Fn : L2.Fun K x qual st f fd) (Sc : FnScope N ps (defScope st)) (hmf : ∀ ds s r s', mf ds s = some (r, s') → ds.length + 1 = ps.length)
    (hb : ∀ (ds : List D) (p : Addr), ds.length + 1 = ps.length → BodyAll P w K mg base N qual st f k fun X => JS X (tieP TT p) (defBody st) (slots0 N (.pot :: ds.map .val)) (mf ds) Oc.rt) : FnOk P w K mg base CX0 (k + 1) f fd ps (spP TT mf) := by
  refine Fun.okC Fn Sc (fun vs F Q E h => ?_) (fun cdv A outer s F vs Q E hc hr h => ?_)
  · obtain ⟨p, ws, H, ds, s, r, s', rfl, _, _, h2, h3, _⟩ := h
    rw [List.length_cons, h2.length]
    exact hmf ds _ _ _ h3
  · obtain ⟨p, ws, H, ds, s0, r, s', rfl, h1, ha, h2, h3, h4⟩ := h
    exact ⟨_, pSs _ _, entry_run (hb ds p (hmf ds _ _ _ h3) cdv A outer s F E hc hr) h1 (.cons ⟨p, rfl, rfl⟩ rfl h2.sl) ha h3 Q fun v H' F' st a r => h4 v H' F' st a r⟩
/-- .. that is given the script -/
def spScr (TT : List (Addr × Str)) (K : PySem.W.Frag) (f : List Int → List D → Option D) : Sp := fun vs F Q _ => ∃ a ws ns H ds r, vs = .ref a :: ws ∧ ¬ tpt TT a ∧ ScrR K F a ns ∧ Ex H F ∧ TabsOk TT H F ∧ Rps H ws ds ∧ f ns ds = some r ∧ ∀ v H' F', StT TT H F H' F' → TabsOk TT H' F' → Rp H' v r → Q v F'
theorem fn_scr {TT : List (Addr × Str)} {x qual : Str} {st : Stmt} {f : Addr} {fd : FuncData} {N ps : List Str} {k : Nat} {mf : List Int → List D → Option D} {mb : List Int → List D → M Unit D} (Fn : L2.Fun K x qual st f fd) (Sc : FnScope N ps (defScope st)) (hmf : ∀ ns ds r, mf ns ds = some r → ds.length + 1 = ps.length ∧ run0 (mb ns ds) = some r)
    (hb : ∀ (ns : List Int) (ds : List D), ds.length + 1 = ps.length → BodyAll P w K mg base N qual st f k fun X => JS X (tie0 TT) (defBody st) (slots0 N (.scr ns :: ds.map .val)) (mb ns ds) Oc.rt) : FnOk P w K mg base CX0 (k + 1) f fd ps (spScr TT K mf) := by
  refine Fun.okC Fn Sc (fun vs F Q E h => ?_) (fun cdv A outer s F vs Q E hc hr h => ?_)
  · obtain ⟨a, ws, ns, H, ds, r, rfl, _, _, _, _, h2, h3, _⟩ := h
    rw [List.length_cons, h2.length]
    exact (hmf ns ds r h3).1
  · obtain ⟨a, ws, ns, H, ds, r, rfl, na, hs, h1, ht, h2, h3, h4⟩ := h
    obtain ⟨hl, hm⟩ := hmf ns ds r h3
    exact ⟨_, pSs _ _, entry_run (hb ns ds hl cdv A outer s F E hc hr) (s := ()) h1 (.cons ⟨a, rfl, na, hs⟩ rfl h2.sl) ht (run0_some hm) Q fun v H' F' st t r => h4 v H' F' st t r⟩
end
end DL

set_option Elab.async false
set_option linter.all false
set_option maxRecDepth 100000
set_option maxHeartbeats 2000000
/-! DLOps: operators and built-ins on data. -/
namespace DL
open PySem PySem.Spec PyProof.Rows L2

/-! ### data without dicts -/
mutual
theorem Rp.dp {K : PySem.W.Frag} {H : Hp} : ∀ {v : V} {d : D}, Rp H v d → d.plain = true → Dp K H v d
  | _, _, .non, _ => .non
  | _, _, .bl b, _ => .bl b
  | _, _, .int i, _ => .int i
  | _, _, .str x, _ => .str x
  | _, _, .lst h r, p => .lst (SqL.of h) (Rps.dp r (by simpa only [PyData.plain] using p))
  | _, _, .tup h r, p => .tup h.sq (Rps.dp r (by simpa only [PyData.plain] using p))
  | _, _, .dic _ _, p => by simp only [PyData.plain] at p; cases p
theorem Rps.dp {K : PySem.W.Frag} {H : Hp} : ∀ {v : List V} {d : List D}, Rps H v d → PyData.plainAll d = true → DpAll K H v d
  | _, _, .nil, _ => .nil
  | _, _, .cons h r, p => by
    simp only [PyData.plainAll, Bool.and_eq_true] at p
    exact .cons (Rp.dp h p.1) (Rps.dp r p.2)
end
def okD (d : D) : Bool := d.plain && decide (d.depth ≤ 40)
theorem okD_some {d : D} (h : okD d = true) : d.plain = true ∧ d.depth ≤ 40 := by
  unfold okD at h
  rw [Bool.and_eq_true, decide_eq_true_eq] at h
  exact h
/-! ### == -/
def eqB (a b : D) : Option Bool := if okD a && okD b then some (PyData.eqv a b) else none
def neB (a b : D) : Option Bool := if okD a && okD b then some (!PyData.eqv a b) else none
theorem eqB_some {a b : D} {c : Bool} (h : eqB a b = some c) : okD a = true ∧ okD b = true ∧ c = PyData.eqv a b := by
  unfold eqB at h
  split at h
  · rename_i q
    rw [Bool.and_eq_true] at q
    cases h
    exact ⟨q.1, q.2, rfl⟩
  · cases h
theorem neB_some {a b : D} {c : Bool} (h : neB a b = some c) : okD a = true ∧ okD b = true ∧ c = !PyData.eqv a b := by
  unfold neB at h
  split at h
  · rename_i q
    rw [Bool.and_eq_true] at q
    cases h
    exact ⟨q.1, q.2, rfl⟩
  · cases h
section
variable {X : Cx}
def rEqP (K : PySem.W.Frag) : R2 := fun x y H Q => ∃ d e, Dp K H x d ∧ Dp K H y e ∧ okD d = true ∧ okD e = true ∧ Q (.bl (PyData.eqv d e)) H
def rNeP (K : PySem.W.Frag) : R2 := fun x y H Q => ∃ d e, Dp K H x d ∧ Dp K H y e ∧ okD d = true ∧ okD e = true ∧ Q (.bl (!PyData.eqv d e)) H
theorem op_eqP (hu : X.A.units + 64 < cLine) : OpR X (compareOp .Eq) (rEqP X.K) := by
  intro pins s σ H x y v u Q I rx ry h
  obtain ⟨d, e, hd, he, o1, o2, q⟩ := h
  obtain ⟨as, r1⟩ := Dp.reads I d x v hd rx
  obtain ⟨bs, r2⟩ := Dp.reads I e y u he ry
  have p1 := okD_some o1
  have p2 := okD_some o2
  exact PySem.SeqAt.eq_plain r1 r2 p1.1 p2.1 (by have := p1.2; omega) ⟨.bl _, H, I, rfl, q⟩
theorem op_neP (hu : X.A.units + 64 < cLine) : OpR X (compareOp .NotEq) (rNeP X.K) := by
  intro pins s σ H x y v u Q I rx ry h
  obtain ⟨d, e, hd, he, o1, o2, q⟩ := h
  obtain ⟨as, r1⟩ := Dp.reads I d x v hd rx
  obtain ⟨bs, r2⟩ := Dp.reads I e y u he ry
  have p1 := okD_some o1
  have p2 := okD_some o2
  exact PySem.SeqAt.ne_plain r1 r2 p1.1 p2.1 (by have := p1.2; omega) ⟨.bl _, H, I, rfl, q⟩
theorem ob_eq (hu : X.A.units + 64 < cLine) : OpB X (compareOp .Eq) eqB := ⟨_, op_eqP hu, fun F x y a b c Q ra rb h q => by
  obtain ⟨h1, h2, rfl⟩ := eqB_some h
  exact ⟨a, b, ra.dp (okD_some h1).1, rb.dp (okD_some h2).1, h1, h2, q⟩⟩
theorem ob_ne (hu : X.A.units + 64 < cLine) : OpB X (compareOp .NotEq) neB := ⟨_, op_neP hu, fun F x y a b c Q ra rb h q => by
  obtain ⟨h1, h2, rfl⟩ := neB_some h
  exact ⟨a, b, ra.dp (okD_some h1).1, rb.dp (okD_some h2).1, h1, h2, q⟩⟩
/-! ### <, <=, >, >= of whole numbers -/
def ltB : D → D → Option Bool
  | .int i, .int j => some (decide (i < j))
  | _, _ => none
def leB : D → D → Option Bool
  | .int i, .int j => some (decide (i ≤ j))
  | _, _ => none
def gtB : D → D → Option Bool
  | .int i, .int j => some (decide (j < i))
  | _, _ => none
def geB : D → D → Option Bool
  | .int i, .int j => some (decide (j ≤ i))
  | _, _ => none
theorem ob_int {f : Value → Value → Sem Value} {p : Int → Int → Bool} {g : D → D → Option Bool} (ho : OpR X f (rI0 fun i j => .bl (p i j))) (hg : ∀ a b c, g a b = some c → ∃ i j, a = .int i ∧ b = .int j ∧ c = p i j) : OpB X f g := ⟨_, ho, fun F x y a b c Q ra rb h q => by
  obtain ⟨i, j, rfl, rfl, rfl⟩ := hg a b c h
  cases ra
  cases rb
  exact ⟨i, j, rfl, rfl, q⟩⟩
theorem ob_lt : OpB X (compareOp .Lt) ltB := ob_int op_lt fun a b c h => by
  cases a <;> cases b <;> first | (cases h; exact ⟨_, _, rfl, rfl, rfl⟩) | cases h
theorem ob_le : OpB X (compareOp .LtE) leB := ob_int op_le fun a b c h => by
  cases a <;> cases b <;> first | (cases h; exact ⟨_, _, rfl, rfl, rfl⟩) | cases h
theorem ob_gt : OpB X (compareOp .Gt) gtB := ob_int op_gt fun a b c h => by
  cases a <;> cases b <;> first | (cases h; exact ⟨_, _, rfl, rfl, rfl⟩) | cases h
theorem ob_ge : OpB X (compareOp .GtE) geB := ob_int op_ge fun a b c h => by
  cases a <;> cases b <;> first | (cases h; exact ⟨_, _, rfl, rfl, rfl⟩) | cases h
/-! ### is -/
def isN : D → Bool
  | .none => true
  | _ => false
def isB : D → D → Option Bool
  | a, .none => some (isN a)
  | .bool a, .bool b => some (decide (a = b))
  | _, _ => none
def isntB : D → D → Option Bool
  | a, .none => some (!isN a)
  | .bool a, .bool b => some (!decide (a = b))
  | _, _ => none
theorem isN_of {H : Hp} {x : V} {a : D} (r : Rp H x a) : decide (x = .non) = isN a := by
  cases r <;> simp [isN]
theorem ob_is : OpB X (compareOp .Is) isB := ⟨_, op_isN.or op_isBl, fun F x y a b c Q ra rb h q => by
  cases b with
  | none =>
    cases rb
    have e : isB a .none = some (isN a) := by cases a <;> rfl
    rw [e] at h
    cases h
    refine .inl ⟨rfl, ?_⟩
    rw [isN_of ra]
    exact q
  | bool b =>
    cases rb
    cases a with
    | bool a => cases h; cases ra; exact .inr ⟨a, b, rfl, rfl, q⟩
    | _ => cases h
  | _ => cases a <;> cases h⟩
theorem ob_isnt : OpB X (compareOp .IsNot) isntB := ⟨_, op_notN.or op_notBl, fun F x y a b c Q ra rb h q => by
  cases b with
  | none =>
    cases rb
    have e : isntB a .none = some (!isN a) := by cases a <;> rfl
    rw [e] at h
    cases h
    refine .inl ⟨rfl, ?_⟩
    rw [isN_of ra]
    exact q
  | bool b =>
    cases rb
    cases a with
    | bool a => cases h; cases ra; exact .inr ⟨a, b, rfl, rfl, q⟩
    | _ => cases h
  | _ => cases a <;> cases h⟩
/-! ### in -/
def memOk (x : D) (ys : List D) : Bool := okD x && PyData.plainAll ys && decide (PyData.depthAll ys ≤ 40)
def inB : D → D → Option Bool
  | x, .list ys => if memOk x ys then some (ys.any fun y => PyData.eqv y x) else none
  | x, .tuple ys => if memOk x ys then some (ys.any fun y => PyData.eqv y x) else none
  | .str x, .str z => if x.cps.size = 1 then some (decide (x.cps.getD 0 0 ∈ z.cps.toList)) else none
  | _, _ => none
def ninB (x y : D) : Option Bool := (inB x y).map (!·)
def rInP (K : PySem.W.Frag) (neg : Bool) : R2 := fun x y H Q => ∃ p xs d ds, y = .ref p ∧ (SqL K H p xs ∨ SqT K H p xs) ∧ DpAll K H xs ds ∧ Dp K H x d ∧ memOk d ds = true ∧ Q (.bl (if neg then !(ds.any fun y => PyData.eqv y d) else ds.any fun y => PyData.eqv y d)) H
theorem memOk_some {x : D} {ys : List D} (h : memOk x ys = true) : x.plain = true ∧ x.depth ≤ 40 ∧ PyData.plainAll ys = true ∧ PyData.depthAll ys ≤ 40 := by
  unfold memOk at h
  rw [Bool.and_eq_true, Bool.and_eq_true, decide_eq_true_eq] at h
  exact ⟨(okD_some h.1.1).1, (okD_some h.1.1).2, h.1.2, h.2⟩
theorem op_inP (hu : X.A.units + 64 < cLine) : OpR X (compareOp .In) (rInP X.K false) := by
  intro pins s σ H x y v u Q I rx ry h
  obtain ⟨p, xs, d, ds, rfl, hs, ha, hd, ok, q⟩ := h
  obtain ⟨k1, k2, k3, k4⟩ := memOk_some ok
  obtain ⟨bs, r2⟩ := Dp.reads I d x v hd rx
  rcases hs with hs | hs
  · obtain ⟨as, r1⟩ := Dp.reads I (.list ds) (.ref p) u (.lst hs ha) ry
    exact PySem.SeqAt.in_list_data r1 r2 k3 k1 (by omega) ⟨.bl _, H, I, rfl, q⟩
  · obtain ⟨as, r1⟩ := Dp.reads I (.tuple ds) (.ref p) u (.tup hs ha) ry
    exact PySem.SeqAt.in_tuple_data r1 r2 k3 k1 (by omega) ⟨.bl _, H, I, rfl, q⟩
theorem op_ninP (hu : X.A.units + 64 < cLine) : OpR X (compareOp .NotIn) (rInP X.K true) := by
  intro pins s σ H x y v u Q I rx ry h
  obtain ⟨p, xs, d, ds, rfl, hs, ha, hd, ok, q⟩ := h
  obtain ⟨k1, k2, k3, k4⟩ := memOk_some ok
  obtain ⟨bs, r2⟩ := Dp.reads I d x v hd rx
  rcases hs with hs | hs
  · obtain ⟨as, r1⟩ := Dp.reads I (.list ds) (.ref p) u (.lst hs ha) ry
    exact PySem.SeqAt.notIn_list_data r1 r2 k3 k1 (by omega) ⟨.bl _, H, I, rfl, q⟩
  · obtain ⟨as, r1⟩ := Dp.reads I (.tuple ds) (.ref p) u (.tup hs ha) ry
    exact PySem.SeqAt.notIn_tuple_data r1 r2 k3 k1 (by omega) ⟨.bl _, H, I, rfl, q⟩
theorem one_sign {x : Str} (h : x.cps.size = 1) : x = ⟨#[x.cps.getD 0 0]⟩ := by
  obtain ⟨cps⟩ := x
  congr 1
  apply Array.ext
  · simpa using h
  · intro i h1 h2
    have : i = 0 := by simp at h2; omega
    subst this
    simp [Array.getD, h1]
theorem ob_in (hu : X.A.units + 64 < cLine) : OpB X (compareOp .In) inB := ⟨_, (op_inP hu).or op_in_sign, fun F x y a b c Q ra rb h q => by
  cases b with
  | list ys =>
    have h : (if memOk a ys then some (ys.any fun y => PyData.eqv y a) else none) = some c := by cases a <;> exact h
    by_cases k : memOk a ys = true
    · rw [if_pos k] at h
      cases h
      obtain ⟨k1, k2, k3, k4⟩ := memOk_some k
      obtain ⟨p, vs, rfl, hp, r⟩ := rb.list_inv
      exact .inl ⟨p, vs, a, ys, rfl, .inl (SqL.of hp), r.dp k3, ra.dp k1, k, q⟩
    · rw [if_neg k] at h
      cases h
  | tuple ys =>
    have h : (if memOk a ys then some (ys.any fun y => PyData.eqv y a) else none) = some c := by cases a <;> exact h
    by_cases k : memOk a ys = true
    · rw [if_pos k] at h
      cases h
      obtain ⟨k1, k2, k3, k4⟩ := memOk_some k
      obtain ⟨p, vs, rfl, hp, r⟩ := rb.tup_inv
      exact .inl ⟨p, vs, a, ys, rfl, .inr hp.sq, r.dp k3, ra.dp k1, k, q⟩
    · rw [if_neg k] at h
      cases h
  | str z =>
    cases a with
    | str x =>
      have h : (if x.cps.size = 1 then some (decide (x.cps.getD 0 0 ∈ z.cps.toList)) else none) = some c := h
      by_cases k : x.cps.size = 1
      · rw [if_pos k] at h
        cases h
        cases ra
        cases rb
        exact .inr ⟨x.cps.getD 0 0, z, by rw [← one_sign k], rfl, q⟩
      · rw [if_neg k] at h
        cases h
    | _ => cases h
  | _ => cases a <;> cases h⟩
theorem ob_nin (hu : X.A.units + 64 < cLine) : OpB X (compareOp .NotIn) ninB := ⟨_, op_ninP hu |>.or op_notIn_sign, fun F x y a b c Q ra rb h q => by
  unfold ninB at h
  cases b with
  | list ys =>
    have e : inB a (.list ys) = (if memOk a ys then some (ys.any fun y => PyData.eqv y a) else none) := by cases a <;> rfl
    rw [e] at h
    by_cases k : memOk a ys = true
    · rw [if_pos k] at h
      cases h
      obtain ⟨k1, k2, k3, k4⟩ := memOk_some k
      obtain ⟨p, vs, rfl, hp, r⟩ := rb.list_inv
      exact .inl ⟨p, vs, a, ys, rfl, .inl (SqL.of hp), r.dp k3, ra.dp k1, k, q⟩
    · rw [if_neg k] at h
      cases h
  | tuple ys =>
    have e : inB a (.tuple ys) = (if memOk a ys then some (ys.any fun y => PyData.eqv y a) else none) := by cases a <;> rfl
    rw [e] at h
    by_cases k : memOk a ys = true
    · rw [if_pos k] at h
      cases h
      obtain ⟨k1, k2, k3, k4⟩ := memOk_some k
      obtain ⟨p, vs, rfl, hp, r⟩ := rb.tup_inv
      exact .inl ⟨p, vs, a, ys, rfl, .inr hp.sq, r.dp k3, ra.dp k1, k, q⟩
    · rw [if_neg k] at h
      cases h
  | str z =>
    cases a with
    | str x =>
      have e : inB (.str x) (.str z) = (if x.cps.size = 1 then some (decide (x.cps.getD 0 0 ∈ z.cps.toList)) else none) := rfl
      rw [e] at h
      by_cases k : x.cps.size = 1
      · rw [if_pos k] at h
        cases h
        cases ra
        cases rb
        exact .inr ⟨x.cps.getD 0 0, z, by rw [← one_sign k], rfl, q⟩
      · rw [if_neg k] at h
        cases h
    | _ => cases h
  | _ => cases a <;> cases h⟩

/-! ### arithmetic -/
def addD : D → D → Option D
  | .int i, .int j => some (.int (i + j))
  | .tuple xs, .tuple ys => if xs.length + ys.length ≤ 16777216 then some (.tuple (xs ++ ys)) else none
  | .list xs, .list ys => if xs.length + ys.length ≤ 16777216 then some (.list (xs ++ ys)) else none
  | _, _ => none
def subD : D → D → Option D
  | .int i, .int j => some (.int (i - j))
  | _, _ => none
/-- one factor is small -/
def mulD : D → D → Option D
  | .int i, .int j => if (-(2 ^ 64) < i ∧ i < 2 ^ 64) ∨ (-(2 ^ 64) < j ∧ j < 2 ^ 64) then some (.int (i * j)) else none
  | .list xs, .int k => if 0 ≤ k ∧ k ≤ 100000 ∧ xs.length ≤ 100 then some (.list (List.replicate k.toNat xs).flatten) else none
  | _, _ => none
def divD : D → D → Option D
  | .int i, .int j => if 0 < j ∧ j < 1073741824 then some (.int (i / j)) else none
  | _, _ => none
def modD : D → D → Option D
  | .int i, .int j => if 0 < j then some (.int (i % j)) else none
  | _, _ => none
def powD : D → D → Option D
  | .int i, .int j => if 0 ≤ j ∧ (Builtin.Int.intBits i : Int) * j ≤ 2 ^ 27 then some (.int (i ^ j.toNat)) else none
  | _, _ => none
theorem od_int {f : Value → Value → Sem Value} {C : Int → Int → Prop} {p : Int → Int → Int} {g : D → D → Option D} (ho : OpR X f (rI C fun i j => .int (p i j))) (hg : ∀ a b c, g a b = some c → ∃ i j, a = .int i ∧ b = .int j ∧ C i j ∧ c = .int (p i j)) : OpD X f g := ⟨_, ho, fun H F x y a b d Q hE ra rb h k => by
  obtain ⟨i, j, rfl, rfl, c, rfl⟩ := hg a b d h
  cases ra
  cases rb
  exact ⟨i, j, rfl, rfl, c, k _ H F (.refl hE) (.int _)⟩⟩
theorem od_sub : OpD X (binaryOp .Sub) subD := ⟨_, op_sub, fun H F x y a b d Q hE ra rb h k => by
  cases a <;> cases b <;> try cases h
  cases ra
  cases rb
  exact ⟨_, _, rfl, rfl, k _ H F (.refl hE) (.int _)⟩⟩
theorem Rps.flat_rep {H : Hp} {vs : List V} {ds : List D} (r : Rps H vs ds) : ∀ k : Nat, Rps H (List.replicate k vs).flatten (List.replicate k ds).flatten
  | 0 => .nil
  | k + 1 => by
    rw [List.replicate_succ, List.replicate_succ, List.flatten_cons, List.flatten_cons]
    exact r.append (r.flat_rep k)
theorem od_mul : OpD X (binaryOp .Mult) mulD := ⟨_, op_mul.or op_rep, fun H F x y a b d Q hE ra rb h k => by
  cases b with
  | int j =>
    cases rb
    cases a with
    | int i =>
      cases ra
      have h : (if (-(2 ^ 64) < i ∧ i < 2 ^ 64) ∨ (-(2 ^ 64) < j ∧ j < 2 ^ 64) then some (PyData.int (i * j)) else none) = some d := h
      by_cases c : (-(2 ^ 64) < i ∧ i < 2 ^ 64) ∨ (-(2 ^ 64) < j ∧ j < 2 ^ 64)
      · rw [if_pos c] at h
        cases h
        exact .inl ⟨i, j, rfl, rfl, c, k _ H F (.refl hE) (.int _)⟩
      · rw [if_neg c] at h
        cases h
    | list xs =>
      have h : (if 0 ≤ j ∧ j ≤ 100000 ∧ xs.length ≤ 100 then some (PyData.list (List.replicate j.toNat xs).flatten) else none) = some d := h
      by_cases c : 0 ≤ j ∧ j ≤ 100000 ∧ xs.length ≤ 100
      · rw [if_pos c] at h
        cases h
        obtain ⟨p, vs, rfl, hp, r⟩ := ra.list_inv
        have hl := r.length
        refine .inr ⟨p, j, vs, rfl, rfl, hE _ _ hp, by omega, by omega, ?_, fun q hq => ?_⟩
        · rw [sizeLine_eq]
          have : vs.length * j.toNat ≤ 100 * 100000 := Nat.mul_le_mul (by omega) (by omega)
          omega
        · have st : Stq H F (upd H q (.lst (List.replicate j.toNat vs).flatten)) (upd F q (.lst (List.replicate j.toNat vs).flatten)) := .new hE hq fun z => z
          exact k _ _ _ st (.lst upd_same ((r.flat_rep _).mono st.hh))
      · rw [if_neg c] at h
        cases h
    | _ => cases h
  | _ => cases a <;> cases h⟩
theorem od_div : OpD X (binaryOp .FloorDiv) divD := od_int op_fdiv fun a b c h => by
  cases a <;> cases b <;> try cases h
  rename_i i j
  have h : (if 0 < j ∧ j < 1073741824 then some (PyData.int (i / j)) else none) = some c := h
  by_cases k : 0 < j ∧ j < 1073741824
  · rw [if_pos k] at h
    cases h
    exact ⟨i, j, rfl, rfl, k, rfl⟩
  · rw [if_neg k] at h
    cases h
theorem od_mod : OpD X (binaryOp .Mod) modD := od_int op_mod fun a b c h => by
  cases a <;> cases b <;> try cases h
  rename_i i j
  have h : (if 0 < j then some (PyData.int (i % j)) else none) = some c := h
  by_cases k : 0 < j
  · rw [if_pos k] at h
    cases h
    exact ⟨i, j, rfl, rfl, k, rfl⟩
  · rw [if_neg k] at h
    cases h
theorem op_powW : OpR X (binaryOp .Pow) (rI (fun i j => 0 ≤ j ∧ (Builtin.Int.intBits i : Int) * j ≤ 2 ^ 27) fun i j => .int (i ^ j.toNat)) := opI fun _ _ _ _ _ _ _ hc q => pow_int hc.1 hc.2 q
theorem od_pow : OpD X (binaryOp .Pow) powD := od_int op_powW fun a b c h => by
  cases a <;> cases b <;> try cases h
  rename_i i j
  have h : (if 0 ≤ j ∧ (Builtin.Int.intBits i : Int) * j ≤ 2 ^ 27 then some (PyData.int (i ^ j.toNat)) else none) = some c := h
  by_cases k : 0 ≤ j ∧ (Builtin.Int.intBits i : Int) * j ≤ 2 ^ 27
  · rw [if_pos k] at h
    cases h
    exact ⟨i, j, rfl, rfl, k, rfl⟩
  · rw [if_neg k] at h
    cases h
theorem od_add : OpD X (binaryOp .Add) addD := ⟨_, op_add.or (op_catP.or op_cat), fun H F x y a b d Q hE ra rb h k => by
  cases a with
  | int i =>
    cases b with
    | int j =>
      cases h
      cases ra
      cases rb
      exact .inl ⟨i, j, rfl, rfl, k _ H F (.refl hE) (.int _)⟩
    | _ => cases h
  | tuple xs =>
    cases b with
    | tuple ys =>
      have h : (if xs.length + ys.length ≤ 16777216 then some (PyData.tuple (xs ++ ys)) else none) = some d := h
      by_cases c : xs.length + ys.length ≤ 16777216
      · rw [if_pos c] at h
        cases h
        have ra' := ra
        have rb' := rb
        obtain ⟨p, vs, rfl, hp, r⟩ := ra.tup_inv
        obtain ⟨q, ws, rfl, hq, r2⟩ := rb.tup_inv
        refine .inr (.inl ⟨p, q, vs, ws, rfl, rfl, (hp.mono hE).sq, (hq.mono hE).sq, by rw [sizeLine_eq, r.length, r2.length]; exact c, fun e => ?_, fun _ e => ?_, fun _ _ o ob ho hd => ?_⟩)
        · subst e
          cases r
          exact k _ H F (.refl hE) rb'
        · subst e
          cases r2
          rw [List.append_nil] at k
          exact k _ H F (.refl hE) ra'
        · have st : Stq H F (upd H o (.frz ob (.tup (vs ++ ws)))) (upd F o (.frz ob (.tup (vs ++ ws)))) := .new hE ho fun z => z
          exact k _ _ _ st (.tup (.new hd) ((r.append r2).mono st.hh))
      · rw [if_neg c] at h
        cases h
    | _ => cases h
  | list xs =>
    cases b with
    | list ys =>
      have h : (if xs.length + ys.length ≤ 16777216 then some (PyData.list (xs ++ ys)) else none) = some d := h
      by_cases c : xs.length + ys.length ≤ 16777216
      · rw [if_pos c] at h
        cases h
        obtain ⟨p, vs, rfl, hp, r⟩ := ra.list_inv
        obtain ⟨q, ws, rfl, hq, r2⟩ := rb.list_inv
        refine .inr (.inr ⟨p, q, vs, ws, rfl, rfl, hE _ _ hp, hE _ _ hq, by rw [sizeLine_eq, r.length, r2.length]; exact c, fun o ho => ?_⟩)
        have st : Stq H F (upd H o (.lst (vs ++ ws))) (upd F o (.lst (vs ++ ws))) := .new hE ho fun z => z
        exact k _ _ _ st (.lst upd_same ((r.append r2).mono st.hh))
      · rw [if_neg c] at h
        cases h
    | _ => cases h
  | _ => cases b <;> cases h⟩
def negD : D → Option D
  | .int i => some (.int (-i))
  | _ => none
theorem je_neg {S : Type} {T : Tie S} {ρ : List Sl} {m : M S D} {e : Expr} {pos : Pos} (h : JE X T e ρ m) : JE X T (.UnaryOp .USub e pos) ρ (B m fun x => L (negD x)) := ⟨fun {σ H F s d s'} hE hR hA hm Q k => by
  obtain ⟨x, s1, m1, hm⟩ := B_some hm
  obtain ⟨hg, rfl⟩ := L_some hm
  refine sE_of (pe_un un_neg (pE X e)) (h.run hE hR hA m1 _ fun v H1 F1 st1 a1 r1 => ?_)
  cases x with
  | int i => cases hg; cases r1; exact ⟨i, rfl, k _ H1 F1 st1 a1 (.int _)⟩
  | _ => cases hg⟩
end
end DL

set_option Elab.async false
set_option linter.all false
set_option maxRecDepth 100000
set_option maxHeartbeats 2000000
/-! DLMore: built-ins, methods. -/
namespace DL
open PySem PySem.Spec PyProof.Rows L2
theorem Rvs.one {T : Addr → Prop} {H F : Hp} {vs : List V} {d : D} (h : Rvs T H F vs [d]) : ∃ v, vs = [v] ∧ Rv T H F v d := by
  cases h with
  | cons h1 h2 => cases h2; exact ⟨_, rfl, h1⟩
theorem Rvs.two {T : Addr → Prop} {H F : Hp} {vs : List V} {d e : D} (h : Rvs T H F vs [d, e]) : ∃ v w, vs = [v, w] ∧ Rv T H F v d ∧ Rv T H F w e := by
  cases h with
  | cons h1 h2 => obtain ⟨w, rfl, h3⟩ := h2.one; exact ⟨_, _, rfl, h1, h3⟩
def intsOf : List D → Option (List Int)
  | [] => some []
  | .int i :: r => (intsOf r).map (i :: ·)
  | _ => none
theorem intsOf_some : ∀ {ds : List D} {ns : List Int}, intsOf ds = some ns → ds = ns.map .int
  | [], _, h => by cases h; rfl
  | .int i :: r, ns, h => by
    have h : (intsOf r).map (i :: ·) = some ns := h
    cases e : intsOf r with
    | none => rw [e] at h; cases h
    | some ms => rw [e] at h; cases h; rw [intsOf_some e]; rfl
  | .none :: _, _, h => nomatch h
  | .bool _ :: _, _, h => nomatch h
  | .str _ :: _, _, h => nomatch h
  | .list _ :: _, _, h => nomatch h
  | .tuple _ :: _, _, h => nomatch h
  | .dict _ :: _, _, h => nomatch h
theorem intsOf_ints : ∀ ns : List Int, intsOf (ns.map .int) = some ns
  | [] => rfl
  | n :: ns => by
    show (intsOf (ns.map .int)).map (n :: ·) = _
    rw [intsOf_ints ns]; rfl
def strsOf : List D → Option (List Str)
  | [] => some []
  | .str i :: r => (strsOf r).map (i :: ·)
  | _ => none
theorem strsOf_some : ∀ {ds : List D} {ns : List Str}, strsOf ds = some ns → ds = ns.map .str
  | [], _, h => by cases h; rfl
  | .str i :: r, ns, h => by
    have h : (strsOf r).map (i :: ·) = some ns := h
    cases e : strsOf r with
    | none => rw [e] at h; cases h
    | some ms => rw [e] at h; cases h; rw [strsOf_some e]; rfl
  | .none :: _, _, h => nomatch h
  | .bool _ :: _, _, h => nomatch h
  | .int _ :: _, _, h => nomatch h
  | .list _ :: _, _, h => nomatch h
  | .tuple _ :: _, _, h => nomatch h
  | .dict _ :: _, _, h => nomatch h
theorem strsOf_strs : ∀ ns : List Str, strsOf (ns.map .str) = some ns
  | [] => rfl
  | n :: ns => by
    show (strsOf (ns.map .str)).map (n :: ·) = _
    rw [strsOf_strs ns]; rfl
section
variable {X : Cx}
/-! ### len -/
def lenD : List D → Option D
  | [.list xs] => some (.int xs.length)
  | [.tuple xs] => some (.int xs.length)
  | [.str x] => if x.length ≤ 16777216 then some (.int x.length) else none
  | _ => none
theorem cd_len : CallD X (.builtin "len") lenD := ⟨_, call_len, fun T H F vs ds d Q hE r h k => by
  unfold lenD at h
  split at h
  · cases h
    obtain ⟨v, rfl, rv⟩ := r.one
    obtain ⟨a, ws, rfl, rw', hh⟩ := rv.seq (K := X.K) hE (ds := _) rfl
    refine ⟨_, _, rfl, ?_, k _ H F (.refl hE) (.int _)⟩
    rcases hh with ⟨_, hh⟩ | ⟨z, _⟩
    · exact .inl ⟨ws, SqL.of hh, rw'.length.symm⟩
    · cases z
  · cases h
    obtain ⟨v, rfl, rv⟩ := r.one
    obtain ⟨a, ws, rfl, rw', hh⟩ := rv.seq (K := X.K) hE (ds := _) rfl
    refine ⟨_, _, rfl, ?_, k _ H F (.refl hE) (.int _)⟩
    rcases hh with ⟨z, _⟩ | ⟨_, hh, _⟩
    · cases z
    · exact .inr ⟨ws, hh.sq, rw'.length.symm⟩
  · rename_i x
    split at h
    · rename_i hl
      cases h
      obtain ⟨v, rfl, rv⟩ := r.one
      have rf := rv.full hE
      cases rf
      exact ⟨_, x.length, rfl, ⟨by rw [sizeLine_eq]; exact hl, rfl⟩, k _ H F (.refl hE) (.int _)⟩
    · cases h
  · cases h⟩
/-! ### any, all -/
def biB : D → Bool
  | .bool _ => true
  | .int _ => true
  | _ => false
theorem bi_plain : ∀ {ds : List D}, ds.all biB = true → PyData.plainAll ds = true
  | [], _ => rfl
  | d :: ds, h => by
    rw [List.all_cons, Bool.and_eq_true] at h
    have i := bi_plain h.2
    cases d <;> first | (cases h.1; done) | simpa [PyData.plainAll, PyData.plain] using i
theorem bi_fits : ∀ {ds : List D}, ds.all biB = true → ∀ x ∈ ds, x.fits63
  | d :: ds, h, x, hx => by
    rw [List.all_cons, Bool.and_eq_true] at h
    rcases List.mem_cons.mp hx with rfl | hx
    · cases x <;> first | (cases h.1; done) | (simp [PyData.fits63])
    · exact bi_fits h.2 x hx
def rBi (K : PySem.W.Frag) (p : List D → Bool) : List V → Hp → VK → Prop := fun xs H Q => ∃ a vs ds, xs = [.ref a] ∧ (SqL K H a vs ∨ SqT K H a vs) ∧ DpAll K H vs ds ∧ ds.all biB = true ∧ Q (.bl (p ds)) H
theorem call_allP (hc : X.calm = true) : CallR X (.builtin "all") (rBi X.K fun ds => ds.all PyData.truthy) := by
  intro pins s σ H xs us Q I r h
  obtain ⟨p, vs, ds, rfl, hs, ha, ok, q⟩ := h
  rw [Vals.ref1 r]
  rcases hs with hs | hs
  · obtain ⟨its, rv, pl, hz⟩ := I.list hs
    obtain ⟨as, hr⟩ := Dp.readsAll I ds vs its ha rv
    exact PySem.W.all_list_data (I.ok.hd hc) pl.isList (by simpa using hr) (bi_plain ok) (bi_fits ok) fun h' tk k => ⟨.bl _, H, I.kept k, rfl, q⟩
  · obtain ⟨its, rv, pl, hz⟩ := I.tuple hs
    obtain ⟨as, hr⟩ := Dp.readsAll I ds vs its ha rv
    exact PySem.W.all_tuple_data (I.ok.hd hc) pl (by simpa using hr) (bi_plain ok) (bi_fits ok) fun h' tk k => ⟨.bl _, H, I.kept k, rfl, q⟩
theorem call_anyP (hc : X.calm = true) : CallR X (.builtin "any") (rBi X.K fun ds => ds.any PyData.truthy) := by
  intro pins s σ H xs us Q I r h
  obtain ⟨p, vs, ds, rfl, hs, ha, ok, q⟩ := h
  rw [Vals.ref1 r]
  rcases hs with hs | hs
  · obtain ⟨its, rv, pl, hz⟩ := I.list hs
    obtain ⟨as, hr⟩ := Dp.readsAll I ds vs its ha rv
    exact PySem.W.any_list_data (I.ok.hd hc) pl.isList (by simpa using hr) (bi_plain ok) (bi_fits ok) fun h' tk k => ⟨.bl _, H, I.kept k, rfl, q⟩
  · obtain ⟨its, rv, pl, hz⟩ := I.tuple hs
    obtain ⟨as, hr⟩ := Dp.readsAll I ds vs its ha rv
    exact PySem.W.any_tuple_data (I.ok.hd hc) pl (by simpa using hr) (bi_plain ok) (bi_fits ok) fun h' tk k => ⟨.bl _, H, I.kept k, rfl, q⟩
def seq1 (f : List D → Option D) : List D → Option D
  | [x] => (seqD x).bind f
  | _ => none
theorem seq1_some {f : List D → Option D} {ds : List D} {d : D} (h : seq1 f ds = some d) : ∃ x xs, ds = [x] ∧ seqD x = some xs ∧ f xs = some d := by
  unfold seq1 at h
  split at h
  · rename_i x
    cases e : seqD x with
    | none => rw [e] at h; cases h
    | some xs => rw [e] at h; exact ⟨x, xs, rfl, e, h⟩
  · cases h
def biD (p : List D → Bool) (xs : List D) : Option D := if xs.all biB then some (.bool (p xs)) else none
def allD : List D → Option D := seq1 (biD fun ds => ds.all PyData.truthy)
def anyD : List D → Option D := seq1 (biD fun ds => ds.any PyData.truthy)
theorem cd_bi {id : String} {p : List D → Bool} (hc : CallR X (.builtin id) (rBi X.K p)) : CallD X (.builtin id) (seq1 (biD p)) := ⟨_, hc, fun T H F vs ds d Q hE r h k => by
  obtain ⟨x, xs, rfl, hx, hf⟩ := seq1_some h
  unfold biD at hf
  split at hf
  · rename_i ok
    cases hf
    obtain ⟨v, rfl, rv⟩ := r.one
    obtain ⟨a, ws, rfl, rw', hh⟩ := rv.seq (K := X.K) hE hx
    refine ⟨a, ws, xs, rfl, ?_, (rw'.mono hE).dp (bi_plain ok), ok, k _ H F (.refl hE) (.bl _)⟩
    rcases hh with ⟨_, hh⟩ | ⟨_, hh, _⟩
    · exact .inl (SqL.of hh)
    · exact .inr (hh.sq)
  · cases hf⟩
theorem cd_all (hc : X.calm = true) : CallD X (.builtin "all") allD := cd_bi (call_allP hc)
theorem cd_any (hc : X.calm = true) : CallD X (.builtin "any") anyD := cd_bi (call_anyP hc)
/-! ### min, max -/
def mmOk (xs : List D) : Bool := (xs.all fun x => xs.all fun y => PySem.W.alike x y) && (xs.all fun x => !isN x) && PyData.plainAll xs && decide (PyData.depthAll xs ≤ 40)
theorem mmOk_some {xs : List D} (h : mmOk xs = true) : PySem.W.AlikeAll xs ∧ PyData.plainAll xs = true ∧ PyData.depthAll xs ≤ 40 := by
  unfold mmOk at h
  simp only [Bool.and_eq_true, decide_eq_true_eq, List.all_eq_true] at h
  refine ⟨⟨h.1.1.1, fun x hx e => ?_⟩, h.1.2, h.2⟩
  have := h.1.1.2 x hx
  rw [e] at this
  cases this
def rMM (K : PySem.W.Frag) (g : D → List D → D) : List V → Hp → VK → Prop := fun xs H Q => ∃ a vs x ds, xs = [.ref a] ∧ (SqL K H a vs ∨ SqT K H a vs) ∧ DpAll K H vs (x :: ds) ∧ mmOk (x :: ds) = true ∧ ∀ (i : Nat) (v : V), vs[i]? = some v → (x :: ds)[i]? = some (g x ds) → Q v H
theorem mm_end {pins : List (Addr × Obj)} {s : Shared} {σ : L2.St} {H : Hp} {vs : List V} {its : List Value} {x m : D} {ds : List D} {as : List Addr} {Q : VK} (I : Inv X pins σ H s) (rv : Vals vs its) (hr : ReadsAll s.heap its (x :: ds) as)
    (q : ∀ (i : Nat) (v : V), vs[i]? = some v → (x :: ds)[i]? = some m → Q v H) (i : Nat) (v : Value) (h' : Heap) (tk : Nat) (bs : List Addr) (hv : its.toArray[i]? = some v) (hm : Reads h' v m bs) (k : ∀ b o, s.heap.get? b = some o → h'.get? b = some o) : EP X pins σ Q v { s with heap := h', toks := tk } := by
  have hv' : its[i]? = some v := by simpa using hv
  obtain ⟨cs, r1, hi, _, _⟩ := PySem.W.readsAll_at hr i v hv'
  have e := (PyProof.Rows.reads_det (fun b o z _ => k b o z) r1 hm).1
  have hl := rv.length
  have hil : i < its.length := by
    rcases List.getElem?_eq_some_iff.mp hv' with ⟨z, _⟩
    exact z
  have hx : vs[i]? = some vs[i] := List.getElem?_eq_getElem (by omega)
  obtain ⟨u, hu, ru⟩ := rv.get hx
  have eu : u = v := Option.some.inj (hu.symm.trans hv')
  subst eu
  refine ⟨vs[i], H, I.kept k, ru, q i _ hx ?_⟩
  rw [e, List.getD_eq_getElem?_getD, List.getElem?_eq_getElem hi]
  rfl
theorem call_minP (hc : X.calm = true) (hu : X.A.units + 64 < cLine) : CallR X (.builtin "min") (rMM X.K PySem.W.minD) := by
  intro pins s σ H xs us Q I r h
  obtain ⟨p, vs, x, ds, rfl, hs, ha, ok, q⟩ := h
  obtain ⟨k1, k2, k3⟩ := mmOk_some ok
  rw [Vals.ref1 r]
  rcases hs with hs | hs
  · obtain ⟨its, rv, pl, hz⟩ := I.list hs
    obtain ⟨as, hr⟩ := Dp.readsAll I _ vs its ha rv
    exact PySem.W.min_list_data (I.ok.hd hc) pl.isList (by simpa using hr) k1 (by omega) fun i v h' tk bs hv hm k => mm_end I rv hr q i v h' tk bs hv hm k
  · obtain ⟨its, rv, pl, hz⟩ := I.tuple hs
    obtain ⟨as, hr⟩ := Dp.readsAll I _ vs its ha rv
    exact PySem.W.min_tuple_data (I.ok.hd hc) pl (by simpa using hr) k1 (by omega) fun i v h' tk bs hv hm k => mm_end I rv hr q i v h' tk bs hv hm k
theorem call_maxP (hc : X.calm = true) (hu : X.A.units + 64 < cLine) : CallR X (.builtin "max") (rMM X.K PySem.W.maxD) := by
  intro pins s σ H xs us Q I r h
  obtain ⟨p, vs, x, ds, rfl, hs, ha, ok, q⟩ := h
  obtain ⟨k1, k2, k3⟩ := mmOk_some ok
  rw [Vals.ref1 r]
  rcases hs with hs | hs
  · obtain ⟨its, rv, pl, hz⟩ := I.list hs
    obtain ⟨as, hr⟩ := Dp.readsAll I _ vs its ha rv
    exact PySem.W.max_list_data (I.ok.hd hc) pl.isList (by simpa using hr) k1 (by omega) fun i v h' tk bs hv hm k => mm_end I rv hr q i v h' tk bs hv hm k
  · obtain ⟨its, rv, pl, hz⟩ := I.tuple hs
    obtain ⟨as, hr⟩ := Dp.readsAll I _ vs its ha rv
    exact PySem.W.max_tuple_data (I.ok.hd hc) pl (by simpa using hr) k1 (by omega) fun i v h' tk bs hv hm k => mm_end I rv hr q i v h' tk bs hv hm k
def mmD (g : D → List D → D) : List D → Option D
  | [] => none
  | x :: ds => if mmOk (x :: ds) then some (g x ds) else none
theorem cd_mm {id : String} {g : D → List D → D} (hc : CallR X (.builtin id) (rMM X.K g)) : CallD X (.builtin id) (seq1 (mmD g)) := ⟨_, hc, fun T H F vs ds d Q hE r h k => by
  obtain ⟨x, xs, rfl, hx, hf⟩ := seq1_some h
  cases xs with
  | nil => cases hf
  | cons y ys =>
    have hf : (if mmOk (y :: ys) then some (g y ys) else none) = some d := hf
    split at hf
    · rename_i ok
      cases hf
      obtain ⟨v, rfl, rv⟩ := r.one
      obtain ⟨a, ws, rfl, rw', hh⟩ := rv.seq (K := X.K) hE hx
      refine ⟨a, ws, y, ys, rfl, ?_, (rw'.mono hE).dp (mmOk_some ok).2.1, ok, fun i v hv hi => ?_⟩
      · rcases hh with ⟨_, hh⟩ | ⟨_, hh, _⟩
        · exact .inl (SqL.of hh)
        · exact .inr (hh.sq)
      · obtain ⟨w, hw, rw2⟩ := rw'.get hi
        have e : w = v := Option.some.inj (hw.symm.trans hv)
        subst e
        exact k _ H F (.refl hE) rw2
    · cases hf⟩
def minL : List D → Option D := seq1 (mmD PySem.W.minD)
def maxL : List D → Option D := seq1 (mmD PySem.W.maxD)
theorem cd_min (hc : X.calm = true) (hu : X.A.units + 64 < cLine) : CallD X (.builtin "min") minL := cd_mm (call_minP hc hu)
theorem cd_max (hc : X.calm = true) (hu : X.A.units + 64 < cLine) : CallD X (.builtin "max") maxL := cd_mm (call_maxP hc hu)
/-! ### min and max of two ints, abs, int, sum, sorted, str -/
def min2L : List D → Option D
  | [.int i, .int j] => some (.int (if j < i then j else i))
  | _ => none
def max2L : List D → Option D
  | [.int i, .int j] => some (.int (if j > i then j else i))
  | _ => none
theorem cd_min2 (hc : X.calm = true) : CallD X (.builtin "min") min2L := ⟨_, call_min2 hc, fun T H F vs ds d Q hE r h k => by
  unfold min2L at h
  split at h
  · cases h
    obtain ⟨v, w, rfl, r1, r2⟩ := r.two
    have r1 := r1.full hE
    have r2 := r2.full hE
    cases r1
    cases r2
    exact ⟨_, _, rfl, k _ H F (.refl hE) (.int _)⟩
  · cases h⟩
theorem cd_max2 (hc : X.calm = true) : CallD X (.builtin "max") max2L := ⟨_, call_max2 hc, fun T H F vs ds d Q hE r h k => by
  unfold max2L at h
  split at h
  · cases h
    obtain ⟨v, w, rfl, r1, r2⟩ := r.two
    have r1 := r1.full hE
    have r2 := r2.full hE
    cases r1
    cases r2
    exact ⟨_, _, rfl, k _ H F (.refl hE) (.int _)⟩
  · cases h⟩
def absL : List D → Option D
  | [.int i] => some (.int (if i < 0 then -i else i))
  | _ => none
theorem cd_abs : CallD X (.builtin "abs") absL := ⟨_, call_abs, fun T H F vs ds d Q hE r h k => by
  unfold absL at h
  split at h
  · cases h
    obtain ⟨v, rfl, r1⟩ := r.one
    have r1 := r1.full hE
    cases r1
    exact ⟨_, rfl, k _ H F (.refl hE) (.int _)⟩
  · cases h⟩
def intL : List D → Option D
  | [.int i] => some (.int i)
  | [.bool b] => some (.int (if b then 1 else 0))
  | [.str a] => if a.length ≤ 640 then (PySem.intText? a).map .int else none
  | _ => none
theorem cd_int : CallD X (.type "int") intL := ⟨_, call_int1.or call_int_str, fun T H F vs ds d Q hE r h k => by
  unfold intL at h
  split at h
  · cases h
    obtain ⟨v, rfl, r1⟩ := r.one
    have r1 := r1.full hE
    cases r1
    exact .inl (.inl ⟨_, rfl, k _ H F (.refl hE) (.int _)⟩)
  · cases h
    obtain ⟨v, rfl, r1⟩ := r.one
    have r1 := r1.full hE
    cases r1
    exact .inl (.inr ⟨_, rfl, k _ H F (.refl hE) (.int _)⟩)
  · rename_i a
    split at h
    · rename_i hl
      obtain ⟨v, rfl, r1⟩ := r.one
      have r1 := r1.full hE
      cases r1
      cases e : PySem.intText? a with
      | none => rw [e] at h; cases h
      | some n => rw [e] at h; cases h; exact .inr ⟨_, _, rfl, e, hl, k _ H F (.refl hE) (.int _)⟩
    · cases h
  · cases h⟩
def sumL : List D → Option D
  | [.list xs] => (intsOf xs).map fun ns => .int ns.sum
  | _ => none
theorem cd_sum (hc : X.calm = true) : CallD X (.builtin "sum") sumL := ⟨_, cr_sum hc, fun T H F vs ds d Q hE r h k => by
  unfold sumL at h
  split at h
  · rename_i xs
    cases e : intsOf xs with
    | none => rw [e] at h; cases h
    | some ns =>
      rw [e] at h
      cases h
      have e2 := intsOf_some e
      subst e2
      obtain ⟨v, rfl, rv⟩ := r.one
      obtain ⟨a, ws, rfl, rw', hh⟩ := rv.seq (K := X.K) hE (ds := _) rfl
      have ew := rw'.ints
      subst ew
      rcases hh with ⟨_, hh⟩ | ⟨z, _⟩
      · exact ⟨a, ns, rfl, SqL.of hh, k _ H F (.refl hE) (.int _)⟩
      · cases z
  · cases h⟩
def sortI (ns : List Int) : List Int := ns.mergeSort fun a b => decide (a ≤ b)
theorem sortI_eq {ns ms : List Int} (h : ms.Perm ns) (s : ms.Pairwise (· ≤ ·)) : ms = sortI ns := by
  have h2 : (sortI ns).Pairwise (· ≤ ·) := by
    have z := List.pairwise_mergeSort (le := fun a b : Int => decide (a ≤ b)) (by intro a b c; simp; omega) (by intro a b; simp; omega) ns
    simp only [decide_eq_true_eq] at z
    exact z
  exact List.Perm.eq_of_pairwise (fun a b _ _ h1 h2 => Int.le_antisymm h1 h2) s h2 (h.trans (List.mergeSort_perm ns _).symm)
def sortedL : List D → Option D
  | [.list xs] => (intsOf xs).map fun ns => .list ((sortI ns).map .int)
  | _ => none
theorem cd_sorted : CallD X (.builtin "sorted") sortedL := ⟨_, cr_sortedI, fun T H F vs ds d Q hE r h k => by
  unfold sortedL at h
  split at h
  · rename_i xs
    cases e : intsOf xs with
    | none => rw [e] at h; cases h
    | some ns =>
      rw [e] at h
      cases h
      have e2 := intsOf_some e
      subst e2
      obtain ⟨v, rfl, rv⟩ := r.one
      obtain ⟨a, ws, rfl, rw', hh⟩ := rv.seq (K := X.K) hE (ds := _) rfl
      have ew := rw'.ints
      subst ew
      rcases hh with ⟨_, hh⟩ | ⟨z, _⟩
      · refine ⟨a, ns, rfl, SqL.of hh, fun ns' p h1 h2 hp => ?_⟩
        have e3 := sortI_eq h1 h2
        subst e3
        have st : Stq H F (upd H p (.lst ((sortI ns).map V.int))) (upd F p (.lst ((sortI ns).map V.int))) := .new hE hp fun z => z
        exact k _ _ _ st (.lst upd_same (Rps.of_ints _))
      · cases z
  · cases h⟩
def strL : List D → Option D
  | [.int i] => if i.natAbs.log2 < 1920 then some (.str (toString i)) else none
  | _ => none
theorem cd_str : CallD X (.type "str") strL := ⟨_, call_str_int, fun T H F vs ds d Q hE r h k => by
  unfold strL at h
  split at h
  · split at h
    · rename_i hl
      cases h
      obtain ⟨v, rfl, r1⟩ := r.one
      have r1 := r1.full hE
      cases r1
      exact ⟨_, rfl, hl, k _ H F (.refl hE) (.str _)⟩
    · cases h
  · cases h⟩
/-! ### tuple(..), list(..) -/
def tupL : List D → Option D
  | [.list xs] => some (.tuple xs)
  | [.tuple xs] => some (.tuple xs)
  | _ => none
theorem cd_tuple : CallD X (.type "tuple") tupL := ⟨_, call_tupleP, fun T H F vs ds d Q hE r h k => by
  unfold tupL at h
  split at h
  · cases h
    obtain ⟨v, rfl, rv⟩ := r.one
    obtain ⟨a, ws, rfl, rw', hh⟩ := rv.seq (K := X.K) hE (ds := _) rfl
    rcases hh with ⟨_, hh⟩ | ⟨z, _⟩
    · refine ⟨a, ws, rfl, .inl ⟨SqL.of hh, fun l ob hl hd => ?_⟩⟩
      have st : Stq H F (upd H l (.frz ob (.tup ws))) (upd F l (.frz ob (.tup ws))) := .new hE hl fun z => z
      exact k _ _ _ st (.tup (.new hd) (rw'.mono st.hh))
    · cases z
  · cases h
    obtain ⟨v, rfl, rv⟩ := r.one
    obtain ⟨a, ws, rfl, rw', hh⟩ := rv.seq (K := X.K) hE (ds := _) rfl
    rcases hh with ⟨z, _⟩ | ⟨_, hh, h3⟩
    · cases z
    · exact ⟨a, ws, rfl, .inr ⟨hh.sq, k _ H F (.refl hE) (.tup h3 rw')⟩⟩
  · cases h⟩
def lstL : List D → Option D
  | [.list xs] => some (.list xs)
  | [.tuple xs] => some (.list xs)
  | _ => none
theorem cd_list : CallD X (.type "list") lstL := ⟨_, call_list_of, fun T H F vs ds d Q hE r h k => by
  have key : ∀ xs x, ds = [x] → seqD x = some xs → d = .list xs → ∃ p ys, vs = [.ref p] ∧ (SqL X.K F p ys ∨ SqT X.K F p ys) ∧ ∀ l, F l = none → Q (.ref l) (upd F l (.lst ys)) := fun xs x e1 e2 e3 => by
    subst e1 e3
    obtain ⟨v, rfl, rv⟩ := r.one
    obtain ⟨a, ws, rfl, rw', hh⟩ := rv.seq (K := X.K) hE e2
    refine ⟨a, ws, rfl, ?_, fun l hl => ?_⟩
    · rcases hh with ⟨_, hh⟩ | ⟨_, hh, _⟩
      · exact .inl (SqL.of hh)
      · exact .inr (hh.sq)
    · have st : Stq H F (upd H l (.lst ws)) (upd F l (.lst ws)) := .new hE hl fun z => z
      exact k _ _ _ st (.lst upd_same (rw'.mono st.hh))
  unfold lstL at h
  split at h
  · cases h; exact key _ _ rfl rfl rfl
  · cases h; exact key _ _ rfl rfl rfl
  · cases h⟩
end
end DL

set_option Elab.async false
set_option linter.all false
set_option maxRecDepth 100000
set_option maxHeartbeats 2000000
/-! DLRev: t[::-1] of a tuple, enumerate over a tuple. -/
namespace HT
open PySem PySem.Spec PyProof.Rows
section
variable {prog : Program} {w : World} {A : Around} {E : Value → Shared → Prop} {s : Shared}
theorem adjust_rev (n : Nat) : Builtin.Slice.sliceAdjust none none (-1) (n : Int) = ((n : Int) - 1, -1) := by
  unfold Builtin.Slice.sliceAdjust
  simp
theorem places_rev (n : Nat) : Builtin.Slice.slicePlaces ((n : Int) - 1) (-1) (-1) = n := by
  unfold Builtin.Slice.slicePlaces
  have h1 : ¬ ((-1 : Int) > 0) := by omega
  simp only [h1, if_false]
  by_cases h : (n : Int) - 1 > -1
  · simp only [h, if_true]
    rw [show (- -1 : Int) = 1 by decide, Int.ediv_one]
    omega
  · simp only [h, if_false]
    omega
theorem sliceApplied_rev {sl : Addr} {vl vu vs : Value} {n : Nat} {Q : Int × Int × Nat → Shared → Prop} (hs : s.heap.IsSliceOf sl vl vu vs) (pl : IsPart vl none) (pu : IsPart vu none) (ps : IsPart vs (some (-1)))
    (h : Q ((n : Int) - 1, -1, n) s) : wpAny (model prog w) A (Builtin.Slice.sliceApplied (.ref sl) (pure (n : Int))) Q E s := by
  obtain ⟨os, hos, hcs, hds⟩ := id hs
  unfold Builtin.Slice.sliceApplied Builtin.Slice.sliceFields
  refine wpAny_bind (wpAny_bind (wpAny_field hos hds (x := vl) rfl (wpAny_bind (wpAny_field hos hds (x := vu) rfl (wpAny_bind (wpAny_field hos hds (x := vs) rfl (wpAny_pure ?_)))))))
  refine wpAny_bind (slicePart_ ps ?_)
  show wpAny _ _ (if ((-1 : Int) == 0) = true then _ else _) _ _ s
  rw [if_neg (by decide)]
  refine wpAny_bind (slicePart_ pl (wpAny_bind (slicePart_ pu (wpAny_bind (wpAny_pure ?_)))))
  show wpAny _ _ (match Builtin.Slice.sliceAdjust none none (-1) (n : Int) with | (lo, hi) => pure (lo, (-1 : Int), Builtin.Slice.slicePlaces lo hi (-1))) _ _ s
  rw [adjust_rev n]
  show wpAny _ _ (pure ((n : Int) - 1, (-1 : Int), Builtin.Slice.slicePlaces ((n : Int) - 1) (-1) (-1))) _ _ s
  rw [places_rev]
  exact wpAny_pure h
theorem pick_rev (xs : Array Value) : ((List.range xs.size).filterMap fun (m : Nat) => xs[(((xs.size : Int) - 1) + (m : Int) * (-1)).toNat]?).toArray = xs.toList.reverse.toArray := by
  have e : ((List.range xs.size).filterMap fun (m : Nat) => xs[(((xs.size : Int) - 1) + (m : Int) * (-1)).toNat]?) = (((List.range xs.size).map fun k => xs.size - 1 - k).filterMap (xs[·]?)) := by
    rw [List.filterMap_map]
    congr 1
    funext m
    show _ = xs[xs.size - 1 - m]?
    congr 1
    omega
  rw [e, PySem.W.krv_range, List.filterMap_reverse, PySem.W.krv_all]
theorem getItem_tuple_rev {t sl : Addr} {items : Array Value} {vl vu vs : Value} {Q : Value → Shared → Prop} (ht : IsTup s.heap t items) (hs : s.heap.IsSliceOf sl vl vu vs) (pl : IsPart vl none) (pu : IsPart vu none) (ps : IsPart vs (some (-1)))
    (h : Q (.ref s.heap.objs.size) { s with heap := s.heap.push { cls := .type "tuple", data := .seq items.toList.reverse.toArray } })
    (hsz : items.size ≤ sizeLine) : wpAny (model prog w) A (getItem (.ref t) (.ref sl)) Q E s := by
  have htake : sizeOk (.seq items.toList.reverse.toArray) := by
    show items.toList.reverse.toArray.size ≤ sizeLine
    rw [List.size_toArray, List.length_reverse, Array.length_toList]
    exact hsz
  obtain ⟨os, hos, hcs, hds⟩ := id hs
  have hTs : s.TypeIs (.ref sl) "slice" := ⟨os, hos, hcs⟩
  unfold getItem
  try with_reducible refine wpAny_holding ?_
  first | refine wpAny_bind (wpAny_pure ?_) | skip
  refine wpAny_bind (wpAny_sequenceKey ht.typeIs (by decide) ?_)
  refine wpAny_bind (wpAny_callSpecial?_slot (name := Str.ofString "__getitem__") ht.typeIs PyProof.Rows.slot_tuple_getitem
    (wpAny_call_entry PyProof.Rows.slot_tuple_getitem ht.typeIs entry_tuple_getitem ?_ (args_tuple_getitem _ _)))
  show wpAny _ _ (Builtin.Tuple.tupleItemsOf (.ref t) >>= _) _ _ s
  refine wpAny_bind (tupleItemsOf_ ht ?_)
  refine wpAny_bind (wpAny_typeOf hTs ?_)
  rw [if_pos (by decide)]
  refine wpAny_bind (sliceApplied_rev hs pl pu ps ?_)
  have hno : ¬ ((((items.size : Int) - 1) == 0 && (-1 : Int) == 1 && items.size == items.size) = true) := by
    intro q
    rw [Bool.and_eq_true, Bool.and_eq_true] at q
    have q1 : (-1 : Int) = 1 := eq_of_beq q.1.2
    omega
  show wpAny _ _ (if (((items.size : Int) - 1) == 0 && (-1 : Int) == 1 && items.size == items.size) = true then _ else _) _ _ s
  rw [if_neg hno, pick_rev]
  first
    | exact wpAny_bind (m := Builtin.Tuple.tupleExact _) (wpAny_newObj_type (wpAny_pure ⟨_, rfl, wpAny_pure h⟩) htake)
    | exact wpAny_bind (m := Builtin.Tuple.tupleExact _) (wpAny_newObj_type (wpAny_bind (wpAny_pure (wpAny_pure ⟨_, rfl, wpAny_pure h⟩))) htake)
    | exact wpAny_bind (wpAny_bind (m := Builtin.Tuple.tupleExact _) (wpAny_newObj_type (wpAny_pure (wpAny_pure ⟨_, rfl, wpAny_pure h⟩)) htake))
    | exact wpAny_bind (wpAny_bind (m := Builtin.Tuple.tupleExact _) (wpAny_newObj_type (wpAny_pure ⟨_, rfl, wpAny_pure h⟩) htake))
end
end HT
namespace DL
open PySem PySem.Spec PyProof.Rows L2
def tRevT (K : PySem.W.Frag) (te : TE) : TE := fun σ H Q => te σ H fun x H1 => ∃ a xs, x = .ref a ∧ SqT K H1 a xs ∧ newT Q H1 xs.reverse
theorem pe_revT {X : Cx} {te : TE} {e : Expr} {k : Nat} {p1 p2 p3 pos : Pos} (he : PE X e te) : PE X (.Subscript e (.Slice none none (some (.UnaryOp .USub (.Constant (.int 1) k p1) p2)) p3) pos) (tRevT X.K te) := by
  refine ⟨fun pins s σ H Q I h => ?_⟩
  refine Subscript_ (thn (he.run pins s σ H _ I h) fun v s1 ⟨x, H1, I1, r1, q1⟩ => ?_)
  obtain ⟨a, xs, ex, hx, q⟩ := q1
  subst ex
  cases r1
  have hst : PO X (some (.UnaryOp .USub (.Constant (.int 1) k p1) p2)) (tPart (tUn (rU fun i => .int (-i)) (tC (.int 1)))) := po_some (pe_un un_neg pe_int)
  refine wpAny_Slice (thn (po_none.run pins s1 σ H1 (fun o H2 => o = none ∧ H2 = H1) I1 ⟨rfl, rfl⟩) fun vl s2 ⟨l, H2, I2, pl, el, e2⟩ => ?_)
  subst el e2
  refine thn (po_none.run pins s2 σ H2 (fun o H3 => o = none ∧ H3 = H2) I2 ⟨rfl, rfl⟩) fun vu s3 ⟨u, H3, I3, pu, eu, e3⟩ => ?_
  subst eu e3
  refine thn (hst.run pins s3 σ H3 (fun o H4 => o = some (-1) ∧ H4 = H3) I3 ⟨1, rfl, -1, rfl, rfl, rfl⟩) fun vs s4 ⟨o, H4, I4, ps, eo, e4⟩ => ?_
  subst eo e4
  have I5 : Inv X pins σ H4 { s4 with heap := s4.heap.push { cls := .type "slice", data := .fields #[vl, vu, vs] } } := I4.kept (t' := s4.toks) fun b ob q => Heap.get?_push_of_some _ q
  obtain ⟨its, r, ht, hz⟩ := I5.tuple hx
  have hlen := r.length
  show wpAny (model X.prog X.w) X.A (subscriptTail e (.Slice none none (some (.UnaryOp .USub (.Constant (.int 1) k p1) p2)) p3) (.ref a) (.ref s4.heap.objs.size)) (EP X pins σ Q) X.xe { s4 with heap := s4.heap.push { cls := .type "slice", data := .fields #[vl, vu, vs] } }
  refine tail_any (ops := [.ref a, .ref s4.heap.objs.size]) ht.typeIs (PyProof.Rows.slot_tuple_getitem.lookup) ?_ (by with_unfolding_all rfl)
  refine HT.getItem_tuple_rev ht (Heap.IsSliceOf.new _ vl vu vs) pl pu ps ?_ (by rw [List.size_toArray]; omega)
  exact new_tup I5 r.reverse (by rw [List.length_reverse]; exact hz) q
def revD : D → Option D
  | .tuple xs => some (.tuple xs.reverse)
  | _ => none
theorem je_revT {X : Cx} {S : Type} {T : Tie S} {ρ : List Sl} {m : M S D} {e : Expr} {k : Nat} {p1 p2 p3 pos : Pos} (h : JE X T e ρ m) : JE X T (.Subscript e (.Slice none none (some (.UnaryOp .USub (.Constant (.int 1) k p1) p2)) p3) pos) ρ (B m fun x => L (revD x)) := ⟨fun {σ H F s d s'} hE hR hA hm Q q => by
  obtain ⟨x, s1, m1, hm⟩ := B_some hm
  obtain ⟨hg, rfl⟩ := L_some hm
  refine sE_of (pe_revT (pE X e)) (h.run hE hR hA m1 _ fun v H1 F1 st1 a1 r1 => ?_)
  cases x with
  | tuple xs =>
    cases hg
    cases r1 with
    | @tup a vs _ ha r =>
      refine ⟨_, _, rfl, (ha.mono st1.hf).sq, fun p ob hp hd => ?_⟩
      have st : Stq H1 F1 (upd H1 p (.frz ob (.tup vs.reverse))) (upd F1 p (.frz ob (.tup vs.reverse))) := .new st1.hf hp fun z => z
      exact q _ _ _ (st1.trans (st.up a1)) (st.at a1) (.tup (.new hd) (r.reverse.mono st.hh))
  | _ => cases hg⟩
/-! ### enumerate over a tuple -/
theorem meets_enumB {v : Value} {o : Obj} {H : Heap → Prop} (B : Begins v o H) :
    Meets (Builtin.«enumerate.__new__» ⟨[.type "enumerate", v], []⟩) (fun _ R s => H s.heap ∧
      R (.ok (.ret (.ref (s.heap.push o).objs.size))) { s with heap := (s.heap.push o).push { cls := .type "enumerate", data := .fields #[.none, .bool false, .ref s.heap.objs.size, rawInt 0, .none, .none] } }) :=
  .of_wp fun prog w A R s h => by
    obtain ⟨hp, g, d, tk, os⟩ := s; obtain ⟨h1, h⟩ := h
    have hsub := sub_enumerate
    have q1 : ∀ {A' : Around} {E : Value → Shared → Prop} {Q : Value → Shared → Prop}, Q (.ref hp.objs.size) ⟨hp.push o, g, d, tk, os⟩ → wpAny (model prog w) A' (pyIter v) Q E ⟨hp, g, d, tk, os⟩ :=
      fun q => B.iter prog w _ _ ⟨hp, g, d, tk, os⟩ _ h1 q
    wp_walk using q1
    refine wpAny_stack_any fun st => wpAny_pure ?_
    split
    · rename_i c _ _ _ _ _
      cases (c == Value.type "enumerate")
      · wp_walk using q1
        exact ⟨_, rfl, h⟩
      · wp_walk using q1
        exact ⟨_, rfl, h⟩
    · wp_walk using q1
      exact ⟨_, rfl, h⟩
section
variable {prog : Program} {w : World} {A : Around} {E : Value → Shared → Prop} {s : Shared}
theorem call_enumB {v : Value} {o : Obj} {H : Heap → Prop} {Q : Value → Shared → Prop} (B : Begins v o H) (h1 : H s.heap)
    (h : ∀ h', IsEnum h' (s.heap.objs.size + 1) s.heap.objs.size 0 .none → h'.get? s.heap.objs.size = some o → h'.objs.size = s.heap.objs.size + 2 →
      (∀ b o, s.heap.get? b = some o → h'.get? b = some o) → Q (.ref (s.heap.objs.size + 1)) { s with heap := h' }) :
    wpAny (model prog w) A (call (.type "enumerate") [v]) Q E s := by
  refine callType_new F.called_enumerate (by decide) (F.typeCall_enumerate_1 _) (F.newCall_enumerate_1 _) (fun obj => F.args_object_init_2 obj _) F.entry_enumerate_new
    (meets_enumB B) ⟨h1, ?_⟩
  have hz : (s.heap.push o).objs.size = s.heap.objs.size + 1 := Heap.size_push ..
  show _ ∧ _
  rw [hz]
  have he : IsEnum ((s.heap.push o).push { cls := .type "enumerate", data := .fields #[.none, .bool false, .ref s.heap.objs.size, rawInt 0, .none, .none] }) (s.heap.objs.size + 1) s.heap.objs.size 0 .none := by
    have := Heap.get?_push_size (s.heap.push o) (o := { cls := .type "enumerate", data := .fields #[.none, .bool false, .ref s.heap.objs.size, rawInt 0, .none, .none] }) rfl
    rw [hz] at this; exact this
  refine ⟨⟨_, he, rfl⟩, h _ he (Heap.get?_push_of_some _ (Heap.get?_push_size _ B.free)) (by rw [Heap.size_push, hz]) fun b o x => Heap.get?_push_of_some _ (Heap.get?_push_of_some _ x)⟩
end
def IteT (K : PySem.W.Frag) (a : Addr) : It :=
  ⟨fun i H => ∃ (xs : List V) (x : V), SqT K H a xs ∧ xs[i]? = some x, fun i H v H' => ∃ T x, v = .ref T ∧ H T = none ∧ H' = upd H T (.tup [.int (i : Nat), x]) ∧ ∀ xs, SqT K H a xs → xs[i]? = some x, fun i H => ∃ xs : List V, SqT K H a xs ∧ xs.length = i⟩
theorem turn_enumT {P : Program} {w : World} {K : PySem.W.Frag} {elts : List Expr} {kk : Nat} {tpos : Pos} (a e it : Addr) :
    Turn P w K (.Tuple elts kk tpos) (IteT K a) [e, it] e (fun i h => (∃ old, IsEnum h e it ((i : Nat) : Int) old) ∧ h.IsTupleIter it a i ∧ e ≠ it ∧ e ≠ a ∧ a ≠ it) where
  mem := by simp
  obj := fun i h st b hb => by
    obtain ⟨⟨old, he⟩, ⟨o, ho, hc, hd⟩, _⟩ := st
    have e' : b = e ∨ b = it := by simpa using hb
    rcases e' with z | z
    · rw [z]; exact ⟨_, he, fun v q => nomatch q⟩
    · rw [z]; exact ⟨o, ho, fun v q => by rw [hd] at q; cases q⟩
  keep := fun i h h' st k => let ⟨⟨old, he⟩, hi, hne⟩ := st; ⟨⟨old, k e (by simp) _ he⟩, hi.at fun o q => k it (by simp) o q, hne⟩
  item := by
    intro X hP hw hK hc i pins s σ H E I hf st hg
    subst hP hw hK
    obtain ⟨⟨old, he⟩, hit, hne, hea, hai⟩ := st
    obtain ⟨xs, x, hq, hx⟩ := hg
    obtain ⟨its, rv, p, hz⟩ := I.tuple hq
    obtain ⟨u, hu, ru⟩ := rv.get hx
    have hel : e < s.heap.objs.size := Heap.lt_size he
    have hil : it < s.heap.objs.size := by obtain ⟨_, q, _⟩ := hit; exact Heap.lt_size q
    have hlt : i < its.toArray.size := by
      rcases List.getElem?_eq_some_iff.mp hu with ⟨z, _⟩
      simpa using z
    refine wpAny_pyNext_enum_itemD (Draws.tuple (A := X.A.in1) (I.ok.hd hc) it a hai its.toArray) he ⟨hit, p⟩ hlt hne (by simp [hne, hea]) fun u' h' tk hu' ho hst' hT hsz hk => ?_
    have eu : u' = u := by
      have z : its.toArray[i]? = some u' := hu'
      have z2 : its[i]? = some u' := by simpa using z
      exact Option.some.inj (z2.symm.trans hu)
    subst eu
    obtain ⟨hit', _⟩ := hst'
    refine ⟨_, rfl, wpAny_letOwnedTupleGo_enum (s := { s with heap := h', toks := tk + 1 }) ho fun h'' he' sb => ?_⟩
    have hT2 : h''.get? s.heap.objs.size = some { cls := .type "tuple", data := .seq #[.int i tk, u'] } := (sb.2 _ (Nat.ne_of_gt hel)).trans hT
    have new : ObjOk X.prog X.w (upd H s.heap.objs.size (.tup [.int (i : Nat), x])) h'' s.heap.objs.size (.tup [.int (i : Nat), x]) :=
      ⟨by show 2 ≤ sizeLine; decide, [.int i tk, u'], .cons ⟨_, rfl⟩ (.cons ru .nil), ⟨_, hT2, rfl, _, rfl⟩⟩
    have I1 : Inv X pins σ (upd H s.heap.objs.size (.tup [.int (i : Nat), x])) { s with heap := h'', toks := tk + 1 } :=
      I.turnedNew (ch := [e, it]) (fun b ob hb q => (sb.2 b (fun z => hb (by simp [z]))).trans (hk b ob (fun z => hb (by simp [z])) (fun z => hb (by simp [z])) q)) hf (Nat.le_refl _) new
    refine ⟨.ref s.heap.objs.size, _, I1, rfl, ⟨_, x, rfl, I.hok.fresh (Nat.le_refl _), rfl, fun ys hy => ?_⟩, ⟨⟨u', ?_⟩, hit'.at fun o q => (sb.2 it (Ne.symm hne)).trans q, hne, hea, hai⟩, fun b hb => ?_⟩
    · rw [I.tuple_inj hy hq]; exact hx
    · have e1 : ((i + 1 : Nat) : Int) = (i : Int) + 1 := by omega
      rw [e1]; exact he'
    · have hb' : b < s.heap.objs.size := by
        have e' : b = e ∨ b = it := by simpa using hb
        rcases e' with z | z
        · rw [z]; exact hel
        · rw [z]; exact hil
      rw [upd_ne (Nat.ne_of_lt hb')]
      exact (hf b hb).1
  done := by
    intro X hP hw hK hc i pins s σ H E I hf st hg
    subst hP hw hK
    obtain ⟨⟨old, he⟩, hit, hne, hea, hai⟩ := st
    obtain ⟨xs, hq, hx⟩ := hg
    obtain ⟨its, rv, p, hz⟩ := I.tuple hq
    obtain ⟨f0, f1, f2, f3, f4, f5⟩ := hf it (by simp)
    have hl := rv.length
    have hn : i = its.toArray.size := by rw [List.size_toArray]; omega
    subst hn
    exact wpAny_pyNext_enum_endD (Draws.tuple (A := X.A.in1) (I.ok.hd hc) it a hai its.toArray) he ⟨hit, p⟩ fun h' eb => ⟨rfl, I.turned (t' := s.toks) (fun b o hb q => eb b o hb q) f0 f1 f3 f4 f5⟩
  self := fun A i s Q E st h => let ⟨⟨_, he⟩, _⟩ := st; wpAny_pyIter_enum he h
def iEnumT (K : PySem.W.Frag) (ta : TA) : TI := fun σ H R => ta σ H fun vs H1 => ∃ a xs, vs = [.ref a] ∧ SqT K H1 a xs ∧ R (IteT K a) H1
theorem pi_enumT {X : Cx} {e : Expr} {ta : TA} {p pos tpos : Pos} {elts : List Expr} {kk : Nat} (hg : Gl X "enumerate") (hm : X.mg "enumerate" = none) (ha : PA X [e] ta) (hs : starEach [e] X.env = [(false, eval e X.env)] := by rfl) :
    PI X (.Tuple elts kk tpos) (.Call (.Name "enumerate" p) [e] [] pos) (iEnumT X.K ta) := by
  refine ⟨fun pins s σ H R I h => ?_⟩
  refine Call_ (ld_blt I hg hm boot_enumerate (PyProof.Rows.callWith_type1 (thn (ha.run pos pins s σ H _ I h) fun us s1 ⟨vs, H1, I1, r1, q1⟩ => ?_) hs rfl))
  obtain ⟨a, xs, ex, hq, q⟩ := q1
  subst ex
  cases r1 with
  | cons r rr =>
    cases rr
    cases r
    obtain ⟨its, rv, p', hz⟩ := I1.tuple hq
    refine call_enumB (begins_tuple a its.toArray) p' fun h' he hit hsz hk => wpAny_pyIter_enum he ?_
    have I2 : Inv X pins σ H1 { s1 with heap := h' } := I1.kept (t' := s1.toks) hk
    have hal : a < s1.heap.objs.size := by obtain ⟨_, q, _⟩ := p'; exact Heap.lt_size q
    have n1 : s1.heap.objs.size + 1 ≠ a := Ne.symm (Nat.ne_of_lt (Nat.lt_succ_of_lt hal))
    have n2 : a ≠ s1.heap.objs.size := Nat.ne_of_lt hal
    refine ⟨s1.heap.objs.size + 1, [s1.heap.objs.size + 1, s1.heap.objs.size], _, _, H1, rfl, I2, turn_enumT a (s1.heap.objs.size + 1) s1.heap.objs.size, ⟨⟨.none, he⟩, ⟨_, hit, rfl, rfl⟩, Nat.succ_ne_self _, n1, n2⟩, fun b hb => ?_, q⟩
    have e' : b = s1.heap.objs.size + 1 ∨ b = s1.heap.objs.size := by simpa using hb
    have hle : s1.heap.objs.size ≤ b := by
      rcases e' with z | z
      · rw [z]; exact Nat.le_add_right _ _
      · rw [z]; exact Nat.le_refl _
    exact I1.fpOk hle (I1.hok.fresh hle)
def enumTD : List D → Option (List D)
  | [.tuple xs] => some (enumL xs)
  | _ => none
theorem enumTD_some {ds r : List D} (h : enumTD ds = some r) : ∃ xs, ds = [.tuple xs] ∧ r = enumL xs := by
  unfold enumTD at h
  split at h
  · cases h
    exact ⟨_, rfl, rfl⟩
  · cases h
section
variable {X : Cx} {S : Type} {T : Tie S} {ρ : List Sl} {p pos : Pos}
theorem ji_enumT {a : Expr} {elts : List Expr} {kk : Nat} {tpos : Pos} {ma : M S (List D)} (hg : Gl X "enumerate") (hm : X.mg "enumerate" = none) (ha : JA X T [a] ρ (fun ds => L (enumTD ds)) ma)
    (hs : starEach [a] X.env = [(false, eval a X.env)] := by rfl) : JI X T (.Tuple elts kk tpos) (.Call (.Name "enumerate" p) [a] [] pos) ρ true ma := ⟨fun {σ H F s ds s'} hE hR hA hm' R k => by
  refine sI_of (pi_enumT hg hm (pA X _) hs) (ha.run hE hR hA hm' _ fun vs es s1 H1 F1 st1 a1 r1 hk => ?_)
  obtain ⟨hq, rfl⟩ := L_some hk
  obtain ⟨xs, rfl, rfl⟩ := enumTD_some hq
  obtain ⟨u, rfl, ru⟩ := r1.one
  obtain ⟨c, cs, rfl, hc, rc⟩ := ru.tup_inv
  refine ⟨c, cs, rfl, (hc.mono st1.hf).sq, k (fun _ => False) _ H1 F1 st1 a1 (fun _ h => h.elim) (fun _ _ h => h) ⟨fun i H2 F2 e1 e2 _ hi => ?_, fun H2 F2 e1 e2 _ => ?_, fun i H2 F2 x F3 e1 e2 _ hi y => ?_⟩⟩
  · rw [enumL_length] at hi
    have l1 := rc.length
    exact ⟨cs, cs[i]'(by omega), ((hc.mono e1).mono e2).sq, by simp [show i < cs.length by omega]⟩
  · rw [enumL_length]
    exact ⟨cs, ((hc.mono e1).mono e2).sq, rc.length⟩
  · obtain ⟨Tq, x1, rfl, nT, rfl, f1⟩ := y
    obtain ⟨y1, g1, q1⟩ := rc.getV (f1 cs (((hc.mono e1).mono e2).sq))
    obtain ⟨st, rp⟩ := new_pair e2 nT (.int (i : Nat)) (q1.mono e1)
    exact ⟨_, _, st, enumL_get g1, .inr ⟨rfl, rp⟩⟩⟩
end
end DL

set_option Elab.async false
set_option linter.all false
set_option maxRecDepth 100000
set_option maxHeartbeats 2000000
/-! DLMeth: isinstance, index, split, join, a text's signs, list(range(..)), dict, get. -/
namespace DL
open PySem PySem.Spec PyProof.Rows L2
def tyN : D → String
  | .none => "NoneType"
  | .bool _ => "bool"
  | .int _ => "int"
  | .str _ => "str"
  | .list _ => "list"
  | .tuple _ => "tuple"
  | .dict _ => "dict"
theorem Rp.tyx {K : PySem.W.Frag} {H : Hp} {v : V} {d : D} (r : Rp H v d) : TyX K H v (.type (tyN d)) := by
  cases r with
  | non => exact .base .non
  | bl b => exact .base (.bl b)
  | int i => exact .base (.int i)
  | str x => exact .base (.str x)
  | lst h _ => exact .base (.lst h)
  | tup h _ => obtain ⟨o, h, _⟩ := h; exact .fTuple h
  | dic h _ => exact .base (.dK h)
def isiD (c : String) (x : D) : Option D := (kitB (tyN x) c).map .bool
section
variable {X : Cx} {S : Type} {T : Tie S} {ρ : List Sl} {m mb : M S D} {e f : Expr} {p p2 pos apos : Pos}
theorem je_isi {ty : Str} {c : String} (h : JE X T e ρ m) (g1 : Gl X "isinstance") (m1 : X.mg "isinstance" = none) (g2 : Gl X ty) (m2 : X.mg ty = none) (hv : bootBuiltins ty = some (.type c)) (hn : ty ≠ "__name__" := by decide) (hd : (ty == ("__debug__" : Str)) = false := by decide)
    (he : starEach [e, .Name ty p2] X.env = (false, eval e X.env) :: starEach [.Name ty p2] X.env := by rfl) (hpl : (backTo pos (starEach [.Name ty p2] X.env)).any (·.1) = false := by rfl) :
    JE X T (.Call (.Name "isinstance" p) [e, .Name ty p2] [] pos) ρ (B m fun x => L (isiD c x)) := ⟨fun {σ H F s d s'} hE hR hA hm Q k => by
  obtain ⟨x, s1, h1, hm⟩ := B_some hm
  obtain ⟨hg, rfl⟩ := L_some hm
  refine sE_of (pe_callB call_isi g1 m1 boot_isinstance (pa_cons (pE X e) (pa_cons (pe_bltn g2 m2 hv (v := .ty c) rfl hn hd) pa_nil) he) (by decide) (by decide) he hpl) (h.run hE hR hA h1 _ fun v H1 F1 st1 a1 r1 => ?_)
  unfold isiD at hg
  cases kb : kitB (tyN x) c with
  | none => rw [kb] at hg; cases hg
  | some b =>
    rw [kb] at hg
    cases hg
    exact ⟨v, .ty c, .type (tyN x), .type c, b, rfl, .ty c, (r1.mono st1.hf).tyx, kit_ty kb, k _ H1 F1 st1 a1 (.bl _)⟩⟩
/-! ### index -/
def rIxI (K : PySem.W.Frag) : V → List V → Hp → VK → Prop := fun x xs H Q => ∃ (a : Addr) (ns : List Int) (k : Int), x = V.ref a ∧ xs = [V.int k] ∧ SqL K H a (ns.map V.int) ∧ k ∈ ns ∧ Q (.int (ns.idxOf k : Nat)) H
theorem mt_indexL : MtR X "list.index" (rIxI X.K) := by
  intro pins s σ H x xs v us Q I r rs h
  obtain ⟨a, ns, k, rfl, rfl, hs, hk, q⟩ := h
  cases r
  obtain ⟨u, rfl, t, rfl⟩ := vals1 rs
  obtain ⟨its, rv, pl, hz⟩ := I.list hs
  exact PySem.SeqAt.list_index_ints pl.isList rv.ints (by simpa using hz) hk ⟨.int _, H, I.tok _, ⟨_, rfl⟩, q⟩
def ixI (xs : List D) (k : Int) : Option D := (intsOf xs).bind fun (ns : List Int) => if k ∈ ns then some (.int (ns.idxOf k : Nat)) else none
theorem ixI_some {xs : List D} {k : Int} {d : D} (h : ixI xs k = some d) : ∃ ns : List Int, xs = ns.map .int ∧ k ∈ ns ∧ d = .int (ns.idxOf k : Nat) := by
  unfold ixI at h
  cases e : intsOf xs with
  | none => rw [e] at h; cases h
  | some ns =>
    rw [e] at h
    have h : (if k ∈ ns then some (PyData.int (ns.idxOf k : Nat)) else none) = some d := h
    split at h
    · cases h
      exact ⟨ns, intsOf_some e, by assumption, rfl⟩
    · cases h
def indexL : D → D → Option D
  | .list xs, .int k => ixI xs k
  | _, _ => none
def indexT : D → D → Option D
  | .tuple xs, .int k => ixI xs k
  | _, _ => none
theorem je_indexL (h : JE X T e ρ m) (h2 : JE X T f ρ mb)
    (hbase : attributeBase e "index" X.env (eval e X.env) = eval e X.env := by rfl) (hfew : ((backTo pos (starEach [f] X.env)).all (fun x => !x.1) && (backToKw pos (keywordEach [] X.env)).all (fun x => x.1.isSome)
      && decide ([f].length + ([] : List Keyword).length + (if ([] : List Keyword).isEmpty then 0 else 1) < 30)) = true := by rfl)
    (hline : (apos.endLine == pos.line) = true := by rfl) (hs : starEach [f] X.env = [(false, eval f X.env)] := by rfl) : JE X T (.Call (.Attribute e "index" apos) [f] [] pos) ρ (B m fun x => B mb fun y => L (indexL x y)) := ⟨fun {σ H F s d s'} hE hR hA hm Q k => by
  obtain ⟨x, s1, m1, hm⟩ := B_some hm
  obtain ⟨y, s2, m2, hm⟩ := B_some hm
  obtain ⟨hg, rfl⟩ := L_some hm
  refine sE_of (pe_bm PySem.F.plainAttrs_list PySem.F.slot_list_index PySem.F.type_list_index mt_indexL (pE X e) (pa_cons (pE X f) pa_nil hs) hbase hfew hline hs) (h.run hE hR hA m1 _ fun v H1 F1 st1 a1 r1 => ?_)
  unfold indexL at hg
  split at hg
  · obtain ⟨ns, rfl, hk, rfl⟩ := ixI_some hg
    obtain ⟨a, vs, rfl, ha, r⟩ := r1.list_inv
    have ev := r.ints
    subst ev
    refine ⟨.inl ⟨rfl, _, SqL.of (st1.hf _ _ ha)⟩, h2.run st1.hf (hR.step st1) a1 m2 _ fun w H2 F2 st2 a2 r2 => ?_⟩
    cases r2
    exact ⟨a, ns, _, rfl, rfl, SqL.of (st2.hf _ _ (st2.hh _ _ ha)), hk, k _ H2 F2 (st1.trans st2) a2 (.int _)⟩
  · cases hg⟩
theorem je_indexT (h : JE X T e ρ m) (h2 : JE X T f ρ mb)
    (hbase : attributeBase e "index" X.env (eval e X.env) = eval e X.env := by rfl)
    (hline : (apos.endLine == pos.line) = true := by rfl) (hs : starEach [f] X.env = [(false, eval f X.env)] := by rfl) : JE X T (.Call (.Attribute e "index" apos) [f] [] pos) ρ (B m fun x => B mb fun y => L (indexT x y)) := ⟨fun {σ H F s d s'} hE hR hA hm Q k => by
  obtain ⟨x, s1, m1, hm⟩ := B_some hm
  obtain ⟨y, s2, m2, hm⟩ := B_some hm
  obtain ⟨hg, rfl⟩ := L_some hm
  refine sE_of (pe_indexT (pE X e) (pE X f) hbase hline hs) (h.run hE hR hA m1 _ fun v H1 F1 st1 a1 r1 => ?_)
  unfold indexT at hg
  split at hg
  · obtain ⟨ns, rfl, hk, rfl⟩ := ixI_some hg
    obtain ⟨a, vs, rfl, ha, r⟩ := r1.tup_inv
    have ev := r.ints
    subst ev
    refine ⟨⟨a, _, rfl, ha.mono st1.hf⟩, h2.run st1.hf (hR.step st1) a1 m2 _ fun w H2 F2 st2 a2 r2 => ?_⟩
    cases r2
    exact ⟨a, ns, _, rfl, rfl, ((ha.mono st2.hh).mono st2.hf).sq, hk, k _ H2 F2 (st1.trans st2) a2 (.int _)⟩
  · cases hg⟩
/-! ### texts -/
def splitD : D → D → Option D
  | .str a, .str b => if (b.length == 0) = false ∧ a.length + 2 ≤ 16777216 then some (.list ((Txt.split a b).map .str)) else none
  | _, _ => none
theorem splitD_some {x y d : D} (h : splitD x y = some d) : ∃ a b : Str, x = .str a ∧ y = .str b ∧ (b.length == 0) = false ∧ a.length + 2 ≤ 16777216 ∧ d = .list ((Txt.split a b).map .str) := by
  unfold splitD at h
  split at h
  · split at h
    · rename_i hc
      cases h
      exact ⟨_, _, rfl, rfl, hc.1, hc.2, rfl⟩
    · cases h
  · cases h
theorem je_split (h : JE X T e ρ m) (h2 : JE X T f ρ mb) (hs : starEach [f] X.env = [(false, eval f X.env)] := by rfl) (hbase : attributeBase e "split" X.env (eval e X.env) = eval e X.env := by rfl) (hline : (apos.endLine == pos.line) = true := by rfl) :
    JE X T (.Call (.Attribute e "split" apos) [f] [] pos) ρ (B m fun x => B mb fun y => L (splitD x y)) := ⟨fun {σ H F s d s'} hE hR hA hm Q k => by
  obtain ⟨x, s1, m1, hm⟩ := B_some hm
  obtain ⟨y, s2, m2, hm⟩ := B_some hm
  obtain ⟨hg, rfl⟩ := L_some hm
  refine sE_of (pe_split (pE X e) (pE X f) hs hbase hline) (h.run hE hR hA m1 _ fun v H1 F1 st1 a1 r1 => ?_)
  obtain ⟨a, b, rfl, rfl, c1, c2, rfl⟩ := splitD_some hg
  cases r1
  refine ⟨⟨_, rfl⟩, h2.run st1.hf (hR.step st1) a1 m2 _ fun w H2 F2 st2 a2 r2 => ?_⟩
  cases r2
  refine ⟨a, b, rfl, rfl, c1, by rw [sizeLine_eq]; exact c2, fun p hp => ?_⟩
  have st : Stq H2 F2 (upd H2 p (.lst ((Txt.split a b).map V.str))) (upd F2 p (.lst ((Txt.split a b).map V.str))) := .new st2.hf hp fun z => z
  exact k _ _ _ ((st1.trans st2).trans (st.up a2)) (st.at a2) (.lst upd_same (Rps.of_strs _))⟩
def joinD : D → D → Option D
  | .str a, .list xs => (strsOf xs).bind fun ys => if (ys.map (·.length)).sum + ys.length * a.length ≤ 16777216 then some (.str (Txt.join a ys)) else none
  | _, _ => none
theorem joinD_some {x y d : D} (h : joinD x y = some d) : ∃ (a : Str) (ys : List Str), x = .str a ∧ y = .list (ys.map .str) ∧ (ys.map (·.length)).sum + ys.length * a.length ≤ 16777216 ∧ d = .str (Txt.join a ys) := by
  unfold joinD at h
  split at h
  · rename_i a xs
    cases e2 : strsOf xs with
    | none => rw [e2] at h; cases h
    | some ys =>
      rw [e2] at h
      have h : (if (ys.map (·.length)).sum + ys.length * a.length ≤ 16777216 then some (PyData.str (Txt.join a ys)) else none) = some d := h
      split at h
      · rename_i hc
        cases h
        exact ⟨a, ys, rfl, by rw [strsOf_some e2], hc, rfl⟩
      · cases h
  · cases h
theorem je_join (h : JE X T e ρ m) (h2 : JE X T f ρ mb) (hs : starEach [f] X.env = [(false, eval f X.env)] := by rfl) (hbase : attributeBase e "join" X.env (eval e X.env) = eval e X.env := by rfl) (hline : (apos.endLine == pos.line) = true := by rfl) :
    JE X T (.Call (.Attribute e "join" apos) [f] [] pos) ρ (B m fun x => B mb fun y => L (joinD x y)) := ⟨fun {σ H F s d s'} hE hR hA hm Q k => by
  obtain ⟨x, s1, m1, hm⟩ := B_some hm
  obtain ⟨y, s2, m2, hm⟩ := B_some hm
  obtain ⟨hg, rfl⟩ := L_some hm
  refine sE_of (pe_join (pE X e) (pE X f) hs hbase hline) (h.run hE hR hA m1 _ fun v H1 F1 st1 a1 r1 => ?_)
  obtain ⟨a, ys, rfl, rfl, hc, rfl⟩ := joinD_some hg
  cases r1
  refine ⟨⟨_, rfl⟩, h2.run st1.hf (hR.step st1) a1 m2 _ fun w H2 F2 st2 a2 r2 => ?_⟩
  obtain ⟨c, vs, rfl, hp, r⟩ := r2.list_inv
  have ev := r.strs
  subst ev
  exact ⟨a, c, ys, rfl, rfl, .inl (SqL.of (st2.hf _ _ hp)), hc, k _ H2 F2 (st1.trans st2) a2 (.str _)⟩⟩
/-- a text's signs -/
def signs (x : Str) : List D := x.cps.toList.map fun c => .str ⟨#[c]⟩
def signD : D → Option (List D)
  | .str x => some (signs x)
  | _ => none
theorem walkD_str {b : Bool} {H F : Hp} {x : Str} : WalkD b (fun _ => False) (Its x) (signs x) H F where
  goes := fun i H1 F1 _ _ _ hi => by simpa [signs, Its] using hi
  stops := fun H1 F1 _ _ _ => by simp [signs, Its]
  yields := fun i H1 F1 v F2 e1 e2 _ hi y => by
    obtain ⟨rfl, c, hc, rfl⟩ := y
    refine ⟨H1, .str ⟨#[c]⟩, .refl e2, ?_, .inl (.str _)⟩
    have hc' : x.cps.toList[i]? = some c := by simpa using hc
    rw [signs, List.getElem?_map, hc']
    rfl
theorem ji_str {tg : Expr} (h : JE X T e ρ m) : JI X T tg e ρ true (B m fun x => L (signD x)) := ⟨fun {σ H F s ds s'} hE hR hA hm R k => by
  obtain ⟨x, s1, m1, hm⟩ := B_some hm
  obtain ⟨hg, rfl⟩ := L_some hm
  refine sI_of (pi_str (pE X e)) (h.run hE hR hA m1 _ fun v H1 F1 st1 a1 r1 => ?_)
  unfold signD at hg
  split at hg
  · cases hg
    cases r1
    exact ⟨_, rfl, k (fun _ => False) _ H1 F1 st1 a1 (fun _ h => h.elim) (fun _ _ h => h) walkD_str⟩
  · cases hg⟩
/-! ### list(range(n)) -/
def lrgD : D → Option D
  | .int n => if 0 ≤ n ∧ n ≤ 1000000 then some (.list (rgL 0 n)) else none
  | _ => none
theorem lrgD_some {x d : D} (h : lrgD x = some d) : ∃ n : Int, x = .int n ∧ 0 ≤ n ∧ n ≤ 1000000 ∧ d = .list (rgL 0 n) := by
  unfold lrgD at h
  split at h
  · split at h
    · rename_i hc
      cases h
      exact ⟨_, rfl, hc.1, hc.2, rfl⟩
    · cases h
  · cases h
theorem Rps.rg {H : Hp} {a b : Int} : Rps H (rgV a b) (rgL a b) := by
  have e1 : rgV a b = ((List.range (b - a).toNat).map fun i => a + ((i : Nat) : Int)).map V.int := by
    rw [List.map_map]
    rfl
  have e2 : rgL a b = ((List.range (b - a).toNat).map fun i => a + ((i : Nat) : Int)).map PyData.int := by
    rw [List.map_map]
    rfl
  rw [e1, e2]
  exact Rps.of_ints _
theorem je_listRg {p1 p3 p4 : Pos} (hc : X.calm = true) (h : JE X T e ρ m) (g1 : Gl X "list") (m1 : X.mg "list" = none) (g2 : Gl X "range") (m2 : X.mg "range" = none) (na : starEach [e] X.env = (false, eval e X.env) :: starEach [] X.env := by rfl)
    (nb : starEach [.Call (.Name "range" p3) [e] [] p4] X.env = (false, eval (.Call (.Name "range" p3) [e] [] p4) X.env) :: starEach [] X.env := by rfl) : JE X T (.Call (.Name "list" p1) [.Call (.Name "range" p3) [e] [] p4] [] pos) ρ (B m fun x => L (lrgD x)) := ⟨fun {σ H F s d s'} hE hR hA hm Q k => by
  obtain ⟨x, s1, h1, hm⟩ := B_some hm
  obtain ⟨hg, rfl⟩ := L_some hm
  obtain ⟨n, rfl, c0, c1, rfl⟩ := lrgD_some hg
  refine sE_of (pe_listRg hc g1 m1 (prg_1 g2 m2 (pE X e) na) nb) (h.run hE hR hA h1 _ fun v H1 F1 st1 a1 r1 => ?_)
  cases r1
  refine ⟨n, rfl, .of_le (by omega) (by omega) (by omega) c0, fun q hq => ?_⟩
  have st : Stq H1 F1 (upd H1 q (.lst (rgV 0 n))) (upd F1 q (.lst (rgV 0 n))) := .new st1.hf hq fun z => z
  exact k _ _ _ (st1.trans (st.up a1)) (st.at a1) (.lst upd_same Rps.rg)⟩
end
end DL

set_option Elab.async false
set_option linter.all false
set_option maxRecDepth 100000
set_option maxHeartbeats 2000000
/-! DLDict: dict(pairs), d.get(k, x). -/
namespace DL
open PySem PySem.Spec PyProof.Rows L2
def keyD : D → Option Key
  | .int i => some (.inl i)
  | .str x => some (.inr x)
  | _ => none
theorem keyD_some {d : D} {k : Key} (h : keyD d = some k) : d = kD k := by
  cases d <;> cases h <;> rfl
theorem keyD_kD (k : Key) : keyD (kD k) = some k := by cases k <;> rfl
def kvD : List D → Option (List (Key × D))
  | [] => some []
  | .tuple [a, b] :: r => (keyD a).bind fun k => (kvD r).map fun q => (k, b) :: q
  | _ => none
theorem merge_nodup : ∀ (acc more : List (Key × V)), ((acc ++ more).map (·.1)).Nodup → mergeK acc more = acc ++ more
  | acc, [], _ => by simp [mergeK]
  | acc, (k, v) :: r, h => by
    have e : putK acc k v = acc ++ [(k, v)] := by
      unfold putK
      have : (acc.any fun kv => decide (kv.1 = k)) = false := by
        rw [Bool.eq_false_iff]
        intro z
        rw [List.any_eq_true] at z
        obtain ⟨p, hp, e⟩ := z
        have e := of_decide_eq_true e
        rw [List.map_append, List.nodup_append] at h
        exact h.2.2 p.1 (List.mem_map_of_mem hp) k (by simp) e
      rw [this]
      rfl
    show mergeK (putK acc k v) r = _
    rw [e, merge_nodup (acc ++ [(k, v)]) r (by simpa using h)]
    simp
theorem kvD_rp {H : Hp} : ∀ {ds : List D} {vs : List V} {kds : List (Key × D)}, Rps H vs ds → kvD ds = some kds → ∃ (ps : List Addr) (kvs : List (Key × V)), vs = ps.map V.ref ∧ Paired (fun p (kv : Key × V) => Tp H p [kV kv.1, kv.2]) ps kvs ∧ kvs.map (·.1) = kds.map (·.1) ∧ Rkv H kvs (kds.map fun q => (kD q.1, q.2))
  | _, _, kds, .nil, h => by
    cases h
    exact ⟨[], [], rfl, .nil, rfl, .nil⟩
  | _, _, kds, .cons (d := d) (ds := ds) r rs, h => by
    cases d with
    | tuple ts =>
      match ts, h with
      | [a, b], h =>
        have h : (keyD a).bind (fun k => (kvD ds).map fun q => (k, b) :: q) = some kds := h
        cases ek : keyD a with
        | none => rw [ek] at h; cases h
        | some k =>
          rw [ek] at h
          have h : (kvD ds).map (fun q => (k, b) :: q) = some kds := h
          cases e : kvD ds with
          | none => rw [e] at h; cases h
          | some q =>
            rw [e] at h
            cases h
            obtain ⟨ps, kvs, rfl, h2, h3, h4⟩ := kvD_rp rs e
            have ea := keyD_some ek
            subst ea
            obtain ⟨c, ws, rfl, hc, rw'⟩ := r.tup_inv
            obtain ⟨u, w, rfl, ru, rb⟩ := rw'.two
            have eu : u = kV k := by
              cases k with
              | inl i => cases ru; rfl
              | inr x => cases ru; rfl
            subst eu
            refine ⟨c :: ps, (k, w) :: kvs, rfl, .cons hc h2, ?_, .cons rb h4⟩
            rw [List.map_cons, List.map_cons, h3]
    | _ => cases h
def dictL : List D → Option D
  | [.list xs] => (kvD xs).bind fun kds => if (kds.map (·.1)).Nodup then some (.dict (kds.map fun q => (kD q.1, q.2))) else none
  | _ => none
section
variable {X : Cx}
theorem cd_dict (hcalm : X.calm = true) : CallD X (.type "dict") dictL := ⟨_, call_dictP hcalm, fun T H F vs ds d Q hE r h k => by
  unfold dictL at h
  split at h
  · rename_i xs
    cases e : kvD xs with
    | none => rw [e] at h; cases h
    | some kds =>
      rw [e] at h
      have h : (if (kds.map (·.1)).Nodup then some (PyData.dict (kds.map fun q => (kD q.1, q.2))) else none) = some d := h
      split at h
      · rename_i hn
        cases h
        obtain ⟨v, rfl, rv⟩ := r.one
        obtain ⟨a, ws, rfl, rw', hh⟩ := rv.seq (K := X.K) hE (ds := _) rfl
        obtain ⟨ps, kvs, rfl, h2, h3, h4⟩ := kvD_rp rw' e
        rcases hh with ⟨_, hh⟩ | ⟨z, _⟩
        · refine ⟨a, ps, kvs, rfl, SqL.of hh, ?_, fun p hp => ?_⟩
          · exact L2.Paired.mapP h2 fun x y z => (z.mono hE).sq
          · rw [merge_nodup [] kvs (by simpa [h3] using hn)]
            have st : Stq H F (upd H p (.dK ([] ++ kvs))) (upd F p (.dK ([] ++ kvs))) := .new hE hp fun z => z
            exact k _ _ _ st (.dic upd_same (h4.mono st.hh))
        · cases z
      · cases h
  · cases h⟩
/-! ### get -/
def dgetL (ds : List (D × D)) (k : Key) : Option D := (ds.find? fun p => decide (keyD p.1 = some k)).map (·.2)
theorem dget_rp {H : Hp} {k : Key} : ∀ {kvs : List (Key × V)} {ds : List (D × D)}, Rkv H kvs ds → (valV kvs k = none ∧ dgetL ds k = none) ∨ ∃ v d, valV kvs k = some v ∧ dgetL ds k = some d ∧ Rp H v d
  | _, _, .nil => .inl ⟨rfl, rfl⟩
  | _, _, .cons (k := k2) (v := v) (vs := vs) (d := d) (ds := ds) h r => by
    by_cases e : k2 = k
    · refine .inr ⟨v, d, valV_pos e, ?_, h⟩
      unfold dgetL
      rw [List.find?_cons_of_pos (by rw [keyD_kD, e]; exact decide_eq_true rfl)]
      rfl
    · have e1 : valV ((k2, v) :: vs) k = valV vs k := valV_neg e
      have e2 : dgetL ((kD k2, d) :: ds) k = dgetL ds k := by
        unfold dgetL
        rw [List.find?_cons_of_neg (by rw [keyD_kD]; simpa using e)]
      rw [e1, e2]
      exact dget_rp r
def getD3 (x y z : D) : Option D := match x with
  | .dict ds => (keyD y).map fun k => (dgetL ds k).getD z
  | _ => none
theorem getD3_some {x y z d : D} (h : getD3 x y z = some d) : ∃ ds k, x = .dict ds ∧ y = kD k ∧ d = (dgetL ds k).getD z := by
  unfold getD3 at h
  split at h
  · rename_i ds
    cases e : keyD y with
    | none => rw [e] at h; cases h
    | some k => rw [e] at h; cases h; exact ⟨ds, k, rfl, keyD_some e, rfl⟩
  · cases h
variable {S : Type} {T : Tie S} {ρ : List Sl} {mo me mf : M S D} {o e f : Expr} {apos cpos : Pos}
theorem Rp.kV_inv {H : Hp} {v : V} {k : Key} (r : Rp H v (kD k)) : v = kV k := by
  cases k with
  | inl i => cases r; rfl
  | inr x => cases r; rfl
theorem je_get (hu : X.A.units + 64 < cLine) (ho : JE X T o ρ mo) (he : JE X T e ρ me) (hf : JE X T f ρ mf)
    (h1 : attributeBase o "get" X.env (eval o X.env) = eval o X.env := by rfl)
    (h2 : ((backTo cpos (starEach [e, f] X.env)).all (fun x => !x.1) && (backToKw cpos (keywordEach [] X.env)).all (fun x => x.1.isSome)
      && decide (([e, f] : List Expr).length + ([] : List Keyword).length + (if ([] : List Keyword).isEmpty then 0 else 1) < 30)) = true := by rfl)
    (h3 : (apos.endLine == cpos.line) = true := by rfl) (h4 : backTo cpos (starEach [e, f] X.env) = [(false, eval e X.env), (false, eval f X.env)] := by rfl) :
    JE X T (.Call (.Attribute o "get" apos) [e, f] [] cpos) ρ (B mo fun x => B me fun y => B mf fun z => L (getD3 x y z)) := ⟨fun {σ H F s d s'} hE hR hA hm Q k => by
  obtain ⟨x, s1, m1, hm⟩ := B_some hm
  obtain ⟨y, s2, m2, hm⟩ := B_some hm
  obtain ⟨z, s3, m3, hm⟩ := B_some hm
  obtain ⟨hg, rfl⟩ := L_some hm
  obtain ⟨ds, ky, rfl, rfl, rfl⟩ := getD3_some hg
  refine sE_of (pe_dget2 (by omega) (pE X o) (pE X e) (pE X f) ⟨h1, h2, h3, h4⟩) (ho.run hE hR hA m1 _ fun v H1 F1 st1 a1 r1 => ?_)
  cases r1 with
  | @dic a kvs _ ha rk =>
    refine ⟨a, rfl, .inl ⟨kvs, .inl (st1.hf _ _ ha)⟩, he.run st1.hf (hR.step st1) a1 m2 _ fun w H2 F2 st2 a2 r2 => hf.run st2.hf (hR.step (st1.trans st2)) a2 m3 _ fun u H3 F3 st3 a3 r3 => ?_⟩
    have st := (st1.trans st2).trans st3
    have ew := r2.kV_inv
    subst ew
    refine ⟨valV kvs ky, DGet.k ((st3.hf _ _ (st3.hh _ _ (st2.hh _ _ ha)))), ?_⟩
    rcases dget_rp (k := ky) (rk.mono (st2.hh.trans st3.hh)) with ⟨q1, q2⟩ | ⟨v2, d2, q1, q2, q3⟩
    · rw [q1]
      refine k _ H3 F3 st a3 ?_
      rw [q2]
      exact r3
    · rw [q1]
      refine k _ H3 F3 st a3 ?_
      rw [q2]
      exact q3⟩
end
end DL

set_option Elab.async false
set_option linter.all false
set_option maxRecDepth 100000
set_option maxHeartbeats 2000000
/-! DLSet: name = [.. for ..] on one line. -/
namespace DL
open PySem PySem.Spec PyProof.Rows L2
section
variable {X : Cx} {S β : Type} {T : Tie S} {ρ : List Sl} {tg iter elt : Expr} {ifs : List Expr} {scope : Scope} {own : List (Str × Nat)} {sh : Sh} {pr : Bool} {src : M S (List D)} {mb : D → M S (Option D)} {pos spos py : Pos} {rest : List Stmt} {out : β → Oc}
theorem js_asgLc {i : Nat} {y : Str} {f : D → M S β} (hc : X.calm = true) (hN : X.N.Nodup) (hy : X.N[i]? = some y) (hyl : X.env.scope.names.lookup y = some .local) (hi : JI X T tg iter ρ pr src) (ok : BlkOk X.N X.env.scope scope own) (hg : BlkAll X scope fun X' => PGd X' tg sh)
    (hb : JItem sh (wipeS ρ (own.map (·.2))) mb (JEl X T scope elt ifs)) (hr : ∀ d, JS X T rest (ρ.set i (.val d)) (f d) out)
    (hx : ∀ i ∈ sh.ix, i ∈ own.map (·.2) := by decide) (ho : ifsOk ifs = true := by rfl) (ht : tupOk tg sh = true := by rfl) (hs : ∀ x, foldedSetIterable iter X.env x = pure x := by intro _; rfl)
    (hk : X.env.scope.kind = .function := by rfl) (hl : (py.line == pos.line) = true := by rfl) (ha : (scope.names.any fun (n, k) => n == y && (k == .local || k == .cell)) = false := by rfl) :
    JS X T (.Assign [.Name y py] (.ListComp elt [⟨tg, iter, ifs, 0⟩] scope pos) spos :: rest) ρ (B (B src fun ds => B (cmp ds mb) fun out => L (lstD out)) f) out := ⟨fun {σ H F C s b s'} w hm Dn k => by
  obtain ⟨d, s2, hm1, hm2⟩ := B_some hm
  obtain ⟨ds, s1, m1, hm⟩ := B_some hm1
  obtain ⟨o, s3, m2, hm⟩ := B_some hm
  obtain ⟨hq, rfl⟩ := L_some hm
  obtain ⟨hz, rfl⟩ := lstD_some hq
  have e : B src (fun ds => cmp ds mb) s = some (o, s2) := by
    unfold B
    rw [m1]
    exact m2
  refine sSs_of (pss_cons (ps_setLc (g := gSh X.K sh) (tt := tB X scope ifs) (te := gB X scope elt) hc hN hy hyl (L2.sw_true hk hyl hl ha) (pI X tg iter) ok hg (tB_pts ho) (fun s H C cl fp => ⟨fun pins s1 σ F Q I h => h s H C cl fp pins s1 I⟩) hs) (pSs X rest)) ?_
  show tLc (sI X tg iter) (gSh X.K sh) (tB X scope ifs) (gB X scope elt) (own.map (·.2)) σ F (fun v F' => gName i v σ F' fun σ' F'' => sSs X rest Dn σ' F'')
  refine lc_run ht hi hb hx w.ex w.env w.at_ e (by rw [sizeLine_eq] at hz; exact hz) _ fun v H1 F1 st1 a1 r1 => ?_
  have w1 := w.step st1 a1
  exact (hr _).run (w1.set i (sl := .val (.list o)) ⟨v, rfl, r1⟩ fun o => by cases o) hm2 Dn (k.mono st1.hh)⟩
end
end DL

set_option Elab.async false
set_option linter.all false
set_option maxRecDepth 100000
set_option maxHeartbeats 2000000
/-! DLCall: defs by name; the script. -/
namespace DL
open PySem PySem.Spec PyProof.Rows L2
/-- a def's text under its name -/
def Dfn (K : PySem.W.Frag) (mg : Str → Option Value) (x : Str) (st : Stmt) : Prop := mg x = some (.ref (He.ga K x)) ∧ ∃ fd, Fun K x x st (He.ga K x) fd
/-- .. and what it promises -/
def DOk (P : Program) (w : World) (K : PySem.W.Frag) (mg : Str → Option Value) (base : Heap) (k : Nat) (x : Str) (ps : List Str) (sp : Sp) : Prop :=
  mg x = some (.ref (He.ga K x)) ∧ PySem.W.keepIn K (.ref (He.ga K x)) = true ∧ ∃ fd, Binds K fd ps [] ∧ FnOk P w K mg base CX0 k (He.ga K x) fd ps sp
section
variable {P : Program} {w : World} {K : PySem.W.Frag} {mg : Str → Option Value} {base : Heap} {x : Str} {st : Stmt} {N ps : List Str} {k : Nat}
abbrev BindOk (x : Str) (st : Stmt) (ps : List Str) : Prop := ∀ (kV doc pm : Value) (an : Option Addr) (cdv ct : Value) (us : List Value), us.length = ps.length → bindArgs (PySem.W.fnOf x x (defArgs st) (defBody st) (defScope st) .none kV doc pm an cdv ct) ⟨us, []⟩ = pure (ps.zip us)
theorem ok_pure {TT : List (Addr × Str)} {mf : List D → Option D} {mb : List D → M Unit D} (Dn : Dfn K mg x st) (Sc : FnScope N ps (defScope st)) (hbi : BindOk x st ps) (hmf : ∀ ds r, mf ds = some r → ds.length = ps.length ∧ run0 (mb ds) = some r)
    (hb : ∀ ds : List D, ds.length = ps.length → BodyAll P w K mg base N x st (He.ga K x) k fun X => JS X (tie0 TT) (defBody st) (slots0 N (ds.map .val)) (mb ds) Oc.rt) : DOk P w K mg base (k + 1) x ps (spF TT mf) := by
  obtain ⟨h1, fd, F⟩ := Dn
  exact ⟨h1, F.kp, fd, F.binds hbi, fn_pure F Sc hmf hb⟩
theorem ok_pot {TT : List (Addr × Str)} {mf : List D → M Pot D} (Dn : Dfn K mg x st) (Sc : FnScope N ps (defScope st)) (hbi : BindOk x st ps) (hmf : ∀ ds s r s', mf ds s = some (r, s') → ds.length + 1 = ps.length)
    (hb : ∀ (ds : List D) (p : Addr), ds.length + 1 = ps.length → BodyAll P w K mg base N x st (He.ga K x) k fun X => JS X (tieP TT p) (defBody st) (slots0 N (.pot :: ds.map .val)) (mf ds) Oc.rt) : DOk P w K mg base (k + 1) x ps (spP TT mf) := by
  obtain ⟨h1, fd, F⟩ := Dn
  exact ⟨h1, F.kp, fd, F.binds hbi, fn_pot F Sc hmf hb⟩
theorem ok_scr {TT : List (Addr × Str)} {mf : List Int → List D → Option D} {mb : List Int → List D → M Unit D} (Dn : Dfn K mg x st) (Sc : FnScope N ps (defScope st)) (hbi : BindOk x st ps) (hmf : ∀ ns ds r, mf ns ds = some r → ds.length + 1 = ps.length ∧ run0 (mb ns ds) = some r)
    (hb : ∀ (ns : List Int) (ds : List D), ds.length + 1 = ps.length → BodyAll P w K mg base N x st (He.ga K x) k fun X => JS X (tie0 TT) (defBody st) (slots0 N (.scr ns :: ds.map .val)) (mb ns ds) Oc.rt) : DOk P w K mg base (k + 1) x ps (spScr TT K mf) := by
  obtain ⟨h1, fd, F⟩ := Dn
  exact ⟨h1, F.kp, fd, F.binds hbi, fn_scr F Sc hmf hb⟩
/-- a def that returns nothing -/
theorem entry_nx {TT : List (Addr × Str)} {X : Cx} {sts : List Stmt} {sls : List Sl} {mb : M Unit Unit} {ρ' : List Sl} (hJ : JS X (tie0 TT) sts (slots0 N sls) mb (fun _ => Oc.nx ρ')) {vs : List V} {H F : Hp} (hE : Ex H F) (hT : TabsOk TT H F) (hR : Rsl X.K (tie0 TT) H F vs sls) (hm : mb () = some ((), ()))
    (Q : VK) (k : ∀ H' F', StT TT H F H' F' → TabsOk TT H' F' → Q .non F') : sSs X sts { nx := fun _ H' => Q .non H', rt := Q } (L2.start N vs) F := by
  haveI := fun a => Classical.propDecidable (H a = none ∧ ¬ tpt TT a)
  have hC : ∀ a o, (if H a = none ∧ ¬ tpt TT a then F a else none) = some o → F a = some o ∧ H a = none ∧ ¬ tpt TT a := fun a o e => by
    by_cases c : H a = none ∧ ¬ tpt TT a
    · rw [if_pos c] at e
      exact ⟨e, c⟩
    · rw [if_neg c] at e
      cases e
  refine hJ.run (C := fun a => if H a = none ∧ ¬ tpt TT a then F a else none) (H := H) (s := ()) ⟨hE, env0_start hR N, hT, fun a o e => (hC a o e).1, fun a o e => ⟨(hC a o e).2.1, (hC a o e).2.2, fun i sl hi oi => ?_⟩⟩ hm _ ?_
  · rw [slots0_no hR N hi] at oi
    cases oi
  · intro σ' H' F' e1 w'
    refine k H' F' ⟨e1, w'.ex, fun a o nt e => ?_, fun a n1 n2 => ?_, fun a ta _ => w'.at_.hout ta⟩ w'.at_
    · cases c : H a with
      | some u =>
        have z := hE a u c
        rw [e] at z
        cases z
        exact w'.ex _ _ (e1 _ _ c)
      | none => exact w'.cx a o (by show (if H a = none ∧ ¬ tpt TT a then F a else none) = some o; rw [if_pos ⟨c, nt⟩]; exact e)
    · cases c : F a with
      | none => rfl
      | some u =>
        by_cases ta : tpt TT a
        · exact absurd (w'.at_.hout ta) n2
        · exact absurd (w'.cd a u (by show (if H a = none ∧ ¬ tpt TT a then F a else none) = some u; rw [if_pos ⟨n1, ta⟩]; exact c)).1 n2
def mNone (m : M Unit Unit) : Option D := (run0 m).map fun _ => .none
theorem ok_proc {TT : List (Addr × Str)} {mf : List D → Option D} {mb : List D → M Unit Unit} {ρ' : List Sl} (Dn : Dfn K mg x st) (Sc : FnScope N ps (defScope st)) (hbi : BindOk x st ps) (hmf : ∀ ds r, mf ds = some r → ds.length = ps.length ∧ mNone (mb ds) = some r)
    (hb : ∀ ds : List D, ds.length = ps.length → BodyAll P w K mg base N x st (He.ga K x) k fun X => JS X (tie0 TT) (defBody st) (slots0 N (ds.map .val)) (mb ds) (fun _ => Oc.nx ρ')) : DOk P w K mg base (k + 1) x ps (spF TT mf) := by
  obtain ⟨h1, fd, F⟩ := Dn
  refine ⟨h1, F.kp, fd, F.binds hbi, Fun.okC F Sc (fun vs F Q E h => ?_) (fun cdv A outer s F vs Q E hc hr h => ?_)⟩
  · obtain ⟨H, ds, r, _, _, h2, h3, _⟩ := h
    rw [h2.length]
    exact (hmf ds r h3).1
  · obtain ⟨H, ds, r, h1, ht, h2, h3, h4⟩ := h
    obtain ⟨hl, hm⟩ := hmf ds r h3
    unfold mNone at hm
    cases e : run0 (mb ds) with
    | none => rw [e] at hm; cases hm
    | some u =>
      rw [e] at hm
      cases hm
      exact ⟨_, pSs _ _, entry_nx (hb ds hl cdv A outer s F E hc hr) h1 ht h2.sl (run0_some e) Q fun H' F' st t => h4 .non H' F' st t .non⟩
end
section
variable {X : Cx} {S : Type} {T : Tie S} {ρ : List Sl} {m : M S D} {e : Expr} {es : List Expr} {p pos : Pos} {x : Str}
theorem je_callO {k j : Nat} {ps : List Str} {mf : List D → Option D} (o : DOk X.prog X.w X.K X.mg X.base k x ps (spF T.tb mf)) (hr : Room j X.A) (hk : k ≤ j) (hg : Gl X x) (ha : JA X T (e :: es) ρ (fun ds => L (mf ds)) m) (hdb : (x == ("__debug__" : Str)) = false := by decide)
    (he : starEach (e :: es) X.env = (false, eval e X.env) :: starEach es X.env := by rfl) (hpl : (backTo pos (starEach es X.env)).any (·.1) = false := by rfl) : JE X T (.Call (.Name x p) (e :: es) [] pos) ρ m := by
  obtain ⟨h1, h2, fd, h3, h4⟩ := o
  exact je_call h4 (hr.mono hk) hg h1 h2 h3 (E := fun _ _ _ => False) pass0 ha hdb he hpl
theorem je_callPO {TT : List (Addr × Str)} {q : Addr} {k j i : Nat} {ps : List Str} {m : M Pot D} {mf : List D → M Pot D} {y : Str} {pos' : Pos} (o : DOk X.prog X.w X.K X.mg X.base k x ps (spP TT mf)) (hr : Room j X.A) (hk : k ≤ j) (hg : Gl X x) (hN : X.N[i]? = some y) (hv : Vis X.env.scope y) (hρ : ρ[i]? = some .pot) (ha : JA X (tieP TT q) es ρ mf m)
    (hdb : (x == ("__debug__" : Str)) = false := by decide) (hd : (y == ("__debug__" : Str)) = false := by decide) (hcd : (y == ("__classdict__" : Str)) = false := by decide)
    (he : starEach (.Name y pos' :: es) X.env = (false, eval (.Name y pos') X.env) :: starEach es X.env := by rfl) (hpl : (backTo pos (starEach es X.env)).any (·.1) = false := by rfl) : JE X (tieP TT q) (.Call (.Name x p) (.Name y pos' :: es) [] pos) ρ m := by
  obtain ⟨h1, h2, fd, h3, h4⟩ := o
  exact je_callP h4 (hr.mono hk) hg h1 h2 h3 (E := fun _ _ _ => False) pass0 hN hv hρ ha hdb hd hcd he hpl
/-! ### the script -/
theorem je_lenS {ns : List Int} {i : Nat} {y : Str} {py : Pos} (hN : X.N[i]? = some y) (hv : Vis X.env.scope y) (hρ : ρ[i]? = some (.scr ns)) (hg : Gl X "len") (hm : X.mg "len" = none) (hd : (y == ("__debug__" : Str)) = false := by decide) (hcd : (y == ("__classdict__" : Str)) = false := by decide) :
    JE X T (.Call (.Name "len" p) [.Name y py] [] pos) ρ (P (.int ns.length)) := ⟨fun {σ H F s d s'} hE hR hA hm' Q k => by
  obtain ⟨rfl, rfl⟩ := P_some hm'
  obtain ⟨ov, h1, a, rfl, h2, h3⟩ := hR.at_ i _ hρ
  refine sE_of (pe_callB call_len hg hm boot_len (pa_cons (pe_var hN hv hd hcd) pa_nil)) ⟨_, h1, _, ns.length, rfl, .inl ⟨ns.map V.int, h3.sq, by rw [List.length_map]⟩, k _ H F (.refl hE) hA (.int _)⟩⟩
theorem je_ixS {ns : List Int} {i : Nat} {y : Str} {py : Pos} {me : M S D} (hN : X.N[i]? = some y) (hv : Vis X.env.scope y) (hρ : ρ[i]? = some (.scr ns)) (he : JE X T e ρ me) (hs : PlainIx e := by intro _ _; rfl) (hd : (y == ("__debug__" : Str)) = false := by decide) (hcd : (y == ("__classdict__" : Str)) = false := by decide) :
    JE X T (.Subscript (.Name y py) e pos) ρ (B me fun j => L (ixD (.list (ns.map .int)) j)) := ⟨fun {σ H F s d s'} hE hR hA hm' Q k => by
  obtain ⟨j, s1, m1, hm⟩ := B_some hm'
  obtain ⟨hg, rfl⟩ := L_some hm
  obtain ⟨ov, h1, a, rfl, h2, h3⟩ := hR.at_ i _ hρ
  refine sE_of (pe_ix ix_seq (pe_var hN hv hd hcd) (pE X e) hs) ⟨_, h1, he.run hE hR hA m1 _ fun u H2 F2 st2 a2 r2 => ?_⟩
  have hR2 := hR.step st2
  obtain ⟨ov', g1, a', ea, g2, g3⟩ := hR2.at_ i _ hρ
  have ez : a' = a := by
    rw [h1] at g1
    have q := Option.some.inj g1
    rw [ea] at q
    exact (V.ref.inj (Option.some.inj q)).symm
  subst ez
  cases j with
  | int jj =>
    cases r2
    obtain ⟨w, hw, rw'⟩ := (Rps.of_ints (H := H2) ns).atI (i := jj) hg
    exact .inl ⟨a', _, _, w, rfl, rfl, g3.sq, hw, k w H2 F2 st2 a2 rw'⟩
  | _ => cases hg⟩
end
end DL

set_option Elab.async false
set_option linter.all false
set_option maxRecDepth 100000
set_option maxHeartbeats 2000000
/-! DLFor: loops and branches with a named continuation; blocks by a check; slices of the script. -/
namespace DL
open PySem PySem.Spec PyProof.Rows L2
section
variable {S α β : Type}
/-- behind a loop or a branch that may leave -/
def kF (f : α → M S β) (r : D → β) : Fl α → M S β
  | .nx a => f a
  | .rt d => P (r d)
  | .bk _ => fail
theorem kF_eq (f : α → M S β) (r : D → β) : kF f r = (fun
      | .nx a => f a
      | .rt d => P (r d)
      | .bk _ => fail) := by
  funext x
  cases x <;> rfl
variable {X : Cx} {T : Tie S} {ρ : List Sl} {out : β → Oc} {emb : α → List Sl} {a0 : α} {src : M S (List D)} {tg iter c : Expr} {sh : Sh} {rest body b1 b2 : List Stmt} {pos : Pos} {mc : M S Bool}
theorem js_forK {fb : α → D → M S (Fl α)} {f : α → M S β} {r : D → β} (hp : PassesOwn (model X.prog X.w) X.A X.env X.xe) (hc : X.calm = true) (hi : JI X T tg iter ρ true src) (hg : PGd X tg sh) (h0 : Le (emb a0) ρ) (hb : ∀ a, JItem sh (emb a) (fb a) (fun ρ' m' => JS X T body ρ' m' (Fl.oc emb)))
    (hr : ∀ a, JS X T rest (emb a) (f a) out) (ho : ∀ d, out (r d) = .rt d) (hs : ∀ x, foldedSetIterable iter X.env x = pure x := by intro _; rfl) (ht : tupOk tg sh = true := by rfl) :
    JS X T (.For tg iter body [] pos :: rest) ρ (B src fun ds => B (foldF ds a0 fb) (kF f r)) out := by
  rw [show (fun ds => B (foldF ds a0 fb) (kF f r)) = _ from congrArg (fun g => fun ds => B (foldF ds a0 fb) g) (kF_eq f r)]
  exact js_forF hp hc hi hg h0 hb hr ho hs ht
theorem js_ifK {n1 n2 : M S (Fl α)} {f : α → M S β} {r : D → β} (hc : JT X T c ρ mc) (h1 : JS X T b1 ρ n1 (Fl.oc emb)) (h2 : JS X T b2 ρ n2 (Fl.oc emb)) (hr : ∀ a, JS X T rest (emb a) (f a) out) (ho : ∀ d, out (r d) = .rt d) :
    JS X T (.If c b1 b2 pos :: rest) ρ (B mc fun b => B (if b then n1 else n2) (kF f r)) out := by
  rw [show (fun b : Bool => B (if b then n1 else n2) (kF f r)) = _ from congrArg (fun g => fun b : Bool => B (if b then n1 else n2) g) (kF_eq f r)]
  exact js_ifleave hc h1 h2 hr ho
end
/-! ### what is known, written anew -/
section
variable {X : Cx} {S β : Type} {T : Tie S} {ρ : List Sl} {m : M S D} {mt : M S Bool} {mb : M S β} {e : Expr} {sts : List Stmt} {out : β → Oc} {pos : Pos}
theorem js_nf (ρ2 : List Sl) (h : ρ = ρ2) (j : JS X T sts ρ2 mb out) : JS X T sts ρ mb out := h ▸ j
theorem je_nf (ρ2 : List Sl) (h : ρ = ρ2) (j : JE X T e ρ2 m) : JE X T e ρ m := h ▸ j
theorem jt_nf (ρ2 : List Sl) (h : ρ = ρ2) (j : JT X T e ρ2 mt) : JT X T e ρ mt := h ▸ j
/-- a name of a def: its place, its kind -/
structure NmF (sc : Scope) (N : List Str) (i : Nat) (x : Str) : Prop where
  hN : N[i]? = some x
  hv : Vis sc x
  hd : (x == ("__debug__" : Str)) = false
  hcd : (x == ("__classdict__" : Str)) = false
theorem je_nm {i : Nat} {x : Str} {d : D} (h : NmF X.env.scope X.N i x) (hρ : ρ[i]? = some (.val d)) : JE X T (.Name x pos) ρ (P d) := je_name i h.hN h.hv hρ h.hd h.hcd
theorem jv_nm {i : Nat} {x : Str} {ds : List D} (h : NmF X.env.scope X.N i x) (hρ : ρ[i]? = some (.own ds)) : JV X T (.Name x pos) ρ (P (.list ds)) := jv_own i h.hN h.hv hρ h.hd h.hcd
end
/-! ### a block's names, by a check -/
def blkChk (N : List Str) (sc scope : Scope) (own : List (Str × Nat)) : Bool :=
  decide (scope.kind = .function) && (scope.names.all fun y => decide (scope.names.lookup y.1 = some y.2)) && (own.all fun p => decide (N[p.2]? = some p.1)) &&
  (scope.names.all fun y => !decide (y.2 = .free) || decide (sc.names.lookup y.1 = some .cell) || decide (sc.names.lookup y.1 = some .free)) &&
  (scope.names.all fun y => !(decide (y.2 = .local) || decide (y.2 = .cell)) || (own.map (·.1)).contains y.1 || !N.contains y.1)
theorem blk {N : List Str} {sc scope : Scope} {own : List (Str × Nat)} (h : blkChk N sc scope own = true) : BlkOk N sc scope own := by
  unfold blkChk at h
  simp only [Bool.and_eq_true, decide_eq_true_eq, List.all_eq_true, Bool.or_eq_true, Bool.not_eq_true', decide_eq_false_iff_not] at h
  obtain ⟨⟨⟨⟨h1, h2⟩, h3⟩, h4⟩, h5⟩ := h
  refine ⟨h1, h2, h3, fun y hy e => ?_, fun y hy e => ?_⟩
  · rcases h4 y hy with (z | z) | z
    · exact absurd e z
    · exact .inl z
    · exact .inr z
  · rcases h5 y hy with (z | z) | z
    · have z1 := z
      rw [Bool.or_eq_false_iff, decide_eq_false_iff_not, decide_eq_false_iff_not] at z1
      rcases e with e | e
      · exact absurd e z1.1
      · exact absurd e z1.2
    · exact .inl (by simpa using z)
    · exact .inr fun m => by
        have : N.contains y.1 = true := by simpa using m
        rw [this] at z
        cases z
section
variable {X : Cx} {S : Type} {T : Tie S} {ρ : List Sl} {lo hi : Option Expr} {ml mh : M S (Option Int)} {pos p2 py : Pos} {y : Str} {i : Nat} {ns : List Int}
/-- a slice of the script: new -/
theorem je_sliceS (hN : X.N[i]? = some y) (hv : Vis X.env.scope y) (hρ : ρ[i]? = some (.scr ns)) (hl : JO X T lo ρ ml) (hh : JO X T hi ρ mh) (hd : (y == ("__debug__" : Str)) = false := by decide) (hcd : (y == ("__classdict__" : Str)) = false := by decide) :
    JE X T (.Subscript (.Name y py) (.Slice lo hi none p2) pos) ρ (B ml fun l => B mh fun h => L (sliceD (.list (ns.map .int)) l h)) := by
  obtain ⟨tl, pl, hl⟩ := hl
  obtain ⟨th, ph, hh⟩ := hh
  refine ⟨fun {σ H F s d s'} hE hR hA hm Q k => ?_⟩
  obtain ⟨l, s2, m2, hm⟩ := B_some hm
  obtain ⟨h, s3, m3, hm⟩ := B_some hm
  obtain ⟨hg, rfl⟩ := L_some hm
  obtain ⟨ov, h1, a, rfl, h2, h3⟩ := hR.at_ i _ hρ
  refine sE_of (pe_slice sl_list (pe_var hN hv hd hcd) pl ph) ⟨_, h1, hl hE hR hA m2 _ fun H2 F2 st2 a2 => hh st2.hf (hR.step st2) a2 m3 _ fun H3 F3 st3 a3 => ?_⟩
  have st := st2.trans st3
  obtain ⟨ov', g1, a', ea, g2, g3⟩ := (hR.step st).at_ i _ hρ
  have ez : a' = a := by
    rw [h1] at g1
    have q := Option.some.inj g1
    rw [ea] at q
    exact (V.ref.inj (Option.some.inj q)).symm
  subst ez
  cases hg
  refine ⟨a', _, rfl, g3.sq, fun q hq => ?_⟩
  have r : Rps H3 (ns.map V.int) (ns.map PyData.int) := Rps.of_ints ns
  have st4 : Stq H3 F3 (upd H3 q (.lst (cutV (ns.map V.int) l h))) (upd F3 q (.lst (cutV (ns.map V.int) l h))) := .new st3.hf hq fun z => z
  exact k _ _ _ (st.trans (st4.up a3)) (st4.at a3) (.lst upd_same ((r.cut l h).mono st4.hh))
end
end DL

set_option Elab.async false
set_option linter.all false
set_option maxRecDepth 100000
set_option maxHeartbeats 2000000
/-! DLPot: the carried list of three numbers, read and written. -/
namespace DL
open PySem PySem.Spec PyProof.Rows L2
def Pot.list (s : Pot) : List Int := [s.a, s.b, s.c]
def Pot.put (s : Pot) (j : Nat) (v : Int) : Pot := match j with
  | 0 => ⟨v, s.b, s.c⟩
  | 1 => ⟨s.a, v, s.c⟩
  | _ => ⟨s.a, s.b, v⟩
def getP (j : Int) : M Pot D := fun s => match j with
  | 0 => some (.int s.a, s)
  | 1 => some (.int s.b, s)
  | 2 => some (.int s.c, s)
  | _ => none
def putP (j : Int) (d : D) : M Pot Unit := fun s => match d, j with
  | .int v, 0 => some ((), ⟨v, s.b, s.c⟩)
  | .int v, 1 => some ((), ⟨s.a, v, s.c⟩)
  | .int v, 2 => some ((), ⟨s.a, s.b, v⟩)
  | _, _ => none
theorem getP_some {j : Int} {s s' : Pot} {d : D} (h : getP j s = some (d, s')) : s' = s ∧ ∃ v : Int, d = .int v ∧ atI [V.int s.a, V.int s.b, V.int s.c] j = some (.int v) := by
  unfold getP at h
  split at h
  · cases h; exact ⟨rfl, _, rfl, rfl⟩
  · cases h; exact ⟨rfl, _, rfl, rfl⟩
  · cases h; exact ⟨rfl, _, rfl, rfl⟩
  · cases h
theorem putP_some {j : Int} {d : D} {s s' : Pot} {u : Unit} (h : putP j d s = some (u, s')) : ∃ (v : Int) (i : Nat), d = .int v ∧ ixN 3 j = some i ∧ [V.int s.a, V.int s.b, V.int s.c].set i (.int v) = [V.int s'.a, V.int s'.b, V.int s'.c] := by
  unfold putP at h
  split at h
  · cases h; exact ⟨_, 0, rfl, rfl, rfl⟩
  · cases h; exact ⟨_, 1, rfl, rfl, rfl⟩
  · cases h; exact ⟨_, 2, rfl, rfl, rfl⟩
  · cases h
section
variable {X : Cx} {β : Type} {TT : List (Addr × Str)} {q : Addr} {ρ : List Sl} {i : Nat} {y : Str} {py pos p1 p2 pc : Pos} {k0 : Nat} {j : Int} {e : Expr} {me : M Pot D} {rest : List Stmt} {f : M Pot β} {out : β → Oc}
theorem je_ixP (hN : X.N[i]? = some y) (hv : Vis X.env.scope y) (hρ : ρ[i]? = some .pot) (hd : (y == ("__debug__" : Str)) = false := by decide) (hcd : (y == ("__classdict__" : Str)) = false := by decide) (hs : PlainIx (.Constant (.int j) k0 pc) := by intro _ _; rfl) :
    JE X (tieP TT q) (.Subscript (.Name y py) (.Constant (.int j) k0 pc) pos) ρ (getP j) := ⟨fun {σ H F s d s'} hE hR hA hm Q k => by
  obtain ⟨rfl, v, rfl, ha⟩ := getP_some hm
  obtain ⟨ov, h1, a, rfl, h2⟩ := hR.at_ i _ hρ
  have e : a = q := h2
  subst e
  exact sE_of (pe_ix ix_seq (pe_var hN hv hd hcd) pe_int hs) ⟨_, h1, .inl ⟨a, _, j, .int v, rfl, rfl, SqL.of hA.1, ha, k _ H F (.refl hE) hA (.int _)⟩⟩⟩
theorem js_setP (hN : X.N[i]? = some y) (hv : Vis X.env.scope y) (hρ : ρ[i]? = some .pot) (he : JE X (tieP TT q) e ρ me) (hr : JS X (tieP TT q) rest ρ f out)
    (ha : ∀ v, assign (.Subscript (.Name y p1) (.Constant (.int j) k0 pc) p2) X.env v = (do
      let ov ← holding [v] (eval (.Name y p1) X.env)
      let iv ← holding [v, ov] (eval (.Constant (.int j) k0 pc) X.env)
      standAt p2
      holding [v, ov, iv] (setItem ov iv v)
      release [v, ov, iv] []) := by intro _; rfl) (hs : swapsWithSole [.Subscript (.Name y p1) (.Constant (.int j) k0 pc) p2] e pos.line X.env = pure false := by rfl) (hw : swappedStores [.Subscript (.Name y p1) (.Constant (.int j) k0 pc) p2] e X.env = pure none := by rfl)
    (h1 : (assignEach [.Subscript (.Name y p1) (.Constant (.int j) k0 pc) p2] X.env).map (·.2) = [assign (.Subscript (.Name y p1) (.Constant (.int j) k0 pc) p2) X.env] := by rfl) (hd : (y == ("__debug__" : Str)) = false := by decide) (hcd : (y == ("__classdict__" : Str)) = false := by decide) :
    JS X (tieP TT q) (.Assign [.Subscript (.Name y p1) (.Constant (.int j) k0 pc) p2] e pos :: rest) ρ (B me fun d => B (putP j d) fun _ => f) out := ⟨fun {σ H F C s b s'} w hm Dn k => by
  obtain ⟨d, s1, m1, hm1⟩ := B_some hm
  obtain ⟨u, s2, m2, hm2⟩ := B_some hm1
  obtain ⟨v, ix, rfl, hix, hset⟩ := putP_some m2
  refine sSs_of (pss_cons (ps_asg (pE X e) (pg_sub (pe_var hN hv hd hcd) pe_int set_list ha) hs hw h1) (pSs X rest)) (he.run w.ex w.env w.at_ m1 _ fun x H1 F1 st1 a1 r1 => ?_)
  have w1 := w.step st1 a1
  obtain ⟨ov, g1, a, rfl, g2⟩ := w1.env.at_ i _ hρ
  have ea : a = q := g2
  subst ea
  cases r1
  refine ⟨_, g1, a, _, j, ix, rfl, rfl, a1.1, hix, ?_⟩
  rw [hset]
  have st2 : Stp (tieP TT a).pt H1 F1 H1 (upd F1 a (.lst [.int s2.a, .int s2.b, .int s2.c])) := by
    refine ⟨Evl.Ex.refl _, fun b o eb => ?_, fun b o nt eb => ?_, fun b n1 n2 => absurd n1 n2, fun b _ z => z⟩
    · have nb : b ≠ a := fun z => by
        rw [z, a1.2.1] at eb
        cases eb
      rw [upd_ne nb]
      exact w1.ex _ _ eb
    · have nb : b ≠ a := fun z => nt (.inl z)
      rw [upd_ne nb]
      exact eb
  have nt : ¬ tpt TT a := fun z => by
    obtain ⟨ps, q⟩ := a1.2.2.used z
    rw [a1.1] at q
    cases q
  exact hr.run (w1.step st2 ⟨upd_same, a1.2.1, a1.2.2.loc (Evl.Ex.refl _) (fun b t => upd_ne fun z => nt (by rw [← z]; exact t)) fun _ _ z => z⟩) hm2 Dn (k.mono st1.hh)⟩
end
end DL

set_option Elab.async false
set_option linter.all false
set_option maxRecDepth 100000
set_option maxHeartbeats 2000000
/-! DLLaw: a law's outermost def: a new carried list at each place. -/
namespace DL
open PySem PySem.Spec PyProof.Rows L2
/-- a list of three numbers is taken over -/
def potD : D → Option Pot
  | .list [.int a, .int b, .int c] => some ⟨a, b, c⟩
  | _ => none
theorem potD_some {d : D} {s : Pot} (h : potD d = some s) : d = .list [.int s.a, .int s.b, .int s.c] := by
  unfold potD at h
  split at h
  · cases h; rfl
  · cases h
def callS (mf : List Int → List D → Option D) (ns : List Int) : D → Option D
  | .int j => mf ns [.int j]
  | _ => none
theorem callS_some {mf : List Int → List D → Option D} {ns : List Int} {d r : D} (h : callS mf ns d = some r) : ∃ j : Int, d = .int j ∧ mf ns [.int j] = some r := by
  unfold callS at h
  split at h
  · exact ⟨_, rfl, h⟩
  · cases h
def runT (m : M Pot Bool) (s : Pot) : Option Bool := (m s).map (·.1)
theorem runT_some {m : M Pot Bool} {s : Pot} {b : Bool} (h : runT m s = some b) : ∃ s', m s = some (b, s') := by
  unfold runT at h
  cases e : m s with
  | none => rw [e] at h; cases h
  | some r => rw [e] at h; cases h; exact ⟨r.2, rfl⟩
def lawBody (mf : List Int → List D → Option D) (mt : M Pot Bool) (ns : List Int) (d : D) : M Unit (Fl Unit) :=
  B (L (callS mf ns d)) fun r => B (L (potD r)) fun p0 => B (L (runT mt p0)) fun c => if c then P (.rt (.bool false)) else P (.nx ())
/-- the code objects among what is known -/
noncomputable def codesOf (H : Hp) : Hp := fun a => open Classical in if ∃ q, H a = some (LamX.CodeO a q) then H a else none
theorem codesOf_some {H : Hp} {a : Addr} {u : HO} (h : codesOf H a = some u) : H a = some u ∧ ∃ q, u = LamX.CodeO a q := by
  unfold codesOf at h
  split at h
  · rename_i c
    obtain ⟨q, c⟩ := c
    refine ⟨h, q, ?_⟩
    rw [c] at h
    exact (Option.some.inj h).symm
  · cases h
theorem codesOf_of {H : Hp} {a : Addr} {q : Str} (h : H a = some (LamX.CodeO a q)) : codesOf H a = some (LamX.CodeO a q) := by
  unfold codesOf
  rw [if_pos ⟨q, h⟩]
  exact h
/-- .. with another's code objects -/
noncomputable def orC (H H1 : Hp) : Hp := fun a => match H a with
  | some u => some u
  | none => codesOf H1 a
theorem TabsOk.codes {TT : List (Addr × Str)} {H F : Hp} (h : TabsOk TT H F) : TabsOk TT (codesOf H) F := fun q hq => by
  obtain ⟨t1, ps, t2, t3, t4⟩ := h q hq
  refine ⟨?_, ps, t2, t3, fun pos cv hc => ?_⟩
  · cases e : codesOf H q.1 with
    | none => rfl
    | some u =>
      have := (codesOf_some e).1
      rw [t1] at this
      cases this
  · obtain ⟨c, z1, z2⟩ := t4 pos cv hc
    exact ⟨c, z1, codesOf_of z2⟩
section
variable {X : Cx} {TT : List (Addr × Str)} {x : Str} {ns : List Int} {d : D} {k j : Nat} {ps : List Str} {mf : List Int → List D → Option D} {mt : M Pot Bool} {cond : Expr} {p1 p2 p3 p4 p5 p6 p7 p8 pos : Pos} {j0 : Nat}
theorem js_withPot (o : DOk X.prog X.w X.K X.mg X.base k x ps (spScr TT X.K mf)) (hr : Room j X.A) (hk : k ≤ j) (hg : Gl X x) (hN : X.N = (["script", "place", "pot", "lap"] : List Str)) (hnd : X.N.Nodup) (v0 : NmF X.env.scope X.N 0 "script") (v1 : NmF X.env.scope X.N 1 "place") (hl2 : Loc X.env.scope "pot")
    (hj : ∀ q, JT X (tieP TT q) cond [.unk, .unk, .pot, .unk] mt) (hdb : (x == ("__debug__" : Str)) = false := by decide)
    (he1 : starEach [.Name "script" p2, .Name "place" p3] X.env = (false, eval (.Name "script" p2) X.env) :: starEach [.Name "place" p3] X.env := by rfl) (he2 : starEach [.Name "place" p3] X.env = (false, eval (.Name "place" p3) X.env) :: starEach [] X.env := by rfl)
    (hpl : (backTo pos (starEach [.Name "place" p3] X.env)).any (·.1) = false := by rfl) (hs : swapsWith (.Call (.Name x p1) [.Name "script" p2, .Name "place" p3] [] pos) (some (.Name "pot" p4)) p5.line X.env = pure false := by rfl)
    (hf : X.fn "pot" = true ∨ X.env.scope.names.lookup ("pot" : Str) = some .local := by first | exact .inl rfl | exact .inr rfl | assumption) :
    JS X (tie0 TT) [.Assign [.Name "pot" p4] (.Call (.Name x p1) [.Name "script" p2, .Name "place" p3] [] pos) p5, .If cond [.Return (some (.Constant (.bool false) j0 p6)) p8] [] p7] [.scr ns, .val d, .unk, .unk] (lawBody mf mt ns d) (Fl.oc fun _ : Unit => [.scr ns, .unk, .unk, .unk]) := ⟨fun {σ H F C s b s'} w hm Dn kq => by
  obtain ⟨r, s1, m1, hm1⟩ := B_some hm
  obtain ⟨e1, rfl⟩ := L_some m1
  obtain ⟨p0, s2, m2, hm2⟩ := B_some hm1
  obtain ⟨e2, rfl⟩ := L_some m2
  obtain ⟨c, s3, m3, hm3⟩ := B_some hm2
  obtain ⟨e3, rfl⟩ := L_some m3
  obtain ⟨jj, rfl, e4⟩ := callS_some e1
  have er := potD_some e2
  subst er
  obtain ⟨pz, e5⟩ := runT_some e3
  obtain ⟨ov0, g0, a0, rfl, na0, sc0⟩ := w.env.at_ 0 (.scr ns) rfl
  obtain ⟨ov1, g1, vp, rfl, rp⟩ := w.env.at_ 1 (.val (.int jj)) rfl
  cases rp
  obtain ⟨o1, o2, fd, o3, o4⟩ := o
  have hN2 : X.N[2]? = some ("pot" : Str) := by rw [hN]; rfl
  have hsl : σ.length = 4 := by rw [← w.env.len]; rfl
  refine sSs_of (pss_cons (ps_set (i := 2) hnd hN2 hl2 (pe_call o4 (hr.mono hk) hg o1 o2 o3 .nil (E := fun _ _ _ => False) pass0 (pa_cons (pe_var v0.hN v0.hv v0.hd v0.hcd) (pa_cons (pe_var v1.hN v1.hv v1.hd v1.hcd) pa_nil he2) he1) hdb he1 hpl) hs hf) (pss_one (ps_if (pT X cond) (pss_one (ps_ret pe_bl)) pss_nil))) ?_
  refine ⟨_, g0, _, g1, ?_⟩
  show spScr TT X.K mf ([V.ref a0, V.int jj] ++ []) F (fun x H1 => gName 2 x σ H1 fun σ' H' => tIfS (sT X cond) (tRet (tC (V.bl false))) tNext Dn σ' H') fun _ _ _ => False
  rw [List.append_nil]
  refine ⟨a0, [.int jj], ns, codesOf H, [.int jj], _, rfl, na0, sc0, fun a u z => w.ex _ _ (codesOf_some z).1, TabsOk.codes w.at_, Rps.cons (.int _) .nil, e4, fun v H1 F1 st tb1 rv => ?_⟩
  obtain ⟨p, vs, rfl, hp, rvs⟩ := rv.list_inv
  have ev : vs = [V.int p0.a, V.int p0.b, V.int p0.c] := rvs.ints (ns := [p0.a, p0.b, p0.c])
  subst ev
  have F1p : F1 p = some (.lst [V.int p0.a, V.int p0.b, V.int p0.c]) := st.hf _ _ hp
  have npt : ¬ tpt TT p := fun z => by
    obtain ⟨ps, q⟩ := tb1.used z
    rw [F1p] at q
    cases q
  have C0 : codesOf H p = none := by
    cases e : codesOf H p with
    | none => rfl
    | some u =>
      obtain ⟨_, q, z⟩ := codesOf_some e
      have z2 := st.hh _ _ e
      rw [hp, z] at z2
      cases z2
  have fp : F p = none := st.fr p C0 (by rw [hp]; simp)
  have Hp0 : H p = none := Evl.fresh_back w.ex fp
  have sc1 : ScrR X.K F1 a0 ns := sc0.ex fun _ _ z => st.ff _ _ na0 z
  have exH : Ex H (orC H H1) := fun a u z => by
    unfold orC
    rw [z]
  have h1p : orC H H1 p = none := by
    unfold orC
    rw [Hp0]
    show codesOf H1 p = none
    cases e : codesOf H1 p with
    | none => rfl
    | some u =>
      obtain ⟨e1, q, z⟩ := codesOf_some e
      rw [hp, z] at e1
      cases e1
  have orE : ∀ a u, orC H H1 a = some u → H a = some u ∨ (H a = none ∧ codesOf H1 a = some u) := fun a u z => by
    unfold orC at z
    cases e : H a with
    | some t => rw [e] at z; exact .inl z
    | none => rw [e] at z; exact .inr ⟨rfl, z⟩
  have exF : Ex (orC H H1) F1 := fun a u z => by
    rcases orE a u z with z | ⟨_, z⟩
    · exact st.ff _ _ (fun t => by
        have := w.at_.hout t
        rw [z] at this
        cases this) (w.ex _ _ z)
    · exact st.hf _ _ (codesOf_some z).1
  have tb1' : TabsOk TT (orC H H1) F1 := fun q hq => by
    obtain ⟨t1, ps, t2, t3, t4⟩ := tb1 q hq
    refine ⟨?_, ps, t2, t3, fun pos cv hc => ?_⟩
    · unfold orC
      rw [(w.at_ q hq).1]
      show codesOf H1 q.1 = none
      cases e : codesOf H1 q.1 with
      | none => rfl
      | some u =>
        have := (codesOf_some e).1
        rw [t1] at this
        cases this
    · obtain ⟨c, z1, z2⟩ := t4 pos cv hc
      refine ⟨c, z1, ?_⟩
      have zc : codesOf H1 c = some (LamX.CodeO c q.2) := codesOf_of z2
      unfold orC
      cases e : H c with
      | none => exact zc
      | some t =>
        show some t = some (LamX.CodeO c q.2)
        cases e0 : codesOf H c with
        | some t' =>
          have z3 := (codesOf_some e0).1
          rw [e] at z3
          cases z3
          exact (st.hh _ _ e0).symm.trans z2
        | none =>
          have z3 := st.fr c e0 (by rw [z2]; simp)
          rw [w.ex _ _ e] at z3
          cases z3
  have w1 : Wo X.K (tie0 TT) C [.scr ns, .val (.int jj), .unk, .unk] σ () (orC H H1) F1 := by
    refine w.step ⟨exH, exF, st.ff, fun a n1 n2 => ?_, fun a t n => (tb1'.hout t)⟩ tb1'
    cases e : orC H H1 a with
    | none => exact absurd e n2
    | some u =>
      rcases orE a u e with z | ⟨_, z⟩
      · rw [n1] at z; cases z
      · refine st.fr a ?_ (by rw [(codesOf_some z).1]; simp)
        cases e0 : codesOf H a with
        | none => rfl
        | some t =>
          have := (codesOf_some e0).1
          rw [n1] at this
          cases this
  show sT X cond (σ.set 2 (some (V.ref p))) F1 fun c H' => if c = true then (tRet (tC (V.bl false))) Dn (σ.set 2 (some (V.ref p))) H' else tNext Dn (σ.set 2 (some (V.ref p))) H'
  refine (hj p).run (H := orC H H1) (F := F1) (s := p0) (σ := σ.set 2 (some (V.ref p))) exF ⟨by rw [List.length_set, hsl]; rfl, fun i sl hi => ?_, fun i i' sl sl' q hii hi oi _ _ _ => ?_⟩ ⟨F1p, h1p, tb1'⟩ e5 _ fun H3 F3 st3 at3 => ?_
  · match i, hi with
    | 0, hi => cases hi; exact ⟨_, by rw [List.getElem?_set_ne (by decide)]; exact g0, trivial⟩
    | 1, hi => cases hi; exact ⟨_, by rw [List.getElem?_set_ne (by decide)]; exact g1, trivial⟩
    | 2, hi => cases hi; exact ⟨_, by rw [List.getElem?_set_self (by omega)], p, rfl, rfl⟩
    | 3, hi => cases hi; exact ⟨_, by rw [List.getElem?_set_ne (by decide)]; exact List.getElem?_eq_getElem (by omega), trivial⟩
    | n + 4, hi => cases hi
  · match i, hi with
    | 0, hi => cases hi; cases oi
    | 1, hi => cases hi; cases oi
    | 2, hi => cases hi; cases oi
    | 3, hi => cases hi; cases oi
    | n + 4, hi => cases hi
  have cx3 : Ex C F3 := fun a u z => by
    have q1 := w1.cx _ _ z
    have na : a ≠ p := fun q => by
      rw [q] at z
      rw [w.cx _ _ z] at fp
      cases fp
    refine st3.ff _ _ (fun q => ?_) q1
    rcases q with q | q
    · exact na q
    · exact (w1.cd a u z).2.1 q
  have cd3 : ∀ a u, C a = some u → H3 a = none := fun a u z => by
    cases q : H3 a with
    | none => rfl
    | some t =>
      have y := st3.fr a (w1.cd a u z).1 (by rw [q]; simp)
      rw [w1.cx _ _ z] at y
      cases y
  have sc3 : ScrR X.K F3 a0 ns := sc1.ex fun ob u z => by
    refine st3.ff _ _ (fun q => ?_) z
    rcases q with q | q
    · rw [q, F1p] at z
      cases z
    · exact na0 q
  have tb3 : TabsOk TT H3 F3 := at3.2.2
  cases c with
  | true =>
    obtain ⟨rfl, rfl⟩ := P_some (show P (Fl.rt (PyData.bool false)) _ = some (b, s') from hm3)
    exact kq (.bl false) H3 F3 (exH.trans st3.hh) st3.hf tb3 cx3 (fun a u z => ⟨cd3 a u z, (w.cd a u z).2.1⟩) (.bl false)
  | false =>
    obtain ⟨rfl, rfl⟩ := P_some (show P (Fl.nx ()) _ = some (b, s') from hm3)
    refine kq _ H3 F3 (exH.trans st3.hh) ⟨st3.hf, ⟨by rw [List.length_set, hsl]; rfl, fun i sl hi => ?_, fun i i' sl sl' q hii hi oi _ _ _ => ?_⟩, tb3, cx3, fun a u z => ⟨cd3 a u z, (w.cd a u z).2.1, fun i sl hi oi => ?_⟩⟩
    · match i, hi with
      | 0, hi => cases hi; exact ⟨_, by rw [List.getElem?_set_ne (by decide)]; exact g0, a0, rfl, na0, sc3⟩
      | 1, hi => cases hi; exact ⟨_, by rw [List.getElem?_set_ne (by decide)]; exact g1, trivial⟩
      | 2, hi => cases hi; exact ⟨_, by rw [List.getElem?_set_self (by omega)], trivial⟩
      | 3, hi => cases hi; exact ⟨_, by rw [List.getElem?_set_ne (by decide)]; exact List.getElem?_eq_getElem (by omega), trivial⟩
      | n + 4, hi => cases hi
    · match i, hi with
      | 0, hi => cases hi; cases oi
      | 1, hi => cases hi; cases oi
      | 2, hi => cases hi; cases oi
      | 3, hi => cases hi; cases oi
      | n + 4, hi => cases hi
    · match i, hi with
      | 0, hi => cases hi; cases oi
      | 1, hi => cases hi; cases oi
      | 2, hi => cases hi; cases oi
      | 3, hi => cases hi; cases oi
      | n + 4, hi => cases hi⟩
/-- the script given to a def that takes it -/
theorem je_callSO {S : Type} {T : Tie S} {ρ : List Sl} {m : M S D} {i : Nat} {y : Str} {pos' p : Pos} {es : List Expr} (o : DOk X.prog X.w X.K X.mg X.base k x ps (spScr T.tb X.K mf)) (hr : Room j X.A) (hk : k ≤ j) (hg : Gl X x) (hv : NmF X.env.scope X.N i y) (hρ : ρ[i]? = some (.scr ns)) (ha : JA X T es ρ (fun ds => L (mf ns ds)) m)
    (hdb : (x == ("__debug__" : Str)) = false := by decide)
    (he : starEach (.Name y pos' :: es) X.env = (false, eval (.Name y pos') X.env) :: starEach es X.env := by rfl) (hpl : (backTo pos (starEach es X.env)).any (·.1) = false := by rfl) : JE X T (.Call (.Name x p) (.Name y pos' :: es) [] pos) ρ m := ⟨fun {σ H F s d s'} hE hR hA hm' Q kq => by
  obtain ⟨h1, h2, fd, h3, h4⟩ := o
  refine sE_of (pe_call h4 (hr.mono hk) hg h1 h2 h3 .nil (E := fun _ _ _ => False) pass0 (pa_cons (pe_var hv.hN hv.hv hv.hd hv.hcd) (pA X es) he) hdb he hpl) ?_
  obtain ⟨ov, g1, a, rfl, g2, g3⟩ := hR.at_ i _ hρ
  refine ⟨_, g1, ha.run hE hR hA hm' _ fun vs ds s1 H1 F1 st1 a1 r1 hk' => ?_⟩
  obtain ⟨hg', rfl⟩ := L_some hk'
  show spScr T.tb X.K mf ((V.ref a :: vs) ++ []) F1 Q _
  rw [List.append_nil]
  obtain ⟨ov', g4, a', ea, g5, g6⟩ := (hR.step st1).at_ i _ hρ
  have ez : a' = a := by
    rw [g1] at g4
    have q := Option.some.inj g4
    rw [ea] at q
    exact (V.ref.inj (Option.some.inj q)).symm
  subst ez
  exact ⟨a', vs, ns, H1, ds, d, rfl, fun z => g5 (T.tsub _ z), g6, st1.hf, T.tabs _ _ _ a1, r1, hg', fun v H2 F2 st2 t2 r2 => kq v H2 F2 (st1.trans (T.upT a1 st2)) (T.part _ _ _ _ _ a1 st2 t2) r2⟩⟩
end
/-- the end: the promise of `law` at the script -/
theorem scr_of {K : PySem.W.Frag} {H : Hp} {a : Addr} {ns : List Int} (hO : Only H) (h : SqL K H a (ns.map V.int)) : ScrR K H a ns := by
  rcases h with h | h
  · rcases h with h | h
    · rcases hO a with z | ⟨o, xs, z⟩
      · rw [z] at h; cases h
      · rw [z] at h; cases h
    · exact .inl h
  · exact .inr h
end DL

set_option Elab.async false
set_option linter.all false
set_option maxRecDepth 100000
set_option maxHeartbeats 2000000
/-! DLWh: while, in the form that the printer writes. -/
namespace DL
open PySem PySem.Spec PyProof.Rows L2
section
variable {X : Cx} {S α β : Type} {T : Tie S} {ρ : List Sl} {out : β → Oc} {emb : α → List Sl} {a0 : α} {c : Expr} {rest body : List Stmt} {pos : Pos}
theorem js_whileK {fb : α → M S (Fl α)} {tb : α → M S Bool} {f : α → M S β} {r : D → β} {n : Nat} (hp : PassesOwn (model X.prog X.w) X.A X.env X.xe) (h0 : Le (emb a0) ρ) (ht : ∀ a, JT X T c (emb a) (tb a)) (hb : ∀ a, JS X T body (emb a) (fb a) (Fl.oc emb))
    (hr : ∀ a, JS X T rest (emb a) (f a) out) (ho : ∀ d, out (r d) = .rt d) :
    JS X T (.While c body [] pos :: rest) ρ (B (whileF n a0 tb fb) (kF f r)) out := by
  rw [kF_eq f r]
  exact js_whileF hp h0 ht hb hr ho
end
/-! ### repr of a bool -/
def reprL : List D → Option D
  | [.bool b] => some (.str (if b then "True" else "False"))
  | _ => none
section
variable {X : Cx}
theorem call_repr_b : CallR X (.builtin "repr") (fun xs H Q => ∃ b, xs = [.bl b] ∧ Q (.str (if b then "True" else "False")) H) := by
  intro pins s σ H xs us Q I r h
  obtain ⟨b, rfl, q⟩ := h
  obtain ⟨u, rfl, rfl⟩ := vals1 r
  exact PySem.P.repr_of_bool ⟨.str _, H, I.tok _, ⟨_, rfl⟩, q⟩
theorem cd_repr : CallD X (.builtin "repr") reprL := ⟨_, call_repr_b, fun T H F vs ds d Q hE r h k => by
  unfold reprL at h
  split at h
  · cases h
    obtain ⟨v, rfl, r1⟩ := r.one
    have r1 := r1.full hE
    cases r1
    exact ⟨_, rfl, k _ H F (.refl hE) (.str _)⟩
  · cases h⟩
end
end DL

set_option Elab.async false
set_option linter.all false
set_option maxRecDepth 100000
set_option maxHeartbeats 2000000
/-! DLSort: sorted of a list of data. -/
namespace DL
open PySem PySem.Spec PyProof.Rows L2
def isTup1 : D → Bool
  | .tuple (_ :: _) => true
  | _ => false
def notTN : D → Bool
  | .none => false
  | .tuple _ => false
  | _ => true
def sortOk (xs : List D) : Bool := (xs.all fun x => xs.all fun y => PySem.W.alike x y) && (xs.all isTup1 || xs.all notTN) && PyData.plainAll xs && decide (PyData.depthAll xs ≤ 40)
theorem sortOk_some {xs : List D} (h : sortOk xs = true) : PySem.W.AllAlike xs ∧ PySem.W.Sortable xs ∧ PyData.plainAll xs = true ∧ PyData.depthAll xs ≤ 40 := by
  unfold sortOk at h
  simp only [Bool.and_eq_true, Bool.or_eq_true, decide_eq_true_eq, List.all_eq_true] at h
  refine ⟨h.1.1.1, ?_, h.1.2, h.2⟩
  rcases h.1.1.2 with z | z
  · refine .inl fun d hd => ?_
    have := z d hd
    unfold isTup1 at this
    split at this
    · exact ⟨_, _, rfl⟩
    · cases this
  · refine .inr fun d hd => ⟨fun e => ?_, fun ys e => ?_⟩
    · have := z d hd
      rw [e] at this
      cases this
    · have := z d hd
      rw [e] at this
      cases this
/-- the list in order -/
def srtD (xs : List D) : List D := xs.mergeSort (PySem.W.dataLe false fun d => d)
section
variable {X : Cx}
def rSortedG (K : PySem.W.Frag) : List V → Hp → VK → Prop := fun xs H Q => ∃ (a : Addr) (vs : List V) (ds : List D), xs = [.ref a] ∧ SqL K H a vs ∧ DpAll K H vs ds ∧ vs.length = ds.length ∧ sortOk ds = true ∧
  ∀ (ps : List (V × D)) (p : Addr), ps.Perm (vs.zip ds) → ps.map (·.2) = srtD ds → H p = none → Q (.ref p) (upd H p (.lst (ps.map (·.1))))
theorem zip_vals : ∀ {vs : List V} {ds : List D} {its : List Value}, Vals vs its → vs.length = ds.length → PySem.W.EachIs (fun (u : Value) (p : V × D) => RelV p.1 u) its (vs.zip ds)
  | [], [], _, r, _ => by
    cases r
    exact .nil
  | v :: vs, d :: ds, _, r, h => by
    cases r with
    | cons h1 h2 => exact .cons h1 (zip_vals h2 (by simpa using h))
  | [], _ :: _, _, _, h => by cases h
  | _ :: _, [], _, _, h => by cases h
theorem each_vals : ∀ {its : List Value} {ps : List (V × D)}, PySem.W.EachIs (fun (u : Value) (p : V × D) => RelV p.1 u) its ps → Vals (ps.map (·.1)) its
  | _, _, .nil => .nil
  | _, _, .cons h t => .cons h (each_vals t)
theorem depth_in : ∀ {xs : List D} {d : D}, d ∈ xs → d.depth ≤ PyData.depthAll xs
  | x :: xs, d, h => by
    rw [PyData.depthAll]
    rcases List.mem_cons.mp h with rfl | h
    · omega
    · have := depth_in h
      omega
theorem cr_sortedG (hu : X.A.units + 64 < cLine) : CallR X (.builtin "sorted") (rSortedG X.K) := by
  intro pins s σ H xs us Q I r h
  obtain ⟨p, vs, ds, rfl, hs, ha, hl, ok, q⟩ := h
  obtain ⟨k1, k2, k3, k4⟩ := sortOk_some ok
  rw [Vals.ref1 r]
  obtain ⟨its, rv, pl, hz⟩ := I.list hs
  obtain ⟨as, hr⟩ := Dp.readsAll I _ vs its ha rv
  have hsnd : (vs.zip ds).map (fun p => p.2) = ds := List.map_snd_zip (by omega)
  have hlz : (vs.zip ds).length = ds.length := by rw [List.length_zip]; omega
  refine PySem.W.sorted_data (enc := fun p : V × D => p.2) (R := fun u p => RelV p.1 u) pl.isList (zip_vals rv hl) (PySem.W.readsAll_each _ (by rw [hsnd]; exact hr)) (by rw [hsnd]; exact k1) (by rw [hsnd]; exact k2) (by rw [hlz, ← hl]; exact hz) (fun b hb => ?_) fun out h1 h2 => ?_
  · have : b.2 ∈ ds := by rw [← hsnd]; exact List.mem_map_of_mem hb
    have := depth_in this
    show X.A.units + 2 + b.2.depth < cLine
    omega
  · obtain ⟨ep, he'⟩ := PyProof.Rows.sortedAll_at s.heap its out.toArray
    have hp := List.mergeSort_perm (vs.zip ds) (PySem.W.dataLe false fun p : V × D => p.2)
    have hlen : (((vs.zip ds).mergeSort (PySem.W.dataLe false fun p : V × D => p.2)).map (·.1)).length ≤ sizeLine := by
      rw [List.length_map, hp.length_eq, hlz, ← hl]
      exact hz
    refine ⟨.ref _, upd H (s.heap.objs.size + 1) (.lst _), I.laid (t' := s.toks) (fun _ _ => PyProof.Rows.sortedAll_old) (Nat.le_succ _) ⟨hlen, out, ep, each_vals h2, he'⟩, rfl, q _ _ hp ?_ (I.hok.fresh (Nat.le_succ _))⟩
    refine (PySem.W.sort_maps (s := PySem.W.dataLe false fun d : D => d) (fun p : V × D => p.2) (fun _ _ _ _ => rfl)).trans ?_
    rw [hsnd]
    rfl
def sortedG : List D → Option D
  | [.list xs] => if sortOk xs then some (.list (srtD xs)) else none
  | _ => none
theorem rps_pairs {H : Hp} : ∀ {ps : List (V × D)}, (∀ p ∈ ps, Rp H p.1 p.2) → Rps H (ps.map (·.1)) (ps.map (·.2))
  | [], _ => .nil
  | p :: ps, h => .cons (h p List.mem_cons_self) (rps_pairs fun q hq => h q (List.mem_cons_of_mem _ hq))
theorem rps_zip {H : Hp} : ∀ {vs : List V} {ds : List D}, Rps H vs ds → ∀ p ∈ vs.zip ds, Rp H p.1 p.2
  | _, _, .nil, p, h => by cases h
  | _, _, .cons a b, p, h => by
    rcases List.mem_cons.mp h with rfl | h
    · exact a
    · exact rps_zip b p h
theorem cd_sortedG (hu : X.A.units + 64 < cLine) : CallD X (.builtin "sorted") sortedG := ⟨_, cr_sortedG hu, fun T H F vs ds d Q hE r h k => by
  unfold sortedG at h
  split at h
  · rename_i xs
    split at h
    · rename_i ok
      cases h
      obtain ⟨v, rfl, rv⟩ := r.one
      obtain ⟨a, ws, rfl, rw', hh⟩ := rv.seq (K := X.K) hE (ds := _) rfl
      rcases hh with ⟨_, hh⟩ | ⟨z, _⟩
      · refine ⟨a, ws, xs, rfl, SqL.of hh, (rw'.mono hE).dp (sortOk_some ok).2.2.1, rw'.length, ok, fun ps p h1 h2 hp => ?_⟩
        have st : Stq H F (upd H p (.lst (ps.map (·.1)))) (upd F p (.lst (ps.map (·.1)))) := .new hE hp fun z => z
        refine k _ _ _ st (.lst upd_same ?_)
        have r2 := rps_pairs (H := H) (ps := ps) fun q hq => rps_zip rw' q (h1.mem_iff.mp hq)
        rw [h2] at r2
        exact r2.mono st.hh
      · cases z
    · cases h
  · cases h⟩
end
end DL

set_option Elab.async false
set_option linter.all false
set_option maxRecDepth 100000
set_option maxHeartbeats 2000000
/-! DLLam: lambdas of plain bodies: what such a body is worth, over the bare heap. -/
namespace DL
open PySem PySem.Spec PyProof.Rows L2
/-! ### lambda bodies, over the bare heap -/
abbrev Kp (h h' : Heap) : Prop := ∀ b o, h.get? b = some o → h'.get? b = some o
/-- a name of the lambda: its own, or a captured one -/
def NameIs (env : Env) (h : Heap) (x : Str) (v : Value) : Prop :=
  (env.kindOf x = some .local ∧ ∃ m, h.Ns env.locals m ∧ m x = some v) ∨ (env.kindOf x = some .free ∧ ∃ c, env.cells.lookup x = some c ∧ h.IsCell c (some v))
theorem NameIs.keeps {env : Env} {h h' : Heap} {x : Str} {v : Value} (n : NameIs env h x v) (k : Kp h h') : NameIs env h' x v := by
  rcases n with ⟨a, m, b, c⟩ | ⟨a, c, b, d⟩
  · exact .inl ⟨a, m, b.keeps k, c⟩
  · exact .inr ⟨a, c, b, d.keeps k⟩
structure LamEnv (mg : Str → Option Value) (env : Env) (ns : List (Str × D)) (h : Heap) : Prop where
  kind : env.scope.kind = .function
  gl : env.globals = mainGlobals
  bl : env.builtins = builtinsNs
  glob : h.Ns mainGlobals mg
  blt : ∃ mb, h.Ns builtinsNs mb ∧ ∀ x : Str, x ≠ "__name__" → mb x = bootBuiltins x
  names : ∀ x d, ns.lookup x = some d → ∃ v as, Reads h v d as ∧ NameIs env h x v
theorem LamEnv.keeps {mg : Str → Option Value} {env : Env} {ns : List (Str × D)} {h h' : Heap} (e : LamEnv mg env ns h) (k : Kp h h') : LamEnv mg env ns h' :=
  ⟨e.kind, e.gl, e.bl, e.glob.keeps k, let ⟨mb, a, b⟩ := e.blt; ⟨mb, a.keeps k, b⟩, fun x d hx => let ⟨v, as, a, b⟩ := e.names x d hx; ⟨v, as, PyProof.Rows.Reads.keeps k a, b.keeps k⟩⟩
/-- the built-ins that a lambda may call are still themselves -/
structure Plain (mg : Str → Option Value) : Prop where
  abs : mg "abs" = none
  len : mg "len" = none
/-- an expression of a lambda's body: what it is worth -/
def LX (ns : List (Str × D)) (sc : Scope) (e : Expr) (m : M Unit D) : Prop :=
  ∀ (d : D), m () = some (d, ()) → ∀ (P : Program) (w : World) (A : Around) (mg : Str → Option Value) (env : Env) (s : Shared) (Q : Value → Shared → Prop) (E : Value → Shared → Prop), LamEnv mg env ns s.heap → env.scope = sc → Plain mg →
    (∀ v h' tk as, Kp s.heap h' → Reads h' v d as → Q v { s with heap := h', toks := tk }) → wpAny (model P w) A (eval e env) Q E s
/-- .. of several -/
def LXs (ns : List (Str × D)) (sc : Scope) (es : List Expr) (k : List D → M Unit D) (m : M Unit D) : Prop :=
  ∀ (d : D), m () = some (d, ()) → ∀ (P : Program) (w : World) (A : Around) (mg : Str → Option Value) (env : Env) (pos : Pos) (s : Shared) (Q : List Value → Shared → Prop) (E : Value → Shared → Prop), LamEnv mg env ns s.heap → env.scope = sc → Plain mg →
    (∀ us h' tk ds as, Kp s.heap h' → ReadsAll h' us ds as → k ds () = some (d, ()) → Q us { s with heap := h', toks := tk }) → wpAny (model P w) A (spliced (backTo pos (starEach es env))) Q E s
section
variable {ns : List (Str × D)} {sc : Scope} {e a b : Expr} {es : List Expr} {m ma mb : M Unit D} {pos p : Pos} {k : List D → M Unit D} {f : D → M Unit D}
theorem Kp.refl (h : Heap) : Kp h h := fun _ _ q => q
theorem lx_nm {x : Str} {d : D} (hx : ns.lookup x = some d) (hd : (x == ("__debug__" : Str)) = false := by decide) (hcd : (x == ("__classdict__" : Str)) = false := by decide) : LX ns sc (.Name x pos) (P d) := by
  intro d' hm P w A mg env s Q E L hs pl q
  obtain ⟨rfl, _⟩ := P_some hm
  obtain ⟨v, as, r, n⟩ := L.names x _ hx
  have fin : Q v s := q v s.heap s.toks as (Kp.refl _) r
  rcases n with ⟨k1, mm, k2, k3⟩ | ⟨k1, c, k2, k3⟩
  · exact wpAny_Name (wpAny_loadName_local L.kind k1 k2 k3 fin) hd
  · exact wpAny_Name (wpAny_loadName_free L.kind k1 k2 k3 fin hcd) hd
theorem lx_int {i : Int} {j : Nat} : LX ns sc (.Constant (.int i) j pos) (P (.int i)) := by
  intro d' hm P w A mg env s Q E L hs pl q
  obtain ⟨rfl, _⟩ := P_some hm
  exact wpAny_Constant_int (q _ s.heap (s.toks + 1) [] (Kp.refl _) (.int _ _))
theorem lx_two (ha : LX ns sc a ma) (hb : LX ns sc b mb) {x y : D} (e1 : ma () = some (x, ())) (e2 : mb () = some (y, ())) {P : Program} {w : World} {A : Around} {mg : Str → Option Value} {env : Env} {s : Shared} {E : Value → Shared → Prop} (L : LamEnv mg env ns s.heap) (hs : env.scope = sc) (pl : Plain mg)
    {R : Value → Value → Shared → Prop} (q : ∀ v u h' tk as bs, Kp s.heap h' → Reads h' v x as → Reads h' u y bs → R v u { s with heap := h', toks := tk }) :
    wpAny (model P w) A (eval a env) (fun v s1 => wpAny (model P w) A (eval b env) (fun u s2 => R v u s2) E s1) E s :=
  ha x e1 P w A mg env s _ E L hs pl fun v h1 t1 as k1 r1 => hb y e2 P w A mg env { s with heap := h1, toks := t1 } _ E (L.keeps k1) hs pl fun u h2 t2 bs k2 r2 =>
    q v u h2 t2 as bs (fun c o z => k2 c o (k1 c o z)) (PyProof.Rows.Reads.keeps k2 r1) r2
theorem lx_sub (ha : LX ns sc a ma) (hb : LX ns sc b mb) : LX ns sc (.BinOp a .Sub b pos) (B ma fun x => B mb fun y => L (subD x y)) := by
  intro d' hm P w A mg env s Q E L hs pl q
  obtain ⟨x, _, m1, hm⟩ := B_some hm
  obtain ⟨y, _, m2, hm⟩ := B_some hm
  obtain ⟨hg, _⟩ := L_some hm
  refine wpAny_BinOp (lx_two ha hb m1 m2 L hs pl (R := fun v u s2 => wpAny (model P w) A (binaryOp .Sub v u) Q E s2) fun v u h' tk as bs kp r1 r2 => ?_)
  cases x with
  | int i =>
    cases y with
    | int j =>
      cases r1
      cases r2
      cases hg
      exact sub_int (q _ h' (tk + 1) [] kp (.int _ _))
    | _ => cases hg
  | _ => cases y <;> cases hg
theorem lx_le (ha : LX ns sc a ma) (hb : LX ns sc b mb) (hm' : behindInMarks .LtE b = false := by rfl) : LX ns sc (.Compare a [.LtE] [b] pos) (B ma fun x => B mb fun y => B (L (leB x y)) fun c => P (.bool c)) := by
  intro d' hm P w A mg env s Q E L hs pl q
  obtain ⟨x, _, m1, hm⟩ := B_some hm
  obtain ⟨y, _, m2, hm⟩ := B_some hm
  obtain ⟨c, hg, hm⟩ := BL_some hm
  obtain ⟨rfl, _⟩ := P_some hm
  refine wpAny_Compare1 (lx_two ha hb m1 m2 L hs pl (R := fun v u s2 => wpAny (model P w) A (compareOp .LtE v u) Q E s2) fun v u h' tk as bs kp r1 r2 => ?_) hm'
  cases x with
  | int i =>
    cases y with
    | int j =>
      cases r1
      cases r2
      cases hg
      exact le_int (q _ h' tk [] kp (.bool _))
    | _ => cases hg
  | _ => cases y <;> cases hg
theorem lx_neg (ha : LX ns sc a ma) : LX ns sc (.UnaryOp .USub a pos) (B ma fun x => L (negD x)) := by
  intro d' hm P w A mg env s Q E L hs pl q
  obtain ⟨x, _, m1, hm⟩ := B_some hm
  obtain ⟨hg, _⟩ := L_some hm
  refine UnaryOp_ (ha x m1 P w A mg env s _ E L hs pl fun v h1 t1 as k1 r1 => ?_)
  cases x with
  | int i =>
    cases r1
    cases hg
    exact neg_int (q _ h1 (t1 + 1) [] k1 (.int _ _))
  | _ => cases hg
theorem lxs_nil : LXs ns sc [] k (k []) := by
  intro d' hm P w A mg env pos s Q E L hs pl q
  exact Calls.spliced_nil (q [] s.heap s.toks [] [] (Kp.refl _) .nil hm)
theorem lxs_cons (ha : LX ns sc e m) (hr : ∀ d, LXs ns sc es (fun ds => k (d :: ds)) (f d)) (hs : ∀ env : Env, starEach (e :: es) env = (false, eval e env) :: starEach es env := by intro _; rfl) : LXs ns sc (e :: es) k (B m f) := by
  intro d' hm P w A mg env pos s Q E L hsc pl q
  obtain ⟨x, _, m1, hm⟩ := B_some hm
  rw [hs]
  show wpAny _ _ (spliced ((false, eval e env) :: backTo pos (starEach es env))) _ _ s
  refine Calls.spliced_cons (ha x m1 P w A mg env s _ E L hsc pl fun v h1 t1 as k1 r1 => ?_)
  refine hr x d' hm P w A mg env pos { s with heap := h1, toks := t1 } _ E (L.keeps k1) hsc pl fun us h2 t2 ds bs k2 r2 hk => ?_
  exact q (v :: us) h2 t2 (x :: ds) (as ++ bs) (fun c o z => k2 c o (k1 c o z)) (.cons (PyProof.Rows.Reads.keeps k2 r1) r2) hk
theorem lx_tup {x1 : Nat} (h : LXs ns sc es (fun ds => L (tupD ds)) m) : LX ns sc (.Tuple es x1 pos) m := by
  intro d' hm P w A mg env s Q E L hsc pl q
  refine wpAny_Tuple_spliced (h d' hm P w A mg env pos s _ E L hsc pl fun us h1 t1 ds as k1 r1 hk => ?_)
  obtain ⟨hg, _⟩ := L_some hk
  obtain ⟨hz, rfl⟩ := tupD_some hg
  have hl : us.length = ds.length := PySem.ReadsAll.lenAny r1
  refine ⟨by rw [hl]; exact hz, ?_⟩
  refine q _ _ _ as (fun b o z => Heap.get?_push_of_some _ (k1 b o z)) ?_
  exact .tuple (Heap.get?_push_size _ rfl) rfl rfl (by simpa using PyProof.Rows.ReadsAll.keeps (fun b o z => Heap.get?_push_of_some _ z) r1)
theorem lx_blt {x : Str} {id : String} (hx : sc.names.lookup x = some .globalImplicit) (hv : bootBuiltins x = some (.builtin id)) (hmg : ∀ mg, Plain mg → mg x = none) (h : LXs ns sc (e :: es) k m)
    (hcall : ∀ (P : Program) (w : World) (A : Around) (s : Shared) (Q : Value → Shared → Prop) (E : Value → Shared → Prop) us ds as d, ReadsAll s.heap us ds as → k ds () = some (d, ()) → (∀ v h' tk bs, Kp s.heap h' → Reads h' v d bs → Q v { s with heap := h', toks := tk }) → wpAny (model P w) A (call (.builtin id) us) Q E s)
    (hn : x ≠ "__name__" := by decide) (hdb : (x == ("__debug__" : Str)) = false := by decide)
    (he : ∀ env : Env, starEach (e :: es) env = (false, eval e env) :: starEach es env := by intro _; rfl) (hpl : ∀ env : Env, (backTo pos (starEach es env)).any (·.1) = false := by intro _; rfl) : LX ns sc (.Call (.Name x p) (e :: es) [] pos) m := by
  intro d' hm P w A mg env s Q E L hsc pl q
  obtain ⟨mb, b1, b2⟩ := L.blt
  refine wpAny_Call_Name_kw (Calls.Name_function_global L.kind (by show env.scope.names.lookup x = _; rw [hsc]; exact hx) (Calls.loadGlobal_builtin (by rw [L.gl]; exact L.glob) (hmg mg pl) (by rw [L.bl]; exact b1) ((b2 x hn).trans hv) ?_) hdb)
  refine PyProof.Rows.callWith_builtin1 (h d' hm P w A mg env pos s _ E L hsc pl fun us h1 t1 ds as k1 r1 hk => ?_) (he env) (hpl env)
  exact hcall P w A { s with heap := h1, toks := t1 } Q E us ds as d' r1 hk fun v h2 t2 bs k2 r2 => q v h2 t2 bs (fun c o z => k2 c o (k1 c o z)) r2
theorem lx_abs (hx : sc.names.lookup ("abs" : Str) = some .globalImplicit) (h : LXs ns sc [a] (fun ds => L (absL ds)) m) (he : ∀ env : Env, starEach [a] env = (false, eval a env) :: starEach [] env := by intro _; rfl) (hpl : ∀ env : Env, (backTo pos (starEach [] env)).any (·.1) = false := by intro _; rfl) : LX ns sc (.Call (.Name "abs" p) [a] [] pos) m := by
  refine lx_blt (id := "abs") hx (by decide +kernel) (fun mg pl => pl.abs) h (fun P w A s Q E us ds as d r hk q => ?_) (by decide) (by decide) he hpl
  obtain ⟨hg, _⟩ := L_some hk
  unfold absL at hg
  split at hg
  · cases hg
    cases r with
    | cons r1 r2 =>
      cases r2
      cases r1
      exact call_abs_int fun u tk => q _ s.heap _ [] (Kp.refl _) (.int _ _)
  · cases hg
/-- len(t), t a tuple -/
def lenB : List D → Option D
  | [.tuple xs] => if xs.length ≤ 16777216 then some (.int xs.length) else none
  | _ => none
theorem lx_len (hx : sc.names.lookup ("len" : Str) = some .globalImplicit) (h : LXs ns sc [a] (fun ds => L (lenB ds)) m) (he : ∀ env : Env, starEach [a] env = (false, eval a env) :: starEach [] env := by intro _; rfl) (hpl : ∀ env : Env, (backTo pos (starEach [] env)).any (·.1) = false := by intro _; rfl) : LX ns sc (.Call (.Name "len" p) [a] [] pos) m := by
  refine lx_blt (id := "len") hx (by decide +kernel) (fun mg pl => pl.len) h (fun P w A s Q E us ds as d r hk q => ?_) (by decide) (by decide) he hpl
  obtain ⟨hg, _⟩ := L_some hk
  unfold lenB at hg
  split at hg
  · split at hg
    · rename_i xs hz
      cases hg
      cases r with
      | cons r1 r2 =>
        cases r2
        cases r1 with
        | @tuple t o vs n _ _ e1 e2 e3 e4 =>
          have hl := PySem.ReadsAll.lenAny e4
          have hs : (vs.size : Int) = xs.length := by rw [← hl]; simp
          refine len_tuple ⟨o, e1, e2, n, e3⟩ (by omega) ?_
          rw [hs]
          exact q _ s.heap _ [] (Kp.refl _) (.int _ _)
    · cases hg
  · cases hg
/-- t[i], t a tuple -/
def ixB : D → D → Option D
  | .tuple xs, .int i => if -1000000 ≤ i ∧ i ≤ 1000000 then L2.atI xs i else none
  | _, _ => none
theorem lx_ix (ha : LX ns sc a ma) (hb : LX ns sc b mb) (hs' : PlainIx b := by intro _ _; rfl) : LX ns sc (.Subscript a b pos) (B ma fun x => B mb fun y => L (ixB x y)) := by
  intro d' hm P w A mg env s Q E L hs pl q
  obtain ⟨x, _, m1, hm⟩ := B_some hm
  obtain ⟨y, _, m2, hm⟩ := B_some hm
  obtain ⟨hg, _⟩ := L_some hm
  refine Subscript_ (lx_two ha hb m1 m2 L hs pl (R := fun v u s2 => wpAny (model P w) A (subscriptTail a b v u) Q E s2) fun v u h' tk as bs kp r1 r2 => ?_)
  cases x with
  | tuple xs =>
    cases y with
    | int i =>
      have hg : (if -1000000 ≤ i ∧ i ≤ 1000000 then L2.atI xs i else none) = some d' := hg
      by_cases hb2 : -1000000 ≤ i ∧ i ≤ 1000000
      · rw [if_pos hb2] at hg
        cases r1 with
        | @tuple t o vs n _ _ e1 e2 e3 e4 =>
          cases r2
          obtain ⟨j, h1, h2, h3, h4, h5⟩ := atI_get hg
          have hl := PySem.ReadsAll.lenAny e4
          have hsz : vs.size = xs.length := by rw [← hl]; simp
          have hj : j < vs.toList.length := by
            have := (List.getElem?_eq_some_iff.mp h2).1
            omega
          have hv : vs.toList[j]? = some vs.toList[j] := List.getElem?_eq_getElem hj
          obtain ⟨cs, g1, g2, _, _⟩ := PySem.W.readsAll_at e4 j _ hv
          have ed : xs.getD j .none = d' := by rw [List.getD_eq_getElem?_getD, h2]; rfl
          rw [ed] at g1
          have it : IsTup ({ s with heap := h', toks := tk } : Shared).heap t vs := ⟨o, e1, e2, n, e3⟩
          refine subscriptTail_builtinR (x := vs.toList[j]) it.typeIs slot_tuple_getitem.lookup
            (getItem_tuple (j := j) (Q := fun r s' => r = vs.toList[j] ∧ Q r s') it (by omega) (by omega) (by rw [hsz]; exact h1) (by rw [← Array.getElem?_toList]; exact hv) ⟨rfl, q _ h' tk cs kp g1⟩) (hs' _ _)
      · rw [if_neg hb2] at hg
        cases hg
    | _ => cases hg
  | _ => cases y <;> cases hg
end
end DL

set_option Elab.async false
set_option linter.all false
set_option maxRecDepth 100000
set_option maxHeartbeats 2000000
/-! DLLam2: a lambda is made; it is called, over the bare heap. -/
namespace DL
open PySem PySem.Spec PyProof.Rows L2
/-! ### a lambda's function object -/
/-- the names of a lambda: its parameters, what it takes from around -/
structure LamSc (scope : Scope) (ps : List Str) (fs : List Str) : Prop where
  kind : scope.kind = .function
  co : scope.isCoroutine = false
  gen : scope.isGenerator = false
  nocell : ∀ y ∈ scope.names, y.2 ≠ .cell
  par : ∀ x ∈ ps, scope.names.lookup x = some .local
  nd : ps.Nodup
  free : ∀ x ∈ fs, scope.names.lookup x = some .free
  all : ∀ y ∈ scope.names, y.2 = .free → y.1 ∈ fs
def lamScB (scope : Scope) (ps fs : List Str) : Bool :=
  decide (scope.kind = .function) && !scope.isCoroutine && !scope.isGenerator && (scope.names.all fun y => !decide (y.2 = .cell)) && (ps.all fun x => decide (scope.names.lookup x = some .local)) && decide ps.Nodup && (fs.all fun x => decide (scope.names.lookup x = some .free)) && (scope.names.all fun y => !decide (y.2 = .free) || fs.contains y.1)
theorem lamSc {scope : Scope} {ps fs : List Str} (h : lamScB scope ps fs = true) : LamSc scope ps fs := by
  unfold lamScB at h
  simp only [Bool.and_eq_true, decide_eq_true_eq, List.all_eq_true, Bool.or_eq_true, Bool.not_eq_true', decide_eq_false_iff_not] at h
  obtain ⟨⟨⟨⟨⟨⟨⟨h1, h2⟩, h3⟩, h4⟩, h5⟩, h6⟩, h7⟩, h8⟩ := h
  exact ⟨h1, h2, h3, h4, h5, h6, h7, fun y hy e => (h8 y hy).elim (fun z => absurd e z) fun z => by simpa using z⟩
/-- the function object at f: what it takes from around is worth so much -/
structure LamFn (mg : Str → Option Value) (h : Heap) (f : Addr) (ps : List Str) (caps : List (Str × D)) (scope : Scope) (body : Expr) : Prop where
  ex : ∃ (qual : Str) (params : Arguments) (clo : List (Str × Addr)) (pm : Value) (c' : Addr) (ctv : Value), h.get? f = some (PySem.W.kla_obj "<lambda>" qual params body scope clo pm c' ctv) ∧ h.CodeRec (.ref c') qual ∧
    (∀ us : List Value, us.length = ps.length → bindArgs (PySem.W.kla_fn "<lambda>" qual params body scope clo pm (.ref c') ctv) ⟨us, []⟩ = pure (ps.zip us)) ∧
    ∀ x d, caps.lookup x = some d → ∃ c v as, clo.lookup x = some c ∧ h.IsCell c (some v) ∧ Reads h v d as
  nl : h.NoLimit
  glob : h.Ns mainGlobals mg
  blt : ∃ mb, h.Ns builtinsNs mb ∧ ∀ x : Str, x ≠ "__name__" → mb x = bootBuiltins x
theorem LamFn.keeps {mg : Str → Option Value} {h h' : Heap} {f : Addr} {ps : List Str} {caps : List (Str × D)} {scope : Scope} {body : Expr} (l : LamFn mg h f ps caps scope body) (k : Kp h h') : LamFn mg h' f ps caps scope body := by
  obtain ⟨⟨qual, params, clo, pm, c', ctv, e1, e2, e3, e4⟩, n, g, mb, b1, b2⟩ := l
  exact ⟨⟨qual, params, clo, pm, c', ctv, k _ _ e1, e2.keeps k, e3, fun x d hx => by
    obtain ⟨c, v, as, h1, h2, h3⟩ := e4 x d hx
    exact ⟨c, v, as, h1, h2.keeps k, PyProof.Rows.Reads.keeps k h3⟩⟩, n.keeps k, g.keeps k, mb, b1.keeps k, b2⟩
theorem look_rev : ∀ {ps : List Str} {us : List Value}, ps.Nodup → us.length = ps.length → ∀ (i : Nat) {x : Str} {u : Value}, ps[i]? = some x → us[i]? = some u → (ps.zip us).reverse.lookup x = some u
  | [], _, _, _, i, _, _, h, _ => by simp at h
  | p :: ps, [], _, h, _, _, _, _, _ => by simp at h
  | p :: ps, v :: us, nd, hl, i, x, u, h1, h2 => by
    rw [List.nodup_cons] at nd
    rw [List.zip_cons_cons, List.reverse_cons, List.lookup_append]
    cases i with
    | zero =>
      have e1 : p = x := by simpa using h1
      have e2 : v = u := by simpa using h2
      subst e1 e2
      have : (ps.zip us).reverse.lookup p = none := by
        rw [List.lookup_eq_none_iff]
        intro y hy
        have hm : y.1 ∈ ps := (List.of_mem_zip (List.mem_reverse.mp hy)).1
        rw [bne_iff_ne]
        intro e
        rw [e] at nd
        exact nd.1 hm
      rw [this]
      simp
    | succ i =>
      have := look_rev (ps := ps) (us := us) nd.2 (by simpa using hl) i (x := x) (u := u) (by simpa using h1) (by simpa using h2)
      rw [this]
      rfl
theorem zip_look : ∀ {ps : List Str} {ds : List D} {x : Str} {d : D}, (ps.zip ds).lookup x = some d → ∃ i : Nat, ps[i]? = some x ∧ ds[i]? = some d
  | [], _, _, _, h => by simp at h
  | p :: ps, [], _, _, h => by simp at h
  | p :: ps, e :: ds, x, d, h => by
    rw [List.zip_cons_cons, List.lookup_cons] at h
    cases hb : x == p with
    | true =>
      rw [hb] at h
      have e1 : x = p := beq_iff_eq.mp hb
      have e2 : e = d := Option.some.inj h
      exact ⟨0, by simp [e1], by simp [e2]⟩
    | false =>
      rw [hb] at h
      obtain ⟨i, h1, h2⟩ := zip_look h
      exact ⟨i + 1, by simpa using h1, by simpa using h2⟩
theorem readsAll_get {h : Heap} : ∀ {vs : List Value} {ds : List D} {as : List Addr}, ReadsAll h vs ds as → ∀ (i : Nat) {d : D}, ds[i]? = some d → ∃ v bs, vs[i]? = some v ∧ Reads h v d bs
  | _, _, _, .nil, i, d, e => by simp at e
  | _, _, _, .cons r _, 0, d, e => by
    cases e
    exact ⟨_, _, rfl, r⟩
  | _, _, _, .cons _ rs, i + 1, d, e => by
    obtain ⟨v, bs, h1, h2⟩ := readsAll_get rs i (by simpa using e)
    exact ⟨v, bs, by simpa using h1, h2⟩
/-- the lambda is called -/
theorem lam_run {P : Program} {w : World} {A : Around} {mg : Str → Option Value} {f : Addr} {ps : List Str} {caps : List (Str × D)} {fs : List Str} {scope : Scope} {body : Expr} {s : Shared} {us : List Value} {ds : List D} {as : List Addr} {m : M Unit D} {d : D} {Q : Value → Shared → Prop} {E : Value → Shared → Prop}
    (l : LamFn mg s.heap f ps caps scope body) (S : LamSc scope ps fs) (pl : Plain mg) (hx : LX (ps.zip ds ++ caps) scope body m) (hm : m () = some (d, ())) (hc : ∀ x d, caps.lookup x = some d → x ∈ fs) (r : ReadsAll s.heap us ds as) (hl : ds.length = ps.length) (hroom : A.depth < recursionLimit)
    (q : ∀ v h' tk bs, Kp s.heap h' → Reads h' v d bs → Q v { s with heap := h', toks := tk }) : wpAny (model P w) A (call (.ref f) us) Q E s := by
  obtain ⟨⟨qual, params, clo, pm, c', ctv, e1, e2, e3, e4⟩, nl, gl, mb, b1, b2⟩ := l
  have hul : us.length = ps.length := (PySem.ReadsAll.lenAny r).trans hl
  have bd := e3 us hul
  refine wpAny_call (codeAny_mono (R := fun r s' => ∃ v h' tk bs, r = .ok (.ret v) ∧ s' = { s with heap := h', toks := tk } ∧ Kp s.heap h' ∧ Reads h' v d bs) ?_ fun r s' hq => ?_)
  · refine PySem.W.kla_callFunE hroom e1 rfl S.co S.gen rfl e2 ?_
    rw [bd]
    refine wpAny_pure (wpAny_newFunctionEnv S.nocell (fun y hy => S.par _ (List.of_mem_zip hy).1) (fun h₁ hns hsb => ⟨nl.fresh _ hsb, ?_⟩) S.kind)
    show codeAny _ _ (.expr body (PySem.W.envX qual scope s.heap.objs.size f (.ref c') clo)) _ _
    have kp : Kp s.heap h₁ := fun b o e => hsb.extBut b o (Nat.ne_of_lt (Heap.lt_size e)) (Heap.get?_push_of_some _ e)
    refine PySem.W.kla_codeExpr (hx d hm P w _ mg _ { s with heap := h₁, toks := s.toks + (ps.zip us).length } _ _ ⟨S.kind, rfl, rfl, gl.keeps kp, ⟨mb, b1.keeps kp, b2⟩, fun x dx hxd => ?_⟩ rfl pl fun v h' tk bs k2 r2 => ?_)
    · rw [List.lookup_append] at hxd
      cases hz : (ps.zip ds).lookup x with
      | some d1 =>
        rw [hz] at hxd
        have ed : d1 = dx := Option.some.inj hxd
        subst ed
        obtain ⟨i, i1, i2⟩ := zip_look hz
        obtain ⟨v, bs, v1, v2⟩ := readsAll_get r i i2
        exact ⟨v, bs, PyProof.Rows.Reads.keeps kp v2, .inl ⟨S.par _ (List.mem_of_getElem? i1), _, hns, look_rev S.nd hul i i1 v1⟩⟩
      | none =>
        rw [hz] at hxd
        have hxd : caps.lookup x = some dx := hxd
        obtain ⟨c, v, bs, c1, c2, c3⟩ := e4 x dx hxd
        exact ⟨v, bs, PyProof.Rows.Reads.keeps kp c3, .inr ⟨S.free _ (hc _ _ hxd), c, c1, c2.keeps kp⟩⟩
    · exact ⟨v, h', tk, bs, rfl, rfl, fun b o e => k2 b o (kp b o e), r2⟩
  · obtain ⟨v, h', tk, bs, rfl, rfl, k, r2⟩ := hq
    exact q v h' tk bs k r2
/-! ### a lambda is made -/
/-- what the making of lambdas in a def asks: its code object and the table of it -/
structure LamD (K : PySem.W.Frag) (mg : Str → Option Value) (base : Heap) (TT : List (Addr × Str)) (x : Str) (q : Str) : Prop where
  tab : ∃ P, LamX.TabB base mg (He.codeOf K (x, none)) P ∧ (P, q) ∈ TT ∧ ∀ p ∈ TT, p.1 = P → p.2 = q
theorem CodeAt.ref {K : PySem.W.Frag} {x q : Str} {cdv : Value} (h : CodeAt K (He.ga K x) cdv q) : cdv = .ref (He.codeOf K (x, none)) := by
  obtain ⟨⟨oc, od, fd, osl, lk, e⟩, hc⟩ := h
  obtain ⟨c, rfl⟩ := He.codeIn_ref hc
  rw [He.codeOf_eq (p := (x, none)) (by exact lk) e]
theorem look_mem {α : Type} {x : Str} {a : α} : ∀ {l : List (Str × α)}, l.lookup x = some a → (x, a) ∈ l
  | [], h => by cases h
  | (k, v) :: r, h => by
    rw [List.lookup_cons] at h
    cases hb : x == k with
    | true =>
      rw [hb] at h
      have e1 := beq_iff_eq.mp hb
      have e2 : v = a := Option.some.inj h
      rw [e1, e2]
      exact List.mem_cons_self
    | false =>
      rw [hb] at h
      exact List.mem_cons_of_mem _ (look_mem h)
theorem clo_look {cells : List (Str × Addr)} {names : List (Str × NameKind)} {x : Str} {c : Addr} (hf : (x, NameKind.free) ∈ names) (hc : cells.lookup x = some c) : (cloFrom cells names []).lookup x = some c := by
  obtain ⟨c', h⟩ := mem_lookup (cloFrom_has (cells := cells) (acc := []) hf)
  rcases cloFrom_mem (look_mem h) with z | ⟨_, z⟩
  · cases z
  · rw [hc] at z
    rw [h, z]
    rfl
section
variable {X : Cx} {pins : List (Addr × Obj)} {σ : L2.St} {H F : Hp} {s : Shared} {TT : List (Addr × Str)}
theorem lam_mk {x : Str} {params : Arguments} {body : Expr} {scope : Scope} {pos : Pos} {E : Value → Shared → Prop} {Q : Value → Shared → Prop} (I : Inv X pins σ F s) (hE : Ex H F) (hT : TabsOk TT H F) (LD : LamD X.K X.mg X.base TT x (X.env.qual ++ "<lambda>")) (hcode : X.env.code = .ref (He.codeOf X.K (x, none)))
    (hdef : defaultsOf params X.env = ([], [])) (hfree : ∀ y ∈ scope.names, y.2 = .free → ∃ c, X.env.cells.lookup y.1 = some c)
    (h : ∀ (f c' : Addr) (pm ctv : Value) (H1 F1 : Hp) (s' : Shared), Inv X pins σ F1 s' → StT TT H F H1 F1 → TabsOk TT H1 F1 → s.heap.objs.size ≤ f →
      s'.heap.get? f = some (PySem.W.kla_obj "<lambda>" (X.env.qual ++ "<lambda>") params body scope (cloFrom X.env.cells scope.names []) pm c' ctv) → F1 f = none → s'.heap.CodeRec (.ref c') (X.env.qual ++ "<lambda>") → Q (.ref f) s') :
    wpAny (model X.prog X.w) X.A (eval (.Lambda params body scope pos) X.env) Q E s := by
  obtain ⟨P, TB, hm, hu⟩ := LD.tab
  obtain ⟨hHP, ps, hP, ht, ha⟩ := hT _ hm
  refine PySem.W.kla_eval hdef ?_
  have bP : s.heap.BuiltinsAt X.mg P := TB.bm.keeps I.bk
  have hP' : s.heap.get? P = some { cls := .none, data := .fields ps } := I.hok P _ hP
  cases hc : codeAmong pos ps.toList with
  | none =>
    refine PySem.W.kla_makeFunction (mg := X.mg) (P := P) (ps := ps) (closure_ok hfree) I.ok.glob (I.mod.glob.keeps I.bk) hcode (TB.code.keeps I.bk) hP' ht hc TB.gP bP fun c' ctv h' tk hx hge hlt hrec htb => ?_
    have hrec0 := hrec
    obtain ⟨c2, oc, vs, t, e2, hoc, hd, hv⟩ := hrec
    cases e2
    have hsz : s.heap.objs.size ≤ h'.objs.size := Nat.le_trans hge (Nat.le_of_lt hlt)
    have nC : F c' = none := I.hok.fresh hge
    have nCH : H c' = none := Evl.fresh_back hE nC
    have I1 := LamX.inv_table (t' := tk) (more := #[rawInt pos.line, rawInt pos.col, .ref c']) (h' := h'.push (PySem.W.kla_obj "<lambda>" (X.env.qual ++ "<lambda>") params body scope (cloFrom X.env.cells scope.names []) ((X.mg "__name__").getD .none) c' ctv)) I hP
      (fun b o hb e => Heap.get?_push_of_some _ (hx b o hb e)) (Heap.get?_push_of_some _ htb) hge ⟨oc, vs, t, Heap.get?_push_of_some _ hoc, hd, hv⟩
    have cP : P ≠ c' := ne_of_none hP nC
    have eL : (ps ++ #[rawInt pos.line, rawInt pos.col, .ref c']).toList = ps.toList ++ [rawInt pos.line, rawInt pos.col, .ref c'] := by simp
    have notP : ∀ a, tpt TT a → a ≠ c' := fun a ta z => by
      obtain ⟨qs, q⟩ := hT.used ta
      rw [z, nC] at q
      cases q
    refine h h'.objs.size c' _ ctv (upd H c' (LamX.CodeO c' (X.env.qual ++ "<lambda>"))) _ _ I1 ⟨Evl.Ex.new nCH, fun a u e => ?_, fun a u nt e => ?_, fun a n1 n2 => ?_, fun a ta e => ?_⟩ (fun p hp => ?_) hsz (Heap.get?_push_size _ rfl) ?_ (hrec0.push _)
    · by_cases z : a = c'
      · rw [z, upd_same] at e
        rw [z, upd_same]
        exact e
      · rw [upd_ne z] at e
        have aP : a ≠ P := fun q => by
          rw [q, hHP] at e
          cases e
        rw [upd_ne z, upd_ne aP]
        exact hE _ _ e
    · have z : a ≠ c' := ne_of_none e nC
      have aP : a ≠ P := fun q => nt ⟨_, hm, q.symm⟩
      rw [upd_ne z, upd_ne aP]
      exact e
    · by_cases z : a = c'
      · rw [z]
        exact nC
      · rw [upd_ne z] at n2
        exact absurd n1 n2
    · rw [upd_ne (notP a ta)]
      exact e
    · have pc := notP p.1 ⟨p, hp, rfl⟩
      obtain ⟨t1, qs, t2, t3, t4⟩ := hT p hp
      refine ⟨by rw [upd_ne pc]; exact t1, ?_⟩
      by_cases hb : p.1 = P
      · rw [hu p hp hb, hb]
        refine ⟨_, by rw [upd_ne cP, upd_same], by rw [eL]; exact PySem.TriplesOk_snoc _ _ _ _ ht, fun p' cv hcv => ?_⟩
        rw [eL] at hcv
        rcases LamX.among_app _ ht hcv with z | z
        · obtain ⟨c0, e1, e2⟩ := ha p' cv z
          exact ⟨c0, e1, by rw [upd_ne (ne_of_none e2 nCH)]; exact e2⟩
        · exact ⟨c', z, upd_same⟩
      · refine ⟨qs, by rw [upd_ne pc, upd_ne hb]; exact t2, t3, fun p' cv hcv => ?_⟩
        obtain ⟨c0, e1, e2⟩ := t4 p' cv hcv
        exact ⟨c0, e1, by rw [upd_ne (ne_of_none e2 nCH)]; exact e2⟩
    · have n1 : h'.objs.size ≠ c' := Nat.ne_of_gt hlt
      have n2 : h'.objs.size ≠ P := Nat.ne_of_gt (Nat.lt_of_lt_of_le (Heap.lt_size hP') hsz)
      rw [upd_ne n1, upd_ne n2]
      exact I.hok.fresh hsz
  | some cv =>
    obtain ⟨c', e, hco⟩ := ha pos cv hc
    subst e
    have hcr : s.heap.CodeRec (.ref c') (X.env.qual ++ "<lambda>") := by
      obtain ⟨⟨oc, vs, t, z1, z2, z3⟩, _⟩ := I.hok c' _ (hE _ _ hco)
      exact ⟨c', oc, vs, t, rfl, z1, z2, z3⟩
    refine PySem.W.kla_makeFunctionHit (mg := X.mg) (P := P) (ps := ps) (closure_ok hfree) I.ok.glob (I.mod.glob.keeps I.bk) hcode (TB.code.keeps I.bk) hP' ht hc bP fun ctv h' tk hx hsz => ?_
    have I1 : Inv X pins σ F { s with heap := h'.push (PySem.W.kla_obj "<lambda>" (X.env.qual ++ "<lambda>") params body scope (cloFrom X.env.cells scope.names []) ((X.mg "__name__").getD .none) c' ctv), toks := tk } := I.kept fun b o e => Heap.get?_push_of_some _ (hx b o e)
    exact h h'.objs.size c' _ ctv H F _ I1 (.refl hE) hT hsz (Heap.get?_push_size _ rfl) (I.hok.fresh hsz) (hcr.keeps fun b o e => Heap.get?_push_of_some _ (hx b o e))
end
end DL

set_option Elab.async false
set_option linter.all false
set_option maxRecDepth 100000
set_option maxHeartbeats 2000000
/-! DLLam3: sorted(xs, key=lambda ..). -/
namespace DL
open PySem PySem.Spec PyProof.Rows L2
/-- what a lambda takes from around: the slots that hold it -/
def CapsOk (N : List Str) (sc : Scope) (ρ : List Sl) (caps : List (Str × D)) : Prop := ∀ p ∈ caps, ∃ i : Nat, N[i]? = some p.1 ∧ ρ[i]? = some (.val p.2) ∧ (sc.names.lookup p.1 = some .cell ∨ sc.names.lookup p.1 = some .free)
theorem caps_nil {N : List Str} {sc : Scope} {ρ : List Sl} : CapsOk N sc ρ [] := fun p h => by cases h
theorem caps_cons {N : List Str} {sc : Scope} {ρ : List Sl} {caps : List (Str × D)} {x : Str} {d : D} (i : Nat) (h1 : N[i]? = some x) (h2 : ρ[i]? = some (.val d)) (h3 : sc.names.lookup x = some .cell ∨ sc.names.lookup x = some .free) (r : CapsOk N sc ρ caps) : CapsOk N sc ρ ((x, d) :: caps) := fun p h => by
  rcases List.mem_cons.mp h with e | h
  · subst e
    exact ⟨i, h1, h2, h3⟩
  · exact r p h
/-! data without lists and dicts -/
mutual
def noL : D → Bool
  | .list _ => false
  | .dict _ => false
  | .tuple xs => noLs xs
  | _ => true
def noLs : List D → Bool
  | [] => true
  | x :: xs => noL x && noLs xs
end
mutual
theorem reads_noL {h : Heap} : ∀ {d : D} {v : Value} {as : List Addr}, noL d = true → Reads h v d as → as = []
  | _, _, _, _, .none => rfl
  | _, _, _, _, .bool _ => rfl
  | _, _, _, _, .int _ _ => rfl
  | _, _, _, _, .str _ _ => rfl
  | _, _, _, n, .list _ _ _ _ => by cases n
  | _, _, _, n, .tuple _ _ _ r => readsAll_noL n r
  | _, _, _, n, .dict _ _ _ _ _ => by cases n
theorem readsAll_noL {h : Heap} : ∀ {ds : List D} {vs : List Value} {as : List Addr}, noLs ds = true → ReadsAll h vs ds as → as = []
  | _, _, _, _, .nil => rfl
  | _, _, _, n, .cons r rs => by
    rw [noLs, Bool.and_eq_true] at n
    rw [reads_noL n.1 r, readsAll_noL n.2 rs]
    rfl
end
theorem Rp.reads {X : Cx} {pins : List (Addr × Obj)} {σ : L2.St} {H F : Hp} {s : Shared} (I : Inv X pins σ F s) (e : Ex H F) {v : V} {d : D} {u : Value} (r : Rp H v d) (hp : PyData.plain d = true) (ru : L2.RelV v u) : ∃ as, Reads s.heap u d as :=
  Dp.reads I d v u ((r.mono e).dp hp) ru
theorem Rps.reads {X : Cx} {pins : List (Addr × Obj)} {σ : L2.St} {H F : Hp} {s : Shared} (I : Inv X pins σ F s) (e : Ex H F) {vs : List V} {ds : List D} {us : List Value} (r : Rps H vs ds) (hp : PyData.plainAll ds = true) (ru : Vals vs us) : ∃ as, ReadsAll s.heap us ds as :=
  Dp.readsAll I ds vs us ((r.mono e).dp hp) ru
theorem plainAll_mem : ∀ {ds : List D} {d : D}, PyData.plainAll ds = true → d ∈ ds → PyData.plain d = true
  | x :: xs, d, h, hd => by
    rw [PyData.plainAll, Bool.and_eq_true] at h
    rcases List.mem_cons.mp hd with e | hd
    · rw [e]; exact h.1
    · exact plainAll_mem h.2 hd
section
variable {X : Cx} {S : Type} {T : Tie S} {ρ : List Sl} {pins : List (Addr × Obj)} {σ : L2.St} {H F : Hp} {s : Shared} {caps : List (Str × D)} {ps : List Str} {scope : Scope} {body : Expr} {params : Arguments}
theorem caps_free (I : Inv X pins σ F s) (hc : CapsOk X.N X.env.scope ρ caps) (hs : LamSc scope ps (caps.map (·.1))) : ∀ y ∈ scope.names, y.2 = .free → ∃ c, X.env.cells.lookup y.1 = some c := fun y hy e => by
  obtain ⟨p, hp, e1⟩ := List.mem_map.mp (hs.all y hy e)
  obtain ⟨i, _, _, k⟩ := hc p hp
  rw [← e1]
  exact I.ok.has _ k
theorem lamFn_of {f c' : Addr} {pm ctv : Value} {q : Str} (I : Inv X pins σ F s) (hE : Ex H F) (hR : EnvR X.K T ρ σ H F) (hc : CapsOk X.N X.env.scope ρ caps) (hs : LamSc scope ps (caps.map (·.1))) (hp : PyData.plainAll (caps.map (·.2)) = true)
    (hbind : ∀ (q : Str) (cl : List (Str × Addr)) (pm cv ctv : Value) (us : List Value), us.length = ps.length → bindArgs (PySem.W.kla_fn "<lambda>" q params body scope cl pm cv ctv) ⟨us, []⟩ = pure (ps.zip us))
    (ho : s.heap.get? f = some (PySem.W.kla_obj "<lambda>" q params body scope (cloFrom X.env.cells scope.names []) pm c' ctv)) (hcr : s.heap.CodeRec (.ref c') q) : LamFn X.mg s.heap f ps caps scope body := by
  obtain ⟨mb, b1, b2⟩ := I.mod.blt
  refine ⟨⟨q, params, _, pm, c', ctv, ho, hcr, hbind _ _ _ _ _, fun x d hx => ?_⟩, I.nolimit, I.mod.glob.keeps I.bk, mb, b1.keeps I.bk, b2⟩
  have hm := look_mem hx
  obtain ⟨i, h1, h2, h3⟩ := hc _ hm
  obtain ⟨ov, g1, v, rfl, r⟩ := hR.at_ i _ h2
  obtain ⟨m, hn, hl⟩ := I.loc
  obtain ⟨u, ru, lk⟩ := hl i x v h1 g1 (h3.elim (fun z => .inr (.inl z)) fun z => .inr (.inr z))
  obtain ⟨as, rd⟩ := r.reads I hE (plainAll_mem hp (List.mem_map_of_mem (f := fun p : Str × D => p.2) hm)) ru
  rcases lk with ⟨k1, _⟩ | ⟨_, c, k2, k3⟩
  · have k1 : X.env.scope.names.lookup x = some .local := k1
    rcases h3 with z | z <;> rw [show X.env.scope.names.lookup x = _ from z] at k1 <;> cases k1
  · have hf : scope.names.lookup x = some .free := hs.free x (List.mem_map_of_mem (f := fun p : Str × D => p.1) hm)
    exact ⟨c, u, as, clo_look (PySem.mem_of_lookup hf) k2, k3, rd⟩
end
/-! ### sorted(xs, key=lambda ..) -/
def srtK (ps : List (D × D)) : List D := (ps.mergeSort (PySem.W.dataLe false fun p => p.2)).map (·.1)
def keysOf (g : D → Option D) : List D → Option (List D)
  | [] => some []
  | x :: xs => (g x).bind fun k => (keysOf g xs).map fun ks => k :: ks
theorem keysOf_some {g : D → Option D} : ∀ {xs ks : List D}, keysOf g xs = some ks → xs.length = ks.length ∧ ∀ p ∈ xs.zip ks, g p.1 = some p.2
  | [], _, h => by cases h; exact ⟨rfl, fun p hp => by cases hp⟩
  | x :: xs, _, h => by
    have h : (g x).bind (fun k => (keysOf g xs).map fun ks => k :: ks) = _ := h
    cases e : g x with
    | none => rw [e] at h; cases h
    | some k =>
      rw [e] at h
      have h : (keysOf g xs).map (fun ks => k :: ks) = _ := h
      cases e2 : keysOf g xs with
      | none => rw [e2] at h; cases h
      | some ks =>
        rw [e2] at h
        cases h
        obtain ⟨h1, h2⟩ := keysOf_some e2
        refine ⟨by simp [h1], fun p hp => ?_⟩
        rcases List.mem_cons.mp hp with z | hp
        · subst z
          exact e
        · exact h2 p hp
/-- the list is sorted by the keys: the same items, stably -/
def sortKD (cs : List D) (g : D → Option D) : D → Option D
  | .list xs => (keysOf g xs).bind fun ks => if sortOk ks && noLs ks && PyData.plainAll cs && PyData.plainAll xs then some (.list (srtK (xs.zip ks))) else none
  | _ => none
theorem sortKD_some {cs : List D} {g : D → Option D} {d r : D} (h : sortKD cs g d = some r) : ∃ xs ks, d = .list xs ∧ keysOf g xs = some ks ∧ sortOk ks = true ∧ noLs ks = true ∧ PyData.plainAll cs = true ∧ PyData.plainAll xs = true ∧ r = .list (srtK (xs.zip ks)) := by
  unfold sortKD at h
  split at h
  · rename_i xs
    cases e : keysOf g xs with
    | none => rw [e] at h; cases h
    | some ks =>
      rw [e] at h
      have h : (if sortOk ks && noLs ks && PyData.plainAll cs && PyData.plainAll xs then some (PyData.list (srtK (xs.zip ks))) else none) = some r := h
      split at h
      · rename_i c
        simp only [Bool.and_eq_true] at c
        cases h
        exact ⟨xs, ks, rfl, e, c.1.1.1, c.1.1.2, c.1.2, c.2, rfl⟩
      · cases h
  · cases h
theorem noLs_mem : ∀ {ds : List D} {d : D}, noLs ds = true → d ∈ ds → noL d = true
  | x :: xs, d, h, hd => by
    rw [noLs, Bool.and_eq_true] at h
    rcases List.mem_cons.mp hd with e | hd
    · rw [e]; exact h.1
    · exact noLs_mem h.2 hd
theorem each_get {α β : Type} {R : α → β → Prop} : ∀ {as : List α} {bs : List β}, PySem.W.EachIs R as bs → ∀ b ∈ bs, ∃ a ∈ as, R a b
  | _, _, .nil, b, h => by cases h
  | _, _, .cons h t, b, hb => by
    rcases List.mem_cons.mp hb with e | hb
    · subst e
      exact ⟨_, List.mem_cons_self, h⟩
    · obtain ⟨a, h1, h2⟩ := each_get t b hb
      exact ⟨a, List.mem_cons_of_mem _ h1, h2⟩
theorem zip3 : ∀ {vs : List V} {xs ks : List D} {its : List Value} {as : List Addr} {h : Heap}, Vals vs its → vs.length = xs.length → xs.length = ks.length → ReadsAll h its xs as →
    PySem.W.EachIs (fun (u : Value) (p : V × D × D) => L2.RelV p.1 u ∧ ∃ bs, Reads h u p.2.1 bs) its (vs.zip (xs.zip ks))
  | [], [], [], _, _, _, r, _, _, _ => by
    cases r
    exact .nil
  | v :: vs, x :: xs, k :: ks, _, _, _, r, h1, h2, ra => by
    cases r with
    | cons r1 r2 =>
      cases ra with
      | cons a1 a2 => exact .cons ⟨r1, _, a1⟩ (zip3 r2 (by simpa using h1) (by simpa using h2) a2)
  | [], _ :: _, _, _, _, _, _, h, _, _ => by cases h
  | _ :: _, [], _, _, _, _, _, h, _, _ => by cases h
  | _, [], _ :: _, _, _, _, _, _, h, _ => by cases h
  | _, _ :: _, [], _, _, _, _, _, h, _ => by cases h
theorem each_vals3 {h : Heap} : ∀ {its : List Value} {ps : List (V × D × D)}, PySem.W.EachIs (fun (u : Value) (p : V × D × D) => L2.RelV p.1 u ∧ ∃ bs, Reads h u p.2.1 bs) its ps → Vals (ps.map (·.1)) its
  | _, _, .nil => .nil
  | _, _, .cons h t => .cons h.1 (each_vals3 t)
section
variable {X : Cx} {S : Type} {T : Tie S} {ρ : List Sl} {caps : List (Str × D)} {scope : Scope} {body e : Expr} {params : Arguments} {me : M S D} {g : D → M Unit D} {x a : Str} {j : Nat} {p pos lpos kpos : Pos}
theorem je_sortedK (hu : X.A.units + 64 < cLine) (hr : Room j X.A) (hj : 2 ≤ j) (LD : LamD X.K X.mg X.base T.tb x (X.env.qual ++ "<lambda>")) (hcode : X.env.code = .ref (He.codeOf X.K (x, none))) (hg : Gl X "sorted") (hm : X.mg "sorted" = none) (pl : Plain X.mg)
    (he : JV X T e ρ me) (hc : CapsOk X.N X.env.scope ρ caps) (hs : lamScB scope [a] (caps.map (·.1)) = true) (hx : ∀ d, LX ((a, d) :: caps) scope body (g d))
    (hbind : ∀ (q : Str) (cl : List (Str × Addr)) (pm cv ctv : Value) (us : List Value), us.length = 1 → bindArgs (PySem.W.kla_fn "<lambda>" q params body scope cl pm cv ctv) ⟨us, []⟩ = pure ([a].zip us)) (hdef : defaultsOf params X.env = ([], []) := by rfl)
    (hs1 : starEach [e] X.env = (false, eval e X.env) :: starEach [] X.env := by rfl) (h1 : backTo pos (starEach [e] X.env) = (false, eval e X.env) :: backTo pos (starEach [] X.env) := by rfl) (hpl : (backTo pos (starEach [e] X.env)).any (·.1) = false := by rfl)
    (hall : (backToKw pos (keywordEach [⟨some "key", .Lambda params body scope lpos, kpos⟩] X.env)).all (·.1.isSome) = true := by rfl) (hnone : (backToKw pos (keywordEach [⟨some "key", .Lambda params body scope lpos, kpos⟩] X.env)).any (·.1.isNone) = false := by rfl) :
    JE X T (.Call (.Name "sorted" p) [e] [⟨some "key", .Lambda params body scope lpos, kpos⟩] pos) ρ (B me fun d => L (sortKD (caps.map (·.2)) (fun y => run0 (g y)) d)) := ⟨fun {σ H F s0 d s'} hE hR hA hm' Q k => by
  obtain ⟨dx, s1, m1, hm'⟩ := B_some hm'
  obtain ⟨hq, rfl⟩ := L_some hm'
  obtain ⟨xs, ks, rfl, hk, ok, nl, pc, pxs, rfl⟩ := sortKD_some hq
  obtain ⟨hlen, hkeys⟩ := keysOf_some hk
  have S := lamSc hs
  intro pins s I
  refine wpAny_Call_Name_kw (ld_blt (u := .builtin "sorted") I hg hm (by decide +kernel) ?_ (by decide) (by decide))
  refine PyProof.Rows.callWith_kw ?_ h1 hpl hall hnone
  refine thn ((pa_cons (pE X e) pa_nil hs1).run pos pins s σ F (fun vs F1 => ∃ v H1, vs = [v] ∧ Stp T.pt H F H1 F1 ∧ T.at_ s' H1 F1 ∧ Rv T.pt H1 F1 v (.list xs)) I (he.run hE hR hA m1 _ fun v H1 F1 st1 a1 r1 => ⟨v, H1, rfl, st1, a1, r1⟩)) fun us s2 ⟨vs, F1, I1, rv, v, H1, ev, st1, a1, r1⟩ => ?_
  subst ev
  obtain ⟨u, rfl, ru⟩ := vals1 rv
  show wpAny (model X.prog X.w) X.A (evalAll [(do let v ← eval (.Lambda params body scope lpos) X.env; standAt pos; pure v)]) _ _ s2
  refine wpAny_evalAll_cons (wpAny_bind (lam_mk I1 st1.hf (T.tabs _ _ _ a1) LD hcode hdef (caps_free I1 hc S) fun f c' pm ctv H2 F2 s3 I2 st2 tb2 hge hf hfn hcr => wpAny_bind (wpAny_standAt (wpAny_pure ?_))))
  refine wpAny_evalAll_nil ?_
  show wpAny (model X.prog X.w) X.A (call (.builtin "sorted") [u] [("key", .ref f)]) _ _ s3
  have st12 := st1.trans (T.upT a1 st2)
  have a2 := T.part _ _ _ _ _ a1 st2 tb2
  have fn := lamFn_of I2 st2.hf (hR.step st12) hc S pc hbind hf hcr
  have r2 := r1.step (T.upT a1 st2)
  obtain ⟨la, vs, rfl, rvs, hh⟩ := r2.seq (K := X.K) st2.hf (ds := _) rfl
  cases ru
  have hh : F2 la = some (.lst vs) := hh.elim (fun z => z.2) fun z => by cases z.1
  obtain ⟨its, rits, pls, hz⟩ := I2.list (SqL.of hh)
  obtain ⟨as, hrd⟩ := rvs.reads I2 st2.hf pxs rits
  have hvl : vs.length = xs.length := rvs.length
  have e3 := zip3 rits hvl hlen hrd
  obtain ⟨k1, k2, k3, k4⟩ := sortOk_some ok
  have hk3 : (vs.zip (xs.zip ks)).map (fun p => p.2.2) = ks := by
    have h1 : (vs.zip (xs.zip ks)).map (fun p => p.2) = xs.zip ks := List.map_snd_zip (by rw [List.length_zip]; omega)
    have h2 : (xs.zip ks).map (fun p => p.2) = ks := List.map_snd_zip (by omega)
    rw [show (fun p : V × D × D => p.2.2) = (fun q : D × D => q.2) ∘ (fun p => p.2) from rfl, ← List.map_map, h1, h2]
  have hlz : (vs.zip (xs.zip ks)).length = xs.length := by rw [List.length_zip, List.length_zip]; omega
  have hal : PySem.W.AllAlike ((vs.zip (xs.zip ks)).map fun p => p.2.2) := by rw [hk3]; exact k1
  have hsk : PySem.W.Sortable ((vs.zip (xs.zip ks)).map fun p => p.2.2) := by rw [hk3]; exact k2
  refine PySem.W.sorted_key_data (β := V × D × D) (R := fun (u : Value) (p : V × D × D) => L2.RelV p.1 u ∧ ∃ bs, Reads s3.heap u p.2.1 bs) (b := false) (k := fun p => p.2.2) pls.isList e3 hal hsk (by rw [hlz, ← hvl]; exact hz) (fun b hb => ?_) (PyProof.Rows.ksk_s1 _ _) (fun y => PyProof.Rows.ksk_l1 (.ref y) _) (fun y => PyProof.Rows.ksk_t1 f y) (fun v b hv hb h tk kp => ?_) fun out c h' tk kp hfr hnew hol heach => ?_
  · have hbm : b.2.2 ∈ ks := by rw [← hk3]; exact List.mem_map_of_mem (f := fun p : V × D × D => p.2.2) hb
    have := depth_in hbm
    show X.A.units + 2 + b.2.2.depth < cLine
    omega
  · obtain ⟨_, bs, rdv⟩ := hv
    have hbz : b.2 ∈ xs.zip ks := (List.of_mem_zip hb).2
    have hkk := hkeys _ hbz
    refine lam_run (ds := [b.2.1]) (fn.keeps kp) S pl (m := g b.2.1) (d := b.2.2) ?_ (run0_some hkk) (fun y dd hy => List.mem_map_of_mem (f := fun p : Str × D => p.1) (look_mem hy)) (.cons (PyProof.Rows.Reads.keeps kp rdv) .nil) rfl ?_ fun w' h2 tk2 cs kp2 rw2 => ⟨h2, tk2, rfl, kp2, ?_⟩
    · exact hx b.2.1
    · have := hr.depth
      exact this
    · have hbm : b.2.2 ∈ ks := (List.of_mem_zip hbz).2
      have := reads_noL (noLs_mem nl hbm) rw2
      rw [this] at rw2
      exact rw2
  · have hp := List.mergeSort_perm (vs.zip (xs.zip ks)) (PySem.W.dataLe false fun p : V × D × D => p.2.2)
    have hlen2 : (((vs.zip (xs.zip ks)).mergeSort (PySem.W.dataLe false fun p : V × D × D => p.2.2)).map (·.1)).length ≤ sizeLine := by
      rw [List.length_map, hp.length_eq, hlz, ← hvl]
      exact hz
    have hF : F2 (s3.heap.objs.size + 1) = none := I2.hok.fresh (Nat.le_succ _)
    have I3 : Inv X pins σ (upd F2 (s3.heap.objs.size + 1) (.lst (((vs.zip (xs.zip ks)).mergeSort (PySem.W.dataLe false fun p : V × D × D => p.2.2)).map (·.1)))) { s3 with heap := h', toks := tk } :=
      I2.laid kp (Nat.le_succ _) ⟨hlen2, out, c, each_vals3 heach, hnew⟩
    refine ⟨.ref _, _, I3, rfl, ?_⟩
    have st3 : Stq H2 F2 (upd H2 (s3.heap.objs.size + 1) (.lst (((vs.zip (xs.zip ks)).mergeSort (PySem.W.dataLe false fun p : V × D × D => p.2.2)).map (·.1)))) (upd F2 (s3.heap.objs.size + 1) (.lst (((vs.zip (xs.zip ks)).mergeSort (PySem.W.dataLe false fun p : V × D × D => p.2.2)).map (·.1)))) := .new st2.hf hF fun z => z
    refine k _ _ _ (st12.trans (st3.up a2)) (st3.at a2) (.lst upd_same ?_)
    have hrp : ∀ q ∈ vs.zip (xs.zip ks), Rp H2 q.1 q.2.1 := fun q hq => by
      have hz1 : vs.zip ((xs.zip ks).map (·.1)) = (vs.zip (xs.zip ks)).map fun q => (q.1, q.2.1) := by
        rw [List.zip_map_right]
        rfl
      have hz2 : (xs.zip ks).map (·.1) = xs := List.map_fst_zip (by omega)
      rw [hz2] at hz1
      have : (q.1, q.2.1) ∈ vs.zip xs := by rw [hz1]; exact List.mem_map_of_mem (f := fun q : V × D × D => (q.1, q.2.1)) hq
      exact rps_zip rvs _ this
    have r3 : Rps H2 ((((vs.zip (xs.zip ks)).mergeSort (PySem.W.dataLe false fun p : V × D × D => p.2.2))).map (·.1)) ((((vs.zip (xs.zip ks)).mergeSort (PySem.W.dataLe false fun p : V × D × D => p.2.2))).map fun q => q.2.1) := by
      have := rps_pairs (H := H2) (ps := (((vs.zip (xs.zip ks)).mergeSort (PySem.W.dataLe false fun p : V × D × D => p.2.2))).map fun q => (q.1, q.2.1)) fun q hq => by
        obtain ⟨q0, hq0, rfl⟩ := List.mem_map.mp hq
        exact hrp q0 (hp.mem_iff.mp hq0)
      rw [List.map_map, List.map_map] at this
      exact this
    have es : (((vs.zip (xs.zip ks)).mergeSort (PySem.W.dataLe false fun p : V × D × D => p.2.2))).map (fun q => q.2.1) = srtK (xs.zip ks) := by
      unfold srtK
      have hz : (vs.zip (xs.zip ks)).map (fun p => p.2) = xs.zip ks := List.map_snd_zip (by rw [List.length_zip]; omega)
      rw [show (fun q : V × D × D => q.2.1) = (fun q : D × D => q.1) ∘ (fun p => p.2) from rfl, ← List.map_map]
      congr 1
      refine (PySem.W.sort_maps (s := PySem.W.dataLe false fun p : D × D => p.2) (fun p : V × D × D => p.2) (fun _ _ _ _ => rfl)).trans ?_
      rw [hz]
    rw [es] at r3
    exact r3.mono st3.hh⟩
end
end DL

set_option Elab.async false
set_option linter.all false
set_option maxRecDepth 100000
set_option maxHeartbeats 2000000
/-! DLPop: pop; sorted(set(t)). -/
namespace DL
open PySem PySem.Spec PyProof.Rows L2
theorem Rps.eraseIdx {H : Hp} : ∀ {vs : List V} {ds : List D} (n : Nat), Rps H vs ds → Rps H (vs.eraseIdx n) (ds.eraseIdx n)
  | _, _, _, .nil => by simpa using Rps.nil
  | _, _, 0, .cons _ r => by simpa using r
  | _, _, n + 1, .cons h r => by simpa using Rps.cons h (Rps.eraseIdx n r)
theorem Rps.dropLast {H : Hp} : ∀ {vs : List V} {ds : List D}, Rps H vs ds → Rps H vs.dropLast ds.dropLast
  | _, _, .nil => .nil
  | _, _, .cons h .nil => .nil
  | _, _, .cons h (.cons h2 r) => .cons h (Rps.dropLast (.cons h2 r))
def popL (xs : List D) : Option (D × List D) := (xs[xs.length - 1]?).map fun d => (d, xs.dropLast)
def popAt (xs : List D) : D → Option (D × List D)
  | .int i => if -1000000 ≤ i ∧ i ≤ 1000000 then (ixN xs.length i).bind fun j => (xs[j]?).map fun d => (d, xs.eraseIdx j) else none
  | _ => none
/-- what comes behind a pop -/
def pop2 {S β : Type} (f : D → List D → M S β) : D × List D → M S β := fun q => f q.1 q.2
def pop3 {S β : Type} (xs : List D) (f : List D → List D → M S β) : D × List D → M S β := fun q => B (L (appL xs q.1)) fun zs => f zs q.2
theorem popAt_some {xs : List D} {k : D} {q : D × List D} (h : popAt xs k = some q) : ∃ i j, k = .int i ∧ -1000000 ≤ i ∧ i ≤ 1000000 ∧ ixN xs.length i = some j ∧ xs[j]? = some q.1 ∧ q.2 = xs.eraseIdx j := by
  unfold popAt at h
  split at h
  · rename_i i
    split at h
    · rename_i c
      cases e : ixN xs.length i with
      | none => rw [e] at h; cases h
      | some j =>
        rw [e] at h
        have h : (xs[j]?).map (fun d => (d, xs.eraseIdx j)) = some q := h
        cases e2 : xs[j]? with
        | none => rw [e2] at h; cases h
        | some d => rw [e2] at h; cases h; exact ⟨i, j, rfl, c.1, c.2, e, e2, rfl⟩
    · cases h
  · cases h
section
variable {X : Cx} {S β : Type} {T : Tie S} {ρ : List Sl} {out : β → Oc} {rest : List Stmt} {pos : Pos}
theorem js_asgPop {i j : Nat} {x y : Str} {ys : List D} {p0 p1 p2 p3 : Pos} {f : D → List D → M S β} (hN : X.N.Nodup) (hi : X.N[i]? = some x) (hx : Loc X.env.scope x) (hj : X.N[j]? = some y) (hv : Vis X.env.scope y) (hρ : ρ[j]? = some (.own ys)) (hr : ∀ d zs, JS X T rest ((ρ.set j (.own zs)).set i (.val d)) (f d zs) out)
    (hbase : attributeBase (.Name y p1) "pop" X.env (eval (.Name y p1) X.env) = eval (.Name y p1) X.env := by rfl) (hline : (p2.endLine == p3.line) = true := by rfl)
    (hs : swapsWith (.Call (.Attribute (.Name y p1) "pop" p2) [] [] p3) (some (.Name x p0)) pos.line X.env = pure false := by rfl) (hf : X.fn x = true ∨ X.env.scope.names.lookup x = some .local := by first | exact .inl rfl | exact .inr rfl | assumption)
    (hd : (y == ("__debug__" : Str)) = false := by decide) (hcd : (y == ("__classdict__" : Str)) = false := by decide) :
    JS X T (.Assign [.Name x p0] (.Call (.Attribute (.Name y p1) "pop" p2) [] [] p3) pos :: rest) ρ (B (L (popL ys)) (pop2 f)) out := ⟨fun {σ H F C s b s'} w hm Dn k => by
  obtain ⟨q0, hq, hm⟩ := BL_some hm
  obtain ⟨q, vs, hs1, h2, h3, h4, h5⟩ := own_get w hρ
  unfold popL at hq
  cases e : ys[ys.length - 1]? with
  | none => rw [e] at hq; cases hq
  | some d =>
    rw [e] at hq
    cases hq
    obtain ⟨v, hv1, hv2⟩ := h5.get e
    refine sSs_of (pss_cons (ps_set hN hi hx (pe_bm0 PySem.F.plainAttrs_list PySem.F.slot_list_pop PySem.F.type_list_pop mt_pop (pe_var hj hv hd hcd) hbase hline) hs hf) (pSs X rest)) ?_
    refine ⟨_, hs1, .inl ⟨rfl, _, .inl (.inl h4)⟩, q, vs, v, rfl, rfl, h4, by rw [h5.length]; exact hv1, ?_⟩
    have w1 := w.own hρ hs1 h5.dropLast
    exact (hr d _).run (w1.set i (sl := .val d) ⟨v, rfl, hv2⟩ fun o => by cases o) hm Dn k⟩
theorem js_appendPop {i j : Nat} {x y : Str} {xs ys : List D} {p1 p2 p3 p4 p5 p6 : Pos} {e : Expr} {me : M S D} {f : List D → List D → M S β} (hij : i ≠ j) (hN : X.N[i]? = some x) (hv : Vis X.env.scope x) (hρ : ρ[i]? = some (.own xs)) (hNj : X.N[j]? = some y) (hvj : Vis X.env.scope y) (hρj : ρ[j]? = some (.own ys)) (he : JE X T e ρ me)
    (hr : ∀ zs us, JS X T rest ((ρ.set j (.own us)).set i (.own zs)) (f zs us) out)
    (hb1 : attributeBase (.Name x p1) "append" X.env (eval (.Name x p1) X.env) = eval (.Name x p1) X.env := by rfl) (hb2 : attributeBase (.Name y p3) "pop" X.env (eval (.Name y p3) X.env) = eval (.Name y p3) X.env := by rfl)
    (hf1 : ((backTo p6 (starEach [.Call (.Attribute (.Name y p3) "pop" p4) [e] [] p5] X.env)).all (fun x => !x.1) && (backToKw p6 (keywordEach [] X.env)).all (fun x => x.1.isSome) && decide ([Expr.Call (.Attribute (.Name y p3) "pop" p4) [e] [] p5].length + ([] : List Keyword).length + (if ([] : List Keyword).isEmpty then 0 else 1) < 30)) = true := by rfl)
    (hf2 : ((backTo p5 (starEach [e] X.env)).all (fun x => !x.1) && (backToKw p5 (keywordEach [] X.env)).all (fun x => x.1.isSome) && decide ([e].length + ([] : List Keyword).length + (if ([] : List Keyword).isEmpty then 0 else 1) < 30)) = true := by rfl)
    (hl1 : (p2.endLine == p6.line) = true := by rfl) (hl2 : (p4.endLine == p5.line) = true := by rfl)
    (hs1 : starEach [.Call (.Attribute (.Name y p3) "pop" p4) [e] [] p5] X.env = (false, eval (.Call (.Attribute (.Name y p3) "pop" p4) [e] [] p5) X.env) :: starEach [] X.env := by rfl) (hs2 : starEach [e] X.env = (false, eval e X.env) :: starEach [] X.env := by rfl)
    (hp1 : (backTo p6 (starEach [] X.env)).any (·.1) = false := by rfl) (hp2 : (backTo p5 (starEach [] X.env)).any (·.1) = false := by rfl)
    (hs : swapsWith (.Call (.Attribute (.Name x p1) "append" p2) [.Call (.Attribute (.Name y p3) "pop" p4) [e] [] p5] [] p6) none pos.line X.env = pure false := by rfl)
    (hd : (x == ("__debug__" : Str)) = false := by decide) (hcd : (x == ("__classdict__" : Str)) = false := by decide) (hd2 : (y == ("__debug__" : Str)) = false := by decide) (hcd2 : (y == ("__classdict__" : Str)) = false := by decide) :
    JS X T (.Expr (.Call (.Attribute (.Name x p1) "append" p2) [.Call (.Attribute (.Name y p3) "pop" p4) [e] [] p5] [] p6) pos :: rest) ρ (B me fun d => B (L (popAt ys d)) (pop3 xs f)) out := ⟨fun {σ H F C s b s'} w hm Dn k => by
  obtain ⟨d, s1, m1, hm⟩ := B_some hm
  obtain ⟨q0, hq, hm⟩ := BL_some hm
  obtain ⟨zs, hz, hm⟩ := BL_some hm
  obtain ⟨kk, jj, rfl, k1, k2, k3, k4, k5⟩ := popAt_some hq
  obtain ⟨q, vs, a1, a2, a3, a4, a5⟩ := own_get w hρ
  obtain ⟨p, ws, b1, b2, b3, b4, b5⟩ := own_get w hρj
  refine sSs_of (pss_cons (ps_expr (pe_bm PySem.F.plainAttrs_list PySem.F.slot_list_append PySem.F.type_list_append mt_append (pe_var hN hv hd hcd)
    (pa_cons (pe_bm PySem.F.plainAttrs_list PySem.F.slot_list_pop PySem.F.type_list_pop mt_popAt (pe_var hNj hvj hd2 hcd2) (pa_cons (pE X e) pa_nil hs2) hb2 hf2 hl2 hs2 hp2) pa_nil hs1) hb1 hf1 hl1 hs1 hp1) hs) (pSs X rest)) ?_
  refine ⟨_, a1, .inl ⟨rfl, _, .inl (.inl a4)⟩, ?_⟩
  refine ⟨_, b1, .inl ⟨rfl, _, .inl (.inl b4)⟩, he.run w.ex w.env w.at_ m1 _ fun v H1 F1 st1 at1 r1 => ?_⟩
  have w1 := w.step st1 at1
  cases r1
  have r5 := b5.mono st1.hh
  have r5x := a5.mono st1.hh
  obtain ⟨v, hv1, hv2⟩ := r5.get k4
  obtain ⟨g1, g2, g3, g4⟩ := ixN_seq k3
  refine ⟨p, ws, kk, jj, v, rfl, rfl, st1.ff _ _ b3 b4, by omega, by omega, by rw [r5.length]; exact g1, hv1, ?_⟩
  have w2 := w1.own hρj b1 (r5.eraseIdx jj)
  have hρ2 : (ρ.set j (.own (ys.eraseIdx jj)))[i]? = some (.own xs) := by
    rw [List.getElem?_set_ne (Ne.symm hij)]
    exact hρ
  unfold appL at hz
  by_cases hlt : xs.length < 16777216
  · rw [if_pos hlt] at hz
    cases hz
    have nqp : q ≠ p := fun z => w.env.apart i j _ _ q hij hρ rfl a1 hρj rfl (by rw [z]; exact b1)
    refine ⟨q, vs, v, rfl, rfl, by rw [upd_ne nqp]; exact st1.ff _ _ a3 a4, by rw [sizeLine_eq, r5x.length]; exact hlt, ?_⟩
    have w3 := w2.own hρ2 a1 (r5x.append (.cons hv2 .nil))
    rw [k5] at hm
    exact (hr _ _).run w3 hm Dn (k.mono st1.hh)
  · rw [if_neg hlt] at hz
    cases hz⟩
end
/-! ### sorted(set(t)), t a tuple of ints -/
def insU (k : Int) : List Int → List Int
  | [] => [k]
  | x :: xs => if k < x then k :: x :: xs else if k = x then x :: xs else x :: insU k xs
/-- ascending, each once -/
def srtU : List Int → List Int
  | [] => []
  | x :: xs => insU x (srtU xs)
theorem insU_mem {k j : Int} : ∀ {l : List Int}, j ∈ insU k l ↔ j = k ∨ j ∈ l
  | [] => by simp [insU]
  | x :: xs => by
    unfold insU
    split
    · simp
    · split
      · rename_i h
        simp [h]
      · rw [List.mem_cons, insU_mem, List.mem_cons]
        constructor
        · rintro (h | h | h)
          · exact .inr (.inl h)
          · exact .inl h
          · exact .inr (.inr h)
        · rintro (h | h | h)
          · exact .inr (.inl h)
          · exact .inl h
          · exact .inr (.inr h)
theorem insU_sorted {k : Int} : ∀ {l : List Int}, l.Pairwise (· < ·) → (insU k l).Pairwise (· < ·)
  | [], _ => by simp [insU]
  | x :: xs, h => by
    rw [List.pairwise_cons] at h
    unfold insU
    split
    · rename_i c
      refine List.pairwise_cons.mpr ⟨fun y hy => ?_, List.pairwise_cons.mpr h⟩
      rcases List.mem_cons.mp hy with e | e
      · rw [e]; exact c
      · exact Int.lt_trans c (h.1 y e)
    · split
      · exact List.pairwise_cons.mpr h
      · refine List.pairwise_cons.mpr ⟨fun y hy => ?_, insU_sorted h.2⟩
        rcases insU_mem.mp hy with e | e
        · subst e; omega
        · exact h.1 y e
theorem srtU_mem {j : Int} : ∀ {l : List Int}, j ∈ srtU l ↔ j ∈ l
  | [] => by simp [srtU]
  | x :: xs => by
    unfold srtU
    rw [insU_mem, srtU_mem, List.mem_cons]
theorem srtU_sorted : ∀ {l : List Int}, (srtU l).Pairwise (· < ·)
  | [] => .nil
  | x :: xs => insU_sorted srtU_sorted
theorem asc_eq : ∀ {a b : List Int}, a.Pairwise (· < ·) → b.Pairwise (· < ·) → (∀ k, k ∈ a ↔ k ∈ b) → a = b
  | [], [], _, _, _ => rfl
  | [], y :: ys, _, _, h => by have := (h y).mpr List.mem_cons_self; cases this
  | x :: xs, [], _, _, h => by have := (h x).mp List.mem_cons_self; cases this
  | x :: xs, y :: ys, ha, hb, h => by
    rw [List.pairwise_cons] at ha hb
    have e : x = y := by
      rcases List.mem_cons.mp ((h x).mp List.mem_cons_self) with e | e
      · exact e
      · rcases List.mem_cons.mp ((h y).mpr List.mem_cons_self) with e2 | e2
        · exact e2.symm
        · have := ha.1 y e2
          have := hb.1 x e
          omega
    subst e
    rw [asc_eq ha.2 hb.2 fun k => ?_]
    constructor
    · intro hk
      rcases List.mem_cons.mp ((h k).mp (List.mem_cons_of_mem _ hk)) with e | e
      · have := ha.1 k hk; omega
      · exact e
    · intro hk
      rcases List.mem_cons.mp ((h k).mpr (List.mem_cons_of_mem _ hk)) with e | e
      · have := hb.1 k hk; omega
      · exact e
def sortSetT : D → Option D
  | .tuple xs => (intsOf xs).bind fun ns => if ns.length < 64 then some (.list ((srtU ns).map .int)) else none
  | _ => none
section
variable {X : Cx} {S : Type} {T : Tie S} {ρ : List Sl} {e : Expr} {me : M S D} {p p2 pos q : Pos}
theorem cr_setTupI (hc : X.calm = true) : CallR X (.type "set") (fun vs H Q => ∃ (p : Addr) (ns : List Int), vs = [.ref p] ∧ SqT X.K H p (ns.map V.int) ∧ ns.length < 64 ∧ ∀ (a : Addr) (c : Nat), H a = none → c ≤ ns.length → Q (.ref a) (upd H a (SetO X.w a (fun j => decide (j ∈ ns)) c))) := by
  intro pins s σ H vs us Q I r h
  obtain ⟨p, ns, rfl, hq, hl, k⟩ := h
  rw [Vals.ref1 r]
  obtain ⟨its, rv, pl, hz⟩ := I.tuple hq
  refine call_set_tupI ns (I.ok.hd hc) pl (by simpa using rv.ints) (by unfold scanBound; omega) fun h' tk c R hcl kp => ?_
  exact ⟨.ref _, _, I.laid (t' := tk) kp (Nat.le_refl _) (setO_new R), rfl, k _ c (I.hok.fresh (Nat.le_refl _)) hcl⟩
theorem je_sortedSetT (hc : X.calm = true) (hg : Gl X "sorted") (hm : X.mg "sorted" = none) (hg2 : Gl X "set") (hm2 : X.mg "set" = none) (he : JE X T e ρ me)
    (hs1 : starEach [.Call (.Name "set" p2) [e] [] q] X.env = (false, eval (.Call (.Name "set" p2) [e] [] q) X.env) :: starEach [] X.env := by rfl) (hs2 : starEach [e] X.env = (false, eval e X.env) :: starEach [] X.env := by rfl)
    (hp1 : (backTo pos (starEach [] X.env)).any (·.1) = false := by rfl) (hp2 : (backTo q (starEach [] X.env)).any (·.1) = false := by rfl) :
    JE X T (.Call (.Name "sorted" p) [.Call (.Name "set" p2) [e] [] q] [] pos) ρ (B me fun d => L (sortSetT d)) := ⟨fun {σ H F s d s'} hE hR hA hm' Q k => by
  obtain ⟨dx, s1, m1, hm'⟩ := B_some hm'
  obtain ⟨hq, rfl⟩ := L_some hm'
  refine sE_of (pe_callB (cr_sortedSet hc) hg hm (by decide +kernel) (pa_cons (pe_callTy (cr_setTupI hc) hg2 hm2 (by decide +kernel) (pa_cons (pE X e) pa_nil hs2) (by decide) (by decide) hs2 hp2) pa_nil hs1) (by decide) (by decide) hs1 hp1) ?_
  refine he.run hE hR hA m1 _ fun v H1 F1 st1 a1 r1 => ?_
  unfold sortSetT at hq
  split at hq
  · rename_i xs
    cases en : intsOf xs with
    | none => rw [en] at hq; cases hq
    | some ns =>
      rw [en] at hq
      have hq : (if ns.length < 64 then some (PyData.list ((srtU ns).map .int)) else none) = some d := hq
      split at hq
      · rename_i hl
        cases hq
        have ex := intsOf_some en
        subst ex
        obtain ⟨a, vs, rfl, r, hh⟩ := Rv.seq (T := T.pt) (K := X.K) st1.hf (.inl r1) (ds := _) rfl
        have hh : Tp F1 a vs := hh.elim (fun z => by cases z.1) fun z => z.2.1
        have ev := r.ints
        subst ev
        refine ⟨a, ns, rfl, hh.sq, hl, fun b c hb hcl => ?_⟩
        refine ⟨b, _, c, rfl, upd_same, by omega, fun ms p h1 h2 h3 hp => ?_⟩
        have e1 : ms = srtU ns := asc_eq h1 srtU_sorted fun j => by rw [h2, srtU_mem]; simp
        subst e1
        have hbF : F1 b = none := hb
        have npb : p ≠ b := fun z => by rw [z, upd_same] at hp; cases hp
        have hpF : F1 p = none := by rw [upd_ne npb] at hp; exact hp
        have hH1b : H1 b = none := Evl.fresh_back st1.hf hbF
        have hH1p : H1 p = none := Evl.fresh_back st1.hf hpF
        have st2 : Stq H1 F1 (upd H1 p (.lst ((srtU ns).map V.int))) (upd (upd F1 b (SetO X.w b (fun j => decide (j ∈ ns)) c)) p (.lst ((srtU ns).map V.int))) := by
          refine ⟨Evl.Ex.new hH1p, fun x u z => ?_, fun x u _ z => ?_, fun x n1 n2 => ?_, fun _ z => z.elim⟩
          · by_cases c1 : x = p
            · rw [c1, upd_same] at z ⊢
              exact z
            · rw [upd_ne c1] at z ⊢
              rw [upd_ne (ne_of_none (st1.hf _ _ z) hbF)]
              exact st1.hf _ _ z
          · rw [upd_ne (ne_of_none z hpF), upd_ne (ne_of_none z hbF)]
            exact z
          · by_cases c1 : x = p
            · rw [c1]; exact hpF
            · rw [upd_ne c1] at n2
              exact absurd n1 n2
        exact k _ _ _ (st1.trans (st2.up a1)) (st2.at a1) (.lst upd_same (Rps.of_ints _))
      · cases hq
  · cases hq⟩
end
end DL

set_option Elab.async false
set_option linter.all false
set_option maxRecDepth 100000
set_option maxHeartbeats 4000000
/-! DLRep: tuple * int; lists that will be changed, made by + and *. -/
namespace DL
open PySem PySem.Spec PyProof.Rows L2
def rRepTP (K : PySem.W.Frag) : R2 := fun x y H Q => ∃ l k xs, x = .ref l ∧ y = .int k ∧ SqT K H l xs ∧ xs ≠ [] ∧ 1 ≤ k ∧ k ≤ 1000 ∧ xs.length ≤ 1000 ∧ (k = 1 → Q (.ref l) H) ∧ (k ≠ 1 → newT Q H (List.replicate k.toNat xs).flatten)
theorem tuple_mul_one (l : Addr) (items : Array Value) (n : Nat) (dd : Option Addr) (sl : Array (Option Value)) (u : Tok) :
    Meets (Builtin.«tuple.__mul__» ⟨[.ref l, .int 1 u], []⟩) (fun _ R s => s.heap.get? l = some { cls := .type "tuple", dict := dd, data := .seq items n, slots := sl } ∧ R (.ok (.ret (Value.ref l))) s) :=
  .of_wp fun prog w A R s h => by
    obtain ⟨hp, g, d, tk, os⟩ := s
    obtain ⟨hl, h⟩ := h
    have f1 := AutoSeq1.idx_int
    wp_walk using wpAny_loadPart' hl
    exact ⟨_, rfl, h⟩
section
variable {X : Cx}
theorem op_repTP : OpR X (binaryOp .Mult) (rRepTP X.K) := by
  intro pins s σ H x y v u Q I rx ry h
  obtain ⟨l, k, xs, rfl, rfl, hT, hne, h1, h2, hz, q1, q2⟩ := h
  cases rx
  obtain ⟨t, rfl⟩ := ry
  have hT0 := hT
  obtain ⟨its, r, ⟨⟨cls, dd, data, sl⟩, ho, hc, n, hd⟩, hs⟩ := I.tuple hT
  simp only at hc hd
  subst hc hd
  by_cases c : k = 1
  · subst c
    refine wpAny_binaryOp_repeat_ref (T := "tuple") (U := "int") (by decide) ⟨_, ho, rfl⟩ (fun s' => typeIs_int s' 1 t) noFill_tuple_mul F.fills_int_mul F.slot_int_rmul repeat_tuple F.slot_int_index.lookup ?_
    refine call_meets F.slot_int_rmul (typeIs_int s 1 t) F.entry_int_rmul (F.args_int_rmul_2 _ _) (int_rmul_tuple 1 t l its.toArray n dd sl) ⟨ho, rfl, ⟨_, ho, rfl⟩, ?_⟩
    exact call_meets F.slot_tuple_mul ⟨_, ho, rfl⟩ F.entry_tuple_mul (F.args_tuple_mul_2 _ _) (tuple_mul_one l its.toArray n dd sl t) ⟨ho, .ref l, H, I, rfl, q1 rfl⟩
  · have hle : its.length = xs.length := r.length.symm
    have hp : 0 < its.length := by
      rw [hle]
      exact List.length_pos_iff.mpr hne
    have hsz : its.toArray.size = xs.length := by rw [List.size_toArray, hle]
    have hi : its.toArray.isEmpty = false := by
      rw [Array.isEmpty_eq_false_iff_exists_mem]
      cases its with
      | nil => simp at hp
      | cons a b => exact ⟨a, by simp⟩
    have hm : ((its.toArray.size : Nat) : Int) * k ≤ 1000000 := by
      rw [hsz]
      have : ((xs.length : Nat) : Int) * k ≤ 1000 * k := Int.mul_le_mul_of_nonneg_right (by omega) (by omega)
      omega
    have fl : ∀ ws : List Value, ws.length = xs.length → (List.replicate k.toNat ws).flatten.length ≤ sizeLine := fun ws e => by
      rw [PyProof.Rows.lm_len_rep_flat, e, sizeLine_eq]
      have : k.toNat * xs.length ≤ 1000 * 1000 := Nat.mul_le_mul (by omega) hz
      omega
    have fl2 : (List.replicate k.toNat xs).flatten.length ≤ sizeLine := by
      rw [PyProof.Rows.lm_len_rep_flat, sizeLine_eq]
      have : k.toNat * xs.length ≤ 1000 * 1000 := Nat.mul_le_mul (by omega) hz
      omega
    refine wpAny_binaryOp_repeat_ref (T := "tuple") (U := "int") (by decide) ⟨_, ho, rfl⟩ (fun s' => typeIs_int s' k t) noFill_tuple_mul F.fills_int_mul F.slot_int_rmul repeat_tuple F.slot_int_index.lookup ?_
    refine call_meets F.slot_int_rmul (typeIs_int s k t) F.entry_int_rmul (F.args_int_rmul_2 _ _) (int_rmul_tuple k t l its.toArray n dd sl) ⟨ho, rfl, ⟨_, ho, rfl⟩, ?_⟩
    refine call_meets F.slot_tuple_mul ⟨_, ho, rfl⟩ F.entry_tuple_mul (F.args_tuple_mul_2 _ _) (tuple_mulW l its.toArray n dd sl k t ?_ ?_ ?_ (by omega) ?_ (by rw [size_rep, List.size_toArray]; exact fl its hle)) ⟨ho, ?_⟩
    · simp only [Bool.or_eq_false_iff, decide_eq_false_iff_not]
      omega
    · rw [hi]
      simp only [Bool.false_or, beq_eq_false_iff_ne]
      exact c
    · rw [hi]
      simp only [Bool.or_false, decide_eq_false_iff_not]
      omega
    · unfold Builtin.Tuple.tupleTooMany
      simp only [decide_eq_false_iff_not]
      rw [sizeLine_eq]
      omega
    · rw [size_rep]
      exact new_tup I (r.rep k.toNat) fl2 (q2 c)
end
/-- * of ints, list by int, tuple by int -/
def mulT : D → D → Option D
  | .tuple xs, .int k => if xs.length ≠ 0 ∧ 1 ≤ k ∧ k ≤ 1000 ∧ xs.length ≤ 1000 then some (.tuple (List.replicate k.toNat xs).flatten) else none
  | a, b => mulD a b
section
variable {X : Cx}
theorem od_mulT : OpD X (binaryOp .Mult) mulT := by
  obtain ⟨r0, h0, m0⟩ := od_mul (X := X)
  refine ⟨_, h0.or op_repTP, fun H F x y a b d Q hE ra rb h k => ?_⟩
  cases a with
  | tuple xs =>
    cases b with
    | int j =>
      have h : (if xs.length ≠ 0 ∧ 1 ≤ j ∧ j ≤ 1000 ∧ xs.length ≤ 1000 then some (PyData.tuple (List.replicate j.toNat xs).flatten) else none) = some d := h
      by_cases c : xs.length ≠ 0 ∧ 1 ≤ j ∧ j ≤ 1000 ∧ xs.length ≤ 1000
      · rw [if_pos c] at h
        cases h
        have ra' := ra
        cases rb
        obtain ⟨p, vs, rfl, hp, r⟩ := ra.tup_inv
        have hl := r.length
        refine .inr ⟨p, j, vs, rfl, rfl, (hp.mono hE).sq, fun z => c.1 (by rw [← hl, z]; rfl), c.2.1, c.2.2.1, by omega, fun e => ?_, fun _ o ob ho hd => ?_⟩
        · subst e
          refine k _ H F (.refl hE) ?_
          simpa using ra'
        · have st : Stq H F (upd H o (.frz ob (.tup (List.replicate j.toNat vs).flatten))) (upd F o (.frz ob (.tup (List.replicate j.toNat vs).flatten))) := .new hE ho fun z => z
          exact k _ _ _ st (.tup (.new hd) ((r.flat_rep _).mono st.hh))
      · rw [if_neg c] at h
        cases h
    | _ => exact .inl (m0 H F x y _ _ d Q hE ra rb h k)
  | _ => exact .inl (m0 H F x y _ _ d Q hE ra rb h k)
end
/-! ### new lists that will be changed -/
def OpN (X : Cx) (f : Value → Value → Sem Value) (g : D → D → Option (List D)) : Prop := ∃ r : R2, OpR X f r ∧
  ∀ (H F : Hp) (x y : V) (a b : D) (ds : List D) (Q : VK), Ex H F → Rp H x a → Rp H y b → g a b = some ds → (∀ q vs, F q = none → Rps H vs ds → Q (.ref q) (upd F q (.lst vs))) → r x y F Q
def repN : D → D → Option (List D)
  | .list xs, .int k => if 0 ≤ k ∧ k ≤ 100000 ∧ xs.length ≤ 100 then some (List.replicate k.toNat xs).flatten else none
  | _, _ => none
def catN : D → D → Option (List D)
  | .list xs, .list ys => if xs.length + ys.length ≤ 16777216 then some (xs ++ ys) else none
  | _, _ => none
section
variable {X : Cx} {S : Type} {T : Tie S} {ρ : List Sl} {ma mb : M S D} {a b : Expr} {pos : Pos} {g : D → D → Option (List D)}
theorem on_rep : OpN X (binaryOp .Mult) repN := ⟨_, op_rep, fun H F x y a b ds Q hE ra rb h k => by
  unfold repN at h
  split at h
  · rename_i xs j
    split at h
    · rename_i c
      cases h
      cases rb
      obtain ⟨p, vs, rfl, hp, r⟩ := ra.list_inv
      have hl := r.length
      refine ⟨p, j, vs, rfl, rfl, hE _ _ hp, by omega, by omega, ?_, fun q hq => k q _ hq (r.flat_rep _)⟩
      rw [sizeLine_eq]
      have : vs.length * j.toNat ≤ 100 * 100000 := Nat.mul_le_mul (by omega) (by omega)
      omega
    · cases h
  · cases h⟩
theorem on_cat : OpN X (binaryOp .Add) catN := ⟨_, op_cat, fun H F x y a b ds Q hE ra rb h k => by
  unfold catN at h
  split at h
  · rename_i xs ys
    split at h
    · rename_i c
      cases h
      obtain ⟨p, vs, rfl, hp, r⟩ := ra.list_inv
      obtain ⟨q, ws, rfl, hq, r2⟩ := rb.list_inv
      exact ⟨p, q, vs, ws, rfl, rfl, hE _ _ hp, hE _ _ hq, by rw [sizeLine_eq, r.length, r2.length]; exact c, fun o ho => k o _ ho (r.append r2)⟩
    · cases h
  · cases h⟩
theorem jn_bin {op : Operator} (ho : OpN X (binaryOp op) g) (ha : JE X T a ρ ma) (hb : JE X T b ρ mb) : JX X T (.BinOp a op b pos) ρ Sl.own (B ma fun x => B mb fun y => L (g x y)) := by
  obtain ⟨r, h1, h2⟩ := ho
  refine ⟨fun {σ H F s d s'} hE hR hA hm Q k => ?_⟩
  obtain ⟨x, s1, m1, hm⟩ := B_some hm
  obtain ⟨y, s2, m2, hm⟩ := B_some hm
  obtain ⟨hg, rfl⟩ := L_some hm
  refine sE_of (pe_op h1 (pE X a) (pE X b)) (ha.run hE hR hA m1 _ fun v H1 F1 st1 a1 r1 => hb.run st1.hf (hR.step st1) a1 m2 _ fun u H2 F2 st2 a2 r2 => ?_)
  refine h2 H2 F2 v u x y d _ st2.hf (r1.mono st2.hh) r2 hg fun q vs hq rv => ?_
  have st := st1.trans st2
  obtain ⟨st3, a3, r3⟩ := own_new (K := X.K) st.hf hq a2 rv
  refine k _ _ _ (st.trans st3) a3 r3 fun _ c ec => ?_
  cases ec
  cases e : F q with
  | none => rfl
  | some o =>
    have nt : ¬ T.pt q := fun z => T.used _ _ _ q a2 z hq
    have := st.ff _ _ nt e
    rw [hq] at this
    cases this
end
end DL

set_option Elab.async false
set_option linter.all false
set_option maxRecDepth 100000
set_option maxHeartbeats 2000000
/-! DLView: a list that is still changed, handed to a def that hands back a plain value. -/
namespace DL
open PySem PySem.Spec PyProof.Rows L2
/-- what is known, with all lists that stand -/
noncomputable def allL (Tq : Addr → Prop) (H F : Hp) : Hp := fun a => open Classical in match H a with
  | some u => some u
  | none => if ¬ Tq a ∧ ∃ ws, F a = some (.lst ws) then F a else none
theorem allL_some {Tq : Addr → Prop} {H F : Hp} {a : Addr} {u : HO} (h : allL Tq H F a = some u) : H a = some u ∨ (H a = none ∧ ¬ Tq a ∧ F a = some u ∧ ∃ ws, u = .lst ws) := by
  unfold allL at h
  cases e : H a with
  | some t => rw [e] at h; exact .inl h
  | none =>
    rw [e] at h
    have h : (open Classical in if ¬ Tq a ∧ ∃ ws, F a = some (.lst ws) then F a else none) = some u := h
    split at h
    · rename_i c
      obtain ⟨c1, ws, c2⟩ := c
      exact .inr ⟨rfl, c1, h, ws, by rw [c2] at h; exact (Option.some.inj h).symm⟩
    · cases h
theorem allL_ex {Tq : Addr → Prop} {H F : Hp} : Ex H (allL Tq H F) := fun a u e => by
  unfold allL
  rw [e]
theorem allL_of {Tq : Addr → Prop} {H F : Hp} {a : Addr} {ws : List V} (h : H a = none) (n : ¬ Tq a) (f : F a = some (.lst ws)) : allL Tq H F a = some (.lst ws) := by
  unfold allL
  rw [h]
  show (open Classical in if ¬ Tq a ∧ ∃ ws, F a = some (.lst ws) then F a else none) = _
  rw [if_pos ⟨n, ws, f⟩]
  exact f
theorem allL_le {Tq : Addr → Prop} {H F : Hp} (e : Ex H F) : Ex (allL Tq H F) F := fun a u z => by
  rcases allL_some z with z | ⟨_, _, z, _⟩
  · exact e _ _ z
  · exact z
theorem Rvs.all {Tq : Addr → Prop} {H F : Hp} : ∀ {vs : List V} {ds : List D}, Rvs Tq H F vs ds → Rps (allL Tq H F) vs ds
  | _, _, .nil => .nil
  | _, _, .cons h r => by
    refine .cons ?_ (Rvs.all r)
    rcases h with h | ⟨p, vs, ds, rfl, rfl, h3, h4, h5, h6⟩
    · exact h.mono allL_ex
    · exact .lst (allL_of h3 h4 h5) (h6.mono allL_ex)
/-- what was a list for the call alone is none again -/
noncomputable def backL (H Hc H1 : Hp) : Hp := fun a => open Classical in if H a = none ∧ Hc a ≠ none then none else H1 a
def flatO (o : Option D) : Option D := o.bind fun d => if flatD d then some d else none
theorem flatO_some {o : Option D} {d : D} (h : flatO o = some d) : o = some d ∧ flatD d = true := by
  unfold flatO at h
  cases o with
  | none => cases h
  | some x =>
    have h : (if flatD x then some x else none) = some d := h
    split at h
    · rename_i c
      cases h
      exact ⟨rfl, c⟩
    · cases h
theorem flatO_of {d : D} (h : flatD d = true) : flatO (some d) = some d := by
  show (if flatD d then some d else none) = some d
  rw [if_pos h]
/-- the heaps behind such a call -/
theorem view_back {TT : List (Addr × Str)} {Tq : Addr → Prop} {H F H1 F1 : Hp} (hE : Ex H F) (ht : TabsOk TT H F) (hq : ∀ a, tpt TT a → Tq a) (st : StT TT (allL Tq H F) F H1 F1) (t1 : TabsOk TT H1 F1) :
    StT TT H F (backL H (allL Tq H F) H1) F1 ∧ TabsOk TT (backL H (allL Tq H F) H1) F1 := by
  have at_ : ∀ a, ¬ (H a = none ∧ allL Tq H F a ≠ none) → backL H (allL Tq H F) H1 a = H1 a := fun a n => if_neg n
  have at0 : ∀ a, (H a = none ∧ allL Tq H F a ≠ none) → backL H (allL Tq H F) H1 a = none := fun a n => if_pos n
  have le : Ex (backL H (allL Tq H F) H1) H1 := fun a u e => by
    by_cases c : H a = none ∧ allL Tq H F a ≠ none
    · rw [at0 a c] at e; cases e
    · rw [at_ a c] at e; exact e
  refine ⟨⟨fun a u e => ?_, fun a u e => st.hf _ _ (le _ _ e), st.ff, fun a n1 n2 => ?_, fun a t e => ?_⟩, fun p hp => ?_⟩
  · rw [at_ a fun c => by rw [e] at c; cases c.1]
    exact st.hh _ _ (allL_ex _ _ e)
  · by_cases c : H a = none ∧ allL Tq H F a ≠ none
    · exact absurd (at0 a c) n2
    · rw [at_ a c] at n2
      refine st.fr a ?_ n2
      cases e : allL Tq H F a with
      | none => rfl
      | some u => exact absurd ⟨n1, by rw [e]; simp⟩ c
  · by_cases c : H a = none ∧ allL Tq H F a ≠ none
    · exact at0 a c
    · rw [at_ a c]
      exact t1.hout t
  · obtain ⟨g1, ps, g2, g3, g4⟩ := t1 p hp
    refine ⟨?_, ps, g2, g3, fun pos cv hc => ?_⟩
    · by_cases c : H p.1 = none ∧ allL Tq H F p.1 ≠ none
      · exact at0 _ c
      · rw [at_ _ c]; exact g1
    · obtain ⟨c, e1, e2⟩ := g4 pos cv hc
      refine ⟨c, e1, ?_⟩
      rw [at_ c fun q => ?_]
      · exact e2
      · obtain ⟨q1, q2⟩ := q
        cases e : allL Tq H F c with
        | none => exact q2 e
        | some u =>
          rcases allL_some e with z | ⟨_, _, _, ws, z⟩
          · rw [q1] at z; cases z
          · have := st.hh _ _ e
            rw [e2, z] at this
            cases this
theorem tabs_all {TT : List (Addr × Str)} {Tq : Addr → Prop} {H F : Hp} (ht : TabsOk TT H F) : TabsOk TT (allL Tq H F) F := fun p hp => by
  obtain ⟨g1, ps, g2, g3, g4⟩ := ht p hp
  refine ⟨?_, ps, g2, g3, fun pos cv hc => ?_⟩
  · cases e : allL Tq H F p.1 with
    | none => rfl
    | some u =>
      rcases allL_some e with z | ⟨_, _, z, ws, zz⟩
      · rw [g1] at z; cases z
      · rw [g2, zz] at z; cases z
  · obtain ⟨c, e1, e2⟩ := g4 pos cv hc
    exact ⟨c, e1, allL_ex _ _ e2⟩
section
variable {X : Cx} {S : Type} {T : Tie S} {ρ : List Sl} {m : M S D} {e : Expr} {es : List Expr} {p pos : Pos} {x : Str}
theorem je_callV {k j : Nat} {ps : List Str} {mf : List D → Option D} (o : DOk X.prog X.w X.K X.mg X.base k x ps (spF T.tb mf)) (hr : Room j X.A) (hk : k ≤ j) (hg : Gl X x) (ha : JAV X T (e :: es) ρ (fun ds => L (flatO (mf ds))) m) (hdb : (x == ("__debug__" : Str)) = false := by decide)
    (he : starEach (e :: es) X.env = (false, eval e X.env) :: starEach es X.env := by rfl) (hpl : (backTo pos (starEach es X.env)).any (·.1) = false := by rfl) : JE X T (.Call (.Name x p) (e :: es) [] pos) ρ m := ⟨fun {σ H F s d s'} hE hR hA hm' Q kq => by
  obtain ⟨h1, h2, fd, h3, h4⟩ := o
  refine sE_of (pe_call h4 (hr.mono hk) hg h1 h2 h3 .nil (E := fun _ _ _ => False) pass0 (pA X (e :: es)) hdb he hpl) (ha.run hE hR hA hm' _ fun vs ds s1 H1 F1 st1 a1 r1 hk' => ?_)
  obtain ⟨hg', rfl⟩ := L_some hk'
  obtain ⟨hg', fl⟩ := flatO_some hg'
  show spF T.tb mf (vs ++ []) F1 Q _
  rw [List.append_nil]
  have t1 := T.tabs _ _ _ a1
  refine ⟨allL T.pt H1 F1, ds, d, allL_le st1.hf, tabs_all t1, r1.all, hg', fun v H2 F2 st2 t2 r2 => ?_⟩
  obtain ⟨st3, t3⟩ := view_back st1.hf t1 T.tsub st2 t2
  exact kq v _ F2 (st1.trans (T.upT a1 st3)) (T.part _ _ _ _ _ a1 st3 t3) (r2.flat fl)⟩
end
end DL

set_option Elab.async false
set_option linter.all false
set_option maxRecDepth 100000
set_option maxHeartbeats 2000000
/-! DLUnp: range downwards; (x, y) = (a, b) through a tuple, lists among them that will be changed. -/
namespace DL
open PySem PySem.Spec PyProof.Rows L2
/-- i, i - 1, .., j + 1 -/
def rgD (i j : Int) : List D := (List.range (i - j).toNat).map fun (k : Nat) => PyData.int (i - k)
theorem rgD_length {i j : Int} : (rgD i j).length = (i - j).toNat := by simp [rgD]
theorem rgD_get {i j : Int} {k : Nat} (h : k < (i - j).toNat) : (rgD i j)[k]? = some (.int (i - k)) := by
  unfold rgD
  rw [List.getElem?_map, List.getElem?_range h]
  rfl
def range3L : List D → Option (List D)
  | [.int i, .int j, .int c] => if -(2 ^ 62) ≤ i ∧ i < 2 ^ 62 ∧ -(2 ^ 62) ≤ j ∧ j < 2 ^ 62 ∧ c = -1 then some (rgD i j) else none
  | _ => none
theorem range3L_some {ds : List D} {r : List D} (h : range3L ds = some r) : ∃ i j, ds = [.int i, .int j, .int (-1)] ∧ (-(2 ^ 62) ≤ i ∧ i < 2 ^ 62 ∧ -(2 ^ 62) ≤ j ∧ j < 2 ^ 62) ∧ r = rgD i j := by
  unfold range3L at h
  split at h
  · split at h
    · rename_i c
      cases h
      obtain ⟨c1, c2, c3, c4, c5⟩ := c
      subst c5
      exact ⟨_, _, rfl, ⟨c1, c2, c3, c4⟩, rfl⟩
    · cases h
  · cases h
theorem walkD_down {b : Bool} {H F : Hp} {i j : Int} : WalkD b (fun _ => False) (Itc i (-1) (i - j).toNat) (rgD i j) H F where
  goes := fun k H1 F1 e1 e2 u h => by rw [rgD_length] at h; exact h
  stops := fun H1 F1 e1 e2 u => by rw [rgD_length]; exact Nat.le_refl _
  yields := fun k H1 F1 x F2 e1 e2 u h y => by
    obtain ⟨rfl, rfl⟩ := y
    rw [rgD_length] at h
    refine ⟨H1, _, .refl e2, rgD_get h, .inl ?_⟩
    have e : i + (k : Nat) * (-1 : Int) = i - k := by omega
    rw [e]
    exact .int _
section
variable {X : Cx} {S : Type} {T : Tie S} {ρ : List Sl} {tg a b c : Expr} {ma : M S (List D)} {p pos : Pos}
theorem ji_range3 (hg : Gl X "range") (hm : X.mg "range" = none) (ha : JA X T [a, b, c] ρ (fun ds => L (range3L ds)) ma)
    (hs : starEach [a, b, c] X.env = (false, eval a X.env) :: starEach [b, c] X.env := by rfl) (hpl : (backTo pos (starEach [b, c] X.env)).any (·.1) = false := by rfl) :
    JI X T tg (.Call (.Name "range" p) [a, b, c] [] pos) ρ true ma := ⟨fun {σ H F s ds s'} hE hR hA hm' R k => by
  refine sI_of (pi_range3 hg hm (pA X _) hs hpl) (ha.run hE hR hA hm' _ fun vs es s1 H1 F1 st1 a1 r1 hk => ?_)
  obtain ⟨hq, rfl⟩ := L_some hk
  obtain ⟨i, j, rfl, cc, rfl⟩ := range3L_some hq
  exact ⟨i, j, -1, _, r1.int3, RgC.neg cc.1 cc.2.1 cc.2.2.1 cc.2.2.2, k _ _ H1 F1 st1 a1 (fun _ h => h.elim) (fun _ _ h => h) walkD_down⟩⟩
end
/-! ### x, y = a, b through a tuple -/
section
variable {X : Cx} {S β δ1 δ2 : Type} {T : Tie S} {ρ : List Sl} {out : β → Oc} {mk1 : δ1 → Sl} {mk2 : δ2 → Sl} {m1 : M S δ1} {m2 : M S δ2} {a b : Expr} {rest : List Stmt} {pos : Pos}
theorem js_unp2 {i j : Nat} {x y : Str} {px py pt : Pos} {kt k2 : Nat} {pt2 : Pos} {f : δ1 → δ2 → M S β} (hc : X.calm = true) (hN : X.N.Nodup) (hi : X.N[i]? = some x) (hj : X.N[j]? = some y) (hij : i ≠ j) (hx : Loc X.env.scope x) (hy : Loc X.env.scope y)
    (h1 : JX X T a ρ mk1 m1) (h2 : JX X T b ρ mk2 m2) (hr : ∀ d e, JS X T rest ((ρ.set i (mk1 d)).set j (mk2 e)) (f d e) out)
    (hs : swapsWithSole [.Tuple [.Name x px, .Name y py] kt pt] (.Tuple [a, b] k2 pt2) pos.line X.env = pure false := by rfl) (hw : swappedStores [.Tuple [.Name x px, .Name y py] kt pt] (.Tuple [a, b] k2 pt2) X.env = pure none := by rfl)
    (ho : (assignEach [.Tuple [.Name x px, .Name y py] kt pt] X.env).map (·.2) = [assign (.Tuple [.Name x px, .Name y py] kt pt) X.env] := by rfl)
    (hs1 : starEach (a :: [b]) X.env = (false, eval a X.env) :: starEach [b] X.env := by rfl) (hs2 : starEach (b :: []) X.env = (false, eval b X.env) :: starEach [] X.env := by rfl)
    (hfx : X.fn x = true ∨ X.env.scope.names.lookup x = some .local := by first | exact .inl rfl | exact .inr rfl | assumption) (hfy : X.fn y = true ∨ X.env.scope.names.lookup y = some .local := by first | exact .inl rfl | exact .inr rfl | assumption) :
    JS X T (.Assign [.Tuple [.Name x px, .Name y py] kt pt] (.Tuple [a, b] k2 pt2) pos :: rest) ρ (B m1 fun d => B m2 fun e => f d e) out := ⟨fun {σ H F C s b' s'} w hm Dn k => by
  obtain ⟨d, s1, e1, hm1⟩ := B_some hm
  obtain ⟨e, s2, e2, hm2⟩ := B_some hm1
  refine sSs_of (pss_cons (ps_asg (pe_tup (pa_cons (pE X a) (pa_cons (pE X b) pa_nil hs2) hs1)) (pg_tup hc (pgs_cons (pg_name hN hi hx hfx) (pgs_cons (pg_name hN hj hy hfy) pgs_nil))) hs hw ho) (pSs X rest)) ?_
  refine h1.run w.ex w.env w.at_ e1 _ fun v1 H1 F1 st1 a1 r1 n1 => h2.run st1.hf (w.env.step st1) a1 e2 _ fun v2 H2 F2 st2 a2 r2 n2 => ⟨by rw [sizeLine_eq]; simp, fun t ht => ?_⟩
  refine ⟨t, [v1, v2], rfl, .inl (.inl upd_same), rfl, v1, [v2], rfl, v2, [], rfl, rfl, ?_⟩
  have w1 := w.step st1 a1
  have w2 := w1.step st2 a2
  have nt : ¬ T.pt t := fun z => T.used _ _ _ t a2 z ht
  have st3 : Stq H2 F2 H2 (upd F2 t (.tup [v1, v2])) := ⟨Evl.Ex.refl _, fun c u z => by rw [upd_ne (ne_of_none (w2.ex _ _ z) ht)]; exact w2.ex _ _ z, fun c u _ z => by rw [upd_ne (ne_of_none z ht)]; exact z, fun c z1 z2 => absurd z1 z2, fun _ z => z.elim⟩
  have w3 := w2.step (st3.up a2) (st3.at a2)
  have fr1 : isOwn (mk1 d) = true → ∀ q, v1 = .ref q → C q = none ∧ ∀ (j : Nat) (sl' : Sl), ρ[j]? = some sl' → isOwn sl' = true → σ[j]? ≠ some (some (V.ref q)) := fun o q eq => w.fresh (n1 o q eq)
  refine (hr d e).run ((w3.set i ((r1.step st2).step (st3.up a2)) fr1).set j (r2.step (st3.up a2)) fun o q eq => ?_) hm2 Dn ((k.mono st1.hh).mono st2.hh)
  have hq := n2 o q eq
  obtain ⟨c1, c2⟩ := w1.fresh hq
  refine ⟨c1, fun l sl' hl ol => ?_⟩
  by_cases c : i = l
  · subst c
    have hlt : i < ρ.length := by
      have := (List.getElem?_eq_some_iff.mp hl).1
      simpa using this
    rw [List.getElem?_set_self (by rw [← w.env.len]; exact hlt)]
    intro z
    have ev : v1 = .ref q := Option.some.inj (Option.some.inj z)
    rw [List.getElem?_set_self hlt] at hl
    cases hl
    cases hmk : mk1 d with
    | own xs =>
      rw [hmk] at r1
      obtain ⟨p', vs', g2, _, _, g5, _⟩ := r1
      rw [ev] at g2
      cases g2
      rw [hq] at g5
      cases g5
    | dic kvs =>
      rw [hmk] at r1
      obtain ⟨p', vs', g2, _, _, g5, _⟩ := r1
      rw [ev] at g2
      cases g2
      rw [hq] at g5
      cases g5
    | _ => rw [hmk] at ol; cases ol
  · rw [List.getElem?_set_ne c] at hl ⊢
    exact c2 l sl' hl ol⟩
end
end DL

set_option Elab.async false
set_option linter.all false
set_option maxRecDepth 100000
set_option maxHeartbeats 2000000
/-! DLZip: zip of a tuple and a list. -/
namespace DL
open PySem PySem.Spec PyProof.Rows L2
/-- list or tuple -/
inductive Sk where
  | l
  | t
def Sk.it : Sk → Heap → Addr → Addr → Nat → Prop
  | .l, h, i, a, n => h.IsListIter i a n
  | .t, h, i, a, n => h.IsTupleIter i a n
def Sk.at : Sk → Heap → Addr → Array Value → Prop
  | .l, h, a, xs => h.IsList a xs
  | .t, h, a, xs => h.IsTuple a xs
def Sk.sq : Sk → PySem.W.Frag → Hp → Addr → List V → Prop
  | .l, K, H, a, xs => SqL K H a xs
  | .t, K, H, a, xs => SqT K H a xs
theorem Sk.draws (k : Sk) {P : Program} {w : World} {A : Around} (hh : A.handled = none) (i a : Addr) (hne : a ≠ i) (xs : Array Value) : Draws P w A i [i, a] xs.size (fun n v => xs[n]? = some v) (fun n h => k.it h i a n ∧ k.at h a xs) := by
  cases k with
  | l => exact Draws.list hh i a hne xs
  | t => exact Draws.tuple hh i a hne xs
theorem Sk.ob (k : Sk) {h : Heap} {i a : Addr} {n : Nat} (x : k.it h i a n) : ∃ o, h.get? i = some o ∧ ∀ v, o.data ≠ .cell v := by
  cases k with
  | l => obtain ⟨o, e, _, d⟩ := x; exact ⟨o, e, fun v z => by rw [d] at z; cases z⟩
  | t => obtain ⟨o, e, _, d⟩ := x; exact ⟨o, e, fun v z => by rw [d] at z; cases z⟩
theorem Sk.keep (k : Sk) {h h' : Heap} {i a : Addr} {n : Nat} (x : k.it h i a n) (kk : ∀ o, h.get? i = some o → h'.get? i = some o) : k.it h' i a n := by
  cases k with
  | l => obtain ⟨o, e, r⟩ := x; exact ⟨o, kk _ e, r⟩
  | t => obtain ⟨o, e, r⟩ := x; exact ⟨o, kk _ e, r⟩
theorem Sk.get (k : Sk) {X : Cx} {pins : List (Addr × Obj)} {σ : L2.St} {H : Hp} {s : Shared} (I : Inv X pins σ H s) {a : Addr} {xs : List V} (h : k.sq X.K H a xs) : ∃ its : List Value, Vals xs its ∧ k.at s.heap a its.toArray ∧ a < s.heap.objs.size := by
  cases k with
  | l =>
    obtain ⟨its, r, p, _⟩ := I.list h
    exact ⟨its, r, p.isList, p.lt⟩
  | t =>
    obtain ⟨its, r, p, _⟩ := I.tuple h
    obtain ⟨o, ho, _⟩ := id p
    exact ⟨its, r, p, Heap.lt_size ho⟩
theorem Sk.inj (k : Sk) {X : Cx} {pins : List (Addr × Obj)} {σ : L2.St} {H : Hp} {s : Shared} (I : Inv X pins σ H s) {a : Addr} {xs ys : List V} (h : k.sq X.K H a xs) (h' : k.sq X.K H a ys) : xs = ys := by
  cases k with
  | l => exact I.list_inj h h'
  | t => exact I.tuple_inj h h'
/-- the two rows as they stand at each turn -/
def ItM (k1 k2 : Sk) (K : PySem.W.Frag) (a b : Addr) : It :=
  ⟨fun i H => ∃ (xs ys : List V) (x y : V), k1.sq K H a xs ∧ k2.sq K H b ys ∧ xs[i]? = some x ∧ ys[i]? = some y,
    fun i H v H' => ∃ Tq x y, v = .ref Tq ∧ H Tq = none ∧ H' = upd H Tq (.tup [x, y]) ∧ (∀ xs, k1.sq K H a xs → xs[i]? = some x) ∧ ∀ ys, k2.sq K H b ys → ys[i]? = some y,
    fun i H => ∃ xs ys : List V, k1.sq K H a xs ∧ k2.sq K H b ys ∧ (xs.length = i ∧ i ≤ ys.length ∨ ys.length = i ∧ i ≤ xs.length)⟩
theorem sep_of {z TI TO i1 i2 a b : Addr} (D : ZipApart z TI TO i1 i2 a b) : PySem.ZipSep2 z TI TO i1 i2 [i1, a] [i2, b] := by
  refine ⟨D.TIz, D.TOz, D.TITO, D.TIi1, by simp, ?_, ?_, D.TIi2, by simp, ?_, ?_, ?_, ?_⟩
  · simp only [List.mem_cons, List.not_mem_nil, or_false, not_or]; exact ⟨D.i1z.symm, D.l1z.symm⟩
  · simp only [List.mem_cons, List.not_mem_nil, or_false, not_or]; exact ⟨D.TOi1, D.l1TO.symm⟩
  · simp only [List.mem_cons, List.not_mem_nil, or_false, not_or]; exact ⟨D.i2z.symm, D.l2z.symm⟩
  · simp only [List.mem_cons, List.not_mem_nil, or_false, not_or]; exact ⟨D.TOi2, D.l2TO.symm⟩
  · simp only [List.mem_cons, List.not_mem_nil, or_false, not_or]; exact ⟨D.i12, D.l2i1.symm⟩
  · simp only [List.mem_cons, List.not_mem_nil, or_false, not_or]; exact ⟨D.i12.symm, D.l1i2.symm⟩
theorem turn_zipM {k1 k2 : Sk} {P : Program} {w : World} {K : PySem.W.Frag} {elts : List Expr} {kk : Nat} {tpos : Pos} {a b z TI TO i1 i2 : Addr} (D : ZipApart z TI TO i1 i2 a b) :
    Turn P w K (.Tuple elts kk tpos) (ItM k1 k2 K a b) [z, TI, TO, i1, i2] z (fun i h => IsZip h z TI TO .none ∧ IsPair h TI (.ref i1) (.ref i2) ∧ (∃ x y, IsPair h TO x y) ∧ k1.it h i1 a i ∧ k2.it h i2 b i) where
  mem := by simp
  obj := fun i h st c hc => by
    obtain ⟨hz, hTI, ⟨x, y, hTO⟩, h1, h2⟩ := st
    simp only [List.mem_cons, List.not_mem_nil, or_false] at hc
    rcases hc with rfl | rfl | rfl | rfl | rfl
    · exact ⟨_, hz, fun v q => nomatch q⟩
    · exact ⟨_, hTI, fun v q => nomatch q⟩
    · exact ⟨_, hTO, fun v q => nomatch q⟩
    · exact k1.ob h1
    · exact k2.ob h2
  keep := fun i h h' st k => by
    obtain ⟨hz, hTI, ⟨x, y, hTO⟩, h1, h2⟩ := st
    exact ⟨k z (by simp) _ hz, k TI (by simp) _ hTI, ⟨x, y, k TO (by simp) _ hTO⟩, k1.keep h1 fun o q => k i1 (by simp) o q, k2.keep h2 fun o q => k i2 (by simp) o q⟩
  item := by
    intro X hP hw hK hc i pins s σ H E I hf st hg
    subst hP hw hK
    obtain ⟨hz, hTI, ⟨x0, y0, hTO⟩, h1, h2⟩ := st
    obtain ⟨xs, ys, x, y, hqx, hqy, hx, hy⟩ := hg
    obtain ⟨its, rv, p, _⟩ := k1.get I hqx
    obtain ⟨its2, rv2, p2, _⟩ := k2.get I hqy
    obtain ⟨u, hu, ru⟩ := rv.get hx
    obtain ⟨u2, hu2, ru2⟩ := rv2.get hy
    have hzl : z < s.heap.objs.size := Heap.lt_size hz
    have l1 : i < its.toArray.size := by simp; exact (List.getElem?_eq_some_iff.mp hu).1
    have l2 : i < its2.toArray.size := by simp; exact (List.getElem?_eq_some_iff.mp hu2).1
    refine PySem.wpAny_pyNext_zipD2_item (sep_of D) (k1.draws (A := X.A.in1) (by simpa using I.ok.hd hc) i1 a D.l1i1 its.toArray) (k2.draws (A := X.A.in1) (by simpa using I.ok.hd hc) i2 b D.l2i2 its2.toArray) hz hTI hTO ⟨h1, p⟩ ⟨h2, p2⟩ l1 l2 fun w1 w2 h' tk q1 q2 z' TO' n1 n2 hT hsz hk => ?_
    have e1 : w1 = u := by
      have q1 : its.toArray[i]? = some w1 := q1
      rw [← Array.getElem?_toList] at q1
      exact Option.some.inj (q1.symm.trans hu)
    have e2 : w2 = u2 := by
      have q2 : its2.toArray[i]? = some w2 := q2
      rw [← Array.getElem?_toList] at q2
      exact Option.some.inj (q2.symm.trans hu2)
    subst e1 e2
    refine ⟨_, rfl, wpAny_letOwnedTupleGo_zip (s := { s with heap := h', toks := tk }) z' fun h'' z'' sb => ?_⟩
    have hT2 : h''.get? s.heap.objs.size = some { cls := .type "tuple", data := .seq #[w1, w2] } := (sb.2 _ (Nat.ne_of_gt hzl)).trans hT
    have new : ObjOk X.prog X.w (upd H s.heap.objs.size (.tup [x, y])) h'' s.heap.objs.size (.tup [x, y]) :=
      ⟨by show 2 ≤ sizeLine; decide, [w1, w2], .cons ru (.cons ru2 .nil), ⟨_, hT2, rfl, _, rfl⟩⟩
    have I1 : Inv X pins σ (upd H s.heap.objs.size (.tup [x, y])) { s with heap := h'', toks := tk } :=
      I.turnedNew (t' := tk) (ch := [z, TI, TO, i1, i2]) (fun c o hb q => by
        simp only [List.mem_cons, List.not_mem_nil, or_false, not_or] at hb
        exact (sb.2 c hb.1).trans (hk c o hb.1 hb.2.2.1 hb.2.2.2.1 hb.2.2.2.2 q)) hf (Nat.le_refl _) new
    refine ⟨.ref s.heap.objs.size, _, I1, rfl, ⟨_, x, y, rfl, I.hok.fresh (Nat.le_refl _), rfl, fun l hl => by rw [k1.inj I hl hqx]; exact hx, fun l hl => by rw [k2.inj I hl hqy]; exact hy⟩, ⟨z'', ?_, ⟨w1, w2, ?_⟩, ?_, ?_⟩, fun c hcm => ?_⟩
    · exact (sb.2 _ D.TIz).trans (hk _ _ D.TIz D.TITO D.TIi1 D.TIi2 hTI)
    · exact (sb.2 _ D.TOz).trans TO'
    · exact k1.keep n1.1 fun o q => (sb.2 _ D.i1z).trans q
    · exact k2.keep n2.1 fun o q => (sb.2 _ D.i2z).trans q
    · have hlt : c < s.heap.objs.size := by
        simp only [List.mem_cons, List.not_mem_nil, or_false] at hcm
        rcases hcm with rfl | rfl | rfl | rfl | rfl
        · exact hzl
        · exact Heap.lt_size hTI
        · exact Heap.lt_size hTO
        · obtain ⟨o, e, _⟩ := k1.ob h1; exact Heap.lt_size e
        · obtain ⟨o, e, _⟩ := k2.ob h2; exact Heap.lt_size e
      rw [upd_ne (Nat.ne_of_lt hlt)]
      exact (hf c hcm).1
  done := by
    intro X hP hw hK hc i pins s σ H E I hf st hg
    subst hP hw hK
    obtain ⟨hz, hTI, ⟨x0, y0, hTO⟩, h1, h2⟩ := st
    obtain ⟨xs, ys, hqx, hqy, hend⟩ := hg
    obtain ⟨its, rv, p, _⟩ := k1.get I hqx
    obtain ⟨its2, rv2, p2, _⟩ := k2.get I hqy
    have l1 := rv.length
    have l2 := rv2.length
    refine PySem.wpAny_pyNext_zipD2_end (sep_of D) (k1.draws (A := X.A.in1) (by simpa using I.ok.hd hc) i1 a D.l1i1 its.toArray) (k2.draws (A := X.A.in1) (by simpa using I.ok.hd hc) i2 b D.l2i2 its2.toArray) hz hTI hTO ⟨h1, p⟩ ⟨h2, p2⟩ (i := i) (by simp; omega) (by simp; omega) (by simp; omega) fun h' tk hk => ⟨rfl, I.turnedL (t' := tk) (ch := [z, TI, TO, i1, i2]) (fun c o hb q => by
      simp only [List.mem_cons, List.not_mem_nil, or_false, not_or] at hb
      exact hk c o hb.1 hb.2.2.1 hb.2.2.2.1 hb.2.2.2.2 q) hf⟩
  self := fun A i s Q E st h => wpAny_pyIter_zip st.1 h
/-! ### such a zip is made: a tuple first, a list first -/
abbrev zm1 (h : Heap) (n : String) (a : Addr) : Heap := h.push { cls := .type n, data := .fields #[.ref a, .int 0 0] }
abbrev zm3 (h : Heap) (n m : String) (a b : Addr) : Heap := (zm1 (zm1 h n a) m b).push { cls := .type "tuple", data := .seq #[.ref h.objs.size, .ref (zm1 h n a).objs.size] }
abbrev zm4 (h : Heap) (n m : String) (a b : Addr) : Heap := (zm3 h n m a b).push { cls := .type "tuple", data := .seq #[.none, .none] }
abbrev zm5 (h : Heap) (n m : String) (a b : Addr) : Heap := (zm4 h n m a b).push { cls := .type "zip", data := .fields #[.none, .bool false, .bool false, .ref (zm1 (zm1 h n a) m b).objs.size, .ref (zm3 h n m a b).objs.size] }
theorem meets_zipTL (a b : Addr) (xs ys : Array Value) : Meets (Builtin.«zip.__new__» ⟨[.type "zip", .ref a, .ref b], []⟩) (fun _ R s => s.heap.IsTuple a xs ∧ s.heap.IsList b ys ∧
      R (.ok (.ret (.ref (zm4 s.heap "tuple_iterator" "list_iterator" a b).objs.size))) { s with heap := zm5 s.heap "tuple_iterator" "list_iterator" a b }) :=
  .of_wp fun prog w A R s h => by
    obtain ⟨hp, g, d, tk, os⟩ := s
    obtain ⟨hl1, hl2, h⟩ := h
    have hsub := sub_zip
    have hL1 : Heap.IsTuple (Shared.heap ⟨hp, g, d, tk, os⟩) a xs := hl1
    have hL2 : Heap.IsList (Shared.heap ⟨hp.push { cls := .type "tuple_iterator", data := .fields #[.ref a, .int 0 0] }, g, d, tk, os⟩) b ys := Heap.IsList.push hl2 _
    wp_walk using wpAny_pyIter_tuple hL1, wpAny_pyIter_list hL2
    exact ⟨_, rfl, h⟩
section
variable {prog : Program} {w : World} {A : Around} {E : Value → Shared → Prop} {s : Shared}
theorem call_zipTL {a b : Addr} {xs ys : Array Value} {Q : Value → Shared → Prop} (hl1 : s.heap.IsTuple a xs) (hl2 : s.heap.IsList b ys)
    (h : ∀ h', IsZip h' (s.heap.objs.size + 4) (s.heap.objs.size + 2) (s.heap.objs.size + 3) .none → IsPair h' (s.heap.objs.size + 2) (.ref s.heap.objs.size) (.ref (s.heap.objs.size + 1)) →
      IsPair h' (s.heap.objs.size + 3) .none .none → h'.IsTupleIter s.heap.objs.size a 0 → h'.IsListIter (s.heap.objs.size + 1) b 0 →
      (∀ c o, s.heap.get? c = some o → h'.get? c = some o) → Q (.ref (s.heap.objs.size + 4)) { s with heap := h' }) :
    wpAny (model prog w) A (call (.type "zip") [.ref a, .ref b]) Q E s := by
  refine callType_new F.called_zip (by decide) (F.typeCall_zip_2 _ _) (F.newCall_zip_2 _ _) (fun obj => F.args_object_init_3 obj _ _) F.entry_zip_new (meets_zipTL a b xs ys) ⟨hl1, hl2, ?_⟩
  have z1 : (zm1 s.heap "tuple_iterator" a).objs.size = s.heap.objs.size + 1 := Heap.size_push ..
  have z2 : (zm1 (zm1 s.heap "tuple_iterator" a) "list_iterator" b).objs.size = s.heap.objs.size + 2 := by rw [Heap.size_push, z1]
  have z3 : (zm3 s.heap "tuple_iterator" "list_iterator" a b).objs.size = s.heap.objs.size + 3 := by rw [Heap.size_push, z2]
  have z4 : (zm4 s.heap "tuple_iterator" "list_iterator" a b).objs.size = s.heap.objs.size + 4 := by rw [Heap.size_push, z3]
  have up : ∀ {c : Addr} {o : Obj}, (zm1 (zm1 s.heap "tuple_iterator" a) "list_iterator" b).get? c = some o → (zm5 s.heap "tuple_iterator" "list_iterator" a b).get? c = some o := fun e => Heap.get?_push_of_some _ (Heap.get?_push_of_some _ (Heap.get?_push_of_some _ e))
  have g5 : (zm5 s.heap "tuple_iterator" "list_iterator" a b).get? (s.heap.objs.size + 4) = some { cls := .type "zip", data := .fields #[.none, .bool false, .bool false, .ref (zm1 (zm1 s.heap "tuple_iterator" a) "list_iterator" b).objs.size, .ref (zm3 s.heap "tuple_iterator" "list_iterator" a b).objs.size] } := by rw [← z4]; exact Heap.get?_push_size _ rfl
  have g4 : (zm5 s.heap "tuple_iterator" "list_iterator" a b).get? (s.heap.objs.size + 3) = some { cls := .type "tuple", data := .seq #[.none, .none] } := by rw [← z3]; exact Heap.get?_push_of_some _ (Heap.get?_push_size _ rfl)
  have g3 : (zm5 s.heap "tuple_iterator" "list_iterator" a b).get? (s.heap.objs.size + 2) = some { cls := .type "tuple", data := .seq #[.ref s.heap.objs.size, .ref (zm1 s.heap "tuple_iterator" a).objs.size] } := by rw [← z2]; exact Heap.get?_push_of_some _ (Heap.get?_push_of_some _ (Heap.get?_push_size _ rfl))
  have g2 : (zm5 s.heap "tuple_iterator" "list_iterator" a b).get? (s.heap.objs.size + 1) = some { cls := .type "list_iterator", data := .fields #[.ref b, .int 0 0] } := by
    refine up ?_
    rw [← z1]
    exact Heap.get?_push_size _ rfl
  have g1 : (zm5 s.heap "tuple_iterator" "list_iterator" a b).get? s.heap.objs.size = some { cls := .type "tuple_iterator", data := .fields #[.ref a, .int 0 0] } := up (Heap.get?_push_of_some _ (Heap.get?_push_size _ rfl))
  rw [z3, z2] at g5
  rw [z1] at g3
  show _ ∧ _
  rw [z4]
  exact ⟨⟨_, g5, rfl⟩, h _ g5 g3 g4 ⟨_, g1, rfl, rfl⟩ ⟨_, g2, rfl, rfl⟩ fun c o x => up (Heap.get?_push_of_some _ (Heap.get?_push_of_some _ x))⟩
end
def iZipU (K : PySem.W.Frag) (ta : TA) : TI := fun σ H R => ta σ H fun vs H1 => ∃ (k1 k2 : Sk) (a b : Addr) (xs ys : List V), vs = [.ref a, .ref b] ∧ (k1 = .l → k2 = .l) ∧ k1.sq K H1 a xs ∧ k2.sq K H1 b ys ∧ R (ItM k1 k2 K a b) H1
theorem pi_zipU {X : Cx} {e e2 : Expr} {ta : TA} {p pos tpos : Pos} {elts : List Expr} {kk : Nat} (hg : Gl X "zip") (hm : X.mg "zip" = none) (ha : PA X [e, e2] ta)
    (hs : starEach [e, e2] X.env = (false, eval e X.env) :: starEach [e2] X.env := by rfl) (hpl : (backTo pos (starEach [e2] X.env)).any (·.1) = false := by rfl) :
    L2.PI X (.Tuple elts kk tpos) (.Call (.Name "zip" p) [e, e2] [] pos) (iZipU X.K ta) := by
  refine ⟨fun pins s σ H R I h => ?_⟩
  refine Call_ (ld_blt I hg hm PyProof.Rows.boot_zip (PyProof.Rows.callWith_type1 (thn (ha.run pos pins s σ H _ I h) fun us s1 ⟨vs, H1, I1, r1, q1⟩ => ?_) hs hpl))
  obtain ⟨k1, k2, a, b, xs, ys, ex, kc, hqx, hqy, q⟩ := q1
  subst ex
  obtain ⟨u, w', rfl, ru, rw'⟩ := vals2 r1
  cases ru
  cases rw'
  obtain ⟨its, rv, p1, la⟩ := k1.get I1 hqx
  obtain ⟨its2, rv2, p2, lb⟩ := k2.get I1 hqy
  have fp : ∀ c, c ∈ [s1.heap.objs.size + 4, s1.heap.objs.size + 2, s1.heap.objs.size + 3, s1.heap.objs.size, s1.heap.objs.size + 1] → FpOk X pins H1 c := fun c hcm => by
    have hle : s1.heap.objs.size ≤ c := by
      simp only [List.mem_cons, List.not_mem_nil, or_false] at hcm
      rcases hcm with rfl | rfl | rfl | rfl | rfl <;> omega
    exact I1.fpOk hle (I1.hok.fresh hle)
  have D := PySem.W.ktu_apart s1.heap.objs.size a b la lb
  cases k1 with
  | l =>
    cases k2 with
    | l =>
      refine call_zip_2 p1 p2 fun h' hz hTI hTO h1 h2 hsz hk => wpAny_pyIter_zip hz ?_
      exact ⟨_, [s1.heap.objs.size + 4, s1.heap.objs.size + 2, s1.heap.objs.size + 3, s1.heap.objs.size, s1.heap.objs.size + 1], _, _, H1, rfl, I1.kept (t' := s1.toks) hk, turn_zipM (k1 := .l) (k2 := .l) D, ⟨hz, hTI, ⟨_, _, hTO⟩, h1, h2⟩, fp, q⟩
    | t => cases kc rfl
  | t =>
    cases k2 with
    | l =>
      refine call_zipTL p1 p2 fun h' hz hTI hTO h1 h2 hk => wpAny_pyIter_zip hz ?_
      exact ⟨_, [s1.heap.objs.size + 4, s1.heap.objs.size + 2, s1.heap.objs.size + 3, s1.heap.objs.size, s1.heap.objs.size + 1], _, _, H1, rfl, I1.kept (t' := s1.toks) hk, turn_zipM (k1 := .t) (k2 := .l) D, ⟨hz, hTI, ⟨_, _, hTO⟩, h1, h2⟩, fp, q⟩
    | t =>
      refine RZ.call_zipT p1 p2 fun h' hz hTI hTO h1 h2 hsz hk => wpAny_pyIter_zip hz ?_
      exact ⟨_, [s1.heap.objs.size + 4, s1.heap.objs.size + 2, s1.heap.objs.size + 3, s1.heap.objs.size, s1.heap.objs.size + 1], _, _, H1, rfl, I1.kept (t' := s1.toks) hk, turn_zipM (k1 := .t) (k2 := .t) D, ⟨hz, hTI, ⟨_, _, hTO⟩, h1, h2⟩, fp, q⟩
/-- zip of two lists, two tuples, a tuple and a list -/
def zipA : List D → Option (List D)
  | [.list xs, .list ys] => some (pairs2 xs ys)
  | [.tuple xs, .tuple ys] => some (pairs2 xs ys)
  | [.tuple xs, .list ys] => some (pairs2 xs ys)
  | _ => none
def Sk.enc : Sk → List D → D
  | .l, xs => .list xs
  | .t, xs => .tuple xs
theorem zipA_some {ds r : List D} (h : zipA ds = some r) : ∃ (k1 k2 : Sk) (xs ys : List D), ds = [k1.enc xs, k2.enc ys] ∧ (k1 = .l → k2 = .l) ∧ r = pairs2 xs ys := by
  unfold zipA at h
  split at h
  · cases h; exact ⟨.l, .l, _, _, rfl, fun _ => rfl, rfl⟩
  · cases h; exact ⟨.t, .t, _, _, rfl, nofun, rfl⟩
  · cases h; exact ⟨.t, .l, _, _, rfl, nofun, rfl⟩
  · cases h
theorem Sk.inv (k : Sk) {H : Hp} {v : V} {xs : List D} (r : Rp H v (k.enc xs)) : ∃ a vs, v = .ref a ∧ Rps H vs xs ∧ ∀ {H1 F1 : Hp} {K : PySem.W.Frag}, Ex H H1 → Ex H1 F1 → k.sq K F1 a vs := by
  cases k with
  | l =>
    obtain ⟨a, vs, rfl, h, r⟩ := r.list_inv
    exact ⟨a, vs, rfl, r, fun e1 e2 => SqL.of (e2 _ _ (e1 _ _ h))⟩
  | t =>
    obtain ⟨a, vs, rfl, h, r⟩ := r.tup_inv
    exact ⟨a, vs, rfl, r, fun e1 e2 => ((h.mono e1).mono e2).sq⟩
section
variable {X : Cx} {S : Type} {T : Tie S} {ρ : List Sl} {a b : Expr} {p pos tpos : Pos} {elts : List Expr} {kk : Nat}
theorem ji_zipA {ma : M S (List D)} (hg : Gl X "zip") (hm : X.mg "zip" = none) (ha : JA X T [a, b] ρ (fun ds => L (zipA ds)) ma)
    (hs : starEach [a, b] X.env = (false, eval a X.env) :: starEach [b] X.env := by rfl) (hpl : (backTo pos (starEach [b] X.env)).any (·.1) = false := by rfl) : JI X T (.Tuple elts kk tpos) (.Call (.Name "zip" p) [a, b] [] pos) ρ true ma := ⟨fun {σ H F s ds s'} hE hR hA hm' R k => by
  refine sI_of (pi_zipU hg hm (pA X _) hs hpl) (ha.run hE hR hA hm' _ fun vs es s1 H1 F1 st1 a1 r1 hk => ?_)
  obtain ⟨hq, rfl⟩ := L_some hk
  obtain ⟨k1, k2, xs, ys, rfl, kc, rfl⟩ := zipA_some hq
  obtain ⟨u, w, rfl, ru, rw'⟩ := r1.two
  obtain ⟨c, cs, rfl, rc, sc⟩ := k1.inv ru
  obtain ⟨d, es, rfl, rd, sd⟩ := k2.inv rw'
  refine ⟨k1, k2, c, d, cs, es, rfl, kc, sc (Evl.Ex.refl _) st1.hf, sd (Evl.Ex.refl _) st1.hf, k (fun _ => False) _ H1 F1 st1 a1 (fun _ h => h.elim) (fun _ _ h => h) ⟨fun i H2 F2 e1 e2 _ hi => ?_, fun H2 F2 e1 e2 _ => ?_, fun i H2 F2 x F3 e1 e2 _ hi y => ?_⟩⟩
  · rw [pairs2_length] at hi
    have l1 := rc.length
    have l2 := rd.length
    exact ⟨cs, es, cs[i]'(by omega), es[i]'(by omega), sc e1 e2, sd e1 e2, by simp [show i < cs.length by omega], by simp [show i < es.length by omega]⟩
  · rw [pairs2_length]
    exact ⟨cs, es, sc e1 e2, sd e1 e2, by rw [rc.length, rd.length]; omega⟩
  · obtain ⟨Tq, x1, x2, rfl, nT, rfl, f1, f2⟩ := y
    obtain ⟨y1, g1, q1⟩ := rc.getV (f1 cs (sc e1 e2))
    obtain ⟨y2, g2, q2⟩ := rd.getV (f2 es (sd e1 e2))
    obtain ⟨st, rp⟩ := new_pair e2 nT (q1.mono e1) (q2.mono e1)
    exact ⟨_, _, st, pairs2_get _ _ _ _ _ g1 g2, .inr ⟨rfl, rp⟩⟩⟩
end
end DL

set_option Elab.async false
set_option linter.all false
set_option maxRecDepth 100000
set_option maxHeartbeats 0
namespace K22
open PySem PySem.Spec PyProof.Rows L2 DL
def b_is_tuple (d1 d2 d3 : D) : M Unit D := B (B (P d1) fun x4 => L (isiD "tuple" x4)) fun x11 => B (L (boolD x11)) fun b12 => if b12 then B (P d2) fun x6 => B (B (P d1) fun x5 => L (lenD [x5])) fun x7 => B (L (leB x6 x7)) fun b8 => if b8 then B (P d3) fun x9 => B (L (leB x7 x9)) fun b10 => P (.bool b10) else P (.bool false) else P (.bool false)
def m_is_tuple : List D → Option D
  | [d1, d2, d3] => run0 (b_is_tuple d1 d2 d3)
  | _ => none
def b_is_whole (d13 : D) : M Unit D := B (B (P d13) fun x14 => L (isiD "int" x14)) fun x18 => B (L (boolD x18)) fun b19 => if b19 then B (B (P d13) fun x15 => L (isiD "bool" x15)) fun x16 => B (L (boolD x16)) fun b17 => P (.bool (!b17)) else P (.bool false)
def m_is_whole : List D → Option D
  | [d13] => run0 (b_is_whole d13)
  | _ => none
def b_is_integer (d20 d21 d22 : D) : M Unit D := B (B (P d20) fun x23 => L (m_is_whole [x23])) fun x29 => B (L (boolD x29)) fun b30 => if b30 then B (P d21) fun x24 => B (P d20) fun x25 => B (L (leB x24 x25)) fun b26 => if b26 then B (P d22) fun x27 => B (L (leB x25 x27)) fun b28 => P (.bool b28) else P (.bool false) else P (.bool false)
def m_is_integer : List D → Option D
  | [d20, d21, d22] => run0 (b_is_integer d20 d21 d22)
  | _ => none
def b_is_word (d31 d32 : D) : M Unit D := B (B (P d31) fun x33 => L (isiD "str" x33)) fun x37 => B (L (boolD x37)) fun b38 => if b38 then B (P d31) fun x34 => B (P d32) fun x35 => B (L (inB x34 x35)) fun b36 => P (.bool b36) else P (.bool false)
def m_is_word : List D → Option D
  | [d31, d32] => run0 (b_is_word d31 d32)
  | _ => none
def b_is_strand (d39 : D) : M Unit D := B (B (P d39) fun x40 => B (P (.int 1)) fun x41 => B (P (.int 60)) fun x42 => L (m_is_tuple [x40, x41, x42])) fun x53 => B (L (boolD x53)) fun b54 => if b54 then B (B (B (P d39) fun x43 => L (seqD x43)) fun ds50 => B (cmp ds50 (fun d44 => B (B (P d44) fun x45 => B (P (.int 0)) fun x46 => B (P (.int 100)) fun x47 => L (m_is_integer [x45, x46, x47])) fun x48 => P (some x48))) fun o51 => L (lstD o51)) fun x52 => L (allD [x52]) else P (.bool false)
def m_is_strand : List D → Option D
  | [d39] => run0 (b_is_strand d39)
  | _ => none
def b_is_band (d55 : D) : M Unit D := B (B (B (B (B (P d55) fun x56 => B (P (.int 2)) fun x57 => B (P (.int 2)) fun x58 => L (m_is_tuple [x56, x57, x58])) fun x59 => L (boolD x59)) fun b60 => P (!b60)) fun b68 => if b68 then P true else B (B (B (B (P d55) fun x62 => B (P (.int 0)) fun x61 => L (ixD x62 x61)) fun x63 => B (P (.int 0)) fun x64 => B (P (.int 1000)) fun x65 => L (m_is_integer [x63, x64, x65])) fun x66 => L (boolD x66)) fun b67 => P (!b67)) fun b69 => if b69 then P (.bool false) else B (B (P d55) fun x71 => B (P (.int 1)) fun x70 => L (ixD x71 x70)) fun x72 => B (B (P d55) fun x74 => B (P (.int 0)) fun x73 => L (ixD x74 x73)) fun x75 => B (P (.int 1000)) fun x76 => L (m_is_integer [x72, x75, x76])
def m_is_band : List D → Option D
  | [d55] => run0 (b_is_band d55)
  | _ => none
def b_check_band (d77 : D) : M Unit Unit := B (B (B (B (P d77) fun x78 => L (m_is_band [x78])) fun x79 => L (boolD x79)) fun b80 => P (!b80)) fun b81 => if b81 then fail else P ()
def m_check_band : List D → Option D
  | [d77] => mNone (b_check_band d77)
  | _ => none
def b_is_strands (d82 : D) : M Unit D := B (B (P d82) fun x83 => B (P (.int 1)) fun x84 => B (P (.int 5)) fun x85 => L (m_is_tuple [x83, x84, x85])) fun x94 => B (L (boolD x94)) fun b95 => if b95 then B (B (B (P d82) fun x86 => L (seqD x86)) fun ds91 => B (cmp ds91 (fun d87 => B (B (P d87) fun x88 => L (m_is_strand [x88])) fun x89 => P (some x89))) fun o92 => L (lstD o92)) fun x93 => L (allD [x93]) else P (.bool false)
def m_is_strands : List D → Option D
  | [d82] => run0 (b_is_strands d82)
  | _ => none
def b_check_strands (d96 d97 d98 : D) : M Unit Unit := B (B (B (B (P d96) fun x99 => L (m_is_strands [x99])) fun x100 => L (boolD x100)) fun b101 => P (!b101)) fun b102 => if b102 then fail else B (B (B (B (P d97) fun x103 => B (P (.int 1)) fun x104 => B (P (.int 12)) fun x105 => L (m_is_integer [x103, x104, x105])) fun x106 => L (boolD x106)) fun b107 => P (!b107)) fun b108 => if b108 then fail else B (B (P d98) fun x109 => L (m_check_band [x109])) fun _ => P ()
def m_check_strands : List D → Option D
  | [d96, d97, d98] => mNone (b_check_strands d96 d97 d98)
  | _ => none
def b_sums_of (d110 d111 d112 : D) : M Unit D := B (B (B (P (.int 0)) fun x113 => L (lstD [x113])) fun x114 => B (P d111) fun x115 => L (repN x114 x115)) fun d116 => B (B (P d110) fun x117 => B (P d112) fun x118 => L (zipA [x117, x118])) fun ds154 => B (foldF ds154 (d116 : (List D)) fun a119 => fun d152 => u2 d152 fun d120 d121 => B (B (P d121) fun x122 => B (P .none) fun x123 => L (isntB x122 x123)) fun b125 => B (if b125 then B (B (B (P d120) fun x132 => B (P none) fun l130 => B (B (B (P d111) fun x126 => B (P d121) fun x127 => L (subD x126 x127)) fun x128 => B (L (partD x128)) fun i129 => P (some i129)) fun h131 => L (sliceD x132 l130 h131)) fun x133 => L (enumTD [x133])) fun ds150 => B (foldS ds150 (a119 : (List D)) fun a134 => fun d148 => u2 d148 fun d135 d136 => B (B (B (P (.list a134)) fun x140 => B (B (P d121) fun x137 => B (P d135) fun x138 => L (addD x137 x138)) fun x139 => L (ixD x140 x139)) fun x141 => B (P d136) fun x142 => L (addD x141 x142)) fun d145 => B (B (P d121) fun x143 => B (P d135) fun x144 => L (addD x143 x144)) fun j146 => B (L (setL a134 j146 d145)) fun ys147 => P ys147) fun a149 : (List D) => P (.nx a149) else P (.nx a119)) (kF (fun a151 : (List D) => P (.nx a151)) Fl.rt)) (kF (fun a153 : (List D) => P (.list a153)) (fun d => d))
def m_sums_of : List D → Option D
  | [d110, d111, d112] => run0 (b_sums_of d110 d111 d112)
  | _ => none
def b_is_right (d155 d156 d157 d158 : D) : M Unit D := B (B (B (B (P d155) fun x159 => B (P d156) fun x160 => B (P d158) fun x161 => L (m_sums_of [x159, x160, x161])) fun x162 => L (seqD x162)) fun ds175 => B (cmp ds175 (fun d163 => B (B (B (P d157) fun x165 => B (P (.int 0)) fun x164 => L (ixD x165 x164)) fun x168 => B (P d163) fun x169 => B (L (leB x168 x169)) fun b170 => if b170 then B (B (P d157) fun x167 => B (P (.int 1)) fun x166 => L (ixD x167 x166)) fun x171 => B (L (leB x169 x171)) fun b172 => P (.bool b172) else P (.bool false)) fun x173 => P (some x173))) fun o176 => L (lstD o176)) fun x177 => L (allD [x177])
def m_is_right : List D → Option D
  | [d155, d156, d157, d158] => run0 (b_is_right d155 d156 d157 d158)
  | _ => none
def b_ways_with (d178 d179 d180 d181 : D) : M Unit D := B (B (L (tupD [])) fun x182 => L (lstS [x182])) fun d183 => B (whileF 100000 (d183 : (List D)) (fun a184 => B (P (.list a184)) fun x185 => B (L (lstD [])) fun x186 => L (neB x185 x186)) fun a184 => B (L (popL a184)) (pop2 fun d188 zs189 => B (B (B (P d188) fun x191 => L (lenD [x191])) fun x193 => B (B (P d178) fun x192 => L (lenD [x192])) fun x194 => L (eqB x193 x194)) fun b196 => B (if b196 then B (B (B (P d178) fun x197 => B (P d179) fun x198 => B (P d180) fun x199 => B (P d188) fun x200 => L (m_is_right [x197, x198, x199, x200])) fun x201 => L (boolD x201)) fun b202 => B (if b202 then B (P d188) fun d203 => P (.rt d203) else P (.nx ())) (kF (fun a204 : Unit => P (.nx zs189)) Fl.rt) else B (B (B (P d188) fun x205 => L (lenD [x205])) fun x206 => B (P d181) fun x207 => L (ninB x206 x207)) fun b209 => B (if b209 then B (B (P d188) fun d210 => B (L (seqD d210)) fun s211 => B (P .none) fun x212 => L (tupD (s211 ++ (x212 :: [])))) fun d213 => B (L (appL zs189 d213)) fun ys214 => P ys214 else B (B (P d178) fun x215 => B (P d179) fun x216 => B (B (P d188) fun d217 => B (L (seqD d217)) fun s218 => B (B (B (P .none) fun x219 => L (lstD [x219])) fun x224 => B (B (B (P d178) fun x220 => L (lenD [x220])) fun x222 => B (B (P d188) fun x221 => L (lenD [x221])) fun x223 => L (subD x222 x223)) fun x225 => L (mulT x224 x225)) fun d226 => B (L (seqD d226)) fun s227 => L (lstD (s218 ++ (s227 ++ [])))) fun x228 => L (m_sums_of [x215, x216, x228])) fun d229 => B (B (B (P d229) fun x230 => L (maxL [x230])) fun x233 => B (B (P d180) fun x232 => B (P (.int 1)) fun x231 => L (ixD x232 x231)) fun x234 => L (leB x233 x234)) fun b236 => B (if b236 then B (B (B (B (P d179) fun x237 => B (P (.int 1)) fun x238 => L (subD x237 x238)) fun x239 => B (B (P (.int 1)) fun x240 => L (negD x240)) fun x241 => B (B (P (.int 1)) fun x242 => L (negD x242)) fun x243 => L (range3L [x239, x241, x243])) fun ds250 => B (cmp ds250 (fun d244 => B (B (P d188) fun d245 => B (L (seqD d245)) fun s246 => B (P d244) fun x247 => L (tupD (s246 ++ (x247 :: [])))) fun x248 => P (some x248))) fun o251 => L (lstD o251)) fun d252 => B (L ((lstOf d252).bind fun zs => extL zs189 zs)) fun ys253 => P ys253 else P zs189) fun a254 : (List D) => P a254) fun a255 : (List D) => P (.nx a255)) (kF (fun a256 : (List D) => P (.nx a256)) Fl.rt))) (kF (fun a257 : (List D) => P .none) (fun d => d))
def m_ways_with : List D → Option D
  | [d178, d179, d180, d181] => run0 (b_ways_with d178 d179 d180 d181)
  | _ => none
def b_least_laid (d258 d259 d260 : D) : M Unit D := B (B (P d258) fun x261 => B (P d259) fun x262 => B (P d260) fun x263 => L (m_check_strands [x261, x262, x263])) fun _ => B (B (L (tupD [])) fun x264 => L (lstD [x264])) fun d265 => B (B (B (P d258) fun x266 => L (lenD [x266])) fun x267 => L (range1L [x267])) fun ds309 => B (foldS ds309 (d265 : D) fun a268 => fun d269 => B (B (P a268) fun x279 => B (B (B (P a268) fun x270 => L (seqD x270)) fun ds277 => B (cmp ds277 (fun d271 => B (B (P d271) fun d272 => B (L (seqD d272)) fun s273 => B (P d269) fun x274 => L (tupD (s273 ++ (x274 :: [])))) fun x275 => P (some x275))) fun o278 => L (lstD o278)) fun x280 => L (addD x279 x280)) fun d281 => P d281) fun a283 : D => B (B (B (P a283) fun x284 => L (sortKD [] (fun d285 => run0 (B (B (P d285) fun x286 => L (lenB [x286])) fun x287 => B (P d285) fun x288 => L (tupD [x287, x288]))) x284)) fun x289 => L (seqD x289)) fun ds308 => B (foldF ds308 (() : Unit) fun a290 => fun d291 => B (B (P d258) fun x292 => B (P d259) fun x293 => B (P d260) fun x294 => B (P d291) fun x295 => L (m_ways_with [x292, x293, x294, x295])) fun d296 => B (B (P d296) fun x297 => B (P .none) fun x298 => L (isntB x297 x298)) fun b300 => B (if b300 then B (B (P (.str ("laid" : Str))) fun x301 => B (P d296) fun x302 => L (tupD [x301, x302])) fun d303 => P (.rt d303) else P (.nx ())) (kF (fun a304 : Unit => P (.nx ())) Fl.rt)) (kF (fun a306 : Unit => B (P (.str ("never" : Str))) fun x307 => L (tupD [x307])) (fun d => d))
def m_least_laid : List D → Option D
  | [d258, d259, d260] => run0 (b_least_laid d258 d259 d260)
  | _ => none
def b_shows_laid (d310 d311 d312 d313 : D) : M Unit D := B (B (P d310) fun x314 => B (P d311) fun x315 => B (P d312) fun x316 => L (m_least_laid [x314, x315, x316])) fun d317 => B (B (B (B (B (P d313) fun x318 => B (P (.int 1)) fun x319 => B (P (.int 2)) fun x320 => L (m_is_tuple [x318, x319, x320])) fun x321 => L (boolD x321)) fun b322 => P (!b322)) fun b339 => if b339 then P true else B (B (B (B (B (P d313) fun x324 => B (P (.int 0)) fun x323 => L (ixD x324 x323)) fun x325 => B (B (P (.str ("laid" : Str))) fun x326 => B (P (.str ("never" : Str))) fun x327 => L (tupD [x326, x327])) fun x328 => L (m_is_word [x325, x328])) fun x329 => L (boolD x329)) fun b330 => P (!b330)) fun b338 => if b338 then P true else B (B (P d313) fun x332 => B (P (.int 0)) fun x331 => L (ixD x332 x331)) fun x335 => B (B (P d317) fun x334 => B (P (.int 0)) fun x333 => L (ixD x334 x333)) fun x336 => L (neB x335 x336)) fun b340 => if b340 then P (.bool false) else B (B (B (P d317) fun x342 => B (P (.int 0)) fun x341 => L (ixD x342 x341)) fun x343 => B (P (.str ("never" : Str))) fun x344 => L (eqB x343 x344)) fun b346 => if b346 then B (B (P d313) fun x347 => L (lenD [x347])) fun x348 => B (P (.int 1)) fun x349 => B (L (eqB x348 x349)) fun b350 => P (.bool b350) else B (B (P d310) fun x351 => L (lenD [x351])) fun d352 => B (B (B (B (P d313) fun x353 => L (lenD [x353])) fun x354 => B (P (.int 2)) fun x355 => L (neB x354 x355)) fun b364 => if b364 then P true else B (B (B (B (P d313) fun x358 => B (P (.int 1)) fun x357 => L (ixD x358 x357)) fun x359 => B (P d352) fun x360 => B (P d352) fun x361 => L (m_is_tuple [x359, x360, x361])) fun x362 => L (boolD x362)) fun b363 => P (!b363)) fun b365 => if b365 then P (.bool false) else B (B (B (B (B (B (B (P d313) fun x367 => B (P (.int 1)) fun x366 => L (ixD x367 x366)) fun x368 => L (seqD x368)) fun ds382 => B (cmp ds382 (fun d369 => B (B (B (P d369) fun x370 => B (P .none) fun x371 => B (L (isB x370 x371)) fun b372 => P (.bool b372)) fun x378 => B (L (boolD x378)) fun b379 => if b379 then P (.bool true) else B (P d369) fun x373 => B (P (.int 0)) fun x374 => B (B (P d311) fun x375 => B (P (.int 1)) fun x376 => L (subD x375 x376)) fun x377 => L (m_is_integer [x373, x374, x377])) fun x380 => P (some x380))) fun o383 => L (lstD o383)) fun x384 => L (allD [x384])) fun x385 => L (boolD x385)) fun b386 => P (!b386)) fun b387 => if b387 then P (.bool false) else B (B (B (B (B (P d317) fun x389 => B (P (.int 1)) fun x388 => L (ixD x389 x388)) fun x390 => L (seqD x390)) fun ds398 => B (cmp ds398 (fun d391 => B (B (P d391) fun x393 => B (P .none) fun x394 => L (isntB x393 x394)) fun b396 => if b396 then B (P d391) fun x392 => P (some x392) else P none)) fun o399 => L (lstD o399)) fun x400 => L (lenD [x400])) fun d401 => B (B (B (B (B (B (P d313) fun x403 => B (P (.int 1)) fun x402 => L (ixD x403 x402)) fun x404 => L (seqD x404)) fun ds412 => B (cmp ds412 (fun d405 => B (B (P d405) fun x407 => B (P .none) fun x408 => L (isntB x407 x408)) fun b410 => if b410 then B (P d405) fun x406 => P (some x406) else P none)) fun o413 => L (lstD o413)) fun x414 => L (lenD [x414])) fun x415 => B (P d401) fun x416 => L (neB x415 x416)) fun b418 => if b418 then P (.bool false) else B (P d310) fun x419 => B (P d311) fun x420 => B (P d312) fun x421 => B (B (P d313) fun x423 => B (P (.int 1)) fun x422 => L (ixD x423 x422)) fun x424 => L (m_is_right [x419, x420, x421, x424])
def m_shows_laid : List D → Option D
  | [d310, d311, d312, d313] => run0 (b_shows_laid d310 d311 d312 d313)
  | _ => none
def b_is_spans (d425 d426 : D) : M Unit D := B (B (B (B (B (P d426) fun x427 => B (P (.int 0)) fun x428 => B (P (.int 60)) fun x429 => L (m_is_tuple [x427, x428, x429])) fun x430 => L (boolD x430)) fun b431 => P (!b431)) fun b444 => if b444 then P true else B (B (B (B (B (P d426) fun x432 => L (seqD x432)) fun ds439 => B (cmp ds439 (fun d433 => B (B (P d433) fun x434 => B (P (.int 2)) fun x435 => B (P (.int 2)) fun x436 => L (m_is_tuple [x434, x435, x436])) fun x437 => P (some x437))) fun o440 => L (lstD o440)) fun x441 => L (allD [x441])) fun x442 => L (boolD x442)) fun b443 => P (!b443)) fun b445 => if b445 then P (.bool false) else B (B (B (B (B (B (P d426) fun x446 => L (seqD x446)) fun ds456 => B (cmp ds456 (fun d455 => u2 d455 fun d447 d448 => B (B (P d447) fun x449 => B (P (.int 0)) fun x450 => B (B (P d425) fun x451 => B (P (.int 1)) fun x452 => L (subD x451 x452)) fun x453 => L (m_is_integer [x449, x450, x453])) fun x454 => P (some x454))) fun o457 => L (lstD o457)) fun x458 => L (allD [x458])) fun x459 => L (boolD x459)) fun b460 => P (!b460)) fun b461 => if b461 then P (.bool false) else B (B (B (P d426) fun x462 => L (seqD x462)) fun ds472 => B (cmp ds472 (fun d471 => u2 d471 fun d463 d464 => B (B (P d464) fun x465 => B (B (P d463) fun x466 => B (P (.int 1)) fun x467 => L (addD x466 x467)) fun x468 => B (P d425) fun x469 => L (m_is_integer [x465, x468, x469])) fun x470 => P (some x470))) fun o473 => L (lstD o473)) fun x474 => L (allD [x474])
def m_is_spans : List D → Option D
  | [d425, d426] => run0 (b_is_spans d425 d426)
  | _ => none
def b_check_spans (d475 d476 d477 : D) : M Unit Unit := B (B (B (B (P d475) fun x478 => B (P (.int 1)) fun x479 => B (P (.int 200)) fun x480 => L (m_is_integer [x478, x479, x480])) fun x481 => L (boolD x481)) fun b482 => P (!b482)) fun b483 => if b483 then fail else B (B (B (B (P d475) fun x484 => B (P d476) fun x485 => L (m_is_spans [x484, x485])) fun x486 => L (boolD x486)) fun b487 => P (!b487)) fun b488 => if b488 then fail else B (B (B (B (P d477) fun x489 => B (P (.int 1)) fun x490 => B (P (.int 8)) fun x491 => L (m_is_integer [x489, x490, x491])) fun x492 => L (boolD x492)) fun b493 => P (!b493)) fun b494 => if b494 then fail else P ()
def m_check_spans : List D → Option D
  | [d475, d476, d477] => mNone (b_check_spans d475 d476 d477)
  | _ => none
def b_covered (d495 d496 d497 : D) : M Unit D := B (B (B (P d496) fun x498 => L (seqD x498)) fun ds515 => B (cmp ds515 (fun d499 => B (B (B (B (P d495) fun x503 => B (P d499) fun x502 => L (ixD x503 x502)) fun x504 => B (P (.int 0)) fun x501 => L (ixD x504 x501)) fun x509 => B (P d497) fun x510 => B (L (leB x509 x510)) fun b511 => if b511 then B (B (B (P d495) fun x507 => B (P d499) fun x506 => L (ixD x507 x506)) fun x508 => B (P (.int 1)) fun x505 => L (ixD x508 x505)) fun x512 => L (ltB x510 x512) else P false) fun b513 => if b513 then B (P d499) fun x500 => P (some x500) else P none)) fun o516 => L (lstD o516)) fun x517 => L (lenD [x517])
def m_covered : List D → Option D
  | [d495, d496, d497] => run0 (b_covered d495 d496 d497)
  | _ => none
def b_cover (d518 d519 d520 : D) : M Unit D := B (B (P d518) fun x521 => B (P d519) fun x522 => B (P d520) fun x523 => L (m_check_spans [x521, x522, x523])) fun _ => B (L (lstS [])) fun d524 => B (B (P d518) fun x525 => L (range1L [x525])) fun ds593 => B (foldF ds593 (d524 : (List D)) fun a526 => fun d527 => B (whileF 100000 (a526 : (List D)) (fun a528 => B (B (P d519) fun x529 => B (P (.list a528)) fun x530 => B (P d527) fun x531 => L (flatO (m_covered [x529, x530, x531]))) fun x532 => B (P d520) fun x533 => L (ltB x532 x533)) fun a528 => B (B (B (B (P d519) fun x535 => L (lenD [x535])) fun x536 => L (range1L [x536])) fun ds557 => B (cmp ds557 (fun d537 => B (B (B (P d537) fun x539 => B (P (.list a528)) fun x540 => L (ninB x539 x540)) fun b554 => if b554 then B (B (B (P d519) fun x544 => B (P d537) fun x543 => L (ixD x544 x543)) fun x545 => B (P (.int 0)) fun x542 => L (ixD x545 x542)) fun x550 => B (P d527) fun x551 => B (L (leB x550 x551)) fun b552 => if b552 then B (B (B (P d519) fun x548 => B (P d537) fun x547 => L (ixD x548 x547)) fun x549 => B (P (.int 1)) fun x546 => L (ixD x549 x546)) fun x553 => L (ltB x551 x553) else P false else P false) fun b555 => if b555 then B (P d537) fun x538 => P (some x538) else P none)) fun o558 => L (lstD o558)) fun d559 => B (B (P d559) fun x560 => B (L (lstD [])) fun x561 => L (eqB x560 x561)) fun b563 => B (if b563 then B (B (P (.str ("never" : Str))) fun x564 => B (P d527) fun x565 => L (tupD [x564, x565])) fun d566 => P (.rt d566) else P (.nx ())) (kF (fun a567 : Unit => B (B (B (B (B (P d559) fun x569 => L (seqD x569)) fun ds580 => B (cmp ds580 (fun d570 => B (B (B (B (B (P d519) fun x573 => B (P d570) fun x572 => L (ixD x573 x572)) fun x574 => B (P (.int 1)) fun x571 => L (ixD x574 x571)) fun x575 => L (negD x575)) fun x576 => B (P d570) fun x577 => L (tupD [x576, x577])) fun x578 => P (some x578))) fun o581 => L (lstD o581)) fun x582 => L (minL [x582])) fun x583 => B (P (.int 1)) fun x568 => L (ixD x583 x568)) fun d584 => B (L (appL a528 d584)) fun ys585 => P (.nx ys585)) Fl.rt)) (kF (fun a586 : (List D) => P (.nx a586)) Fl.rt)) (kF (fun a588 : (List D) => B (P (.str ("cover" : Str))) fun x589 => B (B (B (P (.list a588)) fun x590 => L (sortedL [x590])) fun x591 => L (tupL [x591])) fun x592 => L (tupD [x589, x592])) (fun d => d))
def m_cover : List D → Option D
  | [d518, d519, d520] => run0 (b_cover d518 d519 d520)
  | _ => none
def b_shows_cover (d594 d595 d596 d597 : D) : M Unit D := B (B (P d594) fun x598 => B (P d595) fun x599 => B (P d596) fun x600 => L (m_cover [x598, x599, x600])) fun d601 => B (B (B (B (B (P d597) fun x602 => B (P (.int 2)) fun x603 => B (P (.int 2)) fun x604 => L (m_is_tuple [x602, x603, x604])) fun x605 => L (boolD x605)) fun b606 => P (!b606)) fun b623 => if b623 then P true else B (B (B (B (B (P d597) fun x608 => B (P (.int 0)) fun x607 => L (ixD x608 x607)) fun x609 => B (B (P (.str ("cover" : Str))) fun x610 => B (P (.str ("never" : Str))) fun x611 => L (tupD [x610, x611])) fun x612 => L (m_is_word [x609, x612])) fun x613 => L (boolD x613)) fun b614 => P (!b614)) fun b622 => if b622 then P true else B (B (P d597) fun x616 => B (P (.int 0)) fun x615 => L (ixD x616 x615)) fun x619 => B (B (P d601) fun x618 => B (P (.int 0)) fun x617 => L (ixD x618 x617)) fun x620 => L (neB x619 x620)) fun b624 => if b624 then P (.bool false) else B (B (B (P d601) fun x626 => B (P (.int 0)) fun x625 => L (ixD x626 x625)) fun x627 => B (P (.str ("never" : Str))) fun x628 => L (eqB x627 x628)) fun b630 => if b630 then B (B (B (B (B (P d597) fun x632 => B (P (.int 1)) fun x631 => L (ixD x632 x631)) fun x633 => B (P (.int 0)) fun x634 => B (B (P d594) fun x635 => B (P (.int 1)) fun x636 => L (subD x635 x636)) fun x637 => L (m_is_integer [x633, x634, x637])) fun x638 => L (boolD x638)) fun b639 => P (!b639)) fun b640 => if b640 then P (.bool false) else B (B (P d595) fun x641 => B (B (B (P d595) fun x642 => L (lenD [x642])) fun x643 => L (lrgD x643)) fun x644 => B (B (P d597) fun x646 => B (P (.int 1)) fun x645 => L (ixD x646 x645)) fun x647 => L (m_covered [x641, x644, x647])) fun x648 => B (P d596) fun x649 => B (L (ltB x648 x649)) fun b650 => P (.bool b650) else B (B (B (B (B (B (P d597) fun x652 => B (P (.int 1)) fun x651 => L (ixD x652 x651)) fun x653 => B (P (.int 0)) fun x654 => B (B (P d595) fun x655 => L (lenD [x655])) fun x656 => L (m_is_tuple [x653, x654, x656])) fun x657 => L (boolD x657)) fun b658 => P (!b658)) fun b676 => if b676 then P true else B (B (B (B (B (B (P d597) fun x660 => B (P (.int 1)) fun x659 => L (ixD x660 x659)) fun x661 => L (seqD x661)) fun ds671 => B (cmp ds671 (fun d662 => B (B (P d662) fun x663 => B (P (.int 0)) fun x664 => B (B (B (P d595) fun x665 => L (lenD [x665])) fun x666 => B (P (.int 1)) fun x667 => L (subD x666 x667)) fun x668 => L (m_is_integer [x663, x664, x668])) fun x669 => P (some x669))) fun o672 => L (lstD o672)) fun x673 => L (allD [x673])) fun x674 => L (boolD x674)) fun b675 => P (!b675)) fun b677 => if b677 then P (.bool false) else B (B (B (B (B (P d597) fun x679 => B (P (.int 1)) fun x678 => L (ixD x679 x678)) fun x680 => L (lstL [x680])) fun x684 => B (B (B (P d597) fun x682 => B (P (.int 1)) fun x681 => L (ixD x682 x681)) fun x683 => L (sortSetT x683)) fun x685 => L (neB x684 x685)) fun b696 => if b696 then P true else B (B (B (P d597) fun x688 => B (P (.int 1)) fun x687 => L (ixD x688 x687)) fun x689 => L (lenD [x689])) fun x693 => B (B (B (P d601) fun x691 => B (P (.int 1)) fun x690 => L (ixD x691 x690)) fun x692 => L (lenD [x692])) fun x694 => L (neB x693 x694)) fun b697 => if b697 then P (.bool false) else B (B (B (P d594) fun x698 => L (range1L [x698])) fun ds710 => B (cmp ds710 (fun d699 => B (B (B (P d595) fun x700 => B (B (P d597) fun x702 => B (P (.int 1)) fun x701 => L (ixD x702 x701)) fun x703 => B (P d699) fun x704 => L (m_covered [x700, x703, x704])) fun x705 => B (P d596) fun x706 => B (L (geB x705 x706)) fun b707 => P (.bool b707)) fun x708 => P (some x708))) fun o711 => L (lstD o711)) fun x712 => L (allD [x712])
def m_shows_cover : List D → Option D
  | [d594, d595, d596, d597] => run0 (b_shows_cover d594 d595 d596 d597)
  | _ => none
def b_apart_yards (d713 d714 : D) : M Unit D := B (B (P d713) fun x715 => B (P d714) fun x716 => B (P (.int 1)) fun x717 => L (m_check_spans [x715, x716, x717])) fun _ => B (B (B (B (P d713) fun x719 => B (P d714) fun x720 => B (P (.int 1)) fun x721 => L (m_cover [x719, x720, x721])) fun x722 => B (P (.int 0)) fun x718 => L (ixD x722 x718)) fun x723 => B (P (.str ("never" : Str))) fun x724 => L (eqB x723 x724)) fun b726 => if b726 then fail else B (L (lstS [])) fun d727 => B (P (.int 0)) fun d728 => B (whileF 100000 ((d727, d728) : (List D) × D) (fun a729 => B (P a729.2) fun x730 => B (P d713) fun x731 => L (ltB x730 x731)) fun a729 => B (P a729.2) fun d733 => B (L (appL a729.1 d733)) fun ys734 => B (B (B (B (P d714) fun x735 => L (seqD x735)) fun ds748 => B (cmp ds748 (fun d747 => u2 d747 fun d736 d737 => B (B (P d736) fun x742 => B (B (P (.list ys734)) fun x741 => B (B (P (.int 1)) fun x739 => L (negD x739)) fun x740 => L (ixD x741 x740)) fun x743 => B (L (leB x742 x743)) fun b744 => if b744 then B (P d737) fun x745 => L (ltB x743 x745) else P false) fun b746 => if b746 then B (P d737) fun x738 => P (some x738) else P none)) fun o749 => L (lstD o749)) fun x750 => L (maxL [x750])) fun d751 => P (.nx (ys734, d751))) (kF (fun a752 : (List D) × D => B (P (.list a752.1)) fun x753 => L (tupL [x753])) (fun d => d))
def m_apart_yards : List D → Option D
  | [d713, d714] => run0 (b_apart_yards d713 d714)
  | _ => none
def b__law_pot (ns : List Int) (d754 : D) : M Unit D := B (B (B (P d754) fun x755 => B (P (.int ns.length)) fun x756 => L (ltB x755 x756)) fun b772 => if b772 then B (P d754) fun x758 => L (ixD (.list (ns.map .int)) x758) else B (B (B (B (B (P none) fun l761 => B (B (P (.int 1)) fun x759 => B (L (partD x759)) fun i760 => P (some i760)) fun h762 => L (sliceD (.list (ns.map .int)) l761 h762)) fun x763 => L (sumL [x763])) fun x764 => B (P (.int 1000003)) fun x765 => L (modD x764 x765)) fun x768 => B (B (P (.int 7815)) fun x766 => B (P d754) fun x767 => L (mulT x766 x767)) fun x769 => L (addD x768 x769)) fun x770 => B (P (.int 24908)) fun x771 => L (addD x770 x771)) fun d773 => B (B (B (B (B (P d773) fun x774 => L (absL [x774])) fun x775 => L (intL [x775])) fun x780 => B (B (B (P (.int 10)) fun x776 => B (P (.int 60)) fun x777 => L (powD x776 x777)) fun x778 => B (P (.int 5)) fun x779 => L (powD x778 x779)) fun x781 => L (modD x780 x781)) fun x789 => B (B (B (B (P d773) fun x782 => L (absL [x782])) fun x785 => B (B (P (.int 10)) fun x783 => B (P (.int 18)) fun x784 => L (powD x783 x784)) fun x786 => B (L (geB x785 x786)) fun b787 => P (.bool b787)) fun x788 => L (intL [x788])) fun x790 => L (mulT x789 x790)) fun d791 => B (B (B (P d773) fun x792 => L (intL [x792])) fun x793 => B (P (.int 2305843009213693951)) fun x794 => L (modD x793 x794)) fun d795 => B (P d791) fun x796 => B (B (B (B (B (B (P d795) fun x797 => B (P (.int 119050)) fun x798 => L (mulT x797 x798)) fun x803 => B (B (B (P (.int 8883)) fun x799 => B (P d754) fun x800 => L (mulT x799 x800)) fun x801 => B (P d754) fun x802 => L (mulT x801 x802)) fun x804 => L (addD x803 x804)) fun x805 => B (P (.int 255)) fun x806 => L (addD x805 x806)) fun x807 => L (intL [x807])) fun x808 => B (P (.int 2305843009213693921)) fun x809 => L (modD x808 x809)) fun x810 => B (P (.int 0)) fun x811 => L (lstD [x796, x810, x811])
def m__law_pot (ns : List Int) : List D → Option D
  | [d754] => run0 (b__law_pot ns d754)
  | _ => none
def b__law_take (d812 : D) : M Pot D := B (B (getP 0) fun x813 => B (P (.int 0)) fun x814 => L (gtB x813 x814)) fun b816 => if b816 then B (B (B (getP 0) fun x817 => L (intL [x817])) fun x818 => B (P d812) fun x819 => L (modD x818 x819)) fun d820 => B (B (getP 0) fun x821 => B (P d812) fun x822 => L (divD x821 x822)) fun d823 => B (putP 0 d823) fun _ => P d820 else B (B (getP 2) fun x824 => B (P (.int 1)) fun x825 => L (addD x824 x825)) fun d826 => B (putP 2 d826) fun _ => B (B (B (P (.int 2147483647)) fun x831 => B (P (.int 2147483629)) fun x832 => B (P (.int 2147483587)) fun x833 => B (P (.int 2147483579)) fun x834 => B (P (.int 2147483563)) fun x835 => L (lstD [x831, x832, x833, x834, x835])) fun x836 => B (B (B (getP 2) fun x827 => L (intL [x827])) fun x828 => B (P (.int 5)) fun x829 => L (modD x828 x829)) fun x830 => L (ixD x836 x830)) fun d837 => B (B (B (B (B (B (B (getP 1) fun x842 => B (B (B (P (.int 98895)) fun x838 => B (getP 2) fun x839 => L (mulT x838 x839)) fun x840 => B (getP 2) fun x841 => L (mulT x840 x841)) fun x843 => L (addD x842 x843)) fun x844 => B (P (.int 113)) fun x845 => L (addD x844 x845)) fun x846 => L (intL [x846])) fun x847 => B (P (.int 3)) fun x848 => L (powD x847 x848)) fun x849 => L (intL [x849])) fun x850 => B (P d837) fun x851 => L (modD x850 x851)) fun d852 => B (B (B (B (P d852) fun x860 => B (B (B (B (P d852) fun x853 => L (intL [x853])) fun x854 => B (P (.int 10051)) fun x855 => L (modD x854 x855)) fun x858 => B (B (P (.int 125)) fun x856 => B (getP 2) fun x857 => L (mulT x856 x857)) fun x859 => L (addD x858 x859)) fun x861 => L (mulT x860 x861)) fun x862 => L (intL [x862])) fun x863 => B (P (.int 2305843009213693907)) fun x864 => L (modD x863 x864)) fun d865 => B (B (B (P d865) fun x866 => B (P (.int 171)) fun x867 => L (divD x866 x867)) fun x868 => L (intL [x868])) fun x869 => B (P d812) fun x870 => L (modD x869 x870)
def m__law_take : List D → M Pot D
  | [d812] => b__law_take d812
  | _ => fail
def b__law_of (d871 : D) : M Pot D := B (P d871) fun x875 => B (B (B (P d871) fun x872 => L (lenD [x872])) fun x873 => m__law_take [x873]) fun x874 => L (ixD x875 x874)
def m__law_of : List D → M Pot D
  | [d871] => b__law_of d871
  | _ => fail
def b__law_places (ns : List Int) (d876 : D) : M Unit D := B (B (P (.int 1)) fun x877 => B (B (P d876) fun x878 => B (P (.int ns.length)) fun x879 => L (min2L [x878, x879])) fun x880 => L (max2L [x877, x880])) fun x881 => L (lrgD x881)
def m__law_places (ns : List Int) : List D → Option D
  | [d876] => run0 (b__law_places ns d876)
  | _ => none
def b__law_some (d882 d883 : D) : M Pot D := B (B (P d882) fun x884 => L (seqD x884)) fun d885 => B (L (lstS [])) fun d886 => B (B (P d883) fun x887 => L (range1L [x887])) fun ds899 => B (foldS ds899 ((d886, d885) : (List D) × (List D)) fun a888 => fun d889 => B (B (B (P (.list a888.2)) fun x890 => L (lenD [x890])) fun x891 => m__law_take [x891]) fun d892 => B (L (popAt a888.2 d892)) (pop3 a888.1 fun zs895 us896 => P (zs895, us896))) fun a898 : (List D) × (List D) => P (.list a898.1)
def m__law_some : List D → M Pot D
  | [d882, d883] => b__law_some d882 d883
  | _ => fail
def b__law_strand (d900 d901 : D) : M Pot D := B (B (B (B (P (.int 1)) fun x903 => B (B (P d900) fun x902 => m__law_take [x902]) fun x904 => L (addD x903 x904)) fun x905 => L (range1L [x905])) fun ds913 => B (cmp ds913 (fun d906 => B (B (B (B (P d901) fun x907 => B (P (.int 1)) fun x908 => L (addD x907 x908)) fun x909 => m__law_take [x909]) fun x910 => L (intL [x910])) fun x911 => P (some x911))) fun o914 => L (lstD o914)) fun x915 => L (tupL [x915])
def m__law_strand : List D → M Pot D
  | [d900, d901] => b__law_strand d900 d901
  | _ => fail
def b__law_sums (d916 d917 d918 : D) : M Unit D := B (B (B (P (.int 0)) fun x919 => L (lstD [x919])) fun x920 => B (P d917) fun x921 => L (repN x920 x921)) fun d922 => B (B (P d916) fun x923 => B (P d918) fun x924 => L (zipA [x923, x924])) fun ds958 => B (foldF ds958 (d922 : (List D)) fun a925 => fun d956 => u2 d956 fun d926 d927 => B (B (P d927) fun x928 => B (P .none) fun x929 => L (isntB x928 x929)) fun b931 => B (if b931 then B (B (P d927) fun x932 => B (B (P d917) fun x933 => B (B (P d927) fun x935 => B (B (P d926) fun x934 => L (lenD [x934])) fun x936 => L (addD x935 x936)) fun x937 => L (min2L [x933, x937])) fun x938 => L (range2L [x932, x938])) fun ds954 => B (foldS ds954 (a925 : (List D)) fun a939 => fun d940 => B (B (B (P (.list a939)) fun x942 => B (P d940) fun x941 => L (ixD x942 x941)) fun x947 => B (B (P d926) fun x946 => B (B (P d940) fun x943 => B (P d927) fun x944 => L (subD x943 x944)) fun x945 => L (ixD x946 x945)) fun x948 => L (addD x947 x948)) fun d949 => B (P d940) fun j950 => B (L (setL a939 j950 d949)) fun ys951 => P ys951) fun a953 : (List D) => P (.nx a953) else P (.nx a925)) (kF (fun a955 : (List D) => P (.nx a955)) Fl.rt)) (kF (fun a957 : (List D) => P (.list a957)) (fun d => d))
def m__law_sums : List D → Option D
  | [d916, d917, d918] => run0 (b__law_sums d916 d917 d918)
  | _ => none
def b__law_few (d959 : D) : M Unit D := B (B (B (P d959) fun x961 => B (P (.int 0)) fun x960 => L (ixD x961 x960)) fun x962 => B (P (.str ("never" : Str))) fun x963 => L (eqB x962 x963)) fun b978 => if b978 then P (.int 99) else B (B (B (B (P d959) fun x966 => B (P (.int 1)) fun x965 => L (ixD x966 x965)) fun x967 => L (seqD x967)) fun ds975 => B (cmp ds975 (fun d968 => B (B (P d968) fun x970 => B (P .none) fun x971 => L (isntB x970 x971)) fun b973 => if b973 then B (P d968) fun x969 => P (some x969) else P none)) fun o976 => L (lstD o976)) fun x977 => L (lenD [x977])
def m__law_few : List D → Option D
  | [d959] => run0 (b__law_few d959)
  | _ => none
def b__law_own_few (d979 d980 d981 : D) : M Unit D := B (B (L (tupD [])) fun x982 => L (lstD [x982])) fun d983 => B (P (.int 99)) fun d984 => B (B (P d979) fun x985 => L (seqD x985)) fun ds1058 => B (foldF ds1058 (d983 : D) fun a986 => fun d987 => B (L (lstS [])) fun d988 => B (B (P a986) fun x989 => L (seqD x989)) fun ds1010 => B (foldS ds1010 (d988 : (List D)) fun a990 => fun d991 => B (B (B (B (B (P .none) fun x992 => L (lstD [x992])) fun x994 => B (B (P d980) fun x993 => L (lrgD x993)) fun x995 => L (addD x994 x995)) fun x996 => L (seqD x996)) fun ds1003 => B (cmp ds1003 (fun d997 => B (B (P d991) fun x999 => B (B (P d997) fun x998 => L (tupD [x998])) fun x1000 => L (addD x999 x1000)) fun x1001 => P (some x1001))) fun o1004 => L (lstD o1004)) fun d1005 => B (L ((lstOf d1005).bind fun zs => extL a990 zs)) fun ys1006 => P ys1006) fun a1008 : (List D) => B (P (.list a1008)) fun d1009 => P (.nx d1009)) (kF (fun a1012 : D => B (B (P a1012) fun x1013 => L (seqD x1013)) fun ds1057 => B (foldS ds1057 (d984 : D) fun a1014 => fun d1015 => B (B (B (B (P d1015) fun x1016 => L (seqD x1016)) fun ds1024 => B (cmp ds1024 (fun d1017 => B (B (P d1017) fun x1019 => B (P .none) fun x1020 => L (isntB x1019 x1020)) fun b1022 => if b1022 then B (P d1017) fun x1018 => P (some x1018) else P none)) fun o1025 => L (lstD o1025)) fun x1026 => L (lenD [x1026])) fun d1027 => B (B (B (P d1027) fun x1028 => B (P a1014) fun x1029 => L (ltB x1028 x1029)) fun b1051 => if b1051 then B (B (B (B (B (P d979) fun x1031 => B (P d980) fun x1032 => B (P d1015) fun x1033 => L (m__law_sums [x1031, x1032, x1033])) fun x1034 => L (seqD x1034)) fun ds1047 => B (cmp ds1047 (fun d1035 => B (B (B (P d981) fun x1037 => B (P (.int 0)) fun x1036 => L (ixD x1037 x1036)) fun x1040 => B (P d1035) fun x1041 => B (L (leB x1040 x1041)) fun b1042 => if b1042 then B (B (P d981) fun x1039 => B (P (.int 1)) fun x1038 => L (ixD x1039 x1038)) fun x1043 => B (L (leB x1041 x1043)) fun b1044 => P (.bool b1044) else P (.bool false)) fun x1045 => P (some x1045))) fun o1048 => L (lstD o1048)) fun x1049 => L (allD [x1049])) fun x1050 => L (boolD x1050) else P false) fun b1052 => B (if b1052 then B (P d1027) fun d1053 => P d1053 else P a1014) fun a1054 : D => P a1054) fun a1056 : D => P a1056) (fun d => d))
def m__law_own_few : List D → Option D
  | [d979, d980, d981] => run0 (b__law_own_few d979 d980 d981)
  | _ => none
def b__law_are_laid_right : M Pot D := B (B (B (P (.int 2)) fun x1061 => B (B (B (P (.int 2)) fun x1059 => m__law_take [x1059]) fun x1060 => L (intL [x1060])) fun x1062 => L (addD x1061 x1062)) fun x1063 => B (B (P (.int 4)) fun x1066 => B (B (B (P (.int 4)) fun x1064 => m__law_take [x1064]) fun x1065 => L (intL [x1065])) fun x1067 => L (addD x1066 x1067)) fun x1068 => L (tupD [x1063, x1068])) (fun d1304 => u2 d1304 fun d1069 d1070 => B (B (B (B (P d1069) fun x1071 => L (range1L [x1071])) fun ds1081 => B (cmp ds1081 (fun d1072 => B (B (P (.int 9)) fun x1073 => B (B (B (P (.int 1)) fun x1074 => B (P (.int 2)) fun x1075 => B (P (.int 4)) fun x1076 => L (lstD [x1074, x1075, x1076])) fun x1077 => m__law_of [x1077]) fun x1078 => m__law_strand [x1073, x1078]) fun x1079 => P (some x1079))) fun o1082 => L (lstD o1082)) fun x1083 => L (tupL [x1083])) fun d1084 => B (B (B (P (.int 3)) fun x1085 => m__law_take [x1085]) fun x1086 => L (intL [x1086])) fun d1087 => B (B (P d1087) fun x1088 => B (B (P d1087) fun x1091 => B (B (B (P (.int 6)) fun x1089 => m__law_take [x1089]) fun x1090 => L (intL [x1090])) fun x1092 => L (addD x1091 x1092)) fun x1093 => L (tupD [x1088, x1093])) fun d1094 => B (B (P d1084) fun x1095 => B (P d1070) fun x1096 => B (P d1094) fun x1097 => L (m_least_laid [x1095, x1096, x1097])) fun d1098 => B (B (B (P d1084) fun x1099 => B (P d1070) fun x1100 => B (P d1094) fun x1101 => B (P d1098) fun x1102 => L (m_shows_laid [x1099, x1100, x1101, x1102])) fun x1103 => B (P (.bool true)) fun x1104 => L (isntB x1103 x1104)) fun b1106 => if b1106 then P (.bool false) else B (B (B (B (P d1098) fun x1108 => B (P (.int 0)) fun x1107 => L (ixD x1108 x1107)) fun x1109 => B (P (.str ("laid" : Str))) fun x1110 => L (eqB x1109 x1110)) fun b1135 => if b1135 then B (B (B (B (B (B (P d1084) fun x1112 => B (P d1070) fun x1113 => B (B (P d1098) fun x1115 => B (P (.int 1)) fun x1114 => L (ixD x1115 x1114)) fun x1116 => L (m__law_sums [x1112, x1113, x1116])) fun x1117 => L (seqD x1117)) fun ds1130 => B (cmp ds1130 (fun d1118 => B (B (B (P d1094) fun x1120 => B (P (.int 0)) fun x1119 => L (ixD x1120 x1119)) fun x1123 => B (P d1118) fun x1124 => B (L (leB x1123 x1124)) fun b1125 => if b1125 then B (B (P d1094) fun x1122 => B (P (.int 1)) fun x1121 => L (ixD x1122 x1121)) fun x1126 => B (L (leB x1124 x1126)) fun b1127 => P (.bool b1127) else P (.bool false)) fun x1128 => P (some x1128))) fun o1131 => L (lstD o1131)) fun x1132 => L (allD [x1132])) fun x1133 => L (boolD x1133)) fun b1134 => P (!b1134) else P false) fun b1136 => if b1136 then P (.bool false) else B (B (P d1098) fun x1137 => L (m__law_few [x1137])) fun d1138 => B (B (P d1138) fun x1142 => B (B (P d1084) fun x1139 => B (P d1070) fun x1140 => B (P d1094) fun x1141 => L (m__law_own_few [x1139, x1140, x1141])) fun x1143 => L (neB x1142 x1143)) fun b1145 => if b1145 then P (.bool false) else B (B (B (B (P d1084) fun x1146 => B (P d1070) fun x1147 => B (B (B (P (.int 0)) fun x1148 => B (B (B (P d1094) fun x1150 => B (P (.int 0)) fun x1149 => L (ixD x1150 x1149)) fun x1151 => B (P (.int 1)) fun x1152 => L (subD x1151 x1152)) fun x1153 => L (max2L [x1148, x1153])) fun x1154 => B (B (B (P d1094) fun x1156 => B (P (.int 1)) fun x1155 => L (ixD x1156 x1155)) fun x1157 => B (P (.int 1)) fun x1158 => L (addD x1157 x1158)) fun x1159 => L (tupD [x1154, x1159])) fun x1160 => L (m_least_laid [x1146, x1147, x1160])) fun x1161 => L (m__law_few [x1161])) fun x1162 => B (P d1138) fun x1163 => L (gtB x1162 x1163)) fun b1165 => if b1165 then P (.bool false) else B (B (B (B (P d1084) fun x1166 => L (lstL [x1166])) fun x1167 => B (P d1069) fun x1168 => m__law_some [x1167, x1168]) fun x1169 => L (tupL [x1169])) fun d1170 => B (B (B (B (B (P d1170) fun x1171 => B (P d1070) fun x1172 => B (P d1094) fun x1173 => L (m_least_laid [x1171, x1172, x1173])) fun x1174 => L (m__law_few [x1174])) fun x1175 => B (P d1138) fun x1176 => L (neB x1175 x1176)) fun b1191 => if b1191 then P true else B (B (B (B (P d1084) fun x1183 => B (P none) fun l1181 => B (B (B (P (.int 1)) fun x1178 => L (negD x1178)) fun x1179 => B (L (partD x1179)) fun i1180 => P (some i1180)) fun h1182 => L (sliceD x1183 l1181 h1182)) fun x1184 => B (P d1070) fun x1185 => B (P d1094) fun x1186 => L (m_least_laid [x1184, x1185, x1186])) fun x1187 => L (m__law_few [x1187])) fun x1188 => B (P d1138) fun x1189 => L (ltB x1188 x1189)) fun b1192 => if b1192 then P (.bool false) else B (B (B (P d1098) fun x1194 => B (P (.int 0)) fun x1193 => L (ixD x1194 x1193)) fun x1195 => B (P (.str ("laid" : Str))) fun x1196 => L (eqB x1195 x1196)) fun b1198 => B (if b1198 then B (L (lstS [])) fun d1199 => B (B (P d1084) fun x1200 => B (B (P d1098) fun x1202 => B (P (.int 1)) fun x1201 => L (ixD x1202 x1201)) fun x1203 => L (zipA [x1200, x1203])) fun ds1302 => B (foldS ds1302 (d1199 : (List D)) fun a1204 => fun d1225 => u2 d1225 fun d1205 d1206 => B (B (B (B (P d1206) fun x1207 => B (P .none) fun x1208 => L (isB x1207 x1208)) fun b1216 => if b1216 then P true else B (B (P d1206) fun x1211 => B (B (P d1205) fun x1210 => L (lenD [x1210])) fun x1212 => L (addD x1211 x1212)) fun x1213 => B (P d1070) fun x1214 => L (ltB x1213 x1214)) fun b1222 => if b1222 then P d1205 else B (P d1205) fun x1220 => B (B (B (P (.int 9)) fun x1217 => L (tupD [x1217])) fun x1218 => B (P (.int 5)) fun x1219 => L (mulT x1218 x1219)) fun x1221 => L (addD x1220 x1221)) fun d1223 => B (L (appL a1204 d1223)) fun ys1224 => P ys1224) fun a1226 : (List D) => B (B (B (B (B (P (.list a1226)) fun x1227 => L (tupL [x1227])) fun x1228 => B (P d1070) fun x1229 => B (P d1094) fun x1230 => L (m_least_laid [x1228, x1229, x1230])) fun x1231 => L (m__law_few [x1231])) fun x1232 => B (P d1138) fun x1233 => L (gtB x1232 x1233)) fun b1235 => B (if b1235 then B (P (.bool false)) fun d1236 => P (.rt d1236) else P (.nx ())) (kF (fun a1237 : Unit => B (B (B (P d1070) fun x1238 => B (P (.int 1)) fun x1239 => L (gtB x1238 x1239)) fun b1250 => if b1250 then B (B (B (P d1084) fun x1241 => B (B (P d1070) fun x1242 => B (P (.int 1)) fun x1243 => L (subD x1242 x1243)) fun x1244 => B (P d1094) fun x1245 => L (m_least_laid [x1241, x1244, x1245])) fun x1246 => L (m__law_few [x1246])) fun x1247 => B (P d1138) fun x1248 => L (gtB x1247 x1248) else P false) fun b1251 => B (if b1251 then B (P (.bool false)) fun d1252 => P (.rt d1252) else P (.nx ())) (kF (fun a1253 : Unit => B (B (B (B (B (P d1098) fun x1255 => B (P (.int 1)) fun x1254 => L (ixD x1255 x1254)) fun x1256 => L (seqD x1256)) fun ds1266 => B (cmp ds1266 (fun d1257 => B (B (B (P d1257) fun x1258 => B (P .none) fun x1259 => L (isB x1258 x1259)) fun b1263 => if b1263 then P .none else B (B (P d1070) fun x1261 => m__law_take [x1261]) fun x1262 => L (intL [x1262])) fun x1264 => P (some x1264))) fun o1267 => L (lstD o1267)) fun x1268 => L (tupL [x1268])) fun d1269 => B (B (B (B (B (P d1084) fun x1270 => B (P d1070) fun x1271 => B (P d1269) fun x1272 => L (m__law_sums [x1270, x1271, x1272])) fun x1273 => L (seqD x1273)) fun ds1286 => B (cmp ds1286 (fun d1274 => B (B (B (P d1094) fun x1276 => B (P (.int 0)) fun x1275 => L (ixD x1276 x1275)) fun x1279 => B (P d1274) fun x1280 => B (L (leB x1279 x1280)) fun b1281 => if b1281 then B (B (P d1094) fun x1278 => B (P (.int 1)) fun x1277 => L (ixD x1278 x1277)) fun x1282 => B (L (leB x1280 x1282)) fun b1283 => P (.bool b1283) else P (.bool false)) fun x1284 => P (some x1284))) fun o1287 => L (lstD o1287)) fun x1288 => L (allD [x1288])) fun d1289 => B (B (B (P d1084) fun x1290 => B (P d1070) fun x1291 => B (P d1094) fun x1292 => B (B (P (.str ("laid" : Str))) fun x1293 => B (P d1269) fun x1294 => L (tupD [x1293, x1294])) fun x1295 => L (m_shows_laid [x1290, x1291, x1292, x1295])) fun x1296 => B (P d1289) fun x1297 => L (neB x1296 x1297)) fun b1299 => B (if b1299 then B (P (.bool false)) fun d1300 => P (.rt d1300) else P (.nx ())) (kF (fun a1301 : Unit => P (.nx ())) Fl.rt)) Fl.rt)) Fl.rt) else P (.nx ())) (kF (fun a1303 : Unit => P (.bool true)) (fun d => d)))
def m__law_are_laid_right : List D → M Pot D
  | [] => b__law_are_laid_right
  | _ => fail
def b__law_fewest (d1305 d1306 : D) : M Unit D := B (B (B (P (.int 0)) fun x1307 => L (lstD [x1307])) fun x1311 => B (B (B (P .none) fun x1308 => L (lstD [x1308])) fun x1309 => B (P d1305) fun x1310 => L (mulT x1309 x1310)) fun x1312 => L (catN x1311 x1312)) fun d1313 => B (B (P (.int 1)) fun x1314 => B (B (P d1305) fun x1315 => B (P (.int 1)) fun x1316 => L (addD x1315 x1316)) fun x1317 => L (range2L [x1314, x1317])) fun ds1355 => B (foldS ds1355 (d1313 : (List D)) fun a1318 => fun d1319 => B (B (B (P d1306) fun x1320 => L (seqD x1320)) fun ds1338 => B (cmp ds1338 (fun d1337 => u2 d1337 fun d1321 d1322 => B (B (B (P d1321) fun x1326 => B (P d1319) fun x1327 => B (L (ltB x1326 x1327)) fun b1328 => if b1328 then B (P d1322) fun x1329 => L (leB x1327 x1329) else P false) fun b1335 => if b1335 then B (B (P (.list a1318)) fun x1331 => B (P d1321) fun x1330 => L (ixD x1331 x1330)) fun x1332 => B (P .none) fun x1333 => L (isntB x1332 x1333) else P false) fun b1336 => if b1336 then B (B (P (.list a1318)) fun x1324 => B (P d1321) fun x1323 => L (ixD x1324 x1323)) fun x1325 => P (some x1325) else P none)) fun o1339 => L (lstD o1339)) fun d1340 => B (B (B (P d1340) fun x1341 => B (L (lstD [])) fun x1342 => L (neB x1341 x1342)) fun b1347 => if b1347 then B (P (.int 1)) fun x1345 => B (B (P d1340) fun x1344 => L (minL [x1344])) fun x1346 => L (addD x1345 x1346) else P .none) fun d1348 => B (P d1319) fun j1349 => B (L (setL a1318 j1349 d1348)) fun ys1350 => P ys1350) fun a1352 : (List D) => B (P (.list a1352)) fun x1354 => B (P d1305) fun x1353 => L (ixD x1354 x1353)
def m__law_fewest : List D → Option D
  | [d1305, d1306] => run0 (b__law_fewest d1305 d1306)
  | _ => none
def b__law_are_spans_right : M Pot D := B (B (P (.int 60)) fun x1358 => B (B (B (P (.int 141)) fun x1356 => m__law_take [x1356]) fun x1357 => L (intL [x1357])) fun x1359 => L (addD x1358 x1359)) fun d1360 => B (L (lstS [])) fun d1361 => B (B (B (P (.int 20)) fun x1363 => B (B (P (.int 21)) fun x1362 => m__law_take [x1362]) fun x1364 => L (addD x1363 x1364)) fun x1365 => L (range1L [x1365])) fun ds1614 => B (foldS ds1614 (d1361 : (List D)) fun a1366 => fun d1367 => B (B (B (P d1360) fun x1368 => m__law_take [x1368]) fun x1369 => L (intL [x1369])) fun d1370 => B (B (P d1370) fun x1371 => B (B (P d1360) fun x1372 => B (B (B (P d1370) fun x1373 => B (P (.int 1)) fun x1374 => L (addD x1373 x1374)) fun x1380 => B (B (B (B (B (P (.int 20)) fun x1375 => B (P (.int 90)) fun x1376 => L (lstD [x1375, x1376])) fun x1377 => m__law_of [x1377]) fun x1378 => m__law_take [x1378]) fun x1379 => L (intL [x1379])) fun x1381 => L (addD x1380 x1381)) fun x1382 => L (min2L [x1372, x1382])) fun x1383 => L (tupD [x1371, x1383])) fun d1384 => B (L (appL a1366 d1384)) fun ys1385 => P ys1385) fun a1387 : (List D) => B (B (P (.list a1387)) fun x1388 => L (tupL [x1388])) fun d1389 => B (B (P d1360) fun x1390 => B (P d1389) fun x1391 => B (P (.int 1)) fun x1392 => L (m_cover [x1390, x1391, x1392])) fun d1393 => B (B (P d1360) fun x1394 => B (B (B (B (P d1389) fun x1395 => L (seqD x1395)) fun ds1402 => B (cmp ds1402 (fun d1401 => u2 d1401 fun d1396 d1397 => B (B (P d1396) fun x1398 => B (P d1397) fun x1399 => L (tupD [x1398, x1399])) fun x1400 => P (some x1400))) fun o1403 => L (lstD o1403)) fun x1404 => L (tupL [x1404])) fun x1405 => L (m__law_fewest [x1394, x1405])) fun d1406 => B (B (B (B (B (P d1393) fun x1408 => B (P (.int 0)) fun x1407 => L (ixD x1408 x1407)) fun x1409 => B (P (.str ("cover" : Str))) fun x1410 => B (L (eqB x1409 x1410)) fun b1411 => P (.bool b1411)) fun x1415 => B (B (P d1406) fun x1412 => B (P .none) fun x1413 => B (L (isntB x1412 x1413)) fun b1414 => P (.bool b1414)) fun x1416 => L (neB x1415 x1416)) fun b1428 => if b1428 then P true else B (B (P d1406) fun x1418 => B (P .none) fun x1419 => L (isntB x1418 x1419)) fun b1427 => if b1427 then B (B (B (P d1393) fun x1422 => B (P (.int 1)) fun x1421 => L (ixD x1422 x1421)) fun x1423 => L (lenD [x1423])) fun x1424 => B (P d1406) fun x1425 => L (neB x1424 x1425) else P false) fun b1429 => if b1429 then P (.bool false) else B (B (B (B (P d1389) fun x1430 => L (seqD x1430)) fun ds1441 => B (cmp ds1441 (fun d1440 => u2 d1440 fun d1431 d1432 => B (B (B (P d1360) fun x1433 => B (P d1432) fun x1434 => L (subD x1433 x1434)) fun x1435 => B (B (P d1360) fun x1436 => B (P d1431) fun x1437 => L (subD x1436 x1437)) fun x1438 => L (tupD [x1435, x1438])) fun x1439 => P (some x1439))) fun o1442 => L (lstD o1442)) fun x1443 => L (tupL [x1443])) fun d1444 => B (B (B (P (.int 1)) fun x1445 => B (P (.int 2)) fun x1446 => B (P (.int 3)) fun x1447 => L (tupD [x1445, x1446, x1447])) fun x1448 => L (seqD x1448)) fun ds1613 => B (foldF ds1613 (d1393 : D) fun a1449 => fun d1450 => B (B (B (P d1360) fun x1451 => B (P d1389) fun x1452 => B (P d1450) fun x1453 => L (m_cover [x1451, x1452, x1453])) fun x1454 => B (B (P d1360) fun x1455 => B (P d1444) fun x1456 => B (P d1450) fun x1457 => L (m_cover [x1455, x1456, x1457])) fun x1458 => L (tupD [x1454, x1458])) (fun d1610 => u2 d1610 fun d1459 d1460 => B (B (B (B (P d1360) fun x1461 => B (P d1389) fun x1462 => B (P d1450) fun x1463 => B (P d1459) fun x1464 => L (m_shows_cover [x1461, x1462, x1463, x1464])) fun x1465 => B (P (.bool true)) fun x1466 => L (isntB x1465 x1466)) fun b1475 => if b1475 then P true else B (B (P d1459) fun x1469 => B (P (.int 0)) fun x1468 => L (ixD x1469 x1468)) fun x1472 => B (B (P d1460) fun x1471 => B (P (.int 0)) fun x1470 => L (ixD x1471 x1470)) fun x1473 => L (neB x1472 x1473)) fun b1476 => B (if b1476 then B (P (.bool false)) fun d1477 => P (.rt d1477) else P (.nx ())) (kF (fun a1478 : Unit => B (B (B (P d1459) fun x1480 => B (P (.int 0)) fun x1479 => L (ixD x1480 x1479)) fun x1481 => B (P (.str ("never" : Str))) fun x1482 => L (eqB x1481 x1482)) fun b1484 => B (if b1484 then B (B (B (B (B (P d1389) fun x1485 => L (seqD x1485)) fun ds1500 => B (cmp ds1500 (fun d1486 => B (B (B (P d1486) fun x1489 => B (P (.int 0)) fun x1488 => L (ixD x1489 x1488)) fun x1494 => B (B (P d1459) fun x1491 => B (P (.int 1)) fun x1490 => L (ixD x1491 x1490)) fun x1495 => B (L (leB x1494 x1495)) fun b1496 => if b1496 then B (B (P d1486) fun x1493 => B (P (.int 1)) fun x1492 => L (ixD x1493 x1492)) fun x1497 => L (ltB x1495 x1497) else P false) fun b1498 => if b1498 then B (P d1486) fun x1487 => P (some x1487) else P none)) fun o1501 => L (lstD o1501)) fun x1502 => L (lenD [x1502])) fun x1503 => B (P d1450) fun x1504 => L (geB x1503 x1504)) fun b1506 => B (if b1506 then B (P (.bool false)) fun d1507 => P (.rt d1507) else P (.nx ())) (kF (fun a1508 : Unit => P (.nx ())) Fl.rt) else B (B (B (B (B (P d1460) fun x1510 => B (P (.int 1)) fun x1509 => L (ixD x1510 x1509)) fun x1511 => L (lenD [x1511])) fun x1515 => B (B (B (P d1459) fun x1513 => B (P (.int 1)) fun x1512 => L (ixD x1513 x1512)) fun x1514 => L (lenD [x1514])) fun x1516 => L (neB x1515 x1516)) fun b1537 => if b1537 then P true else B (B (B (B (P d1360) fun x1519 => B (B (P d1389) fun x1525 => B (B (P d1389) fun x1524 => B (P none) fun l1522 => B (B (P (.int 5)) fun x1520 => B (L (partD x1520)) fun i1521 => P (some i1521)) fun h1523 => L (sliceD x1524 l1522 h1523)) fun x1526 => L (addD x1525 x1526)) fun x1527 => B (P d1450) fun x1528 => L (m_cover [x1519, x1527, x1528])) fun x1529 => B (P (.int 1)) fun x1518 => L (ixD x1529 x1518)) fun x1530 => L (lenD [x1530])) fun x1534 => B (B (B (P d1459) fun x1532 => B (P (.int 1)) fun x1531 => L (ixD x1532 x1531)) fun x1533 => L (lenD [x1533])) fun x1535 => L (gtB x1534 x1535)) fun b1538 => B (if b1538 then B (P (.bool false)) fun d1539 => P (.rt d1539) else P (.nx ())) (kF (fun a1540 : Unit => B (B (B (P d1450) fun x1541 => B (P (.int 1)) fun x1542 => L (gtB x1541 x1542)) fun b1560 => if b1560 then B (B (B (P d1459) fun x1545 => B (P (.int 1)) fun x1544 => L (ixD x1545 x1544)) fun x1546 => L (lenD [x1546])) fun x1557 => B (B (B (B (B (P d1360) fun x1548 => B (P d1389) fun x1549 => B (B (P d1450) fun x1550 => B (P (.int 1)) fun x1551 => L (subD x1550 x1551)) fun x1552 => L (m_cover [x1548, x1549, x1552])) fun x1553 => B (P (.int 1)) fun x1547 => L (ixD x1553 x1547)) fun x1554 => L (lenD [x1554])) fun x1555 => B (P (.int 1)) fun x1556 => L (addD x1555 x1556)) fun x1558 => L (ltB x1557 x1558) else P false) fun b1561 => B (if b1561 then B (P (.bool false)) fun d1562 => P (.rt d1562) else P (.nx ())) (kF (fun a1563 : Unit => B (B (P d1360) fun x1564 => B (P d1389) fun x1565 => L (m_apart_yards [x1564, x1565])) fun d1566 => B (B (B (B (P d1459) fun x1568 => B (P (.int 1)) fun x1567 => L (ixD x1568 x1567)) fun x1569 => L (lenD [x1569])) fun x1573 => B (B (P d1450) fun x1571 => B (B (P d1566) fun x1570 => L (lenD [x1570])) fun x1572 => L (mulT x1571 x1572)) fun x1574 => L (ltB x1573 x1574)) fun b1576 => B (if b1576 then B (P (.bool false)) fun d1577 => P (.rt d1577) else P (.nx ())) (kF (fun a1578 : Unit => B (B (B (B (B (P d1389) fun x1579 => L (seqD x1579)) fun ds1602 => B (cmp ds1602 (fun d1580 => B (B (B (B (B (P d1566) fun x1581 => L (seqD x1581)) fun ds1594 => B (cmp ds1594 (fun d1582 => B (B (B (P d1580) fun x1585 => B (P (.int 0)) fun x1584 => L (ixD x1585 x1584)) fun x1588 => B (P d1582) fun x1589 => B (L (leB x1588 x1589)) fun b1590 => if b1590 then B (B (P d1580) fun x1587 => B (P (.int 1)) fun x1586 => L (ixD x1587 x1586)) fun x1591 => L (ltB x1589 x1591) else P false) fun b1592 => if b1592 then B (P d1582) fun x1583 => P (some x1583) else P none)) fun o1595 => L (lstD o1595)) fun x1596 => L (lenD [x1596])) fun x1597 => B (P (.int 1)) fun x1598 => B (L (gtB x1597 x1598)) fun b1599 => P (.bool b1599)) fun x1600 => P (some x1600))) fun o1603 => L (lstD o1603)) fun x1604 => L (anyD [x1604])) fun x1605 => L (boolD x1605)) fun b1606 => B (if b1606 then B (P (.bool false)) fun d1607 => P (.rt d1607) else P (.nx ())) (kF (fun a1608 : Unit => P (.nx ())) Fl.rt)) Fl.rt)) Fl.rt)) Fl.rt)) (kF (fun a1609 : Unit => P (.nx d1459)) Fl.rt)) Fl.rt))) (kF (fun a1612 : D => P (.bool true)) (fun d => d))
def m__law_are_spans_right : List D → M Pot D
  | [] => b__law_are_spans_right
  | _ => fail
def t_law : M Pot Bool := B (B (B (B (B (P (.int 2)) fun x1615 => L (range1L [x1615])) fun ds1621 => B (cmp ds1621 (fun d1616 => B (B (m__law_are_laid_right []) fun x1617 => B (L (boolD x1617)) fun b1618 => if b1618 then m__law_are_spans_right [] else P (.bool false)) fun x1619 => P (some x1619))) fun o1622 => L (lstD o1622)) fun x1623 => L (allD [x1623])) fun x1624 => L (boolD x1624)) fun b1625 => P (!b1625)
def b_law (ns : List Int) : M Unit D := B (B (B (P (.int 3)) fun x => L (m__law_places ns [x])) fun y => L (seqD y)) fun ds => B (foldF ds (() : Unit) fun _ => fun d => lawBody m__law_pot t_law ns d) (kF (fun _ : Unit => P (.bool true)) fun d => d)
def m_law (ns : List Int) : List D → Option D
  | [] => run0 (b_law ns)
  | _ => none
end K22

set_option Elab.async false
set_option linter.all false
set_option maxRecDepth 100000
set_option maxHeartbeats 0
namespace K22
open PySem PySem.Spec PyProof.Rows L2 DL
def topS (i : Nat) : Stmt := PySem.Challenge.pw_reeledeven_k22_strands_laid_and_spans_at.main.body.getD i (.Pass ⟨0, 0, 0, 0⟩)
structure Fx (K : PySem.W.Frag) (mg : Str → Option Value) (base : Heap) (TT : List (Addr × Str)) : Prop where
  f_is_tuple : Dfn K mg "is_tuple" (topS 1)
  f_is_whole : Dfn K mg "is_whole" (topS 2)
  f_is_integer : Dfn K mg "is_integer" (topS 3)
  f_is_word : Dfn K mg "is_word" (topS 4)
  f_is_strand : Dfn K mg "is_strand" (topS 16)
  f_is_band : Dfn K mg "is_band" (topS 17)
  f_check_band : Dfn K mg "check_band" (topS 18)
  f_is_strands : Dfn K mg "is_strands" (topS 29)
  f_check_strands : Dfn K mg "check_strands" (topS 30)
  f_sums_of : Dfn K mg "sums_of" (topS 31)
  f_is_right : Dfn K mg "is_right" (topS 32)
  f_ways_with : Dfn K mg "ways_with" (topS 33)
  f_least_laid : Dfn K mg "least_laid" (topS 34)
  f_shows_laid : Dfn K mg "shows_laid" (topS 35)
  f_is_spans : Dfn K mg "is_spans" (topS 36)
  f_check_spans : Dfn K mg "check_spans" (topS 37)
  f_covered : Dfn K mg "covered" (topS 38)
  f_cover : Dfn K mg "cover" (topS 39)
  f_shows_cover : Dfn K mg "shows_cover" (topS 40)
  f_apart_yards : Dfn K mg "apart_yards" (topS 41)
  f__law_pot : Dfn K mg "_law_pot" (topS 43)
  f__law_take : Dfn K mg "_law_take" (topS 44)
  f__law_of : Dfn K mg "_law_of" (topS 45)
  f__law_places : Dfn K mg "_law_places" (topS 46)
  f__law_some : Dfn K mg "_law_some" (topS 47)
  f__law_strand : Dfn K mg "_law_strand" (topS 48)
  f__law_sums : Dfn K mg "_law_sums" (topS 49)
  f__law_few : Dfn K mg "_law_few" (topS 50)
  f__law_own_few : Dfn K mg "_law_own_few" (topS 51)
  f__law_are_laid_right : Dfn K mg "_law_are_laid_right" (topS 52)
  f__law_fewest : Dfn K mg "_law_fewest" (topS 53)
  f__law_are_spans_right : Dfn K mg "_law_are_spans_right" (topS 54)
  f_law : Dfn K mg "law" (topS 55)
  c_COVER : ∃ t, mg "COVER" = some (.str ("cover" : Str) t)
  c_LAID : ∃ t, mg "LAID" = some (.str ("laid" : Str) t)
  c_MOST_BESIDE : ∃ t, mg "MOST_BESIDE" = some (.int 8 t)
  c_MOST_LAID : ∃ t, mg "MOST_LAID" = some (.int 5 t)
  c_MOST_LONG : ∃ t, mg "MOST_LONG" = some (.int 12 t)
  c_MOST_SPANS : ∃ t, mg "MOST_SPANS" = some (.int 60 t)
  c_MOST_STRENGTH : ∃ t, mg "MOST_STRENGTH" = some (.int 100 t)
  c_MOST_SUM : ∃ t, mg "MOST_SUM" = some (.int 1000 t)
  c_MOST_YARDS_laying : ∃ t, mg "MOST_YARDS_laying" = some (.int 200 t)
  c_MOST_YARDS_strands : ∃ t, mg "MOST_YARDS_strands" = some (.int 60 t)
  c_NEVER : ∃ t, mg "NEVER" = some (.str ("never" : Str) t)
  c_PAIR_laying : ∃ t, mg "PAIR_laying" = some (.int 2 t)
  c_PAIR_strands : ∃ t, mg "PAIR_strands" = some (.int 2 t)
  t_least_laid : LamD K mg base TT "least_laid" (("least_laid" : Str) ++ ".<locals>." ++ "<lambda>")
  pl : Plain mg
  n_abs : mg "abs" = none
  n_all : mg "all" = none
  n_any : mg "any" = none
  n_bool : mg "bool" = none
  n_enumerate : mg "enumerate" = none
  n_int : mg "int" = none
  n_isinstance : mg "isinstance" = none
  n_len : mg "len" = none
  n_list : mg "list" = none
  n_max : mg "max" = none
  n_min : mg "min" = none
  n_range : mg "range" = none
  n_set : mg "set" = none
  n_sorted : mg "sorted" = none
  n_str : mg "str" = none
  n_sum : mg "sum" = none
  n_tuple : mg "tuple" = none
  n_zip : mg "zip" = none
section
variable {PR : Program} {w : World} {K : PySem.W.Frag} {mg : Str → Option Value} {base : Heap} {TT : List (Addr × Str)}
abbrev s_is_tuple : Stmt := topS 1
theorem sc_is_tuple : FnScope ["value", "least", "most"] ["value", "least", "most"] (defScope s_is_tuple) := ⟨rfl, rfl, rfl, by decide +kernel, rfl, by decide +kernel, by decide +kernel⟩
theorem n_is_tuple_least : NmF (defScope s_is_tuple) ["value", "least", "most"] 1 "least" := ⟨rfl, (.inl (by kernel_rfl)), by decide, by decide⟩
theorem n_is_tuple_most : NmF (defScope s_is_tuple) ["value", "least", "most"] 2 "most" := ⟨rfl, (.inl (by kernel_rfl)), by decide, by decide⟩
theorem n_is_tuple_value : NmF (defScope s_is_tuple) ["value", "least", "most"] 0 "value" := ⟨rfl, (.inl (by kernel_rfl)), by decide, by decide⟩
theorem g_is_tuple_isinstance : (defScope s_is_tuple).names.lookup (("isinstance" : Str)) = some .globalImplicit := by kernel_rfl
theorem g_is_tuple_len : (defScope s_is_tuple).names.lookup (("len" : Str)) = some .globalImplicit := by kernel_rfl
theorem g_is_tuple_tuple : (defScope s_is_tuple).names.lookup (("tuple" : Str)) = some .globalImplicit := by kernel_rfl
theorem w_is_tuple (c : Fx K mg base TT) : DOk PR w K mg base 1 "is_tuple" ["value", "least", "most"] (spF TT m_is_tuple) := by
  refine ok_pure (N := ["value", "least", "most"]) (k := 0) c.f_is_tuple sc_is_tuple (fun _ _ _ _ _ _ us hl => match us, hl with | [_, _, _], _ => rfl) (mb := fun ds => match ds with | [d1, d2, d3] => b_is_tuple d1 d2 d3 | _ => fail) ?_ ?_
  · intro ds r h
    match ds, h with
    | [_, _, _], h => exact ⟨rfl, h⟩
  · intro ds hl
    match ds, hl with
    | [d1, d2, d3], _ =>
      intro cdv A outer s F E hcd hr
      show JS _ _ _ _ (b_is_tuple d1 d2 d3) _
      unfold b_is_tuple
      exact (js_nf [.val d1, .val d2, .val d3] rfl (js_ret0 (je_and (je_isi (je_nm n_is_tuple_value rfl) g_is_tuple_isinstance c.n_isinstance g_is_tuple_tuple c.n_tuple (by decide +kernel)) (je_one (je_chain ob_le ob_le (JE.v (je_nm n_is_tuple_least rfl)) (JE.v (je_callB cd_len g_is_tuple_len c.n_len (by decide +kernel) (jav_cons (JE.v (je_nm n_is_tuple_value rfl)) fun x5 => jav_nil))) (JE.v (je_nm n_is_tuple_most rfl)))))))
abbrev s_is_whole : Stmt := topS 2
theorem sc_is_whole : FnScope ["value"] ["value"] (defScope s_is_whole) := ⟨rfl, rfl, rfl, by decide +kernel, rfl, by decide +kernel, by decide +kernel⟩
theorem n_is_whole_value : NmF (defScope s_is_whole) ["value"] 0 "value" := ⟨rfl, (.inl (by kernel_rfl)), by decide, by decide⟩
theorem g_is_whole_bool : (defScope s_is_whole).names.lookup (("bool" : Str)) = some .globalImplicit := by kernel_rfl
theorem g_is_whole_int : (defScope s_is_whole).names.lookup (("int" : Str)) = some .globalImplicit := by kernel_rfl
theorem g_is_whole_isinstance : (defScope s_is_whole).names.lookup (("isinstance" : Str)) = some .globalImplicit := by kernel_rfl
theorem w_is_whole (c : Fx K mg base TT) : DOk PR w K mg base 1 "is_whole" ["value"] (spF TT m_is_whole) := by
  refine ok_pure (N := ["value"]) (k := 0) c.f_is_whole sc_is_whole (fun _ _ _ _ _ _ us hl => match us, hl with | [_], _ => rfl) (mb := fun ds => match ds with | [d13] => b_is_whole d13 | _ => fail) ?_ ?_
  · intro ds r h
    match ds, h with
    | [_], h => exact ⟨rfl, h⟩
  · intro ds hl
    match ds, hl with
    | [d13], _ =>
      intro cdv A outer s F E hcd hr
      show JS _ _ _ _ (b_is_whole d13) _
      unfold b_is_whole
      exact (js_nf [.val d13] rfl (js_ret0 (je_and (je_isi (je_nm n_is_whole_value rfl) g_is_whole_isinstance c.n_isinstance g_is_whole_int c.n_int (by decide +kernel)) (je_one (je_not (je_isi (je_nm n_is_whole_value rfl) g_is_whole_isinstance c.n_isinstance g_is_whole_bool c.n_bool (by decide +kernel)))))))
abbrev s_is_integer : Stmt := topS 3
theorem sc_is_integer : FnScope ["value", "low", "high"] ["value", "low", "high"] (defScope s_is_integer) := ⟨rfl, rfl, rfl, by decide +kernel, rfl, by decide +kernel, by decide +kernel⟩
theorem n_is_integer_high : NmF (defScope s_is_integer) ["value", "low", "high"] 2 "high" := ⟨rfl, (.inl (by kernel_rfl)), by decide, by decide⟩
theorem n_is_integer_low : NmF (defScope s_is_integer) ["value", "low", "high"] 1 "low" := ⟨rfl, (.inl (by kernel_rfl)), by decide, by decide⟩
theorem n_is_integer_value : NmF (defScope s_is_integer) ["value", "low", "high"] 0 "value" := ⟨rfl, (.inl (by kernel_rfl)), by decide, by decide⟩
theorem g_is_integer_is_whole : (defScope s_is_integer).names.lookup (("is_whole" : Str)) = some .globalImplicit := by kernel_rfl
theorem w_is_integer (c : Fx K mg base TT) : DOk PR w K mg base 2 "is_integer" ["value", "low", "high"] (spF TT m_is_integer) := by
  refine ok_pure (N := ["value", "low", "high"]) (k := 1) c.f_is_integer sc_is_integer (fun _ _ _ _ _ _ us hl => match us, hl with | [_, _, _], _ => rfl) (mb := fun ds => match ds with | [d20, d21, d22] => b_is_integer d20 d21 d22 | _ => fail) ?_ ?_
  · intro ds r h
    match ds, h with
    | [_, _, _], h => exact ⟨rfl, h⟩
  · intro ds hl
    match ds, hl with
    | [d20, d21, d22], _ =>
      intro cdv A outer s F E hcd hr
      show JS _ _ _ _ (b_is_integer d20 d21 d22) _
      unfold b_is_integer
      exact (js_nf [.val d20, .val d21, .val d22] rfl (js_ret0 (je_and (je_callO (w_is_whole c) hr (by decide) g_is_integer_is_whole (ja_cons (je_nm n_is_integer_value rfl) fun x23 => ja_nil)) (je_one (je_chain ob_le ob_le (JE.v (je_nm n_is_integer_low rfl)) (JE.v (je_nm n_is_integer_value rfl)) (JE.v (je_nm n_is_integer_high rfl)))))))
abbrev s_is_word : Stmt := topS 4
theorem sc_is_word : FnScope ["value", "words"] ["value", "words"] (defScope s_is_word) := ⟨rfl, rfl, rfl, by decide +kernel, rfl, by decide +kernel, by decide +kernel⟩
theorem n_is_word_value : NmF (defScope s_is_word) ["value", "words"] 0 "value" := ⟨rfl, (.inl (by kernel_rfl)), by decide, by decide⟩
theorem n_is_word_words : NmF (defScope s_is_word) ["value", "words"] 1 "words" := ⟨rfl, (.inl (by kernel_rfl)), by decide, by decide⟩
theorem g_is_word_isinstance : (defScope s_is_word).names.lookup (("isinstance" : Str)) = some .globalImplicit := by kernel_rfl
theorem g_is_word_str : (defScope s_is_word).names.lookup (("str" : Str)) = some .globalImplicit := by kernel_rfl
theorem w_is_word (c : Fx K mg base TT) : DOk PR w K mg base 1 "is_word" ["value", "words"] (spF TT m_is_word) := by
  refine ok_pure (N := ["value", "words"]) (k := 0) c.f_is_word sc_is_word (fun _ _ _ _ _ _ us hl => match us, hl with | [_, _], _ => rfl) (mb := fun ds => match ds with | [d31, d32] => b_is_word d31 d32 | _ => fail) ?_ ?_
  · intro ds r h
    match ds, h with
    | [_, _], h => exact ⟨rfl, h⟩
  · intro ds hl
    match ds, hl with
    | [d31, d32], _ =>
      intro cdv A outer s F E hcd hr
      show JS _ _ _ _ (b_is_word d31 d32) _
      unfold b_is_word
      exact (js_nf [.val d31, .val d32] rfl (js_ret0 (je_and (je_isi (je_nm n_is_word_value rfl) g_is_word_isinstance c.n_isinstance g_is_word_str c.n_str (by decide +kernel)) (je_one (je_cmp (ob_in hr.units) (JE.v (je_nm n_is_word_value rfl)) (JE.v (je_nm n_is_word_words rfl)) (by rfl))))))
abbrev s_is_strand : Stmt := topS 16
theorem sc_is_strand : FnScope ["value", "one"] ["value"] (defScope s_is_strand) := ⟨rfl, rfl, rfl, by decide +kernel, rfl, by decide +kernel, by decide +kernel⟩
theorem n_is_strand_value : NmF (defScope s_is_strand) ["value", "one"] 0 "value" := ⟨rfl, (.inl (by kernel_rfl)), by decide, by decide⟩
theorem g_is_strand_MOST_YARDS_strands : (defScope s_is_strand).names.lookup (("MOST_YARDS_strands" : Str)) = some .globalImplicit := by kernel_rfl
theorem g_is_strand_all : (defScope s_is_strand).names.lookup (("all" : Str)) = some .globalImplicit := by kernel_rfl
theorem g_is_strand_is_tuple : (defScope s_is_strand).names.lookup (("is_tuple" : Str)) = some .globalImplicit := by kernel_rfl
theorem w_is_strand (c : Fx K mg base TT) : DOk PR w K mg base 3 "is_strand" ["value"] (spF TT m_is_strand) := by
  refine ok_pure (N := ["value", "one"]) (k := 2) c.f_is_strand sc_is_strand (fun _ _ _ _ _ _ us hl => match us, hl with | [_], _ => rfl) (mb := fun ds => match ds with | [d39] => b_is_strand d39 | _ => fail) ?_ ?_
  · intro ds r h
    match ds, h with
    | [_], h => exact ⟨rfl, h⟩
  · intro ds hl
    match ds, hl with
    | [d39], _ =>
      intro cdv A outer s F E hcd hr
      show JS _ _ _ _ (b_is_strand d39) _
      unfold b_is_strand
      exact (js_nf [.val d39, .unk] rfl (js_ret0 (je_and (je_callO (w_is_tuple c) hr (by decide) g_is_strand_is_tuple (ja_cons (je_nm n_is_strand_value rfl) fun x40 => (ja_cons je_int fun x41 => (ja_cons (je_gint c.c_MOST_YARDS_strands g_is_strand_MOST_YARDS_strands) fun x42 => ja_nil)))) (je_one (je_callB (cd_all rfl) g_is_strand_all c.n_all (by decide +kernel) (jav_cons (JE.v (je_lc rfl sc_is_strand.nd (ji_seq (je_nm n_is_strand_value rfl)) (blk (own := [("one", 1)]) (by kernel_rfl)) (fun _ _ _ _ _ => (pgd_n 1 sc_is_strand.nd rfl (.inl rfl))) (ji_n fun d44 => .plain (fun _ _ _ _ _ => je_nf [.val d39, .val d44] rfl (je_callO (w_is_integer c) hr (by decide) rfl (ja_cons (je_name 1 rfl (.inl rfl) rfl) fun x45 => (ja_cons je_int fun x46 => (ja_cons (je_gint c.c_MOST_STRENGTH rfl) fun x47 => ja_nil)))))))) fun x52 => jav_nil))))))
abbrev s_is_band : Stmt := topS 17
theorem sc_is_band : FnScope ["value"] ["value"] (defScope s_is_band) := ⟨rfl, rfl, rfl, by decide +kernel, rfl, by decide +kernel, by decide +kernel⟩
theorem n_is_band_value : NmF (defScope s_is_band) ["value"] 0 "value" := ⟨rfl, (.inl (by kernel_rfl)), by decide, by decide⟩
theorem g_is_band_MOST_SUM : (defScope s_is_band).names.lookup (("MOST_SUM" : Str)) = some .globalImplicit := by kernel_rfl
theorem g_is_band_PAIR_strands : (defScope s_is_band).names.lookup (("PAIR_strands" : Str)) = some .globalImplicit := by kernel_rfl
theorem g_is_band_is_integer : (defScope s_is_band).names.lookup (("is_integer" : Str)) = some .globalImplicit := by kernel_rfl
theorem g_is_band_is_tuple : (defScope s_is_band).names.lookup (("is_tuple" : Str)) = some .globalImplicit := by kernel_rfl
theorem w_is_band (c : Fx K mg base TT) : DOk PR w K mg base 3 "is_band" ["value"] (spF TT m_is_band) := by
  refine ok_pure (N := ["value"]) (k := 2) c.f_is_band sc_is_band (fun _ _ _ _ _ _ us hl => match us, hl with | [_], _ => rfl) (mb := fun ds => match ds with | [d55] => b_is_band d55 | _ => fail) ?_ ?_
  · intro ds r h
    match ds, h with
    | [_], h => exact ⟨rfl, h⟩
  · intro ds hl
    match ds, hl with
    | [d55], _ =>
      intro cdv A outer s F E hcd hr
      show JS _ _ _ _ (b_is_band d55) _
      unfold b_is_band
      exact (js_nf [.val d55] rfl (js_ifret (JW.t (jw_or (jt_not (jt_val (je_callO (w_is_tuple c) hr (by decide) g_is_band_is_tuple (ja_cons (je_nm n_is_band_value rfl) fun x56 => (ja_cons (je_gint c.c_PAIR_strands g_is_band_PAIR_strands) fun x57 => (ja_cons (je_gint c.c_PAIR_strands g_is_band_PAIR_strands) fun x58 => ja_nil)))))) (jw_or1 (jt_not (jt_val (je_callO (w_is_integer c) hr (by decide) g_is_band_is_integer (ja_cons (je_ix (JE.v (je_nm n_is_band_value rfl)) je_int) fun x63 => (ja_cons je_int fun x64 => (ja_cons (je_gint c.c_MOST_SUM g_is_band_MOST_SUM) fun x65 => ja_nil))))))))) (js_nf [.val d55] rfl (js_ret0 je_bl)) (js_nf [.val d55] rfl (js_ret0 (je_callO (w_is_integer c) hr (by decide) g_is_band_is_integer (ja_cons (je_ix (JE.v (je_nm n_is_band_value rfl)) je_int) fun x72 => (ja_cons (je_ix (JE.v (je_nm n_is_band_value rfl)) je_int) fun x75 => (ja_cons (je_gint c.c_MOST_SUM g_is_band_MOST_SUM) fun x76 => ja_nil)))))) fun _ _ => nofun))
abbrev s_check_band : Stmt := topS 18
theorem sc_check_band : FnScope ["value"] ["value"] (defScope s_check_band) := ⟨rfl, rfl, rfl, by decide +kernel, rfl, by decide +kernel, by decide +kernel⟩
theorem n_check_band_value : NmF (defScope s_check_band) ["value"] 0 "value" := ⟨rfl, (.inl (by kernel_rfl)), by decide, by decide⟩
theorem g_check_band_is_band : (defScope s_check_band).names.lookup (("is_band" : Str)) = some .globalImplicit := by kernel_rfl
theorem w_check_band (c : Fx K mg base TT) : DOk PR w K mg base 4 "check_band" ["value"] (spF TT m_check_band) := by
  refine ok_proc (ρ' := [.unk]) (N := ["value"]) (k := 3) c.f_check_band sc_check_band (fun _ _ _ _ _ _ us hl => match us, hl with | [_], _ => rfl) (mb := fun ds => match ds with | [d77] => b_check_band d77 | _ => fail) ?_ ?_
  · intro ds r h
    match ds, h with
    | [_], h => exact ⟨rfl, h⟩
  · intro ds hl
    match ds, hl with
    | [d77], _ =>
      intro cdv A outer s F E hcd hr
      show JS _ _ _ _ (b_check_band d77) _
      unfold b_check_band
      exact (js_nf [.val d77] rfl (js_ifraise (jt_not (jt_val (je_callO (w_is_band c) hr (by decide) g_check_band_is_band (ja_cons (je_nm n_check_band_value rfl) fun x78 => ja_nil)))) (js_end rfl (.u .nil))))
abbrev s_is_strands : Stmt := topS 29
theorem sc_is_strands : FnScope ["value", "one"] ["value"] (defScope s_is_strands) := ⟨rfl, rfl, rfl, by decide +kernel, rfl, by decide +kernel, by decide +kernel⟩
theorem n_is_strands_value : NmF (defScope s_is_strands) ["value", "one"] 0 "value" := ⟨rfl, (.inl (by kernel_rfl)), by decide, by decide⟩
theorem g_is_strands_MOST_LAID : (defScope s_is_strands).names.lookup (("MOST_LAID" : Str)) = some .globalImplicit := by kernel_rfl
theorem g_is_strands_all : (defScope s_is_strands).names.lookup (("all" : Str)) = some .globalImplicit := by kernel_rfl
theorem g_is_strands_is_tuple : (defScope s_is_strands).names.lookup (("is_tuple" : Str)) = some .globalImplicit := by kernel_rfl
theorem w_is_strands (c : Fx K mg base TT) : DOk PR w K mg base 4 "is_strands" ["value"] (spF TT m_is_strands) := by
  refine ok_pure (N := ["value", "one"]) (k := 3) c.f_is_strands sc_is_strands (fun _ _ _ _ _ _ us hl => match us, hl with | [_], _ => rfl) (mb := fun ds => match ds with | [d82] => b_is_strands d82 | _ => fail) ?_ ?_
  · intro ds r h
    match ds, h with
    | [_], h => exact ⟨rfl, h⟩
  · intro ds hl
    match ds, hl with
    | [d82], _ =>
      intro cdv A outer s F E hcd hr
      show JS _ _ _ _ (b_is_strands d82) _
      unfold b_is_strands
      exact (js_nf [.val d82, .unk] rfl (js_ret0 (je_and (je_callO (w_is_tuple c) hr (by decide) g_is_strands_is_tuple (ja_cons (je_nm n_is_strands_value rfl) fun x83 => (ja_cons je_int fun x84 => (ja_cons (je_gint c.c_MOST_LAID g_is_strands_MOST_LAID) fun x85 => ja_nil)))) (je_one (je_callB (cd_all rfl) g_is_strands_all c.n_all (by decide +kernel) (jav_cons (JE.v (je_lc rfl sc_is_strands.nd (ji_seq (je_nm n_is_strands_value rfl)) (blk (own := [("one", 1)]) (by kernel_rfl)) (fun _ _ _ _ _ => (pgd_n 1 sc_is_strands.nd rfl (.inl rfl))) (ji_n fun d87 => .plain (fun _ _ _ _ _ => je_nf [.val d82, .val d87] rfl (je_callO (w_is_strand c) hr (by decide) rfl (ja_cons (je_name 1 rfl (.inl rfl) rfl) fun x88 => ja_nil)))))) fun x93 => jav_nil))))))
abbrev s_check_strands : Stmt := topS 30
theorem sc_check_strands : FnScope ["strands", "length", "band"] ["strands", "length", "band"] (defScope s_check_strands) := ⟨rfl, rfl, rfl, by decide +kernel, rfl, by decide +kernel, by decide +kernel⟩
theorem n_check_strands_band : NmF (defScope s_check_strands) ["strands", "length", "band"] 2 "band" := ⟨rfl, (.inl (by kernel_rfl)), by decide, by decide⟩
theorem n_check_strands_length : NmF (defScope s_check_strands) ["strands", "length", "band"] 1 "length" := ⟨rfl, (.inl (by kernel_rfl)), by decide, by decide⟩
theorem n_check_strands_strands : NmF (defScope s_check_strands) ["strands", "length", "band"] 0 "strands" := ⟨rfl, (.inl (by kernel_rfl)), by decide, by decide⟩
theorem g_check_strands_MOST_LONG : (defScope s_check_strands).names.lookup (("MOST_LONG" : Str)) = some .globalImplicit := by kernel_rfl
theorem g_check_strands_check_band : (defScope s_check_strands).names.lookup (("check_band" : Str)) = some .globalImplicit := by kernel_rfl
theorem g_check_strands_is_integer : (defScope s_check_strands).names.lookup (("is_integer" : Str)) = some .globalImplicit := by kernel_rfl
theorem g_check_strands_is_strands : (defScope s_check_strands).names.lookup (("is_strands" : Str)) = some .globalImplicit := by kernel_rfl
theorem w_check_strands (c : Fx K mg base TT) : DOk PR w K mg base 5 "check_strands" ["strands", "length", "band"] (spF TT m_check_strands) := by
  refine ok_proc (ρ' := [.unk, .unk, .unk]) (N := ["strands", "length", "band"]) (k := 4) c.f_check_strands sc_check_strands (fun _ _ _ _ _ _ us hl => match us, hl with | [_, _, _], _ => rfl) (mb := fun ds => match ds with | [d96, d97, d98] => b_check_strands d96 d97 d98 | _ => fail) ?_ ?_
  · intro ds r h
    match ds, h with
    | [_, _, _], h => exact ⟨rfl, h⟩
  · intro ds hl
    match ds, hl with
    | [d96, d97, d98], _ =>
      intro cdv A outer s F E hcd hr
      show JS _ _ _ _ (b_check_strands d96 d97 d98) _
      unfold b_check_strands
      exact (js_nf [.val d96, .val d97, .val d98] rfl (js_ifraise (jt_not (jt_val (je_callO (w_is_strands c) hr (by decide) g_check_strands_is_strands (ja_cons (je_nm n_check_strands_strands rfl) fun x99 => ja_nil)))) (js_nf [.val d96, .val d97, .val d98] rfl (js_ifraise (jt_not (jt_val (je_callO (w_is_integer c) hr (by decide) g_check_strands_is_integer (ja_cons (je_nm n_check_strands_length rfl) fun x103 => (ja_cons je_int fun x104 => (ja_cons (je_gint c.c_MOST_LONG g_check_strands_MOST_LONG) fun x105 => ja_nil)))))) (js_nf [.val d96, .val d97, .val d98] rfl (js_expr (je_callO (w_check_band c) hr (by decide) g_check_strands_check_band (ja_cons (je_nm n_check_strands_band rfl) fun x109 => ja_nil)) (js_end rfl (.u (.u (.u .nil))))))))))
abbrev s_sums_of : Stmt := topS 31
theorem sc_sums_of : FnScope ["strands", "length", "begins", "found", "strand", "begin", "at", "one"] ["strands", "length", "begins"] (defScope s_sums_of) := ⟨rfl, rfl, rfl, by decide +kernel, rfl, by decide +kernel, by decide +kernel⟩
theorem n_sums_of_at : NmF (defScope s_sums_of) ["strands", "length", "begins", "found", "strand", "begin", "at", "one"] 6 "at" := ⟨rfl, (.inl (by kernel_rfl)), by decide, by decide⟩
theorem n_sums_of_begin : NmF (defScope s_sums_of) ["strands", "length", "begins", "found", "strand", "begin", "at", "one"] 5 "begin" := ⟨rfl, (.inl (by kernel_rfl)), by decide, by decide⟩
theorem n_sums_of_begins : NmF (defScope s_sums_of) ["strands", "length", "begins", "found", "strand", "begin", "at", "one"] 2 "begins" := ⟨rfl, (.inl (by kernel_rfl)), by decide, by decide⟩
theorem n_sums_of_found : NmF (defScope s_sums_of) ["strands", "length", "begins", "found", "strand", "begin", "at", "one"] 3 "found" := ⟨rfl, (.inl (by kernel_rfl)), by decide, by decide⟩
theorem n_sums_of_length : NmF (defScope s_sums_of) ["strands", "length", "begins", "found", "strand", "begin", "at", "one"] 1 "length" := ⟨rfl, (.inl (by kernel_rfl)), by decide, by decide⟩
theorem n_sums_of_one : NmF (defScope s_sums_of) ["strands", "length", "begins", "found", "strand", "begin", "at", "one"] 7 "one" := ⟨rfl, (.inl (by kernel_rfl)), by decide, by decide⟩
theorem n_sums_of_strand : NmF (defScope s_sums_of) ["strands", "length", "begins", "found", "strand", "begin", "at", "one"] 4 "strand" := ⟨rfl, (.inl (by kernel_rfl)), by decide, by decide⟩
theorem n_sums_of_strands : NmF (defScope s_sums_of) ["strands", "length", "begins", "found", "strand", "begin", "at", "one"] 0 "strands" := ⟨rfl, (.inl (by kernel_rfl)), by decide, by decide⟩
theorem g_sums_of_enumerate : (defScope s_sums_of).names.lookup (("enumerate" : Str)) = some .globalImplicit := by kernel_rfl
theorem g_sums_of_zip : (defScope s_sums_of).names.lookup (("zip" : Str)) = some .globalImplicit := by kernel_rfl
theorem w_sums_of (c : Fx K mg base TT) : DOk PR w K mg base 1 "sums_of" ["strands", "length", "begins"] (spF TT m_sums_of) := by
  refine ok_pure (N := ["strands", "length", "begins", "found", "strand", "begin", "at", "one"]) (k := 0) c.f_sums_of sc_sums_of (fun _ _ _ _ _ _ us hl => match us, hl with | [_, _, _], _ => rfl) (mb := fun ds => match ds with | [d110, d111, d112] => b_sums_of d110 d111 d112 | _ => fail) ?_ ?_
  · intro ds r h
    match ds, h with
    | [_, _, _], h => exact ⟨rfl, h⟩
  · intro ds hl
    match ds, hl with
    | [d110, d111, d112], _ =>
      intro cdv A outer s F E hcd hr
      show JS _ _ _ _ (b_sums_of d110 d111 d112) _
      unfold b_sums_of
      exact (js_nf [.val d110, .val d111, .val d112, .unk, .unk, .unk, .unk, .unk] rfl (js_asg (i := 3) sc_sums_of.nd rfl (.inl rfl) (jn_bin on_rep (je_lst (ja_cons je_int fun x113 => ja_nil)) (je_nm n_sums_of_length rfl)) fun d116 => (js_nf [.val d110, .val d111, .val d112, .own d116, .unk, .unk, .unk, .unk] rfl (js_forK (r := (fun d => d)) (emb := (fun a : (List D) => [.val d110, .val d111, .val d112, .own a, .unk, .unk, .unk, .unk])) (a0 := d116) PassesOwn.never rfl (ji_zipA g_sums_of_zip c.n_zip (ja_cons (je_nm n_sums_of_strands rfl) fun x117 => (ja_cons (je_nm n_sums_of_begins rfl) fun x118 => ja_nil))) (pgd_2 rfl (pgd_n 4 sc_sums_of.nd rfl (.inl rfl)) (pgd_n 5 sc_sums_of.nd rfl (.inl rfl))) (.e (.e (.e (.e (.u (.u (.u (.u .nil)))))))) (fun a119 => ji_2 fun d120 d121 => (js_nf [.val d110, .val d111, .val d112, .own a119, .val d120, .val d121, .unk, .unk] rfl (js_ifK (emb := (fun a : (List D) => [.val d110, .val d111, .val d112, .own a, .val d120, .val d121, .unk, .unk])) (jt_cmp ob_isnt (JE.v (je_nm n_sums_of_begin rfl)) (JE.v je_non) (by rfl)) (js_nf [.val d110, .val d111, .val d112, .own a119, .val d120, .val d121, .unk, .unk] rfl (js_for (r := Fl.rt) (emb := (fun a : (List D) => [.val d110, .val d111, .val d112, .own a, .val d120, .val d121, .unk, .unk])) (a0 := a119) PassesOwn.never rfl (ji_enumT g_sums_of_enumerate c.n_enumerate (ja_cons (je_slice (JE.v (je_nm n_sums_of_strand rfl)) jo_none (jo_some (je_bin od_sub (je_nm n_sums_of_length rfl) (je_nm n_sums_of_begin rfl)))) fun x133 => ja_nil)) (pgd_2 rfl (pgd_n 6 sc_sums_of.nd rfl (.inl rfl)) (pgd_n 7 sc_sums_of.nd rfl (.inl rfl))) (.e (.e (.e (.e (.e (.e (.u (.u .nil)))))))) (fun a134 => ji_2 fun d135 d136 => (js_nf [.val d110, .val d111, .val d112, .own a134, .val d120, .val d121, .val d135, .val d136] rfl (js_setitem (i := 3) rfl (.inl rfl) rfl (je_bin od_add (je_ix (jv_nm n_sums_of_found rfl) (je_bin od_add (je_nm n_sums_of_begin rfl) (je_nm n_sums_of_at rfl))) (je_nm n_sums_of_one rfl)) (je_bin od_add (je_nm n_sums_of_begin rfl) (je_nm n_sums_of_at rfl)) fun ys147 => (js_end rfl (.e (.e (.e (.e (.e (.e (.u (.u .nil)))))))))))) (fun a149 => (js_end rfl (.e (.e (.e (.e (.e (.e (.u (.u .nil)))))))))) fun _ => rfl)) (js_end rfl (.e (.e (.e (.e (.e (.e (.u (.u .nil))))))))) (fun a151 => (js_end rfl (.e (.e (.e (.e (.u (.u (.u (.u .nil)))))))))) fun _ => rfl))) (fun a153 => (js_nf [.val d110, .val d111, .val d112, .own a153, .unk, .unk, .unk, .unk] rfl (js_freeze (i := 3) rfl (js_nf [.val d110, .val d111, .val d112, .val (.list a153), .unk, .unk, .unk, .unk] rfl (js_ret0 (je_nm n_sums_of_found rfl)))))) fun _ => rfl))))
abbrev s_is_right : Stmt := topS 32
theorem sc_is_right : FnScope ["strands", "length", "band", "begins", "one"] ["strands", "length", "band", "begins"] (defScope s_is_right) := ⟨rfl, rfl, rfl, by decide +kernel, rfl, by decide +kernel, by decide +kernel⟩
theorem n_is_right_begins : NmF (defScope s_is_right) ["strands", "length", "band", "begins", "one"] 3 "begins" := ⟨rfl, (.inl (by kernel_rfl)), by decide, by decide⟩
theorem n_is_right_length : NmF (defScope s_is_right) ["strands", "length", "band", "begins", "one"] 1 "length" := ⟨rfl, (.inl (by kernel_rfl)), by decide, by decide⟩
theorem n_is_right_strands : NmF (defScope s_is_right) ["strands", "length", "band", "begins", "one"] 0 "strands" := ⟨rfl, (.inl (by kernel_rfl)), by decide, by decide⟩
theorem g_is_right_all : (defScope s_is_right).names.lookup (("all" : Str)) = some .globalImplicit := by kernel_rfl
theorem g_is_right_sums_of : (defScope s_is_right).names.lookup (("sums_of" : Str)) = some .globalImplicit := by kernel_rfl
theorem w_is_right (c : Fx K mg base TT) : DOk PR w K mg base 2 "is_right" ["strands", "length", "band", "begins"] (spF TT m_is_right) := by
  refine ok_pure (N := ["strands", "length", "band", "begins", "one"]) (k := 1) c.f_is_right sc_is_right (fun _ _ _ _ _ _ us hl => match us, hl with | [_, _, _, _], _ => rfl) (mb := fun ds => match ds with | [d155, d156, d157, d158] => b_is_right d155 d156 d157 d158 | _ => fail) ?_ ?_
  · intro ds r h
    match ds, h with
    | [_, _, _, _], h => exact ⟨rfl, h⟩
  · intro ds hl
    match ds, hl with
    | [d155, d156, d157, d158], _ =>
      intro cdv A outer s F E hcd hr
      show JS _ _ _ _ (b_is_right d155 d156 d157 d158) _
      unfold b_is_right
      exact (js_nf [.val d155, .val d156, .val d157, .val d158, .unk] rfl (js_ret0 (je_callB (cd_all rfl) g_is_right_all c.n_all (by decide +kernel) (jav_cons (JE.v (je_lc rfl sc_is_right.nd (ji_seq (je_callO (w_sums_of c) hr (by decide) g_is_right_sums_of (ja_cons (je_nm n_is_right_strands rfl) fun x159 => (ja_cons (je_nm n_is_right_length rfl) fun x160 => (ja_cons (je_nm n_is_right_begins rfl) fun x161 => ja_nil))))) (blk (own := [("one", 4)]) (by kernel_rfl)) (fun _ _ _ _ _ => (pgd_n 4 sc_is_right.nd rfl (.inl rfl))) (ji_n fun d163 => .plain (fun _ _ _ _ _ => je_nf [.val d155, .val d156, .val d157, .val d158, .val d163] rfl (je_chain ob_le ob_le (JE.v (je_ix (JE.v (je_name 2 rfl (.inr (.inl rfl)) rfl)) je_int)) (JE.v (je_name 4 rfl (.inl rfl) rfl)) (JE.v (je_ix (JE.v (je_name 2 rfl (.inr (.inl rfl)) rfl)) je_int))))))) fun x177 => jav_nil))))
abbrev s_ways_with : Stmt := topS 33
theorem sc_ways_with : FnScope ["strands", "length", "band", "lot", "waiting", "row", "sums", "begin"] ["strands", "length", "band", "lot"] (defScope s_ways_with) := ⟨rfl, rfl, rfl, by decide +kernel, rfl, by decide +kernel, by decide +kernel⟩
theorem n_ways_with_band : NmF (defScope s_ways_with) ["strands", "length", "band", "lot", "waiting", "row", "sums", "begin"] 2 "band" := ⟨rfl, (.inl (by kernel_rfl)), by decide, by decide⟩
theorem n_ways_with_length : NmF (defScope s_ways_with) ["strands", "length", "band", "lot", "waiting", "row", "sums", "begin"] 1 "length" := ⟨rfl, (.inl (by kernel_rfl)), by decide, by decide⟩
theorem n_ways_with_lot : NmF (defScope s_ways_with) ["strands", "length", "band", "lot", "waiting", "row", "sums", "begin"] 3 "lot" := ⟨rfl, (.inl (by kernel_rfl)), by decide, by decide⟩
theorem n_ways_with_row : NmF (defScope s_ways_with) ["strands", "length", "band", "lot", "waiting", "row", "sums", "begin"] 5 "row" := ⟨rfl, (.inr (.inl (by kernel_rfl))), by decide, by decide⟩
theorem n_ways_with_strands : NmF (defScope s_ways_with) ["strands", "length", "band", "lot", "waiting", "row", "sums", "begin"] 0 "strands" := ⟨rfl, (.inl (by kernel_rfl)), by decide, by decide⟩
theorem n_ways_with_sums : NmF (defScope s_ways_with) ["strands", "length", "band", "lot", "waiting", "row", "sums", "begin"] 6 "sums" := ⟨rfl, (.inl (by kernel_rfl)), by decide, by decide⟩
theorem n_ways_with_waiting : NmF (defScope s_ways_with) ["strands", "length", "band", "lot", "waiting", "row", "sums", "begin"] 4 "waiting" := ⟨rfl, (.inl (by kernel_rfl)), by decide, by decide⟩
theorem g_ways_with_is_right : (defScope s_ways_with).names.lookup (("is_right" : Str)) = some .globalImplicit := by kernel_rfl
theorem g_ways_with_len : (defScope s_ways_with).names.lookup (("len" : Str)) = some .globalImplicit := by kernel_rfl
theorem g_ways_with_max : (defScope s_ways_with).names.lookup (("max" : Str)) = some .globalImplicit := by kernel_rfl
theorem g_ways_with_range : (defScope s_ways_with).names.lookup (("range" : Str)) = some .globalImplicit := by kernel_rfl
theorem g_ways_with_sums_of : (defScope s_ways_with).names.lookup (("sums_of" : Str)) = some .globalImplicit := by kernel_rfl
theorem w_ways_with (c : Fx K mg base TT) : DOk PR w K mg base 3 "ways_with" ["strands", "length", "band", "lot"] (spF TT m_ways_with) := by
  refine ok_pure (N := ["strands", "length", "band", "lot", "waiting", "row", "sums", "begin"]) (k := 2) c.f_ways_with sc_ways_with (fun _ _ _ _ _ _ us hl => match us, hl with | [_, _, _, _], _ => rfl) (mb := fun ds => match ds with | [d178, d179, d180, d181] => b_ways_with d178 d179 d180 d181 | _ => fail) ?_ ?_
  · intro ds r h
    match ds, h with
    | [_, _, _, _], h => exact ⟨rfl, h⟩
  · intro ds hl
    match ds, hl with
    | [d178, d179, d180, d181], _ =>
      intro cdv A outer s F E hcd hr
      show JS _ _ _ _ (b_ways_with d178 d179 d180 d181) _
      unfold b_ways_with
      exact (js_nf [.val d178, .val d179, .val d180, .val d181, .unk, .unk, .unk, .unk] rfl (js_asg (i := 4) sc_ways_with.nd rfl (.inl rfl) (jn_lst (ja_cons (je_tup ja_nil) fun x182 => ja_nil)) fun d183 => (js_nf [.val d178, .val d179, .val d180, .val d181, .own d183, .unk, .unk, .unk] rfl (js_whileK (emb := (fun a : (List D) => [.val d178, .val d179, .val d180, .val d181, .own a, .unk, .unk, .unk])) (a0 := d183) PassesOwn.never (.e (.e (.e (.e (.e (.u (.u (.u .nil)))))))) (fun a184 => (jt_nf [.val d178, .val d179, .val d180, .val d181, .own a184, .unk, .unk, .unk] rfl (jt_cmp (ob_ne hr.units) (jv_nm n_ways_with_waiting rfl) (JE.v (je_lst ja_nil)) (by rfl)))) (fun a184 => (js_nf [.val d178, .val d179, .val d180, .val d181, .own a184, .unk, .unk, .unk] rfl (js_asgPop (i := 5) (j := 4) sc_ways_with.nd rfl (.inr rfl) rfl (.inl rfl) rfl fun d188 zs189 => (js_nf [.val d178, .val d179, .val d180, .val d181, .own zs189, .val d188, .unk, .unk] rfl (js_ifK (emb := (fun a : (List D) => [.val d178, .val d179, .val d180, .val d181, .own a, .val d188, .unk, .unk])) (jt_cmp (ob_eq hr.units) (JE.v (je_callB cd_len g_ways_with_len c.n_len (by decide +kernel) (jav_cons (JE.v (je_nm n_ways_with_row rfl)) fun x191 => jav_nil))) (JE.v (je_callB cd_len g_ways_with_len c.n_len (by decide +kernel) (jav_cons (JE.v (je_nm n_ways_with_strands rfl)) fun x192 => jav_nil))) (by rfl)) (js_nf [.val d178, .val d179, .val d180, .val d181, .own zs189, .val d188, .unk, .unk] rfl (js_ifK (emb := (fun a : Unit => [.val d178, .val d179, .val d180, .val d181, .own zs189, .val d188, .unk, .unk])) (jt_val (je_callO (w_is_right c) hr (by decide) g_ways_with_is_right (ja_cons (je_nm n_ways_with_strands rfl) fun x197 => (ja_cons (je_nm n_ways_with_length rfl) fun x198 => (ja_cons (je_nm n_ways_with_band rfl) fun x199 => (ja_cons (je_nm n_ways_with_row rfl) fun x200 => ja_nil)))))) (js_nf [.val d178, .val d179, .val d180, .val d181, .own zs189, .val d188, .unk, .unk] rfl (js_ret (r := Fl.rt) (je_nm n_ways_with_row rfl) fun _ => rfl)) (js_end rfl (.e (.e (.e (.e (.e (.e (.u (.u .nil))))))))) (fun a204 => (js_end rfl (.e (.e (.e (.e (.e (.e (.u (.u .nil)))))))))) fun _ => rfl)) (js_nf [.val d178, .val d179, .val d180, .val d181, .own zs189, .val d188, .unk, .unk] rfl (js_ifjoin (emb := (fun a : (List D) => [.val d178, .val d179, .val d180, .val d181, .own a, .val d188, .unk, .unk])) (jt_cmp (ob_nin hr.units) (JE.v (je_callB cd_len g_ways_with_len c.n_len (by decide +kernel) (jav_cons (JE.v (je_nm n_ways_with_row rfl)) fun x205 => jav_nil))) (JE.v (je_nm n_ways_with_lot rfl)) (by rfl)) (js_nf [.val d178, .val d179, .val d180, .val d181, .own zs189, .val d188, .unk, .unk] rfl (js_append (i := 4) rfl (.inl rfl) rfl (je_tup (ja_star (JE.v (je_nm n_ways_with_row rfl)) fun s211 => (ja_cons je_non fun x212 => ja_nil))) fun ys214 => (js_end rfl (.e (.e (.e (.e (.e (.e (.u (.u .nil))))))))))) (js_nf [.val d178, .val d179, .val d180, .val d181, .own zs189, .val d188, .unk, .unk] rfl (js_asg (i := 6) sc_ways_with.nd rfl (.inl rfl) (JE.x (je_callO (w_sums_of c) hr (by decide) g_ways_with_sums_of (ja_cons (je_nm n_ways_with_strands rfl) fun x215 => (ja_cons (je_nm n_ways_with_length rfl) fun x216 => (ja_cons (je_lst (ja_star (JE.v (je_nm n_ways_with_row rfl)) fun s218 => (ja_star (JE.v (je_bin od_mulT (je_lst (ja_cons je_non fun x219 => ja_nil)) (je_bin od_sub (je_callB cd_len g_ways_with_len c.n_len (by decide +kernel) (jav_cons (JE.v (je_nm n_ways_with_strands rfl)) fun x220 => jav_nil)) (je_callB cd_len g_ways_with_len c.n_len (by decide +kernel) (jav_cons (JE.v (je_nm n_ways_with_row rfl)) fun x221 => jav_nil))))) fun s227 => ja_nil))) fun x228 => ja_nil))))) fun d229 => (js_nf [.val d178, .val d179, .val d180, .val d181, .own zs189, .val d188, .val d229, .unk] rfl (js_ifjoin (emb := (fun a : (List D) => [.val d178, .val d179, .val d180, .val d181, .own a, .val d188, .val d229, .unk])) (jt_cmp ob_le (JE.v (je_callB (cd_max rfl hr.units) g_ways_with_max c.n_max (by decide +kernel) (jav_cons (JE.v (je_nm n_ways_with_sums rfl)) fun x230 => jav_nil))) (JE.v (je_ix (JE.v (je_nm n_ways_with_band rfl)) je_int)) (by rfl)) (js_nf [.val d178, .val d179, .val d180, .val d181, .own zs189, .val d188, .val d229, .unk] rfl (js_extend (i := 4) rfl (.inl rfl) rfl (je_lc rfl sc_ways_with.nd (ji_range3 g_ways_with_range c.n_range (ja_cons (je_bin od_sub (je_nm n_ways_with_length rfl) je_int) fun x239 => (ja_cons (je_neg je_int) fun x241 => (ja_cons (je_neg je_int) fun x243 => ja_nil)))) (blk (own := [("begin", 7)]) (by kernel_rfl)) (fun _ _ _ _ _ => (pgd_n 7 sc_ways_with.nd rfl (.inl rfl))) (ji_n fun d244 => .plain (fun _ _ _ _ _ => je_nf [.val d178, .val d179, .val d180, .val d181, .own zs189, .val d188, .val d229, .val d244] rfl (je_tup (ja_star (JE.v (je_name 5 rfl (.inr (.inl rfl)) rfl)) fun s246 => (ja_cons (je_name 7 rfl (.inl rfl) rfl) fun x247 => ja_nil)))))) fun ys253 => (js_end rfl (.e (.e (.e (.e (.e (.e (.e (.u .nil))))))))))) (js_end rfl (.e (.e (.e (.e (.e (.e (.e (.u .nil))))))))) fun a254 => (js_end rfl (.e (.e (.e (.e (.e (.e (.u (.u .nil))))))))))))) fun a255 => (js_end rfl (.e (.e (.e (.e (.e (.e (.u (.u .nil))))))))))) (fun a256 => (js_end rfl (.e (.e (.e (.e (.e (.u (.u (.u .nil)))))))))) fun _ => rfl))))) (fun a257 => (js_nf [.val d178, .val d179, .val d180, .val d181, .own a257, .unk, .unk, .unk] rfl (js_ret0 je_non))) fun _ => rfl))))
abbrev s_least_laid : Stmt := topS 34
theorem sc_least_laid : FnScope ["strands", "length", "band", "lots", "one", "lot", "row"] ["strands", "length", "band"] (defScope s_least_laid) := ⟨rfl, rfl, rfl, by decide +kernel, rfl, by decide +kernel, by decide +kernel⟩
theorem n_least_laid_band : NmF (defScope s_least_laid) ["strands", "length", "band", "lots", "one", "lot", "row"] 2 "band" := ⟨rfl, (.inl (by kernel_rfl)), by decide, by decide⟩
theorem n_least_laid_length : NmF (defScope s_least_laid) ["strands", "length", "band", "lots", "one", "lot", "row"] 1 "length" := ⟨rfl, (.inl (by kernel_rfl)), by decide, by decide⟩
theorem n_least_laid_lot : NmF (defScope s_least_laid) ["strands", "length", "band", "lots", "one", "lot", "row"] 5 "lot" := ⟨rfl, (.inl (by kernel_rfl)), by decide, by decide⟩
theorem n_least_laid_lots : NmF (defScope s_least_laid) ["strands", "length", "band", "lots", "one", "lot", "row"] 3 "lots" := ⟨rfl, (.inl (by kernel_rfl)), by decide, by decide⟩
theorem n_least_laid_row : NmF (defScope s_least_laid) ["strands", "length", "band", "lots", "one", "lot", "row"] 6 "row" := ⟨rfl, (.inl (by kernel_rfl)), by decide, by decide⟩
theorem n_least_laid_strands : NmF (defScope s_least_laid) ["strands", "length", "band", "lots", "one", "lot", "row"] 0 "strands" := ⟨rfl, (.inl (by kernel_rfl)), by decide, by decide⟩
theorem g_least_laid_LAID : (defScope s_least_laid).names.lookup (("LAID" : Str)) = some .globalImplicit := by kernel_rfl
theorem g_least_laid_NEVER : (defScope s_least_laid).names.lookup (("NEVER" : Str)) = some .globalImplicit := by kernel_rfl
theorem g_least_laid_check_strands : (defScope s_least_laid).names.lookup (("check_strands" : Str)) = some .globalImplicit := by kernel_rfl
theorem g_least_laid_len : (defScope s_least_laid).names.lookup (("len" : Str)) = some .globalImplicit := by kernel_rfl
theorem g_least_laid_range : (defScope s_least_laid).names.lookup (("range" : Str)) = some .globalImplicit := by kernel_rfl
theorem g_least_laid_sorted : (defScope s_least_laid).names.lookup (("sorted" : Str)) = some .globalImplicit := by kernel_rfl
theorem g_least_laid_ways_with : (defScope s_least_laid).names.lookup (("ways_with" : Str)) = some .globalImplicit := by kernel_rfl
theorem w_least_laid (c : Fx K mg base TT) : DOk PR w K mg base 6 "least_laid" ["strands", "length", "band"] (spF TT m_least_laid) := by
  refine ok_pure (N := ["strands", "length", "band", "lots", "one", "lot", "row"]) (k := 5) c.f_least_laid sc_least_laid (fun _ _ _ _ _ _ us hl => match us, hl with | [_, _, _], _ => rfl) (mb := fun ds => match ds with | [d258, d259, d260] => b_least_laid d258 d259 d260 | _ => fail) ?_ ?_
  · intro ds r h
    match ds, h with
    | [_, _, _], h => exact ⟨rfl, h⟩
  · intro ds hl
    match ds, hl with
    | [d258, d259, d260], _ =>
      intro cdv A outer s F E hcd hr
      show JS _ _ _ _ (b_least_laid d258 d259 d260) _
      unfold b_least_laid
      exact (js_nf [.val d258, .val d259, .val d260, .unk, .unk, .unk, .unk] rfl (js_expr (je_callO (w_check_strands c) hr (by decide) g_least_laid_check_strands (ja_cons (je_nm n_least_laid_strands rfl) fun x261 => (ja_cons (je_nm n_least_laid_length rfl) fun x262 => (ja_cons (je_nm n_least_laid_band rfl) fun x263 => ja_nil)))) (js_nf [.val d258, .val d259, .val d260, .unk, .unk, .unk, .unk] rfl (js_asg (i := 3) sc_least_laid.nd rfl (.inl rfl) (JE.x (je_lst (ja_cons (je_tup ja_nil) fun x264 => ja_nil))) fun d265 => (js_nf [.val d258, .val d259, .val d260, .val d265, .unk, .unk, .unk] rfl (js_for (r := (fun d => d)) (emb := (fun a : D => [.val d258, .val d259, .val d260, .val a, .unk, .unk, .unk])) (a0 := d265) PassesOwn.never rfl (ji_range1 g_least_laid_range c.n_range (ja_cons (je_callB cd_len g_least_laid_len c.n_len (by decide +kernel) (jav_cons (JE.v (je_nm n_least_laid_strands rfl)) fun x266 => jav_nil)) fun x267 => ja_nil)) (pgd_n 4 sc_least_laid.nd rfl (.inr rfl)) (.e (.e (.e (.e (.u (.u (.u .nil))))))) (fun a268 => ji_n fun d269 => (js_nf [.val d258, .val d259, .val d260, .val a268, .val d269, .unk, .unk] rfl (js_asg (i := 3) sc_least_laid.nd rfl (.inl rfl) (JE.x (je_bin od_add (je_nm n_least_laid_lots rfl) (je_lc rfl sc_least_laid.nd (ji_seq (je_nm n_least_laid_lots rfl)) (blk (own := [("lot", 5)]) (by kernel_rfl)) (fun _ _ _ _ _ => (pgd_n 5 sc_least_laid.nd rfl (.inl rfl))) (ji_n fun d271 => .plain (fun _ _ _ _ _ => je_nf [.val d258, .val d259, .val d260, .val a268, .val d269, .val d271, .unk] rfl (je_tup (ja_star (JE.v (je_name 5 rfl (.inl rfl) rfl)) fun s273 => (ja_cons (je_name 4 rfl (.inr (.inl rfl)) rfl) fun x274 => ja_nil)))))))) fun d281 => (js_end rfl (.e (.e (.e (.e (.u (.u (.u .nil))))))))))) (fun a283 => (js_nf [.val d258, .val d259, .val d260, .val a283, .unk, .unk, .unk] rfl (js_forK (r := (fun d => d)) (emb := (fun a : Unit => [.val d258, .val d259, .val d260, .val a283, .unk, .unk, .unk])) (a0 := ()) PassesOwn.never rfl (ji_seq (je_sortedK (x := "least_laid") (a := "one") (caps := []) (g := fun d285 => B (B (P d285) fun x286 => L (lenB [x286])) fun x287 => B (P d285) fun x288 => L (tupD [x287, x288])) hr.units hr (by decide) c.t_least_laid hcd.ref g_least_laid_sorted c.n_sorted c.pl (JE.v (je_nm n_least_laid_lots rfl)) caps_nil (by kernel_rfl) (fun d285 => (lx_tup (lxs_cons (lx_len rfl (lxs_cons (lx_nm rfl) fun x286 => lxs_nil)) fun x287 => (lxs_cons (lx_nm rfl) fun x288 => lxs_nil)))) (fun _ _ _ _ _ us hl => match us, hl with | [_], _ => rfl))) (pgd_n 5 sc_least_laid.nd rfl (.inl rfl)) (.e (.e (.e (.e (.u (.u (.u .nil))))))) (fun a290 => ji_n fun d291 => (js_nf [.val d258, .val d259, .val d260, .val a283, .unk, .val d291, .unk] rfl (js_asg (i := 6) sc_least_laid.nd rfl (.inl rfl) (JE.x (je_callO (w_ways_with c) hr (by decide) g_least_laid_ways_with (ja_cons (je_nm n_least_laid_strands rfl) fun x292 => (ja_cons (je_nm n_least_laid_length rfl) fun x293 => (ja_cons (je_nm n_least_laid_band rfl) fun x294 => (ja_cons (je_nm n_least_laid_lot rfl) fun x295 => ja_nil)))))) fun d296 => (js_nf [.val d258, .val d259, .val d260, .val a283, .unk, .val d291, .val d296] rfl (js_ifK (emb := (fun a : Unit => [.val d258, .val d259, .val d260, .val a283, .unk, .val d291, .val d296])) (jt_cmp ob_isnt (JE.v (je_nm n_least_laid_row rfl)) (JE.v je_non) (by rfl)) (js_nf [.val d258, .val d259, .val d260, .val a283, .unk, .val d291, .val d296] rfl (js_ret (r := Fl.rt) (je_tup (ja_cons (je_gstr c.c_LAID g_least_laid_LAID) fun x301 => (ja_cons (je_nm n_least_laid_row rfl) fun x302 => ja_nil))) fun _ => rfl)) (js_end rfl (.e (.e (.e (.e (.u (.e (.e .nil)))))))) (fun a304 => (js_end rfl (.e (.e (.e (.e (.u (.u (.u .nil))))))))) fun _ => rfl))))) (fun a306 => (js_nf [.val d258, .val d259, .val d260, .val a283, .unk, .unk, .unk] rfl (js_ret0 (je_tup (ja_cons (je_gstr c.c_NEVER g_least_laid_NEVER) fun x307 => ja_nil))))) fun _ => rfl))) fun _ => rfl))))))
abbrev s_shows_laid : Stmt := topS 35
theorem sc_shows_laid : FnScope ["strands", "length", "band", "value", "told", "many", "few", "begin"] ["strands", "length", "band", "value"] (defScope s_shows_laid) := ⟨rfl, rfl, rfl, by decide +kernel, rfl, by decide +kernel, by decide +kernel⟩
theorem n_shows_laid_band : NmF (defScope s_shows_laid) ["strands", "length", "band", "value", "told", "many", "few", "begin"] 2 "band" := ⟨rfl, (.inl (by kernel_rfl)), by decide, by decide⟩
theorem n_shows_laid_few : NmF (defScope s_shows_laid) ["strands", "length", "band", "value", "told", "many", "few", "begin"] 6 "few" := ⟨rfl, (.inl (by kernel_rfl)), by decide, by decide⟩
theorem n_shows_laid_length : NmF (defScope s_shows_laid) ["strands", "length", "band", "value", "told", "many", "few", "begin"] 1 "length" := ⟨rfl, (.inr (.inl (by kernel_rfl))), by decide, by decide⟩
theorem n_shows_laid_many : NmF (defScope s_shows_laid) ["strands", "length", "band", "value", "told", "many", "few", "begin"] 5 "many" := ⟨rfl, (.inl (by kernel_rfl)), by decide, by decide⟩
theorem n_shows_laid_strands : NmF (defScope s_shows_laid) ["strands", "length", "band", "value", "told", "many", "few", "begin"] 0 "strands" := ⟨rfl, (.inl (by kernel_rfl)), by decide, by decide⟩
theorem n_shows_laid_told : NmF (defScope s_shows_laid) ["strands", "length", "band", "value", "told", "many", "few", "begin"] 4 "told" := ⟨rfl, (.inl (by kernel_rfl)), by decide, by decide⟩
theorem n_shows_laid_value : NmF (defScope s_shows_laid) ["strands", "length", "band", "value", "told", "many", "few", "begin"] 3 "value" := ⟨rfl, (.inl (by kernel_rfl)), by decide, by decide⟩
theorem g_shows_laid_LAID : (defScope s_shows_laid).names.lookup (("LAID" : Str)) = some .globalImplicit := by kernel_rfl
theorem g_shows_laid_NEVER : (defScope s_shows_laid).names.lookup (("NEVER" : Str)) = some .globalImplicit := by kernel_rfl
theorem g_shows_laid_PAIR_laying : (defScope s_shows_laid).names.lookup (("PAIR_laying" : Str)) = some .globalImplicit := by kernel_rfl
theorem g_shows_laid_all : (defScope s_shows_laid).names.lookup (("all" : Str)) = some .globalImplicit := by kernel_rfl
theorem g_shows_laid_is_right : (defScope s_shows_laid).names.lookup (("is_right" : Str)) = some .globalImplicit := by kernel_rfl
theorem g_shows_laid_is_tuple : (defScope s_shows_laid).names.lookup (("is_tuple" : Str)) = some .globalImplicit := by kernel_rfl
theorem g_shows_laid_is_word : (defScope s_shows_laid).names.lookup (("is_word" : Str)) = some .globalImplicit := by kernel_rfl
theorem g_shows_laid_least_laid : (defScope s_shows_laid).names.lookup (("least_laid" : Str)) = some .globalImplicit := by kernel_rfl
theorem g_shows_laid_len : (defScope s_shows_laid).names.lookup (("len" : Str)) = some .globalImplicit := by kernel_rfl
theorem w_shows_laid (c : Fx K mg base TT) : DOk PR w K mg base 7 "shows_laid" ["strands", "length", "band", "value"] (spF TT m_shows_laid) := by
  refine ok_pure (N := ["strands", "length", "band", "value", "told", "many", "few", "begin"]) (k := 6) c.f_shows_laid sc_shows_laid (fun _ _ _ _ _ _ us hl => match us, hl with | [_, _, _, _], _ => rfl) (mb := fun ds => match ds with | [d310, d311, d312, d313] => b_shows_laid d310 d311 d312 d313 | _ => fail) ?_ ?_
  · intro ds r h
    match ds, h with
    | [_, _, _, _], h => exact ⟨rfl, h⟩
  · intro ds hl
    match ds, hl with
    | [d310, d311, d312, d313], _ =>
      intro cdv A outer s F E hcd hr
      show JS _ _ _ _ (b_shows_laid d310 d311 d312 d313) _
      unfold b_shows_laid
      exact (js_nf [.val d310, .val d311, .val d312, .val d313, .unk, .unk, .unk, .unk] rfl (js_asg (i := 4) sc_shows_laid.nd rfl (.inl rfl) (JE.x (je_callO (w_least_laid c) hr (by decide) g_shows_laid_least_laid (ja_cons (je_nm n_shows_laid_strands rfl) fun x314 => (ja_cons (je_nm n_shows_laid_length rfl) fun x315 => (ja_cons (je_nm n_shows_laid_band rfl) fun x316 => ja_nil))))) fun d317 => (js_nf [.val d310, .val d311, .val d312, .val d313, .val d317, .unk, .unk, .unk] rfl (js_ifret (JW.t (jw_or (jt_not (jt_val (je_callO (w_is_tuple c) hr (by decide) g_shows_laid_is_tuple (ja_cons (je_nm n_shows_laid_value rfl) fun x318 => (ja_cons je_int fun x319 => (ja_cons (je_gint c.c_PAIR_laying g_shows_laid_PAIR_laying) fun x320 => ja_nil)))))) (jw_or (jt_not (jt_val (je_callO (w_is_word c) hr (by decide) g_shows_laid_is_word (ja_cons (je_ix (JE.v (je_nm n_shows_laid_value rfl)) je_int) fun x325 => (ja_cons (je_tup (ja_cons (je_gstr c.c_LAID g_shows_laid_LAID) fun x326 => (ja_cons (je_gstr c.c_NEVER g_shows_laid_NEVER) fun x327 => ja_nil))) fun x328 => ja_nil))))) (jw_or1 (jt_cmp (ob_ne hr.units) (JE.v (je_ix (JE.v (je_nm n_shows_laid_value rfl)) je_int)) (JE.v (je_ix (JE.v (je_nm n_shows_laid_told rfl)) je_int)) (by rfl)))))) (js_nf [.val d310, .val d311, .val d312, .val d313, .val d317, .unk, .unk, .unk] rfl (js_ret0 je_bl)) (js_nf [.val d310, .val d311, .val d312, .val d313, .val d317, .unk, .unk, .unk] rfl (js_ifret (jt_cmp (ob_eq hr.units) (JE.v (je_ix (JE.v (je_nm n_shows_laid_told rfl)) je_int)) (JE.v (je_gstr c.c_NEVER g_shows_laid_NEVER)) (by rfl)) (js_nf [.val d310, .val d311, .val d312, .val d313, .val d317, .unk, .unk, .unk] rfl (js_ret0 (je_cmp (ob_eq hr.units) (JE.v (je_callB cd_len g_shows_laid_len c.n_len (by decide +kernel) (jav_cons (JE.v (je_nm n_shows_laid_value rfl)) fun x347 => jav_nil))) (JE.v je_int) (by rfl)))) (js_nf [.val d310, .val d311, .val d312, .val d313, .val d317, .unk, .unk, .unk] rfl (js_asg (i := 5) sc_shows_laid.nd rfl (.inl rfl) (JE.x (je_callB cd_len g_shows_laid_len c.n_len (by decide +kernel) (jav_cons (JE.v (je_nm n_shows_laid_strands rfl)) fun x351 => jav_nil))) fun d352 => (js_nf [.val d310, .val d311, .val d312, .val d313, .val d317, .val d352, .unk, .unk] rfl (js_ifret (JW.t (jw_or (jt_cmp (ob_ne hr.units) (JE.v (je_callB cd_len g_shows_laid_len c.n_len (by decide +kernel) (jav_cons (JE.v (je_nm n_shows_laid_value rfl)) fun x353 => jav_nil))) (JE.v (je_gint c.c_PAIR_laying g_shows_laid_PAIR_laying)) (by rfl)) (jw_or1 (jt_not (jt_val (je_callO (w_is_tuple c) hr (by decide) g_shows_laid_is_tuple (ja_cons (je_ix (JE.v (je_nm n_shows_laid_value rfl)) je_int) fun x359 => (ja_cons (je_nm n_shows_laid_many rfl) fun x360 => (ja_cons (je_nm n_shows_laid_many rfl) fun x361 => ja_nil))))))))) (js_nf [.val d310, .val d311, .val d312, .val d313, .val d317, .val d352, .unk, .unk] rfl (js_ret0 je_bl)) (js_nf [.val d310, .val d311, .val d312, .val d313, .val d317, .val d352, .unk, .unk] rfl (js_ifret (jt_not (jt_val (je_callB (cd_all rfl) g_shows_laid_all c.n_all (by decide +kernel) (jav_cons (JE.v (je_lc rfl sc_shows_laid.nd (ji_seq (je_ix (JE.v (je_nm n_shows_laid_value rfl)) je_int)) (blk (own := [("begin", 7)]) (by kernel_rfl)) (fun _ _ _ _ _ => (pgd_n 7 sc_shows_laid.nd rfl (.inl rfl))) (ji_n fun d369 => .plain (fun _ _ _ _ _ => je_nf [.val d310, .val d311, .val d312, .val d313, .val d317, .val d352, .unk, .val d369] rfl (je_or (je_cmp ob_is (JE.v (je_name 7 rfl (.inl rfl) rfl)) (JE.v je_non) (by rfl)) (je_one (je_callO (w_is_integer c) hr (by decide) rfl (ja_cons (je_name 7 rfl (.inl rfl) rfl) fun x373 => (ja_cons je_int fun x374 => (ja_cons (je_bin od_sub (je_name 1 rfl (.inr (.inl rfl)) rfl) je_int) fun x377 => ja_nil)))))))))) fun x384 => jav_nil)))) (js_nf [.val d310, .val d311, .val d312, .val d313, .val d317, .val d352, .unk, .unk] rfl (js_ret0 je_bl)) (js_nf [.val d310, .val d311, .val d312, .val d313, .val d317, .val d352, .unk, .unk] rfl (js_asg (i := 6) sc_shows_laid.nd rfl (.inl rfl) (JE.x (je_callB cd_len g_shows_laid_len c.n_len (by decide +kernel) (jav_cons (JE.v (je_lc rfl sc_shows_laid.nd (ji_seq (je_ix (JE.v (je_nm n_shows_laid_told rfl)) je_int)) (blk (own := [("begin", 7)]) (by kernel_rfl)) (fun _ _ _ _ _ => (pgd_n 7 sc_shows_laid.nd rfl (.inl rfl))) (ji_n fun d391 => .cond (fun _ _ _ _ _ => jt_nf [.val d310, .val d311, .val d312, .val d313, .val d317, .val d352, .unk, .val d391] rfl (jt_cmp ob_isnt (JE.v (je_name 7 rfl (.inl rfl) rfl)) (JE.v je_non) (by rfl))) (fun _ _ _ _ _ => je_nf [.val d310, .val d311, .val d312, .val d313, .val d317, .val d352, .unk, .val d391] rfl (je_name 7 rfl (.inl rfl) rfl))))) fun x400 => jav_nil))) fun d401 => (js_nf [.val d310, .val d311, .val d312, .val d313, .val d317, .val d352, .val d401, .unk] rfl (js_ifret (jt_cmp (ob_ne hr.units) (JE.v (je_callB cd_len g_shows_laid_len c.n_len (by decide +kernel) (jav_cons (JE.v (je_lc rfl sc_shows_laid.nd (ji_seq (je_ix (JE.v (je_nm n_shows_laid_value rfl)) je_int)) (blk (own := [("begin", 7)]) (by kernel_rfl)) (fun _ _ _ _ _ => (pgd_n 7 sc_shows_laid.nd rfl (.inl rfl))) (ji_n fun d405 => .cond (fun _ _ _ _ _ => jt_nf [.val d310, .val d311, .val d312, .val d313, .val d317, .val d352, .val d401, .val d405] rfl (jt_cmp ob_isnt (JE.v (je_name 7 rfl (.inl rfl) rfl)) (JE.v je_non) (by rfl))) (fun _ _ _ _ _ => je_nf [.val d310, .val d311, .val d312, .val d313, .val d317, .val d352, .val d401, .val d405] rfl (je_name 7 rfl (.inl rfl) rfl))))) fun x414 => jav_nil))) (JE.v (je_nm n_shows_laid_few rfl)) (by rfl)) (js_nf [.val d310, .val d311, .val d312, .val d313, .val d317, .val d352, .val d401, .unk] rfl (js_ret0 je_bl)) (js_nf [.val d310, .val d311, .val d312, .val d313, .val d317, .val d352, .val d401, .unk] rfl (js_ret0 (je_callO (w_is_right c) hr (by decide) g_shows_laid_is_right (ja_cons (je_nm n_shows_laid_strands rfl) fun x419 => (ja_cons (je_nm n_shows_laid_length rfl) fun x420 => (ja_cons (je_nm n_shows_laid_band rfl) fun x421 => (ja_cons (je_ix (JE.v (je_nm n_shows_laid_value rfl)) je_int) fun x424 => ja_nil))))))) fun _ _ => nofun)))) fun _ _ => nofun)) fun _ _ => nofun)))) fun _ _ => nofun)) fun _ _ => nofun))))
abbrev s_is_spans : Stmt := topS 36
theorem sc_is_spans : FnScope ["length", "value", "one", "begin", "end"] ["length", "value"] (defScope s_is_spans) := ⟨rfl, rfl, rfl, by decide +kernel, rfl, by decide +kernel, by decide +kernel⟩
theorem n_is_spans_value : NmF (defScope s_is_spans) ["length", "value", "one", "begin", "end"] 1 "value" := ⟨rfl, (.inl (by kernel_rfl)), by decide, by decide⟩
theorem g_is_spans_MOST_SPANS : (defScope s_is_spans).names.lookup (("MOST_SPANS" : Str)) = some .globalImplicit := by kernel_rfl
theorem g_is_spans_all : (defScope s_is_spans).names.lookup (("all" : Str)) = some .globalImplicit := by kernel_rfl
theorem g_is_spans_is_tuple : (defScope s_is_spans).names.lookup (("is_tuple" : Str)) = some .globalImplicit := by kernel_rfl
theorem w_is_spans (c : Fx K mg base TT) : DOk PR w K mg base 3 "is_spans" ["length", "value"] (spF TT m_is_spans) := by
  refine ok_pure (N := ["length", "value", "one", "begin", "end"]) (k := 2) c.f_is_spans sc_is_spans (fun _ _ _ _ _ _ us hl => match us, hl with | [_, _], _ => rfl) (mb := fun ds => match ds with | [d425, d426] => b_is_spans d425 d426 | _ => fail) ?_ ?_
  · intro ds r h
    match ds, h with
    | [_, _], h => exact ⟨rfl, h⟩
  · intro ds hl
    match ds, hl with
    | [d425, d426], _ =>
      intro cdv A outer s F E hcd hr
      show JS _ _ _ _ (b_is_spans d425 d426) _
      unfold b_is_spans
      exact (js_nf [.val d425, .val d426, .unk, .unk, .unk] rfl (js_ifret (JW.t (jw_or (jt_not (jt_val (je_callO (w_is_tuple c) hr (by decide) g_is_spans_is_tuple (ja_cons (je_nm n_is_spans_value rfl) fun x427 => (ja_cons je_int fun x428 => (ja_cons (je_gint c.c_MOST_SPANS g_is_spans_MOST_SPANS) fun x429 => ja_nil)))))) (jw_or1 (jt_not (jt_val (je_callB (cd_all rfl) g_is_spans_all c.n_all (by decide +kernel) (jav_cons (JE.v (je_lc rfl sc_is_spans.nd (ji_seq (je_nm n_is_spans_value rfl)) (blk (own := [("one", 2)]) (by kernel_rfl)) (fun _ _ _ _ _ => (pgd_n 2 sc_is_spans.nd rfl (.inl rfl))) (ji_n fun d433 => .plain (fun _ _ _ _ _ => je_nf [.val d425, .val d426, .val d433, .unk, .unk] rfl (je_callO (w_is_tuple c) hr (by decide) rfl (ja_cons (je_name 2 rfl (.inl rfl) rfl) fun x434 => (ja_cons (je_gint c.c_PAIR_laying rfl) fun x435 => (ja_cons (je_gint c.c_PAIR_laying rfl) fun x436 => ja_nil)))))))) fun x441 => jav_nil))))))) (js_nf [.val d425, .val d426, .unk, .unk, .unk] rfl (js_ret0 je_bl)) (js_nf [.val d425, .val d426, .unk, .unk, .unk] rfl (js_ifret (jt_not (jt_val (je_callB (cd_all rfl) g_is_spans_all c.n_all (by decide +kernel) (jav_cons (JE.v (je_lc rfl sc_is_spans.nd (ji_seq (je_nm n_is_spans_value rfl)) (blk (own := [("begin", 3), ("end", 4)]) (by kernel_rfl)) (fun _ _ _ _ _ => (pgd_2 rfl (pgd_n 3 sc_is_spans.nd rfl (.inl rfl)) (pgd_n 4 sc_is_spans.nd rfl (.inl rfl)))) (ji_2 fun d447 d448 => .plain (fun _ _ _ _ _ => je_nf [.val d425, .val d426, .unk, .val d447, .val d448] rfl (je_callO (w_is_integer c) hr (by decide) rfl (ja_cons (je_name 3 rfl (.inl rfl) rfl) fun x449 => (ja_cons je_int fun x450 => (ja_cons (je_bin od_sub (je_name 0 rfl (.inr (.inl rfl)) rfl) je_int) fun x453 => ja_nil)))))))) fun x458 => jav_nil)))) (js_nf [.val d425, .val d426, .unk, .unk, .unk] rfl (js_ret0 je_bl)) (js_nf [.val d425, .val d426, .unk, .unk, .unk] rfl (js_ret0 (je_callB (cd_all rfl) g_is_spans_all c.n_all (by decide +kernel) (jav_cons (JE.v (je_lc rfl sc_is_spans.nd (ji_seq (je_nm n_is_spans_value rfl)) (blk (own := [("begin", 3), ("end", 4)]) (by kernel_rfl)) (fun _ _ _ _ _ => (pgd_2 rfl (pgd_n 3 sc_is_spans.nd rfl (.inl rfl)) (pgd_n 4 sc_is_spans.nd rfl (.inl rfl)))) (ji_2 fun d463 d464 => .plain (fun _ _ _ _ _ => je_nf [.val d425, .val d426, .unk, .val d463, .val d464] rfl (je_callO (w_is_integer c) hr (by decide) rfl (ja_cons (je_name 4 rfl (.inl rfl) rfl) fun x465 => (ja_cons (je_bin od_add (je_name 3 rfl (.inl rfl) rfl) je_int) fun x468 => (ja_cons (je_name 0 rfl (.inr (.inl rfl)) rfl) fun x469 => ja_nil)))))))) fun x474 => jav_nil)))) fun _ _ => nofun)) fun _ _ => nofun))
abbrev s_check_spans : Stmt := topS 37
theorem sc_check_spans : FnScope ["length", "spans", "many"] ["length", "spans", "many"] (defScope s_check_spans) := ⟨rfl, rfl, rfl, by decide +kernel, rfl, by decide +kernel, by decide +kernel⟩
theorem n_check_spans_length : NmF (defScope s_check_spans) ["length", "spans", "many"] 0 "length" := ⟨rfl, (.inl (by kernel_rfl)), by decide, by decide⟩
theorem n_check_spans_many : NmF (defScope s_check_spans) ["length", "spans", "many"] 2 "many" := ⟨rfl, (.inl (by kernel_rfl)), by decide, by decide⟩
theorem n_check_spans_spans : NmF (defScope s_check_spans) ["length", "spans", "many"] 1 "spans" := ⟨rfl, (.inl (by kernel_rfl)), by decide, by decide⟩
theorem g_check_spans_MOST_BESIDE : (defScope s_check_spans).names.lookup (("MOST_BESIDE" : Str)) = some .globalImplicit := by kernel_rfl
theorem g_check_spans_MOST_YARDS_laying : (defScope s_check_spans).names.lookup (("MOST_YARDS_laying" : Str)) = some .globalImplicit := by kernel_rfl
theorem g_check_spans_is_integer : (defScope s_check_spans).names.lookup (("is_integer" : Str)) = some .globalImplicit := by kernel_rfl
theorem g_check_spans_is_spans : (defScope s_check_spans).names.lookup (("is_spans" : Str)) = some .globalImplicit := by kernel_rfl
theorem w_check_spans (c : Fx K mg base TT) : DOk PR w K mg base 4 "check_spans" ["length", "spans", "many"] (spF TT m_check_spans) := by
  refine ok_proc (ρ' := [.unk, .unk, .unk]) (N := ["length", "spans", "many"]) (k := 3) c.f_check_spans sc_check_spans (fun _ _ _ _ _ _ us hl => match us, hl with | [_, _, _], _ => rfl) (mb := fun ds => match ds with | [d475, d476, d477] => b_check_spans d475 d476 d477 | _ => fail) ?_ ?_
  · intro ds r h
    match ds, h with
    | [_, _, _], h => exact ⟨rfl, h⟩
  · intro ds hl
    match ds, hl with
    | [d475, d476, d477], _ =>
      intro cdv A outer s F E hcd hr
      show JS _ _ _ _ (b_check_spans d475 d476 d477) _
      unfold b_check_spans
      exact (js_nf [.val d475, .val d476, .val d477] rfl (js_ifraise (jt_not (jt_val (je_callO (w_is_integer c) hr (by decide) g_check_spans_is_integer (ja_cons (je_nm n_check_spans_length rfl) fun x478 => (ja_cons je_int fun x479 => (ja_cons (je_gint c.c_MOST_YARDS_laying g_check_spans_MOST_YARDS_laying) fun x480 => ja_nil)))))) (js_nf [.val d475, .val d476, .val d477] rfl (js_ifraise (jt_not (jt_val (je_callO (w_is_spans c) hr (by decide) g_check_spans_is_spans (ja_cons (je_nm n_check_spans_length rfl) fun x484 => (ja_cons (je_nm n_check_spans_spans rfl) fun x485 => ja_nil))))) (js_nf [.val d475, .val d476, .val d477] rfl (js_ifraise (jt_not (jt_val (je_callO (w_is_integer c) hr (by decide) g_check_spans_is_integer (ja_cons (je_nm n_check_spans_many rfl) fun x489 => (ja_cons je_int fun x490 => (ja_cons (je_gint c.c_MOST_BESIDE g_check_spans_MOST_BESIDE) fun x491 => ja_nil)))))) (js_end rfl (.u (.u (.u .nil))))))))))
abbrev s_covered : Stmt := topS 38
theorem sc_covered : FnScope ["spans", "lot", "yard", "one"] ["spans", "lot", "yard"] (defScope s_covered) := ⟨rfl, rfl, rfl, by decide +kernel, rfl, by decide +kernel, by decide +kernel⟩
theorem n_covered_lot : NmF (defScope s_covered) ["spans", "lot", "yard", "one"] 1 "lot" := ⟨rfl, (.inl (by kernel_rfl)), by decide, by decide⟩
theorem g_covered_len : (defScope s_covered).names.lookup (("len" : Str)) = some .globalImplicit := by kernel_rfl
theorem w_covered (c : Fx K mg base TT) : DOk PR w K mg base 1 "covered" ["spans", "lot", "yard"] (spF TT m_covered) := by
  refine ok_pure (N := ["spans", "lot", "yard", "one"]) (k := 0) c.f_covered sc_covered (fun _ _ _ _ _ _ us hl => match us, hl with | [_, _, _], _ => rfl) (mb := fun ds => match ds with | [d495, d496, d497] => b_covered d495 d496 d497 | _ => fail) ?_ ?_
  · intro ds r h
    match ds, h with
    | [_, _, _], h => exact ⟨rfl, h⟩
  · intro ds hl
    match ds, hl with
    | [d495, d496, d497], _ =>
      intro cdv A outer s F E hcd hr
      show JS _ _ _ _ (b_covered d495 d496 d497) _
      unfold b_covered
      exact (js_nf [.val d495, .val d496, .val d497, .unk] rfl (js_ret0 (je_callB cd_len g_covered_len c.n_len (by decide +kernel) (jav_cons (JE.v (je_lc rfl sc_covered.nd (ji_seq (je_nm n_covered_lot rfl)) (blk (own := [("one", 3)]) (by kernel_rfl)) (fun _ _ _ _ _ => (pgd_n 3 sc_covered.nd rfl (.inl rfl))) (ji_n fun d499 => .cond (fun _ _ _ _ _ => jt_nf [.val d495, .val d496, .val d497, .val d499] rfl (jt_chain ob_le ob_lt (JE.v (je_ix (JE.v (je_ix (JE.v (je_name 0 rfl (.inr (.inl rfl)) rfl)) (je_name 3 rfl (.inl rfl) rfl))) je_int)) (JE.v (je_name 2 rfl (.inr (.inl rfl)) rfl)) (JE.v (je_ix (JE.v (je_ix (JE.v (je_name 0 rfl (.inr (.inl rfl)) rfl)) (je_name 3 rfl (.inl rfl) rfl))) je_int)))) (fun _ _ _ _ _ => je_nf [.val d495, .val d496, .val d497, .val d499] rfl (je_name 3 rfl (.inl rfl) rfl))))) fun x517 => jav_nil))))
abbrev s_cover : Stmt := topS 39
theorem sc_cover : FnScope ["length", "spans", "many", "lot", "yard", "some", "one"] ["length", "spans", "many"] (defScope s_cover) := ⟨rfl, rfl, rfl, by decide +kernel, rfl, by decide +kernel, by decide +kernel⟩
theorem n_cover_length : NmF (defScope s_cover) ["length", "spans", "many", "lot", "yard", "some", "one"] 0 "length" := ⟨rfl, (.inl (by kernel_rfl)), by decide, by decide⟩
theorem n_cover_lot : NmF (defScope s_cover) ["length", "spans", "many", "lot", "yard", "some", "one"] 3 "lot" := ⟨rfl, (.inr (.inl (by kernel_rfl))), by decide, by decide⟩
theorem n_cover_many : NmF (defScope s_cover) ["length", "spans", "many", "lot", "yard", "some", "one"] 2 "many" := ⟨rfl, (.inl (by kernel_rfl)), by decide, by decide⟩
theorem n_cover_some : NmF (defScope s_cover) ["length", "spans", "many", "lot", "yard", "some", "one"] 5 "some" := ⟨rfl, (.inl (by kernel_rfl)), by decide, by decide⟩
theorem n_cover_spans : NmF (defScope s_cover) ["length", "spans", "many", "lot", "yard", "some", "one"] 1 "spans" := ⟨rfl, (.inr (.inl (by kernel_rfl))), by decide, by decide⟩
theorem n_cover_yard : NmF (defScope s_cover) ["length", "spans", "many", "lot", "yard", "some", "one"] 4 "yard" := ⟨rfl, (.inr (.inl (by kernel_rfl))), by decide, by decide⟩
theorem g_cover_COVER : (defScope s_cover).names.lookup (("COVER" : Str)) = some .globalImplicit := by kernel_rfl
theorem g_cover_NEVER : (defScope s_cover).names.lookup (("NEVER" : Str)) = some .globalImplicit := by kernel_rfl
theorem g_cover_check_spans : (defScope s_cover).names.lookup (("check_spans" : Str)) = some .globalImplicit := by kernel_rfl
theorem g_cover_covered : (defScope s_cover).names.lookup (("covered" : Str)) = some .globalImplicit := by kernel_rfl
theorem g_cover_len : (defScope s_cover).names.lookup (("len" : Str)) = some .globalImplicit := by kernel_rfl
theorem g_cover_min : (defScope s_cover).names.lookup (("min" : Str)) = some .globalImplicit := by kernel_rfl
theorem g_cover_range : (defScope s_cover).names.lookup (("range" : Str)) = some .globalImplicit := by kernel_rfl
theorem g_cover_sorted : (defScope s_cover).names.lookup (("sorted" : Str)) = some .globalImplicit := by kernel_rfl
theorem g_cover_tuple : (defScope s_cover).names.lookup (("tuple" : Str)) = some .globalImplicit := by kernel_rfl
theorem w_cover (c : Fx K mg base TT) : DOk PR w K mg base 5 "cover" ["length", "spans", "many"] (spF TT m_cover) := by
  refine ok_pure (N := ["length", "spans", "many", "lot", "yard", "some", "one"]) (k := 4) c.f_cover sc_cover (fun _ _ _ _ _ _ us hl => match us, hl with | [_, _, _], _ => rfl) (mb := fun ds => match ds with | [d518, d519, d520] => b_cover d518 d519 d520 | _ => fail) ?_ ?_
  · intro ds r h
    match ds, h with
    | [_, _, _], h => exact ⟨rfl, h⟩
  · intro ds hl
    match ds, hl with
    | [d518, d519, d520], _ =>
      intro cdv A outer s F E hcd hr
      show JS _ _ _ _ (b_cover d518 d519 d520) _
      unfold b_cover
      exact (js_nf [.val d518, .val d519, .val d520, .unk, .unk, .unk, .unk] rfl (js_expr (je_callO (w_check_spans c) hr (by decide) g_cover_check_spans (ja_cons (je_nm n_cover_length rfl) fun x521 => (ja_cons (je_nm n_cover_spans rfl) fun x522 => (ja_cons (je_nm n_cover_many rfl) fun x523 => ja_nil)))) (js_nf [.val d518, .val d519, .val d520, .unk, .unk, .unk, .unk] rfl (js_asg (i := 3) sc_cover.nd rfl (.inr rfl) (jn_lst ja_nil) fun d524 => (js_nf [.val d518, .val d519, .val d520, .own d524, .unk, .unk, .unk] rfl (js_forK (r := (fun d => d)) (emb := (fun a : (List D) => [.val d518, .val d519, .val d520, .own a, .unk, .unk, .unk])) (a0 := d524) PassesOwn.never rfl (ji_range1 g_cover_range c.n_range (ja_cons (je_nm n_cover_length rfl) fun x525 => ja_nil)) (pgd_n 4 sc_cover.nd rfl (.inr rfl)) (.e (.e (.e (.e (.u (.u (.u .nil))))))) (fun a526 => ji_n fun d527 => (js_nf [.val d518, .val d519, .val d520, .own a526, .val d527, .unk, .unk] rfl (js_whileK (emb := (fun a : (List D) => [.val d518, .val d519, .val d520, .own a, .val d527, .unk, .unk])) (a0 := a526) PassesOwn.never (.e (.e (.e (.e (.e (.u (.u .nil))))))) (fun a528 => (jt_nf [.val d518, .val d519, .val d520, .own a528, .val d527, .unk, .unk] rfl (jt_cmp ob_lt (JE.v (je_callV (w_covered c) hr (by decide) g_cover_covered (jav_cons (JE.v (je_nm n_cover_spans rfl)) fun x529 => (jav_cons (jv_nm n_cover_lot rfl) fun x530 => (jav_cons (JE.v (je_nm n_cover_yard rfl)) fun x531 => jav_nil))))) (JE.v (je_nm n_cover_many rfl)) (by rfl)))) (fun a528 => (js_nf [.val d518, .val d519, .val d520, .own a528, .val d527, .unk, .unk] rfl (js_asgLc (i := 5) rfl sc_cover.nd rfl rfl (ji_range1 g_cover_range c.n_range (ja_cons (je_callB cd_len g_cover_len c.n_len (by decide +kernel) (jav_cons (JE.v (je_nm n_cover_spans rfl)) fun x535 => jav_nil)) fun x536 => ja_nil)) (blk (own := [("one", 6)]) (by kernel_rfl)) (fun _ _ _ _ _ => (pgd_n 6 sc_cover.nd rfl (.inl rfl))) (ji_n fun d537 => .cond (fun _ _ _ _ _ => jt_nf [.val d518, .val d519, .val d520, .own a528, .val d527, .unk, .val d537] rfl (JW.t (jw_and (jt_cmp (ob_nin hr.units) (JE.v (je_name 6 rfl (.inl rfl) rfl)) (jv_own 3 rfl (.inr (.inl rfl)) rfl) (by rfl)) (jw_and1 (jt_chain ob_le ob_lt (JE.v (je_ix (JE.v (je_ix (JE.v (je_name 1 rfl (.inr (.inl rfl)) rfl)) (je_name 6 rfl (.inl rfl) rfl))) je_int)) (JE.v (je_name 4 rfl (.inr (.inl rfl)) rfl)) (JE.v (je_ix (JE.v (je_ix (JE.v (je_name 1 rfl (.inr (.inl rfl)) rfl)) (je_name 6 rfl (.inl rfl) rfl))) je_int))))))) (fun _ _ _ _ _ => je_nf [.val d518, .val d519, .val d520, .own a528, .val d527, .unk, .val d537] rfl (je_name 6 rfl (.inl rfl) rfl))) fun d559 => (js_nf [.val d518, .val d519, .val d520, .own a528, .val d527, .val d559, .unk] rfl (js_ifK (emb := (fun a : Unit => [.val d518, .val d519, .val d520, .own a528, .val d527, .val d559, .unk])) (jt_cmp (ob_eq hr.units) (JE.v (je_nm n_cover_some rfl)) (JE.v (je_lst ja_nil)) (by rfl)) (js_nf [.val d518, .val d519, .val d520, .own a528, .val d527, .val d559, .unk] rfl (js_ret (r := Fl.rt) (je_tup (ja_cons (je_gstr c.c_NEVER g_cover_NEVER) fun x564 => (ja_cons (je_nm n_cover_yard rfl) fun x565 => ja_nil))) fun _ => rfl)) (js_end rfl (.e (.e (.e (.e (.e (.e (.u .nil)))))))) (fun a567 => (js_nf [.val d518, .val d519, .val d520, .own a528, .val d527, .val d559, .unk] rfl (js_append (i := 3) rfl (.inr (.inl rfl)) rfl (je_ix (JE.v (je_callB (cd_min rfl hr.units) g_cover_min c.n_min (by decide +kernel) (jav_cons (JE.v (je_lc rfl sc_cover.nd (ji_seq (je_nm n_cover_some rfl)) (blk (own := [("one", 6)]) (by kernel_rfl)) (fun _ _ _ _ _ => (pgd_n 6 sc_cover.nd rfl (.inl rfl))) (ji_n fun d570 => .plain (fun _ _ _ _ _ => je_nf [.val d518, .val d519, .val d520, .own a528, .val d527, .val d559, .val d570] rfl (je_tup (ja_cons (je_neg (je_ix (JE.v (je_ix (JE.v (je_name 1 rfl (.inr (.inl rfl)) rfl)) (je_name 6 rfl (.inl rfl) rfl))) je_int)) fun x576 => (ja_cons (je_name 6 rfl (.inl rfl) rfl) fun x577 => ja_nil))))))) fun x582 => jav_nil))) je_int) fun ys585 => (js_end rfl (.e (.e (.e (.e (.e (.u (.u .nil))))))))))) fun _ => rfl))))) (fun a586 => (js_end rfl (.e (.e (.e (.e (.u (.u (.u .nil))))))))) fun _ => rfl))) (fun a588 => (js_nf [.val d518, .val d519, .val d520, .own a588, .unk, .unk, .unk] rfl (js_ret0 (je_tup (ja_cons (je_gstr c.c_COVER g_cover_COVER) fun x589 => (ja_cons (je_callTy cd_tuple g_cover_tuple c.n_tuple (by decide +kernel) (jav_cons (JE.v (je_callB cd_sorted g_cover_sorted c.n_sorted (by decide +kernel) (jav_cons (jv_nm n_cover_lot rfl) fun x590 => jav_nil))) fun x591 => jav_nil)) fun x592 => ja_nil)))))) fun _ => rfl))))))
abbrev s_shows_cover : Stmt := topS 40
theorem sc_shows_cover : FnScope ["length", "spans", "many", "value", "told", "one", "yard"] ["length", "spans", "many", "value"] (defScope s_shows_cover) := ⟨rfl, rfl, rfl, by decide +kernel, rfl, by decide +kernel, by decide +kernel⟩
theorem n_shows_cover_length : NmF (defScope s_shows_cover) ["length", "spans", "many", "value", "told", "one", "yard"] 0 "length" := ⟨rfl, (.inl (by kernel_rfl)), by decide, by decide⟩
theorem n_shows_cover_many : NmF (defScope s_shows_cover) ["length", "spans", "many", "value", "told", "one", "yard"] 2 "many" := ⟨rfl, (.inr (.inl (by kernel_rfl))), by decide, by decide⟩
theorem n_shows_cover_spans : NmF (defScope s_shows_cover) ["length", "spans", "many", "value", "told", "one", "yard"] 1 "spans" := ⟨rfl, (.inr (.inl (by kernel_rfl))), by decide, by decide⟩
theorem n_shows_cover_told : NmF (defScope s_shows_cover) ["length", "spans", "many", "value", "told", "one", "yard"] 4 "told" := ⟨rfl, (.inl (by kernel_rfl)), by decide, by decide⟩
theorem n_shows_cover_value : NmF (defScope s_shows_cover) ["length", "spans", "many", "value", "told", "one", "yard"] 3 "value" := ⟨rfl, (.inr (.inl (by kernel_rfl))), by decide, by decide⟩
theorem g_shows_cover_COVER : (defScope s_shows_cover).names.lookup (("COVER" : Str)) = some .globalImplicit := by kernel_rfl
theorem g_shows_cover_NEVER : (defScope s_shows_cover).names.lookup (("NEVER" : Str)) = some .globalImplicit := by kernel_rfl
theorem g_shows_cover_PAIR_laying : (defScope s_shows_cover).names.lookup (("PAIR_laying" : Str)) = some .globalImplicit := by kernel_rfl
theorem g_shows_cover_all : (defScope s_shows_cover).names.lookup (("all" : Str)) = some .globalImplicit := by kernel_rfl
theorem g_shows_cover_cover : (defScope s_shows_cover).names.lookup (("cover" : Str)) = some .globalImplicit := by kernel_rfl
theorem g_shows_cover_covered : (defScope s_shows_cover).names.lookup (("covered" : Str)) = some .globalImplicit := by kernel_rfl
theorem g_shows_cover_is_integer : (defScope s_shows_cover).names.lookup (("is_integer" : Str)) = some .globalImplicit := by kernel_rfl
theorem g_shows_cover_is_tuple : (defScope s_shows_cover).names.lookup (("is_tuple" : Str)) = some .globalImplicit := by kernel_rfl
theorem g_shows_cover_is_word : (defScope s_shows_cover).names.lookup (("is_word" : Str)) = some .globalImplicit := by kernel_rfl
theorem g_shows_cover_len : (defScope s_shows_cover).names.lookup (("len" : Str)) = some .globalImplicit := by kernel_rfl
theorem g_shows_cover_list : (defScope s_shows_cover).names.lookup (("list" : Str)) = some .globalImplicit := by kernel_rfl
theorem g_shows_cover_range : (defScope s_shows_cover).names.lookup (("range" : Str)) = some .globalImplicit := by kernel_rfl
theorem g_shows_cover_set : (defScope s_shows_cover).names.lookup (("set" : Str)) = some .globalImplicit := by kernel_rfl
theorem g_shows_cover_sorted : (defScope s_shows_cover).names.lookup (("sorted" : Str)) = some .globalImplicit := by kernel_rfl
theorem w_shows_cover (c : Fx K mg base TT) : DOk PR w K mg base 6 "shows_cover" ["length", "spans", "many", "value"] (spF TT m_shows_cover) := by
  refine ok_pure (N := ["length", "spans", "many", "value", "told", "one", "yard"]) (k := 5) c.f_shows_cover sc_shows_cover (fun _ _ _ _ _ _ us hl => match us, hl with | [_, _, _, _], _ => rfl) (mb := fun ds => match ds with | [d594, d595, d596, d597] => b_shows_cover d594 d595 d596 d597 | _ => fail) ?_ ?_
  · intro ds r h
    match ds, h with
    | [_, _, _, _], h => exact ⟨rfl, h⟩
  · intro ds hl
    match ds, hl with
    | [d594, d595, d596, d597], _ =>
      intro cdv A outer s F E hcd hr
      show JS _ _ _ _ (b_shows_cover d594 d595 d596 d597) _
      unfold b_shows_cover
      exact (js_nf [.val d594, .val d595, .val d596, .val d597, .unk, .unk, .unk] rfl (js_asg (i := 4) sc_shows_cover.nd rfl (.inl rfl) (JE.x (je_callO (w_cover c) hr (by decide) g_shows_cover_cover (ja_cons (je_nm n_shows_cover_length rfl) fun x598 => (ja_cons (je_nm n_shows_cover_spans rfl) fun x599 => (ja_cons (je_nm n_shows_cover_many rfl) fun x600 => ja_nil))))) fun d601 => (js_nf [.val d594, .val d595, .val d596, .val d597, .val d601, .unk, .unk] rfl (js_ifret (JW.t (jw_or (jt_not (jt_val (je_callO (w_is_tuple c) hr (by decide) g_shows_cover_is_tuple (ja_cons (je_nm n_shows_cover_value rfl) fun x602 => (ja_cons (je_gint c.c_PAIR_laying g_shows_cover_PAIR_laying) fun x603 => (ja_cons (je_gint c.c_PAIR_laying g_shows_cover_PAIR_laying) fun x604 => ja_nil)))))) (jw_or (jt_not (jt_val (je_callO (w_is_word c) hr (by decide) g_shows_cover_is_word (ja_cons (je_ix (JE.v (je_nm n_shows_cover_value rfl)) je_int) fun x609 => (ja_cons (je_tup (ja_cons (je_gstr c.c_COVER g_shows_cover_COVER) fun x610 => (ja_cons (je_gstr c.c_NEVER g_shows_cover_NEVER) fun x611 => ja_nil))) fun x612 => ja_nil))))) (jw_or1 (jt_cmp (ob_ne hr.units) (JE.v (je_ix (JE.v (je_nm n_shows_cover_value rfl)) je_int)) (JE.v (je_ix (JE.v (je_nm n_shows_cover_told rfl)) je_int)) (by rfl)))))) (js_nf [.val d594, .val d595, .val d596, .val d597, .val d601, .unk, .unk] rfl (js_ret0 je_bl)) (js_nf [.val d594, .val d595, .val d596, .val d597, .val d601, .unk, .unk] rfl (js_ifret (jt_cmp (ob_eq hr.units) (JE.v (je_ix (JE.v (je_nm n_shows_cover_told rfl)) je_int)) (JE.v (je_gstr c.c_NEVER g_shows_cover_NEVER)) (by rfl)) (js_nf [.val d594, .val d595, .val d596, .val d597, .val d601, .unk, .unk] rfl (js_ifret (jt_not (jt_val (je_callO (w_is_integer c) hr (by decide) g_shows_cover_is_integer (ja_cons (je_ix (JE.v (je_nm n_shows_cover_value rfl)) je_int) fun x633 => (ja_cons je_int fun x634 => (ja_cons (je_bin od_sub (je_nm n_shows_cover_length rfl) je_int) fun x637 => ja_nil)))))) (js_nf [.val d594, .val d595, .val d596, .val d597, .val d601, .unk, .unk] rfl (js_ret0 je_bl)) (js_nf [.val d594, .val d595, .val d596, .val d597, .val d601, .unk, .unk] rfl (js_ret0 (je_cmp ob_lt (JE.v (je_callO (w_covered c) hr (by decide) g_shows_cover_covered (ja_cons (je_nm n_shows_cover_spans rfl) fun x641 => (ja_cons (je_listRg rfl (je_callB cd_len g_shows_cover_len c.n_len (by decide +kernel) (jav_cons (JE.v (je_nm n_shows_cover_spans rfl)) fun x642 => jav_nil)) rfl c.n_list rfl c.n_range) fun x644 => (ja_cons (je_ix (JE.v (je_nm n_shows_cover_value rfl)) je_int) fun x647 => ja_nil))))) (JE.v (je_nm n_shows_cover_many rfl)) (by rfl)))) fun _ _ => nofun)) (js_nf [.val d594, .val d595, .val d596, .val d597, .val d601, .unk, .unk] rfl (js_ifret (JW.t (jw_or (jt_not (jt_val (je_callO (w_is_tuple c) hr (by decide) g_shows_cover_is_tuple (ja_cons (je_ix (JE.v (je_nm n_shows_cover_value rfl)) je_int) fun x653 => (ja_cons je_int fun x654 => (ja_cons (je_callB cd_len g_shows_cover_len c.n_len (by decide +kernel) (jav_cons (JE.v (je_nm n_shows_cover_spans rfl)) fun x655 => jav_nil)) fun x656 => ja_nil)))))) (jw_or1 (jt_not (jt_val (je_callB (cd_all rfl) g_shows_cover_all c.n_all (by decide +kernel) (jav_cons (JE.v (je_lc rfl sc_shows_cover.nd (ji_seq (je_ix (JE.v (je_nm n_shows_cover_value rfl)) je_int)) (blk (own := [("one", 5)]) (by kernel_rfl)) (fun _ _ _ _ _ => (pgd_n 5 sc_shows_cover.nd rfl (.inl rfl))) (ji_n fun d662 => .plain (fun _ _ _ _ _ => je_nf [.val d594, .val d595, .val d596, .val d597, .val d601, .val d662, .unk] rfl (je_callO (w_is_integer c) hr (by decide) rfl (ja_cons (je_name 5 rfl (.inl rfl) rfl) fun x663 => (ja_cons je_int fun x664 => (ja_cons (je_bin od_sub (je_callB cd_len rfl c.n_len (by decide +kernel) (jav_cons (JE.v (je_name 1 rfl (.inr (.inl rfl)) rfl)) fun x665 => jav_nil)) je_int) fun x668 => ja_nil)))))))) fun x673 => jav_nil))))))) (js_nf [.val d594, .val d595, .val d596, .val d597, .val d601, .unk, .unk] rfl (js_ret0 je_bl)) (js_nf [.val d594, .val d595, .val d596, .val d597, .val d601, .unk, .unk] rfl (js_ifret (JW.t (jw_or (jt_cmp (ob_ne hr.units) (JE.v (je_callTy cd_list g_shows_cover_list c.n_list (by decide +kernel) (jav_cons (JE.v (je_ix (JE.v (je_nm n_shows_cover_value rfl)) je_int)) fun x680 => jav_nil))) (JE.v (je_sortedSetT rfl g_shows_cover_sorted c.n_sorted g_shows_cover_set c.n_set (je_ix (JE.v (je_nm n_shows_cover_value rfl)) je_int))) (by rfl)) (jw_or1 (jt_cmp (ob_ne hr.units) (JE.v (je_callB cd_len g_shows_cover_len c.n_len (by decide +kernel) (jav_cons (JE.v (je_ix (JE.v (je_nm n_shows_cover_value rfl)) je_int)) fun x689 => jav_nil))) (JE.v (je_callB cd_len g_shows_cover_len c.n_len (by decide +kernel) (jav_cons (JE.v (je_ix (JE.v (je_nm n_shows_cover_told rfl)) je_int)) fun x692 => jav_nil))) (by rfl))))) (js_nf [.val d594, .val d595, .val d596, .val d597, .val d601, .unk, .unk] rfl (js_ret0 je_bl)) (js_nf [.val d594, .val d595, .val d596, .val d597, .val d601, .unk, .unk] rfl (js_ret0 (je_callB (cd_all rfl) g_shows_cover_all c.n_all (by decide +kernel) (jav_cons (JE.v (je_lc rfl sc_shows_cover.nd (ji_range1 g_shows_cover_range c.n_range (ja_cons (je_nm n_shows_cover_length rfl) fun x698 => ja_nil)) (blk (own := [("yard", 6)]) (by kernel_rfl)) (fun _ _ _ _ _ => (pgd_n 6 sc_shows_cover.nd rfl (.inl rfl))) (ji_n fun d699 => .plain (fun _ _ _ _ _ => je_nf [.val d594, .val d595, .val d596, .val d597, .val d601, .unk, .val d699] rfl (je_cmp ob_ge (JE.v (je_callO (w_covered c) hr (by decide) rfl (ja_cons (je_name 1 rfl (.inr (.inl rfl)) rfl) fun x700 => (ja_cons (je_ix (JE.v (je_name 3 rfl (.inr (.inl rfl)) rfl)) je_int) fun x703 => (ja_cons (je_name 6 rfl (.inl rfl) rfl) fun x704 => ja_nil))))) (JE.v (je_name 2 rfl (.inr (.inl rfl)) rfl)) (by rfl)))))) fun x712 => jav_nil)))) fun _ _ => nofun)) fun _ _ => nofun)) fun _ _ => nofun)) fun _ _ => nofun))))
abbrev s_apart_yards : Stmt := topS 41
theorem sc_apart_yards : FnScope ["length", "spans", "found", "end", "begin", "last"] ["length", "spans"] (defScope s_apart_yards) := ⟨rfl, rfl, rfl, by decide +kernel, rfl, by decide +kernel, by decide +kernel⟩
theorem n_apart_yards_end : NmF (defScope s_apart_yards) ["length", "spans", "found", "end", "begin", "last"] 3 "end" := ⟨rfl, (.inl (by kernel_rfl)), by decide, by decide⟩
theorem n_apart_yards_found : NmF (defScope s_apart_yards) ["length", "spans", "found", "end", "begin", "last"] 2 "found" := ⟨rfl, (.inr (.inl (by kernel_rfl))), by decide, by decide⟩
theorem n_apart_yards_length : NmF (defScope s_apart_yards) ["length", "spans", "found", "end", "begin", "last"] 0 "length" := ⟨rfl, (.inl (by kernel_rfl)), by decide, by decide⟩
theorem n_apart_yards_spans : NmF (defScope s_apart_yards) ["length", "spans", "found", "end", "begin", "last"] 1 "spans" := ⟨rfl, (.inl (by kernel_rfl)), by decide, by decide⟩
theorem g_apart_yards_NEVER : (defScope s_apart_yards).names.lookup (("NEVER" : Str)) = some .globalImplicit := by kernel_rfl
theorem g_apart_yards_check_spans : (defScope s_apart_yards).names.lookup (("check_spans" : Str)) = some .globalImplicit := by kernel_rfl
theorem g_apart_yards_cover : (defScope s_apart_yards).names.lookup (("cover" : Str)) = some .globalImplicit := by kernel_rfl
theorem g_apart_yards_max : (defScope s_apart_yards).names.lookup (("max" : Str)) = some .globalImplicit := by kernel_rfl
theorem g_apart_yards_tuple : (defScope s_apart_yards).names.lookup (("tuple" : Str)) = some .globalImplicit := by kernel_rfl
theorem w_apart_yards (c : Fx K mg base TT) : DOk PR w K mg base 6 "apart_yards" ["length", "spans"] (spF TT m_apart_yards) := by
  refine ok_pure (N := ["length", "spans", "found", "end", "begin", "last"]) (k := 5) c.f_apart_yards sc_apart_yards (fun _ _ _ _ _ _ us hl => match us, hl with | [_, _], _ => rfl) (mb := fun ds => match ds with | [d713, d714] => b_apart_yards d713 d714 | _ => fail) ?_ ?_
  · intro ds r h
    match ds, h with
    | [_, _], h => exact ⟨rfl, h⟩
  · intro ds hl
    match ds, hl with
    | [d713, d714], _ =>
      intro cdv A outer s F E hcd hr
      show JS _ _ _ _ (b_apart_yards d713 d714) _
      unfold b_apart_yards
      exact (js_nf [.val d713, .val d714, .unk, .unk, .unk, .unk] rfl (js_expr (je_callO (w_check_spans c) hr (by decide) g_apart_yards_check_spans (ja_cons (je_nm n_apart_yards_length rfl) fun x715 => (ja_cons (je_nm n_apart_yards_spans rfl) fun x716 => (ja_cons je_int fun x717 => ja_nil)))) (js_nf [.val d713, .val d714, .unk, .unk, .unk, .unk] rfl (js_ifraise (jt_cmp (ob_eq hr.units) (JE.v (je_ix (JE.v (je_callO (w_cover c) hr (by decide) g_apart_yards_cover (ja_cons (je_nm n_apart_yards_length rfl) fun x719 => (ja_cons (je_nm n_apart_yards_spans rfl) fun x720 => (ja_cons je_int fun x721 => ja_nil))))) je_int)) (JE.v (je_gstr c.c_NEVER g_apart_yards_NEVER)) (by rfl)) (js_nf [.val d713, .val d714, .unk, .unk, .unk, .unk] rfl (js_unp2 (i := 2) (j := 3) rfl sc_apart_yards.nd rfl rfl (by decide) (.inr rfl) (.inl rfl) (jn_lst ja_nil) (JE.x je_int) fun d727 d728 => (js_nf [.val d713, .val d714, .own d727, .val d728, .unk, .unk] rfl (js_whileK (emb := (fun a : (List D) × D => [.val d713, .val d714, .own a.1, .val a.2, .unk, .unk])) (a0 := (d727, d728)) PassesOwn.never (.e (.e (.e (.e (.u (.u .nil)))))) (fun a729 => (jt_nf [.val d713, .val d714, .own a729.1, .val a729.2, .unk, .unk] rfl (jt_cmp ob_lt (JE.v (je_nm n_apart_yards_end rfl)) (JE.v (je_nm n_apart_yards_length rfl)) (by rfl)))) (fun a729 => (js_nf [.val d713, .val d714, .own a729.1, .val a729.2, .unk, .unk] rfl (js_append (i := 2) rfl (.inr (.inl rfl)) rfl (je_nm n_apart_yards_end rfl) fun ys734 => (js_nf [.val d713, .val d714, .own ys734, .val a729.2, .unk, .unk] rfl (js_asg (i := 3) sc_apart_yards.nd rfl (.inl rfl) (JE.x (je_callB (cd_max rfl hr.units) g_apart_yards_max c.n_max (by decide +kernel) (jav_cons (JE.v (je_lc rfl sc_apart_yards.nd (ji_seq (je_nm n_apart_yards_spans rfl)) (blk (own := [("begin", 4), ("last", 5)]) (by kernel_rfl)) (fun _ _ _ _ _ => (pgd_2 rfl (pgd_n 4 sc_apart_yards.nd rfl (.inl rfl)) (pgd_n 5 sc_apart_yards.nd rfl (.inl rfl)))) (ji_2 fun d736 d737 => .cond (fun _ _ _ _ _ => jt_nf [.val d713, .val d714, .own ys734, .val a729.2, .val d736, .val d737] rfl (jt_chain ob_le ob_lt (JE.v (je_name 4 rfl (.inl rfl) rfl)) (JE.v (je_ix (jv_own 2 rfl (.inr (.inl rfl)) rfl) (je_neg je_int))) (JE.v (je_name 5 rfl (.inl rfl) rfl)))) (fun _ _ _ _ _ => je_nf [.val d713, .val d714, .own ys734, .val a729.2, .val d736, .val d737] rfl (je_name 5 rfl (.inl rfl) rfl))))) fun x750 => jav_nil))) fun d751 => (js_end rfl (.e (.e (.e (.e (.u (.u .nil)))))))))))) (fun a752 => (js_nf [.val d713, .val d714, .own a752.1, .val a752.2, .unk, .unk] rfl (js_ret0 (je_callTy cd_tuple g_apart_yards_tuple c.n_tuple (by decide +kernel) (jav_cons (jv_nm n_apart_yards_found rfl) fun x753 => jav_nil))))) fun _ => rfl))))))))
abbrev s__law_pot : Stmt := topS 43
theorem sc__law_pot : FnScope ["script", "place", "cell", "own", "small"] ["script", "place"] (defScope s__law_pot) := ⟨rfl, rfl, rfl, by decide +kernel, rfl, by decide +kernel, by decide +kernel⟩
theorem n__law_pot_cell : NmF (defScope s__law_pot) ["script", "place", "cell", "own", "small"] 2 "cell" := ⟨rfl, (.inl (by kernel_rfl)), by decide, by decide⟩
theorem n__law_pot_own : NmF (defScope s__law_pot) ["script", "place", "cell", "own", "small"] 3 "own" := ⟨rfl, (.inl (by kernel_rfl)), by decide, by decide⟩
theorem n__law_pot_place : NmF (defScope s__law_pot) ["script", "place", "cell", "own", "small"] 1 "place" := ⟨rfl, (.inl (by kernel_rfl)), by decide, by decide⟩
theorem n__law_pot_small : NmF (defScope s__law_pot) ["script", "place", "cell", "own", "small"] 4 "small" := ⟨rfl, (.inl (by kernel_rfl)), by decide, by decide⟩
theorem g__law_pot_abs : (defScope s__law_pot).names.lookup (("abs" : Str)) = some .globalImplicit := by kernel_rfl
theorem g__law_pot_int : (defScope s__law_pot).names.lookup (("int" : Str)) = some .globalImplicit := by kernel_rfl
theorem g__law_pot_sum : (defScope s__law_pot).names.lookup (("sum" : Str)) = some .globalImplicit := by kernel_rfl
theorem w__law_pot (c : Fx K mg base TT) : DOk PR w K mg base 1 "_law_pot" ["script", "place"] (spScr TT K m__law_pot) := by
  refine ok_scr (N := ["script", "place", "cell", "own", "small"]) (k := 0) c.f__law_pot sc__law_pot (fun _ _ _ _ _ _ us hl => match us, hl with | [_, _], _ => rfl) (mb := fun ns ds => match ds with | [d754] => b__law_pot ns d754 | _ => fail) ?_ ?_
  · intro ns ds r h
    match ds, h with
    | [_], h => exact ⟨rfl, h⟩
  · intro ns ds hl
    match ds, hl with
    | [d754], _ =>
      intro cdv A outer s F E hcd hr
      show JS _ _ _ _ (b__law_pot ns d754) _
      unfold b__law_pot
      exact (js_nf [.scr ns, .val d754, .unk, .unk, .unk] rfl (js_asg (i := 2) sc__law_pot.nd rfl (.inl rfl) (JE.x (je_if (jt_cmp ob_lt (JE.v (je_nm n__law_pot_place rfl)) (JE.v (je_lenS (i := 0) rfl (.inl rfl) rfl rfl c.n_len)) (by rfl)) (je_ixS (i := 0) rfl (.inl rfl) rfl (je_nm n__law_pot_place rfl)) (je_bin od_add (je_bin od_add (je_bin od_mod (je_callB (cd_sum rfl) g__law_pot_sum c.n_sum (by decide +kernel) (jav_cons (JE.v (je_sliceS (i := 0) rfl (.inl rfl) rfl jo_none (jo_some je_int))) fun x763 => jav_nil)) je_int) (je_bin od_mulT je_int (je_nm n__law_pot_place rfl))) je_int))) fun d773 => (js_nf [.scr ns, .val d754, .val d773, .unk, .unk] rfl (js_asg (i := 3) sc__law_pot.nd rfl (.inl rfl) (JE.x (je_bin od_mulT (je_bin od_mod (je_callTy cd_int g__law_pot_int c.n_int (by decide +kernel) (jav_cons (JE.v (je_callB cd_abs g__law_pot_abs c.n_abs (by decide +kernel) (jav_cons (JE.v (je_nm n__law_pot_cell rfl)) fun x774 => jav_nil))) fun x775 => jav_nil)) (je_bin od_pow (je_bin od_pow je_int je_int) je_int)) (je_callTy cd_int g__law_pot_int c.n_int (by decide +kernel) (jav_cons (JE.v (je_cmp ob_ge (JE.v (je_callB cd_abs g__law_pot_abs c.n_abs (by decide +kernel) (jav_cons (JE.v (je_nm n__law_pot_cell rfl)) fun x782 => jav_nil))) (JE.v (je_bin od_pow je_int je_int)) (by rfl))) fun x788 => jav_nil)))) fun d791 => (js_nf [.scr ns, .val d754, .val d773, .val d791, .unk] rfl (js_asg (i := 4) sc__law_pot.nd rfl (.inl rfl) (JE.x (je_bin od_mod (je_callTy cd_int g__law_pot_int c.n_int (by decide +kernel) (jav_cons (JE.v (je_nm n__law_pot_cell rfl)) fun x792 => jav_nil)) je_int)) fun d795 => (js_nf [.scr ns, .val d754, .val d773, .val d791, .val d795] rfl (js_ret0 (je_lst (ja_cons (je_nm n__law_pot_own rfl) fun x796 => (ja_cons (je_bin od_mod (je_callTy cd_int g__law_pot_int c.n_int (by decide +kernel) (jav_cons (JE.v (je_bin od_add (je_bin od_add (je_bin od_mulT (je_nm n__law_pot_small rfl) je_int) (je_bin od_mulT (je_bin od_mulT je_int (je_nm n__law_pot_place rfl)) (je_nm n__law_pot_place rfl))) je_int)) fun x807 => jav_nil)) je_int) fun x810 => (ja_cons je_int fun x811 => ja_nil))))))))))))
abbrev s__law_take : Stmt := topS 44
theorem sc__law_take : FnScope ["pot", "upto", "digit", "prime", "blend"] ["pot", "upto"] (defScope s__law_take) := ⟨rfl, rfl, rfl, by decide +kernel, rfl, by decide +kernel, by decide +kernel⟩
theorem n__law_take_blend : NmF (defScope s__law_take) ["pot", "upto", "digit", "prime", "blend"] 4 "blend" := ⟨rfl, (.inl (by kernel_rfl)), by decide, by decide⟩
theorem n__law_take_digit : NmF (defScope s__law_take) ["pot", "upto", "digit", "prime", "blend"] 2 "digit" := ⟨rfl, (.inl (by kernel_rfl)), by decide, by decide⟩
theorem n__law_take_prime : NmF (defScope s__law_take) ["pot", "upto", "digit", "prime", "blend"] 3 "prime" := ⟨rfl, (.inl (by kernel_rfl)), by decide, by decide⟩
theorem n__law_take_upto : NmF (defScope s__law_take) ["pot", "upto", "digit", "prime", "blend"] 1 "upto" := ⟨rfl, (.inl (by kernel_rfl)), by decide, by decide⟩
theorem g__law_take_int : (defScope s__law_take).names.lookup (("int" : Str)) = some .globalImplicit := by kernel_rfl
theorem w__law_take (c : Fx K mg base TT) : DOk PR w K mg base 1 "_law_take" ["pot", "upto"] (spP TT m__law_take) := by
  refine ok_pot (N := ["pot", "upto", "digit", "prime", "blend"]) (k := 0) c.f__law_take sc__law_take (fun _ _ _ _ _ _ us hl => match us, hl with | [_, _], _ => rfl) ?_ ?_
  · intro ds s r s' h
    match ds, h with
    | [_], _ => rfl
  · intro ds p hl
    match ds, hl with
    | [d812], _ =>
      intro cdv A outer s F E hcd hr
      show JS _ _ _ _ (b__law_take d812) _
      unfold b__law_take
      exact (js_nf [.pot, .val d812, .unk, .unk, .unk] rfl (js_ifret (jt_cmp ob_gt (JE.v (je_ixP (i := 0) rfl (.inl rfl) rfl)) (JE.v je_int) (by rfl)) (js_nf [.pot, .val d812, .unk, .unk, .unk] rfl (js_asg (i := 2) sc__law_take.nd rfl (.inl rfl) (JE.x (je_bin od_mod (je_callTy cd_int g__law_take_int c.n_int (by decide +kernel) (jav_cons (JE.v (je_ixP (i := 0) rfl (.inl rfl) rfl)) fun x817 => jav_nil)) (je_nm n__law_take_upto rfl))) fun d820 => (js_nf [.pot, .val d812, .val d820, .unk, .unk] rfl (js_setP (i := 0) rfl (.inl rfl) rfl (je_bin od_div (je_ixP (i := 0) rfl (.inl rfl) rfl) (je_nm n__law_take_upto rfl)) (js_nf [.pot, .val d812, .val d820, .unk, .unk] rfl (js_ret0 (je_nm n__law_take_digit rfl))))))) (js_nf [.pot, .val d812, .unk, .unk, .unk] rfl (js_setP (i := 0) rfl (.inl rfl) rfl (je_bin od_add (je_ixP (i := 0) rfl (.inl rfl) rfl) je_int) (js_nf [.pot, .val d812, .unk, .unk, .unk] rfl (js_asg (i := 3) sc__law_take.nd rfl (.inl rfl) (JE.x (je_ix (JE.v (je_lst (ja_cons je_int fun x831 => (ja_cons je_int fun x832 => (ja_cons je_int fun x833 => (ja_cons je_int fun x834 => (ja_cons je_int fun x835 => ja_nil))))))) (je_bin od_mod (je_callTy cd_int g__law_take_int c.n_int (by decide +kernel) (jav_cons (JE.v (je_ixP (i := 0) rfl (.inl rfl) rfl)) fun x827 => jav_nil)) je_int))) fun d837 => (js_nf [.pot, .val d812, .unk, .val d837, .unk] rfl (js_asg (i := 4) sc__law_take.nd rfl (.inl rfl) (JE.x (je_bin od_mod (je_callTy cd_int g__law_take_int c.n_int (by decide +kernel) (jav_cons (JE.v (je_bin od_pow (je_callTy cd_int g__law_take_int c.n_int (by decide +kernel) (jav_cons (JE.v (je_bin od_add (je_bin od_add (je_ixP (i := 0) rfl (.inl rfl) rfl) (je_bin od_mulT (je_bin od_mulT je_int (je_ixP (i := 0) rfl (.inl rfl) rfl)) (je_ixP (i := 0) rfl (.inl rfl) rfl))) je_int)) fun x846 => jav_nil)) je_int)) fun x849 => jav_nil)) (je_nm n__law_take_prime rfl))) fun d852 => (js_nf [.pot, .val d812, .unk, .val d837, .val d852] rfl (js_asg (i := 4) sc__law_take.nd rfl (.inl rfl) (JE.x (je_bin od_mod (je_callTy cd_int g__law_take_int c.n_int (by decide +kernel) (jav_cons (JE.v (je_bin od_mulT (je_nm n__law_take_blend rfl) (je_bin od_add (je_bin od_mod (je_callTy cd_int g__law_take_int c.n_int (by decide +kernel) (jav_cons (JE.v (je_nm n__law_take_blend rfl)) fun x853 => jav_nil)) je_int) (je_bin od_mulT je_int (je_ixP (i := 0) rfl (.inl rfl) rfl))))) fun x862 => jav_nil)) je_int)) fun d865 => (js_nf [.pot, .val d812, .unk, .val d837, .val d865] rfl (js_ret0 (je_bin od_mod (je_callTy cd_int g__law_take_int c.n_int (by decide +kernel) (jav_cons (JE.v (je_bin od_div (je_nm n__law_take_blend rfl) je_int)) fun x868 => jav_nil)) (je_nm n__law_take_upto rfl)))))))))))) fun _ _ => nofun))
abbrev s__law_of : Stmt := topS 45
theorem sc__law_of : FnScope ["pot", "some"] ["pot", "some"] (defScope s__law_of) := ⟨rfl, rfl, rfl, by decide +kernel, rfl, by decide +kernel, by decide +kernel⟩
theorem n__law_of_some : NmF (defScope s__law_of) ["pot", "some"] 1 "some" := ⟨rfl, (.inl (by kernel_rfl)), by decide, by decide⟩
theorem g__law_of__law_take : (defScope s__law_of).names.lookup (("_law_take" : Str)) = some .globalImplicit := by kernel_rfl
theorem g__law_of_len : (defScope s__law_of).names.lookup (("len" : Str)) = some .globalImplicit := by kernel_rfl
theorem w__law_of (c : Fx K mg base TT) : DOk PR w K mg base 2 "_law_of" ["pot", "some"] (spP TT m__law_of) := by
  refine ok_pot (N := ["pot", "some"]) (k := 1) c.f__law_of sc__law_of (fun _ _ _ _ _ _ us hl => match us, hl with | [_, _], _ => rfl) ?_ ?_
  · intro ds s r s' h
    match ds, h with
    | [_], _ => rfl
  · intro ds p hl
    match ds, hl with
    | [d871], _ =>
      intro cdv A outer s F E hcd hr
      show JS _ _ _ _ (b__law_of d871) _
      unfold b__law_of
      exact (js_nf [.pot, .val d871] rfl (js_ret0 (je_ix (JE.v (je_nm n__law_of_some rfl)) (je_callPO (i := 0) (w__law_take c) hr (by decide) g__law_of__law_take rfl (.inl rfl) rfl (ja_cons (je_callB cd_len g__law_of_len c.n_len (by decide +kernel) (jav_cons (JE.v (je_nm n__law_of_some rfl)) fun x872 => jav_nil)) fun x873 => ja_nil)))))
abbrev s__law_places : Stmt := topS 46
theorem sc__law_places : FnScope ["script", "most"] ["script", "most"] (defScope s__law_places) := ⟨rfl, rfl, rfl, by decide +kernel, rfl, by decide +kernel, by decide +kernel⟩
theorem n__law_places_most : NmF (defScope s__law_places) ["script", "most"] 1 "most" := ⟨rfl, (.inl (by kernel_rfl)), by decide, by decide⟩
theorem g__law_places_max : (defScope s__law_places).names.lookup (("max" : Str)) = some .globalImplicit := by kernel_rfl
theorem g__law_places_min : (defScope s__law_places).names.lookup (("min" : Str)) = some .globalImplicit := by kernel_rfl
theorem w__law_places (c : Fx K mg base TT) : DOk PR w K mg base 1 "_law_places" ["script", "most"] (spScr TT K m__law_places) := by
  refine ok_scr (N := ["script", "most"]) (k := 0) c.f__law_places sc__law_places (fun _ _ _ _ _ _ us hl => match us, hl with | [_, _], _ => rfl) (mb := fun ns ds => match ds with | [d876] => b__law_places ns d876 | _ => fail) ?_ ?_
  · intro ns ds r h
    match ds, h with
    | [_], h => exact ⟨rfl, h⟩
  · intro ns ds hl
    match ds, hl with
    | [d876], _ =>
      intro cdv A outer s F E hcd hr
      show JS _ _ _ _ (b__law_places ns d876) _
      unfold b__law_places
      exact (js_nf [.scr ns, .val d876] rfl (js_ret0 (je_listRg rfl (je_callB (cd_max2 rfl) g__law_places_max c.n_max (by decide +kernel) (jav_cons (JE.v je_int) fun x877 => (jav_cons (JE.v (je_callB (cd_min2 rfl) g__law_places_min c.n_min (by decide +kernel) (jav_cons (JE.v (je_nm n__law_places_most rfl)) fun x878 => (jav_cons (JE.v (je_lenS (i := 0) rfl (.inl rfl) rfl rfl c.n_len)) fun x879 => jav_nil)))) fun x880 => jav_nil))) rfl c.n_list rfl c.n_range)))
abbrev s__law_some : Stmt := topS 47
theorem sc__law_some : FnScope ["pot", "pool", "many", "rests", "found", "lap"] ["pot", "pool", "many"] (defScope s__law_some) := ⟨rfl, rfl, rfl, by decide +kernel, rfl, by decide +kernel, by decide +kernel⟩
theorem n__law_some_found : NmF (defScope s__law_some) ["pot", "pool", "many", "rests", "found", "lap"] 4 "found" := ⟨rfl, (.inl (by kernel_rfl)), by decide, by decide⟩
theorem n__law_some_many : NmF (defScope s__law_some) ["pot", "pool", "many", "rests", "found", "lap"] 2 "many" := ⟨rfl, (.inl (by kernel_rfl)), by decide, by decide⟩
theorem n__law_some_pool : NmF (defScope s__law_some) ["pot", "pool", "many", "rests", "found", "lap"] 1 "pool" := ⟨rfl, (.inl (by kernel_rfl)), by decide, by decide⟩
theorem n__law_some_rests : NmF (defScope s__law_some) ["pot", "pool", "many", "rests", "found", "lap"] 3 "rests" := ⟨rfl, (.inl (by kernel_rfl)), by decide, by decide⟩
theorem g__law_some__law_take : (defScope s__law_some).names.lookup (("_law_take" : Str)) = some .globalImplicit := by kernel_rfl
theorem g__law_some_len : (defScope s__law_some).names.lookup (("len" : Str)) = some .globalImplicit := by kernel_rfl
theorem g__law_some_range : (defScope s__law_some).names.lookup (("range" : Str)) = some .globalImplicit := by kernel_rfl
theorem w__law_some (c : Fx K mg base TT) : DOk PR w K mg base 2 "_law_some" ["pot", "pool", "many"] (spP TT m__law_some) := by
  refine ok_pot (N := ["pot", "pool", "many", "rests", "found", "lap"]) (k := 1) c.f__law_some sc__law_some (fun _ _ _ _ _ _ us hl => match us, hl with | [_, _, _], _ => rfl) ?_ ?_
  · intro ds s r s' h
    match ds, h with
    | [_, _], _ => rfl
  · intro ds p hl
    match ds, hl with
    | [d882, d883], _ =>
      intro cdv A outer s F E hcd hr
      show JS _ _ _ _ (b__law_some d882 d883) _
      unfold b__law_some
      exact (js_nf [.pot, .val d882, .val d883, .unk, .unk, .unk] rfl (js_par2 (i := 3) (j := 4) rfl sc__law_some.nd rfl rfl (by decide) rfl rfl (jn_list (JE.v (je_nm n__law_some_pool rfl)) rfl c.n_list) (jn_lst ja_nil) fun d885 d886 => (js_nf [.pot, .val d882, .val d883, .own d885, .own d886, .unk] rfl (js_for (r := (fun d => d)) (emb := (fun a : (List D) × (List D) => [.pot, .val d882, .val d883, .own a.2, .own a.1, .unk])) (a0 := (d886, d885)) PassesOwn.never rfl (ji_range1 g__law_some_range c.n_range (ja_cons (je_nm n__law_some_many rfl) fun x887 => ja_nil)) (pgd_n 5 sc__law_some.nd rfl (.inl rfl)) (.e (.e (.e (.e (.e (.u .nil)))))) (fun a888 => ji_n fun d889 => (js_nf [.pot, .val d882, .val d883, .own a888.2, .own a888.1, .val d889] rfl (js_appendPop (i := 4) (j := 3) (by decide) rfl (.inl rfl) rfl rfl (.inl rfl) rfl (je_callPO (i := 0) (w__law_take c) hr (by decide) g__law_some__law_take rfl (.inl rfl) rfl (ja_cons (je_callB cd_len g__law_some_len c.n_len (by decide +kernel) (jav_cons (jv_nm n__law_some_rests rfl) fun x890 => jav_nil)) fun x891 => ja_nil)) fun zs895 us896 => (js_end rfl (.e (.e (.e (.e (.e (.u .nil)))))))))) (fun a898 => (js_nf [.pot, .val d882, .val d883, .own a898.2, .own a898.1, .unk] rfl (js_freeze (i := 4) rfl (js_nf [.pot, .val d882, .val d883, .own a898.2, .val (.list a898.1), .unk] rfl (js_ret0 (je_nm n__law_some_found rfl)))))) fun _ => rfl))))
abbrev s__law_strand : Stmt := topS 48
theorem sc__law_strand : FnScope ["pot", "long", "most", "yard"] ["pot", "long", "most"] (defScope s__law_strand) := ⟨rfl, rfl, rfl, by decide +kernel, rfl, by decide +kernel, by decide +kernel⟩
theorem n__law_strand_long : NmF (defScope s__law_strand) ["pot", "long", "most", "yard"] 1 "long" := ⟨rfl, (.inl (by kernel_rfl)), by decide, by decide⟩
theorem g__law_strand__law_take : (defScope s__law_strand).names.lookup (("_law_take" : Str)) = some .globalImplicit := by kernel_rfl
theorem g__law_strand_range : (defScope s__law_strand).names.lookup (("range" : Str)) = some .globalImplicit := by kernel_rfl
theorem g__law_strand_tuple : (defScope s__law_strand).names.lookup (("tuple" : Str)) = some .globalImplicit := by kernel_rfl
theorem w__law_strand (c : Fx K mg base TT) : DOk PR w K mg base 2 "_law_strand" ["pot", "long", "most"] (spP TT m__law_strand) := by
  refine ok_pot (N := ["pot", "long", "most", "yard"]) (k := 1) c.f__law_strand sc__law_strand (fun _ _ _ _ _ _ us hl => match us, hl with | [_, _, _], _ => rfl) ?_ ?_
  · intro ds s r s' h
    match ds, h with
    | [_, _], _ => rfl
  · intro ds p hl
    match ds, hl with
    | [d900, d901], _ =>
      intro cdv A outer s F E hcd hr
      show JS _ _ _ _ (b__law_strand d900 d901) _
      unfold b__law_strand
      exact (js_nf [.pot, .val d900, .val d901, .unk] rfl (js_ret0 (je_callTy cd_tuple g__law_strand_tuple c.n_tuple (by decide +kernel) (jav_cons (JE.v (je_lc rfl sc__law_strand.nd (ji_range1 g__law_strand_range c.n_range (ja_cons (je_bin od_add je_int (je_callPO (i := 0) (w__law_take c) hr (by decide) g__law_strand__law_take rfl (.inr (.inl rfl)) rfl (ja_cons (je_nm n__law_strand_long rfl) fun x902 => ja_nil))) fun x905 => ja_nil)) (blk (own := [("yard", 3)]) (by kernel_rfl)) (fun _ _ _ _ _ => (pgd_n 3 sc__law_strand.nd rfl (.inl rfl))) (ji_n fun d906 => .plain (fun _ _ _ _ _ => je_nf [.pot, .val d900, .val d901, .val d906] rfl (je_callTy cd_int rfl c.n_int (by decide +kernel) (jav_cons (JE.v (je_callPO (i := 0) (w__law_take c) hr (by decide) rfl rfl (.inr (.inl rfl)) rfl (ja_cons (je_bin od_add (je_name 2 rfl (.inr (.inl rfl)) rfl) je_int) fun x909 => ja_nil))) fun x910 => jav_nil)))))) fun x915 => jav_nil))))
abbrev s__law_sums : Stmt := topS 49
theorem sc__law_sums : FnScope ["strands", "length", "begins", "found", "strand", "begin", "yard"] ["strands", "length", "begins"] (defScope s__law_sums) := ⟨rfl, rfl, rfl, by decide +kernel, rfl, by decide +kernel, by decide +kernel⟩
theorem n__law_sums_begin : NmF (defScope s__law_sums) ["strands", "length", "begins", "found", "strand", "begin", "yard"] 5 "begin" := ⟨rfl, (.inl (by kernel_rfl)), by decide, by decide⟩
theorem n__law_sums_begins : NmF (defScope s__law_sums) ["strands", "length", "begins", "found", "strand", "begin", "yard"] 2 "begins" := ⟨rfl, (.inl (by kernel_rfl)), by decide, by decide⟩
theorem n__law_sums_found : NmF (defScope s__law_sums) ["strands", "length", "begins", "found", "strand", "begin", "yard"] 3 "found" := ⟨rfl, (.inl (by kernel_rfl)), by decide, by decide⟩
theorem n__law_sums_length : NmF (defScope s__law_sums) ["strands", "length", "begins", "found", "strand", "begin", "yard"] 1 "length" := ⟨rfl, (.inl (by kernel_rfl)), by decide, by decide⟩
theorem n__law_sums_strand : NmF (defScope s__law_sums) ["strands", "length", "begins", "found", "strand", "begin", "yard"] 4 "strand" := ⟨rfl, (.inl (by kernel_rfl)), by decide, by decide⟩
theorem n__law_sums_strands : NmF (defScope s__law_sums) ["strands", "length", "begins", "found", "strand", "begin", "yard"] 0 "strands" := ⟨rfl, (.inl (by kernel_rfl)), by decide, by decide⟩
theorem n__law_sums_yard : NmF (defScope s__law_sums) ["strands", "length", "begins", "found", "strand", "begin", "yard"] 6 "yard" := ⟨rfl, (.inl (by kernel_rfl)), by decide, by decide⟩
theorem g__law_sums_len : (defScope s__law_sums).names.lookup (("len" : Str)) = some .globalImplicit := by kernel_rfl
theorem g__law_sums_min : (defScope s__law_sums).names.lookup (("min" : Str)) = some .globalImplicit := by kernel_rfl
theorem g__law_sums_range : (defScope s__law_sums).names.lookup (("range" : Str)) = some .globalImplicit := by kernel_rfl
theorem g__law_sums_zip : (defScope s__law_sums).names.lookup (("zip" : Str)) = some .globalImplicit := by kernel_rfl
theorem w__law_sums (c : Fx K mg base TT) : DOk PR w K mg base 1 "_law_sums" ["strands", "length", "begins"] (spF TT m__law_sums) := by
  refine ok_pure (N := ["strands", "length", "begins", "found", "strand", "begin", "yard"]) (k := 0) c.f__law_sums sc__law_sums (fun _ _ _ _ _ _ us hl => match us, hl with | [_, _, _], _ => rfl) (mb := fun ds => match ds with | [d916, d917, d918] => b__law_sums d916 d917 d918 | _ => fail) ?_ ?_
  · intro ds r h
    match ds, h with
    | [_, _, _], h => exact ⟨rfl, h⟩
  · intro ds hl
    match ds, hl with
    | [d916, d917, d918], _ =>
      intro cdv A outer s F E hcd hr
      show JS _ _ _ _ (b__law_sums d916 d917 d918) _
      unfold b__law_sums
      exact (js_nf [.val d916, .val d917, .val d918, .unk, .unk, .unk, .unk] rfl (js_asg (i := 3) sc__law_sums.nd rfl (.inl rfl) (jn_bin on_rep (je_lst (ja_cons je_int fun x919 => ja_nil)) (je_nm n__law_sums_length rfl)) fun d922 => (js_nf [.val d916, .val d917, .val d918, .own d922, .unk, .unk, .unk] rfl (js_forK (r := (fun d => d)) (emb := (fun a : (List D) => [.val d916, .val d917, .val d918, .own a, .unk, .unk, .unk])) (a0 := d922) PassesOwn.never rfl (ji_zipA g__law_sums_zip c.n_zip (ja_cons (je_nm n__law_sums_strands rfl) fun x923 => (ja_cons (je_nm n__law_sums_begins rfl) fun x924 => ja_nil))) (pgd_2 rfl (pgd_n 4 sc__law_sums.nd rfl (.inl rfl)) (pgd_n 5 sc__law_sums.nd rfl (.inl rfl))) (.e (.e (.e (.e (.u (.u (.u .nil))))))) (fun a925 => ji_2 fun d926 d927 => (js_nf [.val d916, .val d917, .val d918, .own a925, .val d926, .val d927, .unk] rfl (js_ifK (emb := (fun a : (List D) => [.val d916, .val d917, .val d918, .own a, .val d926, .val d927, .unk])) (jt_cmp ob_isnt (JE.v (je_nm n__law_sums_begin rfl)) (JE.v je_non) (by rfl)) (js_nf [.val d916, .val d917, .val d918, .own a925, .val d926, .val d927, .unk] rfl (js_for (r := Fl.rt) (emb := (fun a : (List D) => [.val d916, .val d917, .val d918, .own a, .val d926, .val d927, .unk])) (a0 := a925) PassesOwn.never rfl (ji_range2 g__law_sums_range c.n_range (ja_cons (je_nm n__law_sums_begin rfl) fun x932 => (ja_cons (je_callB (cd_min2 rfl) g__law_sums_min c.n_min (by decide +kernel) (jav_cons (JE.v (je_nm n__law_sums_length rfl)) fun x933 => (jav_cons (JE.v (je_bin od_add (je_nm n__law_sums_begin rfl) (je_callB cd_len g__law_sums_len c.n_len (by decide +kernel) (jav_cons (JE.v (je_nm n__law_sums_strand rfl)) fun x934 => jav_nil)))) fun x937 => jav_nil))) fun x938 => ja_nil))) (pgd_n 6 sc__law_sums.nd rfl (.inl rfl)) (.e (.e (.e (.e (.e (.e (.u .nil))))))) (fun a939 => ji_n fun d940 => (js_nf [.val d916, .val d917, .val d918, .own a939, .val d926, .val d927, .val d940] rfl (js_setitem (i := 3) rfl (.inl rfl) rfl (je_bin od_add (je_ix (jv_nm n__law_sums_found rfl) (je_nm n__law_sums_yard rfl)) (je_ix (JE.v (je_nm n__law_sums_strand rfl)) (je_bin od_sub (je_nm n__law_sums_yard rfl) (je_nm n__law_sums_begin rfl)))) (je_nm n__law_sums_yard rfl) fun ys951 => (js_end rfl (.e (.e (.e (.e (.e (.e (.u .nil))))))))))) (fun a953 => (js_end rfl (.e (.e (.e (.e (.e (.e (.u .nil))))))))) fun _ => rfl)) (js_end rfl (.e (.e (.e (.e (.e (.e (.u .nil)))))))) (fun a955 => (js_end rfl (.e (.e (.e (.e (.u (.u (.u .nil))))))))) fun _ => rfl))) (fun a957 => (js_nf [.val d916, .val d917, .val d918, .own a957, .unk, .unk, .unk] rfl (js_freeze (i := 3) rfl (js_nf [.val d916, .val d917, .val d918, .val (.list a957), .unk, .unk, .unk] rfl (js_ret0 (je_nm n__law_sums_found rfl)))))) fun _ => rfl))))
abbrev s__law_few : Stmt := topS 50
theorem sc__law_few : FnScope ["told", "one"] ["told"] (defScope s__law_few) := ⟨rfl, rfl, rfl, by decide +kernel, rfl, by decide +kernel, by decide +kernel⟩
theorem n__law_few_told : NmF (defScope s__law_few) ["told", "one"] 0 "told" := ⟨rfl, (.inl (by kernel_rfl)), by decide, by decide⟩
theorem g__law_few_len : (defScope s__law_few).names.lookup (("len" : Str)) = some .globalImplicit := by kernel_rfl
theorem w__law_few (c : Fx K mg base TT) : DOk PR w K mg base 1 "_law_few" ["told"] (spF TT m__law_few) := by
  refine ok_pure (N := ["told", "one"]) (k := 0) c.f__law_few sc__law_few (fun _ _ _ _ _ _ us hl => match us, hl with | [_], _ => rfl) (mb := fun ds => match ds with | [d959] => b__law_few d959 | _ => fail) ?_ ?_
  · intro ds r h
    match ds, h with
    | [_], h => exact ⟨rfl, h⟩
  · intro ds hl
    match ds, hl with
    | [d959], _ =>
      intro cdv A outer s F E hcd hr
      show JS _ _ _ _ (b__law_few d959) _
      unfold b__law_few
      exact (js_nf [.val d959, .unk] rfl (js_ret0 (je_if (jt_cmp (ob_eq hr.units) (JE.v (je_ix (JE.v (je_nm n__law_few_told rfl)) je_int)) (JE.v je_str) (by rfl)) je_int (je_callB cd_len g__law_few_len c.n_len (by decide +kernel) (jav_cons (JE.v (je_lc rfl sc__law_few.nd (ji_seq (je_ix (JE.v (je_nm n__law_few_told rfl)) je_int)) (blk (own := [("one", 1)]) (by kernel_rfl)) (fun _ _ _ _ _ => (pgd_n 1 sc__law_few.nd rfl (.inl rfl))) (ji_n fun d968 => .cond (fun _ _ _ _ _ => jt_nf [.val d959, .val d968] rfl (jt_cmp ob_isnt (JE.v (je_name 1 rfl (.inl rfl) rfl)) (JE.v je_non) (by rfl))) (fun _ _ _ _ _ => je_nf [.val d959, .val d968] rfl (je_name 1 rfl (.inl rfl) rfl))))) fun x977 => jav_nil)))))
abbrev s__law_own_few : Stmt := topS 51
theorem sc__law_own_few : FnScope ["strands", "length", "band", "rows", "best", "strand", "longer", "row", "few", "begin", "one"] ["strands", "length", "band"] (defScope s__law_own_few) := ⟨rfl, rfl, rfl, by decide +kernel, rfl, by decide +kernel, by decide +kernel⟩
theorem n__law_own_few_best : NmF (defScope s__law_own_few) ["strands", "length", "band", "rows", "best", "strand", "longer", "row", "few", "begin", "one"] 4 "best" := ⟨rfl, (.inl (by kernel_rfl)), by decide, by decide⟩
theorem n__law_own_few_few : NmF (defScope s__law_own_few) ["strands", "length", "band", "rows", "best", "strand", "longer", "row", "few", "begin", "one"] 8 "few" := ⟨rfl, (.inl (by kernel_rfl)), by decide, by decide⟩
theorem n__law_own_few_length : NmF (defScope s__law_own_few) ["strands", "length", "band", "rows", "best", "strand", "longer", "row", "few", "begin", "one"] 1 "length" := ⟨rfl, (.inl (by kernel_rfl)), by decide, by decide⟩
theorem n__law_own_few_longer : NmF (defScope s__law_own_few) ["strands", "length", "band", "rows", "best", "strand", "longer", "row", "few", "begin", "one"] 6 "longer" := ⟨rfl, (.inl (by kernel_rfl)), by decide, by decide⟩
theorem n__law_own_few_row : NmF (defScope s__law_own_few) ["strands", "length", "band", "rows", "best", "strand", "longer", "row", "few", "begin", "one"] 7 "row" := ⟨rfl, (.inr (.inl (by kernel_rfl))), by decide, by decide⟩
theorem n__law_own_few_rows : NmF (defScope s__law_own_few) ["strands", "length", "band", "rows", "best", "strand", "longer", "row", "few", "begin", "one"] 3 "rows" := ⟨rfl, (.inl (by kernel_rfl)), by decide, by decide⟩
theorem n__law_own_few_strands : NmF (defScope s__law_own_few) ["strands", "length", "band", "rows", "best", "strand", "longer", "row", "few", "begin", "one"] 0 "strands" := ⟨rfl, (.inl (by kernel_rfl)), by decide, by decide⟩
theorem g__law_own_few__law_sums : (defScope s__law_own_few).names.lookup (("_law_sums" : Str)) = some .globalImplicit := by kernel_rfl
theorem g__law_own_few_all : (defScope s__law_own_few).names.lookup (("all" : Str)) = some .globalImplicit := by kernel_rfl
theorem g__law_own_few_len : (defScope s__law_own_few).names.lookup (("len" : Str)) = some .globalImplicit := by kernel_rfl
theorem w__law_own_few (c : Fx K mg base TT) : DOk PR w K mg base 2 "_law_own_few" ["strands", "length", "band"] (spF TT m__law_own_few) := by
  refine ok_pure (N := ["strands", "length", "band", "rows", "best", "strand", "longer", "row", "few", "begin", "one"]) (k := 1) c.f__law_own_few sc__law_own_few (fun _ _ _ _ _ _ us hl => match us, hl with | [_, _, _], _ => rfl) (mb := fun ds => match ds with | [d979, d980, d981] => b__law_own_few d979 d980 d981 | _ => fail) ?_ ?_
  · intro ds r h
    match ds, h with
    | [_, _, _], h => exact ⟨rfl, h⟩
  · intro ds hl
    match ds, hl with
    | [d979, d980, d981], _ =>
      intro cdv A outer s F E hcd hr
      show JS _ _ _ _ (b__law_own_few d979 d980 d981) _
      unfold b__law_own_few
      exact (js_nf [.val d979, .val d980, .val d981, .unk, .unk, .unk, .unk, .unk, .unk, .unk, .unk] rfl (js_par2 (i := 3) (j := 4) rfl sc__law_own_few.nd rfl rfl (by decide) rfl rfl (JE.x (je_lst (ja_cons (je_tup ja_nil) fun x982 => ja_nil))) (JE.x je_int) fun d983 d984 => (js_nf [.val d979, .val d980, .val d981, .val d983, .val d984, .unk, .unk, .unk, .unk, .unk, .unk] rfl (js_forK (r := (fun d => d)) (emb := (fun a : D => [.val d979, .val d980, .val d981, .val a, .val d984, .unk, .unk, .unk, .unk, .unk, .unk])) (a0 := d983) PassesOwn.never rfl (ji_seq (je_nm n__law_own_few_strands rfl)) (pgd_n 5 sc__law_own_few.nd rfl (.inl rfl)) (.e (.e (.e (.e (.e (.u (.u (.u (.u (.u (.u .nil))))))))))) (fun a986 => ji_n fun d987 => (js_nf [.val d979, .val d980, .val d981, .val a986, .val d984, .val d987, .unk, .unk, .unk, .unk, .unk] rfl (js_asg (i := 6) sc__law_own_few.nd rfl (.inl rfl) (jn_lst ja_nil) fun d988 => (js_nf [.val d979, .val d980, .val d981, .val a986, .val d984, .val d987, .own d988, .unk, .unk, .unk, .unk] rfl (js_for (r := Fl.rt) (emb := (fun a : (List D) => [.val d979, .val d980, .val d981, .val a986, .val d984, .val d987, .own a, .unk, .unk, .unk, .unk])) (a0 := d988) PassesOwn.never rfl (ji_seq (je_nm n__law_own_few_rows rfl)) (pgd_n 7 sc__law_own_few.nd rfl (.inr rfl)) (.e (.e (.e (.e (.e (.e (.e (.u (.u (.u (.u .nil))))))))))) (fun a990 => ji_n fun d991 => (js_nf [.val d979, .val d980, .val d981, .val a986, .val d984, .val d987, .own a990, .val d991, .unk, .unk, .unk] rfl (js_extend (i := 6) rfl (.inl rfl) rfl (je_lc rfl sc__law_own_few.nd (ji_seq (je_bin od_add (je_lst (ja_cons je_non fun x992 => ja_nil)) (je_listRg rfl (je_nm n__law_own_few_length rfl) rfl c.n_list rfl c.n_range))) (blk (own := [("begin", 9)]) (by kernel_rfl)) (fun _ _ _ _ _ => (pgd_n 9 sc__law_own_few.nd rfl (.inl rfl))) (ji_n fun d997 => .plain (fun _ _ _ _ _ => je_nf [.val d979, .val d980, .val d981, .val a986, .val d984, .val d987, .own a990, .val d991, .unk, .val d997, .unk] rfl (je_bin od_add (je_name 7 rfl (.inr (.inl rfl)) rfl) (je_tup (ja_cons (je_name 9 rfl (.inl rfl) rfl) fun x998 => ja_nil)))))) fun ys1006 => (js_end rfl (.e (.e (.e (.e (.e (.e (.e (.u (.u (.u (.u .nil))))))))))))))) (fun a1008 => (js_nf [.val d979, .val d980, .val d981, .val a986, .val d984, .val d987, .own a1008, .unk, .unk, .unk, .unk] rfl (js_freeze (i := 6) rfl (js_nf [.val d979, .val d980, .val d981, .val a986, .val d984, .val d987, .val (.list a1008), .unk, .unk, .unk, .unk] rfl (js_asg (i := 3) sc__law_own_few.nd rfl (.inl rfl) (JE.x (je_nm n__law_own_few_longer rfl)) fun d1009 => (js_end rfl (.e (.e (.e (.e (.e (.u (.u (.u (.u (.u (.u .nil))))))))))))))))) fun _ => rfl))))) (fun a1012 => (js_nf [.val d979, .val d980, .val d981, .val a1012, .val d984, .unk, .unk, .unk, .unk, .unk, .unk] rfl (js_for (r := (fun d => d)) (emb := (fun a : D => [.val d979, .val d980, .val d981, .val a1012, .val a, .unk, .unk, .unk, .unk, .unk, .unk])) (a0 := d984) PassesOwn.never rfl (ji_seq (je_nm n__law_own_few_rows rfl)) (pgd_n 7 sc__law_own_few.nd rfl (.inr rfl)) (.e (.e (.e (.e (.e (.u (.u (.u (.u (.u (.u .nil))))))))))) (fun a1014 => ji_n fun d1015 => (js_nf [.val d979, .val d980, .val d981, .val a1012, .val a1014, .unk, .unk, .val d1015, .unk, .unk, .unk] rfl (js_asg (i := 8) sc__law_own_few.nd rfl (.inl rfl) (JE.x (je_callB cd_len g__law_own_few_len c.n_len (by decide +kernel) (jav_cons (JE.v (je_lc rfl sc__law_own_few.nd (ji_seq (je_nm n__law_own_few_row rfl)) (blk (own := [("one", 10)]) (by kernel_rfl)) (fun _ _ _ _ _ => (pgd_n 10 sc__law_own_few.nd rfl (.inl rfl))) (ji_n fun d1017 => .cond (fun _ _ _ _ _ => jt_nf [.val d979, .val d980, .val d981, .val a1012, .val a1014, .unk, .unk, .val d1015, .unk, .unk, .val d1017] rfl (jt_cmp ob_isnt (JE.v (je_name 10 rfl (.inl rfl) rfl)) (JE.v je_non) (by rfl))) (fun _ _ _ _ _ => je_nf [.val d979, .val d980, .val d981, .val a1012, .val a1014, .unk, .unk, .val d1015, .unk, .unk, .val d1017] rfl (je_name 10 rfl (.inl rfl) rfl))))) fun x1026 => jav_nil))) fun d1027 => (js_nf [.val d979, .val d980, .val d981, .val a1012, .val a1014, .unk, .unk, .val d1015, .val d1027, .unk, .unk] rfl (js_ifjoin (emb := (fun a : D => [.val d979, .val d980, .val d981, .val a1012, .val a, .unk, .unk, .val d1015, .val d1027, .unk, .unk])) (JW.t (jw_and (jt_cmp ob_lt (JE.v (je_nm n__law_own_few_few rfl)) (JE.v (je_nm n__law_own_few_best rfl)) (by rfl)) (jw_and1 (jt_val (je_callB (cd_all rfl) g__law_own_few_all c.n_all (by decide +kernel) (jav_cons (JE.v (je_lc rfl sc__law_own_few.nd (ji_seq (je_callO (w__law_sums c) hr (by decide) g__law_own_few__law_sums (ja_cons (je_nm n__law_own_few_strands rfl) fun x1031 => (ja_cons (je_nm n__law_own_few_length rfl) fun x1032 => (ja_cons (je_nm n__law_own_few_row rfl) fun x1033 => ja_nil))))) (blk (own := [("one", 10)]) (by kernel_rfl)) (fun _ _ _ _ _ => (pgd_n 10 sc__law_own_few.nd rfl (.inl rfl))) (ji_n fun d1035 => .plain (fun _ _ _ _ _ => je_nf [.val d979, .val d980, .val d981, .val a1012, .val a1014, .unk, .unk, .val d1015, .val d1027, .unk, .val d1035] rfl (je_chain ob_le ob_le (JE.v (je_ix (JE.v (je_name 2 rfl (.inr (.inl rfl)) rfl)) je_int)) (JE.v (je_name 10 rfl (.inl rfl) rfl)) (JE.v (je_ix (JE.v (je_name 2 rfl (.inr (.inl rfl)) rfl)) je_int))))))) fun x1049 => jav_nil)))))) (js_nf [.val d979, .val d980, .val d981, .val a1012, .val a1014, .unk, .unk, .val d1015, .val d1027, .unk, .unk] rfl (js_asg (i := 4) sc__law_own_few.nd rfl (.inl rfl) (JE.x (je_nm n__law_own_few_few rfl)) fun d1053 => (js_end rfl (.e (.e (.e (.e (.e (.u (.u (.e (.e (.u (.u .nil)))))))))))))) (js_end rfl (.e (.e (.e (.e (.e (.u (.u (.e (.e (.u (.u .nil)))))))))))) fun a1054 => (js_end rfl (.e (.e (.e (.e (.e (.u (.u (.u (.u (.u (.u .nil))))))))))))))))) (fun a1056 => (js_nf [.val d979, .val d980, .val d981, .val a1012, .val a1056, .unk, .unk, .unk, .unk, .unk, .unk] rfl (js_ret0 (je_nm n__law_own_few_best rfl)))) fun _ => rfl))) fun _ => rfl))))
abbrev s__law_are_laid_right : Stmt := topS 52
theorem sc__law_are_laid_right : FnScope ["pot", "many", "length", "strands", "low", "band", "told", "few", "mixed", "more", "strand", "begin", "drawn", "is_so", "lap", "one"] ["pot"] (defScope s__law_are_laid_right) := ⟨rfl, rfl, rfl, by decide +kernel, rfl, by decide +kernel, by decide +kernel⟩
theorem n__law_are_laid_right_band : NmF (defScope s__law_are_laid_right) ["pot", "many", "length", "strands", "low", "band", "told", "few", "mixed", "more", "strand", "begin", "drawn", "is_so", "lap", "one"] 5 "band" := ⟨rfl, (.inr (.inl (by kernel_rfl))), by decide, by decide⟩
theorem n__law_are_laid_right_begin : NmF (defScope s__law_are_laid_right) ["pot", "many", "length", "strands", "low", "band", "told", "few", "mixed", "more", "strand", "begin", "drawn", "is_so", "lap", "one"] 11 "begin" := ⟨rfl, (.inl (by kernel_rfl)), by decide, by decide⟩
theorem n__law_are_laid_right_drawn : NmF (defScope s__law_are_laid_right) ["pot", "many", "length", "strands", "low", "band", "told", "few", "mixed", "more", "strand", "begin", "drawn", "is_so", "lap", "one"] 12 "drawn" := ⟨rfl, (.inl (by kernel_rfl)), by decide, by decide⟩
theorem n__law_are_laid_right_few : NmF (defScope s__law_are_laid_right) ["pot", "many", "length", "strands", "low", "band", "told", "few", "mixed", "more", "strand", "begin", "drawn", "is_so", "lap", "one"] 7 "few" := ⟨rfl, (.inl (by kernel_rfl)), by decide, by decide⟩
theorem n__law_are_laid_right_is_so : NmF (defScope s__law_are_laid_right) ["pot", "many", "length", "strands", "low", "band", "told", "few", "mixed", "more", "strand", "begin", "drawn", "is_so", "lap", "one"] 13 "is_so" := ⟨rfl, (.inl (by kernel_rfl)), by decide, by decide⟩
theorem n__law_are_laid_right_length : NmF (defScope s__law_are_laid_right) ["pot", "many", "length", "strands", "low", "band", "told", "few", "mixed", "more", "strand", "begin", "drawn", "is_so", "lap", "one"] 2 "length" := ⟨rfl, (.inr (.inl (by kernel_rfl))), by decide, by decide⟩
theorem n__law_are_laid_right_low : NmF (defScope s__law_are_laid_right) ["pot", "many", "length", "strands", "low", "band", "told", "few", "mixed", "more", "strand", "begin", "drawn", "is_so", "lap", "one"] 4 "low" := ⟨rfl, (.inl (by kernel_rfl)), by decide, by decide⟩
theorem n__law_are_laid_right_many : NmF (defScope s__law_are_laid_right) ["pot", "many", "length", "strands", "low", "band", "told", "few", "mixed", "more", "strand", "begin", "drawn", "is_so", "lap", "one"] 1 "many" := ⟨rfl, (.inl (by kernel_rfl)), by decide, by decide⟩
theorem n__law_are_laid_right_mixed : NmF (defScope s__law_are_laid_right) ["pot", "many", "length", "strands", "low", "band", "told", "few", "mixed", "more", "strand", "begin", "drawn", "is_so", "lap", "one"] 8 "mixed" := ⟨rfl, (.inl (by kernel_rfl)), by decide, by decide⟩
theorem n__law_are_laid_right_more : NmF (defScope s__law_are_laid_right) ["pot", "many", "length", "strands", "low", "band", "told", "few", "mixed", "more", "strand", "begin", "drawn", "is_so", "lap", "one"] 9 "more" := ⟨rfl, (.inl (by kernel_rfl)), by decide, by decide⟩
theorem n__law_are_laid_right_strand : NmF (defScope s__law_are_laid_right) ["pot", "many", "length", "strands", "low", "band", "told", "few", "mixed", "more", "strand", "begin", "drawn", "is_so", "lap", "one"] 10 "strand" := ⟨rfl, (.inl (by kernel_rfl)), by decide, by decide⟩
theorem n__law_are_laid_right_strands : NmF (defScope s__law_are_laid_right) ["pot", "many", "length", "strands", "low", "band", "told", "few", "mixed", "more", "strand", "begin", "drawn", "is_so", "lap", "one"] 3 "strands" := ⟨rfl, (.inl (by kernel_rfl)), by decide, by decide⟩
theorem n__law_are_laid_right_told : NmF (defScope s__law_are_laid_right) ["pot", "many", "length", "strands", "low", "band", "told", "few", "mixed", "more", "strand", "begin", "drawn", "is_so", "lap", "one"] 6 "told" := ⟨rfl, (.inl (by kernel_rfl)), by decide, by decide⟩
theorem g__law_are_laid_right__law_few : (defScope s__law_are_laid_right).names.lookup (("_law_few" : Str)) = some .globalImplicit := by kernel_rfl
theorem g__law_are_laid_right__law_own_few : (defScope s__law_are_laid_right).names.lookup (("_law_own_few" : Str)) = some .globalImplicit := by kernel_rfl
theorem g__law_are_laid_right__law_some : (defScope s__law_are_laid_right).names.lookup (("_law_some" : Str)) = some .globalImplicit := by kernel_rfl
theorem g__law_are_laid_right__law_sums : (defScope s__law_are_laid_right).names.lookup (("_law_sums" : Str)) = some .globalImplicit := by kernel_rfl
theorem g__law_are_laid_right__law_take : (defScope s__law_are_laid_right).names.lookup (("_law_take" : Str)) = some .globalImplicit := by kernel_rfl
theorem g__law_are_laid_right_all : (defScope s__law_are_laid_right).names.lookup (("all" : Str)) = some .globalImplicit := by kernel_rfl
theorem g__law_are_laid_right_int : (defScope s__law_are_laid_right).names.lookup (("int" : Str)) = some .globalImplicit := by kernel_rfl
theorem g__law_are_laid_right_least_laid : (defScope s__law_are_laid_right).names.lookup (("least_laid" : Str)) = some .globalImplicit := by kernel_rfl
theorem g__law_are_laid_right_len : (defScope s__law_are_laid_right).names.lookup (("len" : Str)) = some .globalImplicit := by kernel_rfl
theorem g__law_are_laid_right_list : (defScope s__law_are_laid_right).names.lookup (("list" : Str)) = some .globalImplicit := by kernel_rfl
theorem g__law_are_laid_right_max : (defScope s__law_are_laid_right).names.lookup (("max" : Str)) = some .globalImplicit := by kernel_rfl
theorem g__law_are_laid_right_range : (defScope s__law_are_laid_right).names.lookup (("range" : Str)) = some .globalImplicit := by kernel_rfl
theorem g__law_are_laid_right_shows_laid : (defScope s__law_are_laid_right).names.lookup (("shows_laid" : Str)) = some .globalImplicit := by kernel_rfl
theorem g__law_are_laid_right_tuple : (defScope s__law_are_laid_right).names.lookup (("tuple" : Str)) = some .globalImplicit := by kernel_rfl
theorem g__law_are_laid_right_zip : (defScope s__law_are_laid_right).names.lookup (("zip" : Str)) = some .globalImplicit := by kernel_rfl
theorem w__law_are_laid_right (c : Fx K mg base TT) : DOk PR w K mg base 8 "_law_are_laid_right" ["pot"] (spP TT m__law_are_laid_right) := by
  refine ok_pot (N := ["pot", "many", "length", "strands", "low", "band", "told", "few", "mixed", "more", "strand", "begin", "drawn", "is_so", "lap", "one"]) (k := 7) c.f__law_are_laid_right sc__law_are_laid_right (fun _ _ _ _ _ _ us hl => match us, hl with | [_], _ => rfl) ?_ ?_
  · intro ds s r s' h
    match ds, h with
    | [], _ => rfl
  · intro ds p hl
    match ds, hl with
    | [], _ =>
      intro cdv A outer s F E hcd hr
      show JS _ _ _ _ (b__law_are_laid_right) _
      unfold b__law_are_laid_right
      exact (js_nf [.pot, .unk, .unk, .unk, .unk, .unk, .unk, .unk, .unk, .unk, .unk, .unk, .unk, .unk, .unk, .unk] rfl (js_unpack (je_tup (ja_cons (je_bin od_add je_int (je_callTy cd_int g__law_are_laid_right_int c.n_int (by decide +kernel) (jav_cons (JE.v (je_callPO (i := 0) (w__law_take c) hr (by decide) g__law_are_laid_right__law_take rfl (.inr (.inl rfl)) rfl (ja_cons je_int fun x1059 => ja_nil))) fun x1060 => jav_nil))) fun x1063 => (ja_cons (je_bin od_add je_int (je_callTy cd_int g__law_are_laid_right_int c.n_int (by decide +kernel) (jav_cons (JE.v (je_callPO (i := 0) (w__law_take c) hr (by decide) g__law_are_laid_right__law_take rfl (.inr (.inl rfl)) rfl (ja_cons je_int fun x1064 => ja_nil))) fun x1065 => jav_nil))) fun x1068 => ja_nil))) (pgd_2 rfl (pgd_n 1 sc__law_are_laid_right.nd rfl (.inl rfl)) (pgd_n 2 sc__law_are_laid_right.nd rfl (.inr rfl))) (ji_2 fun d1069 d1070 => (js_nf [.pot, .val d1069, .val d1070, .unk, .unk, .unk, .unk, .unk, .unk, .unk, .unk, .unk, .unk, .unk, .unk, .unk] rfl (js_asg (i := 3) sc__law_are_laid_right.nd rfl (.inl rfl) (JE.x (je_callTy cd_tuple g__law_are_laid_right_tuple c.n_tuple (by decide +kernel) (jav_cons (JE.v (je_lc rfl sc__law_are_laid_right.nd (ji_range1 g__law_are_laid_right_range c.n_range (ja_cons (je_nm n__law_are_laid_right_many rfl) fun x1071 => ja_nil)) (blk (own := [("lap", 14)]) (by kernel_rfl)) (fun _ _ _ _ _ => (pgd_n 14 sc__law_are_laid_right.nd rfl (.inl rfl))) (ji_n fun d1072 => .plain (fun _ _ _ _ _ => je_nf [.pot, .val d1069, .val d1070, .unk, .unk, .unk, .unk, .unk, .unk, .unk, .unk, .unk, .unk, .unk, .val d1072, .unk] rfl (je_callPO (i := 0) (w__law_strand c) hr (by decide) rfl rfl (.inr (.inl rfl)) rfl (ja_cons je_int fun x1073 => (ja_cons (je_callPO (i := 0) (w__law_of c) hr (by decide) rfl rfl (.inr (.inl rfl)) rfl (ja_cons (je_lst (ja_cons je_int fun x1074 => (ja_cons je_int fun x1075 => (ja_cons je_int fun x1076 => ja_nil)))) fun x1077 => ja_nil)) fun x1078 => ja_nil))))))) fun x1083 => jav_nil))) fun d1084 => (js_nf [.pot, .val d1069, .val d1070, .val d1084, .unk, .unk, .unk, .unk, .unk, .unk, .unk, .unk, .unk, .unk, .unk, .unk] rfl (js_asg (i := 4) sc__law_are_laid_right.nd rfl (.inl rfl) (JE.x (je_callTy cd_int g__law_are_laid_right_int c.n_int (by decide +kernel) (jav_cons (JE.v (je_callPO (i := 0) (w__law_take c) hr (by decide) g__law_are_laid_right__law_take rfl (.inr (.inl rfl)) rfl (ja_cons je_int fun x1085 => ja_nil))) fun x1086 => jav_nil))) fun d1087 => (js_nf [.pot, .val d1069, .val d1070, .val d1084, .val d1087, .unk, .unk, .unk, .unk, .unk, .unk, .unk, .unk, .unk, .unk, .unk] rfl (js_asg (i := 5) sc__law_are_laid_right.nd rfl (.inr rfl) (JE.x (je_tup (ja_cons (je_nm n__law_are_laid_right_low rfl) fun x1088 => (ja_cons (je_bin od_add (je_nm n__law_are_laid_right_low rfl) (je_callTy cd_int g__law_are_laid_right_int c.n_int (by decide +kernel) (jav_cons (JE.v (je_callPO (i := 0) (w__law_take c) hr (by decide) g__law_are_laid_right__law_take rfl (.inr (.inl rfl)) rfl (ja_cons je_int fun x1089 => ja_nil))) fun x1090 => jav_nil))) fun x1093 => ja_nil)))) fun d1094 => (js_nf [.pot, .val d1069, .val d1070, .val d1084, .val d1087, .val d1094, .unk, .unk, .unk, .unk, .unk, .unk, .unk, .unk, .unk, .unk] rfl (js_asg (i := 6) sc__law_are_laid_right.nd rfl (.inl rfl) (JE.x (je_callO (w_least_laid c) hr (by decide) g__law_are_laid_right_least_laid (ja_cons (je_nm n__law_are_laid_right_strands rfl) fun x1095 => (ja_cons (je_nm n__law_are_laid_right_length rfl) fun x1096 => (ja_cons (je_nm n__law_are_laid_right_band rfl) fun x1097 => ja_nil))))) fun d1098 => (js_nf [.pot, .val d1069, .val d1070, .val d1084, .val d1087, .val d1094, .val d1098, .unk, .unk, .unk, .unk, .unk, .unk, .unk, .unk, .unk] rfl (js_ifret (jt_cmp ob_isnt (JE.v (je_callO (w_shows_laid c) hr (by decide) g__law_are_laid_right_shows_laid (ja_cons (je_nm n__law_are_laid_right_strands rfl) fun x1099 => (ja_cons (je_nm n__law_are_laid_right_length rfl) fun x1100 => (ja_cons (je_nm n__law_are_laid_right_band rfl) fun x1101 => (ja_cons (je_nm n__law_are_laid_right_told rfl) fun x1102 => ja_nil)))))) (JE.v je_bl) (by rfl)) (js_nf [.pot, .val d1069, .val d1070, .val d1084, .val d1087, .val d1094, .val d1098, .unk, .unk, .unk, .unk, .unk, .unk, .unk, .unk, .unk] rfl (js_ret0 je_bl)) (js_nf [.pot, .val d1069, .val d1070, .val d1084, .val d1087, .val d1094, .val d1098, .unk, .unk, .unk, .unk, .unk, .unk, .unk, .unk, .unk] rfl (js_ifret (JW.t (jw_and (jt_cmp (ob_eq hr.units) (JE.v (je_ix (JE.v (je_nm n__law_are_laid_right_told rfl)) je_int)) (JE.v je_str) (by rfl)) (jw_and1 (jt_not (jt_val (je_callB (cd_all rfl) g__law_are_laid_right_all c.n_all (by decide +kernel) (jav_cons (JE.v (je_lc rfl sc__law_are_laid_right.nd (ji_seq (je_callO (w__law_sums c) hr (by decide) g__law_are_laid_right__law_sums (ja_cons (je_nm n__law_are_laid_right_strands rfl) fun x1112 => (ja_cons (je_nm n__law_are_laid_right_length rfl) fun x1113 => (ja_cons (je_ix (JE.v (je_nm n__law_are_laid_right_told rfl)) je_int) fun x1116 => ja_nil))))) (blk (own := [("one", 15)]) (by kernel_rfl)) (fun _ _ _ _ _ => (pgd_n 15 sc__law_are_laid_right.nd rfl (.inl rfl))) (ji_n fun d1118 => .plain (fun _ _ _ _ _ => je_nf [.pot, .val d1069, .val d1070, .val d1084, .val d1087, .val d1094, .val d1098, .unk, .unk, .unk, .unk, .unk, .unk, .unk, .unk, .val d1118] rfl (je_chain ob_le ob_le (JE.v (je_ix (JE.v (je_name 5 rfl (.inr (.inl rfl)) rfl)) je_int)) (JE.v (je_name 15 rfl (.inl rfl) rfl)) (JE.v (je_ix (JE.v (je_name 5 rfl (.inr (.inl rfl)) rfl)) je_int))))))) fun x1132 => jav_nil))))))) (js_nf [.pot, .val d1069, .val d1070, .val d1084, .val d1087, .val d1094, .val d1098, .unk, .unk, .unk, .unk, .unk, .unk, .unk, .unk, .unk] rfl (js_ret0 je_bl)) (js_nf [.pot, .val d1069, .val d1070, .val d1084, .val d1087, .val d1094, .val d1098, .unk, .unk, .unk, .unk, .unk, .unk, .unk, .unk, .unk] rfl (js_asg (i := 7) sc__law_are_laid_right.nd rfl (.inl rfl) (JE.x (je_callO (w__law_few c) hr (by decide) g__law_are_laid_right__law_few (ja_cons (je_nm n__law_are_laid_right_told rfl) fun x1137 => ja_nil))) fun d1138 => (js_nf [.pot, .val d1069, .val d1070, .val d1084, .val d1087, .val d1094, .val d1098, .val d1138, .unk, .unk, .unk, .unk, .unk, .unk, .unk, .unk] rfl (js_ifret (jt_cmp (ob_ne hr.units) (JE.v (je_nm n__law_are_laid_right_few rfl)) (JE.v (je_callO (w__law_own_few c) hr (by decide) g__law_are_laid_right__law_own_few (ja_cons (je_nm n__law_are_laid_right_strands rfl) fun x1139 => (ja_cons (je_nm n__law_are_laid_right_length rfl) fun x1140 => (ja_cons (je_nm n__law_are_laid_right_band rfl) fun x1141 => ja_nil))))) (by rfl)) (js_nf [.pot, .val d1069, .val d1070, .val d1084, .val d1087, .val d1094, .val d1098, .val d1138, .unk, .unk, .unk, .unk, .unk, .unk, .unk, .unk] rfl (js_ret0 je_bl)) (js_nf [.pot, .val d1069, .val d1070, .val d1084, .val d1087, .val d1094, .val d1098, .val d1138, .unk, .unk, .unk, .unk, .unk, .unk, .unk, .unk] rfl (js_ifret (jt_cmp ob_gt (JE.v (je_callO (w__law_few c) hr (by decide) g__law_are_laid_right__law_few (ja_cons (je_callO (w_least_laid c) hr (by decide) g__law_are_laid_right_least_laid (ja_cons (je_nm n__law_are_laid_right_strands rfl) fun x1146 => (ja_cons (je_nm n__law_are_laid_right_length rfl) fun x1147 => (ja_cons (je_tup (ja_cons (je_callB (cd_max2 rfl) g__law_are_laid_right_max c.n_max (by decide +kernel) (jav_cons (JE.v je_int) fun x1148 => (jav_cons (JE.v (je_bin od_sub (je_ix (JE.v (je_nm n__law_are_laid_right_band rfl)) je_int) je_int)) fun x1153 => jav_nil))) fun x1154 => (ja_cons (je_bin od_add (je_ix (JE.v (je_nm n__law_are_laid_right_band rfl)) je_int) je_int) fun x1159 => ja_nil))) fun x1160 => ja_nil)))) fun x1161 => ja_nil))) (JE.v (je_nm n__law_are_laid_right_few rfl)) (by rfl)) (js_nf [.pot, .val d1069, .val d1070, .val d1084, .val d1087, .val d1094, .val d1098, .val d1138, .unk, .unk, .unk, .unk, .unk, .unk, .unk, .unk] rfl (js_ret0 je_bl)) (js_nf [.pot, .val d1069, .val d1070, .val d1084, .val d1087, .val d1094, .val d1098, .val d1138, .unk, .unk, .unk, .unk, .unk, .unk, .unk, .unk] rfl (js_asg (i := 8) sc__law_are_laid_right.nd rfl (.inl rfl) (JE.x (je_callTy cd_tuple g__law_are_laid_right_tuple c.n_tuple (by decide +kernel) (jav_cons (JE.v (je_callPO (i := 0) (w__law_some c) hr (by decide) g__law_are_laid_right__law_some rfl (.inr (.inl rfl)) rfl (ja_cons (je_callTy cd_list g__law_are_laid_right_list c.n_list (by decide +kernel) (jav_cons (JE.v (je_nm n__law_are_laid_right_strands rfl)) fun x1166 => jav_nil)) fun x1167 => (ja_cons (je_nm n__law_are_laid_right_many rfl) fun x1168 => ja_nil)))) fun x1169 => jav_nil))) fun d1170 => (js_nf [.pot, .val d1069, .val d1070, .val d1084, .val d1087, .val d1094, .val d1098, .val d1138, .val d1170, .unk, .unk, .unk, .unk, .unk, .unk, .unk] rfl (js_ifret (JW.t (jw_or (jt_cmp (ob_ne hr.units) (JE.v (je_callO (w__law_few c) hr (by decide) g__law_are_laid_right__law_few (ja_cons (je_callO (w_least_laid c) hr (by decide) g__law_are_laid_right_least_laid (ja_cons (je_nm n__law_are_laid_right_mixed rfl) fun x1171 => (ja_cons (je_nm n__law_are_laid_right_length rfl) fun x1172 => (ja_cons (je_nm n__law_are_laid_right_band rfl) fun x1173 => ja_nil)))) fun x1174 => ja_nil))) (JE.v (je_nm n__law_are_laid_right_few rfl)) (by rfl)) (jw_or1 (jt_cmp ob_lt (JE.v (je_callO (w__law_few c) hr (by decide) g__law_are_laid_right__law_few (ja_cons (je_callO (w_least_laid c) hr (by decide) g__law_are_laid_right_least_laid (ja_cons (je_slice (JE.v (je_nm n__law_are_laid_right_strands rfl)) jo_none (jo_some (je_neg je_int))) fun x1184 => (ja_cons (je_nm n__law_are_laid_right_length rfl) fun x1185 => (ja_cons (je_nm n__law_are_laid_right_band rfl) fun x1186 => ja_nil)))) fun x1187 => ja_nil))) (JE.v (je_nm n__law_are_laid_right_few rfl)) (by rfl))))) (js_nf [.pot, .val d1069, .val d1070, .val d1084, .val d1087, .val d1094, .val d1098, .val d1138, .val d1170, .unk, .unk, .unk, .unk, .unk, .unk, .unk] rfl (js_ret0 je_bl)) (js_nf [.pot, .val d1069, .val d1070, .val d1084, .val d1087, .val d1094, .val d1098, .val d1138, .val d1170, .unk, .unk, .unk, .unk, .unk, .unk, .unk] rfl (js_ifK (emb := (fun a : Unit => [.pot, .val d1069, .val d1070, .val d1084, .val d1087, .val d1094, .val d1098, .val d1138, .val d1170, .unk, .unk, .unk, .unk, .unk, .unk, .unk])) (jt_cmp (ob_eq hr.units) (JE.v (je_ix (JE.v (je_nm n__law_are_laid_right_told rfl)) je_int)) (JE.v je_str) (by rfl)) (js_nf [.pot, .val d1069, .val d1070, .val d1084, .val d1087, .val d1094, .val d1098, .val d1138, .val d1170, .unk, .unk, .unk, .unk, .unk, .unk, .unk] rfl (js_asg (i := 9) sc__law_are_laid_right.nd rfl (.inl rfl) (jn_lst ja_nil) fun d1199 => (js_nf [.pot, .val d1069, .val d1070, .val d1084, .val d1087, .val d1094, .val d1098, .val d1138, .val d1170, .own d1199, .unk, .unk, .unk, .unk, .unk, .unk] rfl (js_for (r := Fl.rt) (emb := (fun a : (List D) => [.pot, .val d1069, .val d1070, .val d1084, .val d1087, .val d1094, .val d1098, .val d1138, .val d1170, .own a, .unk, .unk, .unk, .unk, .unk, .unk])) (a0 := d1199) PassesOwn.never rfl (ji_zipA g__law_are_laid_right_zip c.n_zip (ja_cons (je_nm n__law_are_laid_right_strands rfl) fun x1200 => (ja_cons (je_ix (JE.v (je_nm n__law_are_laid_right_told rfl)) je_int) fun x1203 => ja_nil))) (pgd_2 rfl (pgd_n 10 sc__law_are_laid_right.nd rfl (.inl rfl)) (pgd_n 11 sc__law_are_laid_right.nd rfl (.inl rfl))) (.e (.e (.e (.e (.e (.e (.e (.e (.e (.e (.u (.u (.u (.u (.u (.u .nil)))))))))))))))) (fun a1204 => ji_2 fun d1205 d1206 => (js_nf [.pot, .val d1069, .val d1070, .val d1084, .val d1087, .val d1094, .val d1098, .val d1138, .val d1170, .own a1204, .val d1205, .val d1206, .unk, .unk, .unk, .unk] rfl (js_append (i := 9) rfl (.inl rfl) rfl (je_if (JW.t (jw_or (jt_cmp ob_is (JE.v (je_nm n__law_are_laid_right_begin rfl)) (JE.v je_non) (by rfl)) (jw_or1 (jt_cmp ob_lt (JE.v (je_bin od_add (je_nm n__law_are_laid_right_begin rfl) (je_callB cd_len g__law_are_laid_right_len c.n_len (by decide +kernel) (jav_cons (JE.v (je_nm n__law_are_laid_right_strand rfl)) fun x1210 => jav_nil)))) (JE.v (je_nm n__law_are_laid_right_length rfl)) (by rfl))))) (je_nm n__law_are_laid_right_strand rfl) (je_bin od_add (je_nm n__law_are_laid_right_strand rfl) (je_bin od_mulT (je_tup (ja_cons je_int fun x1217 => ja_nil)) je_int))) fun ys1224 => (js_end rfl (.e (.e (.e (.e (.e (.e (.e (.e (.e (.e (.u (.u (.u (.u (.u (.u .nil)))))))))))))))))))) (fun a1226 => (js_nf [.pot, .val d1069, .val d1070, .val d1084, .val d1087, .val d1094, .val d1098, .val d1138, .val d1170, .own a1226, .unk, .unk, .unk, .unk, .unk, .unk] rfl (js_ifK (emb := (fun a : Unit => [.pot, .val d1069, .val d1070, .val d1084, .val d1087, .val d1094, .val d1098, .val d1138, .val d1170, .own a1226, .unk, .unk, .unk, .unk, .unk, .unk])) (jt_cmp ob_gt (JE.v (je_callO (w__law_few c) hr (by decide) g__law_are_laid_right__law_few (ja_cons (je_callO (w_least_laid c) hr (by decide) g__law_are_laid_right_least_laid (ja_cons (je_callTy cd_tuple g__law_are_laid_right_tuple c.n_tuple (by decide +kernel) (jav_cons (jv_nm n__law_are_laid_right_more rfl) fun x1227 => jav_nil)) fun x1228 => (ja_cons (je_nm n__law_are_laid_right_length rfl) fun x1229 => (ja_cons (je_nm n__law_are_laid_right_band rfl) fun x1230 => ja_nil)))) fun x1231 => ja_nil))) (JE.v (je_nm n__law_are_laid_right_few rfl)) (by rfl)) (js_nf [.pot, .val d1069, .val d1070, .val d1084, .val d1087, .val d1094, .val d1098, .val d1138, .val d1170, .own a1226, .unk, .unk, .unk, .unk, .unk, .unk] rfl (js_ret (r := Fl.rt) je_bl fun _ => rfl)) (js_end rfl (.e (.e (.e (.e (.e (.e (.e (.e (.e (.e (.u (.u (.u (.u (.u (.u .nil))))))))))))))))) (fun a1237 => (js_nf [.pot, .val d1069, .val d1070, .val d1084, .val d1087, .val d1094, .val d1098, .val d1138, .val d1170, .own a1226, .unk, .unk, .unk, .unk, .unk, .unk] rfl (js_ifK (emb := (fun a : Unit => [.pot, .val d1069, .val d1070, .val d1084, .val d1087, .val d1094, .val d1098, .val d1138, .val d1170, .own a1226, .unk, .unk, .unk, .unk, .unk, .unk])) (JW.t (jw_and (jt_cmp ob_gt (JE.v (je_nm n__law_are_laid_right_length rfl)) (JE.v je_int) (by rfl)) (jw_and1 (jt_cmp ob_gt (JE.v (je_callO (w__law_few c) hr (by decide) g__law_are_laid_right__law_few (ja_cons (je_callO (w_least_laid c) hr (by decide) g__law_are_laid_right_least_laid (ja_cons (je_nm n__law_are_laid_right_strands rfl) fun x1241 => (ja_cons (je_bin od_sub (je_nm n__law_are_laid_right_length rfl) je_int) fun x1244 => (ja_cons (je_nm n__law_are_laid_right_band rfl) fun x1245 => ja_nil)))) fun x1246 => ja_nil))) (JE.v (je_nm n__law_are_laid_right_few rfl)) (by rfl))))) (js_nf [.pot, .val d1069, .val d1070, .val d1084, .val d1087, .val d1094, .val d1098, .val d1138, .val d1170, .own a1226, .unk, .unk, .unk, .unk, .unk, .unk] rfl (js_ret (r := Fl.rt) je_bl fun _ => rfl)) (js_end rfl (.e (.e (.e (.e (.e (.e (.e (.e (.e (.e (.u (.u (.u (.u (.u (.u .nil))))))))))))))))) (fun a1253 => (js_nf [.pot, .val d1069, .val d1070, .val d1084, .val d1087, .val d1094, .val d1098, .val d1138, .val d1170, .own a1226, .unk, .unk, .unk, .unk, .unk, .unk] rfl (js_asg (i := 12) sc__law_are_laid_right.nd rfl (.inl rfl) (JE.x (je_callTy cd_tuple g__law_are_laid_right_tuple c.n_tuple (by decide +kernel) (jav_cons (JE.v (je_lc rfl sc__law_are_laid_right.nd (ji_seq (je_ix (JE.v (je_nm n__law_are_laid_right_told rfl)) je_int)) (blk (own := [("begin", 11)]) (by kernel_rfl)) (fun _ _ _ _ _ => (pgd_n 11 sc__law_are_laid_right.nd rfl (.inl rfl))) (ji_n fun d1257 => .plain (fun _ _ _ _ _ => je_nf [.pot, .val d1069, .val d1070, .val d1084, .val d1087, .val d1094, .val d1098, .val d1138, .val d1170, .own a1226, .unk, .val d1257, .unk, .unk, .unk, .unk] rfl (je_if (jt_cmp ob_is (JE.v (je_name 11 rfl (.inl rfl) rfl)) (JE.v je_non) (by rfl)) je_non (je_callTy cd_int rfl c.n_int (by decide +kernel) (jav_cons (JE.v (je_callPO (i := 0) (w__law_take c) hr (by decide) rfl rfl (.inr (.inl rfl)) rfl (ja_cons (je_name 2 rfl (.inr (.inl rfl)) rfl) fun x1261 => ja_nil))) fun x1262 => jav_nil))))))) fun x1268 => jav_nil))) fun d1269 => (js_nf [.pot, .val d1069, .val d1070, .val d1084, .val d1087, .val d1094, .val d1098, .val d1138, .val d1170, .own a1226, .unk, .unk, .val d1269, .unk, .unk, .unk] rfl (js_asg (i := 13) sc__law_are_laid_right.nd rfl (.inl rfl) (JE.x (je_callB (cd_all rfl) g__law_are_laid_right_all c.n_all (by decide +kernel) (jav_cons (JE.v (je_lc rfl sc__law_are_laid_right.nd (ji_seq (je_callO (w__law_sums c) hr (by decide) g__law_are_laid_right__law_sums (ja_cons (je_nm n__law_are_laid_right_strands rfl) fun x1270 => (ja_cons (je_nm n__law_are_laid_right_length rfl) fun x1271 => (ja_cons (je_nm n__law_are_laid_right_drawn rfl) fun x1272 => ja_nil))))) (blk (own := [("one", 15)]) (by kernel_rfl)) (fun _ _ _ _ _ => (pgd_n 15 sc__law_are_laid_right.nd rfl (.inl rfl))) (ji_n fun d1274 => .plain (fun _ _ _ _ _ => je_nf [.pot, .val d1069, .val d1070, .val d1084, .val d1087, .val d1094, .val d1098, .val d1138, .val d1170, .own a1226, .unk, .unk, .val d1269, .unk, .unk, .val d1274] rfl (je_chain ob_le ob_le (JE.v (je_ix (JE.v (je_name 5 rfl (.inr (.inl rfl)) rfl)) je_int)) (JE.v (je_name 15 rfl (.inl rfl) rfl)) (JE.v (je_ix (JE.v (je_name 5 rfl (.inr (.inl rfl)) rfl)) je_int))))))) fun x1288 => jav_nil))) fun d1289 => (js_nf [.pot, .val d1069, .val d1070, .val d1084, .val d1087, .val d1094, .val d1098, .val d1138, .val d1170, .own a1226, .unk, .unk, .val d1269, .val d1289, .unk, .unk] rfl (js_ifK (emb := (fun a : Unit => [.pot, .val d1069, .val d1070, .val d1084, .val d1087, .val d1094, .val d1098, .val d1138, .val d1170, .own a1226, .unk, .unk, .val d1269, .val d1289, .unk, .unk])) (jt_cmp (ob_ne hr.units) (JE.v (je_callO (w_shows_laid c) hr (by decide) g__law_are_laid_right_shows_laid (ja_cons (je_nm n__law_are_laid_right_strands rfl) fun x1290 => (ja_cons (je_nm n__law_are_laid_right_length rfl) fun x1291 => (ja_cons (je_nm n__law_are_laid_right_band rfl) fun x1292 => (ja_cons (je_tup (ja_cons je_str fun x1293 => (ja_cons (je_nm n__law_are_laid_right_drawn rfl) fun x1294 => ja_nil))) fun x1295 => ja_nil)))))) (JE.v (je_nm n__law_are_laid_right_is_so rfl)) (by rfl)) (js_nf [.pot, .val d1069, .val d1070, .val d1084, .val d1087, .val d1094, .val d1098, .val d1138, .val d1170, .own a1226, .unk, .unk, .val d1269, .val d1289, .unk, .unk] rfl (js_ret (r := Fl.rt) je_bl fun _ => rfl)) (js_end rfl (.e (.e (.e (.e (.e (.e (.e (.e (.e (.e (.u (.u (.e (.e (.u (.u .nil))))))))))))))))) (fun a1301 => (js_end rfl (.e (.e (.e (.e (.e (.e (.e (.e (.e (.u (.u (.u (.u (.u (.u (.u .nil)))))))))))))))))) fun _ => rfl))))))) fun _ => rfl))) fun _ => rfl))) fun _ => rfl)))) (js_end rfl (.e (.e (.e (.e (.e (.e (.e (.e (.e (.u (.u (.u (.u (.u (.u (.u .nil))))))))))))))))) (fun a1303 => (js_nf [.pot, .val d1069, .val d1070, .val d1084, .val d1087, .val d1094, .val d1098, .val d1138, .val d1170, .unk, .unk, .unk, .unk, .unk, .unk, .unk] rfl (js_ret0 je_bl))) fun _ => rfl)) fun _ _ => nofun)))) fun _ _ => nofun)) fun _ _ => nofun)))) fun _ _ => nofun)) fun _ _ => nofun)))))))))))))
abbrev s__law_fewest : Stmt := topS 53
theorem sc__law_fewest : FnScope ["length", "spans", "best", "yard", "some", "begin", "end"] ["length", "spans"] (defScope s__law_fewest) := ⟨rfl, rfl, rfl, by decide +kernel, rfl, by decide +kernel, by decide +kernel⟩
theorem n__law_fewest_best : NmF (defScope s__law_fewest) ["length", "spans", "best", "yard", "some", "begin", "end"] 2 "best" := ⟨rfl, (.inr (.inl (by kernel_rfl))), by decide, by decide⟩
theorem n__law_fewest_length : NmF (defScope s__law_fewest) ["length", "spans", "best", "yard", "some", "begin", "end"] 0 "length" := ⟨rfl, (.inl (by kernel_rfl)), by decide, by decide⟩
theorem n__law_fewest_some : NmF (defScope s__law_fewest) ["length", "spans", "best", "yard", "some", "begin", "end"] 4 "some" := ⟨rfl, (.inl (by kernel_rfl)), by decide, by decide⟩
theorem n__law_fewest_spans : NmF (defScope s__law_fewest) ["length", "spans", "best", "yard", "some", "begin", "end"] 1 "spans" := ⟨rfl, (.inl (by kernel_rfl)), by decide, by decide⟩
theorem n__law_fewest_yard : NmF (defScope s__law_fewest) ["length", "spans", "best", "yard", "some", "begin", "end"] 3 "yard" := ⟨rfl, (.inr (.inl (by kernel_rfl))), by decide, by decide⟩
theorem g__law_fewest_min : (defScope s__law_fewest).names.lookup (("min" : Str)) = some .globalImplicit := by kernel_rfl
theorem g__law_fewest_range : (defScope s__law_fewest).names.lookup (("range" : Str)) = some .globalImplicit := by kernel_rfl
theorem w__law_fewest (c : Fx K mg base TT) : DOk PR w K mg base 1 "_law_fewest" ["length", "spans"] (spF TT m__law_fewest) := by
  refine ok_pure (N := ["length", "spans", "best", "yard", "some", "begin", "end"]) (k := 0) c.f__law_fewest sc__law_fewest (fun _ _ _ _ _ _ us hl => match us, hl with | [_, _], _ => rfl) (mb := fun ds => match ds with | [d1305, d1306] => b__law_fewest d1305 d1306 | _ => fail) ?_ ?_
  · intro ds r h
    match ds, h with
    | [_, _], h => exact ⟨rfl, h⟩
  · intro ds hl
    match ds, hl with
    | [d1305, d1306], _ =>
      intro cdv A outer s F E hcd hr
      show JS _ _ _ _ (b__law_fewest d1305 d1306) _
      unfold b__law_fewest
      exact (js_nf [.val d1305, .val d1306, .unk, .unk, .unk, .unk, .unk] rfl (js_asg (i := 2) sc__law_fewest.nd rfl (.inr rfl) (jn_bin on_cat (je_lst (ja_cons je_int fun x1307 => ja_nil)) (je_bin od_mulT (je_lst (ja_cons je_non fun x1308 => ja_nil)) (je_nm n__law_fewest_length rfl))) fun d1313 => (js_nf [.val d1305, .val d1306, .own d1313, .unk, .unk, .unk, .unk] rfl (js_for (r := (fun d => d)) (emb := (fun a : (List D) => [.val d1305, .val d1306, .own a, .unk, .unk, .unk, .unk])) (a0 := d1313) PassesOwn.never rfl (ji_range2 g__law_fewest_range c.n_range (ja_cons je_int fun x1314 => (ja_cons (je_bin od_add (je_nm n__law_fewest_length rfl) je_int) fun x1317 => ja_nil))) (pgd_n 3 sc__law_fewest.nd rfl (.inr rfl)) (.e (.e (.e (.u (.u (.u (.u .nil))))))) (fun a1318 => ji_n fun d1319 => (js_nf [.val d1305, .val d1306, .own a1318, .val d1319, .unk, .unk, .unk] rfl (js_asgLc (i := 4) rfl sc__law_fewest.nd rfl rfl (ji_seq (je_nm n__law_fewest_spans rfl)) (blk (own := [("begin", 5), ("end", 6)]) (by kernel_rfl)) (fun _ _ _ _ _ => (pgd_2 rfl (pgd_n 5 sc__law_fewest.nd rfl (.inl rfl)) (pgd_n 6 sc__law_fewest.nd rfl (.inl rfl)))) (ji_2 fun d1321 d1322 => .cond (fun _ _ _ _ _ => jt_nf [.val d1305, .val d1306, .own a1318, .val d1319, .unk, .val d1321, .val d1322] rfl (JW.t (jw_and (jt_chain ob_lt ob_le (JE.v (je_name 5 rfl (.inl rfl) rfl)) (JE.v (je_name 3 rfl (.inr (.inl rfl)) rfl)) (JE.v (je_name 6 rfl (.inl rfl) rfl))) (jw_and1 (jt_cmp ob_isnt (JE.v (je_ix (jv_own 2 rfl (.inr (.inl rfl)) rfl) (je_name 5 rfl (.inl rfl) rfl))) (JE.v je_non) (by rfl)))))) (fun _ _ _ _ _ => je_nf [.val d1305, .val d1306, .own a1318, .val d1319, .unk, .val d1321, .val d1322] rfl (je_ix (jv_own 2 rfl (.inr (.inl rfl)) rfl) (je_name 5 rfl (.inl rfl) rfl)))) fun d1340 => (js_nf [.val d1305, .val d1306, .own a1318, .val d1319, .val d1340, .unk, .unk] rfl (js_setitem (i := 2) rfl (.inr (.inl rfl)) rfl (je_if (jt_cmp (ob_ne hr.units) (JE.v (je_nm n__law_fewest_some rfl)) (JE.v (je_lst ja_nil)) (by rfl)) (je_bin od_add je_int (je_callB (cd_min rfl hr.units) g__law_fewest_min c.n_min (by decide +kernel) (jav_cons (JE.v (je_nm n__law_fewest_some rfl)) fun x1344 => jav_nil))) je_non) (je_nm n__law_fewest_yard rfl) fun ys1350 => (js_end rfl (.e (.e (.e (.u (.u (.u (.u .nil))))))))))))) (fun a1352 => (js_nf [.val d1305, .val d1306, .own a1352, .unk, .unk, .unk, .unk] rfl (js_ret0 (je_ix (jv_nm n__law_fewest_best rfl) (je_nm n__law_fewest_length rfl))))) fun _ => rfl))))
abbrev s__law_are_spans_right : Stmt := topS 54
theorem sc__law_are_spans_right : FnScope ["pot", "length", "spans", "lap", "begin", "told", "due", "back", "many", "other", "yards", "end", "one", "yard"] ["pot"] (defScope s__law_are_spans_right) := ⟨rfl, rfl, rfl, by decide +kernel, rfl, by decide +kernel, by decide +kernel⟩
theorem n__law_are_spans_right_back : NmF (defScope s__law_are_spans_right) ["pot", "length", "spans", "lap", "begin", "told", "due", "back", "many", "other", "yards", "end", "one", "yard"] 7 "back" := ⟨rfl, (.inl (by kernel_rfl)), by decide, by decide⟩
theorem n__law_are_spans_right_begin : NmF (defScope s__law_are_spans_right) ["pot", "length", "spans", "lap", "begin", "told", "due", "back", "many", "other", "yards", "end", "one", "yard"] 4 "begin" := ⟨rfl, (.inl (by kernel_rfl)), by decide, by decide⟩
theorem n__law_are_spans_right_due : NmF (defScope s__law_are_spans_right) ["pot", "length", "spans", "lap", "begin", "told", "due", "back", "many", "other", "yards", "end", "one", "yard"] 6 "due" := ⟨rfl, (.inl (by kernel_rfl)), by decide, by decide⟩
theorem n__law_are_spans_right_length : NmF (defScope s__law_are_spans_right) ["pot", "length", "spans", "lap", "begin", "told", "due", "back", "many", "other", "yards", "end", "one", "yard"] 1 "length" := ⟨rfl, (.inr (.inl (by kernel_rfl))), by decide, by decide⟩
theorem n__law_are_spans_right_many : NmF (defScope s__law_are_spans_right) ["pot", "length", "spans", "lap", "begin", "told", "due", "back", "many", "other", "yards", "end", "one", "yard"] 8 "many" := ⟨rfl, (.inl (by kernel_rfl)), by decide, by decide⟩
theorem n__law_are_spans_right_other : NmF (defScope s__law_are_spans_right) ["pot", "length", "spans", "lap", "begin", "told", "due", "back", "many", "other", "yards", "end", "one", "yard"] 9 "other" := ⟨rfl, (.inl (by kernel_rfl)), by decide, by decide⟩
theorem n__law_are_spans_right_spans : NmF (defScope s__law_are_spans_right) ["pot", "length", "spans", "lap", "begin", "told", "due", "back", "many", "other", "yards", "end", "one", "yard"] 2 "spans" := ⟨rfl, (.inl (by kernel_rfl)), by decide, by decide⟩
theorem n__law_are_spans_right_told : NmF (defScope s__law_are_spans_right) ["pot", "length", "spans", "lap", "begin", "told", "due", "back", "many", "other", "yards", "end", "one", "yard"] 5 "told" := ⟨rfl, (.inr (.inl (by kernel_rfl))), by decide, by decide⟩
theorem n__law_are_spans_right_yards : NmF (defScope s__law_are_spans_right) ["pot", "length", "spans", "lap", "begin", "told", "due", "back", "many", "other", "yards", "end", "one", "yard"] 10 "yards" := ⟨rfl, (.inr (.inl (by kernel_rfl))), by decide, by decide⟩
theorem g__law_are_spans_right__law_fewest : (defScope s__law_are_spans_right).names.lookup (("_law_fewest" : Str)) = some .globalImplicit := by kernel_rfl
theorem g__law_are_spans_right__law_of : (defScope s__law_are_spans_right).names.lookup (("_law_of" : Str)) = some .globalImplicit := by kernel_rfl
theorem g__law_are_spans_right__law_take : (defScope s__law_are_spans_right).names.lookup (("_law_take" : Str)) = some .globalImplicit := by kernel_rfl
theorem g__law_are_spans_right_any : (defScope s__law_are_spans_right).names.lookup (("any" : Str)) = some .globalImplicit := by kernel_rfl
theorem g__law_are_spans_right_apart_yards : (defScope s__law_are_spans_right).names.lookup (("apart_yards" : Str)) = some .globalImplicit := by kernel_rfl
theorem g__law_are_spans_right_cover : (defScope s__law_are_spans_right).names.lookup (("cover" : Str)) = some .globalImplicit := by kernel_rfl
theorem g__law_are_spans_right_int : (defScope s__law_are_spans_right).names.lookup (("int" : Str)) = some .globalImplicit := by kernel_rfl
theorem g__law_are_spans_right_len : (defScope s__law_are_spans_right).names.lookup (("len" : Str)) = some .globalImplicit := by kernel_rfl
theorem g__law_are_spans_right_min : (defScope s__law_are_spans_right).names.lookup (("min" : Str)) = some .globalImplicit := by kernel_rfl
theorem g__law_are_spans_right_range : (defScope s__law_are_spans_right).names.lookup (("range" : Str)) = some .globalImplicit := by kernel_rfl
theorem g__law_are_spans_right_shows_cover : (defScope s__law_are_spans_right).names.lookup (("shows_cover" : Str)) = some .globalImplicit := by kernel_rfl
theorem g__law_are_spans_right_tuple : (defScope s__law_are_spans_right).names.lookup (("tuple" : Str)) = some .globalImplicit := by kernel_rfl
theorem w__law_are_spans_right (c : Fx K mg base TT) : DOk PR w K mg base 7 "_law_are_spans_right" ["pot"] (spP TT m__law_are_spans_right) := by
  refine ok_pot (N := ["pot", "length", "spans", "lap", "begin", "told", "due", "back", "many", "other", "yards", "end", "one", "yard"]) (k := 6) c.f__law_are_spans_right sc__law_are_spans_right (fun _ _ _ _ _ _ us hl => match us, hl with | [_], _ => rfl) ?_ ?_
  · intro ds s r s' h
    match ds, h with
    | [], _ => rfl
  · intro ds p hl
    match ds, hl with
    | [], _ =>
      intro cdv A outer s F E hcd hr
      show JS _ _ _ _ (b__law_are_spans_right) _
      unfold b__law_are_spans_right
      exact (js_nf [.pot, .unk, .unk, .unk, .unk, .unk, .unk, .unk, .unk, .unk, .unk, .unk, .unk, .unk] rfl (js_unp2 (i := 1) (j := 2) rfl sc__law_are_spans_right.nd rfl rfl (by decide) (.inr rfl) (.inl rfl) (JE.x (je_bin od_add je_int (je_callTy cd_int g__law_are_spans_right_int c.n_int (by decide +kernel) (jav_cons (JE.v (je_callPO (i := 0) (w__law_take c) hr (by decide) g__law_are_spans_right__law_take rfl (.inl rfl) rfl (ja_cons je_int fun x1356 => ja_nil))) fun x1357 => jav_nil)))) (jn_lst ja_nil) fun d1360 d1361 => (js_nf [.pot, .val d1360, .own d1361, .unk, .unk, .unk, .unk, .unk, .unk, .unk, .unk, .unk, .unk, .unk] rfl (js_for (r := (fun d => d)) (emb := (fun a : (List D) => [.pot, .val d1360, .own a, .unk, .unk, .unk, .unk, .unk, .unk, .unk, .unk, .unk, .unk, .unk])) (a0 := d1361) PassesOwn.never rfl (ji_range1 g__law_are_spans_right_range c.n_range (ja_cons (je_bin od_add je_int (je_callPO (i := 0) (w__law_take c) hr (by decide) g__law_are_spans_right__law_take rfl (.inl rfl) rfl (ja_cons je_int fun x1362 => ja_nil))) fun x1365 => ja_nil)) (pgd_n 3 sc__law_are_spans_right.nd rfl (.inl rfl)) (.e (.e (.e (.u (.u (.u (.u (.u (.u (.u (.u (.u (.u (.u .nil)))))))))))))) (fun a1366 => ji_n fun d1367 => (js_nf [.pot, .val d1360, .own a1366, .val d1367, .unk, .unk, .unk, .unk, .unk, .unk, .unk, .unk, .unk, .unk] rfl (js_asg (i := 4) sc__law_are_spans_right.nd rfl (.inl rfl) (JE.x (je_callTy cd_int g__law_are_spans_right_int c.n_int (by decide +kernel) (jav_cons (JE.v (je_callPO (i := 0) (w__law_take c) hr (by decide) g__law_are_spans_right__law_take rfl (.inl rfl) rfl (ja_cons (je_nm n__law_are_spans_right_length rfl) fun x1368 => ja_nil))) fun x1369 => jav_nil))) fun d1370 => (js_nf [.pot, .val d1360, .own a1366, .val d1367, .val d1370, .unk, .unk, .unk, .unk, .unk, .unk, .unk, .unk, .unk] rfl (js_append (i := 2) rfl (.inl rfl) rfl (je_tup (ja_cons (je_nm n__law_are_spans_right_begin rfl) fun x1371 => (ja_cons (je_callB (cd_min2 rfl) g__law_are_spans_right_min c.n_min (by decide +kernel) (jav_cons (JE.v (je_nm n__law_are_spans_right_length rfl)) fun x1372 => (jav_cons (JE.v (je_bin od_add (je_bin od_add (je_nm n__law_are_spans_right_begin rfl) je_int) (je_callTy cd_int g__law_are_spans_right_int c.n_int (by decide +kernel) (jav_cons (JE.v (je_callPO (i := 0) (w__law_take c) hr (by decide) g__law_are_spans_right__law_take rfl (.inl rfl) rfl (ja_cons (je_callPO (i := 0) (w__law_of c) hr (by decide) g__law_are_spans_right__law_of rfl (.inl rfl) rfl (ja_cons (je_lst (ja_cons je_int fun x1375 => (ja_cons je_int fun x1376 => ja_nil))) fun x1377 => ja_nil)) fun x1378 => ja_nil))) fun x1379 => jav_nil)))) fun x1382 => jav_nil))) fun x1383 => ja_nil))) fun ys1385 => (js_end rfl (.e (.e (.e (.u (.u (.u (.u (.u (.u (.u (.u (.u (.u (.u .nil)))))))))))))))))))) (fun a1387 => (js_nf [.pot, .val d1360, .own a1387, .unk, .unk, .unk, .unk, .unk, .unk, .unk, .unk, .unk, .unk, .unk] rfl (js_asg (i := 2) sc__law_are_spans_right.nd rfl (.inl rfl) (JE.x (je_callTy cd_tuple g__law_are_spans_right_tuple c.n_tuple (by decide +kernel) (jav_cons (jv_nm n__law_are_spans_right_spans rfl) fun x1388 => jav_nil))) fun d1389 => (js_nf [.pot, .val d1360, .val d1389, .unk, .unk, .unk, .unk, .unk, .unk, .unk, .unk, .unk, .unk, .unk] rfl (js_asg (i := 5) sc__law_are_spans_right.nd rfl (.inr rfl) (JE.x (je_callO (w_cover c) hr (by decide) g__law_are_spans_right_cover (ja_cons (je_nm n__law_are_spans_right_length rfl) fun x1390 => (ja_cons (je_nm n__law_are_spans_right_spans rfl) fun x1391 => (ja_cons je_int fun x1392 => ja_nil))))) fun d1393 => (js_nf [.pot, .val d1360, .val d1389, .unk, .unk, .val d1393, .unk, .unk, .unk, .unk, .unk, .unk, .unk, .unk] rfl (js_asg (i := 6) sc__law_are_spans_right.nd rfl (.inl rfl) (JE.x (je_callO (w__law_fewest c) hr (by decide) g__law_are_spans_right__law_fewest (ja_cons (je_nm n__law_are_spans_right_length rfl) fun x1394 => (ja_cons (je_callTy cd_tuple g__law_are_spans_right_tuple c.n_tuple (by decide +kernel) (jav_cons (JE.v (je_lc rfl sc__law_are_spans_right.nd (ji_seq (je_nm n__law_are_spans_right_spans rfl)) (blk (own := [("begin", 4), ("end", 11)]) (by kernel_rfl)) (fun _ _ _ _ _ => (pgd_2 rfl (pgd_n 4 sc__law_are_spans_right.nd rfl (.inl rfl)) (pgd_n 11 sc__law_are_spans_right.nd rfl (.inl rfl)))) (ji_2 fun d1396 d1397 => .plain (fun _ _ _ _ _ => je_nf [.pot, .val d1360, .val d1389, .unk, .val d1396, .val d1393, .unk, .unk, .unk, .unk, .unk, .val d1397, .unk, .unk] rfl (je_tup (ja_cons (je_name 4 rfl (.inl rfl) rfl) fun x1398 => (ja_cons (je_name 11 rfl (.inl rfl) rfl) fun x1399 => ja_nil))))))) fun x1404 => jav_nil)) fun x1405 => ja_nil)))) fun d1406 => (js_nf [.pot, .val d1360, .val d1389, .unk, .unk, .val d1393, .val d1406, .unk, .unk, .unk, .unk, .unk, .unk, .unk] rfl (js_ifret (JW.t (jw_or (jt_cmp (ob_ne hr.units) (JE.v (je_cmp (ob_eq hr.units) (JE.v (je_ix (JE.v (je_nm n__law_are_spans_right_told rfl)) je_int)) (JE.v je_str) (by rfl))) (JE.v (je_cmp ob_isnt (JE.v (je_nm n__law_are_spans_right_due rfl)) (JE.v je_non) (by rfl))) (by rfl)) (jw_or1 (JW.t (jw_and (jt_cmp ob_isnt (JE.v (je_nm n__law_are_spans_right_due rfl)) (JE.v je_non) (by rfl)) (jw_and1 (jt_cmp (ob_ne hr.units) (JE.v (je_callB cd_len g__law_are_spans_right_len c.n_len (by decide +kernel) (jav_cons (JE.v (je_ix (JE.v (je_nm n__law_are_spans_right_told rfl)) je_int)) fun x1423 => jav_nil))) (JE.v (je_nm n__law_are_spans_right_due rfl)) (by rfl)))))))) (js_nf [.pot, .val d1360, .val d1389, .unk, .unk, .val d1393, .val d1406, .unk, .unk, .unk, .unk, .unk, .unk, .unk] rfl (js_ret0 je_bl)) (js_nf [.pot, .val d1360, .val d1389, .unk, .unk, .val d1393, .val d1406, .unk, .unk, .unk, .unk, .unk, .unk, .unk] rfl (js_asg (i := 7) sc__law_are_spans_right.nd rfl (.inl rfl) (JE.x (je_callTy cd_tuple g__law_are_spans_right_tuple c.n_tuple (by decide +kernel) (jav_cons (JE.v (je_lc rfl sc__law_are_spans_right.nd (ji_seq (je_nm n__law_are_spans_right_spans rfl)) (blk (own := [("begin", 4), ("end", 11)]) (by kernel_rfl)) (fun _ _ _ _ _ => (pgd_2 rfl (pgd_n 4 sc__law_are_spans_right.nd rfl (.inl rfl)) (pgd_n 11 sc__law_are_spans_right.nd rfl (.inl rfl)))) (ji_2 fun d1431 d1432 => .plain (fun _ _ _ _ _ => je_nf [.pot, .val d1360, .val d1389, .unk, .val d1431, .val d1393, .val d1406, .unk, .unk, .unk, .unk, .val d1432, .unk, .unk] rfl (je_tup (ja_cons (je_bin od_sub (je_name 1 rfl (.inr (.inl rfl)) rfl) (je_name 11 rfl (.inl rfl) rfl)) fun x1435 => (ja_cons (je_bin od_sub (je_name 1 rfl (.inr (.inl rfl)) rfl) (je_name 4 rfl (.inl rfl) rfl)) fun x1438 => ja_nil))))))) fun x1443 => jav_nil))) fun d1444 => (js_nf [.pot, .val d1360, .val d1389, .unk, .unk, .val d1393, .val d1406, .val d1444, .unk, .unk, .unk, .unk, .unk, .unk] rfl (js_forK (r := (fun d => d)) (emb := (fun a : D => [.pot, .val d1360, .val d1389, .unk, .unk, .val a, .val d1406, .val d1444, .unk, .unk, .unk, .unk, .unk, .unk])) (a0 := d1393) PassesOwn.never rfl (ji_seq (je_tup (ja_cons je_int fun x1445 => (ja_cons je_int fun x1446 => (ja_cons je_int fun x1447 => ja_nil))))) (pgd_n 8 sc__law_are_spans_right.nd rfl (.inl rfl)) (.e (.e (.e (.u (.u (.e (.e (.e (.u (.u (.u (.u (.u (.u .nil)))))))))))))) (fun a1449 => ji_n fun d1450 => (js_nf [.pot, .val d1360, .val d1389, .unk, .unk, .val a1449, .val d1406, .val d1444, .val d1450, .unk, .unk, .unk, .unk, .unk] rfl (js_unpack (je_tup (ja_cons (je_callO (w_cover c) hr (by decide) g__law_are_spans_right_cover (ja_cons (je_nm n__law_are_spans_right_length rfl) fun x1451 => (ja_cons (je_nm n__law_are_spans_right_spans rfl) fun x1452 => (ja_cons (je_nm n__law_are_spans_right_many rfl) fun x1453 => ja_nil)))) fun x1454 => (ja_cons (je_callO (w_cover c) hr (by decide) g__law_are_spans_right_cover (ja_cons (je_nm n__law_are_spans_right_length rfl) fun x1455 => (ja_cons (je_nm n__law_are_spans_right_back rfl) fun x1456 => (ja_cons (je_nm n__law_are_spans_right_many rfl) fun x1457 => ja_nil)))) fun x1458 => ja_nil))) (pgd_2 rfl (pgd_n 5 sc__law_are_spans_right.nd rfl (.inr rfl)) (pgd_n 9 sc__law_are_spans_right.nd rfl (.inl rfl))) (ji_2 fun d1459 d1460 => (js_nf [.pot, .val d1360, .val d1389, .unk, .unk, .val d1459, .val d1406, .val d1444, .val d1450, .val d1460, .unk, .unk, .unk, .unk] rfl (js_ifK (emb := (fun a : Unit => [.pot, .val d1360, .val d1389, .unk, .unk, .val d1459, .val d1406, .val d1444, .val d1450, .val d1460, .unk, .unk, .unk, .unk])) (JW.t (jw_or (jt_cmp ob_isnt (JE.v (je_callO (w_shows_cover c) hr (by decide) g__law_are_spans_right_shows_cover (ja_cons (je_nm n__law_are_spans_right_length rfl) fun x1461 => (ja_cons (je_nm n__law_are_spans_right_spans rfl) fun x1462 => (ja_cons (je_nm n__law_are_spans_right_many rfl) fun x1463 => (ja_cons (je_nm n__law_are_spans_right_told rfl) fun x1464 => ja_nil)))))) (JE.v je_bl) (by rfl)) (jw_or1 (jt_cmp (ob_ne hr.units) (JE.v (je_ix (JE.v (je_nm n__law_are_spans_right_told rfl)) je_int)) (JE.v (je_ix (JE.v (je_nm n__law_are_spans_right_other rfl)) je_int)) (by rfl))))) (js_nf [.pot, .val d1360, .val d1389, .unk, .unk, .val d1459, .val d1406, .val d1444, .val d1450, .val d1460, .unk, .unk, .unk, .unk] rfl (js_ret (r := Fl.rt) je_bl fun _ => rfl)) (js_end rfl (.e (.e (.e (.u (.u (.e (.e (.e (.e (.e (.u (.u (.u (.u .nil))))))))))))))) (fun a1478 => (js_nf [.pot, .val d1360, .val d1389, .unk, .unk, .val d1459, .val d1406, .val d1444, .val d1450, .val d1460, .unk, .unk, .unk, .unk] rfl (js_ifK (emb := (fun a : Unit => [.pot, .val d1360, .val d1389, .unk, .unk, .val d1459, .val d1406, .val d1444, .val d1450, .val d1460, .unk, .unk, .unk, .unk])) (jt_cmp (ob_eq hr.units) (JE.v (je_ix (JE.v (je_nm n__law_are_spans_right_told rfl)) je_int)) (JE.v je_str) (by rfl)) (js_nf [.pot, .val d1360, .val d1389, .unk, .unk, .val d1459, .val d1406, .val d1444, .val d1450, .val d1460, .unk, .unk, .unk, .unk] rfl (js_ifK (emb := (fun a : Unit => [.pot, .val d1360, .val d1389, .unk, .unk, .val d1459, .val d1406, .val d1444, .val d1450, .val d1460, .unk, .unk, .unk, .unk])) (jt_cmp ob_ge (JE.v (je_callB cd_len g__law_are_spans_right_len c.n_len (by decide +kernel) (jav_cons (JE.v (je_lc rfl sc__law_are_spans_right.nd (ji_seq (je_nm n__law_are_spans_right_spans rfl)) (blk (own := [("one", 12)]) (by kernel_rfl)) (fun _ _ _ _ _ => (pgd_n 12 sc__law_are_spans_right.nd rfl (.inl rfl))) (ji_n fun d1486 => .cond (fun _ _ _ _ _ => jt_nf [.pot, .val d1360, .val d1389, .unk, .unk, .val d1459, .val d1406, .val d1444, .val d1450, .val d1460, .unk, .unk, .val d1486, .unk] rfl (jt_chain ob_le ob_lt (JE.v (je_ix (JE.v (je_name 12 rfl (.inl rfl) rfl)) je_int)) (JE.v (je_ix (JE.v (je_name 5 rfl (.inr (.inl rfl)) rfl)) je_int)) (JE.v (je_ix (JE.v (je_name 12 rfl (.inl rfl) rfl)) je_int)))) (fun _ _ _ _ _ => je_nf [.pot, .val d1360, .val d1389, .unk, .unk, .val d1459, .val d1406, .val d1444, .val d1450, .val d1460, .unk, .unk, .val d1486, .unk] rfl (je_name 12 rfl (.inl rfl) rfl))))) fun x1502 => jav_nil))) (JE.v (je_nm n__law_are_spans_right_many rfl)) (by rfl)) (js_nf [.pot, .val d1360, .val d1389, .unk, .unk, .val d1459, .val d1406, .val d1444, .val d1450, .val d1460, .unk, .unk, .unk, .unk] rfl (js_ret (r := Fl.rt) je_bl fun _ => rfl)) (js_end rfl (.e (.e (.e (.u (.u (.e (.e (.e (.e (.e (.u (.u (.u (.u .nil))))))))))))))) (fun a1508 => (js_end rfl (.e (.e (.e (.u (.u (.e (.e (.e (.e (.e (.u (.u (.u (.u .nil)))))))))))))))) fun _ => rfl)) (js_nf [.pot, .val d1360, .val d1389, .unk, .unk, .val d1459, .val d1406, .val d1444, .val d1450, .val d1460, .unk, .unk, .unk, .unk] rfl (js_ifK (emb := (fun a : Unit => [.pot, .val d1360, .val d1389, .unk, .unk, .val d1459, .val d1406, .val d1444, .val d1450, .val d1460, .unk, .unk, .unk, .unk])) (JW.t (jw_or (jt_cmp (ob_ne hr.units) (JE.v (je_callB cd_len g__law_are_spans_right_len c.n_len (by decide +kernel) (jav_cons (JE.v (je_ix (JE.v (je_nm n__law_are_spans_right_other rfl)) je_int)) fun x1511 => jav_nil))) (JE.v (je_callB cd_len g__law_are_spans_right_len c.n_len (by decide +kernel) (jav_cons (JE.v (je_ix (JE.v (je_nm n__law_are_spans_right_told rfl)) je_int)) fun x1514 => jav_nil))) (by rfl)) (jw_or1 (jt_cmp ob_gt (JE.v (je_callB cd_len g__law_are_spans_right_len c.n_len (by decide +kernel) (jav_cons (JE.v (je_ix (JE.v (je_callO (w_cover c) hr (by decide) g__law_are_spans_right_cover (ja_cons (je_nm n__law_are_spans_right_length rfl) fun x1519 => (ja_cons (je_bin od_add (je_nm n__law_are_spans_right_spans rfl) (je_slice (JE.v (je_nm n__law_are_spans_right_spans rfl)) jo_none (jo_some je_int))) fun x1527 => (ja_cons (je_nm n__law_are_spans_right_many rfl) fun x1528 => ja_nil))))) je_int)) fun x1530 => jav_nil))) (JE.v (je_callB cd_len g__law_are_spans_right_len c.n_len (by decide +kernel) (jav_cons (JE.v (je_ix (JE.v (je_nm n__law_are_spans_right_told rfl)) je_int)) fun x1533 => jav_nil))) (by rfl))))) (js_nf [.pot, .val d1360, .val d1389, .unk, .unk, .val d1459, .val d1406, .val d1444, .val d1450, .val d1460, .unk, .unk, .unk, .unk] rfl (js_ret (r := Fl.rt) je_bl fun _ => rfl)) (js_end rfl (.e (.e (.e (.u (.u (.e (.e (.e (.e (.e (.u (.u (.u (.u .nil))))))))))))))) (fun a1540 => (js_nf [.pot, .val d1360, .val d1389, .unk, .unk, .val d1459, .val d1406, .val d1444, .val d1450, .val d1460, .unk, .unk, .unk, .unk] rfl (js_ifK (emb := (fun a : Unit => [.pot, .val d1360, .val d1389, .unk, .unk, .val d1459, .val d1406, .val d1444, .val d1450, .val d1460, .unk, .unk, .unk, .unk])) (JW.t (jw_and (jt_cmp ob_gt (JE.v (je_nm n__law_are_spans_right_many rfl)) (JE.v je_int) (by rfl)) (jw_and1 (jt_cmp ob_lt (JE.v (je_callB cd_len g__law_are_spans_right_len c.n_len (by decide +kernel) (jav_cons (JE.v (je_ix (JE.v (je_nm n__law_are_spans_right_told rfl)) je_int)) fun x1546 => jav_nil))) (JE.v (je_bin od_add (je_callB cd_len g__law_are_spans_right_len c.n_len (by decide +kernel) (jav_cons (JE.v (je_ix (JE.v (je_callO (w_cover c) hr (by decide) g__law_are_spans_right_cover (ja_cons (je_nm n__law_are_spans_right_length rfl) fun x1548 => (ja_cons (je_nm n__law_are_spans_right_spans rfl) fun x1549 => (ja_cons (je_bin od_sub (je_nm n__law_are_spans_right_many rfl) je_int) fun x1552 => ja_nil))))) je_int)) fun x1554 => jav_nil)) je_int)) (by rfl))))) (js_nf [.pot, .val d1360, .val d1389, .unk, .unk, .val d1459, .val d1406, .val d1444, .val d1450, .val d1460, .unk, .unk, .unk, .unk] rfl (js_ret (r := Fl.rt) je_bl fun _ => rfl)) (js_end rfl (.e (.e (.e (.u (.u (.e (.e (.e (.e (.e (.u (.u (.u (.u .nil))))))))))))))) (fun a1563 => (js_nf [.pot, .val d1360, .val d1389, .unk, .unk, .val d1459, .val d1406, .val d1444, .val d1450, .val d1460, .unk, .unk, .unk, .unk] rfl (js_asg (i := 10) sc__law_are_spans_right.nd rfl (.inr rfl) (JE.x (je_callO (w_apart_yards c) hr (by decide) g__law_are_spans_right_apart_yards (ja_cons (je_nm n__law_are_spans_right_length rfl) fun x1564 => (ja_cons (je_nm n__law_are_spans_right_spans rfl) fun x1565 => ja_nil)))) fun d1566 => (js_nf [.pot, .val d1360, .val d1389, .unk, .unk, .val d1459, .val d1406, .val d1444, .val d1450, .val d1460, .val d1566, .unk, .unk, .unk] rfl (js_ifK (emb := (fun a : Unit => [.pot, .val d1360, .val d1389, .unk, .unk, .val d1459, .val d1406, .val d1444, .val d1450, .val d1460, .val d1566, .unk, .unk, .unk])) (jt_cmp ob_lt (JE.v (je_callB cd_len g__law_are_spans_right_len c.n_len (by decide +kernel) (jav_cons (JE.v (je_ix (JE.v (je_nm n__law_are_spans_right_told rfl)) je_int)) fun x1569 => jav_nil))) (JE.v (je_bin od_mulT (je_nm n__law_are_spans_right_many rfl) (je_callB cd_len g__law_are_spans_right_len c.n_len (by decide +kernel) (jav_cons (JE.v (je_nm n__law_are_spans_right_yards rfl)) fun x1570 => jav_nil)))) (by rfl)) (js_nf [.pot, .val d1360, .val d1389, .unk, .unk, .val d1459, .val d1406, .val d1444, .val d1450, .val d1460, .val d1566, .unk, .unk, .unk] rfl (js_ret (r := Fl.rt) je_bl fun _ => rfl)) (js_end rfl (.e (.e (.e (.u (.u (.e (.e (.e (.e (.e (.e (.u (.u (.u .nil))))))))))))))) (fun a1578 => (js_nf [.pot, .val d1360, .val d1389, .unk, .unk, .val d1459, .val d1406, .val d1444, .val d1450, .val d1460, .val d1566, .unk, .unk, .unk] rfl (js_ifK (emb := (fun a : Unit => [.pot, .val d1360, .val d1389, .unk, .unk, .val d1459, .val d1406, .val d1444, .val d1450, .val d1460, .val d1566, .unk, .unk, .unk])) (jt_val (je_callB (cd_any rfl) g__law_are_spans_right_any c.n_any (by decide +kernel) (jav_cons (JE.v (je_lc rfl sc__law_are_spans_right.nd (ji_seq (je_nm n__law_are_spans_right_spans rfl)) (blk (own := [("one", 12)]) (by kernel_rfl)) (fun _ _ _ _ _ => (pgd_n 12 sc__law_are_spans_right.nd rfl (.inr rfl))) (ji_n fun d1580 => .plain (fun _ _ _ _ _ => je_nf [.pot, .val d1360, .val d1389, .unk, .unk, .val d1459, .val d1406, .val d1444, .val d1450, .val d1460, .val d1566, .unk, .val d1580, .unk] rfl (je_cmp ob_gt (JE.v (je_callB cd_len rfl c.n_len (by decide +kernel) (jav_cons (JE.v (je_lc rfl sc__law_are_spans_right.nd (ji_seq (je_name 10 rfl (.inr (.inl rfl)) rfl)) (blk (own := [("yard", 13)]) (by kernel_rfl)) (fun _ _ _ _ _ => (pgd_n 13 sc__law_are_spans_right.nd rfl (.inl rfl))) (ji_n fun d1582 => .cond (fun _ _ _ _ _ => jt_nf [.pot, .val d1360, .val d1389, .unk, .unk, .val d1459, .val d1406, .val d1444, .val d1450, .val d1460, .val d1566, .unk, .val d1580, .val d1582] rfl (jt_chain ob_le ob_lt (JE.v (je_ix (JE.v (je_name 12 rfl (.inr (.inl rfl)) rfl)) je_int)) (JE.v (je_name 13 rfl (.inl rfl) rfl)) (JE.v (je_ix (JE.v (je_name 12 rfl (.inr (.inl rfl)) rfl)) je_int)))) (fun _ _ _ _ _ => je_nf [.pot, .val d1360, .val d1389, .unk, .unk, .val d1459, .val d1406, .val d1444, .val d1450, .val d1460, .val d1566, .unk, .val d1580, .val d1582] rfl (je_name 13 rfl (.inl rfl) rfl))))) fun x1596 => jav_nil))) (JE.v je_int) (by rfl)))))) fun x1604 => jav_nil))) (js_nf [.pot, .val d1360, .val d1389, .unk, .unk, .val d1459, .val d1406, .val d1444, .val d1450, .val d1460, .val d1566, .unk, .unk, .unk] rfl (js_ret (r := Fl.rt) je_bl fun _ => rfl)) (js_end rfl (.e (.e (.e (.u (.u (.e (.e (.e (.e (.e (.e (.u (.u (.u .nil))))))))))))))) (fun a1608 => (js_end rfl (.e (.e (.e (.u (.u (.e (.e (.e (.e (.e (.u (.u (.u (.u .nil)))))))))))))))) fun _ => rfl))) fun _ => rfl))))) fun _ => rfl))) fun _ => rfl)) (fun a1609 => (js_end rfl (.e (.e (.e (.u (.u (.e (.e (.e (.u (.u (.u (.u (.u (.u .nil)))))))))))))))) fun _ => rfl))) fun _ => rfl)))))) (fun a1612 => (js_nf [.pot, .val d1360, .val d1389, .unk, .unk, .val a1612, .val d1406, .val d1444, .unk, .unk, .unk, .unk, .unk, .unk] rfl (js_ret0 je_bl))) fun _ => rfl)))) fun _ _ => nofun))))))))) fun _ => rfl))))
abbrev s_law : Stmt := topS 55
theorem sc_law : FnScope ["script", "place", "pot", "lap"] ["script"] (defScope s_law) := ⟨rfl, rfl, rfl, by decide +kernel, rfl, by decide +kernel, by decide +kernel⟩
theorem n_law_place : NmF (defScope s_law) ["script", "place", "pot", "lap"] 1 "place" := ⟨rfl, (.inl (by kernel_rfl)), by decide, by decide⟩
theorem n_law_script : NmF (defScope s_law) ["script", "place", "pot", "lap"] 0 "script" := ⟨rfl, (.inl (by kernel_rfl)), by decide, by decide⟩
theorem g_law__law_places : (defScope s_law).names.lookup (("_law_places" : Str)) = some .globalImplicit := by kernel_rfl
theorem g_law__law_pot : (defScope s_law).names.lookup (("_law_pot" : Str)) = some .globalImplicit := by kernel_rfl
theorem g_law_all : (defScope s_law).names.lookup (("all" : Str)) = some .globalImplicit := by kernel_rfl
theorem g_law_range : (defScope s_law).names.lookup (("range" : Str)) = some .globalImplicit := by kernel_rfl
theorem w_law (c : Fx K mg base TT) {fd : FuncData} (Fn : Fun K "law" "law" (topS 55) (He.ga K "law") fd) : FnOk PR w K mg base CX0 9 (He.ga K "law") fd ["script"] (spScr TT K m_law) := by
  refine fn_scr (N := ["script", "place", "pot", "lap"]) (k := 8) Fn sc_law (mb := fun ns ds => match ds with | [] => b_law ns | _ => fail) ?_ ?_
  · intro ns ds r h
    match ds, h with
    | [], h => exact ⟨rfl, h⟩
  · intro ns ds hl
    match ds, hl with
    | [], _ =>
      intro cdv A outer s F E hcd hr
      show JS _ _ _ _ (b_law ns) _
      unfold b_law
      exact js_nf [.scr ns, .unk, .unk, .unk] rfl (js_forK (r := fun d => d) (emb := fun _ : Unit => [.scr ns, .unk, .unk, .unk]) (a0 := ()) PassesOwn.never rfl (ji_seq (je_callSO (w__law_places c) hr (by decide) g_law__law_places n_law_script rfl (ja_cons je_int fun _ => ja_nil))) (pgd_n 1 sc_law.nd rfl (.inl rfl)) (.e (.e (.e (.e .nil)))) (fun _ => ji_n fun d => js_nf [.scr ns, .val d, .unk, .unk] rfl (js_withPot (w__law_pot c) hr (by decide) g_law__law_pot rfl sc_law.nd n_law_script n_law_place (.inr rfl) fun q => (jt_not (jt_val (je_callB (cd_all rfl) g_law_all c.n_all (by decide +kernel) (jav_cons (JE.v (je_lc rfl sc_law.nd (ji_range1 g_law_range c.n_range (ja_cons je_int fun x1615 => ja_nil)) (blk (own := [("lap", 3)]) (by kernel_rfl)) (fun _ _ _ _ _ => (pgd_n 3 sc_law.nd rfl (.inl rfl))) (ji_n fun d1616 => .plain (fun _ _ _ _ _ => je_nf [.unk, .unk, .pot, .val d1616] rfl (je_and (je_callPO (i := 2) (w__law_are_laid_right c) hr (by decide) rfl rfl (.inr (.inl rfl)) rfl ja_nil) (je_one (je_callPO (i := 2) (w__law_are_spans_right c) hr (by decide) rfl rfl (.inr (.inl rfl)) rfl ja_nil))))))) fun x1623 => jav_nil)))))) (fun _ => js_ret0 je_bl) fun _ => rfl)
end
end K22

set_option Elab.async false
set_option linter.all false
set_option maxRecDepth 100000
set_option maxHeartbeats 2000000
/-! DLEval: mirrors reckoned at encoded data. -/
namespace DL
open PySem PySem.Spec PyProof.Rows L2
open PySem.W (Datum Tup)
open PySem.W (DatumOrd)
section
variable {S α β γ : Type}
theorem B_P (x : α) (f : α → M S β) : B (P x) f = f x := by
  funext s
  rfl
theorem L_s (x : α) : (L (some x) : M S α) = P x := by
  funext s
  rfl
theorem B_B (m : M S α) (f : α → M S β) (g : β → M S γ) : B (B m f) g = B m fun x => B (f x) g := by
  funext s
  show (match (match m s with | some (a, s1) => f a s1 | none => none) with | some (a, s1) => g a s1 | none => none) = (match m s with | some (a, s1) => (match f a s1 with | some (b, s2) => g b s2 | none => none) | none => none)
  cases m s with
  | none => rfl
  | some q => rfl
theorem run0_P (x : α) : run0 (P x) = some x := rfl
theorem mNone_P : mNone (P ()) = some .none := rfl
theorem P_ap (x : α) (s : S) : P x s = some (x, s) := rfl
theorem B_ap {m : M S α} {f : α → M S β} {s s1 : S} {x : α} (h : m s = some (x, s1)) : B m f s = f x s1 := by
  unfold B
  rw [h]
theorem ite_and (b c : Bool) : (if b = true then (P (.bool c) : M S D) else P (.bool false)) = P (.bool (b && c)) := by cases b <;> rfl
theorem ite_or (b c : Bool) : (if b = true then (P (.bool true) : M S D) else P (.bool c)) = P (.bool (b || c)) := by cases b <;> rfl
theorem ite_and' (b c : Bool) : (if b = true then (P c : M S Bool) else P false) = P (b && c) := by cases b <;> rfl
theorem ite_or' (b c : Bool) : (if b = true then (P true : M S Bool) else P c) = P (b || c) := by cases b <;> rfl
theorem ite_Pif (b : Bool) (x y : α) : (if b = true then (P x : M S α) else P y) = P (if b = true then x else y) := by cases b <;> rfl
theorem ite_t (x y : α) : (if true = true then x else y) = x := rfl
theorem ite_f (x y : α) : (if false = true then x else y) = y := rfl
theorem boolD_b (b : Bool) : boolD (.bool b) = some b := rfl
theorem lt_ii (i j : Int) : ltB (.int i) (.int j) = some (decide (i < j)) := rfl
theorem le_ii (i j : Int) : leB (.int i) (.int j) = some (decide (i ≤ j)) := rfl
theorem gt_ii (i j : Int) : gtB (.int i) (.int j) = some (decide (j < i)) := rfl
theorem ge_ii (i j : Int) : geB (.int i) (.int j) = some (decide (j ≤ i)) := rfl
theorem add_ii (i j : Int) : addD (.int i) (.int j) = some (.int (i + j)) := rfl
theorem sub_ii (i j : Int) : subD (.int i) (.int j) = some (.int (i - j)) := rfl
theorem neg_i (i : Int) : negD (.int i) = some (.int (-i)) := rfl
theorem mul_ii {i j : Int} (h : (-(2 ^ 64) < i ∧ i < 2 ^ 64) ∨ (-(2 ^ 64) < j ∧ j < 2 ^ 64)) : mulD (.int i) (.int j) = some (.int (i * j)) := if_pos h
theorem div_ii {i j : Int} (h : 0 < j ∧ j < 1073741824) : divD (.int i) (.int j) = some (.int (i / j)) := if_pos h
theorem mod_ii {i j : Int} (h : 0 < j) : modD (.int i) (.int j) = some (.int (i % j)) := if_pos h
theorem part_i (i : Int) : partD (.int i) = some i := rfl
theorem seq_t (xs : List D) : seqD (.tuple xs) = some xs := rfl
theorem seq_l (xs : List D) : seqD (.list xs) = some xs := rfl
theorem tupD_le {xs : List D} (h : xs.length ≤ 16777216) : tupD xs = some (.tuple xs) := if_pos h
theorem lstD_le {xs : List D} (h : xs.length ≤ 16777216) : lstD xs = some (.list xs) := if_pos h
theorem tup2 (x y : D) : tupD [x, y] = some (.tuple [x, y]) := if_pos (by simp)
theorem tup0 : tupD [] = some (.tuple []) := if_pos (by decide)
theorem lst0 : lstD [] = some (.list []) := if_pos (by decide)
theorem lst1 (x : D) : lstD [x] = some (.list [x]) := if_pos (by simp)
theorem lstS0 : lstS [] = some [] := if_pos (by decide)
theorem tup_l (xs : List D) : tupL [.list xs] = some (.tuple xs) := rfl
theorem tup_t (xs : List D) : tupL [.tuple xs] = some (.tuple xs) := rfl
theorem len_t (xs : List D) : lenD [.tuple xs] = some (.int xs.length) := rfl
theorem len_l (xs : List D) : lenD [.list xs] = some (.int xs.length) := rfl
theorem u2_p {f : D → D → M S β} (x y : D) : u2 (.tuple [x, y]) f = f x y := rfl
theorem isi_tt (xs : List D) : isiD "tuple" (.tuple xs) = some (.bool true) := by
  have h : kitB "tuple" "tuple" = some true := by decide +kernel
  unfold isiD tyN
  rw [h]
  rfl
theorem isi_ii (i : Int) : isiD "int" (.int i) = some (.bool true) := by
  have h : kitB "int" "int" = some true := by decide +kernel
  unfold isiD tyN
  rw [h]
  rfl
theorem isi_bi (i : Int) : isiD "bool" (.int i) = some (.bool false) := by
  have h : kitB "int" "bool" = some false := by decide +kernel
  unfold isiD tyN
  rw [h]
  rfl
theorem isi_ss (i : Str) : isiD "str" (.str i) = some (.bool true) := by
  have h : kitB "str" "str" = some true := by decide +kernel
  unfold isiD tyN
  rw [h]
  rfl
/-! ### comprehensions -/
theorem cmp_map {ι : Type} {e : ι → D} {f : D → M S (Option D)} {g : ι → D} : ∀ {xs : List ι}, (∀ x ∈ xs, f (e x) = P (some (g x))) → cmp (xs.map e) f = P (xs.map g)
  | [], _ => rfl
  | x :: xs, h => by
    show (B (f (e x)) fun o => B (cmp (xs.map e) f) fun r => P _) = _
    rw [h x (by simp), B_P, cmp_map fun y hy => h y (by simp [hy]), B_P]
    rfl
theorem cmp_filter {ι : Type} {e : ι → D} {f : D → M S (Option D)} {p : ι → Bool} {g : ι → D} : ∀ {xs : List ι}, (∀ x ∈ xs, f (e x) = if p x = true then P (some (g x)) else P none) → cmp (xs.map e) f = P ((xs.filter p).map g)
  | [], _ => rfl
  | x :: xs, h => by
    show (B (f (e x)) fun o => B (cmp (xs.map e) f) fun r => P _) = _
    rw [h x (by simp), cmp_filter (p := p) (g := g) fun y hy => h y (by simp [hy])]
    cases c : p x
    · rw [if_neg (by simp), B_P, B_P, List.filter_cons_of_neg (by simp [c])]
    · rw [if_pos rfl, B_P, B_P, List.filter_cons_of_pos c]
      rfl
theorem all_bools {ι : Type} (p : ι → Bool) (xs : List ι) : allD [.list (xs.map fun x => .bool (p x))] = some (.bool (xs.all p)) := by
  show (biD (fun ds => ds.all PyData.truthy) (xs.map fun x => .bool (p x))) = _
  unfold biD
  rw [if_pos (by rw [List.all_map]; exact List.all_eq_true.mpr fun _ _ => rfl)]
  show some (PyData.bool ((xs.map fun x => PyData.bool (p x)).all PyData.truthy)) = _
  rw [List.all_map]
  rfl
theorem any_bools {ι : Type} (p : ι → Bool) (xs : List ι) : anyD [.list (xs.map fun x => .bool (p x))] = some (.bool (xs.any p)) := by
  show (biD (fun ds => ds.any PyData.truthy) (xs.map fun x => .bool (p x))) = _
  unfold biD
  rw [if_pos (by rw [List.all_map]; exact List.all_eq_true.mpr fun _ _ => rfl)]
  show some (PyData.bool ((xs.map fun x => PyData.bool (p x)).any PyData.truthy)) = _
  rw [List.any_map]
  rfl
/-! ### numbers -/
def eI (xs : List Int) : List D := xs.map .int
theorem eI_len (xs : List Int) : (eI xs).length = xs.length := by simp [eI]
theorem sum_ints (xs : List Int) : sumL [.list (eI xs)] = some (.int xs.sum) := by
  show (intsOf (xs.map .int)).map _ = _
  rw [intsOf_ints]
  rfl
theorem okD_dat {α : Type} [DecidableEq α] [Datum α] (a : α) (h : Datum.depth α ≤ 40) : okD (Datum.toD a) = true := by
  unfold okD
  rw [Datum.plain, Bool.true_and, decide_eq_true_eq]
  exact Nat.le_trans (Datum.depth_le a) h
theorem eq_dat {α : Type} [DecidableEq α] [Datum α] (a b : α) (h : Datum.depth α ≤ 40) : eqB (Datum.toD a) (Datum.toD b) = some (decide (a = b)) := by
  unfold eqB
  rw [okD_dat a h, okD_dat b h, Datum.eqv]
  rfl
theorem ne_dat {α : Type} [DecidableEq α] [Datum α] (a b : α) (h : Datum.depth α ≤ 40) : neB (Datum.toD a) (Datum.toD b) = some (!decide (a = b)) := by
  unfold neB
  rw [okD_dat a h, okD_dat b h, Datum.eqv]
  rfl
theorem mm_dat {α : Type} [DecidableEq α] [DatumOrd α] (xs : List α) (h : Datum.depth α ≤ 40) : mmOk (xs.map Datum.toD) = true := by
  unfold mmOk
  have a := PySem.W.alikeAll_datum xs
  have d := PySem.W.depthAll_map xs
  simp only [Bool.and_eq_true, decide_eq_true_eq, List.all_eq_true]
  refine ⟨⟨⟨a.1, fun x hx => ?_⟩, PySem.W.plainAll_map xs⟩, by omega⟩
  have := a.2 x hx
  cases x <;> first | rfl | exact absurd rfl this
/-- the least, the greatest -/
def lo : List Int → Int
  | [] => 0
  | x :: xs => xs.foldl min x
def hi : List Int → Int
  | [] => 0
  | x :: xs => xs.foldl max x
theorem min_seq {d : D} {xs : List Int} (hs : seqD d = some (eI xs)) (h : xs ≠ []) : minL [d] = some (.int (lo xs)) := by
  cases xs with
  | nil => exact absurd rfl h
  | cons x r =>
    show (seqD d).bind (mmD PySem.W.minD) = _
    rw [hs]
    show (if mmOk (eI (x :: r)) then some (PySem.W.minD (.int x) (r.map .int)) else none) = _
    rw [if_pos (show mmOk (eI (x :: r)) = true from mm_dat (α := Int) (x :: r) (by decide)), PySem.W.minD_ints]
    rfl
theorem max_seq {d : D} {xs : List Int} (hs : seqD d = some (eI xs)) (h : xs ≠ []) : maxL [d] = some (.int (hi xs)) := by
  cases xs with
  | nil => exact absurd rfl h
  | cons x r =>
    show (seqD d).bind (mmD PySem.W.maxD) = _
    rw [hs]
    show (if mmOk (eI (x :: r)) then some (PySem.W.maxD (.int x) (r.map .int)) else none) = _
    rw [if_pos (show mmOk (eI (x :: r)) = true from mm_dat (α := Int) (x :: r) (by decide)), PySem.W.maxD_ints]
    rfl
theorem foldl_min_le : ∀ (xs : List Int) (x : Int), xs.foldl min x ≤ x ∧ ∀ y ∈ xs, xs.foldl min x ≤ y
  | [], x => ⟨Int.le_refl _, fun _ h => by cases h⟩
  | y :: ys, x => by
    obtain ⟨h1, h2⟩ := foldl_min_le ys (min x y)
    refine ⟨by show ys.foldl min (min x y) ≤ x; omega, fun z hz => ?_⟩
    show ys.foldl min (min x y) ≤ z
    rcases List.mem_cons.mp hz with rfl | hz
    · omega
    · exact h2 z hz
theorem foldl_min_mem : ∀ (xs : List Int) (x : Int), xs.foldl min x = x ∨ xs.foldl min x ∈ xs
  | [], x => .inl rfl
  | y :: ys, x => by
    show ys.foldl min (min x y) = x ∨ ys.foldl min (min x y) ∈ y :: ys
    rcases foldl_min_mem ys (min x y) with h | h
    · rw [h]
      by_cases c : x ≤ y
      · left; omega
      · right; rw [show min x y = y by omega]; exact List.mem_cons_self
    · exact .inr (List.mem_cons_of_mem _ h)
theorem foldl_max_ge : ∀ (xs : List Int) (x : Int), x ≤ xs.foldl max x ∧ ∀ y ∈ xs, y ≤ xs.foldl max x
  | [], x => ⟨Int.le_refl _, fun _ h => by cases h⟩
  | y :: ys, x => by
    obtain ⟨h1, h2⟩ := foldl_max_ge ys (max x y)
    refine ⟨by show x ≤ ys.foldl max (max x y); omega, fun z hz => ?_⟩
    show z ≤ ys.foldl max (max x y)
    rcases List.mem_cons.mp hz with rfl | hz
    · omega
    · exact h2 z hz
theorem foldl_max_mem : ∀ (xs : List Int) (x : Int), xs.foldl max x = x ∨ xs.foldl max x ∈ xs
  | [], x => .inl rfl
  | y :: ys, x => by
    show ys.foldl max (max x y) = x ∨ ys.foldl max (max x y) ∈ y :: ys
    rcases foldl_max_mem ys (max x y) with h | h
    · rw [h]
      by_cases c : y ≤ x
      · left; omega
      · right; rw [show max x y = y by omega]; exact List.mem_cons_self
    · exact .inr (List.mem_cons_of_mem _ h)
theorem lo_mem {xs : List Int} (h : xs ≠ []) : lo xs ∈ xs := by
  cases xs with
  | nil => exact absurd rfl h
  | cons x r =>
    rcases foldl_min_mem r x with e | e
    · show r.foldl min x ∈ _; rw [e]; exact List.mem_cons_self
    · exact List.mem_cons_of_mem _ e
theorem hi_mem {xs : List Int} (h : xs ≠ []) : hi xs ∈ xs := by
  cases xs with
  | nil => exact absurd rfl h
  | cons x r =>
    rcases foldl_max_mem r x with e | e
    · show r.foldl max x ∈ _; rw [e]; exact List.mem_cons_self
    · exact List.mem_cons_of_mem _ e
theorem lo_le {xs : List Int} {y : Int} (h : y ∈ xs) : lo xs ≤ y := by
  cases xs with
  | nil => cases h
  | cons x r =>
    rcases List.mem_cons.mp h with rfl | h
    · exact (foldl_min_le r y).1
    · exact (foldl_min_le r x).2 y h
theorem le_hi {xs : List Int} {y : Int} (h : y ∈ xs) : y ≤ hi xs := by
  cases xs with
  | nil => cases h
  | cons x r =>
    rcases List.mem_cons.mp h with rfl | h
    · exact (foldl_max_ge r y).1
    · exact (foldl_max_ge r x).2 y h
theorem lo_eq {xs : List Int} {y : Int} (h : y ∈ xs) (k : ∀ z ∈ xs, y ≤ z) : lo xs = y := Int.le_antisymm (lo_le h) (k _ (lo_mem (List.ne_nil_of_mem h)))
theorem hi_eq {xs : List Int} {y : Int} (h : y ∈ xs) (k : ∀ z ∈ xs, z ≤ y) : hi xs = y := Int.le_antisymm (k _ (hi_mem (List.ne_nil_of_mem h))) (le_hi h)
theorem min2_e (i j : Int) : min2L [.int i, .int j] = some (.int (min i j)) := by
  show some (PyData.int (if j < i then j else i)) = _
  congr 2
  by_cases c : j < i
  · rw [if_pos c]; omega
  · rw [if_neg c]; omega
theorem max2_e (i j : Int) : max2L [.int i, .int j] = some (.int (max i j)) := by
  show some (PyData.int (if j > i then j else i)) = _
  congr 2
  by_cases c : j > i
  · rw [if_pos c]; omega
  · rw [if_neg c]; omega
theorem ix_nat {xs : List D} {d : D} {i : Int} (h0 : 0 ≤ i) (h1 : i < xs.length) (h : xs[i.toNat]? = some d) : ixD (.tuple xs) (.int i) = some d ∧ ixD (.list xs) (.int i) = some d := by
  have e : atI xs i = some d := by
    unfold atI ixN
    rw [if_pos h0, if_pos h1]
    exact h
  exact ⟨e, e⟩
end
end DL

set_option Elab.async false
set_option linter.all false
set_option maxRecDepth 100000
set_option maxHeartbeats 2000000
/-! DLEval2: loops that gather, slices, counted lists. -/
namespace DL
open PySem PySem.Spec PyProof.Rows L2
open PySem.W (Datum Tup DatumOrd)
section
variable {S : Type}
theorem appL_lt {xs : List D} {d : D} (h : xs.length < 16777216) : appL xs d = some (xs ++ [d]) := if_pos h
theorem fold_app {ι : Type} {e : ι → D} {g : ι → List D} {f : List D → D → M S (List D)} (hg : ∀ x, (g x).length ≤ 1) : ∀ {xs : List ι} {a0 : List D}, (∀ (a : List D) x, x ∈ xs → a.length < 16777216 → f a (e x) = P (a ++ g x)) → a0.length + xs.length ≤ 16777216 → foldS (xs.map e) a0 f = P (a0 ++ xs.flatMap g)
  | [], a0, _, _ => by
    show P a0 = _
    rw [List.flatMap_nil, List.append_nil]
  | x :: xs, a0, h, hl => by
    show (B (f a0 (e x)) fun a => foldS (xs.map e) a f) = _
    rw [List.length_cons] at hl
    rw [h a0 x (by simp) (by omega), B_P, fold_app hg (fun a y hy => h a y (by simp [hy])) (by rw [List.length_append]; have := hg x; omega), List.flatMap_cons, List.append_assoc]
theorem flat_one {ι : Type} (g : ι → D) (xs : List ι) : (xs.flatMap fun x => [g x]) = xs.map g := by
  induction xs with
  | nil => rfl
  | cons x xs ih => rw [List.flatMap_cons, ih]; rfl
theorem flat_if {ι : Type} (p : ι → Bool) (g : ι → D) (xs : List ι) : (xs.flatMap fun x => if p x = true then [g x] else []) = (xs.filter p).map g := by
  induction xs with
  | nil => rfl
  | cons x xs ih =>
    rw [List.flatMap_cons, ih]
    cases c : p x
    · rw [if_neg (by simp), List.filter_cons_of_neg (by simp [c])]; rfl
    · rw [if_pos rfl, List.filter_cons_of_pos c]; rfl
theorem sorted_e (xs : List Int) : sortedL [.list (eI xs)] = some (.list (eI (sortI xs))) := by
  show (intsOf (xs.map .int)).map _ = _
  rw [intsOf_ints]
  rfl
/-- whole numbers from a up to b -/
def yards (a b : Int) : List Int := (List.range (b - a).toNat).map fun i => a + (i : Nat)
theorem yards_mem {a b y : Int} : y ∈ yards a b ↔ a ≤ y ∧ y < b := by
  unfold yards
  rw [List.mem_map]
  constructor
  · rintro ⟨i, hi, rfl⟩
    have := List.mem_range.mp hi
    omega
  · rintro ⟨h1, h2⟩
    exact ⟨(y - a).toNat, List.mem_range.mpr (by omega), by omega⟩
theorem yards_len (a b : Int) : (yards a b).length = (b - a).toNat := by simp [yards]
theorem yards_get {a b : Int} {i : Nat} (h : i < (b - a).toNat) : (yards a b)[i]? = some (a + (i : Nat)) := by simp [yards, h]
theorem rgL_y (a b : Int) : rgL a b = eI (yards a b) := by
  unfold rgL yards eI
  rw [List.map_map]
  rfl
theorem range2_e {a b : Int} (h1 : -(2 ^ 62) ≤ a ∧ a < 2 ^ 62) (h2 : -(2 ^ 62) ≤ b ∧ b < 2 ^ 62) : range2L [.int a, .int b] = some (eI (yards a b)) := by
  rw [← rgL_y]
  exact if_pos ⟨h1.1, h1.2, h2.1, h2.2⟩
theorem range1_e {b : Int} (h2 : -(2 ^ 62) ≤ b ∧ b < 2 ^ 62) : range1L [.int b] = some (eI (yards 0 b)) := by
  rw [← rgL_y]
  exact if_pos h2
theorem enum_y (a b : Int) (e : Int → D) : enumL ((yards a b).map e) = (yards a b).map fun y => .tuple [.int (y - a), e y] := by
  apply List.ext_getElem?
  intro i
  by_cases c : i < (b - a).toNat
  · have h1 : ((yards a b).map e)[i]? = some (e (a + (i : Nat))) := by rw [List.getElem?_map, yards_get c]; rfl
    rw [enumL_get h1, List.getElem?_map, yards_get c]
    show some (PyData.tuple [.int (i : Nat), e (a + (i : Nat))]) = some (PyData.tuple [.int (a + (i : Nat) - a), e (a + (i : Nat))])
    rw [show a + (i : Nat) - a = (i : Int) by omega]
  · rw [List.getElem?_eq_none (by rw [enumL_length, List.length_map, yards_len]; omega), List.getElem?_eq_none (by rw [List.length_map, yards_len]; omega)]
theorem enum_i (xs : List D) : enumL xs = (yards 0 xs.length).map fun i => .tuple [.int i, xs.getD i.toNat .none] := by
  apply List.ext_getElem?
  intro i
  by_cases c : i < xs.length
  · rw [enumL_get (List.getElem?_eq_getElem c), List.getElem?_map, yards_get (by omega)]
    show some (PyData.tuple [.int (i : Nat), xs[i]]) = some (PyData.tuple [.int (0 + (i : Nat)), xs.getD ((0 : Int) + (i : Nat)).toNat .none])
    rw [List.getD_eq_getElem?_getD, show ((0 : Int) + (i : Nat)).toNat = i by omega, List.getElem?_eq_getElem c, show (0 : Int) + (i : Nat) = (i : Int) by omega]
    rfl
  · rw [List.getElem?_eq_none (by rw [enumL_length]; omega), List.getElem?_eq_none (by rw [List.length_map, yards_len]; omega)]
theorem cmp_ints {f : D → M S (Option D)} {g : Int → D} {xs : List Int} (h : ∀ x ∈ xs, f (.int x) = P (some (g x))) : cmp (eI xs) f = P (xs.map g) := cmp_map h
theorem eI_map {ι : Type} (f : ι → Int) (xs : List ι) : (xs.map fun x => PyData.int (f x)) = eI (xs.map f) := by
  unfold eI
  rw [List.map_map]
  rfl
theorem eqT (xs ys : List Int) : eqB (.tuple (eI xs)) (.tuple (eI ys)) = some (decide (xs = ys)) := by
  have h := eq_dat (Tup.mk xs) (Tup.mk ys) (by decide)
  have e : decide (Tup.mk xs = Tup.mk ys) = decide (xs = ys) := by
    rw [Bool.eq_iff_iff, decide_eq_true_eq, decide_eq_true_eq]
    exact ⟨fun h => congrArg Tup.items h, fun h => congrArg Tup.mk h⟩
  rw [← e]
  exact h
theorem neT (xs ys : List Int) : neB (.tuple (eI xs)) (.tuple (eI ys)) = some (!decide (xs = ys)) := by
  have h := ne_dat (Tup.mk xs) (Tup.mk ys) (by decide)
  have e : decide (Tup.mk xs = Tup.mk ys) = decide (xs = ys) := by
    rw [Bool.eq_iff_iff, decide_eq_true_eq, decide_eq_true_eq]
    exact ⟨fun h => congrArg Tup.items h, fun h => congrArg Tup.mk h⟩
  rw [← e]
  exact h
theorem neP (a b c d : Int) : neB (.tuple [.int a, .int b]) (.tuple [.int c, .int d]) = some (!decide (a = c ∧ b = d)) := by
  have h := ne_dat (a, b) (c, d) (by decide)
  have e : decide ((a, b) = (c, d)) = decide (a = c ∧ b = d) := by
    rw [Bool.eq_iff_iff, decide_eq_true_eq, decide_eq_true_eq]
    exact Prod.mk.injEq _ _ _ _ ▸ Iff.rfl
  rw [← e]
  exact h
/-! ### slices of natural bounds -/
theorem sIx_some (n d : Nat) (i : Int) (h : 0 ≤ i) : HT.sIx n d (some i) = min i.toNat n := by
  have := HT.sIx_nat n d i.toNat
  rw [show ((i.toNat : Nat) : Int) = i by omega] at this
  exact this
theorem cut_both {α : Type} (xs : List α) {a b : Int} (h0 : 0 ≤ a) (h1 : a ≤ b) (h2 : b ≤ xs.length) : cutL xs (some a) (some b) = (xs.drop a.toNat).take (b - a).toNat := by
  unfold cutL
  rw [sIx_some _ _ _ h0, sIx_some _ _ _ (by omega)]
  rw [show min a.toNat xs.length = a.toNat by omega, show min b.toNat xs.length - a.toNat = (b - a).toNat by omega]
theorem cut_to {α : Type} (xs : List α) {b : Int} (h1 : 0 ≤ b) (h2 : b ≤ xs.length) : cutL xs none (some b) = xs.take b.toNat := by
  unfold cutL
  rw [sIx_some _ _ _ h1, HT.sIx_none]
  rw [List.drop_zero, show min b.toNat xs.length - 0 = b.toNat by omega]
theorem cut_from {α : Type} (xs : List α) {a : Int} (h1 : 0 ≤ a) (h2 : a ≤ xs.length) : cutL xs (some a) none = xs.drop a.toNat := by
  unfold cutL
  rw [sIx_some _ _ _ h1, HT.sIx_none]
  rw [show min a.toNat xs.length = a.toNat by omega]
  rw [show xs.length - a.toNat = (xs.drop a.toNat).length by rw [List.length_drop], List.take_length]
theorem slice_t (xs : List D) (l h : Option Int) : sliceD (.tuple xs) l h = some (.tuple (cutL xs l h)) := rfl
theorem slice_l (xs : List D) (l h : Option Int) : sliceD (.list xs) l h = some (.list (cutL xs l h)) := rfl
end
end DL

set_option Elab.async false
set_option linter.all false
set_option maxRecDepth 100000
set_option maxHeartbeats 2000000
/-! DLEval3: zip, pairs, options. -/
namespace DL
open PySem PySem.Spec PyProof.Rows L2
open PySem.W (Datum Tup DatumOrd)
section
variable {S : Type}
def eP (p : Int × Int) : D := .tuple [.int p.1, .int p.2]
def eO : Option (Int × Int) → D
  | none => .none
  | some p => eP p
theorem pairs2_map {ι κ : Type} (f : ι → D) (g : κ → D) : ∀ (xs : List ι) (ys : List κ), pairs2 (xs.map f) (ys.map g) = (xs.zip ys).map fun p => .tuple [f p.1, g p.2]
  | [], _ => by simp [pairs2]
  | _ :: _, [] => by simp [pairs2]
  | x :: xs, y :: ys => by
    show PyData.tuple [f x, g y] :: pairs2 (xs.map f) (ys.map g) = _
    rw [pairs2_map f g xs ys]
    rfl
theorem zip_tt (xs ys : List D) : zipL [.tuple xs, .tuple ys] = some (pairs2 xs ys) := rfl
theorem zip_ll (xs ys : List D) : zipL [.list xs, .list ys] = some (pairs2 xs ys) := rfl
theorem pairs_eI (xs ys : List Int) : pairs2 (eI xs) (eI ys) = (xs.zip ys).map eP := pairs2_map _ _ xs ys
theorem eqLI (xs ys : List Int) : neB (.list (eI xs)) (.list (eI ys)) = some (!decide (xs = ys)) := ne_dat xs ys (by decide)
theorem eqO (a b : Option (Int × Int)) : eqB (eO a) (eO b) = some (decide (a = b)) := by
  have h := eq_dat a b (by decide)
  have e : ∀ o : Option (Int × Int), Datum.toD o = eO o := fun o => by cases o <;> rfl
  rw [e, e] at h
  exact h
theorem neO (a b : Option (Int × Int)) : neB (eO a) (eO b) = some (!decide (a = b)) := by
  have h := ne_dat a b (by decide)
  have e : ∀ o : Option (Int × Int), Datum.toD o = eO o := fun o => by cases o <;> rfl
  rw [e, e] at h
  exact h
theorem isO (a : Option (Int × Int)) : isB (eO a) .none = some a.isNone := by cases a <;> rfl
theorem isntO (a : Option (Int × Int)) : isntB (eO a) .none = some a.isSome := by cases a <;> rfl
theorem neBs (xs ys : List (Int × Int)) : neB (.tuple (xs.map eP)) (.tuple (ys.map eP)) = some (!decide (xs = ys)) := by
  have h := ne_dat (Tup.mk xs) (Tup.mk ys) (by decide)
  have e : decide (Tup.mk xs = Tup.mk ys) = decide (xs = ys) := by
    rw [Bool.eq_iff_iff, decide_eq_true_eq, decide_eq_true_eq]
    exact ⟨fun h => congrArg Tup.items h, fun h => congrArg Tup.mk h⟩
  rw [← e]
  exact h
theorem eqBs (xs ys : List (Int × Int)) : eqB (.tuple (xs.map eP)) (.tuple (ys.map eP)) = some (decide (xs = ys)) := by
  have h := eq_dat (Tup.mk xs) (Tup.mk ys) (by decide)
  have e : decide (Tup.mk xs = Tup.mk ys) = decide (xs = ys) := by
    rw [Bool.eq_iff_iff, decide_eq_true_eq, decide_eq_true_eq]
    exact ⟨fun h => congrArg Tup.items h, fun h => congrArg Tup.mk h⟩
  rw [← e]
  exact h
theorem ix0 (a b : D) : ixD (.tuple [a, b]) (.int 0) = some a := rfl
theorem ix1 (a b : D) : ixD (.tuple [a, b]) (.int 1) = some b := rfl
theorem abs_i (i : Int) : absL [.int i] = some (.int (if i < 0 then -i else i)) := rfl
theorem int_i (i : Int) : intL [.int i] = some (.int i) := rfl
theorem rev_t (xs : List D) : revD (.tuple xs) = some (.tuple xs.reverse) := rfl
theorem add_tt (xs ys : List D) (h : xs.length + ys.length ≤ 16777216) : addD (.tuple xs) (.tuple ys) = some (.tuple (xs ++ ys)) := if_pos h
theorem add_ll (xs ys : List D) (h : xs.length + ys.length ≤ 16777216) : addD (.list xs) (.list ys) = some (.list (xs ++ ys)) := if_pos h
theorem eq_bb (a b : Bool) : eqB (.bool a) (.bool b) = some (decide (a = b)) := eq_dat a b (by decide)
theorem ne_bb (a b : Bool) : neB (.bool a) (.bool b) = some (!decide (a = b)) := ne_dat a b (by decide)
theorem ne_ii (a b : Int) : neB (.int a) (.int b) = some (!decide (a = b)) := ne_dat a b (by decide)
theorem eq_ii (a b : Int) : eqB (.int a) (.int b) = some (decide (a = b)) := eq_dat a b (by decide)
theorem eq_ss (a b : Str) : eqB (.str a) (.str b) = some (decide (a = b)) := eq_dat a b (by decide)
theorem in_tI (k : Int) (xs : List Int) : inB (.int k) (.tuple (eI xs)) = some (decide (k ∈ xs)) := by
  have p : PyData.plainAll (eI xs) = true := PySem.W.plainAll_map xs
  have d : PyData.depthAll (eI xs) ≤ 40 := Nat.le_trans (PySem.W.depthAll_map xs) (by decide)
  have o : okD (.int k) = true := okD_dat k (by decide)
  show (if memOk (.int k) (eI xs) = true then some ((eI xs).any fun y => PyData.eqv y (.int k)) else none) = _
  rw [if_pos (by unfold memOk; rw [o, p, decide_eq_true d]; rfl)]
  exact congrArg some (PySem.W.any_datum xs k)
/-- maximum over pairs -/
theorem max_pairs {d : D} {x : Int × Int} {xs : List (Int × Int)} (hs : seqD d = some ((x :: xs).map eP)) : maxL [d] = some (eP (PySem.W.maxOf x xs)) := by
  show (seqD d).bind (mmD PySem.W.maxD) = _
  rw [hs]
  show (if mmOk ((x :: xs).map eP) then some (PySem.W.maxD (eP x) (xs.map eP)) else none) = _
  rw [if_pos (show mmOk ((x :: xs).map eP) = true from mm_dat (α := Int × Int) (x :: xs) (by decide))]
  exact congrArg some (PySem.W.maxD_map x xs)
/-- lexicographic order -/
def ltP (p q : Int × Int) : Prop := p.1 < q.1 ∨ (p.1 = q.1 ∧ p.2 < q.2)
theorem lt_ltP (p q : Int × Int) : DatumOrd.lt p q = true ↔ ltP p q := by
  show (if p.1 = q.1 then decide (p.2 < q.2) else decide (p.1 < q.1)) = true ↔ _
  unfold ltP
  by_cases h : p.1 = q.1
  · rw [if_pos h]; simp [h]
  · rw [if_neg h]; simp [h]
theorem maxOf_mem (x : Int × Int) (xs : List (Int × Int)) : PySem.W.maxOf x xs ∈ x :: xs := by
  unfold PySem.W.maxOf
  induction xs generalizing x with
  | nil => simp
  | cons y ys ih =>
    rw [List.foldl_cons]
    by_cases c : DatumOrd.lt x y = true
    · rw [if_pos c]; exact List.mem_cons_of_mem _ (ih y)
    · rw [if_neg c]
      rcases List.mem_cons.mp (ih x) with e | e
      · rw [e]; exact List.mem_cons_self
      · exact List.mem_cons_of_mem _ (List.mem_cons_of_mem _ e)
theorem maxOf_ge (x : Int × Int) (xs : List (Int × Int)) : ∀ y ∈ x :: xs, ¬ ltP (PySem.W.maxOf x xs) y := by
  unfold PySem.W.maxOf
  induction xs generalizing x with
  | nil =>
    intro y hy
    rw [List.mem_singleton.mp hy]
    intro q
    have q : ltP x x := q
    unfold ltP at q
    omega
  | cons z zs ih =>
    intro y hy
    rw [List.foldl_cons]
    have key : ∀ w, ¬ ltP (zs.foldl (fun a y => if DatumOrd.lt a y = true then y else a) w) w := fun w => ih w w List.mem_cons_self
    by_cases c : DatumOrd.lt x z = true
    · rw [if_pos c]
      rcases List.mem_cons.mp hy with rfl | hy
      · have k := key z
        have c' := (lt_ltP y z).mp c
        unfold ltP at *
        omega
      · exact ih z y hy
    · rw [if_neg c]
      rcases List.mem_cons.mp hy with rfl | hy
      · exact key y
      · rcases List.mem_cons.mp hy with rfl | hy
        · have k := key x
          have c' : ¬ ltP x y := fun q => c ((lt_ltP x y).mpr q)
          unfold ltP at *
          omega
        · exact ih x y (List.mem_cons_of_mem _ hy)
end
end DL

set_option Elab.async false
set_option linter.all false
set_option maxRecDepth 100000
set_option maxHeartbeats 2000000
/-! DLEval4: loops along a row of states. -/
namespace DL
open PySem PySem.Spec PyProof.Rows L2
section
variable {S α β : Type}
theorem kF_nx (f : α → M S β) (r : D → β) (a : α) : kF f r (.nx a) = f a := rfl
theorem foldS_seq {f : α → D → M S α} {g : Nat → α} : ∀ (ds : List D) (k : Nat), (∀ i d, ds[i]? = some d → f (g (k + i)) d = P (g (k + i + 1))) → foldS ds (g k) f = P (g (k + ds.length))
  | [], k, _ => rfl
  | d :: ds, k, h => by
    show (B (f (g k) d) fun a => foldS ds a f) = _
    rw [show f (g k) d = P (g (k + 1)) from h 0 d rfl, B_P, foldS_seq ds (k + 1) fun i x hx => by
      have := h (i + 1) x (by simpa using hx)
      rw [show k + 1 + i = k + (i + 1) by omega]
      exact this]
    rw [List.length_cons, show k + 1 + ds.length = k + (ds.length + 1) by omega]
theorem foldF_seq {f : α → D → M S (Fl α)} {g : Nat → α} : ∀ (ds : List D) (k : Nat), (∀ i d, ds[i]? = some d → f (g (k + i)) d = P (.nx (g (k + i + 1)))) → foldF ds (g k) f = P (.nx (g (k + ds.length)))
  | [], k, _ => rfl
  | d :: ds, k, h => by
    show (B (f (g k) d) fun
      | .nx a => foldF ds a f
      | .bk a => P (.nx a)
      | .rt d => P (.rt d)) = _
    rw [show f (g k) d = P (.nx (g (k + 1))) from h 0 d rfl, B_P]
    show foldF ds (g (k + 1)) f = _
    rw [foldF_seq ds (k + 1) fun i x hx => by
      have := h (i + 1) x (by simpa using hx)
      rw [show k + 1 + i = k + (i + 1) by omega]
      exact this]
    rw [List.length_cons, show k + 1 + ds.length = k + (ds.length + 1) by omega]
theorem foldS_at {f : α → D → M S α} {g : Nat → α} (ds : List D) (a0 : α) (h0 : a0 = g 0) (h : ∀ i d, ds[i]? = some d → f (g i) d = P (g (i + 1))) : foldS ds a0 f = P (g ds.length) := by
  rw [h0]
  have := foldS_seq (f := f) (g := g) ds 0 fun i d hd => by
    rw [Nat.zero_add]
    exact h i d hd
  rw [Nat.zero_add] at this
  exact this
theorem foldF_at {f : α → D → M S (Fl α)} {g : Nat → α} (ds : List D) (a0 : α) (h0 : a0 = g 0) (h : ∀ i d, ds[i]? = some d → f (g i) d = P (.nx (g (i + 1)))) : foldF ds a0 f = P (.nx (g ds.length)) := by
  rw [h0]
  have := foldF_seq (f := f) (g := g) ds 0 fun i d hd => by
    rw [Nat.zero_add]
    exact h i d hd
  rw [Nat.zero_add] at this
  exact this
theorem yards_at {a b : Int} {i : Nat} {ι : Type} {e : Int → ι} {d : ι} (h : ((yards a b).map e)[i]? = some d) : d = e (a + (i : Nat)) ∧ (i : Int) < b - a := by
  by_cases c : i < (b - a).toNat
  · rw [List.getElem?_map, yards_get c] at h
    exact ⟨(Option.some.inj h).symm, by omega⟩
  · rw [List.getElem?_eq_none (by rw [List.length_map, yards_len]; omega)] at h
    cases h
theorem ix_y {a b i : Int} (e : Int → D) (h0 : 0 ≤ i) (h1 : i < b - a) : ixD (.list ((yards a b).map e)) (.int i) = some (e (a + i)) ∧ ixD (.tuple ((yards a b).map e)) (.int i) = some (e (a + i)) := by
  have k := ix_nat (xs := (yards a b).map e) (i := i) (d := e (a + i)) h0 (by rw [List.length_map, yards_len]; omega) (by
    rw [List.getElem?_map, yards_get (by omega)]
    show some (e (a + (i.toNat : Int))) = _
    rw [show ((i.toNat : Nat) : Int) = i by omega])
  exact ⟨k.2, k.1⟩
theorem yards_set {a b i : Int} {F G : Int → D} {d : D} (h0 : 0 ≤ i) (h1 : i < b - a) (hd : G (a + i) = d) (hG : ∀ y, y ≠ a + i → G y = F y) : ((yards a b).map F).set i.toNat d = (yards a b).map G := by
  apply List.ext_getElem?
  intro j
  by_cases c : j < (b - a).toNat
  · by_cases e : i.toNat = j
    · rw [← e, List.getElem?_set_self (by rw [List.length_map, yards_len]; omega), List.getElem?_map, yards_get (by omega)]
      show some d = some (G (a + (i.toNat : Int)))
      rw [show ((i.toNat : Nat) : Int) = i by omega, hd]
    · rw [List.getElem?_set_ne e, List.getElem?_map, List.getElem?_map, yards_get c]
      show some (F (a + (j : Int))) = some (G (a + (j : Int)))
      rw [hG _ (by omega)]
  · rw [List.getElem?_eq_none (by rw [List.length_set, List.length_map, yards_len]; omega), List.getElem?_eq_none (by rw [List.length_map, yards_len]; omega)]
theorem foldF_unit {f : Unit → D → M S (Fl Unit)} {ds : List D} (h : ∀ d ∈ ds, f () d = P (.nx ())) : foldF ds () f = P (.nx ()) :=
  foldF_seq (g := fun _ => ()) ds 0 fun i d hd => h d (List.mem_of_getElem? hd)
theorem yards_succ (n : Nat) : yards 0 ((n : Int) + 1) = yards 0 n ++ [(n : Int)] := by
  unfold yards
  rw [show ((n : Int) + 1 - 0).toNat = n + 1 by omega, show ((n : Int) - 0).toNat = n by omega, List.range_succ, List.map_append]
  simp
theorem enumT_t (xs : List D) : enumTD [.tuple xs] = some (enumL xs) := rfl
theorem setL_nat {xs : List D} {i : Int} {d : D} (h0 : 0 ≤ i) (h1 : i < xs.length) : setL xs (.int i) d = some (xs.set i.toNat d) := by
  show (ixN xs.length i).map _ = _
  unfold ixN
  rw [if_pos h0, if_pos h1]
  rfl
theorem ext_l (a zs : List D) (h : a.length + zs.length ≤ 16777216) : ((lstOf (.list zs)).bind fun zs => extL a zs) = some (a ++ zs) := if_pos h
theorem isB_n : isB .none .none = some true := rfl
end
end DL

set_option Elab.async false
set_option linter.all false
set_option maxRecDepth 100000
set_option maxHeartbeats 1000000
/-! DLEval5: the carried numbers, whatever the law's own numbers are. -/
namespace DL
open PySem PySem.Spec PyProof.Rows L2
structure PI (k : Int) (s : Pot) : Prop where
  a0 : 0 ≤ s.a
  b0 : 0 ≤ s.b
  b1 : s.b < 2305843009213693921
  c0 : 0 ≤ s.c
  c1 : s.c ≤ k
theorem PI.mono {k j : Int} {s : Pot} (h : PI k s) (hj : k ≤ j) : PI j s := ⟨h.a0, h.b0, h.b1, h.c0, Int.le_trans h.c1 hj⟩
theorem get0 {α : Type} (f : D → M Pot α) (s : Pot) : B (getP 0) f s = f (.int s.a) s := (rfl)
theorem get1 {α : Type} (f : D → M Pot α) (s : Pot) : B (getP 1) f s = f (.int s.b) s := (rfl)
theorem get2 {α : Type} (f : D → M Pot α) (s : Pot) : B (getP 2) f s = f (.int s.c) s := (rfl)
theorem put0 {α : Type} (v : Int) (f : Unit → M Pot α) (s : Pot) : B (putP 0 (.int v)) f s = f () ⟨v, s.b, s.c⟩ := (rfl)
theorem put2 {α : Type} (v : Int) (f : Unit → M Pot α) (s : Pot) : B (putP 2 (.int v)) f s = f () ⟨s.a, s.b, v⟩ := (rfl)
theorem bits_le {i : Int} (h0 : 0 ≤ i) (h1 : i < 2 ^ 64) : (Builtin.Int.intBits i : Int) ≤ 64 := by
  unfold Builtin.Int.intBits
  split
  · decide
  · rename_i c
    have hn : i.natAbs ≠ 0 := fun e => c (by simp; omega)
    have := (Nat.log2_lt hn (k := 64)).mpr (by omega)
    omega
theorem pow3 {i : Int} (h0 : 0 ≤ i) (h1 : i < 2 ^ 64) : powD (.int i) (.int 3) = some (.int (i ^ 3)) := by
  have := bits_le h0 h1
  exact if_pos ⟨by omega, by omega⟩
theorem primes {c : Int} (h : 0 ≤ c) : ∃ p : Int, ixD (.list [.int 2147483647, .int 2147483629, .int 2147483587, .int 2147483579, .int 2147483563]) (.int (c % 5)) = some (.int p) ∧ 0 < p ∧ p < 2 ^ 31 := by
  have h5 : c % 5 = 0 ∨ c % 5 = 1 ∨ c % 5 = 2 ∨ c % 5 = 3 ∨ c % 5 = 4 := by omega
  rcases h5 with e | e | e | e | e <;> rw [e]
  · exact ⟨2147483647, rfl, by decide, by decide⟩
  · exact ⟨2147483629, rfl, by decide, by decide⟩
  · exact ⟨2147483587, rfl, by decide, by decide⟩
  · exact ⟨2147483579, rfl, by decide, by decide⟩
  · exact ⟨2147483563, rfl, by decide, by decide⟩
theorem zipA_tt (xs ys : List D) : zipA [.tuple xs, .tuple ys] = some (pairs2 xs ys) := rfl
theorem zipA_ll (xs ys : List D) : zipA [.list xs, .list ys] = some (pairs2 xs ys) := rfl
theorem zipA_tl (xs ys : List D) : zipA [.tuple xs, .list ys] = some (pairs2 xs ys) := rfl
theorem lst5 (a b c d e : D) : lstD [a, b, c, d, e] = some (.list [a, b, c, d, e]) := if_pos (by simp)
theorem lst3 (x y z : D) : lstD [x, y, z] = some (.list [x, y, z]) := if_pos (by simp)
theorem mulT_i (i : Int) (b : D) : mulT (.int i) b = mulD (.int i) b := by cases b <;> rfl
theorem pw {i j : Int} (h : 0 ≤ j ∧ (Builtin.Int.intBits i : Int) * j ≤ 2 ^ 27) : powD (.int i) (.int j) = some (.int (i ^ j.toNat)) := if_pos h
theorem pow_a : ∃ A Z : Int, powD (.int 10) (.int 60) = some (.int A) ∧ powD (.int A) (.int 5) = some (.int Z) ∧ 0 < Z :=
  ⟨10 ^ (60 : Int).toNat, (10 ^ (60 : Int).toNat) ^ (5 : Int).toNat, pw (by decide +kernel), pw (by decide +kernel), by decide +kernel⟩
theorem pow_b : ∃ A : Int, powD (.int 10) (.int 18) = some (.int A) := ⟨10 ^ (18 : Int).toNat, pw (by decide +kernel)⟩
def bit (b : Bool) : Int := if b = true then 1 else 0
theorem bit_bd (b : Bool) : 0 ≤ bit b ∧ bit b ≤ 1 := by cases b <;> decide
theorem int_b (b : Bool) : intL [.bool b] = some (.int (bit b)) := by cases b <;> rfl
def ab (i : Int) : Int := if i < 0 then -i else i
theorem abs_ab (i : Int) : absL [.int i] = some (.int (ab i)) := rfl
/-- a comprehension that draws -/
theorem cmp_st {ι : Type} {e : ι → D} {f : D → M Pot (Option D)} {R : ι → Prop} {st N : Int} (h0 : 0 ≤ st) : ∀ (ds : List D) (k : Int) (s : Pot), PI k s → k + ds.length * st ≤ N →
    (∀ d ∈ ds, ∀ (k : Int) (s : Pot), PI k s → k + st ≤ N → ∃ (x : ι) (s' : Pot), f d s = some (some (e x), s') ∧ R x ∧ PI (k + st) s') →
    ∃ (xs : List ι) (s' : Pot), cmp ds f s = some (xs.map e, s') ∧ xs.length = ds.length ∧ (∀ x ∈ xs, R x) ∧ PI (k + ds.length * st) s'
  | [], k, s, hs, _, _ => ⟨[], s, rfl, rfl, ⟨by simp, by simpa using hs⟩⟩
  | d :: ds, k, s, hs, hN, h => by
    have hl : ((d :: ds).length : Int) * st = st + ds.length * st := by
      rw [List.length_cons, Int.natCast_add, Int.add_mul]
      omega
    have hp : 0 ≤ (ds.length : Int) * st := Int.mul_nonneg (by omega) h0
    obtain ⟨x, s1, e1, r1, p1⟩ := h d (by simp) k s hs (by omega)
    obtain ⟨xs, s2, e2, l2, r2, p2⟩ := cmp_st h0 ds (k + st) s1 p1 (by omega) fun d hd => h d (by simp [hd])
    refine ⟨x :: xs, s2, ?_, by simp [l2], fun y hy => ?_, p2.mono (by omega)⟩
    · show (B (f d) fun o => B (cmp ds f) fun r => P _) s = _
      rw [B_ap e1, B_ap e2]
      rfl
    · rcases List.mem_cons.mp hy with rfl | hy
      · exact r1
      · exact r2 y hy
/-- a loop that draws and appends -/
theorem fold_st {ι : Type} {e : ι → D} {f : List D → D → M Pot (List D)} {R : ι → Prop} {st N : Int} (h0 : 0 ≤ st) : ∀ (ds : List D) (a : List D) (k : Int) (s : Pot), PI k s → k + ds.length * st ≤ N → a.length + ds.length ≤ 1000 →
    (∀ d ∈ ds, ∀ (a : List D) (k : Int) (s : Pot), PI k s → k + st ≤ N → a.length < 1000 → ∃ (x : ι) (s' : Pot), f a d s = some (a ++ [e x], s') ∧ R x ∧ PI (k + st) s') →
    ∃ (xs : List ι) (s' : Pot), foldS ds a f s = some (a ++ xs.map e, s') ∧ xs.length = ds.length ∧ (∀ x ∈ xs, R x) ∧ PI (k + ds.length * st) s'
  | [], a, k, s, hs, _, _, _ => ⟨[], s, by simp [foldS, P], rfl, ⟨by simp, by simpa using hs⟩⟩
  | d :: ds, a, k, s, hs, hN, hL, h => by
    have hl : ((d :: ds).length : Int) * st = st + ds.length * st := by
      rw [List.length_cons, Int.natCast_add, Int.add_mul]
      omega
    have hp : 0 ≤ (ds.length : Int) * st := Int.mul_nonneg (by omega) h0
    rw [List.length_cons] at hL
    obtain ⟨x, s1, e1, r1, p1⟩ := h d (by simp) a k s hs (by omega) (by omega)
    obtain ⟨xs, s2, e2, l2, r2, p2⟩ := fold_st h0 ds (a ++ [e x]) (k + st) s1 p1 (by omega) (by simp; omega) fun d hd => h d (by simp [hd])
    refine ⟨x :: xs, s2, ?_, by simp [l2], fun y hy => ?_, p2.mono (by omega)⟩
    · show (B (f a d) fun a => foldS ds a f) s = _
      rw [B_ap e1, e2]
      simp
    · rcases List.mem_cons.mp hy with rfl | hy
      · exact r1
      · exact r2 y hy
/-- all laps of a place say yes -/
theorem laps_all {f : D → M Pot (Option D)} {ds : List D} {st : Pot} (hp : PI 0 st) (hl : ds.length ≤ 10) (h : ∀ d ∈ ds, ∀ (k : Int) (s : Pot), PI k s → k + 90000 ≤ 900000 → ∃ s', f d s = some (some (.bool true), s') ∧ PI (k + 90000) s') :
    ∃ s', B (cmp ds f) (fun o => B (L (lstD o)) fun x => L (allD [x])) st = some (.bool true, s') := by
  obtain ⟨xs, s', e, l, r, p⟩ := cmp_st (e := fun b : Bool => (.bool b : D)) (R := fun b : Bool => b = true) (st := 90000) (N := 900000) (f := f) (by decide) ds 0 st hp (by omega) fun d hd k s hs hk => by
    obtain ⟨s1, e1, p1⟩ := h d hd k s hs hk
    exact ⟨true, s1, e1, rfl, p1⟩
  have hl2 : (xs.map fun b : Bool => (.bool b : D)).length ≤ 16777216 := by
    rw [List.length_map, l]
    omega
  have ha : (xs.all fun b => b) = true := List.all_eq_true.mpr r
  refine ⟨s', ?_⟩
  rw [B_ap e, lstD_le hl2, L_s, B_P, all_bools (fun b : Bool => b), ha]
  rfl
end DL

set_option Elab.async false
set_option linter.all false
set_option maxRecDepth 100000
set_option maxHeartbeats 1000000
namespace K22
open PySem PySem.Spec PyProof.Rows L2 DL
theorem take_e {k n : Int} {s : Pot} (h : PI k s) (hk : k ≤ 1000000) (h0 : 0 < n) (h1 : n < 1073741824) : ∃ (v : Int) (s' : Pot), m__law_take [.int n] s = some (.int v, s') ∧ 0 ≤ v ∧ v < n ∧ PI (k + 1) s' := by
  have c0 := h.c0
  have c1 := h.c1
  show ∃ (v : Int) (s' : Pot), b__law_take (.int n) s = _ ∧ _
  unfold b__law_take
  by_cases ha : 0 < s.a
  · refine ⟨s.a % n, ⟨s.a / n, s.b, s.c⟩, ?_, Int.emod_nonneg _ (by omega), Int.emod_lt_of_pos _ h0, ⟨Int.ediv_nonneg h.a0 (by omega), h.b0, h.b1, c0, by show s.c ≤ k + 1; omega⟩⟩
    simp only [B_B, get0, put0, decide_eq_true ha, int_i, mod_ii h0, div_ii (i := s.a) (j := n) ⟨h0, h1⟩, if_true, if_false, B_P, L_s, run0_P, mNone_P, ite_and, ite_or, ite_and', ite_or', ite_t, ite_f, boolD_b, lt_ii, le_ii, gt_ii, ge_ii, add_ii, sub_ii, neg_i, part_i, seq_t, seq_l, tup2, tup0, lst0, lst1, lstS0, tup_l, tup_t, len_t, len_l, u2_p, isi_tt, isi_ii, isi_bi, isi_ss, Bool.not_true, Bool.not_false, Bool.and_true, Bool.true_and, Bool.or_false, Bool.false_or]
    exact P_ap _ _
  · obtain ⟨p, ep, p0, p1⟩ := primes (c := s.c + 1) (by omega)
    have hb : 0 ≤ s.b + 98895 * (s.c + 1) * (s.c + 1) + 113 ∧ s.b + 98895 * (s.c + 1) * (s.c + 1) + 113 < 2 ^ 64 := by
      have := h.b0
      have := h.b1
      have z0 : 0 ≤ 98895 * (s.c + 1) * (s.c + 1) := Int.mul_nonneg (by omega) (by omega)
      have z1 : 98895 * (s.c + 1) * (s.c + 1) ≤ 98895 * 1000001 * 1000001 := Int.mul_le_mul (Int.mul_le_mul_of_nonneg_left (by omega) (by omega)) (by omega) (by omega) (by omega)
      omega
    have hm : ∀ x : Int, 0 ≤ x % p ∧ x % p < p := fun x => ⟨Int.emod_nonneg _ (by omega), Int.emod_lt_of_pos _ p0⟩
    have hX := hm ((s.b + 98895 * (s.c + 1) * (s.c + 1) + 113) ^ 3)
    generalize hx : (s.b + 98895 * (s.c + 1) * (s.c + 1) + 113) ^ 3 % p = X at hX
    refine ⟨X * (X % 10051 + 125 * (s.c + 1)) % 2305843009213693907 / 171 % n, ⟨s.a, s.b, s.c + 1⟩, ?_, Int.emod_nonneg _ (by omega), Int.emod_lt_of_pos _ h0, ⟨h.a0, h.b0, h.b1, by show 0 ≤ s.c + 1; omega, by show s.c + 1 ≤ k + 1; omega⟩⟩
    simp only [B_B, get0, get1, get2, put2, decide_eq_false ha, Bool.false_eq_true, int_i, lst5, mulT_i, mod_ii (i := s.c + 1) (j := 5) (by omega), ep, mul_ii (i := 98895) (j := s.c + 1) (.inl (by decide)), mul_ii (i := 98895 * (s.c + 1)) (j := s.c + 1) (.inr (by omega)), pow3 hb.1 hb.2, mod_ii p0, hx, mod_ii (i := X) (j := 10051) (by decide), mul_ii (i := 125) (j := s.c + 1) (.inl (by decide)), mul_ii (i := X) (j := X % 10051 + 125 * (s.c + 1)) (.inl (by omega)), mod_ii (i := X * (X % 10051 + 125 * (s.c + 1))) (j := 2305843009213693907) (by decide), div_ii (i := X * (X % 10051 + 125 * (s.c + 1)) % 2305843009213693907) (j := 171) (by decide), mod_ii (j := n) h0, if_true, if_false, B_P, L_s, run0_P, mNone_P, ite_and, ite_or, ite_and', ite_or', ite_t, ite_f, boolD_b, lt_ii, le_ii, gt_ii, ge_ii, add_ii, sub_ii, neg_i, part_i, seq_t, seq_l, tup2, tup0, lst0, lst1, lstS0, tup_l, tup_t, len_t, len_l, u2_p, isi_tt, isi_ii, isi_bi, isi_ss, Bool.not_true, Bool.not_false, Bool.and_true, Bool.true_and, Bool.or_false, Bool.false_or]
    exact P_ap _ _
theorem pot_e {ns : List Int} {j : Int} (h0 : 0 ≤ j) (h1 : j < max 1 (min 3 (ns.length : Int))) : ∃ a b : Int, m__law_pot ns [.int j] = some (.list [.int a, .int b, .int 0]) ∧ 0 ≤ a ∧ 0 ≤ b ∧ b < 2305843009213693921 := by
  obtain ⟨A, Z, pa, pz, z0⟩ := pow_a
  obtain ⟨C, pc⟩ := pow_b
  have bd : ∀ own : Int, 0 ≤ ab own % Z * bit (decide (C ≤ ab own)) ∧ 0 ≤ (own % 2305843009213693951 * 119050 + 8883 * j * j + 255) % 2305843009213693921 ∧ (own % 2305843009213693951 * 119050 + 8883 * j * j + 255) % 2305843009213693921 < 2305843009213693921 := fun own =>
    ⟨Int.mul_nonneg (Int.emod_nonneg _ (by omega)) (bit_bd _).1, Int.emod_nonneg _ (by decide), Int.emod_lt_of_pos _ (by decide)⟩
  have mb : ∀ (x : Int) (b : Bool), mulD (.int x) (.int (bit b)) = some (.int (x * bit b)) := fun x b => mul_ii (.inr (by have := bit_bd b; omega))
  by_cases c : j < (ns.length : Int)
  · have hx : ixD (.list (ns.map .int)) (.int j) = some (.int (ns.getD j.toNat 0)) := (ix_nat (xs := ns.map .int) h0 (by rw [List.length_map]; exact c) (by
      rw [List.getElem?_map, List.getElem?_eq_getElem (by omega)]
      simp [List.getD_eq_getElem?_getD, List.getElem?_eq_getElem (show j.toNat < ns.length by omega)])).2
    generalize ho : ns.getD j.toNat 0 = own at hx
    refine ⟨_, _, ?_, bd own⟩
    show run0 (b__law_pot ns (.int j)) = _
    unfold b__law_pot
    simp only [decide_eq_true c, hx, abs_ab, int_i, int_b, mulT_i, pa, pz, pc, mod_ii z0, mb, mod_ii (j := 2305843009213693951) (by decide), mod_ii (j := 2305843009213693921) (by decide), mul_ii (i := own % 2305843009213693951) (j := 119050) (.inr (by decide)), mul_ii (i := 8883) (j := j) (.inl (by decide)), mul_ii (i := 8883 * j) (j := j) (.inr (by omega)), lst3, if_true, if_false, B_P, L_s, run0_P, mNone_P, ite_and, ite_or, ite_and', ite_or', ite_t, ite_f, boolD_b, lt_ii, le_ii, gt_ii, ge_ii, add_ii, sub_ii, neg_i, part_i, seq_t, seq_l, tup2, tup0, lst0, lst1, lstS0, tup_l, tup_t, len_t, len_l, u2_p, isi_tt, isi_ii, isi_bi, isi_ss, Bool.not_true, Bool.not_false, Bool.and_true, Bool.true_and, Bool.or_false, Bool.false_or]
  · have hj : j = 0 := by omega
    have hn : ns = [] := List.eq_nil_of_length_eq_zero (by omega)
    subst hj
    subst hn
    refine ⟨_, _, ?_, bd ((0 % 1000003 + 7815 * 0) + 24908)⟩
    show run0 (b__law_pot [] (.int 0)) = _
    unfold b__law_pot
    simp only [decide_eq_false c, Bool.false_eq_true, show sliceD (.list (([] : List Int).map .int)) none (some 1) = some (.list []) from rfl, show sumL [.list []] = some (.int 0) from rfl, mulT_i, mod_ii (i := 0) (j := 1000003) (by decide), mul_ii (i := 7815) (j := 0) (.inl (by decide)), abs_ab, int_i, int_b, pa, pz, pc, mod_ii z0, mb, mod_ii (j := 2305843009213693951) (by decide), mod_ii (j := 2305843009213693921) (by decide), mul_ii (i := (0 % 1000003 + 7815 * 0 + 24908) % 2305843009213693951) (j := 119050) (.inr (by decide)), mul_ii (i := 8883) (j := 0) (.inl (by decide)), mul_ii (i := 8883 * 0) (j := 0) (.inr (by decide)), lst3, if_true, if_false, B_P, L_s, run0_P, mNone_P, ite_and, ite_or, ite_and', ite_or', ite_t, ite_f, boolD_b, lt_ii, le_ii, gt_ii, ge_ii, add_ii, sub_ii, neg_i, part_i, seq_t, seq_l, tup2, tup0, lst0, lst1, lstS0, tup_l, tup_t, len_t, len_l, u2_p, isi_tt, isi_ii, isi_bi, isi_ss, Bool.not_true, Bool.not_false, Bool.and_true, Bool.true_and, Bool.or_false, Bool.false_or]
theorem places_e (ns : List Int) (h : ns.length ≤ 63) : m__law_places ns [.int 3] = some (.list (eI (yards 0 (max 1 (min 3 (ns.length : Int)))))) := by
  show run0 (b__law_places ns (.int 3)) = _
  unfold b__law_places
  simp only [min2_e, max2_e, if_true, if_false, B_P, L_s, run0_P, mNone_P, ite_and, ite_or, ite_and', ite_or', ite_t, ite_f, boolD_b, lt_ii, le_ii, gt_ii, ge_ii, add_ii, sub_ii, neg_i, part_i, seq_t, seq_l, tup2, tup0, lst0, lst1, lstS0, tup_l, tup_t, len_t, len_l, u2_p, isi_tt, isi_ii, isi_bi, isi_ss, Bool.not_true, Bool.not_false, Bool.and_true, Bool.true_and, Bool.or_false, Bool.false_or]
  rw [← rgL_y]
  show run0 (L (if _ then _ else _)) = _
  rw [if_pos (by omega)]
  rfl
/-- the law, from what one place says -/
theorem law_of (ht : ∀ st : Pot, PI 0 st → runT t_law st = some false) (ns : List Int) (h : ns.length ≤ 63) : m_law ns [] = some (.bool true) := by
  show run0 (b_law ns) = _
  unfold b_law
  simp only [places_e ns h, if_true, if_false, B_P, L_s, run0_P, mNone_P, ite_and, ite_or, ite_and', ite_or', ite_t, ite_f, boolD_b, lt_ii, le_ii, gt_ii, ge_ii, add_ii, sub_ii, neg_i, part_i, seq_t, seq_l, tup2, tup0, lst0, lst1, lstS0, tup_l, tup_t, len_t, len_l, u2_p, isi_tt, isi_ii, isi_bi, isi_ss, Bool.not_true, Bool.not_false, Bool.and_true, Bool.true_and, Bool.or_false, Bool.false_or]
  rw [foldF_unit fun d hd => ?_]
  · simp only [kF_nx, if_true, if_false, B_P, L_s, run0_P, mNone_P, ite_and, ite_or, ite_and', ite_or', ite_t, ite_f, boolD_b, lt_ii, le_ii, gt_ii, ge_ii, add_ii, sub_ii, neg_i, part_i, seq_t, seq_l, tup2, tup0, lst0, lst1, lstS0, tup_l, tup_t, len_t, len_l, u2_p, isi_tt, isi_ii, isi_bi, isi_ss, Bool.not_true, Bool.not_false, Bool.and_true, Bool.true_and, Bool.or_false, Bool.false_or]
  · obtain ⟨j, hj, rfl⟩ := List.mem_map.mp hd
    have hj := yards_mem.mp hj
    obtain ⟨a, b, e, a0, b0, b1⟩ := pot_e (ns := ns) hj.1 hj.2
    unfold lawBody
    simp only [show callS m__law_pot ns (.int j) = some (.list [.int a, .int b, .int 0]) from e, show potD (.list [.int a, .int b, .int 0]) = some ⟨a, b, 0⟩ from rfl, ht ⟨a, b, 0⟩ ⟨a0, b0, b1, Int.le_refl _, Int.le_refl _⟩, Bool.false_eq_true, if_true, if_false, B_P, L_s, run0_P, mNone_P, ite_and, ite_or, ite_and', ite_or', ite_t, ite_f, boolD_b, lt_ii, le_ii, gt_ii, ge_ii, add_ii, sub_ii, neg_i, part_i, seq_t, seq_l, tup2, tup0, lst0, lst1, lstS0, tup_l, tup_t, len_t, len_l, u2_p, isi_tt, isi_ii, isi_bi, isi_ss, Bool.not_true, Bool.not_false, Bool.and_true, Bool.true_and, Bool.or_false, Bool.false_or]
end K22

set_option Elab.async false
set_option linter.all false
set_option maxRecDepth 100000
set_option maxHeartbeats 1000000
namespace K22
open PySem PySem.Spec PyProof.Rows L2 DL
abbrev Strand : Type := List Int
abbrev Row : Type := List (Option Int)
def eS (s : Strand) : D := .tuple (eI s)
def eSs (t : List Strand) : D := .tuple (t.map eS)
def eOI : Option Int → D
  | none => .none
  | some i => .int i
def eR (b : Row) : D := .tuple (b.map eOI)
structure VS (s : Strand) : Prop where
  l1 : 1 ≤ s.length
  l2 : s.length ≤ 60
  at_ : ∀ x ∈ s, 0 ≤ x ∧ x ≤ 100
theorem is_tuple_e (xs : List D) (a b : Int) : m_is_tuple [.tuple xs, .int a, .int b] = some (.bool (decide (a ≤ (xs.length : Int)) && decide ((xs.length : Int) ≤ b))) := by
  show run0 (b_is_tuple _ _ _) = _
  unfold b_is_tuple
  simp only [if_true, if_false, B_P, L_s, run0_P, mNone_P, ite_and, ite_or, ite_and', ite_or', ite_t, ite_f, boolD_b, lt_ii, le_ii, gt_ii, ge_ii, add_ii, sub_ii, neg_i, part_i, seq_t, seq_l, tup2, tup0, lst0, lst1, lstS0, tup_l, tup_t, len_t, len_l, u2_p, isi_tt, isi_ii, isi_bi, isi_ss, Bool.not_true, Bool.not_false, Bool.and_true, Bool.true_and, Bool.or_false, Bool.false_or]
theorem is_whole_e (v : Int) : m_is_whole [.int v] = some (.bool true) := by
  show run0 (b_is_whole _) = _
  unfold b_is_whole
  simp only [if_true, if_false, B_P, L_s, run0_P, mNone_P, ite_and, ite_or, ite_and', ite_or', ite_t, ite_f, boolD_b, lt_ii, le_ii, gt_ii, ge_ii, add_ii, sub_ii, neg_i, part_i, seq_t, seq_l, tup2, tup0, lst0, lst1, lstS0, tup_l, tup_t, len_t, len_l, u2_p, isi_tt, isi_ii, isi_bi, isi_ss, Bool.not_true, Bool.not_false, Bool.and_true, Bool.true_and, Bool.or_false, Bool.false_or]
theorem is_integer_e (v a b : Int) : m_is_integer [.int v, .int a, .int b] = some (.bool (decide (a ≤ v) && decide (v ≤ b))) := by
  show run0 (b_is_integer _ _ _) = _
  unfold b_is_integer
  simp only [is_whole_e, if_true, if_false, B_P, L_s, run0_P, mNone_P, ite_and, ite_or, ite_and', ite_or', ite_t, ite_f, boolD_b, lt_ii, le_ii, gt_ii, ge_ii, add_ii, sub_ii, neg_i, part_i, seq_t, seq_l, tup2, tup0, lst0, lst1, lstS0, tup_l, tup_t, len_t, len_l, u2_p, isi_tt, isi_ii, isi_bi, isi_ss, Bool.not_true, Bool.not_false, Bool.and_true, Bool.true_and, Bool.or_false, Bool.false_or]
theorem is_strand_e {s : Strand} (h : VS s) : m_is_strand [eS s] = some (.bool true) := by
  show run0 (b_is_strand _) = _
  unfold b_is_strand eS
  have h1 := h.l1
  have h2 := h.l2
  have e1 : (decide ((1 : Int) ≤ ((eI s).length : Int)) && decide (((eI s).length : Int) ≤ 60)) = true := by
    rw [eI_len]
    simp
    omega
  simp only [is_tuple_e, e1, if_true, if_false, B_P, L_s, run0_P, mNone_P, ite_and, ite_or, ite_and', ite_or', ite_t, ite_f, boolD_b, lt_ii, le_ii, gt_ii, ge_ii, add_ii, sub_ii, neg_i, part_i, seq_t, seq_l, tup2, tup0, lst0, lst1, lstS0, tup_l, tup_t, len_t, len_l, u2_p, isi_tt, isi_ii, isi_bi, isi_ss, Bool.not_true, Bool.not_false, Bool.and_true, Bool.true_and, Bool.or_false, Bool.false_or]
  rw [show eI s = s.map PyData.int from rfl, cmp_map (g := fun x => .bool (decide (0 ≤ x) && decide (x ≤ 100))) fun x _ => by simp only [is_integer_e, if_true, if_false, B_P, L_s, run0_P, mNone_P, ite_and, ite_or, ite_and', ite_or', ite_t, ite_f, boolD_b, lt_ii, le_ii, gt_ii, ge_ii, add_ii, sub_ii, neg_i, part_i, seq_t, seq_l, tup2, tup0, lst0, lst1, lstS0, tup_l, tup_t, len_t, len_l, u2_p, isi_tt, isi_ii, isi_bi, isi_ss, Bool.not_true, Bool.not_false, Bool.and_true, Bool.true_and, Bool.or_false, Bool.false_or]]
  have e2 : (s.all fun x => decide (0 ≤ x) && decide (x ≤ 100)) = true := List.all_eq_true.mpr fun x hx => by simpa using h.at_ x hx
  simp only [lstD_le (show (s.map fun x : Int => PyData.bool (decide (0 ≤ x) && decide (x ≤ 100))).length ≤ 16777216 by rw [List.length_map]; omega), all_bools, e2, if_true, if_false, B_P, L_s, run0_P, mNone_P, ite_and, ite_or, ite_and', ite_or', ite_t, ite_f, boolD_b, lt_ii, le_ii, gt_ii, ge_ii, add_ii, sub_ii, neg_i, part_i, seq_t, seq_l, tup2, tup0, lst0, lst1, lstS0, tup_l, tup_t, len_t, len_l, u2_p, isi_tt, isi_ii, isi_bi, isi_ss, Bool.not_true, Bool.not_false, Bool.and_true, Bool.true_and, Bool.or_false, Bool.false_or]
/-- a band -/
structure VB (b : Int × Int) : Prop where
  b0 : 0 ≤ b.1
  b1 : b.1 ≤ b.2
  b2 : b.2 ≤ 1000
theorem check_band_e {b : Int × Int} (h : VB b) : m_check_band [eP b] = some .none := by
  have h0 := h.b0
  have h1 := h.b1
  have h2 := h.b2
  have e : m_is_band [eP b] = some (.bool true) := by
    show run0 (b_is_band _) = _
    unfold b_is_band eP
    simp only [is_tuple_e, ix0, ix1, is_integer_e, decide_eq_true h0, decide_eq_true h1, decide_eq_true h2, decide_eq_true (show b.1 ≤ 1000 by omega), List.length_cons, List.length_nil, if_true, if_false, B_P, L_s, run0_P, mNone_P, ite_and, ite_or, ite_and', ite_or', ite_t, ite_f, boolD_b, lt_ii, le_ii, gt_ii, ge_ii, add_ii, sub_ii, neg_i, part_i, seq_t, seq_l, tup2, tup0, lst0, lst1, lstS0, tup_l, tup_t, len_t, len_l, u2_p, isi_tt, isi_ii, isi_bi, isi_ss, Bool.not_true, Bool.not_false, Bool.and_true, Bool.true_and, Bool.or_false, Bool.false_or]
    rfl
  show mNone (b_check_band _) = _
  unfold b_check_band
  simp only [e, if_true, if_false, B_P, L_s, run0_P, mNone_P, ite_and, ite_or, ite_and', ite_or', ite_t, ite_f, boolD_b, lt_ii, le_ii, gt_ii, ge_ii, add_ii, sub_ii, neg_i, part_i, seq_t, seq_l, tup2, tup0, lst0, lst1, lstS0, tup_l, tup_t, len_t, len_l, u2_p, isi_tt, isi_ii, isi_bi, isi_ss, Bool.not_true, Bool.not_false, Bool.and_true, Bool.true_and, Bool.or_false, Bool.false_or]
/-- what is laid -/
structure VL (t : List Strand) (L : Int) : Prop where
  l1 : 1 ≤ t.length
  l2 : t.length ≤ 3
  at_ : ∀ s ∈ t, VS s
  L1 : 1 ≤ L
  L2 : L ≤ 12
theorem check_strands_e {t : List Strand} {L : Int} {b : Int × Int} (h : VL t L) (hb : VB b) : m_check_strands [eSs t, .int L, eP b] = some .none := by
  have l1 := h.l1
  have l2 := h.l2
  have e : m_is_strands [eSs t] = some (.bool true) := by
    show run0 (b_is_strands _) = _
    unfold b_is_strands eSs
    have e1 : (decide ((1 : Int) ≤ ((t.map eS).length : Int)) && decide (((t.map eS).length : Int) ≤ 5)) = true := by
      rw [List.length_map]
      simp
      omega
    simp only [is_tuple_e, e1, if_true, if_false, B_P, L_s, run0_P, mNone_P, ite_and, ite_or, ite_and', ite_or', ite_t, ite_f, boolD_b, lt_ii, le_ii, gt_ii, ge_ii, add_ii, sub_ii, neg_i, part_i, seq_t, seq_l, tup2, tup0, lst0, lst1, lstS0, tup_l, tup_t, len_t, len_l, u2_p, isi_tt, isi_ii, isi_bi, isi_ss, Bool.not_true, Bool.not_false, Bool.and_true, Bool.true_and, Bool.or_false, Bool.false_or]
    rw [cmp_map (g := fun x => .bool true) fun x hx => by simp only [is_strand_e (h.at_ x hx), if_true, if_false, B_P, L_s, run0_P, mNone_P, ite_and, ite_or, ite_and', ite_or', ite_t, ite_f, boolD_b, lt_ii, le_ii, gt_ii, ge_ii, add_ii, sub_ii, neg_i, part_i, seq_t, seq_l, tup2, tup0, lst0, lst1, lstS0, tup_l, tup_t, len_t, len_l, u2_p, isi_tt, isi_ii, isi_bi, isi_ss, Bool.not_true, Bool.not_false, Bool.and_true, Bool.true_and, Bool.or_false, Bool.false_or]]
    simp only [lstD_le (show (t.map fun x : Strand => PyData.bool true).length ≤ 16777216 by rw [List.length_map]; omega), all_bools, if_true, if_false, B_P, L_s, run0_P, mNone_P, ite_and, ite_or, ite_and', ite_or', ite_t, ite_f, boolD_b, lt_ii, le_ii, gt_ii, ge_ii, add_ii, sub_ii, neg_i, part_i, seq_t, seq_l, tup2, tup0, lst0, lst1, lstS0, tup_l, tup_t, len_t, len_l, u2_p, isi_tt, isi_ii, isi_bi, isi_ss, Bool.not_true, Bool.not_false, Bool.and_true, Bool.true_and, Bool.or_false, Bool.false_or]
    rw [List.all_eq_true.mpr fun x hx => rfl]
  show mNone (b_check_strands _ _ _) = _
  unfold b_check_strands
  simp only [e, is_integer_e, decide_eq_true h.L1, decide_eq_true h.L2, check_band_e hb, if_true, if_false, B_P, L_s, run0_P, mNone_P, ite_and, ite_or, ite_and', ite_or', ite_t, ite_f, boolD_b, lt_ii, le_ii, gt_ii, ge_ii, add_ii, sub_ii, neg_i, part_i, seq_t, seq_l, tup2, tup0, lst0, lst1, lstS0, tup_l, tup_t, len_t, len_l, u2_p, isi_tt, isi_ii, isi_bi, isi_ss, Bool.not_true, Bool.not_false, Bool.and_true, Bool.true_and, Bool.or_false, Bool.false_or]
/-! ### sums -/
def val (s : Strand) (i : Int) : Int := if 0 ≤ i ∧ i < s.length then s.getD i.toNat 0 else 0
theorem val_nn {s : Strand} (h : VS s) (i : Int) : 0 ≤ val s i := by
  unfold val
  split
  · rename_i c
    rw [List.getD_eq_getElem?_getD, List.getElem?_eq_getElem (by omega)]
    exact (h.at_ _ (List.getElem_mem _)).1
  · omega
def ctr (s : Strand) : Option Int → Int → Int
  | none, _ => 0
  | some p, y => val s (y - p)
def sAt (t : List Strand) (b : Row) (y : Int) : Int := ((t.zip b).map fun q => ctr q.1 q.2 y).sum
def sums (L : Int) (t : List Strand) (b : Row) : List Int := (yards 0 L).map (sAt t b)
/-- begins within the length -/
def okR (L : Int) (b : Row) : Prop := ∀ x ∈ b, ∀ p, x = some p → 0 ≤ p ∧ p < L
theorem foldF_cons {S α : Type} {f : α → D → M S (Fl α)} {a a' : α} {d : D} {ds : List D} (h : f a d = P (.nx a')) : foldF (d :: ds) a f = foldF ds a' f := by
  show (B (f a d) fun
    | .nx a => foldF ds a f
    | .bk a => P (.nx a)
    | .rt d => P (.rt d)) = _
  rw [h, B_P]
theorem foldS_cons {S α : Type} {f : α → D → M S α} {a a' : α} {d : D} {ds : List D} (h : f a d = P a') : foldS (d :: ds) a f = foldS ds a' f := by
  show (B (f a d) fun a => foldS ds a f) = _
  rw [h, B_P]
/-- the strengths so far, the strands that are still to be laid -/
theorem laid_all {f : List D → D → M Unit (Fl (List D))} {L : Int} {R : Strand × Option Int → Prop} (h : ∀ (F : Int → Int) (q : Strand × Option Int), R q → f ((yards 0 L).map fun y => .int (F y)) (.tuple [eS q.1, eOI q.2]) = P (.nx ((yards 0 L).map fun y => .int (F y + ctr q.1 q.2 y)))) :
    ∀ (qs : List (Strand × Option Int)) (F : Int → Int), (∀ q ∈ qs, R q) → foldF (qs.map fun q => .tuple [eS q.1, eOI q.2]) ((yards 0 L).map fun y => .int (F y)) f = P (.nx ((yards 0 L).map fun y => .int (F y + (qs.map fun q => ctr q.1 q.2 y).sum)))
  | [], F, _ => by
    show P (Fl.nx _) = _
    congr 2
    refine List.map_congr_left fun y _ => ?_
    simp
  | q :: qs, F, hq => by
    rw [List.map_cons, foldF_cons (h F q (hq q (by simp))), laid_all h qs (fun y => F y + ctr q.1 q.2 y) fun x hx => hq x (by simp [hx])]
    congr 2
    refine List.map_congr_left fun y _ => ?_
    rw [List.map_cons, List.sum_cons]
    congr 1
    omega
theorem sS {s : Strand} (h : VS s) (i : Nat) (hi : i < s.length) : val s i = s[i] := by
  unfold val
  rw [if_pos (by omega), List.getD_eq_getElem?_getD, List.getElem?_eq_getElem (by omega)]
  simp
theorem nil0 (L : Int) (hL : 0 ≤ L) (hL2 : L ≤ 100000) : repN (.list [PyData.int 0]) (.int L) = some ((yards 0 L).map fun _ => PyData.int 0) := by
  show (if 0 ≤ L ∧ L ≤ 100000 ∧ ([PyData.int 0] : List D).length ≤ 100 then some (List.replicate L.toNat [PyData.int 0]).flatten else none) = _
  rw [if_pos ⟨hL, hL2, by simp⟩]
  congr 1
  apply List.ext_getElem?
  intro i
  have e : (List.replicate L.toNat [PyData.int 0]).flatten = List.replicate L.toNat (PyData.int 0) := by
    generalize L.toNat = n
    induction n with
    | zero => rfl
    | succ n ih => rw [List.replicate_succ, List.flatten_cons, ih, List.replicate_succ]; rfl
  rw [e]
  by_cases c : i < L.toNat
  · rw [List.getElem?_replicate, if_pos c, List.getElem?_map, yards_get (by omega)]
    rfl
  · rw [List.getElem?_replicate, if_neg c, List.getElem?_eq_none (by rw [List.length_map, yards_len]; omega)]
theorem isntO1 (b : Option Int) : isntB (eOI b) .none = some b.isSome := by cases b <;> rfl
/-- one more yard of a strand -/
theorem one_yard {L p : Int} {F : Int → Int} {s : Strand} (hs : VS s) (hp : 0 ≤ p) (i : Nat) (hi : p + i < L) (hl : i < s.length) :
    ((yards 0 L).map fun y => PyData.int (F y + if p ≤ y ∧ y < p + (i : Nat) then val s (y - p) else 0)).set (p + i).toNat (.int (F (p + i) + val s i)) = (yards 0 L).map fun y => PyData.int (F y + if p ≤ y ∧ y < p + ((i + 1 : Nat) : Int) then val s (y - p) else 0) := by
  refine yards_set (a := 0) (b := L) (i := p + i) (F := fun y => PyData.int (F y + if p ≤ y ∧ y < p + (i : Nat) then val s (y - p) else 0)) (G := fun y => PyData.int (F y + if p ≤ y ∧ y < p + ((i + 1 : Nat) : Int) then val s (y - p) else 0)) (by omega) (by omega) ?_ fun y hy => ?_
  · show PyData.int _ = _
    rw [if_pos (by omega), show (0 : Int) + (p + i) = p + i by omega, show p + (i : Int) - p = (i : Int) by omega]
  · show PyData.int _ = PyData.int _
    by_cases c : p ≤ y ∧ y < p + (i : Nat)
    · rw [if_pos c, if_pos (by omega)]
    · rw [if_neg c, if_neg (by omega)]
theorem all_yards {L p : Int} {F : Int → Int} {s : Strand} (m : Nat) (hm : (m : Int) = min (L - p) s.length) (hp : 0 ≤ p) (hpL : p < L) :
    ((yards 0 L).map fun y => PyData.int (F y + if p ≤ y ∧ y < p + (m : Int) then val s (y - p) else 0)) = (yards 0 L).map fun y => PyData.int (F y + val s (y - p)) := by
  refine List.map_congr_left fun y hy => ?_
  have hy := yards_mem.mp hy
  by_cases c : p ≤ y ∧ y < p + (m : Int)
  · rw [if_pos c]
  · rw [if_neg c]
    have : val s (y - p) = 0 := by
      unfold val
      rw [if_neg (by omega)]
    rw [this]
theorem sums_of_e {t : List Strand} {L : Int} {b : Row} {d : D} (h : ∀ s ∈ t, VS s) (L1 : 1 ≤ L) (L2 : L ≤ 12) (hb : okR L b) (hz : zipA [eSs t, d] = some (pairs2 (t.map eS) (b.map eOI))) : m_sums_of [eSs t, .int L, d] = some (.list (eI (sums L t b))) := by
  show run0 (b_sums_of _ _ _) = _
  unfold b_sums_of
  simp only [lst1, nil0 L (by omega) (by omega), hz, pairs2_map, if_true, if_false, B_P, L_s, run0_P, mNone_P, ite_and, ite_or, ite_and', ite_or', ite_t, ite_f, boolD_b, lt_ii, le_ii, gt_ii, ge_ii, add_ii, sub_ii, neg_i, part_i, seq_t, seq_l, tup2, tup0, lst0, lst1, lstS0, tup_l, tup_t, len_t, len_l, u2_p, isi_tt, isi_ii, isi_bi, isi_ss, Bool.not_true, Bool.not_false, Bool.and_true, Bool.true_and, Bool.or_false, Bool.false_or]
  rw [laid_all (R := fun q => VS q.1 ∧ ∀ p, q.2 = some p → 0 ≤ p ∧ p < L) (fun F q hq => ?_) (t.zip b) (fun _ => 0) fun q hq => ⟨h _ (List.of_mem_zip hq).1, hb _ (List.of_mem_zip hq).2⟩]
  · simp only [kF_nx, if_true, if_false, B_P, L_s, run0_P, mNone_P, ite_and, ite_or, ite_and', ite_or', ite_t, ite_f, boolD_b, lt_ii, le_ii, gt_ii, ge_ii, add_ii, sub_ii, neg_i, part_i, seq_t, seq_l, tup2, tup0, lst0, lst1, lstS0, tup_l, tup_t, len_t, len_l, u2_p, isi_tt, isi_ii, isi_bi, isi_ss, Bool.not_true, Bool.not_false, Bool.and_true, Bool.true_and, Bool.or_false, Bool.false_or]
    congr 2
    unfold sums eI
    rw [List.map_map]
    refine List.map_congr_left fun y _ => ?_
    show PyData.int _ = PyData.int _
    unfold sAt
    congr 1
    omega
  · obtain ⟨s, o⟩ := q
    obtain ⟨hs0, ho0⟩ := hq
    have hs : VS s := hs0
    have ho : ∀ p, o = some p → 0 ≤ p ∧ p < L := ho0
    clear hs0 ho0
    simp only [isntO1, if_true, if_false, B_P, L_s, run0_P, mNone_P, ite_and, ite_or, ite_and', ite_or', ite_t, ite_f, boolD_b, lt_ii, le_ii, gt_ii, ge_ii, add_ii, sub_ii, neg_i, part_i, seq_t, seq_l, tup2, tup0, lst0, lst1, lstS0, tup_l, tup_t, len_t, len_l, u2_p, isi_tt, isi_ii, isi_bi, isi_ss, Bool.not_true, Bool.not_false, Bool.and_true, Bool.true_and, Bool.or_false, Bool.false_or]
    cases o with
    | none =>
      simp only [Option.isSome_none, Bool.false_eq_true, B_P, kF_nx, if_true, if_false, B_P, L_s, run0_P, mNone_P, ite_and, ite_or, ite_and', ite_or', ite_t, ite_f, boolD_b, lt_ii, le_ii, gt_ii, ge_ii, add_ii, sub_ii, neg_i, part_i, seq_t, seq_l, tup2, tup0, lst0, lst1, lstS0, tup_l, tup_t, len_t, len_l, u2_p, isi_tt, isi_ii, isi_bi, isi_ss, Bool.not_true, Bool.not_false, Bool.and_true, Bool.true_and, Bool.or_false, Bool.false_or]
      congr 2
      refine List.map_congr_left fun y _ => ?_
      show _ = PyData.int (F y + 0)
      rw [Int.add_zero]
    | some p =>
      obtain ⟨p0, p1⟩ := ho p rfl
      have hcut : sliceD (eS s) none (some (L - p)) = some (.tuple (eI (s.take (L - p).toNat))) := by
        show some (PyData.tuple (cutL (eI s) none (some (L - p)))) = _
        unfold cutL
        rw [sIx_some _ _ _ (by omega), HT.sIx_none]
        congr 2
        rw [List.drop_zero, Nat.sub_zero]
        unfold eI
        rw [List.map_take, List.length_map]
        by_cases c : (L - p).toNat ≤ s.length
        · rw [Nat.min_eq_left c]
        · rw [Nat.min_eq_right (by omega), List.take_of_length_le (by rw [List.length_map]; omega), List.take_of_length_le (by rw [List.length_map]; omega)]
      simp only [B_B, Option.isSome_some, eOI, sub_ii, hcut, enumT_t, if_true, if_false, B_P, L_s, run0_P, mNone_P, ite_and, ite_or, ite_and', ite_or', ite_t, ite_f, boolD_b, lt_ii, le_ii, gt_ii, ge_ii, add_ii, sub_ii, neg_i, part_i, seq_t, seq_l, tup2, tup0, lst0, lst1, lstS0, tup_l, tup_t, len_t, len_l, u2_p, isi_tt, isi_ii, isi_bi, isi_ss, Bool.not_true, Bool.not_false, Bool.and_true, Bool.true_and, Bool.or_false, Bool.false_or]
      have hlen : (enumL (eI (s.take (L - p).toNat))).length = min (L - p).toNat s.length := by rw [enumL_length, eI_len, List.length_take]
      rw [foldS_at (g := fun i => (yards 0 L).map fun y => PyData.int (F y + if p ≤ y ∧ y < p + (i : Nat) then val s (y - p) else 0)) _ _ ?_ fun i d hd => ?_]
      · rw [B_P, kF_nx, hlen, all_yards _ (by omega) p0 p1]
        rfl
      · refine List.map_congr_left fun y _ => ?_
        rw [if_neg (by omega), Int.add_zero]
      · have hi : i < min (L - p).toNat s.length := by rw [← hlen]; exact (List.getElem?_eq_some_iff.mp hd).1
        have hg : (eI (s.take (L - p).toNat))[i]? = some (.int (val s i)) := by
          unfold eI
          rw [List.getElem?_map, List.getElem?_take_of_lt (by omega), List.getElem?_eq_getElem (by omega), sS hs i (by omega)]
          rfl
        rw [enumL_get hg] at hd
        cases hd
        have hx := ix_y (a := 0) (b := L) (i := p + i) (fun y => PyData.int (F y + if p ≤ y ∧ y < p + (i : Nat) then val s (y - p) else 0)) (by omega) (by omega)
        rw [if_neg (by omega), show (0 : Int) + (p + i) = p + i by omega, Int.add_zero] at hx
        simp only [B_B, hx.1, setL_nat (xs := (yards 0 L).map fun y => PyData.int (F y + if p ≤ y ∧ y < p + (i : Nat) then val s (y - p) else 0)) (i := p + i) (d := .int (F (p + i) + val s i)) (by omega) (by rw [List.length_map, yards_len]; omega), if_true, if_false, B_P, L_s, run0_P, mNone_P, ite_and, ite_or, ite_and', ite_or', ite_t, ite_f, boolD_b, lt_ii, le_ii, gt_ii, ge_ii, add_ii, sub_ii, neg_i, part_i, seq_t, seq_l, tup2, tup0, lst0, lst1, lstS0, tup_l, tup_t, len_t, len_l, u2_p, isi_tt, isi_ii, isi_bi, isi_ss, Bool.not_true, Bool.not_false, Bool.and_true, Bool.true_and, Bool.or_false, Bool.false_or]
        exact congrArg P (one_yard (L := L) hs p0 i (by omega) (by omega))
theorem lsums_e {t : List Strand} {L : Int} {b : Row} (h : ∀ s ∈ t, VS s) (L1 : 1 ≤ L) (L2 : L ≤ 12) (hb : okR L b) : m__law_sums [eSs t, .int L, eR b] = some (.list (eI (sums L t b))) := by
  show run0 (b__law_sums _ _ _) = _
  unfold b__law_sums eSs eR
  simp only [lst1, nil0 L (by omega) (by omega), zipA_tt, pairs2_map, if_true, if_false, B_P, L_s, run0_P, mNone_P, ite_and, ite_or, ite_and', ite_or', ite_t, ite_f, boolD_b, lt_ii, le_ii, gt_ii, ge_ii, add_ii, sub_ii, neg_i, part_i, seq_t, seq_l, tup2, tup0, lst0, lst1, lstS0, tup_l, tup_t, len_t, len_l, u2_p, isi_tt, isi_ii, isi_bi, isi_ss, Bool.not_true, Bool.not_false, Bool.and_true, Bool.true_and, Bool.or_false, Bool.false_or]
  rw [laid_all (R := fun q => VS q.1 ∧ ∀ p, q.2 = some p → 0 ≤ p ∧ p < L) (fun F q hq => ?_) (t.zip b) (fun _ => 0) fun q hq => ⟨h _ (List.of_mem_zip hq).1, hb _ (List.of_mem_zip hq).2⟩]
  · simp only [kF_nx, if_true, if_false, B_P, L_s, run0_P, mNone_P, ite_and, ite_or, ite_and', ite_or', ite_t, ite_f, boolD_b, lt_ii, le_ii, gt_ii, ge_ii, add_ii, sub_ii, neg_i, part_i, seq_t, seq_l, tup2, tup0, lst0, lst1, lstS0, tup_l, tup_t, len_t, len_l, u2_p, isi_tt, isi_ii, isi_bi, isi_ss, Bool.not_true, Bool.not_false, Bool.and_true, Bool.true_and, Bool.or_false, Bool.false_or]
    congr 2
    unfold sums eI
    rw [List.map_map]
    refine List.map_congr_left fun y _ => ?_
    show PyData.int _ = PyData.int _
    unfold sAt
    congr 1
    omega
  · obtain ⟨s, o⟩ := q
    obtain ⟨hs0, ho0⟩ := hq
    have hs : VS s := hs0
    have ho : ∀ p, o = some p → 0 ≤ p ∧ p < L := ho0
    clear hs0 ho0
    simp only [isntO1, if_true, if_false, B_P, L_s, run0_P, mNone_P, ite_and, ite_or, ite_and', ite_or', ite_t, ite_f, boolD_b, lt_ii, le_ii, gt_ii, ge_ii, add_ii, sub_ii, neg_i, part_i, seq_t, seq_l, tup2, tup0, lst0, lst1, lstS0, tup_l, tup_t, len_t, len_l, u2_p, isi_tt, isi_ii, isi_bi, isi_ss, Bool.not_true, Bool.not_false, Bool.and_true, Bool.true_and, Bool.or_false, Bool.false_or]
    cases o with
    | none =>
      simp only [Option.isSome_none, Bool.false_eq_true, B_P, kF_nx, if_true, if_false, B_P, L_s, run0_P, mNone_P, ite_and, ite_or, ite_and', ite_or', ite_t, ite_f, boolD_b, lt_ii, le_ii, gt_ii, ge_ii, add_ii, sub_ii, neg_i, part_i, seq_t, seq_l, tup2, tup0, lst0, lst1, lstS0, tup_l, tup_t, len_t, len_l, u2_p, isi_tt, isi_ii, isi_bi, isi_ss, Bool.not_true, Bool.not_false, Bool.and_true, Bool.true_and, Bool.or_false, Bool.false_or]
      congr 2
      refine List.map_congr_left fun y _ => ?_
      show _ = PyData.int (F y + 0)
      rw [Int.add_zero]
    | some p =>
      obtain ⟨p0, p1⟩ := ho p rfl
      have l2 := hs.l2
      simp only [B_B, Option.isSome_some, eOI, eS, eI_len, min2_e, range2_e (a := p) (b := min L (p + (s.length : Int))) (by omega) (by omega), if_true, if_false, B_P, L_s, run0_P, mNone_P, ite_and, ite_or, ite_and', ite_or', ite_t, ite_f, boolD_b, lt_ii, le_ii, gt_ii, ge_ii, add_ii, sub_ii, neg_i, part_i, seq_t, seq_l, tup2, tup0, lst0, lst1, lstS0, tup_l, tup_t, len_t, len_l, u2_p, isi_tt, isi_ii, isi_bi, isi_ss, Bool.not_true, Bool.not_false, Bool.and_true, Bool.true_and, Bool.or_false, Bool.false_or]
      have hlen : (eI (yards p (min L (p + (s.length : Int))))).length = min (L - p).toNat s.length := by rw [eI_len, yards_len]; omega
      rw [foldS_at (g := fun i => (yards 0 L).map fun y => PyData.int (F y + if p ≤ y ∧ y < p + (i : Nat) then val s (y - p) else 0)) _ _ ?_ fun i d hd => ?_]
      · rw [B_P, kF_nx, hlen, all_yards _ (by omega) p0 p1]
        rfl
      · refine List.map_congr_left fun y _ => ?_
        rw [if_neg (by omega), Int.add_zero]
      · have hi : i < min (L - p).toNat s.length := by rw [← hlen]; exact (List.getElem?_eq_some_iff.mp hd).1
        obtain ⟨rfl, _⟩ := yards_at (e := PyData.int) hd
        have hx := ix_y (a := 0) (b := L) (i := p + i) (fun y => PyData.int (F y + if p ≤ y ∧ y < p + (i : Nat) then val s (y - p) else 0)) (by omega) (by omega)
        rw [if_neg (by omega), show (0 : Int) + (p + i) = p + i by omega, Int.add_zero] at hx
        have hg : (eI s)[((i : Nat) : Int).toNat]? = some (.int (val s i)) := by
          unfold eI
          rw [show ((i : Nat) : Int).toNat = i by omega, List.getElem?_map, List.getElem?_eq_getElem (by omega), sS hs i (by omega)]
          rfl
        simp only [B_B, hx.1, show p + (i : Int) - p = (i : Int) by omega, (ix_nat (xs := eI s) (i := (i : Nat)) (by omega) (by rw [eI_len]; omega) hg).1, setL_nat (xs := (yards 0 L).map fun y => PyData.int (F y + if p ≤ y ∧ y < p + (i : Nat) then val s (y - p) else 0)) (i := p + i) (d := .int (F (p + i) + val s i)) (by omega) (by rw [List.length_map, yards_len]; omega), if_true, if_false, B_P, L_s, run0_P, mNone_P, ite_and, ite_or, ite_and', ite_or', ite_t, ite_f, boolD_b, lt_ii, le_ii, gt_ii, ge_ii, add_ii, sub_ii, neg_i, part_i, seq_t, seq_l, tup2, tup0, lst0, lst1, lstS0, tup_l, tup_t, len_t, len_l, u2_p, isi_tt, isi_ii, isi_bi, isi_ss, Bool.not_true, Bool.not_false, Bool.and_true, Bool.true_and, Bool.or_false, Bool.false_or]
        exact congrArg P (one_yard (L := L) hs p0 i (by omega) (by omega))
/-- all within the band -/
def right (L : Int) (t : List Strand) (w : Int × Int) (b : Row) : Bool := (sums L t b).all fun x => decide (w.1 ≤ x) && decide (x ≤ w.2)
theorem right_iff {L : Int} {t : List Strand} {w : Int × Int} {b : Row} : right L t w b = true ↔ ∀ y, 0 ≤ y → y < L → w.1 ≤ sAt t b y ∧ sAt t b y ≤ w.2 := by
  unfold right sums
  rw [List.all_eq_true]
  constructor
  · intro h y h0 h1
    have := h _ (List.mem_map_of_mem (f := sAt t b) (yards_mem.mpr ⟨h0, h1⟩))
    simpa using this
  · intro h x hx
    obtain ⟨y, hy, rfl⟩ := List.mem_map.mp hx
    have hy := yards_mem.mp hy
    simpa using h y hy.1 hy.2
theorem sums_len (L : Int) (t : List Strand) (b : Row) : (sums L t b).length = L.toNat := by
  unfold sums
  rw [List.length_map, yards_len, Int.sub_zero]
theorem is_right_e {t : List Strand} {L : Int} {b : Row} {w : Int × Int} (h : ∀ s ∈ t, VS s) (L1 : 1 ≤ L) (L2 : L ≤ 12) (hb : okR L b) : m_is_right [eSs t, .int L, eP w, eR b] = some (.bool (right L t w b)) := by
  show run0 (b_is_right _ _ _ _) = _
  unfold b_is_right
  simp only [sums_of_e h L1 L2 hb (show zipA [eSs t, eR b] = _ from rfl), if_true, if_false, B_P, L_s, run0_P, mNone_P, ite_and, ite_or, ite_and', ite_or', ite_t, ite_f, boolD_b, lt_ii, le_ii, gt_ii, ge_ii, add_ii, sub_ii, neg_i, part_i, seq_t, seq_l, tup2, tup0, lst0, lst1, lstS0, tup_l, tup_t, len_t, len_l, u2_p, isi_tt, isi_ii, isi_bi, isi_ss, Bool.not_true, Bool.not_false, Bool.and_true, Bool.true_and, Bool.or_false, Bool.false_or]
  rw [cmp_ints (g := fun x => .bool (decide (w.1 ≤ x) && decide (x ≤ w.2))) fun x hx => by unfold eP; simp only [ix0, ix1, if_true, if_false, B_P, L_s, run0_P, mNone_P, ite_and, ite_or, ite_and', ite_or', ite_t, ite_f, boolD_b, lt_ii, le_ii, gt_ii, ge_ii, add_ii, sub_ii, neg_i, part_i, seq_t, seq_l, tup2, tup0, lst0, lst1, lstS0, tup_l, tup_t, len_t, len_l, u2_p, isi_tt, isi_ii, isi_bi, isi_ss, Bool.not_true, Bool.not_false, Bool.and_true, Bool.true_and, Bool.or_false, Bool.false_or]]
  simp only [lstD_le (show ((sums L t b).map fun x : Int => PyData.bool (decide (w.1 ≤ x) && decide (x ≤ w.2))).length ≤ 16777216 by rw [List.length_map, sums_len]; omega), all_bools, if_true, if_false, B_P, L_s, run0_P, mNone_P, ite_and, ite_or, ite_and', ite_or', ite_t, ite_f, boolD_b, lt_ii, le_ii, gt_ii, ge_ii, add_ii, sub_ii, neg_i, part_i, seq_t, seq_l, tup2, tup0, lst0, lst1, lstS0, tup_l, tup_t, len_t, len_l, u2_p, isi_tt, isi_ii, isi_bi, isi_ss, Bool.not_true, Bool.not_false, Bool.and_true, Bool.true_and, Bool.or_false, Bool.false_or]
  rfl
end K22

set_option Elab.async false
set_option linter.all false
set_option maxRecDepth 100000
set_option maxHeartbeats 1000000
namespace K22
open PySem PySem.Spec PyProof.Rows L2 DL
/-- a loop that stands: a promise I that each lap keeps, a weight that falls -/
theorem whileF_inv {S ι α : Type} {emb : ι → α} {tt : α → M S Bool} {f : α → M S (Fl α)} {I : ι → Prop} {W : ι → Nat} {go : ι → Bool} {Q : Fl α → Prop} (ht : ∀ i, I i → tt (emb i) = P (go i))
    (hs : ∀ i, I i → go i = true → (∃ d, f (emb i) = P (.rt d) ∧ Q (.rt d)) ∨ (∃ j, f (emb i) = P (.nx (emb j)) ∧ I j ∧ W j < W i)) (he : ∀ i, I i → go i = false → Q (.nx (emb i))) :
    ∀ (n : Nat) (i : ι), I i → W i < n → ∃ r, whileF n (emb i) tt f = P r ∧ Q r
  | 0, i, _, h => absurd h (Nat.not_lt_zero _)
  | n + 1, i, hi, h => by
    cases g : go i with
    | false =>
      refine ⟨.nx (emb i), ?_, he i hi g⟩
      unfold whileF
      rw [ht i hi, B_P, g]
      rfl
    | true =>
      rcases hs i hi g with ⟨d, e, q⟩ | ⟨j, e, hj, hw⟩
      · refine ⟨.rt d, ?_, q⟩
        unfold whileF
        rw [ht i hi, B_P, g, if_pos rfl, e, B_P]
      · obtain ⟨r, e2, q⟩ := whileF_inv ht hs he n j hj (by omega)
        refine ⟨r, ?_, q⟩
        rw [← e2]
        unfold whileF
        rw [ht i hi, B_P, g, if_pos rfl, e, B_P]
        cases n <;> rfl
theorem while_then {S ι α β : Type} {emb : ι → α} {tt : α → M S Bool} {f : α → M S (Fl α)} {I : ι → Prop} {W : ι → Nat} {go : ι → Bool} {Q : Fl α → Prop} {k : Fl α → M S β} {R : M S β → Prop} {n : Nat} {i : ι} (hi : I i) (hw : W i < n) (hk : ∀ r, Q r → R (k r)) (ht : ∀ i, I i → tt (emb i) = P (go i))
    (hs : ∀ i, I i → go i = true → (∃ d, f (emb i) = P (.rt d) ∧ Q (.rt d)) ∨ (∃ j, f (emb i) = P (.nx (emb j)) ∧ I j ∧ W j < W i)) (he : ∀ i, I i → go i = false → Q (.nx (emb i))) : R (B (whileF n (emb i) tt f) k) := by
  obtain ⟨r, e, q⟩ := whileF_inv ht hs he n i hi hw
  rw [e, B_P]
  exact hk r q
theorem eOI_d : (eOI : Option Int → D) = PySem.W.Datum.toD := by funext x; cases x <;> rfl
theorem eR_d (b : Row) : eR b = PySem.W.Datum.toD (PySem.W.Tup.mk b : PySem.W.Tup (Option Int)) := by unfold eR; rw [eOI_d]; rfl
theorem ne_stk (s : List Row) : neB (.list (s.map eR)) (.list []) = some (!decide (s = [])) := by
  have h := ne_dat (s.map fun b => (PySem.W.Tup.mk b : PySem.W.Tup (Option Int))) [] (by decide)
  have e : (PyData.list (s.map eR)) = PySem.W.Datum.toD (s.map fun b => (PySem.W.Tup.mk b : PySem.W.Tup (Option Int))) := by
    show _ = PyData.list (List.map _ _)
    rw [List.map_map]
    congr 1
    exact List.map_congr_left fun b _ => eR_d b
  rw [e]
  refine h.trans ?_
  congr 2
  exact decide_eq_decide.mpr (by simp)
theorem popL_e {ι : Type} (e : ι → D) (xs : List ι) (x : ι) : popL ((xs ++ [x]).map e) = some (e x, xs.map e) := by
  unfold popL
  simp
/-! ### what one lot says -/
def supp (lot : List Int) (b : Row) : Prop := ∀ (i : Nat) (h : i < b.length), (b[i]).isSome = decide ((i : Int) ∈ lot)
structure Full (t : List Strand) (L : Int) (lot : List Int) (b : Row) : Prop where
  len : b.length = t.length
  ok : okR L b
  sp : supp lot b
structure Way (t : List Strand) (L : Int) (w : Int × Int) (lot : List Int) (b : Row) : Prop extends Full t L lot b where
  rt : right L t w b = true
theorem sAt_nil (b : Row) (y : Int) : sAt [] b y = 0 := by simp [sAt]
theorem sAt_nil' (t : List Strand) (y : Int) : sAt t [] y = 0 := by simp [sAt]
theorem sAt_cons (s : Strand) (t : List Strand) (o : Option Int) (b : Row) (y : Int) : sAt (s :: t) (o :: b) y = ctr s o y + sAt t b y := by simp [sAt]
theorem ctr_nn {s : Strand} (h : VS s) (o : Option Int) (y : Int) : 0 ≤ ctr s o y := by
  cases o with
  | none => exact Int.le_refl _
  | some p => exact val_nn h _
theorem sAt_none : ∀ (t : List Strand) (n : Nat) (y : Int), sAt t (List.replicate n none) y = 0
  | [], n, y => sAt_nil _ _
  | s :: t, 0, y => sAt_nil' _ _
  | s :: t, n + 1, y => by rw [List.replicate_succ, sAt_cons, sAt_none t n y]; rfl
theorem sAt_nn : ∀ {t : List Strand} (b : Row) (y : Int), (∀ s ∈ t, VS s) → 0 ≤ sAt t b y
  | [], b, y, _ => by rw [sAt_nil]; omega
  | s :: t, [], y, _ => by rw [sAt_nil']; omega
  | s :: t, o :: b, y, h => by
    rw [sAt_cons]
    have := sAt_nn b y fun s hs => h s (List.mem_cons_of_mem _ hs)
    have := ctr_nn (h s List.mem_cons_self) o y
    omega
theorem sAt_pad : ∀ {t : List Strand} (r c : Row) (n : Nat) (y : Int), (∀ s ∈ t, VS s) → sAt t (r ++ List.replicate n none) y ≤ sAt t (r ++ c) y
  | [], r, c, n, y, _ => by rw [sAt_nil, sAt_nil]; omega
  | s :: t, [], c, n, y, h => by
    rw [List.nil_append, sAt_none]
    exact sAt_nn _ y h
  | s :: t, o :: r, c, n, y, h => by
    rw [List.cons_append, List.cons_append, sAt_cons, sAt_cons]
    have := sAt_pad r c n y fun s hs => h s (List.mem_cons_of_mem _ hs)
    omega
def wm (L : Nat) : Nat → Nat
  | 0 => 1
  | m + 1 => 1 + L * wm L m
theorem wm_le {L : Nat} (h : L ≤ 12) : ∀ m, wm L m ≤ wm 12 m
  | 0 => Nat.le_refl _
  | m + 1 => Nat.add_le_add_left (Nat.mul_le_mul h (wm_le h m)) 1
theorem wm_pos (L m : Nat) : 1 ≤ wm L m := by cases m <;> simp [wm]
def Wt (L n : Nat) (stk : List Row) : Nat := (stk.map fun r => wm L (n - r.length)).sum
theorem Wt_app (L n : Nat) (xs ys : List Row) : Wt L n (xs ++ ys) = Wt L n xs + Wt L n ys := by simp [Wt]
theorem Wt_same {L n k : Nat} : ∀ {rs : List Row}, (∀ r ∈ rs, r.length = k) → Wt L n rs = rs.length * wm L (n - k)
  | [], _ => by simp [Wt]
  | r :: rs, h => by
    have e := Wt_same (L := L) (n := n) (rs := rs) fun x hx => h x (List.mem_cons_of_mem _ hx)
    have e1 := h r List.mem_cons_self
    show wm L (n - r.length) + Wt L n rs = _
    rw [e, e1, List.length_cons, Nat.succ_mul]
    omega
structure Gd (n : Nat) (L : Int) (lot : List Int) (r : Row) : Prop where
  len : r.length ≤ n
  ok : okR L r
  sp : supp lot r
theorem okR_snoc {L : Int} {r : Row} {o : Option Int} (h : okR L r) (ho : ∀ p, o = some p → 0 ≤ p ∧ p < L) : okR L (r ++ [o]) := by
  intro x hx p hp
  rcases List.mem_append.mp hx with z | z
  · exact h x z p hp
  · exact ho p (List.mem_singleton.mp z ▸ hp)
theorem supp_snoc {lot : List Int} {r : Row} {o : Option Int} (h : supp lot r) (ho : o.isSome = decide ((r.length : Int) ∈ lot)) : supp lot (r ++ [o]) := by
  intro i hi
  rw [List.length_append, List.length_singleton] at hi
  by_cases c : i < r.length
  · rw [List.getElem_append_left c]
    exact h i c
  · have e : i = r.length := by omega
    subst e
    rw [List.getElem_append_right (by omega)]
    simpa using ho
theorem Gd.snoc {n : Nat} {L : Int} {lot : List Int} {r : Row} {o : Option Int} (h : Gd n L lot r) (hl : r.length < n) (ho : ∀ p, o = some p → 0 ≤ p ∧ p < L) (hs : o.isSome = decide ((r.length : Int) ∈ lot)) : Gd n L lot (r ++ [o]) :=
  ⟨by rw [List.length_append, List.length_singleton]; omega, okR_snoc h.ok ho, supp_snoc h.sp hs⟩
/-- a row that goes on takes one more place -/
theorem next_of {n : Nat} {r b : Row} (h : r <+: b) (hb : b.length = n) (hr : r.length < n) : ∃ o, b[r.length]? = some o ∧ r ++ [o] <+: b := by
  obtain ⟨c, rfl⟩ := h
  cases c with
  | nil => simp at hb; omega
  | cons o c => exact ⟨o, by simp, c, by simp⟩
def eRO : Option Row → D
  | none => .none
  | some b => eR b
theorem pad_ok {L : Int} {r : Row} (h : okR L r) (n : Nat) : okR L (r ++ List.replicate n none) := by
  intro x hx p hp
  rcases List.mem_append.mp hx with z | z
  · exact h x z p hp
  · rw [List.eq_of_mem_replicate z] at hp
    cases hp
theorem padL (n : Nat) (h : n ≤ 100000) : mulT (.list [.none]) (.int n) = some (.list (List.replicate n .none)) := by
  show (if (0 : Int) ≤ n ∧ (n : Int) ≤ 100000 ∧ ([PyData.none] : List D).length ≤ 100 then some (PyData.list (List.replicate (n : Int).toNat [PyData.none]).flatten) else none) = _
  rw [if_pos ⟨by omega, by omega, by simp⟩]
  congr 2
  rw [show (n : Int).toNat = n by omega]
  clear h
  induction n with
  | zero => rfl
  | succ n ih => rw [List.replicate_succ, List.flatten_cons, ih, List.replicate_succ]; rfl
theorem rg3 (L : Int) (L1 : 1 ≤ L) (L2 : L ≤ 12) : range3L [.int (L - 1), .int (-1), .int (-1)] = some (rgD (L - 1) (-1)) := by
  show (if _ then _ else _) = _
  rw [if_pos (by omega)]
def downs (L : Int) : List Int := (List.range L.toNat).map fun k => L - 1 - (k : Nat)
theorem rgD_downs (L : Int) : rgD (L - 1) (-1) = (downs L).map .int := by
  unfold rgD downs
  rw [List.map_map, show (L - 1 - -1).toNat = L.toNat by omega]
  rfl
theorem downs_mem {L p : Int} : p ∈ downs L ↔ 0 ≤ p ∧ p < L := by
  unfold downs
  rw [List.mem_map]
  constructor
  · rintro ⟨k, hk, rfl⟩
    have := List.mem_range.mp hk
    omega
  · rintro ⟨h0, h1⟩
    exact ⟨(L - 1 - p).toNat, List.mem_range.mpr (by omega), by omega⟩
theorem downs_len (L : Int) : (downs L).length = L.toNat := by simp [downs]
theorem sums_ne {t : List Strand} {L : Int} {b : Row} (L1 : 1 ≤ L) : sums L t b ≠ [] := by
  intro e
  have := sums_len L t b
  rw [e] at this
  simp at this
  omega
theorem hi_sums {t : List Strand} {L : Int} {b : Row} {m : Int} (L1 : 1 ≤ L) : hi (sums L t b) ≤ m ↔ ∀ y, 0 ≤ y → y < L → sAt t b y ≤ m := by
  constructor
  · intro h y h0 h1
    exact Int.le_trans (le_hi (List.mem_map_of_mem (yards_mem.mpr ⟨h0, h1⟩))) h
  · intro h
    obtain ⟨y, hy, e⟩ := List.mem_map.mp (hi_mem (sums_ne (t := t) (b := b) L1))
    have hy := yards_mem.mp hy
    show hi ((yards 0 L).map (sAt t b)) ≤ m
    have e : sAt t b y = hi ((yards 0 L).map (sAt t b)) := e
    rw [← e]
    exact h y hy.1 hy.2
/-- what waits -/
structure Wa (t : List Strand) (L : Int) (w : Int × Int) (lot : List Int) (stk : List Row) : Prop where
  gd : ∀ r ∈ stk, Gd t.length L lot r
  all : ∀ b, Way t L w lot b → ∃ r ∈ stk, r <+: b
  w : Wt L.toNat t.length stk ≤ 10000
theorem snoc_cases {α : Type} (l : List α) : l = [] ∨ ∃ xs x, l = xs ++ [x] := by
  rcases List.eq_nil_or_concat l with h | ⟨xs, x, h⟩
  · exact .inl h
  · exact .inr ⟨xs, x, by simpa using h⟩
theorem Wt_len (L n : Nat) : ∀ stk : List Row, stk.length ≤ Wt L n stk
  | [] => Nat.le_refl _
  | r :: rs => by
    have := Wt_len L n rs
    have := wm_pos L (n - r.length)
    show _ ≤ wm L (n - r.length) + Wt L n rs
    rw [List.length_cons]
    omega
theorem ways_e {t : List Strand} {L : Int} {w : Int × Int} {lot : List Int} (h : VL t L) : ∃ o : Option Row, m_ways_with [eSs t, .int L, eP w, .tuple (eI lot)] = some (eRO o) ∧ (∀ b, o = some b → Way t L w lot b) ∧ (o = none → ∀ b, ¬ Way t L w lot b) := by
  have l1 := h.l1
  have l2 := h.l2
  have L1 := h.L1
  have L2 := h.L2
  have hw0 : wm L.toNat t.length ≤ 1885 := by
    refine Nat.le_trans (wm_le (by omega) _) ?_
    rcases (show t.length = 1 ∨ t.length = 2 ∨ t.length = 3 by omega) with e | e | e <;> rw [e] <;> decide
  suffices hh : ∃ o : Option Row, run0 (b_ways_with (eSs t) (.int L) (eP w) (.tuple (eI lot))) = some (eRO o) ∧ (∀ b, o = some b → Way t L w lot b) ∧ (o = none → ∀ b, ¬ Way t L w lot b) from hh
  unfold b_ways_with
  have e0 : (lstS [.tuple []] : Option (List D)) = some (([[]] : List Row).map eR) := rfl
  simp only [tup0, e0, L_s, B_P]
  refine while_then (emb := fun s : List Row => s.map eR) (I := Wa t L w lot) (W := Wt L.toNat t.length) (go := fun s => !decide (s = []))
    (Q := fun f => (∃ b, f = .rt (eR b) ∧ Way t L w lot b) ∨ (∃ a, f = .nx a ∧ ∀ b, ¬ Way t L w lot b)) (R := fun m => ∃ o : Option Row, run0 m = some (eRO o) ∧ (∀ b, o = some b → Way t L w lot b) ∧ (o = none → ∀ b, ¬ Way t L w lot b)) (i := [[]]) ?_ ?_ ?_ ?_ ?_ ?_
  rotate_left 2
  · intro r q
    rcases q with ⟨b, rfl, hb⟩ | ⟨a, rfl, hn⟩
    · exact ⟨some b, rfl, ⟨fun b' e => (Option.some.inj e) ▸ hb, fun e => by cases e⟩⟩
    · exact ⟨none, rfl, ⟨fun b' e => (by cases e), fun _ => hn⟩⟩
  · intro s _
    simp only [ne_stk, if_true, if_false, B_P, L_s, run0_P, mNone_P, ite_and, ite_or, ite_and', ite_or', ite_t, ite_f, boolD_b, lt_ii, le_ii, gt_ii, ge_ii, add_ii, sub_ii, neg_i, part_i, seq_t, seq_l, tup2, tup0, lst0, lst1, lstS0, tup_l, tup_t, len_t, len_l, u2_p, isi_tt, isi_ii, isi_bi, isi_ss, Bool.not_true, Bool.not_false, Bool.and_true, Bool.true_and, Bool.or_false, Bool.false_or]
  · intro stk hI hgo
    rcases snoc_cases stk with rfl | ⟨xs, r, rfl⟩
    · simp at hgo
    have hr := hI.gd r (by simp)
    have hl := Wt_len L.toNat t.length (xs ++ [r])
    have hw := hI.w
    have hxs : xs.length ≤ 10000 := by rw [List.length_append, List.length_singleton] at hl; omega
    have hW := Wt_app L.toNat t.length xs [r]
    have hW1 : Wt L.toNat t.length [r] = wm L.toNat (t.length - r.length) := by simp [Wt]
    have hgx : ∀ x ∈ xs, Gd t.length L lot x := fun x hx => hI.gd x (by simp [hx])
    have er : eR r = .tuple (r.map eOI) := rfl
    have et : eSs t = .tuple (t.map eS) := rfl
    have hlr := hr.len
    by_cases c : r.length = t.length
    · have ir := is_right_e (w := w) (fun s hs => h.at_ s hs) L1 L2 hr.ok (t := t)
      by_cases g : right L t w r = true
      · refine .inl ⟨eR r, ?_, .inl ⟨r, rfl, ⟨⟨c, hr.ok, hr.sp⟩, g⟩⟩⟩
        simp only [popL_e, pop2, er, et, List.length_map, eq_ii, c, decide_true, if_true, if_false, B_P, L_s, run0_P, mNone_P, ite_and, ite_or, ite_and', ite_or', ite_t, ite_f, boolD_b, lt_ii, le_ii, gt_ii, ge_ii, add_ii, sub_ii, neg_i, part_i, seq_t, seq_l, tup2, tup0, lst0, lst1, lstS0, tup_l, tup_t, len_t, len_l, u2_p, isi_tt, isi_ii, isi_bi, isi_ss, Bool.not_true, Bool.not_false, Bool.and_true, Bool.true_and, Bool.or_false, Bool.false_or]
        rw [← er, ← et, ir, g]
        simp only [if_true, if_false, B_P, L_s, run0_P, mNone_P, ite_and, ite_or, ite_and', ite_or', ite_t, ite_f, boolD_b, lt_ii, le_ii, gt_ii, ge_ii, add_ii, sub_ii, neg_i, part_i, seq_t, seq_l, tup2, tup0, lst0, lst1, lstS0, tup_l, tup_t, len_t, len_l, u2_p, isi_tt, isi_ii, isi_bi, isi_ss, Bool.not_true, Bool.not_false, Bool.and_true, Bool.true_and, Bool.or_false, Bool.false_or]
        rfl
      · refine .inr ⟨xs, ?_, ⟨hgx, fun b hb => ?_, by omega⟩, ?_⟩
        · simp only [popL_e, pop2, er, et, List.length_map, eq_ii, c, decide_true, if_true, if_false, B_P, L_s, run0_P, mNone_P, ite_and, ite_or, ite_and', ite_or', ite_t, ite_f, boolD_b, lt_ii, le_ii, gt_ii, ge_ii, add_ii, sub_ii, neg_i, part_i, seq_t, seq_l, tup2, tup0, lst0, lst1, lstS0, tup_l, tup_t, len_t, len_l, u2_p, isi_tt, isi_ii, isi_bi, isi_ss, Bool.not_true, Bool.not_false, Bool.and_true, Bool.true_and, Bool.or_false, Bool.false_or]
          rw [← er, ← et, ir, Bool.eq_false_iff.mpr g]
          simp only [Bool.false_eq_true, if_true, if_false, B_P, L_s, run0_P, mNone_P, ite_and, ite_or, ite_and', ite_or', ite_t, ite_f, boolD_b, lt_ii, le_ii, gt_ii, ge_ii, add_ii, sub_ii, neg_i, part_i, seq_t, seq_l, tup2, tup0, lst0, lst1, lstS0, tup_l, tup_t, len_t, len_l, u2_p, isi_tt, isi_ii, isi_bi, isi_ss, Bool.not_true, Bool.not_false, Bool.and_true, Bool.true_and, Bool.or_false, Bool.false_or]
          rfl
        · obtain ⟨x, hx, px⟩ := hI.all b hb
          rcases List.mem_append.mp hx with z | z
          · exact ⟨x, z, px⟩
          · rw [List.mem_singleton.mp z] at px
            have e : r = b := List.IsPrefix.eq_of_length px (by rw [hb.len, c])
            exact absurd (e ▸ hb.rt) g
        · have := wm_pos L.toNat (t.length - r.length)
          omega
    · have c' : ¬ ((r.length : Int) = (t.length : Int)) := by omega
      have hlt : r.length < t.length := by omega
      have hwm : wm L.toNat (t.length - r.length) = 1 + L.toNat * wm L.toNat (t.length - (r.length + 1)) := by
        rw [show t.length - r.length = (t.length - (r.length + 1)) + 1 by omega]
        rfl
      by_cases g : (r.length : Int) ∈ lot
      · -- laid somewhere
        have hz : zipA [eSs t, PyData.list ((r ++ List.replicate (t.length - r.length) none).map eOI)] = some (pairs2 (t.map eS) ((r ++ List.replicate (t.length - r.length) none).map eOI)) := rfl
        have hs := sums_of_e (fun s hs => h.at_ s hs) L1 L2 (pad_ok hr.ok (t.length - r.length)) hz
        have ep : (r.map eOI) ++ (List.replicate (t.length - r.length) PyData.none ++ []) = (r ++ List.replicate (t.length - r.length) none).map eOI := by
          rw [List.map_append, List.append_nil, List.map_replicate]
          rfl
        have lp : ((r ++ List.replicate (t.length - r.length) none).map eOI).length ≤ 16777216 := by
          rw [List.length_map, List.length_append, List.length_replicate]
          omega
        have cm : cmp ((downs L).map .int) (fun d244 => B (DL.L (tupD (r.map eOI ++ [d244]))) fun x248 => (P (some x248) : M Unit (Option D))) = P ((downs L).map fun p => eR (r ++ [some p])) := cmp_map fun p hp => by
          simp only [tupD_le (xs := r.map eOI ++ [PyData.int p]) (by rw [List.length_append, List.length_map, List.length_singleton]; omega), if_true, if_false, B_P, L_s, run0_P, mNone_P, ite_and, ite_or, ite_and', ite_or', ite_t, ite_f, boolD_b, lt_ii, le_ii, gt_ii, ge_ii, add_ii, sub_ii, neg_i, part_i, seq_t, seq_l, tup2, tup0, lst0, lst1, lstS0, tup_l, tup_t, len_t, len_l, u2_p, isi_tt, isi_ii, isi_bi, isi_ss, Bool.not_true, Bool.not_false, Bool.and_true, Bool.true_and, Bool.or_false, Bool.false_or]
          show P _ = P _
          unfold eR
          rw [List.map_append]
          rfl
        have dl : ((downs L).map fun p => eR (r ++ [some p])).length ≤ 12 := by rw [List.length_map, downs_len]; omega
        by_cases q : hi (sums L t (r ++ List.replicate (t.length - r.length) none)) ≤ w.2
        · refine .inr ⟨xs ++ (downs L).map fun p => r ++ [some p], ?_, ⟨?_, fun b hb => ?_, ?_⟩, ?_⟩
          · simp only [popL_e, pop2, er, et, List.length_map, eq_ii, c', decide_false, Bool.false_eq_true, if_true, if_false, B_P, L_s, run0_P, mNone_P, ite_and, ite_or, ite_and', ite_or', ite_t, ite_f, boolD_b, lt_ii, le_ii, gt_ii, ge_ii, add_ii, sub_ii, neg_i, part_i, seq_t, seq_l, tup2, tup0, lst0, lst1, lstS0, tup_l, tup_t, len_t, len_l, u2_p, isi_tt, isi_ii, isi_bi, isi_ss, Bool.not_true, Bool.not_false, Bool.and_true, Bool.true_and, Bool.or_false, Bool.false_or]
            simp only [ninB, in_tI, decide_eq_true g, Option.map_some, Bool.false_eq_true, show ((t.length : Int) - (r.length : Int)) = ((t.length - r.length : Nat) : Int) by omega, padL _ (show t.length - r.length ≤ 100000 by omega), ep, lstD_le lp, if_true, if_false, B_P, L_s, run0_P, mNone_P, ite_and, ite_or, ite_and', ite_or', ite_t, ite_f, boolD_b, lt_ii, le_ii, gt_ii, ge_ii, add_ii, sub_ii, neg_i, part_i, seq_t, seq_l, tup2, tup0, lst0, lst1, lstS0, tup_l, tup_t, len_t, len_l, u2_p, isi_tt, isi_ii, isi_bi, isi_ss, Bool.not_true, Bool.not_false, Bool.and_true, Bool.true_and, Bool.or_false, Bool.false_or]
            rw [← et, hs]
            simp only [max_seq (seq_l _) (sums_ne L1), eP, ix1, decide_eq_true q, rg3 L L1 L2, rgD_downs, cm, lstD_le (show ((downs L).map fun p => eR (r ++ [some p])).length ≤ 16777216 by omega), ext_l (xs.map eR) ((downs L).map fun p => eR (r ++ [some p])) (by rw [List.length_map]; omega), kF_nx, if_true, if_false, B_P, L_s, run0_P, mNone_P, ite_and, ite_or, ite_and', ite_or', ite_t, ite_f, boolD_b, lt_ii, le_ii, gt_ii, ge_ii, add_ii, sub_ii, neg_i, part_i, seq_t, seq_l, tup2, tup0, lst0, lst1, lstS0, tup_l, tup_t, len_t, len_l, u2_p, isi_tt, isi_ii, isi_bi, isi_ss, Bool.not_true, Bool.not_false, Bool.and_true, Bool.true_and, Bool.or_false, Bool.false_or]
            rw [List.map_append, List.map_map]
            rfl
          · intro x hx
            rcases List.mem_append.mp hx with z | z
            · exact hgx x z
            · obtain ⟨p, hp, rfl⟩ := List.mem_map.mp z
              exact hr.snoc hlt (fun p' e => by cases e; exact downs_mem.mp hp) (by rw [decide_eq_true g]; rfl)
          · obtain ⟨x, hx, px⟩ := hI.all b hb
            rcases List.mem_append.mp hx with z | z
            · exact ⟨x, List.mem_append_left _ z, px⟩
            · rw [List.mem_singleton.mp z] at px
              obtain ⟨o, ho, po⟩ := next_of px hb.len hlt
              obtain ⟨hi', e⟩ := List.getElem?_eq_some_iff.mp ho
              have s1 := hb.sp _ hi'
              rw [e, decide_eq_true g] at s1
              cases o with
              | none => cases s1
              | some p => exact ⟨_, List.mem_append_right _ (List.mem_map_of_mem (downs_mem.mpr (hb.ok _ (e ▸ List.getElem_mem hi') p rfl))), po⟩
          · rw [Wt_app, Wt_same (k := r.length + 1) (rs := (downs L).map fun p => r ++ [some p]) fun x hx => by obtain ⟨p, _, rfl⟩ := List.mem_map.mp hx; simp, List.length_map, downs_len]
            omega
          · rw [Wt_app, Wt_same (k := r.length + 1) (rs := (downs L).map fun p => r ++ [some p]) fun x hx => by obtain ⟨p, _, rfl⟩ := List.mem_map.mp hx; simp, List.length_map, downs_len]
            omega
        · refine .inr ⟨xs, ?_, ⟨hgx, fun b hb => ?_, by omega⟩, ?_⟩
          · simp only [popL_e, pop2, er, et, List.length_map, eq_ii, c', decide_false, Bool.false_eq_true, if_true, if_false, B_P, L_s, run0_P, mNone_P, ite_and, ite_or, ite_and', ite_or', ite_t, ite_f, boolD_b, lt_ii, le_ii, gt_ii, ge_ii, add_ii, sub_ii, neg_i, part_i, seq_t, seq_l, tup2, tup0, lst0, lst1, lstS0, tup_l, tup_t, len_t, len_l, u2_p, isi_tt, isi_ii, isi_bi, isi_ss, Bool.not_true, Bool.not_false, Bool.and_true, Bool.true_and, Bool.or_false, Bool.false_or]
            simp only [ninB, in_tI, decide_eq_true g, Option.map_some, Bool.false_eq_true, show ((t.length : Int) - (r.length : Int)) = ((t.length - r.length : Nat) : Int) by omega, padL _ (show t.length - r.length ≤ 100000 by omega), ep, lstD_le lp, if_true, if_false, B_P, L_s, run0_P, mNone_P, ite_and, ite_or, ite_and', ite_or', ite_t, ite_f, boolD_b, lt_ii, le_ii, gt_ii, ge_ii, add_ii, sub_ii, neg_i, part_i, seq_t, seq_l, tup2, tup0, lst0, lst1, lstS0, tup_l, tup_t, len_t, len_l, u2_p, isi_tt, isi_ii, isi_bi, isi_ss, Bool.not_true, Bool.not_false, Bool.and_true, Bool.true_and, Bool.or_false, Bool.false_or]
            rw [← et, hs]
            simp only [max_seq (seq_l _) (sums_ne L1), eP, ix1, decide_eq_false q, Bool.false_eq_true, kF_nx, if_true, if_false, B_P, L_s, run0_P, mNone_P, ite_and, ite_or, ite_and', ite_or', ite_t, ite_f, boolD_b, lt_ii, le_ii, gt_ii, ge_ii, add_ii, sub_ii, neg_i, part_i, seq_t, seq_l, tup2, tup0, lst0, lst1, lstS0, tup_l, tup_t, len_t, len_l, u2_p, isi_tt, isi_ii, isi_bi, isi_ss, Bool.not_true, Bool.not_false, Bool.and_true, Bool.true_and, Bool.or_false, Bool.false_or]
          · obtain ⟨x, hx, px⟩ := hI.all b hb
            rcases List.mem_append.mp hx with z | z
            · exact ⟨x, z, px⟩
            · exfalso
              rw [List.mem_singleton.mp z] at px
              obtain ⟨cc, rfl⟩ := px
              refine q ((hi_sums L1).mpr fun y h0 h1 => Int.le_trans (sAt_pad r cc _ y fun s hs => h.at_ s hs) ((right_iff.mp hb.rt y h0 h1).2))
          · have := wm_pos L.toNat (t.length - r.length)
            omega
      · refine .inr ⟨xs ++ [r ++ [none]], ?_, ⟨?_, fun b hb => ?_, ?_⟩, ?_⟩
        · simp only [popL_e, pop2, er, et, List.length_map, eq_ii, c', decide_false, Bool.false_eq_true, if_true, if_false, B_P, L_s, run0_P, mNone_P, ite_and, ite_or, ite_and', ite_or', ite_t, ite_f, boolD_b, lt_ii, le_ii, gt_ii, ge_ii, add_ii, sub_ii, neg_i, part_i, seq_t, seq_l, tup2, tup0, lst0, lst1, lstS0, tup_l, tup_t, len_t, len_l, u2_p, isi_tt, isi_ii, isi_bi, isi_ss, Bool.not_true, Bool.not_false, Bool.and_true, Bool.true_and, Bool.or_false, Bool.false_or]
          simp only [ninB, in_tI, decide_eq_false g, Option.map_some, tupD_le (xs := r.map eOI ++ [PyData.none]) (by rw [List.length_append, List.length_map, List.length_singleton]; omega), appL_lt (xs := xs.map eR) (d := .tuple (r.map eOI ++ [PyData.none])) (by rw [List.length_map]; omega), kF_nx, if_true, if_false, B_P, L_s, run0_P, mNone_P, ite_and, ite_or, ite_and', ite_or', ite_t, ite_f, boolD_b, lt_ii, le_ii, gt_ii, ge_ii, add_ii, sub_ii, neg_i, part_i, seq_t, seq_l, tup2, tup0, lst0, lst1, lstS0, tup_l, tup_t, len_t, len_l, u2_p, isi_tt, isi_ii, isi_bi, isi_ss, Bool.not_true, Bool.not_false, Bool.and_true, Bool.true_and, Bool.or_false, Bool.false_or]
          rw [List.map_append, List.map_singleton]
          unfold eR
          rw [List.map_append]
          rfl
        · intro x hx
          rcases List.mem_append.mp hx with z | z
          · exact hgx x z
          · rw [List.mem_singleton.mp z]
            exact hr.snoc hlt (fun p e => by cases e) (by rw [decide_eq_false g]; rfl)
        · obtain ⟨x, hx, px⟩ := hI.all b hb
          rcases List.mem_append.mp hx with z | z
          · exact ⟨x, List.mem_append_left _ z, px⟩
          · rw [List.mem_singleton.mp z] at px
            obtain ⟨o, ho, po⟩ := next_of px hb.len hlt
            obtain ⟨hi', e⟩ := List.getElem?_eq_some_iff.mp ho
            have s1 := hb.sp _ hi'
            rw [e, decide_eq_false g] at s1
            cases o with
            | none => exact ⟨_, List.mem_append_right _ (List.mem_singleton.mpr rfl), po⟩
            | some p => cases s1
        · rw [Wt_app, Wt_same (k := r.length + 1) (rs := [r ++ [none]]) fun x hx => by rw [List.mem_singleton.mp hx]; simp, List.length_singleton, Nat.one_mul]
          have : 1 * wm L.toNat (t.length - (r.length + 1)) ≤ L.toNat * wm L.toNat (t.length - (r.length + 1)) := Nat.mul_le_mul_right _ (by omega)
          omega
        · rw [Wt_app, Wt_same (k := r.length + 1) (rs := [r ++ [none]]) fun x hx => by rw [List.mem_singleton.mp hx]; simp, List.length_singleton, Nat.one_mul]
          have : 1 * wm L.toNat (t.length - (r.length + 1)) ≤ L.toNat * wm L.toNat (t.length - (r.length + 1)) := Nat.mul_le_mul_right _ (by omega)
          omega
  · intro stk hI hgo
    refine .inr ⟨_, rfl, fun b hb => ?_⟩
    have e : stk = [] := by simpa using hgo
    obtain ⟨x, hx, _⟩ := hI.all b hb
    rw [e] at hx
    cases hx
  · refine ⟨fun r hr => ?_, fun b hb => ⟨[], by simp, by simp⟩, ?_⟩
    · rw [List.mem_singleton.mp hr]
      exact ⟨Nat.zero_le _, fun x hx => (by cases hx), fun i hi => (by cases hi)⟩
    · show wm L.toNat (t.length - 0) + 0 ≤ 10000
      rw [Nat.sub_zero]
      omega
  · show wm L.toNat (t.length - 0) + 0 < 100000
    rw [Nat.sub_zero]
    omega
end K22

set_option Elab.async false
set_option linter.all false
set_option maxRecDepth 100000
set_option maxHeartbeats 1000000
namespace K22
open PySem PySem.Spec PyProof.Rows L2 DL
theorem foldF_rt {S α : Type} {f : α → D → M S (Fl α)} {a : α} {d r : D} {ds : List D} (h : f a d = P (.rt r)) : foldF (d :: ds) a f = P (.rt r) := by
  show (B (f a d) fun
    | .nx a => foldF ds a f
    | .bk a => P (.nx a)
    | .rt d => P (.rt d)) = _
  rw [h, B_P]
/-- a loop that goes back at the first hit -/
theorem foldF_find {S ι : Type} {e : ι → D} {f : Unit → D → M S (Fl Unit)} {g : ι → Option D} : ∀ {xs : List ι}, (∀ x ∈ xs, f () (e x) = P (match g x with | some d => Fl.rt d | none => Fl.nx ())) → foldF (xs.map e) () f = P (match xs.findSome? g with | some d => Fl.rt d | none => Fl.nx ())
  | [], _ => rfl
  | x :: xs, h => by
    have h1 := h x List.mem_cons_self
    rw [List.map_cons, List.findSome?_cons]
    cases c : g x with
    | some d =>
      rw [c] at h1
      exact foldF_rt h1
    | none =>
      rw [c] at h1
      rw [foldF_cons h1]
      exact foldF_find fun y hy => h y (List.mem_cons_of_mem _ hy)
/-! ### lots -/
def lots : Nat → List (List Int)
  | 0 => [[]]
  | k + 1 => lots k ++ (lots k).map fun l => l ++ [(k : Int)]
theorem lots_len : ∀ n, (lots n).length = 2 ^ n
  | 0 => rfl
  | n + 1 => by
    show (lots n ++ (lots n).map _).length = _
    rw [List.length_append, List.length_map, lots_len n, Nat.pow_succ]
    omega
theorem lots_mem {x : Int} : ∀ {n : Nat} {l : List Int}, l ∈ lots n → x ∈ l → 0 ≤ x ∧ x < n
  | 0, l, h, hx => by
    rw [List.mem_singleton.mp h] at hx
    cases hx
  | n + 1, l, h, hx => by
    rcases List.mem_append.mp h with z | z
    · have := lots_mem z hx
      omega
    · obtain ⟨m, hm, rfl⟩ := List.mem_map.mp z
      rcases List.mem_append.mp hx with y | y
      · have := lots_mem hm y
        omega
      · rw [List.mem_singleton.mp y]
        omega
theorem lots_short : ∀ {n : Nat} {l : List Int}, l ∈ lots n → l.length ≤ n
  | 0, l, h => by rw [List.mem_singleton.mp h]; exact Nat.le_refl _
  | n + 1, l, h => by
    rcases List.mem_append.mp h with z | z
    · have := lots_short z
      omega
    · obtain ⟨m, hm, rfl⟩ := List.mem_map.mp z
      have := lots_short hm
      rw [List.length_append, List.length_singleton]
      omega
def sup (b : Row) : Nat → List Int
  | 0 => []
  | k + 1 => if (b.getD k none).isSome then sup b k ++ [(k : Int)] else sup b k
theorem sup_lot (b : Row) : ∀ n, sup b n ∈ lots n
  | 0 => List.mem_singleton.mpr rfl
  | n + 1 => by
    unfold sup
    split
    · exact List.mem_append_right _ (List.mem_map_of_mem (sup_lot b n))
    · exact List.mem_append_left _ (sup_lot b n)
theorem sup_mem (b : Row) (i : Nat) : ∀ n, (i : Int) ∈ sup b n ↔ i < n ∧ (b.getD i none).isSome = true
  | 0 => by simp [sup]
  | n + 1 => by
    have ih := sup_mem b i n
    unfold sup
    split
    · rename_i c
      rw [List.mem_append, ih, List.mem_singleton]
      constructor
      · rintro (z | z)
        · exact ⟨by omega, z.2⟩
        · have : i = n := by omega
          exact ⟨by omega, this ▸ c⟩
      · rintro ⟨z, y⟩
        by_cases e : i = n
        · exact .inr (by omega)
        · exact .inl ⟨by omega, y⟩
    · rename_i c
      rw [ih]
      constructor
      · rintro ⟨z, y⟩
        exact ⟨by omega, y⟩
      · rintro ⟨z, y⟩
        refine ⟨?_, y⟩
        rcases Nat.lt_succ_iff_lt_or_eq.mp z with z | z
        · exact z
        · exact absurd (z ▸ y) c
def cnt (b : Row) : Nat := (b.filter Option.isSome).length
theorem sup_cnt (b : Row) : ∀ n, n ≤ b.length → (sup b n).length = cnt (b.take n)
  | 0, _ => by simp [sup, cnt]
  | n + 1, h => by
    have ih := sup_cnt b n (by omega)
    have hn : n < b.length := by omega
    unfold cnt at ih ⊢
    rw [List.take_succ_eq_append_getElem hn, List.filter_append, List.length_append, ← ih]
    rw [show sup b (n + 1) = if (b.getD n none).isSome then sup b n ++ [(n : Int)] else sup b n from rfl, List.getD_eq_getElem?_getD, List.getElem?_eq_getElem hn, Option.getD_some]
    cases c : b[n] <;> simp
theorem supp_sup {b : Row} : supp (sup b b.length) b := by
  intro i hi
  have := sup_mem b i b.length
  rw [List.getD_eq_getElem?_getD, List.getElem?_eq_getElem hi, Option.getD_some] at this
  rw [Bool.eq_iff_iff, decide_eq_true_eq, this]
  exact ⟨fun h => ⟨hi, h⟩, fun h => h.2⟩
theorem lot_sup (b : Row) : ∀ (n : Nat) (l : List Int), l ∈ lots n → (∀ i : Nat, i < n → ((i : Int) ∈ l ↔ (b.getD i none).isSome = true)) → l = sup b n
  | 0, l, h, _ => List.mem_singleton.mp h
  | n + 1, l, h, hs => by
    rcases List.mem_append.mp h with z | z
    · have c : ¬ (b.getD n none).isSome = true := fun c => by
        have := lots_mem z ((hs n (by omega)).mpr c)
        omega
      unfold sup
      rw [if_neg c]
      exact lot_sup b n l z fun i hi => hs i (by omega)
    · obtain ⟨m, hm, rfl⟩ := List.mem_map.mp z
      have c : (b.getD n none).isSome = true := (hs n (by omega)).mp (by simp)
      unfold sup
      rw [if_pos c, lot_sup b n m hm fun i hi => ?_]
      rw [← hs i (by omega), List.mem_append, List.mem_singleton]
      exact ⟨.inl, fun h => h.elim id fun e => by omega⟩
/-! ### the order of lots -/
def eL (l : List Int) : D := .tuple (eI l)
def kL (l : List Int) : D := .tuple [.int l.length, .tuple (eI l)]
theorem kL_d (l : List Int) : kL l = PySem.W.Datum.toD (((l.length : Int), (PySem.W.Tup.mk l : PySem.W.Tup Int))) := rfl
theorem keys_lots {g : D → Option D} (hg : ∀ l : List Int, l.length ≤ 16777216 → g (eL l) = some (kL l)) : ∀ {ls : List (List Int)}, (∀ l ∈ ls, l.length ≤ 16777216) → keysOf g (ls.map eL) = some (ls.map kL)
  | [], _ => rfl
  | l :: ls, h => by
    show (g (eL l)).bind (fun k => (keysOf g (ls.map eL)).map fun ks => k :: ks) = _
    rw [hg l (h l List.mem_cons_self), keys_lots hg fun x hx => h x (List.mem_cons_of_mem _ hx)]
    rfl
theorem noLs_ints : ∀ l : List Int, noLs (eI l) = true
  | [] => rfl
  | x :: xs => by
    show (noL (.int x) && noLs (eI xs)) = true
    rw [noLs_ints xs]
    rfl
theorem noLs_lots : ∀ ls : List (List Int), noLs (ls.map kL) = true
  | [] => rfl
  | l :: ls => by
    show (noL (kL l) && noLs (ls.map kL)) = true
    rw [noLs_lots ls, Bool.and_true]
    show (noL (.int (l.length : Int)) && (noLs (eI l) && noLs [])) = true
    rw [noLs_ints]
    rfl
abbrev ordL (l m : List Int) : Bool := PySem.W.dataLe false (fun p : D × D => p.2) (eL l, kL l) (eL m, kL m)
theorem ordL_len {l m : List Int} (h : ordL l m = true) : l.length ≤ m.length := by
  have h : (!PySem.W.dataLt (kL m) (kL l)) = true := h
  rw [kL_d, kL_d, PySem.W.DatumOrd.lt_eq] at h
  have h : (!(if (m.length : Int) = (l.length : Int) then _ else decide ((m.length : Int) < (l.length : Int)))) = true := h
  split at h
  · omega
  · simp at h
    omega
theorem sort_lots {g : D → Option D} (hg : ∀ l : List Int, l.length ≤ 16777216 → g (eL l) = some (kL l)) {ls : List (List Int)} (hl : ∀ l ∈ ls, l.length ≤ 16777216) : ∃ sl : List (List Int), sortKD [] g (.list (ls.map eL)) = some (.list (sl.map eL)) ∧ (∀ l, l ∈ sl ↔ l ∈ ls) ∧ sl.Pairwise (fun a b => a.length ≤ b.length) := by
  have zz : (ls.map eL).zip (ls.map kL) = ls.map fun l => (eL l, kL l) := by exact List.zip_map'
  have ok : sortOk (ls.map kL) = true := by
    have e : ls.map kL = (ls.map fun l => (((l.length : Int), (PySem.W.Tup.mk l : PySem.W.Tup Int)))).map PySem.W.Datum.toD := by rw [List.map_map]; rfl
    unfold sortOk
    have a := PySem.W.alikeAll_datum (ls.map fun l => (((l.length : Int), (PySem.W.Tup.mk l : PySem.W.Tup Int))))
    have p := PySem.W.plainAll_map (ls.map fun l => (((l.length : Int), (PySem.W.Tup.mk l : PySem.W.Tup Int))))
    have d := PySem.W.depthAll_map (ls.map fun l => (((l.length : Int), (PySem.W.Tup.mk l : PySem.W.Tup Int))))
    simp only [Bool.and_eq_true, decide_eq_true_eq, List.all_eq_true, Bool.or_eq_true]
    rw [← e] at a p d
    refine ⟨⟨⟨a.1, .inl fun x hx => ?_⟩, p⟩, Nat.le_trans d (by decide)⟩
    obtain ⟨l, _, rfl⟩ := List.mem_map.mp hx
    rfl
  have pl : PyData.plainAll (ls.map eL) = true := by
    have e : ls.map eL = (ls.map fun l => (PySem.W.Tup.mk l : PySem.W.Tup Int)).map PySem.W.Datum.toD := by rw [List.map_map]; rfl
    rw [e]
    exact PySem.W.plainAll_map _
  refine ⟨ls.mergeSort ordL, ?_, fun l => (List.mergeSort_perm ls ordL).mem_iff, ?_⟩
  · show (keysOf g (ls.map eL)).bind _ = _
    rw [keys_lots hg hl]
    show (if _ then _ else _) = _
    rw [if_pos (by rw [ok, noLs_lots, pl]; rfl), zz]
    unfold srtK
    rw [← PySem.W.sort_maps (fun l => (eL l, kL l)) (r := ordL) fun a _ b _ => rfl, List.map_map]
    rfl
  · refine List.Pairwise.imp (fun {a b} h => ordL_len h) (List.pairwise_mergeSort ?_ ?_ ls)
    · intro a b c h1 h2
      exact (PySem.W.sortLe_total _ _ _).trans _ _ _ h1 h2
    · intro a b
      rw [Bool.or_eq_true]
      exact (PySem.W.sortLe_total _ _ _).total (eL a, kL a) (eL b, kL b)
/-! ### the least -/
structure Rt (t : List Strand) (L : Int) (w : Int × Int) (b : Row) : Prop where
  len : b.length = t.length
  ok : okR L b
  rt : right L t w b = true
def eTold : Option Row → D
  | none => .tuple [.str "never"]
  | some b => .tuple [.str "laid", eR b]
structure Least (t : List Strand) (L : Int) (w : Int × Int) (o : Option Row) : Prop where
  yes : ∀ b, o = some b → Rt t L w b ∧ ∀ c, Rt t L w c → cnt b ≤ cnt c
  no : o = none → ∀ c, ¬ Rt t L w c
theorem Way.cnt {t : List Strand} {L : Int} {w : Int × Int} {l : List Int} {b : Row} (h : Way t L w l b) (hl : l ∈ lots t.length) : l.length = cnt b := by
  have e := lot_sup b t.length l hl fun i hi => by
    have hb : i < b.length := by rw [h.len]; exact hi
    rw [List.getD_eq_getElem?_getD, List.getElem?_eq_getElem hb, Option.getD_some, h.sp i hb, decide_eq_true_eq]
  have c := sup_cnt b t.length (by rw [h.len]; exact Nat.le_refl _)
  rw [e, c, ← h.len, List.take_length]
theorem Rt.way {t : List Strand} {L : Int} {w : Int × Int} {b : Row} (h : Rt t L w b) : Way t L w (sup b t.length) b := ⟨⟨h.len, h.ok, by rw [← h.len]; exact supp_sup⟩, h.rt⟩
theorem findSome_first {α β : Type} {g : α → Option β} : ∀ {xs : List α} {d : β}, xs.findSome? g = some d → ∃ as x bs, xs = as ++ x :: bs ∧ g x = some d ∧ ∀ a ∈ as, g a = none
  | [], _, h => by cases h
  | x :: xs, d, h => by
    rw [List.findSome?_cons] at h
    cases c : g x with
    | some e =>
      rw [c] at h
      cases h
      exact ⟨[], x, xs, rfl, c, fun a ha => by cases ha⟩
    | none =>
      rw [c] at h
      obtain ⟨as, y, bs, rfl, h1, h2⟩ := findSome_first h
      exact ⟨x :: as, y, bs, rfl, h1, fun a ha => (List.mem_cons.mp ha).elim (fun e => e ▸ c) (h2 a)⟩
theorem eqN (o : Option Row) : isntB (eRO o) .none = some o.isSome := by cases o <;> rfl
theorem least_e {t : List Strand} {L : Int} {w : Int × Int} (h : VL t L) (hb : VB w) : ∃ o : Option Row, m_least_laid [eSs t, .int L, eP w] = some (eTold o) ∧ Least t L w o := by
  have l1 := h.l1
  have l2 := h.l2
  obtain ⟨g, hg⟩ := Classical.axiomOfChoice (fun lot : List Int => ways_e (w := w) (lot := lot) h)
  obtain ⟨sl, hs, hm, hp⟩ := sort_lots (g := fun d285 => run0 (B (DL.L (lenB [d285])) fun x287 => P (PyData.tuple [x287, d285]))) (fun l hl => by
    have e : lenB [eL l] = some (.int l.length) := by
      show (if (eI l).length ≤ 16777216 then some (PyData.int ((eI l).length : Nat)) else none) = _
      rw [eI_len, if_pos hl]
    show run0 _ = _
    simp only [e, if_true, if_false, B_P, L_s, run0_P, mNone_P, ite_and, ite_or, ite_and', ite_or', ite_t, ite_f, boolD_b, lt_ii, le_ii, gt_ii, ge_ii, add_ii, sub_ii, neg_i, part_i, seq_t, seq_l, tup2, tup0, lst0, lst1, lstS0, tup_l, tup_t, len_t, len_l, u2_p, isi_tt, isi_ii, isi_bi, isi_ss, Bool.not_true, Bool.not_false, Bool.and_true, Bool.true_and, Bool.or_false, Bool.false_or]
    rfl) (ls := lots t.length) fun l hl => by have := lots_short hl; omega
  suffices hh : m_least_laid [eSs t, .int L, eP w] = some (match sl.findSome? fun l => (g l).map fun b => eTold (some b) with | some d => d | none => eTold none) by
    cases c : sl.findSome? fun l => (g l).map fun b => eTold (some b) with
    | none =>
      refine ⟨none, by rw [hh, c], ⟨fun b e => (by cases e), fun _ b hb => ?_⟩⟩
      have hw := hb.way
      have := List.findSome?_eq_none_iff.mp c _ ((hm _).mpr (sup_lot b t.length))
      rw [Option.map_eq_none_iff] at this
      exact (hg _).2.2 this b hw
    | some d =>
      obtain ⟨as, l, bs, rfl, h1, h2⟩ := findSome_first c
      obtain ⟨b, hgb, rfl⟩ := Option.map_eq_some_iff.mp h1
      have hw := (hg l).2.1 b hgb
      refine ⟨some b, by rw [hh, c], ⟨fun b' e => ?_, fun e => by cases e⟩⟩
      cases e
      refine ⟨⟨hw.len, hw.ok, hw.rt⟩, fun c hc => ?_⟩
      have hcw := hc.way
      have hcs : sup c t.length ∈ as ++ l :: bs := (hm _).mpr (sup_lot c t.length)
      rw [← hw.cnt ((hm l).mp (by simp)), ← hcw.cnt (sup_lot c t.length)]
      rcases List.mem_append.mp hcs with z | z
      · have := h2 _ z
        rw [Option.map_eq_none_iff] at this
        exact absurd hcw ((hg _).2.2 this c)
      · rcases List.mem_cons.mp z with z | z
        · rw [z]
          exact Nat.le_refl _
        · exact List.rel_of_pairwise_cons (List.pairwise_append.mp hp).2.1 z
  show run0 (b_least_laid _ _ _) = _
  unfold b_least_laid
  simp only [check_strands_e h hb, if_true, if_false, B_P, L_s, run0_P, mNone_P, ite_and, ite_or, ite_and', ite_or', ite_t, ite_f, boolD_b, lt_ii, le_ii, gt_ii, ge_ii, add_ii, sub_ii, neg_i, part_i, seq_t, seq_l, tup2, tup0, lst0, lst1, lstS0, tup_l, tup_t, len_t, len_l, u2_p, isi_tt, isi_ii, isi_bi, isi_ss, Bool.not_true, Bool.not_false, Bool.and_true, Bool.true_and, Bool.or_false, Bool.false_or]
  have et : eSs t = .tuple (t.map eS) := rfl
  simp only [et, List.length_map, range1_e (b := (t.length : Int)) (by omega), if_true, if_false, B_P, L_s, run0_P, mNone_P, ite_and, ite_or, ite_and', ite_or', ite_t, ite_f, boolD_b, lt_ii, le_ii, gt_ii, ge_ii, add_ii, sub_ii, neg_i, part_i, seq_t, seq_l, tup2, tup0, lst0, lst1, lstS0, tup_l, tup_t, len_t, len_l, u2_p, isi_tt, isi_ii, isi_bi, isi_ss, Bool.not_true, Bool.not_false, Bool.and_true, Bool.true_and, Bool.or_false, Bool.false_or]
  rw [← et]
  rw [foldS_at (g := fun i => PyData.list ((lots i).map eL)) _ (PyData.list [PyData.tuple []]) rfl fun i d hd => ?_]
  · rw [B_P, eI_len, yards_len, show ((t.length : Int) - 0).toNat = t.length by omega]
    simp only [hs, if_true, if_false, B_P, L_s, run0_P, mNone_P, ite_and, ite_or, ite_and', ite_or', ite_t, ite_f, boolD_b, lt_ii, le_ii, gt_ii, ge_ii, add_ii, sub_ii, neg_i, part_i, seq_t, seq_l, tup2, tup0, lst0, lst1, lstS0, tup_l, tup_t, len_t, len_l, u2_p, isi_tt, isi_ii, isi_bi, isi_ss, Bool.not_true, Bool.not_false, Bool.and_true, Bool.true_and, Bool.or_false, Bool.false_or]
    rw [foldF_find (g := fun l => (g l).map fun b => eTold (some b)) fun l hl => ?_]
    · simp only [if_true, if_false, B_P, L_s, run0_P, mNone_P, ite_and, ite_or, ite_and', ite_or', ite_t, ite_f, boolD_b, lt_ii, le_ii, gt_ii, ge_ii, add_ii, sub_ii, neg_i, part_i, seq_t, seq_l, tup2, tup0, lst0, lst1, lstS0, tup_l, tup_t, len_t, len_l, u2_p, isi_tt, isi_ii, isi_bi, isi_ss, Bool.not_true, Bool.not_false, Bool.and_true, Bool.true_and, Bool.or_false, Bool.false_or]
      cases sl.findSome? fun l => (g l).map fun b => eTold (some b) with
      | none => rfl
      | some d => rfl
    · have e : eL l = .tuple (eI l) := rfl
      simp only [e, (hg l).1, eqN, if_true, if_false, B_P, L_s, run0_P, mNone_P, ite_and, ite_or, ite_and', ite_or', ite_t, ite_f, boolD_b, lt_ii, le_ii, gt_ii, ge_ii, add_ii, sub_ii, neg_i, part_i, seq_t, seq_l, tup2, tup0, lst0, lst1, lstS0, tup_l, tup_t, len_t, len_l, u2_p, isi_tt, isi_ii, isi_bi, isi_ss, Bool.not_true, Bool.not_false, Bool.and_true, Bool.true_and, Bool.or_false, Bool.false_or]
      cases g l with
      | none => rfl
      | some b => rfl
  · obtain ⟨rfl, hi⟩ := yards_at (e := PyData.int) hd
    have ln : (lots i).length ≤ 8 := by
      rw [lots_len]
      rcases (show i = 0 ∨ i = 1 ∨ i = 2 by omega) with e | e | e <;> rw [e] <;> decide
    have lx : ∀ l ∈ lots i, l.length ≤ 3 := fun l hl => by have := lots_short hl; omega
    simp only [if_true, if_false, B_P, L_s, run0_P, mNone_P, ite_and, ite_or, ite_and', ite_or', ite_t, ite_f, boolD_b, lt_ii, le_ii, gt_ii, ge_ii, add_ii, sub_ii, neg_i, part_i, seq_t, seq_l, tup2, tup0, lst0, lst1, lstS0, tup_l, tup_t, len_t, len_l, u2_p, isi_tt, isi_ii, isi_bi, isi_ss, Bool.not_true, Bool.not_false, Bool.and_true, Bool.true_and, Bool.or_false, Bool.false_or]
    rw [cmp_map (g := fun l => eL (l ++ [(i : Int)])) fun l hl => by
      have := lx l hl
      have e : eL l = .tuple (eI l) := rfl
      simp only [e, tupD_le (xs := eI l ++ [PyData.int (0 + (i : Int))]) (by rw [List.length_append, eI_len, List.length_singleton]; omega), if_true, if_false, B_P, L_s, run0_P, mNone_P, ite_and, ite_or, ite_and', ite_or', ite_t, ite_f, boolD_b, lt_ii, le_ii, gt_ii, ge_ii, add_ii, sub_ii, neg_i, part_i, seq_t, seq_l, tup2, tup0, lst0, lst1, lstS0, tup_l, tup_t, len_t, len_l, u2_p, isi_tt, isi_ii, isi_bi, isi_ss, Bool.not_true, Bool.not_false, Bool.and_true, Bool.true_and, Bool.or_false, Bool.false_or]
      rw [Int.zero_add]
      show P _ = P (some (PyData.tuple (eI (l ++ [(i : Int)]))))
      unfold eI
      rw [List.map_append]
      rfl]
    simp only [lstD_le (show ((lots i).map fun l => eL (l ++ [(i : Int)])).length ≤ 16777216 by rw [List.length_map]; omega), add_ll ((lots i).map eL) ((lots i).map fun l => eL (l ++ [(i : Int)])) (by rw [List.length_map, List.length_map]; omega), if_true, if_false, B_P, L_s, run0_P, mNone_P, ite_and, ite_or, ite_and', ite_or', ite_t, ite_f, boolD_b, lt_ii, le_ii, gt_ii, ge_ii, add_ii, sub_ii, neg_i, part_i, seq_t, seq_l, tup2, tup0, lst0, lst1, lstS0, tup_l, tup_t, len_t, len_l, u2_p, isi_tt, isi_ii, isi_bi, isi_ss, Bool.not_true, Bool.not_false, Bool.and_true, Bool.true_and, Bool.or_false, Bool.false_or]
    show P _ = P (PyData.list ((lots i ++ (lots i).map fun l => l ++ [(i : Int)]).map eL))
    rw [List.map_append, List.map_map]
    rfl
end K22

set_option Elab.async false
set_option linter.all false
set_option maxRecDepth 100000
set_option maxHeartbeats 1000000
namespace K22
open PySem PySem.Spec PyProof.Rows L2 DL
theorem nn_e : eqB (.str ("never" : Str)) (.str ("never" : Str)) = some true := by rw [eq_ss, decide_eq_true rfl]
theorem ln_e : eqB (.str ("laid" : Str)) (.str ("never" : Str)) = some false := by rw [eq_ss, decide_eq_false (by decide +kernel)]
theorem nl_e : eqB (.str ("never" : Str)) (.str ("laid" : Str)) = some false := by rw [eq_ss, decide_eq_false (by decide +kernel)]
theorem ll_e : eqB (.str ("laid" : Str)) (.str ("laid" : Str)) = some true := by rw [eq_ss, decide_eq_true rfl]
theorem neq_of {a b : D} {c : Bool} (h : eqB a b = some c) : neB a b = some (!c) := by
  unfold eqB at h
  unfold neB
  split at h
  · rename_i q
    rw [if_pos q]
    cases h
    rfl
  · cases h
theorem ixh (a : D) : ixD (.tuple [a]) (.int 0) = some a := rfl
theorem cnt_e (b : Row) : (b.filter Option.isSome).map eOI = (b.filter Option.isSome).map eOI := rfl
theorem cnt_le (b : Row) : cnt b ≤ b.length := List.length_filter_le _ _
def fw : Option Row → Int
  | none => 99
  | some b => cnt b
theorem few_e {o : Option Row} (h : ∀ b, o = some b → b.length ≤ 16777216) : m__law_few [eTold o] = some (.int (fw o)) := by
  show run0 (b__law_few _) = _
  unfold b__law_few
  cases o with
  | none =>
    unfold eTold
    simp only [ixh, nn_e, if_true, if_false, B_P, L_s, run0_P, mNone_P, ite_and, ite_or, ite_and', ite_or', ite_t, ite_f, boolD_b, lt_ii, le_ii, gt_ii, ge_ii, add_ii, sub_ii, neg_i, part_i, seq_t, seq_l, tup2, tup0, lst0, lst1, lstS0, tup_l, tup_t, len_t, len_l, u2_p, isi_tt, isi_ii, isi_bi, isi_ss, Bool.not_true, Bool.not_false, Bool.and_true, Bool.true_and, Bool.or_false, Bool.false_or]
    rfl
  | some b =>
    have hb := h b rfl
    have hc := cnt_le b
    unfold eTold eR
    simp only [ix0, ix1, ln_e, Bool.false_eq_true, if_true, if_false, B_P, L_s, run0_P, mNone_P, ite_and, ite_or, ite_and', ite_or', ite_t, ite_f, boolD_b, lt_ii, le_ii, gt_ii, ge_ii, add_ii, sub_ii, neg_i, part_i, seq_t, seq_l, tup2, tup0, lst0, lst1, lstS0, tup_l, tup_t, len_t, len_l, u2_p, isi_tt, isi_ii, isi_bi, isi_ss, Bool.not_true, Bool.not_false, Bool.and_true, Bool.true_and, Bool.or_false, Bool.false_or]
    rw [cmp_filter (p := fun o : Option Int => o.isSome) (g := eOI) fun o _ => by simp only [isntO1, if_true, if_false, B_P, L_s, run0_P, mNone_P, ite_and, ite_or, ite_and', ite_or', ite_t, ite_f, boolD_b, lt_ii, le_ii, gt_ii, ge_ii, add_ii, sub_ii, neg_i, part_i, seq_t, seq_l, tup2, tup0, lst0, lst1, lstS0, tup_l, tup_t, len_t, len_l, u2_p, isi_tt, isi_ii, isi_bi, isi_ss, Bool.not_true, Bool.not_false, Bool.and_true, Bool.true_and, Bool.or_false, Bool.false_or]]
    simp only [lstD_le (show ((b.filter fun o : Option Int => o.isSome).map eOI).length ≤ 16777216 by rw [List.length_map]; have : (b.filter fun o : Option Int => o.isSome).length ≤ b.length := List.length_filter_le _ _; omega), List.length_map, if_true, if_false, B_P, L_s, run0_P, mNone_P, ite_and, ite_or, ite_and', ite_or', ite_t, ite_f, boolD_b, lt_ii, le_ii, gt_ii, ge_ii, add_ii, sub_ii, neg_i, part_i, seq_t, seq_l, tup2, tup0, lst0, lst1, lstS0, tup_l, tup_t, len_t, len_l, u2_p, isi_tt, isi_ii, isi_bi, isi_ss, Bool.not_true, Bool.not_false, Bool.and_true, Bool.true_and, Bool.or_false, Bool.false_or]
    rfl
/-! ### all rows -/
def begs (L : Int) : List (Option Int) := none :: (yards 0 L).map some
theorem begs_mem {L : Int} {o : Option Int} : o ∈ begs L ↔ ∀ p, o = some p → 0 ≤ p ∧ p < L := by
  unfold begs
  rw [List.mem_cons]
  constructor
  · rintro (rfl | h) p e
    · cases e
    · obtain ⟨q, hq, rfl⟩ := List.mem_map.mp h
      cases e
      exact yards_mem.mp hq
  · intro h
    cases o with
    | none => exact .inl rfl
    | some p => exact .inr (List.mem_map_of_mem (yards_mem.mpr (h p rfl)))
def allR (L : Int) : Nat → List Row
  | 0 => [[]]
  | k + 1 => (allR L k).flatMap fun r => (begs L).map fun o => r ++ [o]
theorem allR_mem {L : Int} : ∀ {n : Nat} {r : Row}, r ∈ allR L n ↔ r.length = n ∧ okR L r
  | 0, r => by
    show r ∈ [[]] ↔ _
    rw [List.mem_singleton]
    constructor
    · rintro rfl
      exact ⟨rfl, fun x hx => (by cases hx)⟩
    · exact fun h => List.eq_nil_of_length_eq_zero h.1
  | n + 1, r => by
    show r ∈ (allR L n).flatMap _ ↔ _
    rw [List.mem_flatMap]
    constructor
    · rintro ⟨q, hq, hr⟩
      obtain ⟨o, ho, rfl⟩ := List.mem_map.mp hr
      have := allR_mem.mp hq
      exact ⟨by rw [List.length_append, List.length_singleton]; omega, okR_snoc this.2 (begs_mem.mp ho)⟩
    · rintro ⟨h1, h2⟩
      rcases snoc_cases r with rfl | ⟨q, o, rfl⟩
      · cases h1
      · refine ⟨q, allR_mem.mpr ⟨by simpa using h1, fun x hx => h2 x (by simp [hx])⟩, List.mem_map_of_mem (begs_mem.mpr (h2 o (by simp)))⟩
theorem begs_len {L : Int} (L1 : 1 ≤ L) : (begs L).length = L.toNat + 1 := by simp [begs, yards_len]
theorem allR_len {L : Int} (L1 : 1 ≤ L) : ∀ n, (allR L n).length = (L.toNat + 1) ^ n
  | 0 => rfl
  | n + 1 => by
    show ((allR L n).flatMap _).length = _
    rw [List.length_flatMap, List.map_congr_left (g := fun _ => L.toNat + 1) fun r _ => by rw [List.length_map, begs_len L1], List.map_const', List.sum_replicate_nat, allR_len L1 n, Nat.pow_succ]
theorem fold_ext {S ι : Type} {e : ι → D} {g : ι → List D} {f : List D → D → M S (List D)} {m N : Nat} (hg : ∀ x, (g x).length ≤ m) : ∀ {xs : List ι} {a0 : List D}, (∀ (a : List D) x, x ∈ xs → a.length + m ≤ N → f a (e x) = P (a ++ g x)) → a0.length + xs.length * m ≤ N → foldS (xs.map e) a0 f = P (a0 ++ xs.flatMap g)
  | [], a0, _, _ => by
    show P a0 = _
    rw [List.flatMap_nil, List.append_nil]
  | x :: xs, a0, h, hl => by
    rw [List.length_cons, Nat.succ_mul] at hl
    rw [List.map_cons, foldS_cons (h a0 x List.mem_cons_self (by omega)), fold_ext hg (fun a y hy => h a y (List.mem_cons_of_mem _ hy)) (by rw [List.length_append]; have := hg x; omega), List.flatMap_cons, List.append_assoc]
theorem fold_int {S ι : Type} {e : ι → D} {g : Int → ι → Int} {f : D → D → M S D} : ∀ {xs : List ι} {b : Int}, (∀ b x, x ∈ xs → f (.int b) (e x) = P (.int (g b x))) → foldS (xs.map e) (.int b) f = P (.int (xs.foldl g b))
  | [], b, _ => rfl
  | x :: xs, b, h => by
    rw [List.map_cons, foldS_cons (h b x List.mem_cons_self)]
    exact fold_int fun b y hy => h b y (List.mem_cons_of_mem _ hy)
def best (t : List Strand) (L : Int) (w : Int × Int) (b : Int) (r : Row) : Int := if decide ((cnt r : Int) < b) && right L t w r then (cnt r : Int) else b
theorem best_all {t : List Strand} {L : Int} {w : Int × Int} : ∀ (rows : List Row) (b : Int), (rows.foldl (best t L w) b ≤ b) ∧ (∀ r ∈ rows, right L t w r = true → rows.foldl (best t L w) b ≤ cnt r) ∧ (rows.foldl (best t L w) b = b ∨ ∃ r ∈ rows, right L t w r = true ∧ (cnt r : Int) = rows.foldl (best t L w) b)
  | [], b => ⟨Int.le_refl _, fun r hr => (by cases hr), .inl rfl⟩
  | r :: rs, b => by
    obtain ⟨h1, h2, h3⟩ := best_all (t := t) (L := L) (w := w) rs (best t L w b r)
    have hb : best t L w b r ≤ b := by
      unfold best
      split
      · rename_i c
        rw [Bool.and_eq_true, decide_eq_true_eq] at c
        omega
      · omega
    rw [List.foldl_cons]
    refine ⟨by omega, fun x hx hr => ?_, ?_⟩
    · rcases List.mem_cons.mp hx with e | hx
      · subst e
        have : best t L w b x ≤ cnt x := by
          unfold best
          rw [hr, Bool.and_true]
          split
          · exact Int.le_refl _
          · rename_i c
            rw [decide_eq_true_eq] at c
            omega
        omega
      · exact h2 x hx hr
    · rcases h3 with h3 | ⟨x, hx, h4, h5⟩
      · by_cases c : (decide ((cnt r : Int) < b) && right L t w r) = true
        · have e : best t L w b r = cnt r := if_pos c
          rw [e] at h3
          rw [Bool.and_eq_true] at c
          exact .inr ⟨r, List.mem_cons_self, c.2, by rw [e, h3]⟩
        · have e : best t L w b r = b := if_neg c
          rw [e] at h3
          exact .inl (by rw [e, h3])
      · exact .inr ⟨x, List.mem_cons_of_mem _ hx, h4, h5⟩
/-- how few strands are laid, 99 for none -/
def IsFew (t : List Strand) (L : Int) (w : Int × Int) (f : Int) : Prop := (∃ b, Rt t L w b ∧ (cnt b : Int) = f ∧ ∀ c, Rt t L w c → f ≤ cnt c) ∨ (f = 99 ∧ ∀ c, ¬ Rt t L w c)
theorem Least.few {t : List Strand} {L : Int} {w : Int × Int} {o : Option Row} (h : Least t L w o) : IsFew t L w (fw o) := by
  cases o with
  | none => exact .inr ⟨rfl, h.no rfl⟩
  | some b =>
    have := h.yes b rfl
    exact .inl ⟨b, this.1, rfl, fun c hc => Int.ofNat_le.mpr (this.2 c hc)⟩
theorem IsFew.eq {t : List Strand} {L : Int} {w : Int × Int} {f g : Int} (h : IsFew t L w f) (k : IsFew t L w g) : f = g := by
  rcases h with ⟨b, h1, h2, h3⟩ | ⟨h1, h2⟩ <;> rcases k with ⟨c, k1, k2, k3⟩ | ⟨k1, k2⟩
  · have := h3 c k1
    have := k3 b h1
    omega
  · exact absurd h1 (k2 b)
  · exact absurd k1 (h2 c)
  · omega
theorem lrg_e {L : Int} (h : 0 ≤ L ∧ L ≤ 1000000) : lrgD (.int L) = some (.list (eI (yards 0 L))) := by
  rw [← rgL_y]
  exact if_pos h
theorem own_few_e {t : List Strand} {L : Int} {w : Int × Int} (h : VL t L) : ∃ f, m__law_own_few [eSs t, .int L, eP w] = some (.int f) ∧ IsFew t L w f := by
  have l1 := h.l1
  have l2 := h.l2
  have L1 := h.L1
  have L2 := h.L2
  refine ⟨(allR L t.length).foldl (best t L w) 99, ?_, ?_⟩
  · show run0 (b__law_own_few _ _ _) = _
    unfold b__law_own_few
    have hl : ∀ k, k ≤ 3 → (allR L k).length ≤ 2197 := fun k hk => by
      rw [allR_len L1]
      refine Nat.le_trans (Nat.pow_le_pow_left (show L.toNat + 1 ≤ 13 by omega) k) ?_
      rcases (show k = 0 ∨ k = 1 ∨ k = 2 ∨ k = 3 by omega) with e | e | e | e <;> rw [e] <;> decide
    have et : eSs t = .tuple (t.map eS) := rfl
    simp only [et, if_true, if_false, B_P, L_s, run0_P, mNone_P, ite_and, ite_or, ite_and', ite_or', ite_t, ite_f, boolD_b, lt_ii, le_ii, gt_ii, ge_ii, add_ii, sub_ii, neg_i, part_i, seq_t, seq_l, tup2, tup0, lst0, lst1, lstS0, tup_l, tup_t, len_t, len_l, u2_p, isi_tt, isi_ii, isi_bi, isi_ss, Bool.not_true, Bool.not_false, Bool.and_true, Bool.true_and, Bool.or_false, Bool.false_or]
    rw [foldF_at (g := fun i => PyData.list ((allR L i).map eR)) _ (PyData.list [PyData.tuple []]) rfl fun i d hd => ?_]
    · rw [B_P, kF_nx, List.length_map, ← et]
      simp only [if_true, if_false, B_P, L_s, run0_P, mNone_P, ite_and, ite_or, ite_and', ite_or', ite_t, ite_f, boolD_b, lt_ii, le_ii, gt_ii, ge_ii, add_ii, sub_ii, neg_i, part_i, seq_t, seq_l, tup2, tup0, lst0, lst1, lstS0, tup_l, tup_t, len_t, len_l, u2_p, isi_tt, isi_ii, isi_bi, isi_ss, Bool.not_true, Bool.not_false, Bool.and_true, Bool.true_and, Bool.or_false, Bool.false_or]
      rw [fold_int (g := best t L w) fun b r hr => ?_]
      · simp only [if_true, if_false, B_P, L_s, run0_P, mNone_P, ite_and, ite_or, ite_and', ite_or', ite_t, ite_f, boolD_b, lt_ii, le_ii, gt_ii, ge_ii, add_ii, sub_ii, neg_i, part_i, seq_t, seq_l, tup2, tup0, lst0, lst1, lstS0, tup_l, tup_t, len_t, len_l, u2_p, isi_tt, isi_ii, isi_bi, isi_ss, Bool.not_true, Bool.not_false, Bool.and_true, Bool.true_and, Bool.or_false, Bool.false_or]
      · obtain ⟨r1, r2⟩ := allR_mem.mp hr
        have hc := cnt_le r
        have er : eR r = .tuple (r.map eOI) := rfl
        simp only [er, if_true, if_false, B_P, L_s, run0_P, mNone_P, ite_and, ite_or, ite_and', ite_or', ite_t, ite_f, boolD_b, lt_ii, le_ii, gt_ii, ge_ii, add_ii, sub_ii, neg_i, part_i, seq_t, seq_l, tup2, tup0, lst0, lst1, lstS0, tup_l, tup_t, len_t, len_l, u2_p, isi_tt, isi_ii, isi_bi, isi_ss, Bool.not_true, Bool.not_false, Bool.and_true, Bool.true_and, Bool.or_false, Bool.false_or]
        rw [cmp_filter (p := fun o : Option Int => o.isSome) (g := eOI) fun o _ => by simp only [isntO1, if_true, if_false, B_P, L_s, run0_P, mNone_P, ite_and, ite_or, ite_and', ite_or', ite_t, ite_f, boolD_b, lt_ii, le_ii, gt_ii, ge_ii, add_ii, sub_ii, neg_i, part_i, seq_t, seq_l, tup2, tup0, lst0, lst1, lstS0, tup_l, tup_t, len_t, len_l, u2_p, isi_tt, isi_ii, isi_bi, isi_ss, Bool.not_true, Bool.not_false, Bool.and_true, Bool.true_and, Bool.or_false, Bool.false_or]]
        simp only [lstD_le (show ((r.filter fun o : Option Int => o.isSome).map eOI).length ≤ 16777216 by rw [List.length_map]; have : (r.filter fun o : Option Int => o.isSome).length ≤ r.length := List.length_filter_le _ _; omega), List.length_map, if_true, if_false, B_P, L_s, run0_P, mNone_P, ite_and, ite_or, ite_and', ite_or', ite_t, ite_f, boolD_b, lt_ii, le_ii, gt_ii, ge_ii, add_ii, sub_ii, neg_i, part_i, seq_t, seq_l, tup2, tup0, lst0, lst1, lstS0, tup_l, tup_t, len_t, len_l, u2_p, isi_tt, isi_ii, isi_bi, isi_ss, Bool.not_true, Bool.not_false, Bool.and_true, Bool.true_and, Bool.or_false, Bool.false_or]
        rw [← er]
        simp only [lsums_e (fun s hs => h.at_ s hs) L1 L2 r2 (t := t), if_true, if_false, B_P, L_s, run0_P, mNone_P, ite_and, ite_or, ite_and', ite_or', ite_t, ite_f, boolD_b, lt_ii, le_ii, gt_ii, ge_ii, add_ii, sub_ii, neg_i, part_i, seq_t, seq_l, tup2, tup0, lst0, lst1, lstS0, tup_l, tup_t, len_t, len_l, u2_p, isi_tt, isi_ii, isi_bi, isi_ss, Bool.not_true, Bool.not_false, Bool.and_true, Bool.true_and, Bool.or_false, Bool.false_or]
        rw [cmp_ints (g := fun x => .bool (decide (w.1 ≤ x) && decide (x ≤ w.2))) fun x hx => by unfold eP; simp only [ix0, ix1, if_true, if_false, B_P, L_s, run0_P, mNone_P, ite_and, ite_or, ite_and', ite_or', ite_t, ite_f, boolD_b, lt_ii, le_ii, gt_ii, ge_ii, add_ii, sub_ii, neg_i, part_i, seq_t, seq_l, tup2, tup0, lst0, lst1, lstS0, tup_l, tup_t, len_t, len_l, u2_p, isi_tt, isi_ii, isi_bi, isi_ss, Bool.not_true, Bool.not_false, Bool.and_true, Bool.true_and, Bool.or_false, Bool.false_or]]
        simp only [lstD_le (show ((sums L t r).map fun x : Int => PyData.bool (decide (w.1 ≤ x) && decide (x ≤ w.2))).length ≤ 16777216 by rw [List.length_map, sums_len]; omega), all_bools, if_true, if_false, B_P, L_s, run0_P, mNone_P, ite_and, ite_or, ite_and', ite_or', ite_t, ite_f, boolD_b, lt_ii, le_ii, gt_ii, ge_ii, add_ii, sub_ii, neg_i, part_i, seq_t, seq_l, tup2, tup0, lst0, lst1, lstS0, tup_l, tup_t, len_t, len_l, u2_p, isi_tt, isi_ii, isi_bi, isi_ss, Bool.not_true, Bool.not_false, Bool.and_true, Bool.true_and, Bool.or_false, Bool.false_or]
        rw [show ((sums L t r).all fun x => decide (w.1 ≤ x) && decide (x ≤ w.2)) = right L t w r from rfl, show (r.filter fun o : Option Int => o.isSome).length = cnt r from rfl]
        unfold best
        cases decide ((cnt r : Int) < b) <;> cases right L t w r <;> rfl
    · have hi : i < t.length := by
        have := (List.getElem?_eq_some_iff.mp hd).1
        rwa [List.length_map] at this
      simp only [if_true, if_false, B_P, L_s, run0_P, mNone_P, ite_and, ite_or, ite_and', ite_or', ite_t, ite_f, boolD_b, lt_ii, le_ii, gt_ii, ge_ii, add_ii, sub_ii, neg_i, part_i, seq_t, seq_l, tup2, tup0, lst0, lst1, lstS0, tup_l, tup_t, len_t, len_l, u2_p, isi_tt, isi_ii, isi_bi, isi_ss, Bool.not_true, Bool.not_false, Bool.and_true, Bool.true_and, Bool.or_false, Bool.false_or]
      have hb : [PyData.none] ++ eI (yards 0 L) = (begs L).map eOI := by
        unfold begs
        rw [List.map_cons, List.map_map]
        rfl
      rw [fold_ext (g := fun r : Row => (begs L).map fun o => eR (r ++ [o])) (m := 13) (N := 100000) (fun r => by rw [List.length_map, begs_len L1]; omega) (fun a r hr ha => by
        have hr1 := (allR_mem.mp hr).1
        have er : eR r = .tuple (r.map eOI) := rfl
        simp only [er, lrg_e (show 0 ≤ L ∧ L ≤ 1000000 by omega), add_ll [PyData.none] (eI (yards 0 L)) (by rw [List.length_singleton, eI_len, yards_len]; omega), hb, if_true, if_false, B_P, L_s, run0_P, mNone_P, ite_and, ite_or, ite_and', ite_or', ite_t, ite_f, boolD_b, lt_ii, le_ii, gt_ii, ge_ii, add_ii, sub_ii, neg_i, part_i, seq_t, seq_l, tup2, tup0, lst0, lst1, lstS0, tup_l, tup_t, len_t, len_l, u2_p, isi_tt, isi_ii, isi_bi, isi_ss, Bool.not_true, Bool.not_false, Bool.and_true, Bool.true_and, Bool.or_false, Bool.false_or]
        rw [cmp_map (g := fun o => eR (r ++ [o])) fun o ho => by
          simp only [show tupD [eOI o] = some (.tuple [eOI o]) from if_pos (by simp), add_tt (r.map eOI) [eOI o] (by rw [List.length_map, List.length_singleton]; omega), if_true, if_false, B_P, L_s, run0_P, mNone_P, ite_and, ite_or, ite_and', ite_or', ite_t, ite_f, boolD_b, lt_ii, le_ii, gt_ii, ge_ii, add_ii, sub_ii, neg_i, part_i, seq_t, seq_l, tup2, tup0, lst0, lst1, lstS0, tup_l, tup_t, len_t, len_l, u2_p, isi_tt, isi_ii, isi_bi, isi_ss, Bool.not_true, Bool.not_false, Bool.and_true, Bool.true_and, Bool.or_false, Bool.false_or]
          show P _ = P (some (PyData.tuple ((r ++ [o]).map eOI)))
          rw [List.map_append]
          rfl]
        simp only [lstD_le (show ((begs L).map fun o => eR (r ++ [o])).length ≤ 16777216 by rw [List.length_map, begs_len L1]; omega), ext_l a ((begs L).map fun o => eR (r ++ [o])) (by rw [List.length_map, begs_len L1]; omega), if_true, if_false, B_P, L_s, run0_P, mNone_P, ite_and, ite_or, ite_and', ite_or', ite_t, ite_f, boolD_b, lt_ii, le_ii, gt_ii, ge_ii, add_ii, sub_ii, neg_i, part_i, seq_t, seq_l, tup2, tup0, lst0, lst1, lstS0, tup_l, tup_t, len_t, len_l, u2_p, isi_tt, isi_ii, isi_bi, isi_ss, Bool.not_true, Bool.not_false, Bool.and_true, Bool.true_and, Bool.or_false, Bool.false_or]) (by have := hl i (by omega); simp; omega)]
      simp only [if_true, if_false, B_P, L_s, run0_P, mNone_P, ite_and, ite_or, ite_and', ite_or', ite_t, ite_f, boolD_b, lt_ii, le_ii, gt_ii, ge_ii, add_ii, sub_ii, neg_i, part_i, seq_t, seq_l, tup2, tup0, lst0, lst1, lstS0, tup_l, tup_t, len_t, len_l, u2_p, isi_tt, isi_ii, isi_bi, isi_ss, Bool.not_true, Bool.not_false, Bool.and_true, Bool.true_and, Bool.or_false, Bool.false_or]
      show P (Fl.nx (PyData.list _)) = P (Fl.nx (PyData.list (((allR L i).flatMap fun r => (begs L).map fun o => r ++ [o]).map eR)))
      rw [List.nil_append, List.map_flatMap]
      congr 3
      refine congrArg (fun g => List.flatMap g (allR L i)) ?_
      funext r
      rw [List.map_map]
      rfl
  · obtain ⟨h1, h2, h3⟩ := best_all (t := t) (L := L) (w := w) (allR L t.length) 99
    by_cases c : ∃ b, Rt t L w b
    · obtain ⟨b, hb⟩ := c
      have hbm := allR_mem.mpr ⟨hb.len, hb.ok⟩
      rcases h3 with h3 | ⟨r, hr, hr2, hr3⟩
      · have := h2 b hbm hb.rt
        have := cnt_le b
        have := hb.len
        omega
      · have hr := allR_mem.mp hr
        exact .inl ⟨r, ⟨hr.1, hr.2, hr2⟩, hr3, fun c hc => h2 c (allR_mem.mpr ⟨hc.len, hc.ok⟩) hc.rt⟩
    · rcases h3 with h3 | ⟨r, hr, hr2, hr3⟩
      · exact .inr ⟨h3, fun b hb => c ⟨b, hb⟩⟩
      · have hr := allR_mem.mp hr
        exact absurd ⟨r, hr.1, hr.2, hr2⟩ c
end K22

set_option Elab.async false
set_option linter.all false
set_option maxRecDepth 100000
set_option maxHeartbeats 1000000
namespace K22
open PySem PySem.Spec PyProof.Rows L2 DL
theorem of_e {k : Int} {s : Pot} {xs : List Int} (h : PI k s) (hk : k ≤ 1000000) (h0 : xs ≠ []) (h1 : xs.length ≤ 1000) : ∃ (v : Int) (s' : Pot), m__law_of [.list (eI xs)] s = some (.int v, s') ∧ v ∈ xs ∧ PI (k + 1) s' := by
  have hl : 0 < xs.length := List.length_pos_iff.mpr h0
  obtain ⟨v, s1, e, v0, v1, p⟩ := take_e (n := (xs.length : Int)) h hk (by omega) (by omega)
  have hv : v.toNat < xs.length := by omega
  refine ⟨xs[v.toNat], s1, ?_, List.getElem_mem hv, p⟩
  show b__law_of _ s = _
  unfold b__law_of
  simp only [B_B, eI_len, if_true, if_false, B_P, L_s, run0_P, mNone_P, ite_and, ite_or, ite_and', ite_or', ite_t, ite_f, boolD_b, lt_ii, le_ii, gt_ii, ge_ii, add_ii, sub_ii, neg_i, part_i, seq_t, seq_l, tup2, tup0, lst0, lst1, lstS0, tup_l, tup_t, len_t, len_l, u2_p, isi_tt, isi_ii, isi_bi, isi_ss, Bool.not_true, Bool.not_false, Bool.and_true, Bool.true_and, Bool.or_false, Bool.false_or]
  rw [B_ap e]
  have hx := (ix_nat (xs := eI xs) (i := v) v0 (by rw [eI_len]; exact v1) (d := .int xs[v.toNat]) (by
    unfold eI
    rw [List.getElem?_map, List.getElem?_eq_getElem hv]
    rfl)).2
  rw [hx]
  rfl
structure VS9 (s : Strand) : Prop extends VS s where
  l9 : s.length ≤ 9
theorem strand_e {k : Int} {s : Pot} {most : Int} (h : PI k s) (hk : k + 20 ≤ 1000000) (h0 : 0 ≤ most) (h1 : most ≤ 4) : ∃ (v : Strand) (s' : Pot), m__law_strand [.int 9, .int most] s = some (eS v, s') ∧ VS9 v ∧ PI (k + 10) s' := by
  obtain ⟨n, s1, e, n0, n1, p⟩ := take_e (n := 9) h (by omega) (by omega) (by omega)
  obtain ⟨xs, s2, e2, l2, r2, p2⟩ := cmp_st (e := fun i : Int => (.int i : D)) (R := fun i => 0 ≤ i ∧ i ≤ 4) (st := 1) (N := k + 20) (f := fun d906 => B (m__law_take [.int (most + 1)]) fun x910 => B (DL.L (intL [x910])) fun x911 => P (some x911)) (by decide) (eI (yards 0 (1 + n))) (k + 1) s1 p (by rw [eI_len, yards_len]; omega) fun d hd k s hs hk => by
    obtain ⟨v, s', e, v0, v1, p⟩ := take_e (n := most + 1) hs (by omega) (by omega) (by omega)
    refine ⟨v, s', ?_, ⟨v0, by omega⟩, p⟩
    rw [B_ap e]
    rfl
  rw [eI_len, yards_len] at l2
  refine ⟨xs, s2, ?_, ⟨⟨by omega, by omega, fun x hx => ?_⟩, by omega⟩, p2.mono (by rw [eI_len, yards_len]; omega)⟩
  · show b__law_strand _ _ s = _
    unfold b__law_strand
    simp only [B_B, if_true, if_false, B_P, L_s, run0_P, mNone_P, ite_and, ite_or, ite_and', ite_or', ite_t, ite_f, boolD_b, lt_ii, le_ii, gt_ii, ge_ii, add_ii, sub_ii, neg_i, part_i, seq_t, seq_l, tup2, tup0, lst0, lst1, lstS0, tup_l, tup_t, len_t, len_l, u2_p, isi_tt, isi_ii, isi_bi, isi_ss, Bool.not_true, Bool.not_false, Bool.and_true, Bool.true_and, Bool.or_false, Bool.false_or]
    rw [B_ap e]
    simp only [range1_e (b := 1 + n) (by omega), if_true, if_false, B_P, L_s, run0_P, mNone_P, ite_and, ite_or, ite_and', ite_or', ite_t, ite_f, boolD_b, lt_ii, le_ii, gt_ii, ge_ii, add_ii, sub_ii, neg_i, part_i, seq_t, seq_l, tup2, tup0, lst0, lst1, lstS0, tup_l, tup_t, len_t, len_l, u2_p, isi_tt, isi_ii, isi_bi, isi_ss, Bool.not_true, Bool.not_false, Bool.and_true, Bool.true_and, Bool.or_false, Bool.false_or]
    rw [B_ap e2, lstD_le (by rw [List.length_map]; omega)]
    rfl
  · have := r2 x hx
    omega
theorem popAt_e {ι : Type} (e : ι → D) (xs : List ι) {v : Int} (h0 : 0 ≤ v) (h1 : v < xs.length) (h2 : xs.length ≤ 1000) : popAt (xs.map e) (.int v) = some (e (xs[v.toNat]'(by omega)), (xs.eraseIdx v.toNat).map e) := by
  have hv : v.toNat < xs.length := by omega
  show (if -1000000 ≤ v ∧ v ≤ 1000000 then (ixN (xs.map e).length v).bind fun j => ((xs.map e)[j]?).map fun d => (d, (xs.map e).eraseIdx j) else none) = _
  rw [if_pos (by omega)]
  have hx : ixN (xs.map e).length v = some v.toNat := by
    rw [List.length_map]
    unfold ixN
    rw [if_pos h0, if_pos h1]
  rw [hx]
  show ((xs.map e)[v.toNat]?).map _ = _
  rw [List.getElem?_map, List.getElem?_eq_getElem hv, List.eraseIdx_eq_take_drop_succ, List.eraseIdx_eq_take_drop_succ, List.map_append, List.map_take, List.map_drop]
  rfl
theorem some_lp {ι : Type} {e : ι → D} {f : (List D) × (List D) → D → M Pot ((List D) × (List D))} (hf : ∀ (found rest : List ι) (d : D) (k : Int) (s : Pot), PI k s → k ≤ 1000000 → rest ≠ [] → found.length + rest.length ≤ 1000 → ∃ (v : Nat) (hv : v < rest.length) (s' : Pot), f (found.map e, rest.map e) d s = some (((found ++ [rest[v]]).map e, (rest.eraseIdx v).map e), s') ∧ PI (k + 1) s') :
    ∀ (ds : List D) (found rest : List ι) (k : Int) (s : Pot), PI k s → k + ds.length ≤ 1000000 → ds.length ≤ rest.length → found.length + rest.length ≤ 1000 → ∃ (ys zs : List ι) (s' : Pot), foldS ds (found.map e, rest.map e) f s = some ((ys.map e, zs.map e), s') ∧ PI (k + ds.length) s' ∧ (ys ++ zs).Perm (found ++ rest) ∧ zs.length + ds.length = rest.length
  | [], found, rest, k, s, hs, _, _, _ => ⟨found, rest, s, rfl, by simpa using hs, List.Perm.refl _, by simp⟩
  | d :: ds, found, rest, k, s, hs, hk, hl, hn => by
    rw [List.length_cons] at hl hk
    have hr : rest ≠ [] := fun e => by subst e; simp at hl
    obtain ⟨v, hv, s1, e1, p1⟩ := hf found rest d k s hs (by omega) hr hn
    have hel : (rest.eraseIdx v).length = rest.length - 1 := List.length_eraseIdx_of_lt hv
    obtain ⟨ys, zs, s2, e2, p2, q, l⟩ := some_lp hf ds (found ++ [rest[v]]) (rest.eraseIdx v) (k + 1) s1 p1 (by omega) (by omega) (by rw [List.length_append, List.length_singleton]; omega)
    refine ⟨ys, zs, s2, ?_, p2.mono (by rw [List.length_cons]; omega), q.trans ?_, by rw [List.length_cons]; omega⟩
    · show (B (f (found.map e, rest.map e) d) fun a => foldS ds a f) s = _
      rw [B_ap e1, e2]
    · rw [List.append_assoc]
      refine List.Perm.append_left _ ?_
      have e : rest = rest.take v ++ rest[v] :: rest.drop (v + 1) := by rw [← List.drop_eq_getElem_cons hv, List.take_append_drop]
      rw [List.eraseIdx_eq_take_drop_succ]
      refine List.Perm.trans ?_ (List.Perm.of_eq e.symm)
      rw [List.singleton_append]
      exact List.perm_middle.symm
theorem some_e {ι : Type} {e : ι → D} {k : Int} {s : Pot} {xs : List ι} (h : PI k s) (hk : k + 1000 ≤ 1000000) (hl : xs.length ≤ 1000) : ∃ (ys : List ι) (s' : Pot), m__law_some [.list (xs.map e), .int xs.length] s = some (.list (ys.map e), s') ∧ ys.Perm xs ∧ PI (k + xs.length) s' := by
  obtain ⟨ys, zs, s', e1, p, q, l⟩ := some_lp (e := e) (f := fun a888 d889 => B (m__law_take [PyData.int (a888.2.length : Nat)]) fun d892 => B (DL.L (popAt a888.2 d892)) (pop3 a888.1 fun zs895 us896 => P (zs895, us896))) (fun found rest d k s hs hk hr hn => by
    have hrl : 0 < rest.length := List.length_pos_iff.mpr hr
    obtain ⟨v, s1, e1, v0, v1, p⟩ := take_e (n := ((rest.map e).length : Nat)) hs hk (by rw [List.length_map]; omega) (by rw [List.length_map]; omega)
    rw [List.length_map] at v1
    refine ⟨v.toNat, by omega, s1, ?_, p⟩
    show B (m__law_take [PyData.int ((rest.map e).length : Nat)]) _ s = _
    rw [B_ap e1]
    simp only [popAt_e e rest v0 v1 (by omega), pop3, appL_lt (xs := found.map e) (d := e (rest[v.toNat]'(by omega))) (by rw [List.length_map]; omega), if_true, if_false, B_P, L_s, run0_P, mNone_P, ite_and, ite_or, ite_and', ite_or', ite_t, ite_f, boolD_b, lt_ii, le_ii, gt_ii, ge_ii, add_ii, sub_ii, neg_i, part_i, seq_t, seq_l, tup2, tup0, lst0, lst1, lstS0, tup_l, tup_t, len_t, len_l, u2_p, isi_tt, isi_ii, isi_bi, isi_ss, Bool.not_true, Bool.not_false, Bool.and_true, Bool.true_and, Bool.or_false, Bool.false_or]
    rw [List.map_append]
    rfl) (eI (yards 0 (xs.length : Int))) [] xs k s h (by rw [eI_len, yards_len]; omega) (by rw [eI_len, yards_len]; omega) (by simp; omega)
  rw [eI_len, yards_len] at l p
  have hz : zs = [] := List.eq_nil_of_length_eq_zero (by omega)
  subst hz
  rw [List.append_nil, List.nil_append] at q
  refine ⟨ys, s', ?_, q, p.mono (by omega)⟩
  show b__law_some _ _ s = _
  unfold b__law_some
  simp only [B_B, range1_e (b := (xs.length : Int)) (by omega), if_true, if_false, B_P, L_s, run0_P, mNone_P, ite_and, ite_or, ite_and', ite_or', ite_t, ite_f, boolD_b, lt_ii, le_ii, gt_ii, ge_ii, add_ii, sub_ii, neg_i, part_i, seq_t, seq_l, tup2, tup0, lst0, lst1, lstS0, tup_l, tup_t, len_t, len_l, u2_p, isi_tt, isi_ii, isi_bi, isi_ss, Bool.not_true, Bool.not_false, Bool.and_true, Bool.true_and, Bool.or_false, Bool.false_or]
  rw [show (([] : List D), xs.map e) = (([] : List ι).map e, xs.map e) from rfl, B_ap e1]
  rfl
/-- new begins for what is laid -/
theorem drawn_e {L : Int} (L1 : 1 ≤ L) (L2 : L ≤ 12) {f : D → M Pot (Option D)} (hf : ∀ (o : Option Int), f (eOI o) = if o.isNone then P (some .none) else B (m__law_take [.int L]) fun x => B (DL.L (intL [x])) fun x => P (some x)) : ∀ (b : Row) (k : Int) (s : Pot), PI k s → k + b.length ≤ 1000000 → ∃ (c : Row) (s' : Pot), cmp (b.map eOI) f s = some (c.map eOI, s') ∧ PI (k + b.length) s' ∧ c.length = b.length ∧ okR L c ∧ cnt c = cnt b
  | [], k, s, hs, _ => ⟨[], s, rfl, by simpa using hs, rfl, fun x hx => (by cases hx), rfl⟩
  | o :: b, k, s, hs, hk => by
    rw [List.length_cons] at hk
    obtain ⟨o', s1, e1, p1, ho, hi⟩ : ∃ (o' : Option Int) (s1 : Pot), f (eOI o) s = some (some (eOI o'), s1) ∧ PI (k + 1) s1 ∧ (∀ p, o' = some p → 0 ≤ p ∧ p < L) ∧ o'.isSome = o.isSome := by
      cases o with
      | none => exact ⟨none, s, by rw [hf]; rfl, hs.mono (by omega), fun p e => (by cases e), rfl⟩
      | some q =>
        obtain ⟨v, s1, e, v0, v1, p⟩ := take_e (n := L) hs (by omega) (by omega) (by omega)
        refine ⟨some v, s1, ?_, p, fun p e => ?_, rfl⟩
        · rw [hf]
          show (B (m__law_take [.int L]) fun x => B (DL.L (intL [x])) fun x => P (some x)) s = _
          rw [B_ap e]
          rfl
        · cases e
          exact ⟨v0, v1⟩
    obtain ⟨c, s2, e2, p2, l2, k2, n2⟩ := drawn_e L1 L2 hf b (k + 1) s1 p1 (by omega)
    refine ⟨o' :: c, s2, ?_, p2.mono (by rw [List.length_cons]; omega), by rw [List.length_cons, List.length_cons, l2], fun x hx p e => ?_, ?_⟩
    · show (B (f (eOI o)) fun o => B (cmp (b.map eOI) f) fun r => P _) s = _
      rw [B_ap e1, B_ap e2]
      rfl
    · rcases List.mem_cons.mp hx with z | z
      · exact ho p (z ▸ e)
      · exact k2 x z p e
    · unfold cnt at n2 ⊢
      rw [List.filter_cons, List.filter_cons, hi]
      cases o.isSome
      · exact n2
      · show (o' :: _).length = (o :: _).length
        rw [List.length_cons, List.length_cons, n2]
end K22

set_option Elab.async false
set_option linter.all false
set_option maxRecDepth 100000
set_option maxHeartbeats 1000000
namespace K22
open PySem PySem.Spec PyProof.Rows L2 DL
/-! ### what a told answer shows -/
theorem in_tS (k : Str) (xs : List Str) : inB (.str k) (.tuple (xs.map .str)) = some (decide (k ∈ xs)) := by
  have p : PyData.plainAll (xs.map .str) = true := PySem.W.plainAll_map xs
  have d : PyData.depthAll (xs.map .str) ≤ 40 := Nat.le_trans (PySem.W.depthAll_map xs) (by decide)
  have o : okD (.str k) = true := okD_dat k (by decide)
  show (if memOk (.str k) (xs.map .str) = true then some ((xs.map .str).any fun y => PyData.eqv y (.str k)) else none) = _
  rw [if_pos (by unfold memOk; rw [o, p, decide_eq_true d]; rfl)]
  exact congrArg some (PySem.W.any_datum xs k)
theorem word_e (k : Str) (xs : List Str) (h : k ∈ xs) : m_is_word [.str k, .tuple (xs.map .str)] = some (.bool true) := by
  show run0 (b_is_word _ _) = _
  unfold b_is_word
  simp only [in_tS, decide_eq_true h, if_true, if_false, B_P, L_s, run0_P, mNone_P, ite_and, ite_or, ite_and', ite_or', ite_t, ite_f, boolD_b, lt_ii, le_ii, gt_ii, ge_ii, add_ii, sub_ii, neg_i, part_i, seq_t, seq_l, tup2, tup0, lst0, lst1, lstS0, tup_l, tup_t, len_t, len_l, u2_p, isi_tt, isi_ii, isi_bi, isi_ss, Bool.not_true, Bool.not_false, Bool.and_true, Bool.true_and, Bool.or_false, Bool.false_or]
theorem wordN : m_is_word [.str ("never" : Str), .tuple [.str ("laid" : Str), .str ("never" : Str)]] = some (.bool true) := word_e ("never" : Str) [("laid" : Str), ("never" : Str)] (by simp)
theorem wordL : m_is_word [.str ("laid" : Str), .tuple [.str ("laid" : Str), .str ("never" : Str)]] = some (.bool true) := word_e ("laid" : Str) [("laid" : Str), ("never" : Str)] (by simp)
theorem shows_none {t : List Strand} {L : Int} {w : Int × Int} (hl : m_least_laid [eSs t, .int L, eP w] = some (eTold none)) : m_shows_laid [eSs t, .int L, eP w, eTold none] = some (.bool true) := by
  show run0 (b_shows_laid _ _ _ _) = _
  unfold b_shows_laid
  simp only [hl, if_true, if_false, B_P, L_s, run0_P, mNone_P, ite_and, ite_or, ite_and', ite_or', ite_t, ite_f, boolD_b, lt_ii, le_ii, gt_ii, ge_ii, add_ii, sub_ii, neg_i, part_i, seq_t, seq_l, tup2, tup0, lst0, lst1, lstS0, tup_l, tup_t, len_t, len_l, u2_p, isi_tt, isi_ii, isi_bi, isi_ss, Bool.not_true, Bool.not_false, Bool.and_true, Bool.true_and, Bool.or_false, Bool.false_or]
  unfold eTold
  simp only [is_tuple_e, List.length_singleton, ixh, wordN, neq_of nn_e, nn_e, eq_ii, if_true, if_false, B_P, L_s, run0_P, mNone_P, ite_and, ite_or, ite_and', ite_or', ite_t, ite_f, boolD_b, lt_ii, le_ii, gt_ii, ge_ii, add_ii, sub_ii, neg_i, part_i, seq_t, seq_l, tup2, tup0, lst0, lst1, lstS0, tup_l, tup_t, len_t, len_l, u2_p, isi_tt, isi_ii, isi_bi, isi_ss, Bool.not_true, Bool.not_false, Bool.and_true, Bool.true_and, Bool.or_false, Bool.false_or]
  rfl
theorem isB1 (o : Option Int) : isB (eOI o) .none = some o.isNone := by cases o <;> rfl
theorem shows_some {t : List Strand} {L : Int} {w : Int × Int} {a b : Row} (h : VL t L) (hl : m_least_laid [eSs t, .int L, eP w] = some (eTold (some a))) (ha : a.length = t.length) (hb : b.length = t.length) (ok : okR L b) : m_shows_laid [eSs t, .int L, eP w, eTold (some b)] = some (.bool (decide (cnt b = cnt a) && right L t w b)) := by
  have l1 := h.l1
  have l2 := h.l2
  have L1 := h.L1
  have L2 := h.L2
  show run0 (b_shows_laid _ _ _ _) = _
  unfold b_shows_laid
  simp only [hl, if_true, if_false, B_P, L_s, run0_P, mNone_P, ite_and, ite_or, ite_and', ite_or', ite_t, ite_f, boolD_b, lt_ii, le_ii, gt_ii, ge_ii, add_ii, sub_ii, neg_i, part_i, seq_t, seq_l, tup2, tup0, lst0, lst1, lstS0, tup_l, tup_t, len_t, len_l, u2_p, isi_tt, isi_ii, isi_bi, isi_ss, Bool.not_true, Bool.not_false, Bool.and_true, Bool.true_and, Bool.or_false, Bool.false_or]
  unfold eTold
  have er : ∀ b, eR b = .tuple (b.map eOI) := fun _ => rfl
  have et : eSs t = .tuple (t.map eS) := rfl
  have e1 : (decide ((1 : Int) ≤ (([PyData.str ("laid" : Str), eR b] : List D).length : Int)) && decide ((([PyData.str ("laid" : Str), eR b] : List D).length : Int) ≤ 2)) = true := rfl
  have e2 : (decide ((t.length : Int) ≤ (t.length : Int)) && decide ((t.length : Int) ≤ (t.length : Int))) = true := by simp
  have ca := cnt_le a
  have cb := cnt_le b
  have la : (a.filter fun o : Option Int => o.isSome).length = cnt a := rfl
  have lb : (b.filter fun o : Option Int => o.isSome).length = cnt b := rfl
  have all : (b.all fun o => o.isNone || (match o with | none => true | some p => decide (0 ≤ p) && decide (p ≤ L - 1))) = true := List.all_eq_true.mpr fun o ho => by
    cases o with
    | none => rfl
    | some p =>
      have := ok _ ho p rfl
      simp only [Bool.or_eq_true, Bool.and_eq_true, decide_eq_true_eq]
      exact .inr ⟨by omega, by omega⟩
  simp only [is_tuple_e, e1, ix0, ix1, wordL, neq_of ll_e, ln_e, Bool.false_eq_true, if_true, if_false, B_P, L_s, run0_P, mNone_P, ite_and, ite_or, ite_and', ite_or', ite_t, ite_f, boolD_b, lt_ii, le_ii, gt_ii, ge_ii, add_ii, sub_ii, neg_i, part_i, seq_t, seq_l, tup2, tup0, lst0, lst1, lstS0, tup_l, tup_t, len_t, len_l, u2_p, isi_tt, isi_ii, isi_bi, isi_ss, Bool.not_true, Bool.not_false, Bool.and_true, Bool.true_and, Bool.or_false, Bool.false_or]
  simp only [et, List.length_map, ne_ii, show (decide ((([PyData.str ("laid" : Str), eR b] : List D).length : Int) = 2)) = true from rfl, if_true, if_false, B_P, L_s, run0_P, mNone_P, ite_and, ite_or, ite_and', ite_or', ite_t, ite_f, boolD_b, lt_ii, le_ii, gt_ii, ge_ii, add_ii, sub_ii, neg_i, part_i, seq_t, seq_l, tup2, tup0, lst0, lst1, lstS0, tup_l, tup_t, len_t, len_l, u2_p, isi_tt, isi_ii, isi_bi, isi_ss, Bool.not_true, Bool.not_false, Bool.and_true, Bool.true_and, Bool.or_false, Bool.false_or]
  simp only [er, is_tuple_e, List.length_map, hb, e2, if_true, if_false, B_P, L_s, run0_P, mNone_P, ite_and, ite_or, ite_and', ite_or', ite_t, ite_f, boolD_b, lt_ii, le_ii, gt_ii, ge_ii, add_ii, sub_ii, neg_i, part_i, seq_t, seq_l, tup2, tup0, lst0, lst1, lstS0, tup_l, tup_t, len_t, len_l, u2_p, isi_tt, isi_ii, isi_bi, isi_ss, Bool.not_true, Bool.not_false, Bool.and_true, Bool.true_and, Bool.or_false, Bool.false_or]
  rw [cmp_map (g := fun o : Option Int => .bool (o.isNone || (match o with | none => true | some p => decide (0 ≤ p) && decide (p ≤ L - 1)))) fun o ho => by
    simp only [isB1, if_true, if_false, B_P, L_s, run0_P, mNone_P, ite_and, ite_or, ite_and', ite_or', ite_t, ite_f, boolD_b, lt_ii, le_ii, gt_ii, ge_ii, add_ii, sub_ii, neg_i, part_i, seq_t, seq_l, tup2, tup0, lst0, lst1, lstS0, tup_l, tup_t, len_t, len_l, u2_p, isi_tt, isi_ii, isi_bi, isi_ss, Bool.not_true, Bool.not_false, Bool.and_true, Bool.true_and, Bool.or_false, Bool.false_or]
    cases o with
    | none => rfl
    | some p =>
      simp only [Option.isNone_some, Bool.false_eq_true, eOI, is_integer_e, Bool.false_or, if_true, if_false, B_P, L_s, run0_P, mNone_P, ite_and, ite_or, ite_and', ite_or', ite_t, ite_f, boolD_b, lt_ii, le_ii, gt_ii, ge_ii, add_ii, sub_ii, neg_i, part_i, seq_t, seq_l, tup2, tup0, lst0, lst1, lstS0, tup_l, tup_t, len_t, len_l, u2_p, isi_tt, isi_ii, isi_bi, isi_ss, Bool.not_true, Bool.not_false, Bool.and_true, Bool.true_and, Bool.or_false, Bool.false_or]]
  simp only [lstD_le (show (b.map fun o : Option Int => PyData.bool (o.isNone || (match o with | none => true | some p => decide (0 ≤ p) && decide (p ≤ L - 1)))).length ≤ 16777216 by rw [List.length_map]; omega), all_bools, all, Bool.false_eq_true, if_true, if_false, B_P, L_s, run0_P, mNone_P, ite_and, ite_or, ite_and', ite_or', ite_t, ite_f, boolD_b, lt_ii, le_ii, gt_ii, ge_ii, add_ii, sub_ii, neg_i, part_i, seq_t, seq_l, tup2, tup0, lst0, lst1, lstS0, tup_l, tup_t, len_t, len_l, u2_p, isi_tt, isi_ii, isi_bi, isi_ss, Bool.not_true, Bool.not_false, Bool.and_true, Bool.true_and, Bool.or_false, Bool.false_or]
  rw [cmp_filter (p := fun o : Option Int => o.isSome) (g := eOI) fun o _ => by simp only [isntO1, if_true, if_false, B_P, L_s, run0_P, mNone_P, ite_and, ite_or, ite_and', ite_or', ite_t, ite_f, boolD_b, lt_ii, le_ii, gt_ii, ge_ii, add_ii, sub_ii, neg_i, part_i, seq_t, seq_l, tup2, tup0, lst0, lst1, lstS0, tup_l, tup_t, len_t, len_l, u2_p, isi_tt, isi_ii, isi_bi, isi_ss, Bool.not_true, Bool.not_false, Bool.and_true, Bool.true_and, Bool.or_false, Bool.false_or], cmp_filter (p := fun o : Option Int => o.isSome) (g := eOI) fun o _ => by simp only [isntO1, if_true, if_false, B_P, L_s, run0_P, mNone_P, ite_and, ite_or, ite_and', ite_or', ite_t, ite_f, boolD_b, lt_ii, le_ii, gt_ii, ge_ii, add_ii, sub_ii, neg_i, part_i, seq_t, seq_l, tup2, tup0, lst0, lst1, lstS0, tup_l, tup_t, len_t, len_l, u2_p, isi_tt, isi_ii, isi_bi, isi_ss, Bool.not_true, Bool.not_false, Bool.and_true, Bool.true_and, Bool.or_false, Bool.false_or]]
  simp only [lstD_le (show ((b.filter fun o : Option Int => o.isSome).map eOI).length ≤ 16777216 by rw [List.length_map]; omega), lstD_le (show ((a.filter fun o : Option Int => o.isSome).map eOI).length ≤ 16777216 by rw [List.length_map]; omega), List.length_map, la, lb, ne_ii, if_true, if_false, B_P, L_s, run0_P, mNone_P, ite_and, ite_or, ite_and', ite_or', ite_t, ite_f, boolD_b, lt_ii, le_ii, gt_ii, ge_ii, add_ii, sub_ii, neg_i, part_i, seq_t, seq_l, tup2, tup0, lst0, lst1, lstS0, tup_l, tup_t, len_t, len_l, u2_p, isi_tt, isi_ii, isi_bi, isi_ss, Bool.not_true, Bool.not_false, Bool.and_true, Bool.true_and, Bool.or_false, Bool.false_or]
  rw [← et, ← er, is_right_e (fun s hs => h.at_ s hs) L1 L2 ok]
  by_cases c : cnt b = cnt a
  · rw [decide_eq_true (show (cnt b : Int) = cnt a by omega), decide_eq_true c]
    rfl
  · rw [decide_eq_false (show ¬ (cnt b : Int) = cnt a by omega), decide_eq_false c]
    rfl
/-! ### more and fewer -/
theorem few_le {t t' : List Strand} {L L' : Int} {w w' : Int × Int} {f f' : Int} (h : IsFew t L w f) (h' : IsFew t' L' w' f') (hl : t'.length ≤ 3) (k : ∀ b, Rt t L w b → ∃ b', Rt t' L' w' b' ∧ cnt b' ≤ cnt b) : f' ≤ f := by
  rcases h with ⟨b, h1, h2, h3⟩ | ⟨h1, h2⟩
  · obtain ⟨b', k1, k2⟩ := k b h1
    rcases h' with ⟨c, g1, g2, g3⟩ | ⟨g1, g2⟩
    · have := g3 b' k1
      omega
    · exact absurd k1 (g2 b')
  · rcases h' with ⟨c, g1, g2, g3⟩ | ⟨g1, g2⟩
    · have := cnt_le c
      have := g1.len
      omega
    · omega
theorem few_one {t' : List Strand} {L' : Int} {w' : Int × Int} {f' : Int} {b : Row} (h' : IsFew t' L' w' f') (k : Rt t' L' w' b) : f' ≤ cnt b := by
  rcases h' with ⟨c, g1, g2, g3⟩ | ⟨g1, g2⟩
  · exact g3 b k
  · exact absurd k (g2 b)
theorem rt_wide {t : List Strand} {L : Int} {w : Int × Int} {b : Row} (hw : 0 ≤ w.1) (h : Rt t L w b) : Rt t L (max 0 (w.1 - 1), w.2 + 1) b := by
  refine ⟨h.len, h.ok, right_iff.mpr fun y h0 h1 => ?_⟩
  have := right_iff.mp h.rt y h0 h1
  show max 0 (w.1 - 1) ≤ _ ∧ _ ≤ w.2 + 1
  omega
theorem sum_perm {xs ys : List Int} (h : xs.Perm ys) : xs.sum = ys.sum := by
  induction h with
  | nil => rfl
  | cons x p ih => rw [List.sum_cons, List.sum_cons, ih]
  | swap x y l =>
    rw [List.sum_cons, List.sum_cons, List.sum_cons, List.sum_cons]
    omega
  | trans p q h1 h2 => rw [h1, h2]
theorem zip_perm {t t' : List Strand} (h : t.Perm t') : ∀ b : Row, b.length = t.length → ∃ b' : Row, b'.length = t'.length ∧ (t.zip b).Perm (t'.zip b') ∧ b.Perm b' := by
  induction h with
  | nil => exact fun b hb => ⟨b, hb, List.Perm.refl _, List.Perm.refl _⟩
  | @cons x l1 l2 p ih =>
    intro b hb
    cases b with
    | nil => cases hb
    | cons o b =>
      obtain ⟨b', h1, h2, h3⟩ := ih b (by simpa using hb)
      exact ⟨o :: b', by simp [h1], by simpa using h2, List.Perm.cons _ h3⟩
  | swap x y l =>
    intro b hb
    match b, hb with
    | o :: p :: b, hb => exact ⟨p :: o :: b, by simpa using hb, by simpa using List.Perm.swap _ _ _, List.Perm.swap _ _ _⟩
  | trans p q ih1 ih2 =>
    intro b hb
    obtain ⟨b1, h1, h2, h3⟩ := ih1 b hb
    obtain ⟨b2, k1, k2, k3⟩ := ih2 b1 h1
    exact ⟨b2, k1, h2.trans k2, h3.trans k3⟩
theorem rt_perm {t t' : List Strand} (h : t.Perm t') {L : Int} {w : Int × Int} {b : Row} (hb : Rt t L w b) : ∃ b', Rt t' L w b' ∧ cnt b' ≤ cnt b := by
  obtain ⟨b', h1, h2, h3⟩ := zip_perm h b hb.len
  have e : ∀ y, sAt t' b' y = sAt t b y := fun y => (sum_perm (h2.map fun q : Strand × Option Int => ctr q.1 q.2 y)).symm
  refine ⟨b', ⟨h1, fun x hx => hb.ok x (h3.mem_iff.mpr hx), right_iff.mpr fun y h0 h1 => ?_⟩, ?_⟩
  · rw [e]
    exact right_iff.mp hb.rt y h0 h1
  · exact Nat.le_of_eq (h3.symm.filter _).length_eq
theorem sAt_app_none : ∀ (t : List Strand) (s : Strand) (b : Row) (y : Int), b.length = t.length → sAt (t ++ [s]) (b ++ [none]) y = sAt t b y
  | [], s, b, y, h => by
    rw [List.eq_nil_of_length_eq_zero h]
    rfl
  | x :: t, s, [], y, h => by cases h
  | x :: t, s, o :: b, y, h => by rw [List.cons_append, List.cons_append, sAt_cons, sAt_cons, sAt_app_none t s b y (by simpa using h)]
theorem cnt_app (a b : Row) : cnt (a ++ b) = cnt a + cnt b := by simp [cnt]
theorem rt_last {t : List Strand} {s : Strand} {L : Int} {w : Int × Int} {b : Row} (hb : Rt t L w b) : Rt (t ++ [s]) L w (b ++ [none]) ∧ cnt (b ++ [none]) = cnt b := by
  refine ⟨⟨by simp [hb.len], okR_snoc hb.ok fun p e => (by cases e), right_iff.mpr fun y h0 h1 => ?_⟩, by rw [cnt_app]; rfl⟩
  rw [sAt_app_none t s b y hb.len]
  exact right_iff.mp hb.rt y h0 h1
def cutB (L : Int) : Option Int → Option Int
  | none => none
  | some p => if p < L then some p else none
theorem cut_sAt {L y : Int} (h1 : y < L) : ∀ (t : List Strand) (b : Row), sAt t (b.map (cutB L)) y = sAt t b y
  | [], b => by rw [sAt_nil, sAt_nil]
  | s :: t, [] => rfl
  | s :: t, o :: b => by
    rw [List.map_cons, sAt_cons, sAt_cons, cut_sAt h1 t b]
    congr 1
    cases o with
    | none => rfl
    | some p =>
      show ctr s (if p < L then some p else none) y = _
      split
      · rfl
      · show (0 : Int) = val s (y - p)
        unfold val
        rw [if_neg (by omega)]
theorem cut_cnt (L : Int) : ∀ b : Row, cnt (b.map (cutB L)) ≤ cnt b
  | [] => Nat.le_refl _
  | o :: b => by
    have ih := cut_cnt L b
    have h : (cutB L o).isSome = true → o.isSome = true := by
      cases o with
      | none => exact id
      | some p => exact fun _ => rfl
    unfold cnt at ih ⊢
    rw [List.map_cons, List.filter_cons, List.filter_cons]
    cases c : (cutB L o).isSome with
    | true =>
      rw [h c, if_pos rfl, if_pos rfl, List.length_cons, List.length_cons]
      omega
    | false =>
      rw [if_neg (by decide)]
      split
      · rw [List.length_cons]
        omega
      · exact ih
theorem rt_short {t : List Strand} {L : Int} {w : Int × Int} {b : Row} (hb : Rt t L w b) : Rt t (L - 1) w (b.map (cutB (L - 1))) := by
  refine ⟨by rw [List.length_map, hb.len], fun x hx p e => ?_, right_iff.mpr fun y h0 h1 => ?_⟩
  · obtain ⟨o, ho, rfl⟩ := List.mem_map.mp hx
    cases o with
    | none => cases e
    | some q =>
      have e : (if q < L - 1 then some q else none) = some p := e
      split at e
      · cases e
        have := hb.ok _ ho _ rfl
        omega
      · cases e
  · rw [cut_sAt h1]
    exact right_iff.mp hb.rt y h0 (by omega)
/-- longer strands where nothing shows -/
def longer (L : Int) (q : Strand × Option Int) : Strand := match q.2 with
  | none => q.1
  | some p => if p + q.1.length < L then q.1 else q.1 ++ List.replicate 5 9
theorem longer_ctr {L y : Int} {s : Strand} {o : Option Int} (h1 : y < L) : ctr (longer L (s, o)) o y = ctr s o y := by
  cases o with
  | none => rfl
  | some p =>
    show val (if p + s.length < L then s else s ++ List.replicate 5 9) (y - p) = val s (y - p)
    split
    · rfl
    · rename_i c
      unfold val
      by_cases c2 : 0 ≤ y - p ∧ y - p < s.length
      · rw [if_pos c2, if_pos (by rw [List.length_append]; omega), List.getD_eq_getElem?_getD, List.getD_eq_getElem?_getD, List.getElem?_append_left (by omega)]
      · rw [if_neg c2, if_neg (by rw [List.length_append, List.length_replicate]; omega)]
theorem longer_sAt {L y : Int} (h1 : y < L) : ∀ (t : List Strand) (b : Row), b.length = t.length → sAt ((t.zip b).map (longer L)) b y = sAt t b y
  | [], b, h => by
    rw [List.zip_nil_left]
    rfl
  | s :: t, [], h => by cases h
  | s :: t, o :: b, h => by rw [List.zip_cons_cons, List.map_cons, sAt_cons, sAt_cons, longer_sAt h1 t b (by simpa using h), longer_ctr h1]
theorem rt_longer {t : List Strand} {L : Int} {w : Int × Int} {b : Row} (hb : Rt t L w b) : Rt ((t.zip b).map (longer L)) L w b := by
  refine ⟨by rw [List.length_map, List.length_zip, hb.len, Nat.min_self], hb.ok, right_iff.mpr fun y h0 h1 => ?_⟩
  rw [longer_sAt h1 t b hb.len]
  exact right_iff.mp hb.rt y h0 h1
end K22

set_option Elab.async false
set_option linter.all false
set_option maxRecDepth 100000
set_option maxHeartbeats 2000000
namespace K22
open PySem PySem.Spec PyProof.Rows L2 DL
theorem isnt_t (b : Bool) : isntB (.bool b) (.bool true) = some (!b) := by cases b <;> rfl
theorem lst_t (xs : List D) : lstL [.tuple xs] = some (.list xs) := rfl
theorem cut_last {α : Type} (xs : List α) (x : α) : cutL (xs ++ [x]) none (some (-1)) = xs := by
  unfold cutL
  rw [HT.sIx_none, List.drop_zero]
  have e : HT.sIx (xs ++ [x]).length (xs ++ [x]).length (some (-1)) = xs.length := by
    unfold HT.sIx
    simp
    omega
  rw [e, Nat.sub_zero, List.take_left']
  rfl
theorem nines : mulT (.tuple [.int 9]) (.int 5) = some (.tuple (eI (List.replicate 5 9))) := rfl
theorem tup1 (x : D) : tupD [x] = some (.tuple [x]) := if_pos (by simp)
theorem Least.len {t : List Strand} {L : Int} {w : Int × Int} {o : Option Row} (h : Least t L w o) (hv : VL t L) : ∀ b, o = some b → b.length ≤ 16777216 := fun b e => by
  have := (h.yes b e).1.len
  have := hv.l2
  omega
theorem ixT0 : ixD (eTold none) (.int 0) = some (.str ("never" : Str)) := rfl
theorem ixT1 (b : Row) : ixD (eTold (some b)) (.int 0) = some (.str ("laid" : Str)) := rfl
theorem ixT2 (b : Row) : ixD (eTold (some b)) (.int 1) = some (eR b) := rfl
/-- how few, as the law asks it -/
theorem ask {t : List Strand} {L : Int} {w : Int × Int} (hv : VL t L) (hb : VB w) : ∃ o f, m_least_laid [eSs t, .int L, eP w] = some (eTold o) ∧ m__law_few [eTold o] = some (.int f) ∧ IsFew t L w f ∧ Least t L w o ∧ f = fw o := by
  obtain ⟨o, e, h⟩ := least_e hv hb
  exact ⟨o, fw o, e, few_e (h.len hv), h.few, h, rfl⟩
theorem laid_e {k : Int} {s : Pot} (h : PI k s) (hk : k + 2000 ≤ 1000000) : ∃ s', m__law_are_laid_right [] s = some (.bool true, s') ∧ PI (k + 500) s' := by
  obtain ⟨v1, s1, e1, a0, a1, p1⟩ := take_e (n := 2) h (by omega) (by omega) (by omega)
  obtain ⟨v2, s2, e2, b0, b1, p2⟩ := take_e (n := 4) p1 (by omega) (by omega) (by omega)
  obtain ⟨t, s3, e3, l3, r3, p3⟩ := cmp_st (e := eS) (R := VS9) (st := 11) (N := k + 100) (f := fun d1072 => B (DL.L (lstD [PyData.int 1, PyData.int 2, PyData.int 4])) fun x1077 => B (m__law_of [x1077]) fun x1078 => B (m__law_strand [PyData.int 9, x1078]) fun x1079 => P (some x1079)) (by decide) (eI (yards 0 (2 + v1))) (k + 1 + 1) s2 p2 (by rw [eI_len, yards_len]; omega) fun d hd k s hs hk => by
    obtain ⟨m, s4, e4, hm, p4⟩ := of_e (xs := [1, 2, 4]) hs (by omega) (by simp) (by simp)
    have hm2 : 0 ≤ m ∧ m ≤ 4 := by
      simp at hm
      omega
    obtain ⟨x, s5, e5, hx, p5⟩ := strand_e p4 (by omega) hm2.1 hm2.2
    refine ⟨x, s5, ?_, hx, p5.mono (by omega)⟩
    rw [lst3, L_s, B_P, show PyData.list [PyData.int 1, PyData.int 2, PyData.int 4] = .list (eI [1, 2, 4]) from rfl, B_ap e4, B_ap e5]
    rfl
  rw [eI_len, yards_len] at l3 p3
  obtain ⟨lo, s6, e6, c0, c1, p6⟩ := take_e (n := 3) p3 (by omega) (by omega) (by omega)
  obtain ⟨wd, s7, e7, d0, d1, p7⟩ := take_e (n := 6) p6 (by omega) (by omega) (by omega)
  have hvt : ∀ x ∈ t, VS x := fun x hx => (r3 x hx).toVS
  have hv : VL t (4 + v2) := ⟨by omega, by omega, hvt, by omega, by omega⟩
  have hb : VB (lo, lo + wd) := ⟨c0, by show lo ≤ lo + wd; omega, by show lo + wd ≤ 1000; omega⟩
  have hb2 : VB (max 0 (lo - 1), lo + wd + 1) := ⟨by show 0 ≤ max 0 (lo - 1); omega, by show max 0 (lo - 1) ≤ lo + wd + 1; omega, by show lo + wd + 1 ≤ 1000; omega⟩
  obtain ⟨o, f, f1, f2, f3, f4, f5⟩ := ask hv hb
  obtain ⟨g, g1, g2⟩ := own_few_e (w := (lo, lo + wd)) hv
  have gf : g = f := g2.eq f3
  subst gf
  obtain ⟨ow, fw', h1, h2, h3, _, _⟩ := ask hv hb2
  have hwide : fw' ≤ g := few_le f3 h3 (by omega) fun b hb => ⟨b, rt_wide (w := (lo, lo + wd)) c0 hb, Nat.le_refl _⟩
  obtain ⟨mx, s8, e8, q8, p8⟩ := some_e (e := eS) (xs := t) p7 (by omega) (by omega)
  have hvm : VL mx (4 + v2) := ⟨by rw [q8.length_eq]; omega, by rw [q8.length_eq]; omega, fun x hx => hvt x (q8.mem_iff.mp hx), by omega, by omega⟩
  obtain ⟨om, fm, i1, i2, i3, _, _⟩ := ask hvm hb
  have hmix : fm = g := by
    have z1 := few_le f3 i3 (by rw [q8.length_eq]; omega) fun b hb => rt_perm q8.symm hb
    have z2 := few_le i3 f3 (by omega) fun b hb => rt_perm q8 hb
    omega
  obtain ⟨ts, sl, rfl⟩ : ∃ ts sl, t = ts ++ [sl] := by
    rcases snoc_cases t with rfl | z
    · simp at l3
      omega
    · exact z
  have lts : ts.length + 1 = (2 + v1 - 0).toNat := by rw [← l3]; simp
  have hvs : VL ts (4 + v2) := ⟨by omega, by omega, fun x hx => hvt x (by simp [hx]), by omega, by omega⟩
  obtain ⟨os, fs, j1, j2, j3, _, _⟩ := ask hvs hb
  have hsh : g ≤ fs := few_le j3 f3 (by omega) fun b hb => ⟨b ++ [none], (rt_last (s := sl) hb).1, Nat.le_of_eq (rt_last (s := sl) hb).2⟩
  generalize ht : ts ++ [sl] = t at *
  have hmany : (2 + v1) = (t.length : Int) := by omega
  change m_least_laid [.tuple (t.map eS), .int (4 + v2), .tuple [.int lo, .int (lo + wd)]] = _ at f1
  change m__law_own_few [.tuple (t.map eS), .int (4 + v2), .tuple [.int lo, .int (lo + wd)]] = _ at g1
  change m_least_laid [.tuple (t.map eS), .int (4 + v2), .tuple [.int (max 0 (lo - 1)), .int (lo + wd + 1)]] = _ at h1
  change m_least_laid [.tuple (mx.map eS), .int (4 + v2), .tuple [.int lo, .int (lo + wd)]] = _ at i1
  change m_least_laid [.tuple (ts.map eS), .int (4 + v2), .tuple [.int lo, .int (lo + wd)]] = _ at j1
  have hsl : sliceD (.tuple (t.map eS)) none (some (-1)) = some (.tuple (ts.map eS)) := by
    rw [← ht, List.map_append, List.map_singleton, slice_t, cut_last]
  have lt : (t.map eS).length ≤ 16777216 := by rw [List.length_map]; omega
  show ∃ s', b__law_are_laid_right s = _ ∧ _
  unfold b__law_are_laid_right
  simp only [B_B, if_true, if_false, B_P, L_s, run0_P, mNone_P, ite_and, ite_or, ite_and', ite_or', ite_t, ite_f, boolD_b, lt_ii, le_ii, gt_ii, ge_ii, add_ii, sub_ii, neg_i, part_i, seq_t, seq_l, tup2, tup0, lst0, lst1, lstS0, tup_l, tup_t, len_t, len_l, u2_p, isi_tt, isi_ii, isi_bi, isi_ss, Bool.not_true, Bool.not_false, Bool.and_true, Bool.true_and, Bool.or_false, Bool.false_or]
  rw [B_ap e1]
  simp only [int_i, if_true, if_false, B_P, L_s, run0_P, mNone_P, ite_and, ite_or, ite_and', ite_or', ite_t, ite_f, boolD_b, lt_ii, le_ii, gt_ii, ge_ii, add_ii, sub_ii, neg_i, part_i, seq_t, seq_l, tup2, tup0, lst0, lst1, lstS0, tup_l, tup_t, len_t, len_l, u2_p, isi_tt, isi_ii, isi_bi, isi_ss, Bool.not_true, Bool.not_false, Bool.and_true, Bool.true_and, Bool.or_false, Bool.false_or]
  rw [B_ap e2]
  simp only [int_i, B_B, range1_e (b := 2 + v1) (by omega), if_true, if_false, B_P, L_s, run0_P, mNone_P, ite_and, ite_or, ite_and', ite_or', ite_t, ite_f, boolD_b, lt_ii, le_ii, gt_ii, ge_ii, add_ii, sub_ii, neg_i, part_i, seq_t, seq_l, tup2, tup0, lst0, lst1, lstS0, tup_l, tup_t, len_t, len_l, u2_p, isi_tt, isi_ii, isi_bi, isi_ss, Bool.not_true, Bool.not_false, Bool.and_true, Bool.true_and, Bool.or_false, Bool.false_or]
  rw [B_ap e3]
  simp only [lstD_le lt, if_true, if_false, B_P, L_s, run0_P, mNone_P, ite_and, ite_or, ite_and', ite_or', ite_t, ite_f, boolD_b, lt_ii, le_ii, gt_ii, ge_ii, add_ii, sub_ii, neg_i, part_i, seq_t, seq_l, tup2, tup0, lst0, lst1, lstS0, tup_l, tup_t, len_t, len_l, u2_p, isi_tt, isi_ii, isi_bi, isi_ss, Bool.not_true, Bool.not_false, Bool.and_true, Bool.true_and, Bool.or_false, Bool.false_or]
  rw [B_ap e6]
  simp only [int_i, if_true, if_false, B_P, L_s, run0_P, mNone_P, ite_and, ite_or, ite_and', ite_or', ite_t, ite_f, boolD_b, lt_ii, le_ii, gt_ii, ge_ii, add_ii, sub_ii, neg_i, part_i, seq_t, seq_l, tup2, tup0, lst0, lst1, lstS0, tup_l, tup_t, len_t, len_l, u2_p, isi_tt, isi_ii, isi_bi, isi_ss, Bool.not_true, Bool.not_false, Bool.and_true, Bool.true_and, Bool.or_false, Bool.false_or]
  rw [B_ap e7]
  simp only [int_i, B_B, if_true, if_false, B_P, L_s, run0_P, mNone_P, ite_and, ite_or, ite_and', ite_or', ite_t, ite_f, boolD_b, lt_ii, le_ii, gt_ii, ge_ii, add_ii, sub_ii, neg_i, part_i, seq_t, seq_l, tup2, tup0, lst0, lst1, lstS0, tup_l, tup_t, len_t, len_l, u2_p, isi_tt, isi_ii, isi_bi, isi_ss, Bool.not_true, Bool.not_false, Bool.and_true, Bool.true_and, Bool.or_false, Bool.false_or]
  cases o with
  | none =>
    have sh : m_shows_laid [.tuple (t.map eS), .int (4 + v2), .tuple [.int lo, .int (lo + wd)], eTold none] = some (.bool true) := shows_none (w := (lo, lo + wd)) f1
    simp only [f1, sh, isnt_t, Bool.false_eq_true, ixT0, nl_e, f2, g1, ne_ii, decide_true, ix0, ix1, max2_e, h1, h2, decide_eq_false (show ¬ g < fw' by omega), lst_t, hmany, if_true, if_false, B_P, L_s, run0_P, mNone_P, ite_and, ite_or, ite_and', ite_or', ite_t, ite_f, boolD_b, lt_ii, le_ii, gt_ii, ge_ii, add_ii, sub_ii, neg_i, part_i, seq_t, seq_l, tup2, tup0, lst0, lst1, lstS0, tup_l, tup_t, len_t, len_l, u2_p, isi_tt, isi_ii, isi_bi, isi_ss, Bool.not_true, Bool.not_false, Bool.and_true, Bool.true_and, Bool.or_false, Bool.false_or]
    rw [B_ap e8]
    simp only [i1, i2, hmix, ne_ii, decide_true, Bool.false_eq_true, hsl, j1, j2, decide_eq_false (show ¬ fs < g by omega), kF_nx, if_true, if_false, B_P, L_s, run0_P, mNone_P, ite_and, ite_or, ite_and', ite_or', ite_t, ite_f, boolD_b, lt_ii, le_ii, gt_ii, ge_ii, add_ii, sub_ii, neg_i, part_i, seq_t, seq_l, tup2, tup0, lst0, lst1, lstS0, tup_l, tup_t, len_t, len_l, u2_p, isi_tt, isi_ii, isi_bi, isi_ss, Bool.not_true, Bool.not_false, Bool.and_true, Bool.true_and, Bool.or_false, Bool.false_or]
    exact ⟨s8, rfl, p8.mono (by omega)⟩
  | some b =>
    have L1 : 1 ≤ 4 + v2 := by omega
    have L2 : 4 + v2 ≤ 12 := by omega
    obtain ⟨hr, hm⟩ := f4.yes b rfl
    have hg : g = (cnt b : Int) := f5
    have hbl := hr.len
    have htl := hv.l2
    have er : ∀ c : Row, eR c = .tuple (c.map eOI) := fun _ => rfl
    have sh : m_shows_laid [.tuple (t.map eS), .int (4 + v2), .tuple [.int lo, .int (lo + wd)], eTold (some b)] = some (.bool true) := by
      have := shows_some (w := (lo, lo + wd)) hv f1 hr.len hr.len hr.ok
      rw [decide_eq_true rfl, hr.rt] at this
      exact this
    have ls : m__law_sums [.tuple (t.map eS), .int (4 + v2), eR b] = some (.list (eI (sums (4 + v2) t b))) := lsums_e hvt L1 L2 hr.ok
    have rb : ((sums (4 + v2) t b).all fun x => decide (lo ≤ x) && decide (x ≤ lo + wd)) = true := hr.rt
    have hvl : VL ((t.zip b).map (longer (4 + v2))) (4 + v2) := by
      have hl : ((t.zip b).map (longer (4 + v2))).length = t.length := by rw [List.length_map, List.length_zip, hbl, Nat.min_self]
      refine ⟨by rw [hl]; exact hv.l1, by rw [hl]; exact hv.l2, fun x hx => ?_, L1, L2⟩
      obtain ⟨q, hq, rfl⟩ := List.mem_map.mp hx
      have hq1 := r3 _ (List.of_mem_zip hq).1
      obtain ⟨s, o⟩ := q
      cases o with
      | none => exact hq1.toVS
      | some p =>
        show VS (if p + s.length < 4 + v2 then s else s ++ List.replicate 5 9)
        have l9 : s.length ≤ 9 := hq1.l9
        have l1 : 1 ≤ s.length := hq1.l1
        split
        · exact hq1.toVS
        · refine ⟨by rw [List.length_append, List.length_replicate]; omega, by rw [List.length_append, List.length_replicate]; omega, fun x hx => ?_⟩
          rcases List.mem_append.mp hx with z | z
          · exact hq1.at_ x z
          · rw [List.eq_of_mem_replicate z]
            decide
    obtain ⟨ol, fl, m1, m2, m3, _, _⟩ := ask (w := (lo, lo + wd)) hvl hb
    have hlong : fl ≤ g := hg ▸ few_one m3 (rt_longer hr)
    have hvc : VL t (4 + v2 - 1) := ⟨hv.l1, hv.l2, hvt, by omega, by omega⟩
    obtain ⟨oc, fc, n1, n2, n3, _, _⟩ := ask (w := (lo, lo + wd)) hvc hb
    have hcut : fc ≤ g := by
      have := few_one n3 (rt_short hr)
      have := cut_cnt (4 + v2 - 1) b
      omega
    change m_least_laid [.tuple (((t.zip b).map (longer (4 + v2))).map eS), .int (4 + v2), .tuple [.int lo, .int (lo + wd)]] = _ at m1
    change m_least_laid [.tuple (t.map eS), .int (4 + v2 - 1), .tuple [.int lo, .int (lo + wd)]] = _ at n1
    obtain ⟨c, s9, e9, p9, lc, okc, nc⟩ := drawn_e L1 L2 (f := fun d1257 => B (DL.L (isB d1257 PyData.none)) fun x => B (if x = true then P PyData.none else B (m__law_take [PyData.int (4 + v2)]) fun x1262 => DL.L (intL [x1262])) fun x1264 => P (some x1264)) (fun o => by
      rw [isB1]
      cases o with
      | none => rfl
      | some p =>
        simp only [B_B, Option.isNone_some, Bool.false_eq_true, if_true, if_false, B_P, L_s, run0_P, mNone_P, ite_and, ite_or, ite_and', ite_or', ite_t, ite_f, boolD_b, lt_ii, le_ii, gt_ii, ge_ii, add_ii, sub_ii, neg_i, part_i, seq_t, seq_l, tup2, tup0, lst0, lst1, lstS0, tup_l, tup_t, len_t, len_l, u2_p, isi_tt, isi_ii, isi_bi, isi_ss, Bool.not_true, Bool.not_false, Bool.and_true, Bool.true_and, Bool.or_false, Bool.false_or]) b _ s8 p8 (by omega)
    have ls2 : m__law_sums [.tuple (t.map eS), .int (4 + v2), .tuple (c.map eOI)] = some (.list (eI (sums (4 + v2) t c))) := lsums_e hvt L1 L2 okc
    have sh2 : m_shows_laid [.tuple (t.map eS), .int (4 + v2), .tuple [.int lo, .int (lo + wd)], .tuple [.str ("laid" : Str), .tuple (c.map eOI)]] = some (.bool (right (4 + v2) t (lo, lo + wd) c)) := by
      have := shows_some (w := (lo, lo + wd)) hv f1 hr.len (by rw [lc, hr.len]) okc
      rw [decide_eq_true nc, Bool.true_and] at this
      exact this
    have hz : zipA [.tuple (t.map eS), eR b] = some ((t.zip b).map fun q => .tuple [eS q.1, eOI q.2]) := by rw [er, zipA_tt, pairs2_map]
    simp only [f1, sh, isnt_t, Bool.false_eq_true, ixT1, ixT2, ll_e, ls, ix0, ix1, if_true, if_false, B_P, L_s, run0_P, mNone_P, ite_and, ite_or, ite_and', ite_or', ite_t, ite_f, boolD_b, lt_ii, le_ii, gt_ii, ge_ii, add_ii, sub_ii, neg_i, part_i, seq_t, seq_l, tup2, tup0, lst0, lst1, lstS0, tup_l, tup_t, len_t, len_l, u2_p, isi_tt, isi_ii, isi_bi, isi_ss, Bool.not_true, Bool.not_false, Bool.and_true, Bool.true_and, Bool.or_false, Bool.false_or]
    rw [cmp_ints (g := fun x => .bool (decide (lo ≤ x) && decide (x ≤ lo + wd))) fun x hx => by simp only [if_true, if_false, B_P, L_s, run0_P, mNone_P, ite_and, ite_or, ite_and', ite_or', ite_t, ite_f, boolD_b, lt_ii, le_ii, gt_ii, ge_ii, add_ii, sub_ii, neg_i, part_i, seq_t, seq_l, tup2, tup0, lst0, lst1, lstS0, tup_l, tup_t, len_t, len_l, u2_p, isi_tt, isi_ii, isi_bi, isi_ss, Bool.not_true, Bool.not_false, Bool.and_true, Bool.true_and, Bool.or_false, Bool.false_or]]
    simp only [lstD_le (show ((sums (4 + v2) t b).map fun x : Int => PyData.bool (decide (lo ≤ x) && decide (x ≤ lo + wd))).length ≤ 16777216 by rw [List.length_map, sums_len]; omega), all_bools, rb, Bool.false_eq_true, f2, g1, ne_ii, decide_true, max2_e, h1, h2, decide_eq_false (show ¬ g < fw' by omega), lst_t, hmany, if_true, if_false, B_P, L_s, run0_P, mNone_P, ite_and, ite_or, ite_and', ite_or', ite_t, ite_f, boolD_b, lt_ii, le_ii, gt_ii, ge_ii, add_ii, sub_ii, neg_i, part_i, seq_t, seq_l, tup2, tup0, lst0, lst1, lstS0, tup_l, tup_t, len_t, len_l, u2_p, isi_tt, isi_ii, isi_bi, isi_ss, Bool.not_true, Bool.not_false, Bool.and_true, Bool.true_and, Bool.or_false, Bool.false_or]
    rw [B_ap e8]
    simp only [i1, i2, hmix, ne_ii, decide_true, Bool.false_eq_true, hsl, j1, j2, decide_eq_false (show ¬ fs < g by omega), kF_nx, hz, if_true, if_false, B_P, L_s, run0_P, mNone_P, ite_and, ite_or, ite_and', ite_or', ite_t, ite_f, boolD_b, lt_ii, le_ii, gt_ii, ge_ii, add_ii, sub_ii, neg_i, part_i, seq_t, seq_l, tup2, tup0, lst0, lst1, lstS0, tup_l, tup_t, len_t, len_l, u2_p, isi_tt, isi_ii, isi_bi, isi_ss, Bool.not_true, Bool.not_false, Bool.and_true, Bool.true_and, Bool.or_false, Bool.false_or]
    rw [fold_ext (g := fun q : Strand × Option Int => [eS (longer (4 + v2) q)]) (m := 1) (N := 1000) (fun _ => Nat.le_refl _) (fun a q hq ha => ?_) (by simp; omega)]
    · have hfl : ((t.zip b).flatMap fun q => [eS (longer (4 + v2) q)]) = ((t.zip b).map (longer (4 + v2))).map eS := by
        rw [flat_one (fun q => eS (longer (4 + v2) q)), List.map_map]
        rfl
      simp only [List.nil_append, hfl, m1, m2, decide_eq_false (show ¬ g < fl by omega), Bool.false_eq_true, kF_nx, decide_eq_true (show 1 < 4 + v2 by omega), n1, n2, decide_eq_false (show ¬ g < fc by omega), er, if_true, if_false, B_P, L_s, run0_P, mNone_P, ite_and, ite_or, ite_and', ite_or', ite_t, ite_f, boolD_b, lt_ii, le_ii, gt_ii, ge_ii, add_ii, sub_ii, neg_i, part_i, seq_t, seq_l, tup2, tup0, lst0, lst1, lstS0, tup_l, tup_t, len_t, len_l, u2_p, isi_tt, isi_ii, isi_bi, isi_ss, Bool.not_true, Bool.not_false, Bool.and_true, Bool.true_and, Bool.or_false, Bool.false_or]
      rw [B_B, B_ap e9]
      simp only [lstD_le (show (c.map eOI).length ≤ 16777216 by rw [List.length_map]; omega), ls2, if_true, if_false, B_P, L_s, run0_P, mNone_P, ite_and, ite_or, ite_and', ite_or', ite_t, ite_f, boolD_b, lt_ii, le_ii, gt_ii, ge_ii, add_ii, sub_ii, neg_i, part_i, seq_t, seq_l, tup2, tup0, lst0, lst1, lstS0, tup_l, tup_t, len_t, len_l, u2_p, isi_tt, isi_ii, isi_bi, isi_ss, Bool.not_true, Bool.not_false, Bool.and_true, Bool.true_and, Bool.or_false, Bool.false_or]
      rw [cmp_ints (g := fun x => .bool (decide (lo ≤ x) && decide (x ≤ lo + wd))) fun x hx => by simp only [if_true, if_false, B_P, L_s, run0_P, mNone_P, ite_and, ite_or, ite_and', ite_or', ite_t, ite_f, boolD_b, lt_ii, le_ii, gt_ii, ge_ii, add_ii, sub_ii, neg_i, part_i, seq_t, seq_l, tup2, tup0, lst0, lst1, lstS0, tup_l, tup_t, len_t, len_l, u2_p, isi_tt, isi_ii, isi_bi, isi_ss, Bool.not_true, Bool.not_false, Bool.and_true, Bool.true_and, Bool.or_false, Bool.false_or]]
      simp only [lstD_le (show ((sums (4 + v2) t c).map fun x : Int => PyData.bool (decide (lo ≤ x) && decide (x ≤ lo + wd))).length ≤ 16777216 by rw [List.length_map, sums_len]; omega), all_bools, sh2, if_true, if_false, B_P, L_s, run0_P, mNone_P, ite_and, ite_or, ite_and', ite_or', ite_t, ite_f, boolD_b, lt_ii, le_ii, gt_ii, ge_ii, add_ii, sub_ii, neg_i, part_i, seq_t, seq_l, tup2, tup0, lst0, lst1, lstS0, tup_l, tup_t, len_t, len_l, u2_p, isi_tt, isi_ii, isi_bi, isi_ss, Bool.not_true, Bool.not_false, Bool.and_true, Bool.true_and, Bool.or_false, Bool.false_or]
      rw [show ((sums (4 + v2) t c).all fun x => decide (lo ≤ x) && decide (x ≤ lo + wd)) = right (4 + v2) t (lo, lo + wd) c from rfl]
      simp only [ne_bb, decide_true, Bool.false_eq_true, kF_nx, if_true, if_false, B_P, L_s, run0_P, mNone_P, ite_and, ite_or, ite_and', ite_or', ite_t, ite_f, boolD_b, lt_ii, le_ii, gt_ii, ge_ii, add_ii, sub_ii, neg_i, part_i, seq_t, seq_l, tup2, tup0, lst0, lst1, lstS0, tup_l, tup_t, len_t, len_l, u2_p, isi_tt, isi_ii, isi_bi, isi_ss, Bool.not_true, Bool.not_false, Bool.and_true, Bool.true_and, Bool.or_false, Bool.false_or]
      exact ⟨s9, rfl, p9.mono (by omega)⟩
    · obtain ⟨st, oq⟩ := q
      have hq1 := r3 _ (List.of_mem_zip hq).1
      have l9 : st.length ≤ 9 := hq1.l9
      simp only [isB1, if_true, if_false, B_P, L_s, run0_P, mNone_P, ite_and, ite_or, ite_and', ite_or', ite_t, ite_f, boolD_b, lt_ii, le_ii, gt_ii, ge_ii, add_ii, sub_ii, neg_i, part_i, seq_t, seq_l, tup2, tup0, lst0, lst1, lstS0, tup_l, tup_t, len_t, len_l, u2_p, isi_tt, isi_ii, isi_bi, isi_ss, Bool.not_true, Bool.not_false, Bool.and_true, Bool.true_and, Bool.or_false, Bool.false_or]
      cases oq with
      | none =>
        simp only [Option.isNone_none, appL_lt (xs := a) (show a.length < 16777216 by omega), if_true, if_false, B_P, L_s, run0_P, mNone_P, ite_and, ite_or, ite_and', ite_or', ite_t, ite_f, boolD_b, lt_ii, le_ii, gt_ii, ge_ii, add_ii, sub_ii, neg_i, part_i, seq_t, seq_l, tup2, tup0, lst0, lst1, lstS0, tup_l, tup_t, len_t, len_l, u2_p, isi_tt, isi_ii, isi_bi, isi_ss, Bool.not_true, Bool.not_false, Bool.and_true, Bool.true_and, Bool.or_false, Bool.false_or]
        rfl
      | some p =>
        have hes : eS st = .tuple (eI st) := rfl
        simp only [Option.isNone_some, Bool.false_eq_true, eOI, hes, eI_len, add_ii, tup1, nines, add_tt (eI st) (eI (List.replicate 5 9)) (by rw [eI_len, eI_len, List.length_replicate]; omega), if_true, if_false, B_P, L_s, run0_P, mNone_P, ite_and, ite_or, ite_and', ite_or', ite_t, ite_f, boolD_b, lt_ii, le_ii, gt_ii, ge_ii, add_ii, sub_ii, neg_i, part_i, seq_t, seq_l, tup2, tup0, lst0, lst1, lstS0, tup_l, tup_t, len_t, len_l, u2_p, isi_tt, isi_ii, isi_bi, isi_ss, Bool.not_true, Bool.not_false, Bool.and_true, Bool.true_and, Bool.or_false, Bool.false_or]
        by_cases cc : p + (st.length : Int) < 4 + v2
        · simp only [decide_eq_true cc, appL_lt (xs := a) (show a.length < 16777216 by omega), if_true, if_false, B_P, L_s, run0_P, mNone_P, ite_and, ite_or, ite_and', ite_or', ite_t, ite_f, boolD_b, lt_ii, le_ii, gt_ii, ge_ii, add_ii, sub_ii, neg_i, part_i, seq_t, seq_l, tup2, tup0, lst0, lst1, lstS0, tup_l, tup_t, len_t, len_l, u2_p, isi_tt, isi_ii, isi_bi, isi_ss, Bool.not_true, Bool.not_false, Bool.and_true, Bool.true_and, Bool.or_false, Bool.false_or]
          show P _ = P (a ++ [eS (if p + st.length < 4 + v2 then st else _)])
          rw [if_pos cc]
          rfl
        · simp only [decide_eq_false cc, Bool.false_eq_true, appL_lt (xs := a) (show a.length < 16777216 by omega), if_true, if_false, B_P, L_s, run0_P, mNone_P, ite_and, ite_or, ite_and', ite_or', ite_t, ite_f, boolD_b, lt_ii, le_ii, gt_ii, ge_ii, add_ii, sub_ii, neg_i, part_i, seq_t, seq_l, tup2, tup0, lst0, lst1, lstS0, tup_l, tup_t, len_t, len_l, u2_p, isi_tt, isi_ii, isi_bi, isi_ss, Bool.not_true, Bool.not_false, Bool.and_true, Bool.true_and, Bool.or_false, Bool.false_or]
          show P _ = P (a ++ [eS (if p + st.length < 4 + v2 then st else st ++ List.replicate 5 9)])
          rw [if_neg cc]
          unfold eS eI
          rw [List.map_append]
end K22

set_option Elab.async false
set_option linter.all false
set_option maxRecDepth 100000
set_option maxHeartbeats 1000000
namespace K22
open PySem PySem.Spec PyProof.Rows L2 DL
/-! Spans: what covers, and how few. No program here. -/
abbrev Sp : Type := List (Int × Int)
def hs (sp : Sp) (i y : Int) : Bool := decide ((sp.getD i.toNat (0, 0)).1 ≤ y) && decide (y < (sp.getD i.toNat (0, 0)).2)
def cv (sp : Sp) (lot : List Int) (y : Int) : Nat := (lot.filter fun i => hs sp i y).length
def cnR (n : Nat) (f : Nat → Bool) : Nat := (List.range n).countP f
def cov (sp : Sp) (χ : Nat → Bool) (y : Int) : Nat := cnR sp.length fun k => χ k && hs sp k y
def ch (lot : List Int) (k : Nat) : Bool := decide ((k : Int) ∈ lot)
structure Lot (n : Nat) (lot : List Int) : Prop where
  nd : lot.Nodup
  lt : ∀ i ∈ lot, 0 ≤ i ∧ i < n
def up (f : Nat → Bool) (i : Nat) (b : Bool) : Nat → Bool := fun k => if k = i then b else f k
theorem cnR_succ (n : Nat) (f : Nat → Bool) : cnR (n + 1) f = cnR n f + (f n).toNat := by
  unfold cnR
  rw [List.range_succ, List.countP_append, List.countP_cons, List.countP_nil]
  cases f n <;> simp
theorem cnR_congr {f g : Nat → Bool} : ∀ {n : Nat}, (∀ k, k < n → f k = g k) → cnR n f = cnR n g
  | 0, _ => rfl
  | n + 1, h => by rw [cnR_succ, cnR_succ, h n (by omega), cnR_congr fun k hk => h k (by omega)]
theorem cnR_mono {f g : Nat → Bool} : ∀ {n : Nat}, (∀ k, k < n → f k = true → g k = true) → cnR n f ≤ cnR n g
  | 0, _ => Nat.le_refl _
  | n + 1, h => by
    rw [cnR_succ, cnR_succ]
    have ih := cnR_mono (n := n) fun k hk => h k (by omega)
    have hn := h n (by omega)
    cases hf : f n with
    | false =>
      rw [Bool.toNat_false]
      omega
    | true =>
      rw [hn hf]
      omega
theorem cnR_up {f : Nat → Bool} {i : Nat} {b : Bool} : ∀ {n : Nat}, i < n → cnR n (up f i b) + (f i).toNat = cnR n f + b.toNat
  | 0, h => absurd h (Nat.not_lt_zero _)
  | n + 1, h => by
    rw [cnR_succ, cnR_succ]
    by_cases c : i = n
    · subst c
      have e : up f i b i = b := if_pos rfl
      have e2 : cnR i (up f i b) = cnR i f := cnR_congr fun k hk => if_neg (by omega)
      rw [e, e2]
      omega
    · have e : up f i b n = f n := if_neg (by omega)
      have := cnR_up (f := f) (b := b) (show i < n by omega)
      rw [e]
      omega
theorem ch_cons {i : Int} (h : 0 ≤ i) (lot : List Int) : ch (i :: lot) = up (ch lot) i.toNat true := by
  funext k
  unfold ch up
  by_cases c : k = i.toNat
  · rw [if_pos c]
    have : (k : Int) = i := by omega
    simp [this]
  · rw [if_neg c]
    have : (k : Int) ≠ i := by omega
    simp [this]
theorem Lot.tail {n : Nat} {i : Int} {lot : List Int} (h : Lot n (i :: lot)) : Lot n lot ∧ i ∉ lot ∧ 0 ≤ i ∧ i < n :=
  ⟨⟨(List.nodup_cons.mp h.nd).2, fun x hx => h.lt x (List.mem_cons_of_mem _ hx)⟩, (List.nodup_cons.mp h.nd).1, h.lt i List.mem_cons_self⟩
theorem ch_self {i : Int} (h : 0 ≤ i) (lot : List Int) : ch lot i.toNat = decide (i ∈ lot) := by
  unfold ch
  rw [show ((i.toNat : Nat) : Int) = i by omega]
theorem size_ch {n : Nat} : ∀ {lot : List Int}, Lot n lot → cnR n (ch lot) = lot.length
  | [], _ => by
    have : ch [] = fun _ => false := by funext k; simp [ch]
    rw [this]
    unfold cnR
    simp
  | i :: lot, h => by
    obtain ⟨h1, h2, h3, h4⟩ := h.tail
    have c := cnR_up (f := ch lot) (i := i.toNat) (b := true) (n := n) (by omega)
    rw [ch_self h3, decide_eq_false h2, size_ch h1] at c
    rw [ch_cons h3, List.length_cons]
    exact c
theorem cv_cons (sp : Sp) (i : Int) (lot : List Int) (y : Int) : cv sp (i :: lot) y = cv sp lot y + (hs sp i y).toNat := by
  unfold cv
  rw [List.filter_cons]
  cases hs sp i y <;> rfl
theorem cov_ch {sp : Sp} {y : Int} : ∀ {lot : List Int}, Lot sp.length lot → cov sp (ch lot) y = cv sp lot y
  | [], _ => by
    have : (fun k => ch [] k && hs sp k y) = fun _ => false := by funext k; simp [ch]
    unfold cov
    rw [this]
    unfold cnR cv
    simp
  | i :: lot, h => by
    obtain ⟨h1, h2, h3, h4⟩ := h.tail
    have c := cnR_up (f := fun k => ch lot k && hs sp k y) (i := i.toNat) (b := hs sp i y) (n := sp.length) (by omega)
    have e0 : (ch lot i.toNat && hs sp (i.toNat : Nat) y) = false := by
      rw [ch_self h3, decide_eq_false h2]
      rfl
    have e1 : (fun k => ch (i :: lot) k && hs sp k y) = up (fun k => ch lot k && hs sp k y) i.toNat (hs sp i y) := by
      rw [ch_cons h3]
      funext k
      unfold up
      by_cases c : k = i.toNat
      · rw [if_pos c, if_pos c]
        have : (k : Int) = i := by omega
        rw [this]
        rfl
      · rw [if_neg c, if_neg c]
    have e2 := cov_ch (y := y) h1
    unfold cov at e2 ⊢
    rw [e1, cv_cons, ← e2]
    rw [e0] at c
    exact c
/-- each yard is covered m times -/
def Feas (L : Int) (sp : Sp) (m : Nat) (χ : Nat → Bool) : Prop := ∀ y, 0 ≤ y → y < L → m ≤ cov sp χ y
def size (sp : Sp) (χ : Nat → Bool) : Nat := cnR sp.length χ
theorem cov_mono {sp : Sp} {χ ψ : Nat → Bool} {y : Int} (h : ∀ k, k < sp.length → χ k = true → ψ k = true) : cov sp χ y ≤ cov sp ψ y := cnR_mono fun k hk e => by
  rw [Bool.and_eq_true] at e ⊢
  exact ⟨h k hk e.1, e.2⟩
theorem swap {L : Int} {sp : Sp} {m : Nat} {χ : Nat → Bool} {lot : List Int} {Y : Int} {i j : Nat} (hl : Lot sp.length lot) (hf : Feas L sp m χ) (hsub : ∀ k : Nat, (k : Int) ∈ lot → χ k = true) (hi : χ i = true) (hin : i < sp.length) (hil : (i : Int) ∉ lot) (hj : χ j = false) (hjn : j < sp.length)
    (hpre : ∀ y, 0 ≤ y → y < Y → m ≤ cv sp lot y) (hend : ∀ y, Y ≤ y → hs sp i y = true → hs sp j y = true) : Feas L sp m (up (up χ i false) j true) ∧ size sp (up (up χ i false) j true) = size sp χ ∧ ∀ k : Nat, (k : Int) ∈ lot → up (up χ i false) j true k = true := by
  have hji : j ≠ i := fun e => by subst e; rw [hi] at hj; cases hj
  have hsub' : ∀ k : Nat, (k : Int) ∈ lot → up (up χ i false) j true k = true := fun k hk => by
    unfold up
    by_cases c : k = j
    · rw [if_pos c]
    · rw [if_neg c, if_neg (fun e : k = i => hil (e ▸ hk))]
      exact hsub k hk
  refine ⟨fun y h0 h1 => ?_, ?_, hsub'⟩
  · by_cases c : y < Y
    · refine Nat.le_trans (hpre y h0 c) ?_
      rw [← cov_ch hl]
      exact cov_mono fun k _ hk => hsub' k (of_decide_eq_true hk)
    · refine Nat.le_trans (hf y h0 h1) ?_
      have e : (fun k : Nat => up (up χ i false) j true k && hs sp k y) = up (up (fun k : Nat => χ k && hs sp k y) i false) j (hs sp j y) := by
        funext k
        unfold up
        by_cases c1 : k = j
        · rw [if_pos c1, if_pos c1, c1]
          rfl
        · rw [if_neg c1, if_neg c1]
          by_cases c2 : k = i
          · rw [if_pos c2, if_pos c2]
            rfl
          · rw [if_neg c2, if_neg c2]
      have a := cnR_up (f := up (fun k : Nat => χ k && hs sp k y) i false) (i := j) (b := hs sp j y) hjn
      have b := cnR_up (f := fun k : Nat => χ k && hs sp k y) (i := i) (b := false) hin
      have e1 : up (fun k : Nat => χ k && hs sp k y) i false j = false := by
        unfold up
        rw [if_neg hji]
        show (χ j && _) = false
        rw [hj]
        rfl
      have e2 : (χ i && hs sp i y) = hs sp i y := by
        rw [hi]
        rfl
      rw [e1] at a
      rw [e2] at b
      unfold cov
      rw [e]
      have hh := hend y (by omega)
      cases q : hs sp i y with
      | false =>
        rw [q] at b
        simp only [Bool.toNat_false] at a b
        omega
      | true =>
        rw [q] at b
        rw [hh q] at a ⊢
        simp only [Bool.toNat_false, Bool.toNat_true] at a b
        omega
  · have a := cnR_up (f := up χ i false) (i := j) (b := true) hjn
    have b := cnR_up (f := χ) (i := i) (b := false) hin
    have e1 : up χ i false j = false := by
      unfold up
      rw [if_neg hji, hj]
    rw [e1] at a
    rw [hi] at b
    unfold size
    simp only [Bool.toNat_false, Bool.toNat_true] at a b
    omega
/-- the greedy lot so far -/
structure Gr (L : Int) (sp : Sp) (m : Nat) (Y : Int) (lot : List Int) : Prop where
  ok : Lot sp.length lot
  pre : ∀ y, 0 ≤ y → y < Y → m ≤ cv sp lot y
  ex : ∀ χ, Feas L sp m χ → ∃ ψ, Feas L sp m ψ ∧ size sp ψ ≤ size sp χ ∧ ∀ k : Nat, (k : Int) ∈ lot → ψ k = true
theorem Gr.nil {L : Int} {sp : Sp} {m : Nat} : Gr L sp m 0 [] := ⟨⟨.nil, fun i hi => (by cases hi)⟩, fun y h0 h1 => by omega, fun χ h => ⟨χ, h, Nat.le_refl _, fun k hk => (by cases hk)⟩⟩
theorem Gr.next {L : Int} {sp : Sp} {m : Nat} {Y : Int} {lot : List Int} (h : Gr L sp m Y lot) (hY : m ≤ cv sp lot Y) : Gr L sp m (Y + 1) lot :=
  ⟨h.ok, fun y h0 h1 => by
    by_cases c : y < Y
    · exact h.pre y h0 c
    · rw [show y = Y by omega]
      exact hY, h.ex⟩
theorem Lot.snoc {n : Nat} {lot : List Int} {i : Int} (h : Lot n lot) (hi : i ∉ lot) (h0 : 0 ≤ i) (h1 : i < n) : Lot n (lot ++ [i]) := by
  refine ⟨?_, fun x hx => ?_⟩
  · refine List.nodup_append.mpr ⟨h.nd, by simp, fun a ha b hb e => ?_⟩
    rw [List.mem_singleton.mp hb] at e
    exact hi (e ▸ ha)
  · rcases List.mem_append.mp hx with z | z
    · exact h.lt x z
    · rw [List.mem_singleton.mp z]
      exact ⟨h0, h1⟩
theorem Lot.perm {n : Nat} {l1 l2 : List Int} (h : Lot n l1) (p : l2.Perm l1) : Lot n l2 := ⟨p.nodup_iff.mpr h.nd, fun x hx => h.lt x (p.mem_iff.mp hx)⟩
theorem cv_app (sp : Sp) (a b : List Int) (y : Int) : cv sp (a ++ b) y = cv sp a y + cv sp b y := by simp [cv]
theorem cv_perm {sp : Sp} {a b : List Int} (p : a.Perm b) (y : Int) : cv sp a y = cv sp b y := (p.filter _).length_eq
theorem Gr.add {L : Int} {sp : Sp} {m : Nat} {Y j : Int} {lot : List Int} (h : Gr L sp m Y lot) (h0 : 0 ≤ Y) (hL : Y < L) (hc : cv sp lot Y < m) (hj : j ∉ lot) (j0 : 0 ≤ j) (j1 : j < sp.length) (hj2 : hs sp j Y = true)
    (hbest : ∀ i : Int, 0 ≤ i → i < sp.length → i ∉ lot → hs sp i Y = true → (sp.getD i.toNat (0, 0)).2 ≤ (sp.getD j.toNat (0, 0)).2) : Gr L sp m Y (lot ++ [j]) := by
  refine ⟨h.ok.snoc hj j0 j1, fun y a b => ?_, fun χ hχ => ?_⟩
  · have := h.pre y a b
    rw [cv_app]
    omega
  · obtain ⟨ψ, f1, f2, f3⟩ := h.ex χ hχ
    by_cases c : ψ j.toNat = true
    · refine ⟨ψ, f1, f2, fun k hk => ?_⟩
      rcases List.mem_append.mp hk with z | z
      · exact f3 k z
      · have : k = j.toNat := by have := List.mem_singleton.mp z; omega
        exact this ▸ c
    · have hex : ∃ i : Nat, i < sp.length ∧ ψ i = true ∧ (i : Int) ∉ lot ∧ hs sp i Y = true := by
        apply Classical.byContradiction
        intro hn
        have h1 := f1 Y h0 hL
        have h2 : cov sp ψ Y ≤ cov sp (ch lot) Y := cnR_mono fun k hk e => by
          rw [Bool.and_eq_true] at e ⊢
          refine ⟨?_, e.2⟩
          apply Classical.byContradiction
          intro hk2
          refine hn ⟨k, hk, e.1, fun hm => hk2 (decide_eq_true hm), e.2⟩
        rw [cov_ch h.ok] at h2
        omega
      obtain ⟨i, i1, i2, i3, i4⟩ := hex
      have hb := hbest i (by omega) (by omega) i3 i4
      have sw := swap (i := i) (j := j.toNat) (Y := Y) h.ok f1 f3 i2 i1 i3 (by simpa using c) (by omega) h.pre fun y hy hiy => by
        unfold hs at hiy hj2 ⊢
        simp only [Bool.and_eq_true, decide_eq_true_eq] at hiy hj2 ⊢
        rw [show (((j.toNat : Nat) : Int)).toNat = j.toNat by omega]
        exact ⟨by omega, by omega⟩
      refine ⟨_, sw.1, by rw [sw.2.1]; exact f2, fun k hk => ?_⟩
      rcases List.mem_append.mp hk with z | z
      · exact sw.2.2 k z
      · have : k = j.toNat := by have := List.mem_singleton.mp z; omega
        unfold up
        rw [if_pos this]
theorem cnR_sub {f g : Nat → Bool} {n : Nat} {lot : List Int} (h : Lot n lot) (k : ∀ k : Nat, (k : Int) ∈ lot → g k = true) : lot.length ≤ cnR n g := by
  rw [← size_ch h]
  exact cnR_mono fun i _ hi => k i (of_decide_eq_true hi)
theorem Gr.least {L : Int} {sp : Sp} {m : Nat} {Y : Int} {lot : List Int} (h : Gr L sp m Y lot) {χ : Nat → Bool} (hχ : Feas L sp m χ) : lot.length ≤ size sp χ := by
  obtain ⟨ψ, f1, f2, f3⟩ := h.ex χ hχ
  exact Nat.le_trans (cnR_sub (f := χ) h.ok f3) f2
/-- what cover says -/
inductive CovR (L : Int) (sp : Sp) (m : Nat) : Int ⊕ List Int → Prop
  | never {y : Int} (h0 : 0 ≤ y) (h1 : y < L) (h2 : cov sp (fun _ => true) y < m) : CovR L sp m (.inl y)
  | cover {lot : List Int} (hl : Lot sp.length lot) (asc : lot.Pairwise (· < ·)) (hf : ∀ y, 0 ≤ y → y < L → m ≤ cv sp lot y) (hm : ∀ χ, Feas L sp m χ → lot.length ≤ size sp χ) : CovR L sp m (.inr lot)
theorem feas_ch {L : Int} {sp : Sp} {m : Nat} {lot : List Int} (hl : Lot sp.length lot) (hf : ∀ y, 0 ≤ y → y < L → m ≤ cv sp lot y) : Feas L sp m (ch lot) := fun y h0 h1 => by
  rw [cov_ch hl]
  exact hf y h0 h1
theorem never_feas {L : Int} {sp : Sp} {m : Nat} {y : Int} (h0 : 0 ≤ y) (h1 : y < L) (h2 : cov sp (fun _ => true) y < m) {χ : Nat → Bool} : ¬ Feas L sp m χ := fun h => by
  have := h y h0 h1
  have := cov_mono (sp := sp) (χ := χ) (ψ := fun _ => true) (y := y) fun _ _ _ => rfl
  omega
/-! ### the mirrored spans -/
def back (L : Int) (sp : Sp) : Sp := sp.map fun p => (L - p.2, L - p.1)
theorem back_hs {L : Int} {sp : Sp} {i : Nat} {y : Int} (h : i < sp.length) : hs (back L sp) i y = hs sp i (L - 1 - y) := by
  unfold hs back
  rw [List.getD_eq_getElem?_getD, List.getD_eq_getElem?_getD, List.getElem?_map, List.getElem?_eq_getElem (by omega), Option.map_some, Option.getD_some, Option.getD_some, Bool.eq_iff_iff]
  simp only [Bool.and_eq_true, decide_eq_true_eq]
  omega
theorem back_cov {L : Int} {sp : Sp} {χ : Nat → Bool} {y : Int} : cov (back L sp) χ y = cov sp χ (L - 1 - y) := by
  unfold cov
  rw [show (back L sp).length = sp.length by simp [back]]
  exact cnR_congr fun k hk => by rw [back_hs hk]
theorem back_feas {L : Int} {sp : Sp} {m : Nat} {χ : Nat → Bool} : Feas L (back L sp) m χ ↔ Feas L sp m χ := by
  constructor
  · intro h y h0 h1
    have := h (L - 1 - y) (by omega) (by omega)
    rwa [back_cov, show L - 1 - (L - 1 - y) = y by omega] at this
  · intro h y h0 h1
    rw [back_cov]
    exact h _ (by omega) (by omega)
theorem back_size {L : Int} {sp : Sp} {χ : Nat → Bool} : size (back L sp) χ = size sp χ := by
  unfold size
  rw [show (back L sp).length = sp.length by simp [back]]
/-! ### more spans -/
def cutC (n : Nat) (χ : Nat → Bool) : Nat → Bool := fun k => decide (k < n) && χ k
theorem cnR_cut {n : Nat} {f : Nat → Bool} : ∀ e, cnR (n + e) (fun k => decide (k < n) && f k) = cnR n f
  | 0 => cnR_congr fun k hk => by rw [decide_eq_true (by omega), Bool.true_and]
  | e + 1 => by
    rw [show n + (e + 1) = (n + e) + 1 by omega, cnR_succ, cnR_cut e, decide_eq_false (by omega)]
    rfl
theorem more_hs {sp sq : Sp} {k : Nat} {y : Int} (h : k < sp.length) : hs (sp ++ sq) k y = hs sp k y := by
  unfold hs
  rw [List.getD_eq_getElem?_getD, List.getD_eq_getElem?_getD, List.getElem?_append_left (by omega)]
theorem more_feas {L : Int} {sp sq : Sp} {m : Nat} {χ : Nat → Bool} (h : Feas L sp m χ) : Feas L (sp ++ sq) m (cutC sp.length χ) := fun y h0 h1 => by
  refine Nat.le_trans (h y h0 h1) (Nat.le_of_eq ?_)
  unfold cov
  rw [List.length_append, ← cnR_cut (n := sp.length) (f := fun k => χ k && hs sp k y) sq.length]
  refine cnR_congr fun k hk => ?_
  unfold cutC
  by_cases c : k < sp.length
  · rw [more_hs c, Bool.and_assoc]
  · rw [decide_eq_false c]
    rfl
theorem more_size {sp sq : Sp} {χ : Nat → Bool} : size (sp ++ sq) (cutC sp.length χ) = size sp χ := by
  unfold size
  rw [List.length_append]
  exact cnR_cut sq.length
/-! ### one fewer -/
theorem feas_less {L : Int} {sp : Sp} {m : Nat} {i : Int} {lot : List Int} (h : Lot sp.length (i :: lot)) (hf : ∀ y, 0 ≤ y → y < L → m + 1 ≤ cv sp (i :: lot) y) : Feas L sp m (ch lot) ∧ size sp (ch lot) = lot.length := by
  obtain ⟨h1, h2, h3, h4⟩ := h.tail
  refine ⟨feas_ch h1 fun y h0 hy => ?_, size_ch h1⟩
  have := hf y h0 hy
  rw [cv_cons] at this
  have : (hs sp i y).toNat ≤ 1 := Bool.toNat_le _
  omega
theorem feas_mono {L : Int} {sp : Sp} {m k : Nat} {χ : Nat → Bool} (h : Feas L sp m χ) (hk : k ≤ m) : Feas L sp k χ := fun y h0 h1 => Nat.le_trans hk (h y h0 h1)
/-! ### yards that lie apart -/
theorem apart_count {sp : Sp} {yds : List Int} (hp : ∀ i : Int, (yds.filter fun y => hs sp i y).length ≤ 1) : ∀ lot : List Int, (yds.map fun y => cv sp lot y).sum ≤ lot.length
  | [] => by
    have : (yds.map fun y => cv sp [] y) = yds.map fun _ => 0 := rfl
    rw [this, List.map_const', List.sum_replicate_nat]
    simp
  | i :: lot => by
    have ih := apart_count hp lot
    have e : ∀ ys : List Int, (ys.map fun y => cv sp (i :: lot) y).sum = (ys.map fun y => cv sp lot y).sum + (ys.filter fun y => hs sp i y).length := fun ys => by
      induction ys with
      | nil => rfl
      | cons y ys ih =>
        rw [List.map_cons, List.map_cons, List.sum_cons, List.sum_cons, ih, cv_cons, List.filter_cons]
        cases hs sp i y
        · simp only [Bool.toNat_false, Bool.false_eq_true, if_false]
          omega
        · simp only [Bool.toNat_true, if_true, List.length_cons]
          omega
    rw [e, List.length_cons]
    have := hp i
    omega
theorem apart_le {sp : Sp} {yds lot : List Int} {m : Nat} (hp : ∀ i : Int, (yds.filter fun y => hs sp i y).length ≤ 1) (hm : ∀ y ∈ yds, m ≤ cv sp lot y) : m * yds.length ≤ lot.length := by
  refine Nat.le_trans ?_ (apart_count hp lot)
  clear hp
  induction yds with
  | nil => simp
  | cons y ys ih =>
    rw [List.length_cons, List.map_cons, List.sum_cons, Nat.mul_succ]
    have := hm y List.mem_cons_self
    have := ih fun z hz => hm z (List.mem_cons_of_mem _ hz)
    omega
end K22

set_option Elab.async false
set_option linter.all false
set_option maxRecDepth 100000
set_option maxHeartbeats 1000000
namespace K22
open PySem PySem.Spec PyProof.Rows L2 DL
structure VSp (L : Int) (sp : Sp) : Prop where
  L1 : 1 ≤ L
  L2 : L ≤ 200
  len : sp.length ≤ 60
  at_ : ∀ p ∈ sp, 0 ≤ p.1 ∧ p.1 < p.2 ∧ p.2 ≤ L
def eSp (sp : Sp) : D := .tuple (sp.map eP)
theorem check_e {L m : Int} {sp : Sp} (h : VSp L sp) (m1 : 1 ≤ m) (m2 : m ≤ 8) : m_check_spans [.int L, eSp sp, .int m] = some .none := by
  have L1 := h.L1
  have L2 := h.L2
  have hl := h.len
  have e : m_is_spans [.int L, eSp sp] = some (.bool true) := by
    show run0 (b_is_spans _ _) = _
    unfold b_is_spans eSp
    have e1 : (decide ((0 : Int) ≤ ((sp.map eP).length : Int)) && decide (((sp.map eP).length : Int) ≤ 60)) = true := by
      rw [List.length_map]
      simp
      omega
    have ll : ∀ p : Int × Int → Bool, (sp.map fun x => PyData.bool (p x)).length ≤ 16777216 := fun p => by rw [List.length_map]; omega
    simp only [is_tuple_e, e1, if_true, if_false, B_P, L_s, run0_P, mNone_P, ite_and, ite_or, ite_and', ite_or', ite_t, ite_f, boolD_b, lt_ii, le_ii, gt_ii, ge_ii, add_ii, sub_ii, neg_i, part_i, seq_t, seq_l, tup2, tup0, lst0, lst1, lstS0, tup_l, tup_t, len_t, len_l, u2_p, isi_tt, isi_ii, isi_bi, isi_ss, Bool.not_true, Bool.not_false, Bool.and_true, Bool.true_and, Bool.or_false, Bool.false_or]
    rw [cmp_map (g := fun p : Int × Int => .bool ((fun _ => true) p)) fun p _ => by
      unfold eP
      simp only [is_tuple_e, List.length_cons, List.length_nil, if_true, if_false, B_P, L_s, run0_P, mNone_P, ite_and, ite_or, ite_and', ite_or', ite_t, ite_f, boolD_b, lt_ii, le_ii, gt_ii, ge_ii, add_ii, sub_ii, neg_i, part_i, seq_t, seq_l, tup2, tup0, lst0, lst1, lstS0, tup_l, tup_t, len_t, len_l, u2_p, isi_tt, isi_ii, isi_bi, isi_ss, Bool.not_true, Bool.not_false, Bool.and_true, Bool.true_and, Bool.or_false, Bool.false_or]
      rfl]
    simp only [lstD_le (ll _), all_bools, show (sp.all fun _ => true) = true from List.all_eq_true.mpr fun _ _ => rfl, Bool.false_eq_true, if_true, if_false, B_P, L_s, run0_P, mNone_P, ite_and, ite_or, ite_and', ite_or', ite_t, ite_f, boolD_b, lt_ii, le_ii, gt_ii, ge_ii, add_ii, sub_ii, neg_i, part_i, seq_t, seq_l, tup2, tup0, lst0, lst1, lstS0, tup_l, tup_t, len_t, len_l, u2_p, isi_tt, isi_ii, isi_bi, isi_ss, Bool.not_true, Bool.not_false, Bool.and_true, Bool.true_and, Bool.or_false, Bool.false_or]
    rw [cmp_map (g := fun p : Int × Int => .bool (decide (0 ≤ p.1) && decide (p.1 ≤ L - 1))) fun p _ => by
      unfold eP
      simp only [is_integer_e, if_true, if_false, B_P, L_s, run0_P, mNone_P, ite_and, ite_or, ite_and', ite_or', ite_t, ite_f, boolD_b, lt_ii, le_ii, gt_ii, ge_ii, add_ii, sub_ii, neg_i, part_i, seq_t, seq_l, tup2, tup0, lst0, lst1, lstS0, tup_l, tup_t, len_t, len_l, u2_p, isi_tt, isi_ii, isi_bi, isi_ss, Bool.not_true, Bool.not_false, Bool.and_true, Bool.true_and, Bool.or_false, Bool.false_or]]
    have a1 : (sp.all fun p => decide (0 ≤ p.1) && decide (p.1 ≤ L - 1)) = true := List.all_eq_true.mpr fun p hp => by
      have := h.at_ p hp
      simp only [Bool.and_eq_true, decide_eq_true_eq]
      omega
    simp only [lstD_le (ll _), all_bools, a1, Bool.false_eq_true, if_true, if_false, B_P, L_s, run0_P, mNone_P, ite_and, ite_or, ite_and', ite_or', ite_t, ite_f, boolD_b, lt_ii, le_ii, gt_ii, ge_ii, add_ii, sub_ii, neg_i, part_i, seq_t, seq_l, tup2, tup0, lst0, lst1, lstS0, tup_l, tup_t, len_t, len_l, u2_p, isi_tt, isi_ii, isi_bi, isi_ss, Bool.not_true, Bool.not_false, Bool.and_true, Bool.true_and, Bool.or_false, Bool.false_or]
    rw [cmp_map (g := fun p : Int × Int => .bool (decide (p.1 + 1 ≤ p.2) && decide (p.2 ≤ L))) fun p _ => by
      unfold eP
      simp only [is_integer_e, if_true, if_false, B_P, L_s, run0_P, mNone_P, ite_and, ite_or, ite_and', ite_or', ite_t, ite_f, boolD_b, lt_ii, le_ii, gt_ii, ge_ii, add_ii, sub_ii, neg_i, part_i, seq_t, seq_l, tup2, tup0, lst0, lst1, lstS0, tup_l, tup_t, len_t, len_l, u2_p, isi_tt, isi_ii, isi_bi, isi_ss, Bool.not_true, Bool.not_false, Bool.and_true, Bool.true_and, Bool.or_false, Bool.false_or]]
    have a2 : (sp.all fun p => decide (p.1 + 1 ≤ p.2) && decide (p.2 ≤ L)) = true := List.all_eq_true.mpr fun p hp => by
      have := h.at_ p hp
      simp only [Bool.and_eq_true, decide_eq_true_eq]
      omega
    simp only [lstD_le (ll _), all_bools, a2, if_true, if_false, B_P, L_s, run0_P, mNone_P, ite_and, ite_or, ite_and', ite_or', ite_t, ite_f, boolD_b, lt_ii, le_ii, gt_ii, ge_ii, add_ii, sub_ii, neg_i, part_i, seq_t, seq_l, tup2, tup0, lst0, lst1, lstS0, tup_l, tup_t, len_t, len_l, u2_p, isi_tt, isi_ii, isi_bi, isi_ss, Bool.not_true, Bool.not_false, Bool.and_true, Bool.true_and, Bool.or_false, Bool.false_or]
  show mNone (b_check_spans _ _ _) = _
  unfold b_check_spans
  simp only [is_integer_e, decide_eq_true L1, decide_eq_true L2, e, decide_eq_true m1, decide_eq_true m2, Bool.false_eq_true, if_true, if_false, B_P, L_s, run0_P, mNone_P, ite_and, ite_or, ite_and', ite_or', ite_t, ite_f, boolD_b, lt_ii, le_ii, gt_ii, ge_ii, add_ii, sub_ii, neg_i, part_i, seq_t, seq_l, tup2, tup0, lst0, lst1, lstS0, tup_l, tup_t, len_t, len_l, u2_p, isi_tt, isi_ii, isi_bi, isi_ss, Bool.not_true, Bool.not_false, Bool.and_true, Bool.true_and, Bool.or_false, Bool.false_or]
theorem ix_sp {sp : Sp} {i : Int} (h0 : 0 ≤ i) (h1 : i < sp.length) : ixD (eSp sp) (.int i) = some (eP (sp.getD i.toNat (0, 0))) := by
  refine (ix_nat (xs := sp.map eP) h0 (by rw [List.length_map]; exact h1) ?_).1
  rw [List.getElem?_map, List.getD_eq_getElem?_getD, List.getElem?_eq_getElem (by omega)]
  rfl
theorem ixP0 (p : Int × Int) : ixD (eP p) (.int 0) = some (.int p.1) := rfl
theorem ixP1 (p : Int × Int) : ixD (eP p) (.int 1) = some (.int p.2) := rfl
theorem covered_e {sp : Sp} {xs : List Int} {d : D} {y : Int} (hd : seqD d = some (eI xs)) (hx : ∀ i ∈ xs, 0 ≤ i ∧ i < sp.length) (hl : xs.length ≤ 1000) : m_covered [eSp sp, d, .int y] = some (.int (cv sp xs y)) := by
  show run0 (b_covered _ _ _) = _
  unfold b_covered
  simp only [hd, if_true, if_false, B_P, L_s, run0_P, mNone_P, ite_and, ite_or, ite_and', ite_or', ite_t, ite_f, boolD_b, lt_ii, le_ii, gt_ii, ge_ii, add_ii, sub_ii, neg_i, part_i, seq_t, seq_l, tup2, tup0, lst0, lst1, lstS0, tup_l, tup_t, len_t, len_l, u2_p, isi_tt, isi_ii, isi_bi, isi_ss, Bool.not_true, Bool.not_false, Bool.and_true, Bool.true_and, Bool.or_false, Bool.false_or]
  rw [show eI xs = xs.map PyData.int from rfl, cmp_filter (p := fun i => hs sp i y) (g := PyData.int) fun i hi => by
    simp only [ix_sp (hx i hi).1 (hx i hi).2, ixP0, ixP1, if_true, if_false, B_P, L_s, run0_P, mNone_P, ite_and, ite_or, ite_and', ite_or', ite_t, ite_f, boolD_b, lt_ii, le_ii, gt_ii, ge_ii, add_ii, sub_ii, neg_i, part_i, seq_t, seq_l, tup2, tup0, lst0, lst1, lstS0, tup_l, tup_t, len_t, len_l, u2_p, isi_tt, isi_ii, isi_bi, isi_ss, Bool.not_true, Bool.not_false, Bool.and_true, Bool.true_and, Bool.or_false, Bool.false_or]
    rfl]
  have hf : (xs.filter fun i => hs sp i y).length ≤ xs.length := List.length_filter_le _ _
  simp only [lstD_le (show ((xs.filter fun i => hs sp i y).map PyData.int).length ≤ 16777216 by rw [List.length_map]; omega), List.length_map, if_true, if_false, B_P, L_s, run0_P, mNone_P, ite_and, ite_or, ite_and', ite_or', ite_t, ite_f, boolD_b, lt_ii, le_ii, gt_ii, ge_ii, add_ii, sub_ii, neg_i, part_i, seq_t, seq_l, tup2, tup0, lst0, lst1, lstS0, tup_l, tup_t, len_t, len_l, u2_p, isi_tt, isi_ii, isi_bi, isi_ss, Bool.not_true, Bool.not_false, Bool.and_true, Bool.true_and, Bool.or_false, Bool.false_or]
  rfl
theorem len_sp (sp : Sp) : lenD [eSp sp] = some (.int sp.length) := by
  show some (PyData.int ((sp.map eP).length : Nat)) = _
  rw [List.length_map]
theorem fl_i (i : Int) : flatO (some (.int i)) = some (.int i) := rfl
theorem in_lI (k : Int) (xs : List Int) : inB (.int k) (.list (eI xs)) = some (decide (k ∈ xs)) := by
  have p : PyData.plainAll (eI xs) = true := PySem.W.plainAll_map xs
  have d : PyData.depthAll (eI xs) ≤ 40 := Nat.le_trans (PySem.W.depthAll_map xs) (by decide)
  have o : okD (.int k) = true := okD_dat k (by decide)
  show (if memOk (.int k) (eI xs) = true then some ((eI xs).any fun y => PyData.eqv y (.int k)) else none) = _
  rw [if_pos (by unfold memOk; rw [o, p, decide_eq_true d]; rfl)]
  exact congrArg some (PySem.W.any_datum xs k)
theorem eq_nilI (xs : List Int) : eqB (.list (eI xs)) (.list []) = some (decide (xs = [])) := eq_dat xs [] (by decide)
theorem min_pairs {d : D} {x : Int × Int} {xs : List (Int × Int)} (hs : seqD d = some ((x :: xs).map eP)) : minL [d] = some (eP (PySem.W.minOf x xs)) := by
  show (seqD d).bind (mmD PySem.W.minD) = _
  rw [hs]
  show (if mmOk ((x :: xs).map eP) then some (PySem.W.minD (eP x) (xs.map eP)) else none) = _
  rw [if_pos (show mmOk ((x :: xs).map eP) = true from mm_dat (α := Int × Int) (x :: xs) (by decide))]
  exact congrArg some (PySem.W.minD_map x xs)
theorem minOf_mem (x : Int × Int) (xs : List (Int × Int)) : PySem.W.minOf x xs ∈ x :: xs := by
  unfold PySem.W.minOf
  induction xs generalizing x with
  | nil => simp
  | cons y ys ih =>
    rw [List.foldl_cons]
    split
    · exact List.mem_cons_of_mem _ (ih y)
    · rcases List.mem_cons.mp (ih x) with e | e
      · rw [e]; exact List.mem_cons_self
      · exact List.mem_cons_of_mem _ (List.mem_cons_of_mem _ e)
/-- the first of the pair is the least there is -/
theorem minOf_le (x : Int × Int) (xs : List (Int × Int)) : ∀ y ∈ x :: xs, (PySem.W.minOf x xs).1 ≤ y.1 := by
  unfold PySem.W.minOf
  induction xs generalizing x with
  | nil =>
    intro y hy
    rw [List.mem_singleton.mp hy]
    exact Int.le_refl _
  | cons z zs ih =>
    intro y hy
    rw [List.foldl_cons]
    have key : ∀ w : Int × Int, (zs.foldl (fun a y => if PySem.W.DatumOrd.lt y a = true then y else a) w).1 ≤ w.1 := fun w => ih w w List.mem_cons_self
    split
    · rename_i c
      have c := (lt_ltP z x).mp c
      unfold DL.ltP at c
      rcases List.mem_cons.mp hy with e | hy
      · have := key z
        rw [e]
        omega
      · exact ih z y hy
    · rename_i c
      have c : ¬ DL.ltP z x := fun q => c ((lt_ltP z x).mpr q)
      unfold DL.ltP at c
      rcases List.mem_cons.mp hy with e | hy
      · rw [e]
        exact key x
      · rcases List.mem_cons.mp hy with e | hy
        · have := key x
          rw [e]
          omega
        · exact ih x y (List.mem_cons_of_mem _ hy)
theorem foldF_inv {S ι α : Type} {emb : ι → α} {f : α → D → M S (Fl α)} {I : Nat → ι → Prop} {Q : Fl α → Prop} : ∀ (ds : List D) (n : Nat) (i : ι), I n i → (∀ k d i, ds[k]? = some d → I (n + k) i → (∃ r, f (emb i) d = P (.rt r) ∧ Q (.rt r)) ∨ (∃ j, f (emb i) d = P (.nx (emb j)) ∧ I (n + k + 1) j)) → (∀ i, I (n + ds.length) i → Q (.nx (emb i))) → ∃ r, foldF ds (emb i) f = P r ∧ Q r
  | [], n, i, hi, _, he => ⟨.nx (emb i), rfl, he i hi⟩
  | d :: ds, n, i, hi, hs, he => by
    rcases hs 0 d i rfl hi with ⟨r, e, q⟩ | ⟨j, e, hj⟩
    · exact ⟨.rt r, foldF_rt e, q⟩
    · obtain ⟨r, e2, q⟩ := foldF_inv (Q := Q) ds (n + 1) j hj (fun k d i hd hi => by
        have := hs (k + 1) d i hd (by rw [show n + (k + 1) = n + 1 + k by omega]; exact hi)
        rwa [show n + (k + 1) + 1 = n + 1 + k + 1 by omega] at this) fun i hi => he i (by rw [List.length_cons, show n + (ds.length + 1) = n + 1 + ds.length by omega]; exact hi)
      exact ⟨r, (foldF_cons e).trans e2, q⟩
theorem fold_then {S ι α β : Type} {emb : ι → α} {f : α → D → M S (Fl α)} {I : Nat → ι → Prop} {Q : Fl α → Prop} {ds : List D} {a : α} {i : ι} {k : Fl α → M S β} {R : M S β → Prop} (ha : a = emb i) (hi : I 0 i) (hk : ∀ r, Q r → R (k r)) (hs : ∀ k d i, ds[k]? = some d → I k i → (∃ r, f (emb i) d = P (.rt r) ∧ Q (.rt r)) ∨ (∃ j, f (emb i) d = P (.nx (emb j)) ∧ I (k + 1) j)) (he : ∀ i, I ds.length i → Q (.nx (emb i))) : R (B (foldF ds a f) k) := by
  subst ha
  obtain ⟨r, e, q⟩ := foldF_inv (I := I) (Q := Q) ds 0 i hi (fun k d i hd hI => by
    rw [Nat.zero_add] at hI ⊢
    exact hs k d i hd hI) fun i hI => he i (by rwa [Nat.zero_add] at hI)
  rw [e, B_P]
  exact hk r q
def eCov : Int ⊕ List Int → D
  | .inl y => .tuple [.str "never", .int y]
  | .inr lot => .tuple [.str "cover", .tuple (eI lot)]
theorem Lot.len {n : Nat} {lot : List Int} (h : Lot n lot) : lot.length ≤ n := by
  rw [← size_ch h]
  unfold cnR
  refine Nat.le_trans (List.countP_le_length) ?_
  rw [List.length_range]
  exact Nat.le_refl _
theorem sortI_perm (xs : List Int) : (sortI xs).Perm xs := List.mergeSort_perm _ _
theorem sortI_asc {xs : List Int} (h : xs.Nodup) : (sortI xs).Pairwise (· < ·) := by
  have p : (sortI xs).Pairwise fun a b => decide (a ≤ b) = true := List.pairwise_mergeSort (fun a b c h1 h2 => by
    simp only [decide_eq_true_eq] at *
    omega) (fun a b => by
    simp only [Bool.or_eq_true, decide_eq_true_eq]
    omega) xs
  have nd : (sortI xs).Nodup := (sortI_perm xs).nodup_iff.mpr h
  exact (List.pairwise_and_iff.mpr ⟨p, nd⟩).imp fun {a b} h => by
    have h1 := of_decide_eq_true h.1
    have h2 := h.2
    omega
theorem cover_e {L : Int} {sp : Sp} {m : Nat} (h : VSp L sp) (m1 : 1 ≤ m) (m2 : m ≤ 8) : ∃ o, m_cover [.int L, eSp sp, .int m] = some (eCov o) ∧ CovR L sp m o := by
  have L1 := h.L1
  have L2 := h.L2
  have hl := h.len
  suffices hh : ∃ o, run0 (b_cover (.int L) (eSp sp) (.int m)) = some (eCov o) ∧ CovR L sp m o from hh
  unfold b_cover
  simp only [check_e h (show (1 : Int) ≤ m by omega) (show (m : Int) ≤ 8 by omega), range1_e (b := L) (by omega), if_true, if_false, B_P, L_s, run0_P, mNone_P, ite_and, ite_or, ite_and', ite_or', ite_t, ite_f, boolD_b, lt_ii, le_ii, gt_ii, ge_ii, add_ii, sub_ii, neg_i, part_i, seq_t, seq_l, tup2, tup0, lst0, lst1, lstS0, tup_l, tup_t, len_t, len_l, u2_p, isi_tt, isi_ii, isi_bi, isi_ss, Bool.not_true, Bool.not_false, Bool.and_true, Bool.true_and, Bool.or_false, Bool.false_or]
  refine fold_then (emb := eI) (I := fun k lot => Gr L sp m (k : Int) lot) (Q := fun r => (∃ y, r = .rt (eCov (.inl y)) ∧ CovR L sp m (.inl y)) ∨ ∃ lot, r = .nx (eI lot) ∧ Gr L sp m L lot) (R := fun mm => ∃ o, run0 mm = some (eCov o) ∧ CovR L sp m o) (i := []) rfl Gr.nil (fun r q => ?_) (fun k d lot hd hI => ?_) fun lot hI => ?_
  · rcases q with ⟨y, rfl, c⟩ | ⟨lot, rfl, g⟩
    · exact ⟨.inl y, rfl, c⟩
    · refine ⟨.inr (sortI lot), ?_, .cover (g.ok.perm (sortI_perm lot)) (sortI_asc g.ok.nd) (fun y h0 h1 => ?_) fun χ hχ => ?_⟩
      · simp only [kF_nx, sorted_e, if_true, if_false, B_P, L_s, run0_P, mNone_P, ite_and, ite_or, ite_and', ite_or', ite_t, ite_f, boolD_b, lt_ii, le_ii, gt_ii, ge_ii, add_ii, sub_ii, neg_i, part_i, seq_t, seq_l, tup2, tup0, lst0, lst1, lstS0, tup_l, tup_t, len_t, len_l, u2_p, isi_tt, isi_ii, isi_bi, isi_ss, Bool.not_true, Bool.not_false, Bool.and_true, Bool.true_and, Bool.or_false, Bool.false_or]
        rfl
      · rw [cv_perm (sortI_perm lot)]
        exact g.pre y h0 h1
      · rw [(sortI_perm lot).length_eq]
        exact g.least hχ
  · obtain ⟨rfl, hk⟩ := yards_at (e := PyData.int) hd
    rw [Int.zero_add]
    have hkL : (k : Int) < L := by omega
    refine while_then (emb := eI) (I := fun lot => Gr L sp m (k : Int) lot) (W := fun lot => sp.length - lot.length) (go := fun lot => decide (cv sp lot k < m))
      (Q := fun r => (∃ y, r = Fl.rt (eCov (.inl y)) ∧ CovR L sp m (.inl y)) ∨ ∃ lot, r = Fl.nx (eI lot) ∧ Gr L sp m ((k + 1 : Nat) : Int) lot)
      (R := fun mm => (∃ r, mm = P (Fl.rt r) ∧ ((∃ y, (Fl.rt r : Fl (List D)) = Fl.rt (eCov (.inl y)) ∧ CovR L sp m (.inl y)) ∨ ∃ lot, (Fl.rt r : Fl (List D)) = Fl.nx (eI lot) ∧ Gr L sp m L lot)) ∨ ∃ j, mm = P (Fl.nx (eI j)) ∧ Gr L sp m ((k + 1 : Nat) : Int) j) (i := lot) hI ?_ (fun r q => ?_) (fun lot hI => ?_) (fun lot hI hg => ?_) fun lot hI hg => ?_
    · show sp.length - lot.length < 100000
      omega
    · rcases q with ⟨y, rfl, c⟩ | ⟨lot, rfl, g⟩
      · exact .inl ⟨_, rfl, .inl ⟨y, rfl, c⟩⟩
      · exact .inr ⟨lot, rfl, g⟩
    · have := hI.ok.len
      simp only [covered_e (sp := sp) (y := (k : Int)) (seq_l (eI lot)) hI.ok.lt (by omega), fl_i, if_true, if_false, B_P, L_s, run0_P, mNone_P, ite_and, ite_or, ite_and', ite_or', ite_t, ite_f, boolD_b, lt_ii, le_ii, gt_ii, ge_ii, add_ii, sub_ii, neg_i, part_i, seq_t, seq_l, tup2, tup0, lst0, lst1, lstS0, tup_l, tup_t, len_t, len_l, u2_p, isi_tt, isi_ii, isi_bi, isi_ss, Bool.not_true, Bool.not_false, Bool.and_true, Bool.true_and, Bool.or_false, Bool.false_or]
      congr 1
      exact decide_eq_decide.mpr (by omega)
    · have hg : cv sp lot k < m := of_decide_eq_true hg
      have hlen := hI.ok.len
      have hsome : cmp (eI (yards 0 (sp.length : Int))) _ = P (eI ((yards 0 (sp.length : Int)).filter fun i => !decide (i ∈ lot) && hs sp i k)) := cmp_filter (f := fun d537 => B (B (DL.L (ninB d537 (.list (eI lot)))) fun b554 => if b554 then B (B (DL.L (ixD (eSp sp) d537)) fun x545 => DL.L (ixD x545 (.int 0))) fun x550 => B (DL.L (leB x550 (.int k))) fun b552 => if b552 then B (B (DL.L (ixD (eSp sp) d537)) fun x549 => DL.L (ixD x549 (.int 1))) fun x553 => DL.L (ltB (.int k) x553) else P false else P false) fun b555 => if b555 then (P (some d537) : M Unit (Option D)) else P none) (p := fun i => !decide (i ∈ lot) && hs sp i k) (g := PyData.int) fun i hi => by
        have hi := yards_mem.mp hi
        simp only [ninB, in_lI, Option.map_some, ix_sp hi.1 hi.2, ixP0, ixP1, if_true, if_false, B_P, L_s, run0_P, mNone_P, ite_and, ite_or, ite_and', ite_or', ite_t, ite_f, boolD_b, lt_ii, le_ii, gt_ii, ge_ii, add_ii, sub_ii, neg_i, part_i, seq_t, seq_l, tup2, tup0, lst0, lst1, lstS0, tup_l, tup_t, len_t, len_l, u2_p, isi_tt, isi_ii, isi_bi, isi_ss, Bool.not_true, Bool.not_false, Bool.and_true, Bool.true_and, Bool.or_false, Bool.false_or]
        rfl
      have hmem : ∀ i, i ∈ ((yards 0 (sp.length : Int)).filter fun i => !decide (i ∈ lot) && hs sp i k) ↔ (0 ≤ i ∧ i < sp.length) ∧ i ∉ lot ∧ hs sp i k = true := fun i => by
        rw [List.mem_filter, yards_mem, Bool.and_eq_true]
        simp
      have hfl : ((yards 0 (sp.length : Int)).filter fun i => !decide (i ∈ lot) && hs sp i k).length ≤ 60 := by
        refine Nat.le_trans (List.length_filter_le _ _) ?_
        rw [yards_len]
        omega
      generalize ((yards 0 (sp.length : Int)).filter fun i => !decide (i ∈ lot) && hs sp i k) = some at hsome hmem hfl
      simp only [len_sp, range1_e (b := (sp.length : Int)) (by omega), if_true, if_false, B_P, L_s, run0_P, mNone_P, ite_and, ite_or, ite_and', ite_or', ite_t, ite_f, boolD_b, lt_ii, le_ii, gt_ii, ge_ii, add_ii, sub_ii, neg_i, part_i, seq_t, seq_l, tup2, tup0, lst0, lst1, lstS0, tup_l, tup_t, len_t, len_l, u2_p, isi_tt, isi_ii, isi_bi, isi_ss, Bool.not_true, Bool.not_false, Bool.and_true, Bool.true_and, Bool.or_false, Bool.false_or]
      rw [hsome]
      simp only [lstD_le (show (eI some).length ≤ 16777216 by rw [eI_len]; omega), eq_nilI, if_true, if_false, B_P, L_s, run0_P, mNone_P, ite_and, ite_or, ite_and', ite_or', ite_t, ite_f, boolD_b, lt_ii, le_ii, gt_ii, ge_ii, add_ii, sub_ii, neg_i, part_i, seq_t, seq_l, tup2, tup0, lst0, lst1, lstS0, tup_l, tup_t, len_t, len_l, u2_p, isi_tt, isi_ii, isi_bi, isi_ss, Bool.not_true, Bool.not_false, Bool.and_true, Bool.true_and, Bool.or_false, Bool.false_or]
      cases some with
      | nil =>
        refine .inl ⟨_, ?_, .inl ⟨(k : Int), rfl, .never (by omega) hkL ?_⟩⟩
        · simp only [decide_true, if_true, if_false, B_P, L_s, run0_P, mNone_P, ite_and, ite_or, ite_and', ite_or', ite_t, ite_f, boolD_b, lt_ii, le_ii, gt_ii, ge_ii, add_ii, sub_ii, neg_i, part_i, seq_t, seq_l, tup2, tup0, lst0, lst1, lstS0, tup_l, tup_t, len_t, len_l, u2_p, isi_tt, isi_ii, isi_bi, isi_ss, Bool.not_true, Bool.not_false, Bool.and_true, Bool.true_and, Bool.or_false, Bool.false_or]
          rfl
        · refine Nat.lt_of_le_of_lt (cnR_mono (g := fun i => ch lot i && hs sp i k) fun i hi e => ?_) (show cov sp (ch lot) k < m by rw [cov_ch hI.ok]; exact hg)
          rw [Bool.true_and] at e
          rw [e, Bool.and_true]
          refine decide_eq_true (Classical.byContradiction fun hn => ?_)
          have := (hmem i).mpr ⟨by omega, hn, e⟩
          cases this
      | cons x xs =>
        have hcm : ∀ i ∈ x :: xs, B (B (B (B (DL.L (ixD (eSp sp) (.int i))) fun x549 => DL.L (ixD x549 (PyData.int 1))) fun x575 => DL.L (negD x575)) fun x576 => P (PyData.tuple [x576, .int i])) (fun x538 => (P (some x538) : M Unit (Option D))) = P (some (eP (-(sp.getD i.toNat (0, 0)).2, i))) := fun i hi => by
          have := (hmem i).mp hi
          simp only [ix_sp this.1.1 this.1.2, ixP1, if_true, if_false, B_P, L_s, run0_P, mNone_P, ite_and, ite_or, ite_and', ite_or', ite_t, ite_f, boolD_b, lt_ii, le_ii, gt_ii, ge_ii, add_ii, sub_ii, neg_i, part_i, seq_t, seq_l, tup2, tup0, lst0, lst1, lstS0, tup_l, tup_t, len_t, len_l, u2_p, isi_tt, isi_ii, isi_bi, isi_ss, Bool.not_true, Bool.not_false, Bool.and_true, Bool.true_and, Bool.or_false, Bool.false_or]
          rfl
        have hq := minOf_mem (-(sp.getD x.toNat (0, 0)).2, x) (xs.map fun i => (-(sp.getD i.toNat (0, 0)).2, i))
        have hq2 := minOf_le (-(sp.getD x.toNat (0, 0)).2, x) (xs.map fun i => (-(sp.getD i.toNat (0, 0)).2, i))
        have hmin := min_pairs (d := .list ((x :: xs).map fun i => eP (-(sp.getD i.toNat (0, 0)).2, i))) (x := (-(sp.getD x.toNat (0, 0)).2, x)) (xs := xs.map fun i => (-(sp.getD i.toNat (0, 0)).2, i)) (by
          rw [seq_l, List.map_cons, List.map_cons, List.map_map]
          rfl)
        generalize PySem.W.minOf (-(sp.getD x.toNat (0, 0)).2, x) (xs.map fun i => (-(sp.getD i.toNat (0, 0)).2, i)) = q at hq hq2 hmin
        obtain ⟨j, hj, rfl⟩ : ∃ j ∈ x :: xs, (-(sp.getD j.toNat (0, 0)).2, j) = q := by
          rw [show ((-(sp.getD x.toNat (0, 0)).2, x) :: xs.map fun i => (-(sp.getD i.toNat (0, 0)).2, i)) = (x :: xs).map fun i => (-(sp.getD i.toNat (0, 0)).2, i) from rfl] at hq
          obtain ⟨j, hj, e⟩ := List.mem_map.mp hq
          exact ⟨j, hj, e⟩
        have hjm := (hmem j).mp hj
        refine .inr ⟨lot ++ [j], ?_, hI.add (by omega) hkL hg hjm.2.1 hjm.1.1 hjm.1.2 hjm.2.2 fun i i0 i1 i2 i3 => ?_, ?_⟩
        · simp only [show decide (x :: xs = []) = false from decide_eq_false (by simp), Bool.false_eq_true, kF_nx, if_true, if_false, B_P, L_s, run0_P, mNone_P, ite_and, ite_or, ite_and', ite_or', ite_t, ite_f, boolD_b, lt_ii, le_ii, gt_ii, ge_ii, add_ii, sub_ii, neg_i, part_i, seq_t, seq_l, tup2, tup0, lst0, lst1, lstS0, tup_l, tup_t, len_t, len_l, u2_p, isi_tt, isi_ii, isi_bi, isi_ss, Bool.not_true, Bool.not_false, Bool.and_true, Bool.true_and, Bool.or_false, Bool.false_or]
          rw [show eI (x :: xs) = (x :: xs).map PyData.int from rfl, cmp_map hcm]
          simp only [lstD_le (show ((x :: xs).map fun i => eP (-(sp.getD i.toNat (0, 0)).2, i)).length ≤ 16777216 by rw [List.length_map]; omega), hmin, ixP1, appL_lt (xs := eI lot) (d := .int j) (by rw [eI_len]; omega), if_true, if_false, B_P, L_s, run0_P, mNone_P, ite_and, ite_or, ite_and', ite_or', ite_t, ite_f, boolD_b, lt_ii, le_ii, gt_ii, ge_ii, add_ii, sub_ii, neg_i, part_i, seq_t, seq_l, tup2, tup0, lst0, lst1, lstS0, tup_l, tup_t, len_t, len_l, u2_p, isi_tt, isi_ii, isi_bi, isi_ss, Bool.not_true, Bool.not_false, Bool.and_true, Bool.true_and, Bool.or_false, Bool.false_or]
          unfold eI
          rw [List.map_append]
          rfl
        · have hi := (hmem i).mpr ⟨⟨i0, i1⟩, i2, i3⟩
          have := hq2 (-(sp.getD i.toNat (0, 0)).2, i) (by
            rw [show ((-(sp.getD x.toNat (0, 0)).2, x) :: xs.map fun i => (-(sp.getD i.toNat (0, 0)).2, i)) = (x :: xs).map fun i => (-(sp.getD i.toNat (0, 0)).2, i) from rfl]
            exact List.mem_map_of_mem (f := fun i => (-(sp.getD i.toNat (0, 0)).2, i)) hi)
          have : -(sp.getD j.toNat (0, 0)).2 ≤ -(sp.getD i.toNat (0, 0)).2 := this
          omega
        · have := (hI.ok.snoc hjm.2.1 hjm.1.1 hjm.1.2).len
          rw [List.length_append, List.length_singleton] at this ⊢
          omega
    · have hg : ¬ cv sp lot k < m := of_decide_eq_false hg
      exact .inr ⟨lot, rfl, by rw [show ((k + 1 : Nat) : Int) = (k : Int) + 1 by omega]; exact hI.next (by omega)⟩
  · rw [eI_len, yards_len, show (((L - 0).toNat : Nat) : Int) = L by omega] at hI
    exact .inr ⟨lot, rfl, hI⟩
end K22

set_option Elab.async false
set_option linter.all false
set_option maxRecDepth 100000
set_option maxHeartbeats 1000000
namespace K22
open PySem PySem.Spec PyProof.Rows L2 DL
theorem nc_e : eqB (.str ("never" : Str)) (.str ("cover" : Str)) = some false := by rw [eq_ss, decide_eq_false (by decide +kernel)]
theorem cn_e : eqB (.str ("cover" : Str)) (.str ("never" : Str)) = some false := by rw [eq_ss, decide_eq_false (by decide +kernel)]
theorem cc_e : eqB (.str ("cover" : Str)) (.str ("cover" : Str)) = some true := by rw [eq_ss, decide_eq_true rfl]
theorem wordCN : m_is_word [.str ("never" : Str), .tuple [.str ("cover" : Str), .str ("never" : Str)]] = some (.bool true) := word_e ("never" : Str) [("cover" : Str), ("never" : Str)] (by simp)
theorem wordCC : m_is_word [.str ("cover" : Str), .tuple [.str ("cover" : Str), .str ("never" : Str)]] = some (.bool true) := word_e ("cover" : Str) [("cover" : Str), ("never" : Str)] (by simp)
theorem ixN0 (y : Int) : ixD (eCov (.inl y)) (.int 0) = some (.str ("never" : Str)) := rfl
theorem ixN1 (y : Int) : ixD (eCov (.inl y)) (.int 1) = some (.int y) := rfl
theorem ixC0 (l : List Int) : ixD (eCov (.inr l)) (.int 0) = some (.str ("cover" : Str)) := rfl
theorem ixC1 (l : List Int) : ixD (eCov (.inr l)) (.int 1) = some (.tuple (eI l)) := rfl
theorem tupCov (o : Int ⊕ List Int) : m_is_tuple [eCov o, .int 2, .int 2] = some (.bool true) := by
  cases o <;> exact is_tuple_e _ 2 2
theorem lot_all (n : Nat) : Lot n (yards 0 (n : Int)) := by
  refine ⟨?_, fun i hi => ?_⟩
  · unfold yards
    refine List.Pairwise.map _ (fun a b h => ?_) List.nodup_range
    omega
  · have := yards_mem.mp hi
    omega
theorem cv_all (sp : Sp) (y : Int) : cv sp (yards 0 (sp.length : Int)) y = cov sp (fun _ => true) y := by
  rw [← cov_ch (lot_all sp.length)]
  refine cnR_congr fun k hk => ?_
  rw [show ch (yards 0 (sp.length : Int)) k = true from decide_eq_true (yards_mem.mpr (by omega))]
theorem sortSet_asc {xs : List Int} (h : xs.Pairwise (· < ·)) (hl : xs.length < 64) : sortSetT (.tuple (eI xs)) = some (.list (eI xs)) := by
  show (intsOf (xs.map .int)).bind _ = _
  rw [intsOf_ints]
  show (if xs.length < 64 then some (PyData.list ((srtU xs).map .int)) else none) = _
  rw [if_pos hl, asc_eq srtU_sorted h fun k => srtU_mem]
  rfl
theorem shows_e {L : Int} {sp : Sp} {m : Nat} {o : Int ⊕ List Int} (h : VSp L sp) (hc : m_cover [.int L, eSp sp, .int m] = some (eCov o)) (hr : CovR L sp m o) : m_shows_cover [.int L, eSp sp, .int m, eCov o] = some (.bool true) := by
  have L1 := h.L1
  have L2 := h.L2
  have hl := h.len
  show run0 (b_shows_cover _ _ _ _) = _
  unfold b_shows_cover
  simp only [hc, tupCov, if_true, if_false, B_P, L_s, run0_P, mNone_P, ite_and, ite_or, ite_and', ite_or', ite_t, ite_f, boolD_b, lt_ii, le_ii, gt_ii, ge_ii, add_ii, sub_ii, neg_i, part_i, seq_t, seq_l, tup2, tup0, lst0, lst1, lstS0, tup_l, tup_t, len_t, len_l, u2_p, isi_tt, isi_ii, isi_bi, isi_ss, Bool.not_true, Bool.not_false, Bool.and_true, Bool.true_and, Bool.or_false, Bool.false_or]
  cases hr with
  | @never y h0 h1 h2 =>
    have e2 : (decide (0 ≤ y) && decide (y ≤ L - 1)) = true := by
      rw [decide_eq_true h0, decide_eq_true (by omega)]
      rfl
    simp only [ixN0, ixN1, wordCN, neq_of nn_e, nn_e, Bool.false_eq_true, is_integer_e, e2, len_sp, lrg_e (show 0 ≤ (sp.length : Int) ∧ (sp.length : Int) ≤ 1000000 by omega), if_true, if_false, B_P, L_s, run0_P, mNone_P, ite_and, ite_or, ite_and', ite_or', ite_t, ite_f, boolD_b, lt_ii, le_ii, gt_ii, ge_ii, add_ii, sub_ii, neg_i, part_i, seq_t, seq_l, tup2, tup0, lst0, lst1, lstS0, tup_l, tup_t, len_t, len_l, u2_p, isi_tt, isi_ii, isi_bi, isi_ss, Bool.not_true, Bool.not_false, Bool.and_true, Bool.true_and, Bool.or_false, Bool.false_or]
    rw [covered_e (sp := sp) (y := y) (seq_l (eI (yards 0 (sp.length : Int)))) (lot_all sp.length).lt (by rw [yards_len]; omega), cv_all]
    simp only [decide_eq_true (show ((cov sp (fun _ => true) y : Nat) : Int) < (m : Int) by omega), if_true, if_false, B_P, L_s, run0_P, mNone_P, ite_and, ite_or, ite_and', ite_or', ite_t, ite_f, boolD_b, lt_ii, le_ii, gt_ii, ge_ii, add_ii, sub_ii, neg_i, part_i, seq_t, seq_l, tup2, tup0, lst0, lst1, lstS0, tup_l, tup_t, len_t, len_l, u2_p, isi_tt, isi_ii, isi_bi, isi_ss, Bool.not_true, Bool.not_false, Bool.and_true, Bool.true_and, Bool.or_false, Bool.false_or]
  | @cover lot hlt asc hf hm =>
    have hn := hlt.len
    have e1 : (decide ((0 : Int) ≤ ((eI lot).length : Int)) && decide (((eI lot).length : Int) ≤ (sp.length : Int))) = true := by
      rw [eI_len]
      simp
      omega
    have e2 : (lot.all fun i => decide (0 ≤ i) && decide (i ≤ (sp.length : Int) - 1)) = true := List.all_eq_true.mpr fun i hi => by
      have := hlt.lt i hi
      simp only [Bool.and_eq_true, decide_eq_true_eq]
      omega
    simp only [ixC0, ixC1, wordCC, neq_of cc_e, cn_e, Bool.false_eq_true, len_sp, is_tuple_e, e1, if_true, if_false, B_P, L_s, run0_P, mNone_P, ite_and, ite_or, ite_and', ite_or', ite_t, ite_f, boolD_b, lt_ii, le_ii, gt_ii, ge_ii, add_ii, sub_ii, neg_i, part_i, seq_t, seq_l, tup2, tup0, lst0, lst1, lstS0, tup_l, tup_t, len_t, len_l, u2_p, isi_tt, isi_ii, isi_bi, isi_ss, Bool.not_true, Bool.not_false, Bool.and_true, Bool.true_and, Bool.or_false, Bool.false_or]
    rw [cmp_ints (g := fun i => .bool (decide (0 ≤ i) && decide (i ≤ (sp.length : Int) - 1))) fun i _ => by simp only [is_integer_e, if_true, if_false, B_P, L_s, run0_P, mNone_P, ite_and, ite_or, ite_and', ite_or', ite_t, ite_f, boolD_b, lt_ii, le_ii, gt_ii, ge_ii, add_ii, sub_ii, neg_i, part_i, seq_t, seq_l, tup2, tup0, lst0, lst1, lstS0, tup_l, tup_t, len_t, len_l, u2_p, isi_tt, isi_ii, isi_bi, isi_ss, Bool.not_true, Bool.not_false, Bool.and_true, Bool.true_and, Bool.or_false, Bool.false_or]]
    simp only [lstD_le (show (lot.map fun i : Int => PyData.bool (decide (0 ≤ i) && decide (i ≤ (sp.length : Int) - 1))).length ≤ 16777216 by rw [List.length_map]; omega), all_bools, e2, Bool.false_eq_true, show lstL [.tuple (eI lot)] = some (.list (eI lot)) from rfl, sortSet_asc asc (show lot.length < 64 by omega), eqLI, decide_true, ne_ii, range1_e (b := L) (by omega), if_true, if_false, B_P, L_s, run0_P, mNone_P, ite_and, ite_or, ite_and', ite_or', ite_t, ite_f, boolD_b, lt_ii, le_ii, gt_ii, ge_ii, add_ii, sub_ii, neg_i, part_i, seq_t, seq_l, tup2, tup0, lst0, lst1, lstS0, tup_l, tup_t, len_t, len_l, u2_p, isi_tt, isi_ii, isi_bi, isi_ss, Bool.not_true, Bool.not_false, Bool.and_true, Bool.true_and, Bool.or_false, Bool.false_or]
    rw [cmp_ints (g := fun y => .bool (decide ((m : Int) ≤ cv sp lot y))) fun y _ => by
      simp only [covered_e (sp := sp) (y := y) (seq_t (eI lot)) hlt.lt (by omega), if_true, if_false, B_P, L_s, run0_P, mNone_P, ite_and, ite_or, ite_and', ite_or', ite_t, ite_f, boolD_b, lt_ii, le_ii, gt_ii, ge_ii, add_ii, sub_ii, neg_i, part_i, seq_t, seq_l, tup2, tup0, lst0, lst1, lstS0, tup_l, tup_t, len_t, len_l, u2_p, isi_tt, isi_ii, isi_bi, isi_ss, Bool.not_true, Bool.not_false, Bool.and_true, Bool.true_and, Bool.or_false, Bool.false_or]]
    have e3 : ((yards 0 L).all fun y => decide ((m : Int) ≤ cv sp lot y)) = true := List.all_eq_true.mpr fun y hy => by
      have hy := yards_mem.mp hy
      have := hf y hy.1 hy.2
      rw [decide_eq_true_eq]
      omega
    simp only [lstD_le (show ((yards 0 L).map fun y : Int => PyData.bool (decide ((m : Int) ≤ cv sp lot y))).length ≤ 16777216 by rw [List.length_map, yards_len]; omega), all_bools, e3, if_true, if_false, B_P, L_s, run0_P, mNone_P, ite_and, ite_or, ite_and', ite_or', ite_t, ite_f, boolD_b, lt_ii, le_ii, gt_ii, ge_ii, add_ii, sub_ii, neg_i, part_i, seq_t, seq_l, tup2, tup0, lst0, lst1, lstS0, tup_l, tup_t, len_t, len_l, u2_p, isi_tt, isi_ii, isi_bi, isi_ss, Bool.not_true, Bool.not_false, Bool.and_true, Bool.true_and, Bool.or_false, Bool.false_or]
/-! ### the law's own count -/
def cond (F : Int → Option Int) (y : Int) (p : Int × Int) : Bool := decide (p.1 < y) && decide (y ≤ p.2) && (F p.1).isSome
def cand (sp : Sp) (F : Int → Option Int) (y : Int) : List Int := (sp.filter (cond F y)).map fun p => (F p.1).getD 0
def bestY (sp : Sp) (F : Int → Option Int) (y : Int) : Option Int := if cand sp F y = [] then none else some (1 + lo (cand sp F y))
def Fw (sp : Sp) : Nat → Int → Option Int
  | 0 => fun y => if y = 0 then some 0 else none
  | k + 1 => fun y => if y = (k : Int) + 1 then bestY sp (Fw sp k) y else Fw sp k y
structure Says (sp : Sp) (y : Int) (o : Option Int) : Prop where
  snd : ∀ c, o = some c → ∃ χ, Feas y sp 1 χ ∧ (size sp χ : Int) ≤ c
  cmpl : ∀ χ, Feas y sp 1 χ → ∃ c, o = some c ∧ c ≤ size sp χ
theorem mem_at {sp : Sp} {p : Int × Int} (h : p ∈ sp) : ∃ i : Nat, i < sp.length ∧ sp.getD i (0, 0) = p := by
  obtain ⟨i, hi, e⟩ := List.getElem_of_mem h
  exact ⟨i, hi, by rw [List.getD_eq_getElem?_getD, List.getElem?_eq_getElem hi, e]; rfl⟩
theorem hs_at {sp : Sp} {i : Nat} {y : Int} : hs sp i y = true ↔ (sp.getD i (0, 0)).1 ≤ y ∧ y < (sp.getD i (0, 0)).2 := by
  unfold hs
  rw [Bool.and_eq_true, decide_eq_true_eq, decide_eq_true_eq]
  exact Iff.rfl
theorem cnR_zero {f : Nat → Bool} {n : Nat} (h : 0 < cnR n f) : ∃ k, k < n ∧ f k = true := by
  unfold cnR at h
  obtain ⟨k, hk, e⟩ := List.countP_pos_iff.mp h
  exact ⟨k, List.mem_range.mp hk, e⟩
theorem cnR_pos {f : Nat → Bool} {n k : Nat} (hk : k < n) (h : f k = true) : 1 ≤ cnR n f := List.countP_pos_iff.mpr ⟨k, List.mem_range.mpr hk, h⟩
theorem says_best {sp : Sp} {L : Int} {F : Int → Option Int} {y : Int} (hv : VSp L sp) (h0 : 1 ≤ y) (h : ∀ z, 0 ≤ z → z < y → Says sp z (F z)) : Says sp y (bestY sp F y) := by
  have hcm : ∀ c, c ∈ cand sp F y ↔ ∃ p ∈ sp, p.1 < y ∧ y ≤ p.2 ∧ F p.1 = some c := fun c => by
    unfold cand
    rw [List.mem_map]
    constructor
    · rintro ⟨p, hp, e⟩
      obtain ⟨hp, hc⟩ := List.mem_filter.mp hp
      unfold cond at hc
      simp only [Bool.and_eq_true, decide_eq_true_eq] at hc
      obtain ⟨c', e'⟩ := Option.isSome_iff_exists.mp hc.2
      rw [e'] at e
      exact ⟨p, hp, hc.1.1, hc.1.2, by rw [e']; exact congrArg some e⟩
    · rintro ⟨p, hp, a, b, e⟩
      refine ⟨p, List.mem_filter.mpr ⟨hp, ?_⟩, by rw [e]; rfl⟩
      unfold cond
      rw [e, decide_eq_true a, decide_eq_true b]
      rfl
  constructor
  · intro c e
    unfold bestY at e
    split at e
    · cases e
    · rename_i hne
      cases e
      obtain ⟨p, hp, a, b, e⟩ := (hcm _).mp (lo_mem hne)
      have pv := hv.at_ p hp
      obtain ⟨χ, f1, f2⟩ := (h p.1 pv.1 a).snd _ e
      obtain ⟨i, hi, ei⟩ := mem_at hp
      refine ⟨up χ i true, fun z z0 z1 => ?_, ?_⟩
      · by_cases c : z < p.1
        · refine Nat.le_trans (f1 z z0 c) (cov_mono fun k hk e => ?_)
          unfold up
          split
          · rfl
          · exact e
        · refine cnR_pos hi ?_
          have : hs sp i z = true := hs_at.mpr (by rw [ei]; omega)
          rw [this]
          show (up χ i true i && true) = true
          unfold up
          rw [if_pos rfl]
          rfl
      · have c := cnR_up (f := χ) (b := true) hi
        unfold size at f2 ⊢
        rw [Bool.toNat_true] at c
        omega
  · intro χ hχ
    have := hχ (y - 1) (by omega) (by omega)
    obtain ⟨i, hi, e⟩ := cnR_zero (Nat.lt_of_lt_of_le Nat.zero_lt_one this)
    rw [Bool.and_eq_true] at e
    have hy := hs_at.mp e.2
    have hp : sp.getD i (0, 0) ∈ sp := by
      rw [List.getD_eq_getElem?_getD, List.getElem?_eq_getElem hi]
      exact List.getElem_mem hi
    have pv := hv.at_ _ hp
    have hx := cnR_up (f := χ) (b := false) hi
    rw [e.1, Bool.toNat_true, Bool.toNat_false] at hx
    obtain ⟨c, ec, cl⟩ := (h (sp.getD i (0, 0)).1 pv.1 (by omega)).cmpl (up χ i false) fun z z0 z1 => by
      refine Nat.le_trans (hχ z z0 (by omega)) (cnR_mono fun k hk e => ?_)
      rw [Bool.and_eq_true] at e ⊢
      refine ⟨?_, e.2⟩
      unfold up
      by_cases ck : k = i
      · have := hs_at.mp e.2
        rw [ck] at this
        omega
      · rw [if_neg ck]
        exact e.1
    have hc := (hcm c).mpr ⟨_, hp, by omega, by omega, ec⟩
    have hne : cand sp F y ≠ [] := List.ne_nil_of_mem hc
    refine ⟨1 + lo (cand sp F y), if_neg hne, ?_⟩
    have := lo_le hc
    unfold size at cl ⊢
    omega
theorem says_all {sp : Sp} {L : Int} (hv : VSp L sp) : ∀ (k : Nat) (z : Int), 0 ≤ z → z ≤ k → Says sp z (Fw sp k z)
  | 0, z, h0, h1 => by
    have e : z = 0 := by omega
    subst e
    refine ⟨fun c e => ?_, fun χ _ => ⟨0, rfl, by omega⟩⟩
    cases e
    refine ⟨fun _ => false, fun y y0 y1 => by omega, ?_⟩
    unfold size cnR
    simp
  | k + 1, z, h0, h1 => by
    show Says sp z (if z = (k : Int) + 1 then bestY sp (Fw sp k) z else Fw sp k z)
    by_cases c : z = (k : Int) + 1
    · rw [if_pos c]
      exact says_best hv (by omega) fun x x0 x1 => says_all hv k x x0 (by omega)
    · rw [if_neg c]
      exact says_all hv k z h0 (by omega)
theorem ne_nilI (xs : List Int) : neB (.list (eI xs)) (.list []) = some (!decide (xs = [])) := ne_dat xs [] (by decide)
theorem fewest_e {L : Int} {sp : Sp} (h : VSp L sp) : m__law_fewest [.int L, eSp sp] = some (eOI (Fw sp L.toNat L)) := by
  have L1 := h.L1
  have L2 := h.L2
  have hl := h.len
  show run0 (b__law_fewest _ _) = _
  unfold b__law_fewest
  have h0 : catN (.list [.int 0]) (.list (List.replicate L.toNat .none)) = some ((yards 0 (L + 1)).map fun y => eOI (Fw sp 0 y)) := by
    show (if ([PyData.int 0] : List D).length + (List.replicate L.toNat PyData.none).length ≤ 16777216 then some ([PyData.int 0] ++ List.replicate L.toNat PyData.none) else none) = _
    rw [if_pos (by rw [List.length_singleton, List.length_replicate]; omega)]
    congr 1
    apply List.ext_getElem?
    intro i
    rw [List.getElem?_map]
    by_cases c : i < (L + 1 - 0).toNat
    · rw [yards_get c]
      cases i with
      | zero => rfl
      | succ i =>
        rw [List.singleton_append, List.getElem?_cons_succ, List.getElem?_replicate, if_pos (by omega)]
        show _ = some (eOI (if (0 : Int) + ((i + 1 : Nat) : Int) = 0 then some 0 else none))
        rw [if_neg (by omega)]
        rfl
    · rw [List.getElem?_eq_none (by simp; omega), List.getElem?_eq_none (by rw [yards_len]; omega)]
      rfl
  simp only [show mulT (.list [.none]) (.int L) = some (.list (List.replicate L.toNat .none)) from by rw [show L = ((L.toNat : Nat) : Int) by omega, padL _ (by omega), show ((L.toNat : Nat) : Int).toNat = L.toNat by omega], h0, range2_e (a := 1) (b := L + 1) (by omega) (by omega), if_true, if_false, B_P, L_s, run0_P, mNone_P, ite_and, ite_or, ite_and', ite_or', ite_t, ite_f, boolD_b, lt_ii, le_ii, gt_ii, ge_ii, add_ii, sub_ii, neg_i, part_i, seq_t, seq_l, tup2, tup0, lst0, lst1, lstS0, tup_l, tup_t, len_t, len_l, u2_p, isi_tt, isi_ii, isi_bi, isi_ss, Bool.not_true, Bool.not_false, Bool.and_true, Bool.true_and, Bool.or_false, Bool.false_or]
  rw [foldS_at (g := fun i => (yards 0 (L + 1)).map fun y => eOI (Fw sp i y)) _ _ rfl fun i d hd => ?_]
  · rw [B_P, eI_len, yards_len, show (L + 1 - 1).toNat = L.toNat by omega]
    have hx := (ix_y (a := 0) (b := L + 1) (i := L) (fun y => eOI (Fw sp L.toNat y)) (by omega) (by omega)).1
    rw [Int.zero_add] at hx
    rw [hx]
    rfl
  · obtain ⟨rfl, hi⟩ := yards_at (e := PyData.int) hd
    have hix : ∀ p ∈ sp, ixD (.list ((yards 0 (L + 1)).map fun y => eOI (Fw sp i y))) (.int p.1) = some (eOI (Fw sp i p.1)) := fun p hp => by
      have pv := h.at_ p hp
      have hx := (ix_y (a := 0) (b := L + 1) (i := p.1) (fun y => eOI (Fw sp i y)) (by omega) (by omega)).1
      rwa [Int.zero_add] at hx
    simp only [eSp, if_true, if_false, B_P, L_s, run0_P, mNone_P, ite_and, ite_or, ite_and', ite_or', ite_t, ite_f, boolD_b, lt_ii, le_ii, gt_ii, ge_ii, add_ii, sub_ii, neg_i, part_i, seq_t, seq_l, tup2, tup0, lst0, lst1, lstS0, tup_l, tup_t, len_t, len_l, u2_p, isi_tt, isi_ii, isi_bi, isi_ss, Bool.not_true, Bool.not_false, Bool.and_true, Bool.true_and, Bool.or_false, Bool.false_or]
    rw [cmp_filter (p := cond (Fw sp i) (1 + (i : Int))) (g := fun p => eOI (Fw sp i p.1)) fun p hp => by
      unfold eP
      simp only [hix p hp, isntO1, if_true, if_false, B_P, L_s, run0_P, mNone_P, ite_and, ite_or, ite_and', ite_or', ite_t, ite_f, boolD_b, lt_ii, le_ii, gt_ii, ge_ii, add_ii, sub_ii, neg_i, part_i, seq_t, seq_l, tup2, tup0, lst0, lst1, lstS0, tup_l, tup_t, len_t, len_l, u2_p, isi_tt, isi_ii, isi_bi, isi_ss, Bool.not_true, Bool.not_false, Bool.and_true, Bool.true_and, Bool.or_false, Bool.false_or]
      unfold cond
      cases decide (p.1 < 1 + (i : Int)) <;> cases decide (1 + (i : Int) ≤ p.2) <;> rfl]
    have hce : ((sp.filter (cond (Fw sp i) (1 + (i : Int)))).map fun p => eOI (Fw sp i p.1)) = eI (cand sp (Fw sp i) (1 + (i : Int))) := by
      unfold cand eI
      rw [List.map_map]
      refine List.map_congr_left fun p hp => ?_
      have hc := (List.mem_filter.mp hp).2
      unfold cond at hc
      simp only [Bool.and_eq_true] at hc
      obtain ⟨c, e⟩ := Option.isSome_iff_exists.mp hc.2
      rw [e]
      show eOI (some c) = PyData.int ((Fw sp i p.1).getD 0)
      rw [e]
      rfl
    have hcl : (cand sp (Fw sp i) (1 + (i : Int))).length ≤ 60 := by
      unfold cand
      rw [List.length_map]
      exact Nat.le_trans (List.length_filter_le _ _) hl
    have hb : (if !decide (cand sp (Fw sp i) (1 + (i : Int)) = []) then B (DL.L (minL [.list (eI (cand sp (Fw sp i) (1 + (i : Int))))])) fun x => DL.L (addD (.int 1) x) else (P PyData.none : M Unit D)) = P (eOI (bestY sp (Fw sp i) (1 + (i : Int)))) := by
      unfold bestY
      by_cases c : cand sp (Fw sp i) (1 + (i : Int)) = []
      · rw [if_pos c, decide_eq_true c]
        rfl
      · rw [if_neg c, decide_eq_false c]
        simp only [min_seq (seq_l _) c, if_true, if_false, B_P, L_s, run0_P, mNone_P, ite_and, ite_or, ite_and', ite_or', ite_t, ite_f, boolD_b, lt_ii, le_ii, gt_ii, ge_ii, add_ii, sub_ii, neg_i, part_i, seq_t, seq_l, tup2, tup0, lst0, lst1, lstS0, tup_l, tup_t, len_t, len_l, u2_p, isi_tt, isi_ii, isi_bi, isi_ss, Bool.not_true, Bool.not_false, Bool.and_true, Bool.true_and, Bool.or_false, Bool.false_or]
        rfl
    rw [hce]
    simp only [lstD_le (show (eI (cand sp (Fw sp i) (1 + (i : Int)))).length ≤ 16777216 by rw [eI_len]; omega), ne_nilI, if_true, if_false, B_P, L_s, run0_P, mNone_P, ite_and, ite_or, ite_and', ite_or', ite_t, ite_f, boolD_b, lt_ii, le_ii, gt_ii, ge_ii, add_ii, sub_ii, neg_i, part_i, seq_t, seq_l, tup2, tup0, lst0, lst1, lstS0, tup_l, tup_t, len_t, len_l, u2_p, isi_tt, isi_ii, isi_bi, isi_ss, Bool.not_true, Bool.not_false, Bool.and_true, Bool.true_and, Bool.or_false, Bool.false_or]
    rw [hb]
    simp only [setL_nat (xs := (yards 0 (L + 1)).map fun y => eOI (Fw sp i y)) (i := 1 + (i : Int)) (d := eOI (bestY sp (Fw sp i) (1 + (i : Int)))) (by omega) (by rw [List.length_map, yards_len]; omega), if_true, if_false, B_P, L_s, run0_P, mNone_P, ite_and, ite_or, ite_and', ite_or', ite_t, ite_f, boolD_b, lt_ii, le_ii, gt_ii, ge_ii, add_ii, sub_ii, neg_i, part_i, seq_t, seq_l, tup2, tup0, lst0, lst1, lstS0, tup_l, tup_t, len_t, len_l, u2_p, isi_tt, isi_ii, isi_bi, isi_ss, Bool.not_true, Bool.not_false, Bool.and_true, Bool.true_and, Bool.or_false, Bool.false_or]
    refine congrArg P (yards_set (a := 0) (b := L + 1) (i := 1 + (i : Int)) (by omega) (by omega) ?_ fun y hy => ?_)
    · show eOI (if (0 : Int) + (1 + (i : Int)) = (i : Int) + 1 then _ else _) = _
      rw [if_pos (by omega), Int.zero_add]
    · show eOI (if y = (i : Int) + 1 then _ else _) = _
      rw [if_neg (by omega)]
end K22

set_option Elab.async false
set_option linter.all false
set_option maxRecDepth 100000
set_option maxHeartbeats 1000000
namespace K22
open PySem PySem.Spec PyProof.Rows L2 DL
/-! ### yards that no span holds two of -/
structure Ap (L : Int) (sp : Sp) (q : List Int × Int) : Prop where
  e0 : 0 ≤ q.2
  e1 : q.2 ≤ L
  in_ : ∀ p ∈ q.1, 0 ≤ p ∧ p < L
  one : ∀ i : Int, (q.1.filter fun y => hs sp i y).length ≤ 1
  far : ∀ p ∈ q.1, ∀ i : Int, hs sp i p = true → (sp.getD i.toNat (0, 0)).2 ≤ q.2
  few : (q.1.length : Int) ≤ q.2
theorem ix_last (xs : List D) (d : D) (h : xs.length ≤ 1000) : ixD (.list (xs ++ [d])) (.int (-1)) = some d := by
  show (ixN (xs ++ [d]).length (-1)).bind (fun j => (xs ++ [d])[j]?) = _
  have e : ixN (xs ++ [d]).length (-1) = some xs.length := by
    unfold ixN
    rw [if_neg (by decide), List.length_append, List.length_singleton, if_pos (by omega)]
    congr 1
    omega
  rw [e]
  show (xs ++ [d])[xs.length]? = _
  simp
theorem apart_e {L : Int} {sp : Sp} (h : VSp L sp) {χ : Nat → Bool} (hf : Feas L sp 1 χ) : ∃ yds : List Int, m_apart_yards [.int L, eSp sp] = some (.tuple (eI yds)) ∧ (∀ p ∈ yds, 0 ≤ p ∧ p < L) ∧ (∀ i : Int, (yds.filter fun y => hs sp i y).length ≤ 1) ∧ yds.length ≤ 200 := by
  have L1 := h.L1
  have L2 := h.L2
  have hl := h.len
  obtain ⟨o, ho, hr⟩ := cover_e (m := 1) h (by omega) (by omega)
  obtain ⟨lot, rfl⟩ : ∃ lot, o = .inr lot := by
    cases hr with
    | never h0 h1 h2 => exact absurd hf (never_feas h0 h1 h2)
    | @cover lot _ _ _ _ => exact ⟨lot, rfl⟩
  suffices hh : ∃ yds : List Int, run0 (b_apart_yards (.int L) (eSp sp)) = some (.tuple (eI yds)) ∧ (∀ p ∈ yds, 0 ≤ p ∧ p < L) ∧ (∀ i : Int, (yds.filter fun y => hs sp i y).length ≤ 1) ∧ yds.length ≤ 200 from hh
  unfold b_apart_yards
  have ho : m_cover [.int L, eSp sp, .int 1] = some (eCov (.inr lot)) := ho
  simp only [check_e h (show (1 : Int) ≤ 1 by omega) (show (1 : Int) ≤ 8 by omega), ho, ixC0, cn_e, Bool.false_eq_true, if_true, if_false, B_P, L_s, run0_P, mNone_P, ite_and, ite_or, ite_and', ite_or', ite_t, ite_f, boolD_b, lt_ii, le_ii, gt_ii, ge_ii, add_ii, sub_ii, neg_i, part_i, seq_t, seq_l, tup2, tup0, lst0, lst1, lstS0, tup_l, tup_t, len_t, len_l, u2_p, isi_tt, isi_ii, isi_bi, isi_ss, Bool.not_true, Bool.not_false, Bool.and_true, Bool.true_and, Bool.or_false, Bool.false_or]
  rw [show (([] : List D), PyData.int 0) = (eI ([] : List Int), PyData.int 0) from rfl]
  refine while_then (emb := fun q : List Int × Int => ((eI q.1, .int q.2) : List D × D)) (I := Ap L sp) (W := fun q => (L - q.2).toNat) (go := fun q => decide (q.2 < L)) (Q := fun r => ∃ q : List Int × Int, r = Fl.nx ((eI q.1, .int q.2) : List D × D) ∧ Ap L sp q)
    (R := fun mm => ∃ yds : List Int, run0 mm = some (PyData.tuple (eI yds)) ∧ (∀ p ∈ yds, 0 ≤ p ∧ p < L) ∧ (∀ i : Int, (yds.filter fun y => hs sp i y).length ≤ 1) ∧ yds.length ≤ 200) (i := ([], 0)) ?_ ?_ (fun r q => ?_) (fun q hI => ?_) (fun q hI hg => ?_) fun q hI hg => ?_
  · exact ⟨Int.le_refl _, by show (0 : Int) ≤ L; omega, fun p hp => (by cases hp), fun i => by simp, fun p hp => (by cases hp), by simp⟩
  · show (L - 0).toNat < 100000
    omega
  · obtain ⟨q, rfl, hq⟩ := q
    refine ⟨q.1, rfl, hq.in_, hq.one, ?_⟩
    have := hq.few
    have := hq.e1
    omega
  · simp only [if_true, if_false, B_P, L_s, run0_P, mNone_P, ite_and, ite_or, ite_and', ite_or', ite_t, ite_f, boolD_b, lt_ii, le_ii, gt_ii, ge_ii, add_ii, sub_ii, neg_i, part_i, seq_t, seq_l, tup2, tup0, lst0, lst1, lstS0, tup_l, tup_t, len_t, len_l, u2_p, isi_tt, isi_ii, isi_bi, isi_ss, Bool.not_true, Bool.not_false, Bool.and_true, Bool.true_and, Bool.or_false, Bool.false_or]
  · have hg : q.2 < L := of_decide_eq_true hg
    obtain ⟨fd, e⟩ := q
    have e0 : 0 ≤ e := hI.e0
    have hfw : (fd.length : Int) ≤ e := hI.few
    have hg : e < L := hg
    let ends : List Int := (sp.filter fun p => decide (p.1 ≤ e) && decide (e < p.2)).map fun p => p.2
    have hmem : ∀ c, c ∈ ends ↔ ∃ p ∈ sp, p.1 ≤ e ∧ e < p.2 ∧ p.2 = c := fun c => by
      show c ∈ (sp.filter _).map _ ↔ _
      rw [List.mem_map]
      constructor
      · rintro ⟨p, hp, rfl⟩
        obtain ⟨hp, hc⟩ := List.mem_filter.mp hp
        simp only [Bool.and_eq_true, decide_eq_true_eq] at hc
        exact ⟨p, hp, hc.1, hc.2, rfl⟩
      · rintro ⟨p, hp, a, b, rfl⟩
        refine ⟨p, List.mem_filter.mpr ⟨hp, ?_⟩, rfl⟩
        rw [decide_eq_true a, decide_eq_true b]
        rfl
    have hel : ends.length ≤ 60 := by
      show ((sp.filter _).map _).length ≤ 60
      rw [List.length_map]
      exact Nat.le_trans (List.length_filter_le _ _) hl
    have hne : ends ≠ [] := by
      obtain ⟨i, hi, c⟩ := cnR_zero (Nat.lt_of_lt_of_le Nat.zero_lt_one (hf e e0 hg))
      rw [Bool.and_eq_true] at c
      have hy := hs_at.mp c.2
      have hp : sp.getD i (0, 0) ∈ sp := by
        rw [List.getD_eq_getElem?_getD, List.getElem?_eq_getElem hi]
        exact List.getElem_mem hi
      exact List.ne_nil_of_mem ((hmem _).mpr ⟨_, hp, hy.1, hy.2, rfl⟩)
    have hcmp : cmp (sp.map eP) (fun d747 => u2 d747 fun d736 d737 => B (B (DL.L (leB d736 (.int e))) fun b744 => if b744 then DL.L (ltB (.int e) d737) else P false) fun b746 => if b746 then (P (some d737) : M Unit (Option D)) else P none) = P (eI ends) := by
      rw [show eI ends = (sp.filter fun p => decide (p.1 ≤ e) && decide (e < p.2)).map fun p => PyData.int p.2 from by show List.map _ (List.map _ _) = _; rw [List.map_map]; rfl]
      refine cmp_filter fun p hp => ?_
      unfold eP
      simp only [if_true, if_false, B_P, L_s, run0_P, mNone_P, ite_and, ite_or, ite_and', ite_or', ite_t, ite_f, boolD_b, lt_ii, le_ii, gt_ii, ge_ii, add_ii, sub_ii, neg_i, part_i, seq_t, seq_l, tup2, tup0, lst0, lst1, lstS0, tup_l, tup_t, len_t, len_l, u2_p, isi_tt, isi_ii, isi_bi, isi_ss, Bool.not_true, Bool.not_false, Bool.and_true, Bool.true_and, Bool.or_false, Bool.false_or]
    obtain ⟨pm, pm1, pm2, pm3, pm4⟩ := (hmem _).mp (hi_mem hne)
    have pv := h.at_ pm pm1
    refine .inr ⟨(fd ++ [e], hi ends), ?_, ⟨by show 0 ≤ hi ends; omega, by show hi ends ≤ L; omega, fun p hp => ?_, fun i => ?_, fun p hp i hi' => ?_, ?_⟩, ?_⟩
    · have hle : (eI fd).length ≤ 1000 := by rw [eI_len]; omega
      simp only [appL_lt (xs := eI fd) (d := .int e) (by omega), ix_last (eI fd) (.int e) hle, eSp, if_true, if_false, B_P, L_s, run0_P, mNone_P, ite_and, ite_or, ite_and', ite_or', ite_t, ite_f, boolD_b, lt_ii, le_ii, gt_ii, ge_ii, add_ii, sub_ii, neg_i, part_i, seq_t, seq_l, tup2, tup0, lst0, lst1, lstS0, tup_l, tup_t, len_t, len_l, u2_p, isi_tt, isi_ii, isi_bi, isi_ss, Bool.not_true, Bool.not_false, Bool.and_true, Bool.true_and, Bool.or_false, Bool.false_or]
      rw [hcmp]
      simp only [lstD_le (show (eI ends).length ≤ 16777216 by rw [eI_len]; omega), max_seq (seq_l _) hne, if_true, if_false, B_P, L_s, run0_P, mNone_P, ite_and, ite_or, ite_and', ite_or', ite_t, ite_f, boolD_b, lt_ii, le_ii, gt_ii, ge_ii, add_ii, sub_ii, neg_i, part_i, seq_t, seq_l, tup2, tup0, lst0, lst1, lstS0, tup_l, tup_t, len_t, len_l, u2_p, isi_tt, isi_ii, isi_bi, isi_ss, Bool.not_true, Bool.not_false, Bool.and_true, Bool.true_and, Bool.or_false, Bool.false_or]
      unfold eI
      rw [List.map_append]
      rfl
    · rcases List.mem_append.mp hp with z | z
      · exact hI.in_ p z
      · rw [List.mem_singleton.mp z]
        exact ⟨e0, hg⟩
    · show ((fd ++ [e]).filter _).length ≤ 1
      rw [List.filter_append, List.length_append]
      cases c : hs sp i e with
      | false =>
        rw [show [e].filter (fun y => hs sp i y) = [] from by simp [c]]
        exact hI.one i
      | true =>
        have : fd.filter (fun y => hs sp i y) = [] := List.filter_eq_nil_iff.mpr fun p hp hpi => by
          have a := hI.far p hp i hpi
          have b : e < (sp.getD i.toNat (0, 0)).2 := by
            unfold hs at c
            simp only [Bool.and_eq_true, decide_eq_true_eq] at c
            exact c.2
          have a : (sp.getD i.toNat (0, 0)).2 ≤ e := a
          omega
        rw [this]
        simp [c]
    · show (sp.getD i.toNat (0, 0)).2 ≤ hi ends
      rcases List.mem_append.mp hp with z | z
      · have a : (sp.getD i.toNat (0, 0)).2 ≤ e := hI.far p z i hi'
        omega
      · rw [List.mem_singleton.mp z] at hi'
        unfold hs at hi'
        simp only [Bool.and_eq_true, decide_eq_true_eq] at hi'
        by_cases c : i.toNat < sp.length
        · refine le_hi ((hmem _).mpr ⟨sp.getD i.toNat (0, 0), ?_, hi'.1, hi'.2, rfl⟩)
          rw [List.getD_eq_getElem?_getD, List.getElem?_eq_getElem c]
          exact List.getElem_mem c
        · rw [List.getD_eq_getElem?_getD, List.getElem?_eq_none (by omega)] at hi'
          have a := hi'.1
          have b := hi'.2
          simp at a b
          omega
    · show ((fd ++ [e]).length : Int) ≤ hi ends
      rw [List.length_append, List.length_singleton]
      omega
    · show (L - hi ends).toNat < (L - e).toNat
      omega
  · exact ⟨q, rfl, hI⟩
end K22

set_option Elab.async false
set_option linter.all false
set_option maxRecDepth 100000
set_option maxHeartbeats 2000000
namespace K22
open PySem PySem.Spec PyProof.Rows L2 DL
theorem foldF_go {S α β : Type} {f : α → D → M S (Fl α)} {k : Fl α → M S β} {R : M S β → Prop} : ∀ {ds : List D} {a : α}, (∀ a, ∀ d ∈ ds, ∃ a', f a d = P (.nx a')) → (∀ a, R (k (.nx a))) → R (B (foldF ds a f) k)
  | [], a, _, hk => hk a
  | d :: ds, a, h, hk => by
    obtain ⟨a', e⟩ := h a d List.mem_cons_self
    rw [foldF_cons e]
    exact foldF_go (fun a d hd => h a d (List.mem_cons_of_mem _ hd)) hk
theorem sp_range (sp : Sp) : (List.range sp.length).map (fun k => sp.getD k (0, 0)) = sp := by
  apply List.ext_getElem?
  intro i
  rw [List.getElem?_map]
  by_cases c : i < sp.length
  · rw [List.getElem?_range c, List.getElem?_eq_getElem c, Option.map_some, List.getD_eq_getElem?_getD, List.getElem?_eq_getElem c]
    rfl
  · rw [List.getElem?_eq_none (by simp; omega), List.getElem?_eq_none (by omega)]
    rfl
def holds (y : Int) (p : Int × Int) : Bool := decide (p.1 ≤ y) && decide (y < p.2)
theorem holds_cov (sp : Sp) (y : Int) : (sp.filter (holds y)).length = cov sp (fun _ => true) y := by
  rw [← List.countP_eq_length_filter, ← sp_range sp, List.countP_map, sp_range]
  exact cnR_congr fun k _ => by rw [Bool.true_and]; rfl
theorem cov_feas {L : Int} {sp : Sp} {m : Nat} {o : Int ⊕ List Int} (h : CovR L sp m o) {χ : Nat → Bool} (hf : Feas L sp m χ) : ∃ lot, o = .inr lot ∧ Lot sp.length lot ∧ (∀ y, 0 ≤ y → y < L → m ≤ cv sp lot y) ∧ ∀ χ, Feas L sp m χ → lot.length ≤ size sp χ := by
  cases h with
  | never h0 h1 h2 => exact absurd hf (never_feas h0 h1 h2)
  | @cover lot hl _ hf hm => exact ⟨lot, rfl, hl, hf, hm⟩
theorem vsp_back {L : Int} {sp : Sp} (h : VSp L sp) : VSp L (back L sp) := by
  refine ⟨h.L1, h.L2, by unfold back; rw [List.length_map]; exact h.len, fun p hp => ?_⟩
  obtain ⟨q, hq, rfl⟩ := List.mem_map.mp hp
  have := h.at_ q hq
  show 0 ≤ L - q.2 ∧ L - q.2 < L - q.1 ∧ L - q.1 ≤ L
  omega
theorem vsp_more {L : Int} {sp : Sp} (h : VSp L sp) (hl : sp.length ≤ 50) : VSp L (sp ++ sp.take 5) := by
  refine ⟨h.L1, h.L2, by rw [List.length_append, List.length_take]; omega, fun p hp => ?_⟩
  rcases List.mem_append.mp hp with z | z
  · exact h.at_ p z
  · exact h.at_ p (List.mem_of_mem_take z)
/-- how few, as the table says it -/
theorem fewest_eq {L : Int} {sp : Sp} {o : Int ⊕ List Int} (h : VSp L sp) (hr : CovR L sp 1 o) : (∀ y, o = .inl y → Fw sp L.toNat L = none) ∧ ∀ lot, o = .inr lot → Fw sp L.toNat L = some (lot.length : Int) := by
  have L1 := h.L1
  have hs := says_all h L.toNat L (by omega) (by omega)
  constructor
  · intro y e
    subst e
    cases hr with
    | never h0 h1 h2 =>
      cases c : Fw sp L.toNat L with
      | none => rfl
      | some c' =>
        obtain ⟨χ, f1, _⟩ := hs.snd c' c
        exact absurd f1 (never_feas h0 h1 h2)
  · intro lot e
    subst e
    cases hr with
    | cover hl _ hf hm =>
      obtain ⟨c, e, cl⟩ := hs.cmpl (ch lot) (feas_ch hl hf)
      obtain ⟨χ, f1, f2⟩ := hs.snd c e
      have := hm χ f1
      unfold size at cl
      rw [size_ch hl] at cl
      rw [e]
      congr 1
      omega
theorem eSp_s (sp : Sp) : PyData.tuple (sp.map eP) = eSp sp := rfl
theorem seq_sp (sp : Sp) : seqD (eSp sp) = some (sp.map eP) := rfl
theorem tup3 (a b c : D) : tupD [a, b, c] = some (.tuple [a, b, c]) := if_pos (by simp)
theorem slice5 (sp : Sp) (h : 5 ≤ sp.length) : sliceD (eSp sp) none (some 5) = some (eSp (sp.take 5)) := by
  show some (PyData.tuple (cutL (sp.map eP) none (some 5))) = _
  rw [cut_to (sp.map eP) (by decide) (by rw [List.length_map]; omega), ← List.map_take]
  rfl
theorem add_sp (a b : Sp) (h : a.length + b.length ≤ 16777216) : addD (eSp a) (eSp b) = some (eSp (a ++ b)) := by
  show addD (.tuple (a.map eP)) (.tuple (b.map eP)) = _
  rw [add_tt _ _ (by rw [List.length_map, List.length_map]; exact h), ← List.map_append]
  rfl
theorem spans_e {k : Int} {s : Pot} (h : PI k s) (hk : k + 1000 ≤ 1000000) : ∃ s', m__law_are_spans_right [] s = some (.bool true, s') ∧ PI (k + 500) s' := by
  obtain ⟨v, s1, e1, a0, a1, p1⟩ := take_e (n := 141) h (by omega) (by omega) (by omega)
  obtain ⟨n, s2, e2, b0, b1, p2⟩ := take_e (n := 21) p1 (by omega) (by omega) (by omega)
  generalize hL : 60 + v = L
  obtain ⟨sp, s3, e3, l3, r3, p3⟩ := fold_st (e := eP) (R := fun p => 0 ≤ p.1 ∧ p.1 < p.2 ∧ p.2 ≤ L) (st := 3) (N := k + 200) (f := fun a1366 d1367 => B (m__law_take [.int L]) fun x => B (DL.L (intL [x])) fun d1370 => B (DL.L (addD d1370 (.int 1))) fun x => B (DL.L (lstD [.int 20, .int 90])) fun x_1 => B (m__law_of [x_1]) fun x_2 => B (m__law_take [x_2]) fun x_3 => B (DL.L (intL [x_3])) fun x_4 => B (DL.L (addD x x_4)) fun x => B (DL.L (min2L [.int L, x])) fun x => B (DL.L (appL a1366 (.tuple [d1370, x]))) fun ys => P ys) (by decide) (eI (yards 0 (20 + n))) [] (k + 1 + 1) s2 p2 (by rw [eI_len, yards_len]; omega) (by rw [eI_len, yards_len]; simp; omega) fun d hd a k s hs hk ha => by
    obtain ⟨bg, t1, q1, c0, c1, w1⟩ := take_e (n := L) hs (by omega) (by omega) (by omega)
    obtain ⟨wd, t2, q2, hw, w2⟩ := of_e (xs := [20, 90]) w1 (by omega) (by simp) (by simp)
    have hwd : wd = 20 ∨ wd = 90 := by simpa using hw
    obtain ⟨x, t3, q3, d0, d1, w3⟩ := take_e (n := wd) w2 (by omega) (by omega) (by omega)
    refine ⟨(bg, min L (bg + 1 + x)), t3, ?_, ⟨c0, by show bg < min L (bg + 1 + x); omega, by show min L (bg + 1 + x) ≤ L; omega⟩, w3.mono (by omega)⟩
    rw [B_ap q1]
    simp only [int_i, show lstD [.int 20, .int 90] = some (.list (eI [20, 90])) from rfl, if_true, if_false, B_P, L_s, run0_P, mNone_P, ite_and, ite_or, ite_and', ite_or', ite_t, ite_f, boolD_b, lt_ii, le_ii, gt_ii, ge_ii, add_ii, sub_ii, neg_i, part_i, seq_t, seq_l, tup2, tup0, lst0, lst1, lstS0, tup_l, tup_t, len_t, len_l, u2_p, isi_tt, isi_ii, isi_bi, isi_ss, Bool.not_true, Bool.not_false, Bool.and_true, Bool.true_and, Bool.or_false, Bool.false_or]
    rw [B_ap q2, B_ap q3]
    simp only [int_i, min2_e, appL_lt (xs := a) (show a.length < 16777216 by omega), if_true, if_false, B_P, L_s, run0_P, mNone_P, ite_and, ite_or, ite_and', ite_or', ite_t, ite_f, boolD_b, lt_ii, le_ii, gt_ii, ge_ii, add_ii, sub_ii, neg_i, part_i, seq_t, seq_l, tup2, tup0, lst0, lst1, lstS0, tup_l, tup_t, len_t, len_l, u2_p, isi_tt, isi_ii, isi_bi, isi_ss, Bool.not_true, Bool.not_false, Bool.and_true, Bool.true_and, Bool.or_false, Bool.false_or]
    rfl
  rw [eI_len, yards_len] at l3 p3
  have hv : VSp L sp := ⟨by omega, by omega, by omega, r3⟩
  obtain ⟨o1, ho1, hr1⟩ := cover_e (m := 1) hv (by omega) (by omega)
  have hfe := fewest_e hv
  have hfq := fewest_eq hv hr1
  have ho1 : m_cover [.int L, eSp sp, .int 1] = some (eCov o1) := ho1
  show ∃ s', b__law_are_spans_right s = _ ∧ _
  unfold b__law_are_spans_right
  simp only [B_B, if_true, if_false, B_P, L_s, run0_P, mNone_P, ite_and, ite_or, ite_and', ite_or', ite_t, ite_f, boolD_b, lt_ii, le_ii, gt_ii, ge_ii, add_ii, sub_ii, neg_i, part_i, seq_t, seq_l, tup2, tup0, lst0, lst1, lstS0, tup_l, tup_t, len_t, len_l, u2_p, isi_tt, isi_ii, isi_bi, isi_ss, Bool.not_true, Bool.not_false, Bool.and_true, Bool.true_and, Bool.or_false, Bool.false_or]
  rw [B_ap e1]
  simp only [int_i, hL, if_true, if_false, B_P, L_s, run0_P, mNone_P, ite_and, ite_or, ite_and', ite_or', ite_t, ite_f, boolD_b, lt_ii, le_ii, gt_ii, ge_ii, add_ii, sub_ii, neg_i, part_i, seq_t, seq_l, tup2, tup0, lst0, lst1, lstS0, tup_l, tup_t, len_t, len_l, u2_p, isi_tt, isi_ii, isi_bi, isi_ss, Bool.not_true, Bool.not_false, Bool.and_true, Bool.true_and, Bool.or_false, Bool.false_or]
  rw [B_ap e2]
  simp only [B_B, range1_e (b := 20 + n) (by omega), if_true, if_false, B_P, L_s, run0_P, mNone_P, ite_and, ite_or, ite_and', ite_or', ite_t, ite_f, boolD_b, lt_ii, le_ii, gt_ii, ge_ii, add_ii, sub_ii, neg_i, part_i, seq_t, seq_l, tup2, tup0, lst0, lst1, lstS0, tup_l, tup_t, len_t, len_l, u2_p, isi_tt, isi_ii, isi_bi, isi_ss, Bool.not_true, Bool.not_false, Bool.and_true, Bool.true_and, Bool.or_false, Bool.false_or]
  rw [B_ap e3]
  simp only [List.nil_append, eSp_s, ho1, if_true, if_false, B_P, L_s, run0_P, mNone_P, ite_and, ite_or, ite_and', ite_or', ite_t, ite_f, boolD_b, lt_ii, le_ii, gt_ii, ge_ii, add_ii, sub_ii, neg_i, part_i, seq_t, seq_l, tup2, tup0, lst0, lst1, lstS0, tup_l, tup_t, len_t, len_l, u2_p, isi_tt, isi_ii, isi_bi, isi_ss, Bool.not_true, Bool.not_false, Bool.and_true, Bool.true_and, Bool.or_false, Bool.false_or]
  rw [cmp_map (g := eP) fun p _ => by
    unfold eP
    simp only [if_true, if_false, B_P, L_s, run0_P, mNone_P, ite_and, ite_or, ite_and', ite_or', ite_t, ite_f, boolD_b, lt_ii, le_ii, gt_ii, ge_ii, add_ii, sub_ii, neg_i, part_i, seq_t, seq_l, tup2, tup0, lst0, lst1, lstS0, tup_l, tup_t, len_t, len_l, u2_p, isi_tt, isi_ii, isi_bi, isi_ss, Bool.not_true, Bool.not_false, Bool.and_true, Bool.true_and, Bool.or_false, Bool.false_or]]
  obtain ⟨T, hT, hTc⟩ : ∃ T, ixD (eCov o1) (.int 0) = some T ∧ eqB T (.str ("cover" : Str)) = some (Fw sp L.toNat L).isSome := by
    cases o1 with
    | inl y => exact ⟨_, rfl, by rw [hfq.1 y rfl]; exact nc_e⟩
    | inr lot => exact ⟨_, rfl, by rw [hfq.2 lot rfl]; exact cc_e⟩
  have hif : (if (Fw sp L.toNat L).isSome = true then B (DL.L (ixD (eCov o1) (.int 1))) fun x => B (DL.L (lenD [x])) fun x1424 => DL.L (neB x1424 (eOI (Fw sp L.toNat L))) else (P false : M Pot Bool)) = P false := by
    cases o1 with
    | inl y =>
      rw [hfq.1 y rfl]
      rfl
    | inr lot =>
      rw [hfq.2 lot rfl]
      simp only [Option.isSome_some, ixC1, eI_len, eOI, ne_ii, decide_true, if_true, if_false, B_P, L_s, run0_P, mNone_P, ite_and, ite_or, ite_and', ite_or', ite_t, ite_f, boolD_b, lt_ii, le_ii, gt_ii, ge_ii, add_ii, sub_ii, neg_i, part_i, seq_t, seq_l, tup2, tup0, lst0, lst1, lstS0, tup_l, tup_t, len_t, len_l, u2_p, isi_tt, isi_ii, isi_bi, isi_ss, Bool.not_true, Bool.not_false, Bool.and_true, Bool.true_and, Bool.or_false, Bool.false_or]
  have ls : (sp.map eP).length ≤ 16777216 := by rw [List.length_map]; omega
  have hbk : (sp.map fun p : Int × Int => eP (L - p.2, L - p.1)) = (back L sp).map eP := by
    unfold back
    rw [List.map_map]
    rfl
  simp only [lstD_le ls, eSp_s, hfe, isntO1, hT, hTc, ne_bb, decide_true, Bool.false_eq_true, if_true, if_false, B_P, L_s, run0_P, mNone_P, ite_and, ite_or, ite_and', ite_or', ite_t, ite_f, boolD_b, lt_ii, le_ii, gt_ii, ge_ii, add_ii, sub_ii, neg_i, part_i, seq_t, seq_l, tup2, tup0, lst0, lst1, lstS0, tup_l, tup_t, len_t, len_l, u2_p, isi_tt, isi_ii, isi_bi, isi_ss, Bool.not_true, Bool.not_false, Bool.and_true, Bool.true_and, Bool.or_false, Bool.false_or]
  rw [hif]
  simp only [Bool.false_eq_true, if_true, if_false, B_P, L_s, run0_P, mNone_P, ite_and, ite_or, ite_and', ite_or', ite_t, ite_f, boolD_b, lt_ii, le_ii, gt_ii, ge_ii, add_ii, sub_ii, neg_i, part_i, seq_t, seq_l, tup2, tup0, lst0, lst1, lstS0, tup_l, tup_t, len_t, len_l, u2_p, isi_tt, isi_ii, isi_bi, isi_ss, Bool.not_true, Bool.not_false, Bool.and_true, Bool.true_and, Bool.or_false, Bool.false_or]
  rw [cmp_map (g := fun p : Int × Int => eP (L - p.2, L - p.1)) fun p _ => by
    unfold eP
    simp only [if_true, if_false, B_P, L_s, run0_P, mNone_P, ite_and, ite_or, ite_and', ite_or', ite_t, ite_f, boolD_b, lt_ii, le_ii, gt_ii, ge_ii, add_ii, sub_ii, neg_i, part_i, seq_t, seq_l, tup2, tup0, lst0, lst1, lstS0, tup_l, tup_t, len_t, len_l, u2_p, isi_tt, isi_ii, isi_bi, isi_ss, Bool.not_true, Bool.not_false, Bool.and_true, Bool.true_and, Bool.or_false, Bool.false_or], hbk]
  simp only [lstD_le (show ((back L sp).map eP).length ≤ 16777216 by unfold back; rw [List.length_map, List.length_map]; omega), eSp_s, tup3, if_true, if_false, B_P, L_s, run0_P, mNone_P, ite_and, ite_or, ite_and', ite_or', ite_t, ite_f, boolD_b, lt_ii, le_ii, gt_ii, ge_ii, add_ii, sub_ii, neg_i, part_i, seq_t, seq_l, tup2, tup0, lst0, lst1, lstS0, tup_l, tup_t, len_t, len_l, u2_p, isi_tt, isi_ii, isi_bi, isi_ss, Bool.not_true, Bool.not_false, Bool.and_true, Bool.true_and, Bool.or_false, Bool.false_or]
  refine foldF_go (R := fun mm : M Pot D => ∃ s', mm s3 = some (PyData.bool true, s') ∧ PI (k + 500) s') (fun a d hd => ?_) fun a => ⟨s3, rfl, p3.mono (by omega)⟩
  obtain ⟨m, rfl, m1, m3⟩ : ∃ m : Nat, d = .int m ∧ 1 ≤ m ∧ m ≤ 3 := by
    rcases List.mem_cons.mp hd with rfl | hd
    · exact ⟨1, rfl, by decide, by decide⟩
    · rcases List.mem_cons.mp hd with rfl | hd
      · exact ⟨2, rfl, by decide, by decide⟩
      · rw [List.mem_singleton.mp hd]
        exact ⟨3, rfl, by decide, by decide⟩
  obtain ⟨o, ho, hr⟩ := cover_e hv m1 (show m ≤ 8 by omega)
  obtain ⟨o', ho', hr'⟩ := cover_e (vsp_back hv) m1 (show m ≤ 8 by omega)
  have hsh := shows_e hv ho hr
  simp only [ho, ho', hsh, isnt_t, Bool.false_eq_true, if_true, if_false, B_P, L_s, run0_P, mNone_P, ite_and, ite_or, ite_and', ite_or', ite_t, ite_f, boolD_b, lt_ii, le_ii, gt_ii, ge_ii, add_ii, sub_ii, neg_i, part_i, seq_t, seq_l, tup2, tup0, lst0, lst1, lstS0, tup_l, tup_t, len_t, len_l, u2_p, isi_tt, isi_ii, isi_bi, isi_ss, Bool.not_true, Bool.not_false, Bool.and_true, Bool.true_and, Bool.or_false, Bool.false_or]
  have hbl : (back L sp).length = sp.length := by simp [back]
  cases hr with
  | @never y h0 h1 h2 =>
    obtain ⟨y', rfl⟩ : ∃ y', o' = .inl y' := by
      cases hr' with
      | @never y' _ _ _ => exact ⟨y', rfl⟩
      | @cover lot' hl' _ hf' _ => exact absurd (back_feas.mp (feas_ch hl' hf')) (never_feas h0 h1 h2)
    refine ⟨eCov (.inl y), ?_⟩
    simp only [ixN0, ixN1, neq_of nn_e, nn_e, Bool.false_eq_true, kF_nx, if_true, if_false, B_P, L_s, run0_P, mNone_P, ite_and, ite_or, ite_and', ite_or', ite_t, ite_f, boolD_b, lt_ii, le_ii, gt_ii, ge_ii, add_ii, sub_ii, neg_i, part_i, seq_t, seq_l, tup2, tup0, lst0, lst1, lstS0, tup_l, tup_t, len_t, len_l, u2_p, isi_tt, isi_ii, isi_bi, isi_ss, Bool.not_true, Bool.not_false, Bool.and_true, Bool.true_and, Bool.or_false, Bool.false_or]
    rw [cmp_filter (p := holds y) (g := eP) fun p _ => by
      simp only [ixP0, ixP1, if_true, if_false, B_P, L_s, run0_P, mNone_P, ite_and, ite_or, ite_and', ite_or', ite_t, ite_f, boolD_b, lt_ii, le_ii, gt_ii, ge_ii, add_ii, sub_ii, neg_i, part_i, seq_t, seq_l, tup2, tup0, lst0, lst1, lstS0, tup_l, tup_t, len_t, len_l, u2_p, isi_tt, isi_ii, isi_bi, isi_ss, Bool.not_true, Bool.not_false, Bool.and_true, Bool.true_and, Bool.or_false, Bool.false_or]
      rfl]
    have hf : (sp.filter (holds y)).length ≤ sp.length := List.length_filter_le _ _
    have hc := holds_cov sp y
    simp only [lstD_le (show ((sp.filter (holds y)).map eP).length ≤ 16777216 by rw [List.length_map]; omega), List.length_map, decide_eq_false (show ¬ ((m : Int) ≤ ((sp.filter (holds y)).length : Int)) by omega), Bool.false_eq_true, kF_nx, if_true, if_false, B_P, L_s, run0_P, mNone_P, ite_and, ite_or, ite_and', ite_or', ite_t, ite_f, boolD_b, lt_ii, le_ii, gt_ii, ge_ii, add_ii, sub_ii, neg_i, part_i, seq_t, seq_l, tup2, tup0, lst0, lst1, lstS0, tup_l, tup_t, len_t, len_l, u2_p, isi_tt, isi_ii, isi_bi, isi_ss, Bool.not_true, Bool.not_false, Bool.and_true, Bool.true_and, Bool.or_false, Bool.false_or]
  | @cover lot hl asc hf hm =>
    have hfe := feas_ch hl hf
    obtain ⟨lot', rfl, hl', hf', hm'⟩ := cov_feas hr' (back_feas.mpr hfe)
    have l1 : lot'.length ≤ lot.length := by
      have := hm' _ (back_feas.mpr hfe)
      rw [back_size] at this
      unfold size at this
      rwa [size_ch hl] at this
    have l2 : lot.length ≤ lot'.length := by
      have := hm _ (back_feas.mp (feas_ch hl' hf'))
      unfold size at this
      rw [hbl] at hl'
      rwa [size_ch hl'] at this
    obtain ⟨o2, ho2, hr2⟩ := cover_e (vsp_more hv (by omega)) m1 (show m ≤ 8 by omega)
    obtain ⟨lot2, rfl, _, _, hm2⟩ := cov_feas hr2 (more_feas (sq := sp.take 5) hfe)
    have l3 : lot2.length ≤ lot.length := by
      have := hm2 _ (more_feas (sq := sp.take 5) hfe)
      rw [more_size] at this
      unfold size at this
      rwa [size_ch hl] at this
    obtain ⟨yds, hy, hy1, hy2, hy3⟩ := apart_e hv (feas_mono hfe m1)
    have hyl := apart_le hy2 fun y hy => hf y (hy1 y hy).1 (hy1 y hy).2
    have hyl2 : (m : Int) * (yds.length : Int) ≤ (lot.length : Int) := by
      rw [← Int.natCast_mul]
      omega
    have hpre : (if decide (1 < (m : Int)) = true then B (DL.L (ixD (eCov (.inr lot)) (PyData.int 1))) fun x => B (DL.L (lenD [x])) fun x1557 => B (DL.L (m_cover [PyData.int L, eSp sp, PyData.int ((m : Int) - 1)])) fun x => B (DL.L (ixD x (PyData.int 1))) fun x => B (DL.L (lenD [x])) fun x => B (DL.L (addD x (PyData.int 1))) fun x1558 => DL.L (ltB x1557 x1558) else (P false : M Pot Bool)) = P false := by
      by_cases c : m = 1
      · rw [decide_eq_false (by omega)]
        rfl
      · rw [decide_eq_true (show (1 : Int) < (m : Int) by omega), if_pos rfl]
        obtain ⟨i, rest, rfl⟩ : ∃ i rest, lot = i :: rest := by
          cases lot with
          | nil =>
            have := hf 0 (by omega) (by omega)
            simp [cv] at this
            omega
          | cons i rest => exact ⟨i, rest, rfl⟩
        obtain ⟨q, rfl⟩ : ∃ q, m = q + 1 := ⟨m - 1, by omega⟩
        obtain ⟨g1, g2⟩ := feas_less hl hf
        obtain ⟨o3, ho3, hr3⟩ := cover_e (m := q) hv (by omega) (by omega)
        obtain ⟨lot3, rfl, _, _, hm3⟩ := cov_feas hr3 g1
        have := hm3 _ g1
        rw [g2] at this
        rw [show (((q + 1 : Nat) : Int) - 1) = (q : Int) by omega]
        simp only [ho3, ixC1, eI_len, List.length_cons, if_true, if_false, B_P, L_s, run0_P, mNone_P, ite_and, ite_or, ite_and', ite_or', ite_t, ite_f, boolD_b, lt_ii, le_ii, gt_ii, ge_ii, add_ii, sub_ii, neg_i, part_i, seq_t, seq_l, tup2, tup0, lst0, lst1, lstS0, tup_l, tup_t, len_t, len_l, u2_p, isi_tt, isi_ii, isi_bi, isi_ss, Bool.not_true, Bool.not_false, Bool.and_true, Bool.true_and, Bool.or_false, Bool.false_or]
        rw [decide_eq_false (show ¬ (((rest.length + 1 : Nat) : Int) < (lot3.length : Int) + 1) by omega)]
    refine ⟨eCov (.inr lot), ?_⟩
    simp only [ixC0, ixC1, neq_of cc_e, cn_e, Bool.false_eq_true, kF_nx, eI_len, ne_ii, decide_eq_true (show (lot'.length : Int) = (lot.length : Int) by omega), slice5 sp (by omega), add_sp sp (sp.take 5) (by rw [List.length_take]; omega), ho2, decide_eq_false (show ¬ ((lot.length : Int) < (lot2.length : Int)) by omega), if_true, if_false, B_P, L_s, run0_P, mNone_P, ite_and, ite_or, ite_and', ite_or', ite_t, ite_f, boolD_b, lt_ii, le_ii, gt_ii, ge_ii, add_ii, sub_ii, neg_i, part_i, seq_t, seq_l, tup2, tup0, lst0, lst1, lstS0, tup_l, tup_t, len_t, len_l, u2_p, isi_tt, isi_ii, isi_bi, isi_ss, Bool.not_true, Bool.not_false, Bool.and_true, Bool.true_and, Bool.or_false, Bool.false_or]
    have hpre2 := hpre
    simp only [ixC1, eI_len, if_true, if_false, B_P, L_s, run0_P, mNone_P, ite_and, ite_or, ite_and', ite_or', ite_t, ite_f, boolD_b, lt_ii, le_ii, gt_ii, ge_ii, add_ii, sub_ii, neg_i, part_i, seq_t, seq_l, tup2, tup0, lst0, lst1, lstS0, tup_l, tup_t, len_t, len_l, u2_p, isi_tt, isi_ii, isi_bi, isi_ss, Bool.not_true, Bool.not_false, Bool.and_true, Bool.true_and, Bool.or_false, Bool.false_or] at hpre2
    rw [hpre2]
    simp only [Bool.false_eq_true, kF_nx, hy, eI_len, mulT_i, mul_ii (i := (m : Int)) (j := (yds.length : Int)) (.inl (by omega)), decide_eq_false (show ¬ ((lot.length : Int) < (m : Int) * (yds.length : Int)) by omega), if_true, if_false, B_P, L_s, run0_P, mNone_P, ite_and, ite_or, ite_and', ite_or', ite_t, ite_f, boolD_b, lt_ii, le_ii, gt_ii, ge_ii, add_ii, sub_ii, neg_i, part_i, seq_t, seq_l, tup2, tup0, lst0, lst1, lstS0, tup_l, tup_t, len_t, len_l, u2_p, isi_tt, isi_ii, isi_bi, isi_ss, Bool.not_true, Bool.not_false, Bool.and_true, Bool.true_and, Bool.or_false, Bool.false_or]
    rw [cmp_map (g := fun p : Int × Int => .bool (decide (1 < ((yds.filter fun y => holds y p).length : Int)))) fun p _ => by
      rw [show eI yds = yds.map PyData.int from rfl, cmp_filter (p := fun y => holds y p) (g := PyData.int) fun y _ => by
        simp only [ixP0, ixP1, if_true, if_false, B_P, L_s, run0_P, mNone_P, ite_and, ite_or, ite_and', ite_or', ite_t, ite_f, boolD_b, lt_ii, le_ii, gt_ii, ge_ii, add_ii, sub_ii, neg_i, part_i, seq_t, seq_l, tup2, tup0, lst0, lst1, lstS0, tup_l, tup_t, len_t, len_l, u2_p, isi_tt, isi_ii, isi_bi, isi_ss, Bool.not_true, Bool.not_false, Bool.and_true, Bool.true_and, Bool.or_false, Bool.false_or]
        rfl]
      have : (yds.filter fun y => holds y p).length ≤ yds.length := List.length_filter_le _ _
      simp only [lstD_le (show ((yds.filter fun y => holds y p).map PyData.int).length ≤ 16777216 by rw [List.length_map]; omega), List.length_map, if_true, if_false, B_P, L_s, run0_P, mNone_P, ite_and, ite_or, ite_and', ite_or', ite_t, ite_f, boolD_b, lt_ii, le_ii, gt_ii, ge_ii, add_ii, sub_ii, neg_i, part_i, seq_t, seq_l, tup2, tup0, lst0, lst1, lstS0, tup_l, tup_t, len_t, len_l, u2_p, isi_tt, isi_ii, isi_bi, isi_ss, Bool.not_true, Bool.not_false, Bool.and_true, Bool.true_and, Bool.or_false, Bool.false_or]]
    have hany : (sp.any fun p : Int × Int => decide (1 < ((yds.filter fun y => holds y p).length : Int))) = false := List.any_eq_false.mpr fun p hp => by
      obtain ⟨i, hi, e⟩ := mem_at hp
      have := hy2 (i : Int)
      have e2 : (yds.filter fun y => hs sp (i : Int) y) = yds.filter fun y => holds y p := by
        rw [← e]
        rfl
      rw [e2] at this
      rw [decide_eq_true_eq]
      omega
    simp only [lstD_le (show (sp.map fun p : Int × Int => PyData.bool (decide (1 < ((yds.filter fun y => holds y p).length : Int)))).length ≤ 16777216 by rw [List.length_map]; omega), any_bools, hany, Bool.false_eq_true, kF_nx, if_true, if_false, B_P, L_s, run0_P, mNone_P, ite_and, ite_or, ite_and', ite_or', ite_t, ite_f, boolD_b, lt_ii, le_ii, gt_ii, ge_ii, add_ii, sub_ii, neg_i, part_i, seq_t, seq_l, tup2, tup0, lst0, lst1, lstS0, tup_l, tup_t, len_t, len_l, u2_p, isi_tt, isi_ii, isi_bi, isi_ss, Bool.not_true, Bool.not_false, Bool.and_true, Bool.true_and, Bool.or_false, Bool.false_or]
end K22

set_option Elab.async false
set_option linter.all false
set_option maxRecDepth 100000
set_option maxHeartbeats 2000000
namespace K22
open PySem PySem.Spec PyProof.Rows L2 DL
theorem t_law_e {st : Pot} (h : PI 0 st) : runT t_law st = some false := by
  obtain ⟨s', e⟩ := laps_all (f := fun d1616 => B (m__law_are_laid_right []) fun x1617 => B (DL.L (boolD x1617)) fun b1618 => B (if b1618 = true then m__law_are_spans_right [] else P (.bool false)) fun x1619 => P (some x1619)) (ds := eI (yards 0 2)) h (by rw [eI_len, yards_len]; decide) fun d hd k s hs hk => by
    obtain ⟨s1, e1, p1⟩ := laid_e hs (by omega)
    obtain ⟨s2, e2, p2⟩ := spans_e p1 (by omega)
    refine ⟨s2, ?_, p2.mono (by omega)⟩
    rw [B_ap e1]
    simp only [if_true, if_false, B_P, L_s, run0_P, mNone_P, ite_and, ite_or, ite_and', ite_or', ite_t, ite_f, boolD_b, lt_ii, le_ii, gt_ii, ge_ii, add_ii, sub_ii, neg_i, part_i, seq_t, seq_l, tup2, tup0, lst0, lst1, lstS0, tup_l, tup_t, len_t, len_l, u2_p, isi_tt, isi_ii, isi_bi, isi_ss, Bool.not_true, Bool.not_false, Bool.and_true, Bool.true_and, Bool.or_false, Bool.false_or]
    rw [B_ap e2]
    rfl
  have e3 : t_law = B (B (cmp (eI (yards 0 2)) fun d1616 => B (m__law_are_laid_right []) fun x1617 => B (DL.L (boolD x1617)) fun b1618 => B (if b1618 = true then m__law_are_spans_right [] else P (.bool false)) fun x1619 => P (some x1619)) fun o => B (DL.L (lstD o)) fun x => DL.L (allD [x])) (fun x1624 => B (DL.L (boolD x1624)) fun b => (P (!b) : M Pot Bool)) := by
    unfold t_law
    simp only [B_B, range1_e (b := 2) (by decide), if_true, if_false, B_P, L_s, run0_P, mNone_P, ite_and, ite_or, ite_and', ite_or', ite_t, ite_f, boolD_b, lt_ii, le_ii, gt_ii, ge_ii, add_ii, sub_ii, neg_i, part_i, seq_t, seq_l, tup2, tup0, lst0, lst1, lstS0, tup_l, tup_t, len_t, len_l, u2_p, isi_tt, isi_ii, isi_bi, isi_ss, Bool.not_true, Bool.not_false, Bool.and_true, Bool.true_and, Bool.or_false, Bool.false_or]
  unfold runT
  rw [e3, B_ap e]
  rfl
theorem law_true (ns : List Int) (h : ns.length ≤ 63) : m_law ns [] = some (.bool true) := law_of (fun _ h => t_law_e h) ns h
end K22

set_option Elab.async false
set_option linter.all false
set_option maxRecDepth 100000
set_option maxHeartbeats 2000000
/-! DLEnd: the end of a law with tables of code objects. -/
namespace DL
open PySem PySem.Spec PyProof.Rows L2
section
variable {P : Program} {w : World} {K : PySem.W.Frag} {mg : Str → Option Value} {base : Heap}
/-- a list stands still -/
theorem HOk.lockL {H : Hp} {h : Heap} {a : Addr} {xs : List V} (hk : HOk P w H h) (e : H a = some (.lst xs)) : ∃ o, HOk P w (upd H a (.frz o (.lst xs))) h := by
  have x := hk a _ e
  obtain ⟨o, ho⟩ : ∃ o, h.get? a = some o := by
    obtain ⟨_, _, _, _, q⟩ := x
    exact ⟨_, q⟩
  have up : ∀ b u, H b = some u → (∀ ys, u ≠ .lst ys) → upd H a (.frz o (.lst xs)) b = some u := fun b u q n => by
    rw [upd_ne fun z => by
      rw [z, e] at q
      exact n xs (Option.some.inj q).symm]
    exact q
  refine ⟨o, fun b u q => ?_⟩
  by_cases c : b = a
  · subst c
    rw [upd_same] at q
    cases q
    exact ⟨ho, x⟩
  · rw [upd_ne c] at q
    exact (hk b u q).stay (fun c v _ q => q) (fun b q => up b _ q fun _ z => nomatch z) fun b xs q => up b _ q fun _ z => nomatch z
/-- the law's def: the script may be a list of one's own -/
def spLaw (TT : List (Addr × Str)) (K : PySem.W.Frag) (f : List Int → List D → Option D) : Sp := fun vs F Q E => spScr TT K f vs F Q E ∨ ∃ a xs, vs = [.ref a] ∧ F a = some (.lst xs) ∧ ∀ o, spScr TT K f vs (upd F a (.frz o (.lst xs))) Q E
theorem FnOk.lawL {k : Nat} {f : Addr} {fd : FuncData} {ps : List Str} {TT : List (Addr × Str)} {mf : List Int → List D → Option D} (Fn : FnOk P w K mg base CX0 k f fd ps (spScr TT K mf)) : FnOk P w K mg base CX0 k f fd ps (spLaw TT K mf) := by
  refine ⟨fun vs H Q E h => ?_, fun A outer s H args us vs Q E hr he hb hv h => ?_⟩
  · rcases h with h | ⟨a, xs, _, _, h⟩
    · exact Fn.len _ _ _ _ h
    · exact Fn.len _ _ _ _ (h default)
  · rcases h with h | ⟨a, xs, _, e, h⟩
    · exact Fn.run A outer s H args us vs Q E hr he hb hv h
    · obtain ⟨o, ho⟩ := HOk.lockL he.hok e
      have nn : ∀ b, H b = none → upd H a (.frz o (.lst xs)) b = none := fun b q => by
        rw [upd_ne fun z => by
          rw [z, e] at q
          cases q]
        exact q
      refine codeAny_mono (Fn.run A outer s (upd H a (.frz o (.lst xs))) args us vs Q E hr ⟨he.frames, he.mod, fun b ob q => ⟨(he.bs b ob q).1, nn b (he.bs b ob q).2⟩, he.bsz, he.funs, fun b q => nn b (he.frf b q), ho, he.bare⟩ hb hv (h o)) fun r s' q => ?_
      cases r with
      | error er => exact q
      | ok fl =>
        cases fl with
        | next => exact q
        | brk => exact q
        | cont => exact q
        | ret u =>
          obtain ⟨v, H', c1, c2, un, c4, c5, c6⟩ := q
          have ne : ∀ b (u : HO), H b = some u → (∀ ys, u ≠ .lst ys) → upd H a (.frz o (.lst xs)) b = some u := fun b u q n => by
            rw [upd_ne fun z => by
              rw [z, e] at q
              exact n xs (Option.some.inj q).symm]
            exact q
          exact ⟨v, H', c1, c2, ⟨fun b ob g n => un.keep b ob g (nn b n), fun b ob g n => un.slot b ob g (nn b n), fun b ob g n => un.free b ob g (nn b n), un.there, fun b xs q => un.tups b xs (ne b _ q fun _ z => nomatch z), fun b ob u q => un.frzs b ob u (ne b _ q fun _ z => nomatch z), fun b ps q => un.tbls b ps (ne b _ q fun _ z => nomatch z)⟩, c4, c5, c6⟩
/-- what the law's def is promised, at a heap with empty tables -/
theorem law_sp {TT : List (Addr × Str)} {mf : List Int → List D → Option D} {H : Hp} {a : Addr} {ns : List Int} (hm : mf ns [] = some (.bool true)) (hT : ∀ p ∈ TT, H p.1 = some (.tbl #[])) (hK : ∀ p ∈ TT, K.lookup p.1 = none) (hS : SqL K H a (ns.map V.int)) : spLaw TT K mf [.ref a] H (fun v _ => v = .bl true) fun _ _ _ => False := by
  have key : ∀ F : Hp, (∀ p ∈ TT, F p.1 = some (.tbl #[])) → ScrR K F a ns → spScr TT K mf [.ref a] F (fun v _ => v = .bl true) fun _ _ _ => False := fun F hF hs => by
    refine ⟨a, [], ns, fun _ => none, [], .bool true, rfl, fun t => ?_, hs, (fun _ _ z => nomatch z), fun p hp => ⟨rfl, #[], hF p hp, ?_, fun pos cv hc => ?_⟩, .nil, hm, fun v H' F' _ _ r => ?_⟩
    · obtain ⟨p, hp, e⟩ := t
      rcases hs with ⟨o, q⟩ | ⟨o, _, _, q, _⟩
      · rw [← e, hF p hp] at q
        cases q
      · rw [← e, hK p hp] at q
        cases q
    · first | exact trivial | exact .nil | (intro _ h; cases h)
    · cases hc
    · cases r
      rfl
  rcases hS with (h | h) | h
  · refine .inr ⟨a, _, rfl, h, fun o => key _ (fun p hp => ?_) (.inl ⟨o, upd_same⟩)⟩
    rw [upd_ne fun z => by
      have := hT p hp
      rw [z, h] at this
      cases this]
    exact hT p hp
  · exact .inl (key H hT (.inl h))
  · exact .inl (key H hT (.inr h))
end
end DL

set_option Elab.async false
set_option linter.all false
set_option maxRecDepth 100000
set_option maxHeartbeats 0
namespace K22
open PySem PySem.Spec PyProof.Rows L2 DL
/-! ### the head -/
def e_is_tuple : He.DefD := ⟨("is_tuple", none), "is_tuple", "is_tuple", defArgs (topS 1), defBody (topS 1), defScope (topS 1), [], []⟩
def e_is_whole : He.DefD := ⟨("is_whole", none), "is_whole", "is_whole", defArgs (topS 2), defBody (topS 2), defScope (topS 2), [], []⟩
def e_is_integer : He.DefD := ⟨("is_integer", none), "is_integer", "is_integer", defArgs (topS 3), defBody (topS 3), defScope (topS 3), [], []⟩
def e_is_word : He.DefD := ⟨("is_word", none), "is_word", "is_word", defArgs (topS 4), defBody (topS 4), defScope (topS 4), [], []⟩
def e_is_strand : He.DefD := ⟨("is_strand", none), "is_strand", "is_strand", defArgs (topS 16), defBody (topS 16), defScope (topS 16), [], []⟩
def e_is_band : He.DefD := ⟨("is_band", none), "is_band", "is_band", defArgs (topS 17), defBody (topS 17), defScope (topS 17), [], []⟩
def e_check_band : He.DefD := ⟨("check_band", none), "check_band", "check_band", defArgs (topS 18), defBody (topS 18), defScope (topS 18), [], []⟩
def e_is_strands : He.DefD := ⟨("is_strands", none), "is_strands", "is_strands", defArgs (topS 29), defBody (topS 29), defScope (topS 29), [], []⟩
def e_check_strands : He.DefD := ⟨("check_strands", none), "check_strands", "check_strands", defArgs (topS 30), defBody (topS 30), defScope (topS 30), [], []⟩
def e_sums_of : He.DefD := ⟨("sums_of", none), "sums_of", "sums_of", defArgs (topS 31), defBody (topS 31), defScope (topS 31), [], []⟩
def e_is_right : He.DefD := ⟨("is_right", none), "is_right", "is_right", defArgs (topS 32), defBody (topS 32), defScope (topS 32), [], []⟩
def e_ways_with : He.DefD := ⟨("ways_with", none), "ways_with", "ways_with", defArgs (topS 33), defBody (topS 33), defScope (topS 33), [], []⟩
def e_least_laid : He.DefD := ⟨("least_laid", none), "least_laid", "least_laid", defArgs (topS 34), defBody (topS 34), defScope (topS 34), [], []⟩
def e_shows_laid : He.DefD := ⟨("shows_laid", none), "shows_laid", "shows_laid", defArgs (topS 35), defBody (topS 35), defScope (topS 35), [], []⟩
def e_is_spans : He.DefD := ⟨("is_spans", none), "is_spans", "is_spans", defArgs (topS 36), defBody (topS 36), defScope (topS 36), [], []⟩
def e_check_spans : He.DefD := ⟨("check_spans", none), "check_spans", "check_spans", defArgs (topS 37), defBody (topS 37), defScope (topS 37), [], []⟩
def e_covered : He.DefD := ⟨("covered", none), "covered", "covered", defArgs (topS 38), defBody (topS 38), defScope (topS 38), [], []⟩
def e_cover : He.DefD := ⟨("cover", none), "cover", "cover", defArgs (topS 39), defBody (topS 39), defScope (topS 39), [], []⟩
def e_shows_cover : He.DefD := ⟨("shows_cover", none), "shows_cover", "shows_cover", defArgs (topS 40), defBody (topS 40), defScope (topS 40), [], []⟩
def e_apart_yards : He.DefD := ⟨("apart_yards", none), "apart_yards", "apart_yards", defArgs (topS 41), defBody (topS 41), defScope (topS 41), [], []⟩
def e__law_pot : He.DefD := ⟨("_law_pot", none), "_law_pot", "_law_pot", defArgs (topS 43), defBody (topS 43), defScope (topS 43), [], []⟩
def e__law_take : He.DefD := ⟨("_law_take", none), "_law_take", "_law_take", defArgs (topS 44), defBody (topS 44), defScope (topS 44), [], []⟩
def e__law_of : He.DefD := ⟨("_law_of", none), "_law_of", "_law_of", defArgs (topS 45), defBody (topS 45), defScope (topS 45), [], []⟩
def e__law_places : He.DefD := ⟨("_law_places", none), "_law_places", "_law_places", defArgs (topS 46), defBody (topS 46), defScope (topS 46), [], []⟩
def e__law_some : He.DefD := ⟨("_law_some", none), "_law_some", "_law_some", defArgs (topS 47), defBody (topS 47), defScope (topS 47), [], []⟩
def e__law_strand : He.DefD := ⟨("_law_strand", none), "_law_strand", "_law_strand", defArgs (topS 48), defBody (topS 48), defScope (topS 48), [], []⟩
def e__law_sums : He.DefD := ⟨("_law_sums", none), "_law_sums", "_law_sums", defArgs (topS 49), defBody (topS 49), defScope (topS 49), [], []⟩
def e__law_few : He.DefD := ⟨("_law_few", none), "_law_few", "_law_few", defArgs (topS 50), defBody (topS 50), defScope (topS 50), [], []⟩
def e__law_own_few : He.DefD := ⟨("_law_own_few", none), "_law_own_few", "_law_own_few", defArgs (topS 51), defBody (topS 51), defScope (topS 51), [], []⟩
def e__law_are_laid_right : He.DefD := ⟨("_law_are_laid_right", none), "_law_are_laid_right", "_law_are_laid_right", defArgs (topS 52), defBody (topS 52), defScope (topS 52), [], []⟩
def e__law_fewest : He.DefD := ⟨("_law_fewest", none), "_law_fewest", "_law_fewest", defArgs (topS 53), defBody (topS 53), defScope (topS 53), [], []⟩
def e__law_are_spans_right : He.DefD := ⟨("_law_are_spans_right", none), "_law_are_spans_right", "_law_are_spans_right", defArgs (topS 54), defBody (topS 54), defScope (topS 54), [], []⟩
def e_law : He.DefD := ⟨("law", none), "law", "law", defArgs (topS 55), defBody (topS 55), defScope (topS 55), [], []⟩
def fn0 : List He.DefD := [e_is_tuple, e_is_whole, e_is_integer, e_is_word, e_is_strand, e_is_band, e_check_band, e_is_strands, e_check_strands, e_sums_of, e_is_right, e_ways_with, e_least_laid, e_shows_laid, e_is_spans, e_check_spans, e_covered, e_cover, e_shows_cover, e_apart_yards]
def fn1 : List He.DefD := [e__law_pot, e__law_take, e__law_of, e__law_places, e__law_some, e__law_strand, e__law_sums, e__law_few, e__law_own_few, e__law_are_laid_right, e__law_fewest, e__law_are_spans_right, e_law]
def fn : List He.DefD := fn0 ++ fn1
def fa0 : List He.Fa := [.glo "is_tuple", .glo "is_whole", .glo "is_integer", .glo "is_word", .glo "is_strand", .glo "is_band", .glo "check_band", .glo "is_strands", .glo "check_strands", .glo "sums_of", .glo "is_right", .glo "ways_with", .glo "least_laid", .glo "shows_laid", .glo "is_spans", .glo "check_spans", .glo "covered", .glo "cover", .glo "shows_cover", .glo "apart_yards"]
def fa1 : List He.Fa := [.glo "_law_pot", .glo "_law_take", .glo "_law_of", .glo "_law_places", .glo "_law_some", .glo "_law_strand", .glo "_law_sums", .glo "_law_few", .glo "_law_own_few", .glo "_law_are_laid_right", .glo "_law_fewest", .glo "_law_are_spans_right", .glo "law", .str "COVER" "cover", .str "LAID" "laid", .int "MOST_BESIDE" 8, .int "MOST_LAID" 5, .int "MOST_LONG" 12, .int "MOST_SPANS" 60, .int "MOST_STRENGTH" 100]
def fa2 : List He.Fa := [.int "MOST_SUM" 1000, .int "MOST_YARDS_laying" 200, .int "MOST_YARDS_strands" 60, .str "NEVER" "never", .int "PAIR_laying" 2, .int "PAIR_strands" 2, .free "abs", .free "all", .free "any", .free "bool", .free "enumerate", .free "int", .free "isinstance", .free "len", .free "list", .free "max", .free "min", .free "range", .free "set", .free "sorted"]
def fa3 : List He.Fa := [.free "str", .free "sum", .free "tuple", .free "zip"]
def fa : List He.Fa := fa0 ++ fa1 ++ fa2 ++ fa3
def loose0 : List PySem.Str := ["is_tuple", "is_whole", "is_integer", "is_word", "ThreadError", "BadBand", "BadNumber", "BadStrands", "BadSpans", "MOST_YARDS_strands", "MOST_STRENGTH", "MOST_SUM", "PAIR_strands", "is_strand", "is_band", "check_band", "MOST_LAID", "MOST_LONG", "MOST_SPANS", "MOST_YARDS_laying"]
def loose1 : List PySem.Str := ["MOST_BESIDE", "PAIR_laying", "LAID", "COVER", "NEVER", "is_strands", "check_strands", "sums_of", "is_right", "ways_with", "least_laid", "shows_laid", "is_spans", "check_spans", "covered", "cover", "shows_cover", "apart_yards", "_law_pot", "_law_take"]
def loose2 : List PySem.Str := ["_law_of", "_law_places", "_law_some", "_law_strand", "_law_sums", "_law_few", "_law_own_few", "_law_are_laid_right", "_law_fewest", "_law_are_spans_right"]
def loose : List PySem.Str := loose0 ++ loose1 ++ loose2
/-- the defs with lambdas -/
def tf : List He.Defn := [("least_laid", none)]
def tq (p : He.Defn) : PySem.Str := p.1 ++ ".<locals>." ++ "<lambda>"
/-- no two have one table -/
def apart (K : PySem.W.Frag) : Bool := tf.all fun p => tf.all fun q => decide (p = q) || decide ((He.cT K p).2 ≠ (He.cT K q).2)
def cs (K : PySem.W.Frag) : List (Addr × Addr) := tf.map (He.cT K)
def TT (K : PySem.W.Frag) : List (Addr × PySem.Str) := tf.map fun p => ((He.cT K p).2, tq p)
abbrev R : PySem.W.OpenRow := PySem.W.OpenLaw.row PySem.Challenge.rw_reeledeven_k22_strands_laid_and_spans_at
abbrev qv : PySem.Program := PySem.W.view R.prog [55]
abbrev hk : PySem.W.Hook := He.hookX 4 fa fn [] tf apart
def ob (s : PySem.W.SharedT) : He.AlX := He.obsX 4 fa fn [] tf apart (HandSHeadRun.getT s)
theorem ob_eq (s : PySem.W.SharedT) : ob s = hk.obs s.abs := He.obsX_eq (HandSHeadRun.getT_eq s)
theorem run (w : World) : HandSHeadRun.RunEq R qv hk ob 6000 loose w := by
  intro os
  kernel_rfl
theorem lam_of {K : PySem.W.Frag} {mg : Str → Option Value} {base : Heap} (ha : apart K = true) (hT : ∀ p ∈ cs K, LamX.TabB base mg p.1 p.2) {p : He.Defn} (hp : p ∈ tf) {x : Str} (hx : p = (x, none)) : LamD K mg base (TT K) x (x ++ ".<locals>." ++ "<lambda>") := by
  subst hx
  refine ⟨_, hT _ (List.mem_map_of_mem hp), List.mem_map_of_mem (f := fun p => ((He.cT K p).2, tq p)) hp, fun t ht e => ?_⟩
  obtain ⟨q, hq, rfl⟩ := List.mem_map.mp ht
  have h1 := List.all_eq_true.mp (List.all_eq_true.mp ha q hq) _ hp
  rw [Bool.or_eq_true, decide_eq_true_eq, decide_eq_true_eq] at h1
  rcases h1 with h1 | h1
  · rw [h1]
    rfl
  · exact absurd e h1
theorem facts {K : PySem.W.Frag} {h base : Heap} {mg : Str → Option Value} (X : K.In h) (G : h.Ns mainGlobals mg) (c : He.SaysD fa fn K) (ha : apart K = true) (hT : ∀ p ∈ cs K, LamX.TabB base mg p.1 p.2) : Fx K mg base (TT K) where
  f_is_tuple := ⟨He.glo_ok X G (c.fact 0 (f := .glo "is_tuple") rfl), let ⟨fd, F⟩ := c.def_ 0 (d := e_is_tuple) rfl; ⟨fd, He5.fun_of F⟩⟩
  f_is_whole := ⟨He.glo_ok X G (c.fact 1 (f := .glo "is_whole") rfl), let ⟨fd, F⟩ := c.def_ 1 (d := e_is_whole) rfl; ⟨fd, He5.fun_of F⟩⟩
  f_is_integer := ⟨He.glo_ok X G (c.fact 2 (f := .glo "is_integer") rfl), let ⟨fd, F⟩ := c.def_ 2 (d := e_is_integer) rfl; ⟨fd, He5.fun_of F⟩⟩
  f_is_word := ⟨He.glo_ok X G (c.fact 3 (f := .glo "is_word") rfl), let ⟨fd, F⟩ := c.def_ 3 (d := e_is_word) rfl; ⟨fd, He5.fun_of F⟩⟩
  f_is_strand := ⟨He.glo_ok X G (c.fact 4 (f := .glo "is_strand") rfl), let ⟨fd, F⟩ := c.def_ 4 (d := e_is_strand) rfl; ⟨fd, He5.fun_of F⟩⟩
  f_is_band := ⟨He.glo_ok X G (c.fact 5 (f := .glo "is_band") rfl), let ⟨fd, F⟩ := c.def_ 5 (d := e_is_band) rfl; ⟨fd, He5.fun_of F⟩⟩
  f_check_band := ⟨He.glo_ok X G (c.fact 6 (f := .glo "check_band") rfl), let ⟨fd, F⟩ := c.def_ 6 (d := e_check_band) rfl; ⟨fd, He5.fun_of F⟩⟩
  f_is_strands := ⟨He.glo_ok X G (c.fact 7 (f := .glo "is_strands") rfl), let ⟨fd, F⟩ := c.def_ 7 (d := e_is_strands) rfl; ⟨fd, He5.fun_of F⟩⟩
  f_check_strands := ⟨He.glo_ok X G (c.fact 8 (f := .glo "check_strands") rfl), let ⟨fd, F⟩ := c.def_ 8 (d := e_check_strands) rfl; ⟨fd, He5.fun_of F⟩⟩
  f_sums_of := ⟨He.glo_ok X G (c.fact 9 (f := .glo "sums_of") rfl), let ⟨fd, F⟩ := c.def_ 9 (d := e_sums_of) rfl; ⟨fd, He5.fun_of F⟩⟩
  f_is_right := ⟨He.glo_ok X G (c.fact 10 (f := .glo "is_right") rfl), let ⟨fd, F⟩ := c.def_ 10 (d := e_is_right) rfl; ⟨fd, He5.fun_of F⟩⟩
  f_ways_with := ⟨He.glo_ok X G (c.fact 11 (f := .glo "ways_with") rfl), let ⟨fd, F⟩ := c.def_ 11 (d := e_ways_with) rfl; ⟨fd, He5.fun_of F⟩⟩
  f_least_laid := ⟨He.glo_ok X G (c.fact 12 (f := .glo "least_laid") rfl), let ⟨fd, F⟩ := c.def_ 12 (d := e_least_laid) rfl; ⟨fd, He5.fun_of F⟩⟩
  f_shows_laid := ⟨He.glo_ok X G (c.fact 13 (f := .glo "shows_laid") rfl), let ⟨fd, F⟩ := c.def_ 13 (d := e_shows_laid) rfl; ⟨fd, He5.fun_of F⟩⟩
  f_is_spans := ⟨He.glo_ok X G (c.fact 14 (f := .glo "is_spans") rfl), let ⟨fd, F⟩ := c.def_ 14 (d := e_is_spans) rfl; ⟨fd, He5.fun_of F⟩⟩
  f_check_spans := ⟨He.glo_ok X G (c.fact 15 (f := .glo "check_spans") rfl), let ⟨fd, F⟩ := c.def_ 15 (d := e_check_spans) rfl; ⟨fd, He5.fun_of F⟩⟩
  f_covered := ⟨He.glo_ok X G (c.fact 16 (f := .glo "covered") rfl), let ⟨fd, F⟩ := c.def_ 16 (d := e_covered) rfl; ⟨fd, He5.fun_of F⟩⟩
  f_cover := ⟨He.glo_ok X G (c.fact 17 (f := .glo "cover") rfl), let ⟨fd, F⟩ := c.def_ 17 (d := e_cover) rfl; ⟨fd, He5.fun_of F⟩⟩
  f_shows_cover := ⟨He.glo_ok X G (c.fact 18 (f := .glo "shows_cover") rfl), let ⟨fd, F⟩ := c.def_ 18 (d := e_shows_cover) rfl; ⟨fd, He5.fun_of F⟩⟩
  f_apart_yards := ⟨He.glo_ok X G (c.fact 19 (f := .glo "apart_yards") rfl), let ⟨fd, F⟩ := c.def_ 19 (d := e_apart_yards) rfl; ⟨fd, He5.fun_of F⟩⟩
  f__law_pot := ⟨He.glo_ok X G (c.fact 20 (f := .glo "_law_pot") rfl), let ⟨fd, F⟩ := c.def_ 20 (d := e__law_pot) rfl; ⟨fd, He5.fun_of F⟩⟩
  f__law_take := ⟨He.glo_ok X G (c.fact 21 (f := .glo "_law_take") rfl), let ⟨fd, F⟩ := c.def_ 21 (d := e__law_take) rfl; ⟨fd, He5.fun_of F⟩⟩
  f__law_of := ⟨He.glo_ok X G (c.fact 22 (f := .glo "_law_of") rfl), let ⟨fd, F⟩ := c.def_ 22 (d := e__law_of) rfl; ⟨fd, He5.fun_of F⟩⟩
  f__law_places := ⟨He.glo_ok X G (c.fact 23 (f := .glo "_law_places") rfl), let ⟨fd, F⟩ := c.def_ 23 (d := e__law_places) rfl; ⟨fd, He5.fun_of F⟩⟩
  f__law_some := ⟨He.glo_ok X G (c.fact 24 (f := .glo "_law_some") rfl), let ⟨fd, F⟩ := c.def_ 24 (d := e__law_some) rfl; ⟨fd, He5.fun_of F⟩⟩
  f__law_strand := ⟨He.glo_ok X G (c.fact 25 (f := .glo "_law_strand") rfl), let ⟨fd, F⟩ := c.def_ 25 (d := e__law_strand) rfl; ⟨fd, He5.fun_of F⟩⟩
  f__law_sums := ⟨He.glo_ok X G (c.fact 26 (f := .glo "_law_sums") rfl), let ⟨fd, F⟩ := c.def_ 26 (d := e__law_sums) rfl; ⟨fd, He5.fun_of F⟩⟩
  f__law_few := ⟨He.glo_ok X G (c.fact 27 (f := .glo "_law_few") rfl), let ⟨fd, F⟩ := c.def_ 27 (d := e__law_few) rfl; ⟨fd, He5.fun_of F⟩⟩
  f__law_own_few := ⟨He.glo_ok X G (c.fact 28 (f := .glo "_law_own_few") rfl), let ⟨fd, F⟩ := c.def_ 28 (d := e__law_own_few) rfl; ⟨fd, He5.fun_of F⟩⟩
  f__law_are_laid_right := ⟨He.glo_ok X G (c.fact 29 (f := .glo "_law_are_laid_right") rfl), let ⟨fd, F⟩ := c.def_ 29 (d := e__law_are_laid_right) rfl; ⟨fd, He5.fun_of F⟩⟩
  f__law_fewest := ⟨He.glo_ok X G (c.fact 30 (f := .glo "_law_fewest") rfl), let ⟨fd, F⟩ := c.def_ 30 (d := e__law_fewest) rfl; ⟨fd, He5.fun_of F⟩⟩
  f__law_are_spans_right := ⟨He.glo_ok X G (c.fact 31 (f := .glo "_law_are_spans_right") rfl), let ⟨fd, F⟩ := c.def_ 31 (d := e__law_are_spans_right) rfl; ⟨fd, He5.fun_of F⟩⟩
  f_law := ⟨He.glo_ok X G (c.fact 32 (f := .glo "law") rfl), let ⟨fd, F⟩ := c.def_ 32 (d := e_law) rfl; ⟨fd, He5.fun_of F⟩⟩
  c_COVER := He.str_ok X G (c.fact 33 (f := .str "COVER" "cover") rfl)
  c_LAID := He.str_ok X G (c.fact 34 (f := .str "LAID" "laid") rfl)
  c_MOST_BESIDE := He.int_ok X G (c.fact 35 (f := .int "MOST_BESIDE" 8) rfl)
  c_MOST_LAID := He.int_ok X G (c.fact 36 (f := .int "MOST_LAID" 5) rfl)
  c_MOST_LONG := He.int_ok X G (c.fact 37 (f := .int "MOST_LONG" 12) rfl)
  c_MOST_SPANS := He.int_ok X G (c.fact 38 (f := .int "MOST_SPANS" 60) rfl)
  c_MOST_STRENGTH := He.int_ok X G (c.fact 39 (f := .int "MOST_STRENGTH" 100) rfl)
  c_MOST_SUM := He.int_ok X G (c.fact 40 (f := .int "MOST_SUM" 1000) rfl)
  c_MOST_YARDS_laying := He.int_ok X G (c.fact 41 (f := .int "MOST_YARDS_laying" 200) rfl)
  c_MOST_YARDS_strands := He.int_ok X G (c.fact 42 (f := .int "MOST_YARDS_strands" 60) rfl)
  c_NEVER := He.str_ok X G (c.fact 43 (f := .str "NEVER" "never") rfl)
  c_PAIR_laying := He.int_ok X G (c.fact 44 (f := .int "PAIR_laying" 2) rfl)
  c_PAIR_strands := He.int_ok X G (c.fact 45 (f := .int "PAIR_strands" 2) rfl)
  n_abs := He.free_ok X G (c.fact 46 (f := .free "abs") rfl)
  n_all := He.free_ok X G (c.fact 47 (f := .free "all") rfl)
  n_any := He.free_ok X G (c.fact 48 (f := .free "any") rfl)
  n_bool := He.free_ok X G (c.fact 49 (f := .free "bool") rfl)
  n_enumerate := He.free_ok X G (c.fact 50 (f := .free "enumerate") rfl)
  n_int := He.free_ok X G (c.fact 51 (f := .free "int") rfl)
  n_isinstance := He.free_ok X G (c.fact 52 (f := .free "isinstance") rfl)
  n_len := He.free_ok X G (c.fact 53 (f := .free "len") rfl)
  n_list := He.free_ok X G (c.fact 54 (f := .free "list") rfl)
  n_max := He.free_ok X G (c.fact 55 (f := .free "max") rfl)
  n_min := He.free_ok X G (c.fact 56 (f := .free "min") rfl)
  n_range := He.free_ok X G (c.fact 57 (f := .free "range") rfl)
  n_set := He.free_ok X G (c.fact 58 (f := .free "set") rfl)
  n_sorted := He.free_ok X G (c.fact 59 (f := .free "sorted") rfl)
  n_str := He.free_ok X G (c.fact 60 (f := .free "str") rfl)
  n_sum := He.free_ok X G (c.fact 61 (f := .free "sum") rfl)
  n_tuple := He.free_ok X G (c.fact 62 (f := .free "tuple") rfl)
  n_zip := He.free_ok X G (c.fact 63 (f := .free "zip") rfl)
  t_least_laid := lam_of ha hT (p := ("least_laid", none)) (by decide) rfl
  pl := ⟨He.free_ok X G (c.fact 46 (f := .free "abs") rfl), He.free_ok X G (c.fact 53 (f := .free "len") rfl)⟩
end K22
open PySem PySem.W PySem.Calls PyProof.Rows
theorem PySem.Challenge.cw_reeledeven_k22_strands_laid_and_spans_at_holds : PySem.Challenge.rw_reeledeven_k22_strands_laid_and_spans_at.Holds := by
  w_on; o_law
  refine HandSHeadRun.head_any (r := OpenLaw.row PySem.Challenge.rw_reeledeven_k22_strands_laid_and_spans_at) (q := K22.qv) (H := K22.hk) (ob := K22.ob) (M := 6000) (loose := K22.loose) (d := HandSHeadRun.topDef (OpenLaw.row PySem.Challenge.rw_reeledeven_k22_strands_laid_and_spans_at).prog 55) (kwd := []) K22.ob_eq
    (by kernel_rfl) (fun s => by kernel_rfl) K22.run (by kernel_rfl) (by kernel_rfl) (by kernel_rfl) (by rfl) (by first | assumption | decide +kernel) (by decide +kernel) ⟨rfl, rfl, rfl, rfl, rfl, by decide +kernel⟩ ?hw ?hc
  case hw => w_witness2
  case hc =>
    refine LamX.walk_ofTsE (l := PySem.Challenge.rw_reeledeven_k22_strands_laid_and_spans_at) (n := 63) (k := 9) (x := "script") (CX := fun _ => L2.CX0) rfl (by decide) (by kernel_rfl) ⟨rfl, by decide, by decide⟩ ?F (fun _ _ _ _ _ z => z)
    intro w mg fa h Y G hmg0
    obtain ⟨K, KX, cx⟩ := Y
    have c := cx.t.d
    have hmg : mg ("law" : PySem.Str) = some (.ref fa) := by
      have e : (HandSHeadRun.topDef (OpenLaw.row PySem.Challenge.rw_reeledeven_k22_strands_laid_and_spans_at).prog 55).name = ("law" : PySem.Str) := by kernel_rfl
      rw [← e]
      exact hmg0
    obtain ⟨fd, F⟩ := c.def_ 32 (d := K22.e_law) rfl
    have e := hmg.symm.trans (He.glo_ok KX G (c.fact 32 (f := .glo "law") rfl))
    cases e
    have b := L2.FunD.bindsA (ps := ["script"]) F fun _ _ _ _ _ _ us hl => match us, hl with | [_], _ => rfl
    have tab : ∀ {X : Addr × Addr → Prop}, (∀ p ∈ K22.tf, X (He.cT K p)) → ∀ p ∈ K22.cs K, X p := fun {X} hx p hp => by
      obtain ⟨q, hq, rfl⟩ := List.mem_map.mp hp
      exact hx q hq
    refine ⟨K, KX, fd, K22.cs K, DL.spLaw (K22.TT K) K K22.m_law, tab cx.empty, tab cx.out, tab fun p hp => PySem.W.codeHd_of_K KX (cx.hd p hp), fun s v => b s [v] rfl, fun H a ns hl _ hT hS => DL.law_sp (K22.law_true ns hl) (fun t ht => ?_) (fun t ht => ?_) hS, fun base _ _ hB => DL.FnOk.lawL (K22.w_law (K22.facts KX G c cx.more hB) (He5.fun_of F))⟩
    · obtain ⟨q, hq, rfl⟩ := List.mem_map.mp ht
      exact hT _ (List.mem_map_of_mem hq)
    · obtain ⟨q, hq, rfl⟩ := List.mem_map.mp ht
      exact cx.out q hq
