import PyProof.Rows.All
import Wide.All
import OpenK.AllK
import Wide.FinOn
import HandS.Base
import HandS.Call
import HandS.List
import HandS.TupAny
import HandS.Ends
import HandS.More
import HandS.Words
import KE.KIndexOf
import KE.KRevSl
import HandS.ForMost
import HandS.Star
import HandS.Zip
import HandS.Style
import HandS.SortInts
import HandS.IsInst
import HandS.Conv
import HandS.Wide
import HandS.Evl
import KE.DataMinMax
import KE.DataAny
import KE.DataEq
import HandS.Strs
import HandS.Text
import HandS.Dict
import KE.GoesMore
import KE.GoesEnum
import HandS.Iter
import HandS.HeadHook1
import PySem.Challenge.RW_reeledeven_k20_threads_put_together_and
import KE.Datum
import KE.DatumOrd
import KE.DatumMore
import HandS.Head0
import HandS.Head1
import HandS.Head2
import HandS.HeadEnd
import HandS.HeadHook2
import HandS.HeadNt
set_option Elab.async false
set_option linter.all false
set_option maxRecDepth 100000
set_option maxHeartbeats 2000000
/-! DLTup: tuples known to have no dict of their own, from their making on. -/
namespace DL
open PySem PySem.Spec PyProof.Rows L2
/-- a tuple that is known to the letter -/
def Tp (H : Hp) (a : Addr) (xs : List V) : Prop := ∃ o : Obj, H a = some (.frz o (.tup xs)) ∧ o.dict = none
theorem Tp.sq {K : PySem.W.Frag} {H : Hp} {a : Addr} {xs : List V} (h : Tp H a xs) : SqT K H a xs := by
  obtain ⟨o, h, _⟩ := h
  exact .inl (.inr ⟨o, h⟩)
/-- a new one -/
def newT (Q : VK) (H : Hp) (xs : List V) : Prop := ∀ p o, H p = none → Obj.dict o = none → Q (.ref p) (upd H p (.frz o (.tup xs)))
section
variable {X : Cx} {pins : List (Addr × Obj)} {σ : L2.St} {H : Hp} {s : Shared} {Q : VK}
theorem new_tup (I : Inv X pins σ H s) {xs : List V} {us : List Value} (r : Vals xs us) (z : xs.length ≤ sizeLine) (q : newT Q H xs) :
    EP X pins σ Q (.ref s.heap.objs.size) { s with heap := s.heap.push { cls := .type "tuple", data := .seq us.toArray } } := by
  refine ⟨.ref s.heap.objs.size, _, I.laid (t' := s.toks) (o := .frz { cls := .type "tuple", data := .seq us.toArray } (.tup xs)) (fun b u e => Heap.get?_push_of_some _ e) (Nat.le_refl _) ?_, rfl, q _ _ (I.hok.fresh (Nat.le_refl _)) rfl⟩
  exact ⟨Heap.get?_push_size _ rfl, z, us, r, IsTup.new _ _⟩
def tTupP (t : TA) : TE := fun σ H Q => t σ H fun xs H1 => xs.length ≤ sizeLine ∧ newT Q H1 xs
theorem pe_tupP {es : List Expr} {t : TA} {x1 : Nat} {pos : Pos} (h : PA X es t) : PE X (.Tuple es x1 pos) (tTupP t) := by
  refine ⟨fun pins s σ H Q I hq => ?_⟩
  refine wpAny_Tuple_spliced (thn (h.run pos pins s σ H _ I hq) fun us s1 ⟨xs, H1, I1, r, z, q⟩ => ⟨by rw [← r.length]; exact z, ?_⟩)
  exact new_tup I1 r z q
theorem call_tupleP : CallR X (.type "tuple") (fun xs H Q => ∃ p ys, xs = [.ref p] ∧ ((SqL X.K H p ys ∧ newT Q H ys) ∨ (SqT X.K H p ys ∧ Q (.ref p) H))) := by
  intro pins s σ H xs us Q I r ⟨p, ys, hx, h⟩
  subst hx
  obtain ⟨u, rfl, rx⟩ := vals1 r
  cases rx
  rcases h with ⟨hq, q⟩ | ⟨hq, q⟩
  · obtain ⟨its, r', pl, hz⟩ := I.list hq
    have hlen := r'.length
    refine call_tuple_list pl.isList (fun h' kp => ?_) (by simp only [List.size_toArray] <;> omega)
    have I1 : Inv X pins σ H { s with heap := h' } := I.kept (t' := s.toks) kp
    exact new_tup I1 r' hz q
  · obtain ⟨its, r', pl, hz⟩ := I.tuple hq
    exact call_tuple_same pl ⟨.ref p, H, I, rfl, q⟩
def rSlP (K : PySem.W.Frag) : V → Option Int → Option Int → Hp → VK → Prop := fun x lo hi H Q => ∃ a xs, x = .ref a ∧ SqT K H a xs ∧
  (HT.sIx xs.length 0 lo = 0 ∧ HT.sIx xs.length xs.length hi = xs.length → Q (.ref a) H) ∧ (¬ (HT.sIx xs.length 0 lo = 0 ∧ HT.sIx xs.length xs.length hi = xs.length) → newT Q H (cutV xs lo hi))
theorem sl_tupP : SlR X (rSlP X.K) := by
  intro pins s σ H x v vl vu lo hi sl Q I rx hs pl pu ⟨a, xs, ex, hx, q1, q2⟩
  subst ex
  cases rx
  obtain ⟨its, r, ht, hz⟩ := I.tuple hx
  have hlen : its.toArray.size = xs.length := by rw [List.size_toArray]; exact r.length.symm
  refine ⟨"tuple", _, PyProof.Rows.slot_tuple_getitem.lookup, ht.typeIs, ?_⟩
  by_cases hw : HT.sIx xs.length 0 lo = 0 ∧ HT.sIx xs.length xs.length hi = xs.length
  · exact getItem_tuple_whole ht hs pl pu (by rw [hlen]; exact hw) ⟨.ref a, H, I, rfl, q1 hw⟩
  · refine HT.getItem_tuple_cut ht hs pl pu (by rw [hlen]; exact hw) ?_ (by rw [hlen]; exact hz)
    rw [hlen]
    exact new_tup I ((r.drop (HT.sIx xs.length 0 lo)).take (HT.sIx xs.length xs.length hi - HT.sIx xs.length 0 lo)) (Nat.le_trans (cutV_length xs lo hi) hz) (q2 hw)
def rCatP (K : PySem.W.Frag) : R2 := fun x y H Q => ∃ a b xs ys, x = .ref a ∧ y = .ref b ∧ SqT K H a xs ∧ SqT K H b ys ∧ xs.length + ys.length ≤ sizeLine ∧
  (xs = [] → Q (.ref b) H) ∧ (xs ≠ [] → ys = [] → Q (.ref a) H) ∧ (xs ≠ [] → ys ≠ [] → newT Q H (xs ++ ys))
theorem op_catP : OpR X (binaryOp .Add) (rCatP X.K) := by
  intro pins s σ H x y v u Q I rx ry ⟨a, b, xs, ys, ex, ey, ha, hb, hz, q0, q1, q2⟩
  subst ex ey
  cases rx
  cases ry
  obtain ⟨its, r1, p1, _⟩ := I.tuple ha
  obtain ⟨its2, r2, p2, _⟩ := I.tuple hb
  by_cases hx : xs = []
  · subst hx
    cases r1
    exact cat_tup0 p1 p2 ⟨.ref b, H, I, rfl, q0 rfl⟩
  · refine HT.cat_tup p1 p2 (fun z => hx (r1.nil_iff.mp z)) (fun z => ⟨.ref a, H, I, rfl, q1 hx (r2.nil_iff.mp z)⟩) (fun z => ?_) (by rw [← r1.length, ← r2.length]; exact hz)
    exact new_tup I (r1.append r2) (by rw [List.length_append]; exact hz) (q2 hx fun w => z (r2.nil_iff.mpr w))
/-! ### t.index(k) -/
def tIndexT (K : PySem.W.Frag) (to te : TE) : TE := fun σ H Q => to σ H fun x H1 => (∃ a xs, x = V.ref a ∧ Tp H1 a xs) ∧ te σ H1 fun y H2 => ∃ (a : Addr) (ns : List Int) (k : Int), x = V.ref a ∧ [y] = [V.int k] ∧ SqT K H2 a (ns.map V.int) ∧ k ∈ ns ∧ Q (.int (ns.idxOf k : Nat)) H2
theorem pe_indexT {o e : Expr} {to te : TE} {apos cpos : Pos} (ho : PE X o to) (he : PE X e te)
    (hbase : attributeBase o "index" X.env (eval o X.env) = eval o X.env := by rfl)
    (hline : (apos.endLine == cpos.line) = true := by rfl) (hs : starEach [e] X.env = [(false, eval e X.env)] := by rfl) :
    PE X (.Call (.Attribute o "index" apos) [e] [] cpos) (tIndexT X.K to te) := by
  refine ⟨fun pins s σ H Q I h => ?_⟩
  refine wpAny_Call_method1_late hbase hline (by rw [hs]; rfl) (thn (ho.run pins s σ H _ I h) fun v s1 ⟨x, H1, I1, r1, ty, q1⟩ => ?_)
  obtain ⟨a, xs, ex, o', hp, hd⟩ := ty
  subst ex
  cases r1
  have ok := I1.hok a _ hp
  obtain ⟨hg, hz, its, rv, p⟩ := (show s1.heap.get? a = some o' ∧ (xs.length ≤ sizeLine ∧ ∃ its : List Value, Vals xs its ∧ IsTup s1.heap a its.toArray) from ok)
  refine ⟨"tuple", _, PySem.F.plainAttrs_tuple, PySem.F.slot_tuple_index, PySem.F.type_tuple_index, p.typeIs, fun b eb => ?_, ?_⟩
  · cases eb
    exact ⟨o', hg, hd⟩
  · refine Calls.callWith_builtin rfl (Calls.evalArgs_plain ?_)
    have hA := (pa_cons he pa_nil hs).run cpos pins s1 σ H1 (fun ys H2 => ∃ (a' : Addr) (ns : List Int) (k : Int), V.ref a = V.ref a' ∧ ys = [V.int k] ∧ SqT X.K H2 a' (ns.map V.int) ∧ k ∈ ns ∧ Q (.int (ns.idxOf k : Nat)) H2) I1 q1
    rw [hs] at hA
    refine thn hA fun us s2 ⟨ys, H2, I2, r2, a', ns, k, ea, ey, hq, hk, q2⟩ => ?_
    cases ea
    subst ey
    obtain ⟨u, rfl, t, rfl⟩ := vals1 r2
    obtain ⟨its2, rv2, p2, _⟩ := I2.tuple hq
    exact PySem.SeqAt.tuple_index_ints p2 rv2.ints hk ⟨.int _, H2, I2.tok _, ⟨_, rfl⟩, q2⟩
end
end DL

set_option Elab.async false
set_option linter.all false
set_option maxRecDepth 100000
set_option maxHeartbeats 2000000
/-! DLCore: a data layer over the hand layer: values as data (PyData), a def's text tied to a Lean function that may fail (its mirror), construct by construct. -/
namespace DL
open PySem PySem.Spec PyProof.Rows L2
abbrev D := PyData
abbrev Ex := Evl.Ex

/-! ### the mirror's monad: it may fail, with a state that is carried -/
def M (S α : Type) := S → Option (α × S)
def P {S α : Type} (a : α) : M S α := fun s => some (a, s)
def B {S α β : Type} (m : M S α) (f : α → M S β) : M S β := fun s => match m s with
  | some (a, s') => f a s'
  | none => none
def fail {S α : Type} : M S α := fun _ => none
def L {S α : Type} (o : Option α) : M S α := fun s => match o with
  | some a => some (a, s)
  | none => none
theorem B_some {S α β : Type} {m : M S α} {f : α → M S β} {s s' : S} {b : β} (h : B m f s = some (b, s')) : ∃ a s1, m s = some (a, s1) ∧ f a s1 = some (b, s') := by
  unfold B at h
  split at h
  · exact ⟨_, _, by assumption, h⟩
  · cases h
theorem BL_some {S α β : Type} {o : Option α} {f : α → M S β} {s s' : S} {b : β} (h : B (L o) f s = some (b, s')) : ∃ a, o = some a ∧ f a s = some (b, s') := by
  cases o with
  | none => cases h
  | some a => exact ⟨a, rfl, h⟩
theorem L_some {S α : Type} {o : Option α} {s s' : S} {a : α} (h : L o s = some (a, s')) : o = some a ∧ s' = s := by
  unfold L at h
  split at h
  · cases h
    exact ⟨rfl, rfl⟩
  · cases h
theorem P_some {S α : Type} {a b : α} {s s' : S} (h : P a s = some (b, s')) : b = a ∧ s' = s := by
  unfold P at h
  cases h
  exact ⟨rfl, rfl⟩

/-! ### what a value is worth -/
def kD : Key → D
  | .inl i => .int i
  | .inr x => .str x
theorem Tp.mono {H H' : Hp} {a : Addr} {xs : List V} (e : Ex H H') (h : Tp H a xs) : Tp H' a xs := let ⟨o, h1, h2⟩ := h; ⟨o, e _ _ h1, h2⟩
theorem Tp.new {H : Hp} {a : Addr} {o : Obj} {xs : List V} (h : o.dict = none) : Tp (upd H a (.frz o (.tup xs))) a xs := ⟨o, upd_same, h⟩
mutual
inductive Rp (H : Hp) : V → D → Prop
  | non : Rp H .non .none
  | bl (b : Bool) : Rp H (.bl b) (.bool b)
  | int (i : Int) : Rp H (.int i) (.int i)
  | str (x : Str) : Rp H (.str x) (.str x)
  | lst {a : Addr} {xs : List V} {ds : List D} : H a = some (.lst xs) → Rps H xs ds → Rp H (.ref a) (.list ds)
  | tup {a : Addr} {xs : List V} {ds : List D} : Tp H a xs → Rps H xs ds → Rp H (.ref a) (.tuple ds)
  | dic {a : Addr} {kvs : List (Key × V)} {ds : List (D × D)} : H a = some (.dK kvs) → Rkv H kvs ds → Rp H (.ref a) (.dict ds)
inductive Rps (H : Hp) : List V → List D → Prop
  | nil : Rps H [] []
  | cons {v : V} {vs : List V} {d : D} {ds : List D} : Rp H v d → Rps H vs ds → Rps H (v :: vs) (d :: ds)
inductive Rkv (H : Hp) : List (Key × V) → List (D × D) → Prop
  | nil : Rkv H [] []
  | cons {k : Key} {v : V} {vs : List (Key × V)} {d : D} {ds : List (D × D)} : Rp H v d → Rkv H vs ds → Rkv H ((k, v) :: vs) ((kD k, d) :: ds)
end
mutual
theorem Rp.mono {H H' : Hp} (e : Ex H H') : ∀ {v : V} {d : D}, Rp H v d → Rp H' v d
  | _, _, .non => .non
  | _, _, .bl b => .bl b
  | _, _, .int i => .int i
  | _, _, .str x => .str x
  | _, _, .lst h r => .lst (e _ _ h) (Rps.mono e r)
  | _, _, .tup h r => .tup (h.mono e) (Rps.mono e r)
  | _, _, .dic h r => .dic (e _ _ h) (Rkv.mono e r)
theorem Rps.mono {H H' : Hp} (e : Ex H H') : ∀ {v : List V} {d : List D}, Rps H v d → Rps H' v d
  | _, _, .nil => .nil
  | _, _, .cons h r => .cons (Rp.mono e h) (Rps.mono e r)
theorem Rkv.mono {H H' : Hp} (e : Ex H H') : ∀ {v : List (Key × V)} {d : List (D × D)}, Rkv H v d → Rkv H' v d
  | _, _, .nil => .nil
  | _, _, .cons h r => .cons (Rp.mono e h) (Rkv.mono e r)
end
theorem Rps.length {H : Hp} : ∀ {vs : List V} {ds : List D}, Rps H vs ds → vs.length = ds.length
  | _, _, .nil => rfl
  | _, _, .cons _ r => by simp [Rps.length r]
theorem Rps.append {H : Hp} : ∀ {vs ws : List V} {ds es : List D}, Rps H vs ds → Rps H ws es → Rps H (vs ++ ws) (ds ++ es)
  | _, _, _, _, .nil, s => s
  | _, _, _, _, .cons h r, s => .cons h (Rps.append r s)
theorem Rps.get {H : Hp} : ∀ {vs : List V} {ds : List D} {i : Nat} {d : D}, Rps H vs ds → ds[i]? = some d → ∃ v, vs[i]? = some v ∧ Rp H v d
  | _, _, _, _, .nil, e => by simp at e
  | _, _, 0, _, .cons h _, e => by simp at e; subst e; exact ⟨_, rfl, h⟩
  | _, _, i + 1, _, .cons _ r, e => by
    obtain ⟨v, h1, h2⟩ := Rps.get (i := i) r (by simpa using e)
    exact ⟨v, by simpa using h1, h2⟩
theorem Rps.getV {H : Hp} : ∀ {vs : List V} {ds : List D} {i : Nat} {v : V}, Rps H vs ds → vs[i]? = some v → ∃ d, ds[i]? = some d ∧ Rp H v d
  | _, _, _, _, .nil, e => by simp at e
  | _, _, 0, _, .cons h _, e => by simp at e; subst e; exact ⟨_, rfl, h⟩
  | _, _, i + 1, _, .cons _ r, e => by
    obtain ⟨v, h1, h2⟩ := Rps.getV (i := i) r (by simpa using e)
    exact ⟨v, by simpa using h1, h2⟩
theorem Rps.take {H : Hp} : ∀ {vs : List V} {ds : List D} (n : Nat), Rps H vs ds → Rps H (vs.take n) (ds.take n)
  | _, _, 0, _ => .nil
  | _, _, _ + 1, .nil => .nil
  | _, _, n + 1, .cons h r => .cons h (Rps.take n r)
theorem Rps.drop {H : Hp} : ∀ {vs : List V} {ds : List D} (n : Nat), Rps H vs ds → Rps H (vs.drop n) (ds.drop n)
  | _, _, 0, r => r
  | _, _, _ + 1, .nil => .nil
  | _, _, n + 1, .cons _ r => Rps.drop n r
theorem Rps.reverse {H : Hp} : ∀ {vs : List V} {ds : List D}, Rps H vs ds → Rps H vs.reverse ds.reverse
  | _, _, .nil => .nil
  | _, _, .cons h r => by
    rw [List.reverse_cons, List.reverse_cons]
    exact (Rps.reverse r).append (.cons h .nil)
theorem Rps.set {H : Hp} {v : V} {d : D} (h : Rp H v d) : ∀ {vs : List V} {ds : List D} (n : Nat), Rps H vs ds → Rps H (vs.set n v) (ds.set n d)
  | _, _, _, .nil => .nil
  | _, _, 0, .cons _ r => .cons h r
  | _, _, n + 1, .cons k r => .cons k (Rps.set h n r)
theorem Rps.ints {H : Hp} : ∀ {vs : List V} {ns : List Int}, Rps H vs (ns.map PyData.int) → vs = ns.map V.int
  | _, [], .nil => rfl
  | _, n :: ns, .cons h r => by
    cases h
    rw [Rps.ints (ns := ns) r]
    rfl
theorem Rps.of_ints {H : Hp} : ∀ (ns : List Int), Rps H (ns.map V.int) (ns.map PyData.int)
  | [] => .nil
  | n :: ns => .cons (.int n) (Rps.of_ints ns)
theorem Rps.bls {H : Hp} : ∀ {vs : List V} {ns : List Bool}, Rps H vs (ns.map PyData.bool) → vs = ns.map V.bl
  | _, [], .nil => rfl
  | _, n :: ns, .cons h r => by
    cases h
    rw [Rps.bls (ns := ns) r]
    rfl
theorem Rps.strs {H : Hp} : ∀ {vs : List V} {ns : List Str}, Rps H vs (ns.map PyData.str) → vs = ns.map V.str
  | _, [], .nil => rfl
  | _, n :: ns, .cons h r => by
    cases h
    rw [Rps.strs (ns := ns) r]
    rfl
theorem Rps.of_strs {H : Hp} : ∀ (ns : List Str), Rps H (ns.map V.str) (ns.map PyData.str)
  | [] => .nil
  | n :: ns => .cons (.str n) (Rps.of_strs ns)
/-- values that hang on no object -/
def flatD : D → Bool
  | .none => true
  | .bool _ => true
  | .int _ => true
  | .str _ => true
  | _ => false
theorem Rp.flat {H H' : Hp} {v : V} {d : D} (r : Rp H v d) (f : flatD d = true) : Rp H' v d := by
  cases r with
  | non => exact .non
  | bl b => exact .bl b
  | int i => exact .int i
  | str x => exact .str x
  | lst _ _ => cases f
  | tup _ _ => cases f
  | dic _ _ => cases f

/-! ### the two heaps: H, what never changes again; F, all that stands. T: what a callee may change -/
structure Stp (T : Addr → Prop) (H F H' F' : Hp) : Prop where
  hh : Ex H H'
  hf : Ex H' F'
  ff : ∀ a o, ¬ T a → F a = some o → F' a = some o
  fr : ∀ a, H a = none → H' a ≠ none → F a = none
  tt : ∀ a, T a → H a = none → H' a = none
section
variable {T : Addr → Prop} {H F H' F' H2 F2 : Hp}
theorem Stp.refl (h : Ex H F) : Stp T H F H F := ⟨Evl.Ex.refl H, h, fun _ _ _ e => e, fun _ h1 h2 => absurd h1 h2, fun _ _ h => h⟩
theorem Stp.trans (a : Stp T H F H' F') (b : Stp T H' F' H2 F2) : Stp T H F H2 F2 := by
  refine ⟨a.hh.trans b.hh, b.hf, fun x o n e => b.ff x o n (a.ff x o n e), fun x h1 h2 => ?_, fun x t h => b.tt x t (a.tt x t h)⟩
  cases e : H' x with
  | some o => exact a.fr x h1 (by rw [e]; simp)
  | none =>
    cases ef : F x with
    | none => rfl
    | some o =>
      have nt : ¬ T x := fun t => h2 (b.tt x t e)
      have q := b.fr x e h2
      rw [a.ff x o nt ef] at q
      cases q
/-- a new object, known to both heaps -/
theorem Stp.new {p : Addr} {o : HO} (h : Ex H F) (hp : F p = none) (ht : ¬ T p) : Stp T H F (upd H p o) (upd F p o) := by
  have hn : H p = none := Evl.fresh_back h hp
  refine ⟨Evl.Ex.new hn, fun a u e => ?_, fun a u _ e => Evl.Ex.new hp a u e, fun a h1 h2 => ?_, fun a t h1 => ?_⟩
  · by_cases c : a = p
    · subst c
      rw [upd_same] at e ⊢
      exact e
    · rw [upd_ne c] at e ⊢
      exact h a u e
  · by_cases c : a = p
    · subst c
      exact hp
    · rw [upd_ne c] at h2
      exact absurd h1 h2
  · have c : a ≠ p := fun z => ht (z ▸ t)
    rw [upd_ne c]
    exact h1
end

/-- how the carried state lies in the heap: pt, the addresses that it may change -/
structure Tie (S : Type) where
  pt : Addr → Prop
  at_ : S → Hp → Hp → Prop
  used : ∀ s H F p, at_ s H F → pt p → F p ≠ none
  hout : ∀ s H F p, at_ s H F → pt p → H p = none
  loc : ∀ s H F H' F', at_ s H F → (∀ a, pt a → F' a = F a) → (∀ a, pt a → H a = none → H' a = none) → at_ s H' F'
theorem Tie.stay {S : Type} (T : Tie S) (s : S) (H F H' F' : Hp) (h : T.at_ s H F) (k : ∀ a o, F a = some o → F' a = some o) (f : ∀ a, H a = none → H' a ≠ none → F a = none) : T.at_ s H' F' :=
  T.loc s H F H' F' h (fun a p => by
    cases e : F a with
    | none => exact absurd e (T.used s H F a h p)
    | some o => exact k a o e) fun a p hn => by
    cases e : H' a with
    | none => rfl
    | some o => exact absurd (f a hn (by rw [e]; simp)) (T.used s H F a h p)
def tie0 : Tie Unit := ⟨fun _ => False, fun _ _ _ => True, fun _ _ _ _ _ h => h.elim, fun _ _ _ _ _ h => h.elim, fun _ _ _ _ _ _ _ _ => trivial⟩
structure Pot where
  a : Int
  b : Int
  c : Int
def tieP (p : Addr) : Tie Pot where
  pt := fun b => b = p
  at_ := fun s H F => F p = some (.lst [.int s.a, .int s.b, .int s.c]) ∧ H p = none
  used := fun s H F q h e => by
    subst e
    rw [h.1]
    simp
  hout := fun s H F q h e => by
    subst e
    exact h.2
  loc := fun s H F H' F' h k f => ⟨(k p rfl).trans h.1, f p rfl h.2⟩

/-! ### slots -/
inductive Sl where
  /-- nothing is known -/
  | unk
  | val (d : D)
  /-- a list that is still changed, its items -/
  | own (xs : List D)
  /-- the carried state's own list -/
  | pot
  /-- the law's script -/
  | scr (ns : List Int)
/-- the script: locked, or an object of the module -/
def ScrR (K : PySem.W.Frag) (F : Hp) (a : Addr) (ns : List Int) : Prop := (∃ o, F a = some (.frz o (.lst (ns.map V.int)))) ∨
  ∃ (o : Obj) (its : Array Value) (n : Nat), K.lookup a = some o ∧ o.cls = .type "list" ∧ o.dict = none ∧ o.data = .seq its n ∧ its.size ≤ sizeLine ∧ Vals (ns.map V.int) its.toList
theorem ScrR.sq {K : PySem.W.Frag} {F : Hp} {a : Addr} {ns : List Int} (h : ScrR K F a ns) : SqL K F a (ns.map V.int) := h.elim (fun ⟨o, e⟩ => .inl (.inr ⟨o, e⟩)) .inr
theorem ScrR.ex {K : PySem.W.Frag} {F F' : Hp} {a : Addr} {ns : List Int} (h : ScrR K F a ns) (e : ∀ o u, F a = some (.frz o u) → F' a = some (.frz o u)) : ScrR K F' a ns := h.elim (fun ⟨o, h⟩ => .inl ⟨o, e _ _ h⟩) .inr
def SlR (K : PySem.W.Frag) {S : Type} (T : Tie S) (H F : Hp) : Sl → Option V → Prop
  | .unk, _ => True
  | .val d, ov => ∃ v, ov = some v ∧ Rp H v d
  | .own xs, ov => ∃ p vs, ov = some (.ref p) ∧ H p = none ∧ ¬ T.pt p ∧ F p = some (.lst vs) ∧ Rps H vs xs
  | .pot, ov => ∃ p, ov = some (.ref p) ∧ T.pt p
  | .scr ns, ov => ∃ a, ov = some (.ref a) ∧ ¬ T.pt a ∧ ScrR K F a ns
/-- the addresses of the lists that are still changed -/
def isOwn : Sl → Bool
  | .own _ => true
  | _ => false
structure EnvR (K : PySem.W.Frag) {S : Type} (T : Tie S) (ρ : List Sl) (σ : L2.St) (H F : Hp) : Prop where
  len : ρ.length = σ.length
  at_ : ∀ (i : Nat) (sl : Sl), ρ[i]? = some sl → ∃ ov, σ[i]? = some ov ∧ SlR K T H F sl ov
  apart : ∀ (i j : Nat) (sl sl' : Sl) (p : Addr), i ≠ j → ρ[i]? = some sl → isOwn sl = true → σ[i]? = some (some (V.ref p)) → ρ[j]? = some sl' → isOwn sl' = true → σ[j]? ≠ some (some (V.ref p))
section
variable {K : PySem.W.Frag} {S : Type} {T : Tie S} {H F H' F' : Hp} {ρ : List Sl} {σ : L2.St}
theorem SlR.step (e : Stp T.pt H F H' F') {sl : Sl} {ov : Option V} (h : SlR K T H F sl ov) : SlR K T H' F' sl ov := by
  cases sl with
  | unk => trivial
  | val d =>
    obtain ⟨v, h1, h2⟩ := h
    exact ⟨v, h1, h2.mono e.hh⟩
  | own xs =>
    obtain ⟨p, vs, h1, h2, h3, h4, h5⟩ := h
    refine ⟨p, vs, h1, ?_, h3, e.ff _ _ h3 h4, h5.mono e.hh⟩
    cases q : H' p with
    | none => rfl
    | some o =>
      have z := e.fr p h2 (by rw [q]; simp)
      rw [h4] at z
      cases z
  | pot => exact h
  | scr ns =>
    obtain ⟨a, h1, h2, h3⟩ := h
    exact ⟨a, h1, h2, h3.ex fun o u z => e.ff _ _ h2 z⟩
theorem EnvR.step (e : Stp T.pt H F H' F') (h : EnvR K T ρ σ H F) : EnvR K T ρ σ H' F' :=
  ⟨h.len, fun i sl hi => let ⟨ov, h1, h2⟩ := h.at_ i sl hi; ⟨ov, h1, h2.step e⟩, h.apart⟩
/-- a slot gets a value -/
theorem EnvR.set (h : EnvR K T ρ σ H F) {v : V} {d : D} (r : Rp H v d) (i : Nat) : EnvR K T (ρ.set i (.val d)) (σ.set i (some v)) H F := by
  refine ⟨by simp [h.len], fun j sl hj => ?_, fun j k sl sl' p hjk hj oj sj hk ok => ?_⟩
  · by_cases c : i = j
    · subst c
      have hl : i < ρ.length := by
        have := (List.getElem?_eq_some_iff.mp hj).1
        simpa using this
      rw [List.getElem?_set_self hl] at hj
      cases hj
      exact ⟨some v, by rw [List.getElem?_set_self (by rw [← h.len]; exact hl)], v, rfl, r⟩
    · rw [List.getElem?_set_ne c] at hj ⊢
      exact h.at_ j sl hj
  · have ne : ∀ (j : Nat) (sl : Sl), (ρ.set i (.val d))[j]? = some sl → isOwn sl = true → i ≠ j := fun j sl e o c => by
      subst c
      have hl : i < ρ.length := by
        have := (List.getElem?_eq_some_iff.mp e).1
        simpa using this
      rw [List.getElem?_set_self hl] at e
      cases e
      cases o
    have nj := ne j sl hj oj
    have nk := ne k sl' hk ok
    rw [List.getElem?_set_ne nj] at hj sj
    rw [List.getElem?_set_ne nk] at hk ⊢
    exact h.apart j k sl sl' p hjk hj oj sj hk ok
/-- less is known -/
def slLe : Sl → Sl → Prop := fun a b => b = .unk ∨ a = b
theorem EnvR.weak (h : EnvR K T ρ σ H F) {ρ' : List Sl} (hl : ρ'.length = ρ.length) (w : ∀ (i : Nat) (sl : Sl), ρ'[i]? = some sl → sl = .unk ∨ ρ[i]? = some sl) : EnvR K T ρ' σ H F := by
  refine ⟨hl.trans h.len, fun i sl hi => ?_, fun j k sl sl' p hjk hj oj sj hk ok => ?_⟩
  · rcases w i sl hi with c | c
    · subst c
      have q : i < σ.length := by
        have := (List.getElem?_eq_some_iff.mp hi).1
        rw [← h.len, ← hl]
        exact this
      exact ⟨σ[i], List.getElem?_eq_getElem q, trivial⟩
    · exact h.at_ i sl c
  · have a : ρ[j]? = some sl := (w j sl hj).resolve_left fun c => by subst c; cases oj
    have b : ρ[k]? = some sl' := (w k sl' hk).resolve_left fun c => by subst c; cases ok
    exact h.apart j k sl sl' p hjk a oj sj b ok
end

/-! ### what a piece of text is worth by itself: its weakest reading -/
section
variable (X : Cx)
def sE (e : Expr) : TE := fun σ H Q => ∀ pins s, Inv X pins σ H s → wpAny (model X.prog X.w) X.A (eval e X.env) (EP X pins σ Q) X.xe s
def sT (e : Expr) : TT := fun σ H Q => ∀ pins s, Inv X pins σ H s → wpAny (model X.prog X.w) X.A (isTrue e X.env (eval e X.env)) (TP X pins σ Q) X.xe s
def sW (e : Expr) : TT := fun σ H Q => ∀ whole pins s, Inv X pins σ H s → wpAny (model X.prog X.w) X.A (isTrue e X.env whole) (TP X pins σ Q) X.xe s
def sA (es : List Expr) : TA := fun σ H Q => ∀ pos pins s, Inv X pins σ H s → wpAny (model X.prog X.w) X.A (spliced (backTo pos (starEach es X.env))) (AP X pins σ Q) X.xe s
def sS (st : Stmt) : TS := fun D σ H => ∀ pins s, Inv X pins σ H s → wpAny (model X.prog X.w) X.A (exec st X.env) (SP X pins D) X.xe s
def sSs (st : List Stmt) : TS := fun D σ H => ∀ pins s, Inv X pins σ H s → wpAny (model X.prog X.w) X.A (execs st X.env) (SP X pins D) X.xe s
def sG (tg : Expr) : TG := fun v σ H Q => ∀ pins s u, Inv X pins σ H s → RelV v u → wpAny (model X.prog X.w) X.A (assign tg X.env u) (fun _ s' => ∃ σ' H', Inv X pins σ' H' s' ∧ Q σ' H') X.xe s
def sI (tg iter : Expr) : TI := fun σ H R => ∀ pins s, Inv X pins σ H s →
    wpAny (model X.prog X.w) X.A (eval iter X.env) (fun v s1 => wpAny (model X.prog X.w) X.A (pyIter v) (PIE X pins σ tg R) X.xe s1) X.xe s
end
theorem pE (X : Cx) (e : Expr) : PE X e (sE X e) := ⟨fun pins s _ _ _ I h => h pins s I⟩
theorem pT (X : Cx) (e : Expr) : PT X e (sT X e) := ⟨fun pins s _ _ _ I h => h pins s I⟩
theorem pW (X : Cx) (e : Expr) : PW X e (sW X e) := ⟨fun whole pins s _ _ _ I h => h whole pins s I⟩
theorem pA (X : Cx) (es : List Expr) : PA X es (sA X es) := ⟨fun pos pins s _ _ _ I h => h pos pins s I⟩
theorem pS (X : Cx) (st : Stmt) : PS X st (sS X st) := ⟨fun pins s _ _ _ I h => h pins s I⟩
theorem pSs (X : Cx) (st : List Stmt) : PSs X st (sSs X st) := ⟨fun pins s _ _ _ I h => h pins s I⟩
theorem pG (X : Cx) (tg : Expr) : PG X tg (sG X tg) := ⟨fun pins s _ _ _ u _ I r h => h pins s u I r⟩
theorem pI (X : Cx) (tg iter : Expr) : PI X tg iter (sI X tg iter) := ⟨fun pins s _ _ _ I h => h pins s I⟩
theorem sE_of {X : Cx} {e : Expr} {t : TE} (p : PE X e t) {σ : L2.St} {H : Hp} {Q : VK} (h : t σ H Q) : sE X e σ H Q := fun pins s I => p.run pins s σ H Q I h
theorem sT_of {X : Cx} {e : Expr} {t : TT} (p : PT X e t) {σ : L2.St} {H : Hp} {Q : Bool → Hp → Prop} (h : t σ H Q) : sT X e σ H Q := fun pins s I => p.run pins s σ H Q I h
theorem sW_of {X : Cx} {e : Expr} {t : TT} (p : PW X e t) {σ : L2.St} {H : Hp} {Q : Bool → Hp → Prop} (h : t σ H Q) : sW X e σ H Q := fun whole pins s I => p.run whole pins s σ H Q I h
theorem sA_of {X : Cx} {e : List Expr} {t : TA} (p : PA X e t) {σ : L2.St} {H : Hp} {Q : List V → Hp → Prop} (h : t σ H Q) : sA X e σ H Q := fun pos pins s I => p.run pos pins s σ H Q I h
theorem sS_of {X : Cx} {e : Stmt} {t : TS} (p : PS X e t) {σ : L2.St} {H : Hp} {Q : Ends} (h : t Q σ H) : sS X e Q σ H := fun pins s I => p.run pins s σ H Q I h
theorem sSs_of {X : Cx} {e : List Stmt} {t : TS} (p : PSs X e t) {σ : L2.St} {H : Hp} {Q : Ends} (h : t Q σ H) : sSs X e Q σ H := fun pins s I => p.run pins s σ H Q I h
theorem sG_of {X : Cx} {e : Expr} {t : TG} (p : PG X e t) {v : V} {σ : L2.St} {H : Hp} {Q : L2.St → Hp → Prop} (h : t v σ H Q) : sG X e v σ H Q := fun pins s u I r => p.run pins s σ H v u Q I r h
theorem sI_of {X : Cx} {tg e : Expr} {t : TI} (p : PI X tg e t) {σ : L2.St} {H : Hp} {Q : It → Hp → Prop} (h : t σ H Q) : sI X tg e σ H Q := fun pins s I => p.run pins s σ H Q I h

/-! ### the judgements -/
/-- a view: a value that is known, or a list that is still changed, as it now stands -/
def Rv (T : Addr → Prop) (H F : Hp) (v : V) (d : D) : Prop :=
  Rp H v d ∨ ∃ p vs ds, v = .ref p ∧ d = .list ds ∧ H p = none ∧ ¬ T p ∧ F p = some (.lst vs) ∧ Rps H vs ds
inductive Rvs (T : Addr → Prop) (H F : Hp) : List V → List D → Prop
  | nil : Rvs T H F [] []
  | cons {v : V} {vs : List V} {d : D} {ds : List D} : Rv T H F v d → Rvs T H F vs ds → Rvs T H F (v :: vs) (d :: ds)
theorem Rv.step {T : Addr → Prop} {H F H' F' : Hp} (e : Stp T H F H' F') {v : V} {d : D} (h : Rv T H F v d) : Rv T H' F' v d := by
  rcases h with h | ⟨p, vs, ds, h1, h2, h3, h4, h5, h6⟩
  · exact .inl (h.mono e.hh)
  · refine .inr ⟨p, vs, ds, h1, h2, ?_, h4, e.ff _ _ h4 h5, h6.mono e.hh⟩
    cases q : H' p with
    | none => rfl
    | some o =>
      have z := e.fr p h3 (by rw [q]; simp)
      rw [h5] at z
      cases z
theorem Rv.full {T : Addr → Prop} {H F : Hp} (e : Ex H F) {v : V} {d : D} (h : Rv T H F v d) : Rp F v d := by
  rcases h with h | ⟨p, vs, ds, h1, h2, h3, h4, h5, h6⟩
  · exact h.mono e
  · subst h1 h2
    exact .lst h5 (h6.mono e)
theorem Rps.view {T : Addr → Prop} {H F : Hp} : ∀ {vs : List V} {ds : List D}, Rps H vs ds → Rvs T H F vs ds
  | _, _, .nil => .nil
  | _, _, .cons h r => .cons (.inl h) (Rps.view r)
/-- an expression: what it is worth is a value for good -/
structure JE (X : Cx) {S : Type} (T : Tie S) (e : Expr) (ρ : List Sl) (m : M S D) : Prop where
  run : ∀ {σ : L2.St} {H F : Hp} {s : S} {d : D} {s' : S}, Ex H F → EnvR X.K T ρ σ H F → T.at_ s H F → m s = some (d, s') →
    ∀ Q : VK, (∀ v H' F', Stp T.pt H F H' F' → T.at_ s' H' F' → Rp H' v d → Q v F') → sE X e σ F Q
/-- .. a view -/
structure JV (X : Cx) {S : Type} (T : Tie S) (e : Expr) (ρ : List Sl) (m : M S D) : Prop where
  run : ∀ {σ : L2.St} {H F : Hp} {s : S} {d : D} {s' : S}, Ex H F → EnvR X.K T ρ σ H F → T.at_ s H F → m s = some (d, s') →
    ∀ Q : VK, (∀ v H' F', Stp T.pt H F H' F' → T.at_ s' H' F' → Rv T.pt H' F' v d → Q v F') → sE X e σ F Q
/-- a test -/
structure JT (X : Cx) {S : Type} (T : Tie S) (e : Expr) (ρ : List Sl) (m : M S Bool) : Prop where
  run : ∀ {σ : L2.St} {H F : Hp} {s : S} {d : Bool} {s' : S}, Ex H F → EnvR X.K T ρ σ H F → T.at_ s H F → m s = some (d, s') →
    ∀ Q : Bool → Hp → Prop, (∀ H' F', Stp T.pt H F H' F' → T.at_ s' H' F' → Q d F') → sT X e σ F Q
structure JW (X : Cx) {S : Type} (T : Tie S) (e : Expr) (ρ : List Sl) (m : M S Bool) : Prop where
  run : ∀ {σ : L2.St} {H F : Hp} {s : S} {d : Bool} {s' : S}, Ex H F → EnvR X.K T ρ σ H F → T.at_ s H F → m s = some (d, s') →
    ∀ Q : Bool → Hp → Prop, (∀ H' F', Stp T.pt H F H' F' → T.at_ s' H' F' → Q d F') → sW X e σ F Q
/-- arguments, one behind another; k: what is made of them -/
structure JA (X : Cx) {S β : Type} (T : Tie S) (es : List Expr) (ρ : List Sl) (k : List D → M S β) (m : M S β) : Prop where
  run : ∀ {σ : L2.St} {H F : Hp} {s : S} {b : β} {s' : S}, Ex H F → EnvR X.K T ρ σ H F → T.at_ s H F → m s = some (b, s') →
    ∀ Q : List V → Hp → Prop, (∀ vs ds s1 H' F', Stp T.pt H F H' F' → T.at_ s1 H' F' → Rps H' vs ds → k ds s1 = some (b, s') → Q vs F') → sA X es σ F Q
/-- .. views -/
structure JAV (X : Cx) {S β : Type} (T : Tie S) (es : List Expr) (ρ : List Sl) (k : List D → M S β) (m : M S β) : Prop where
  run : ∀ {σ : L2.St} {H F : Hp} {s : S} {b : β} {s' : S}, Ex H F → EnvR X.K T ρ σ H F → T.at_ s H F → m s = some (b, s') →
    ∀ Q : List V → Hp → Prop, (∀ vs ds s1 H' F', Stp T.pt H F H' F' → T.at_ s1 H' F' → Rvs T.pt H' F' vs ds → k ds s1 = some (b, s') → Q vs F') → sA X es σ F Q

section
variable {X : Cx} {S : Type} {T : Tie S} {ρ : List Sl} {m : M S D} {e : Expr}
theorem JE.v (h : JE X T e ρ m) : JV X T e ρ m := ⟨fun hE hR hA hm Q k => h.run hE hR hA hm Q fun v H' F' st ha r => k v H' F' st ha (.inl r)⟩
theorem je_name (i : Nat) {x : Str} {pos : Pos} {d : D} (hN : X.N[i]? = some x) (hv : Vis X.env.scope x) (hρ : ρ[i]? = some (.val d)) (hd : (x == ("__debug__" : Str)) = false := by decide)
    (hcd : (x == ("__classdict__" : Str)) = false := by decide) : JE X T (.Name x pos) ρ (P d) := ⟨fun {σ H F s d' s'} hE hR hA hm Q k => by
  obtain ⟨rfl, rfl⟩ := P_some hm
  obtain ⟨ov, h1, v, rfl, r⟩ := hR.at_ i _ hρ
  exact sE_of (pe_var hN hv hd hcd) ⟨v, h1, k v H F (.refl hE) hA r⟩⟩
theorem jv_own (i : Nat) {x : Str} {pos : Pos} {ds : List D} (hN : X.N[i]? = some x) (hv : Vis X.env.scope x) (hρ : ρ[i]? = some (.own ds)) (hd : (x == ("__debug__" : Str)) = false := by decide)
    (hcd : (x == ("__classdict__" : Str)) = false := by decide) : JV X T (.Name x pos) ρ (P (.list ds)) := ⟨fun {σ H F s d' s'} hE hR hA hm Q k => by
  obtain ⟨rfl, rfl⟩ := P_some hm
  obtain ⟨ov, h1, p, vs, rfl, h2, h3, h4, h5⟩ := hR.at_ i _ hρ
  exact sE_of (pe_var hN hv hd hcd) ⟨_, h1, k _ H F (.refl hE) hA (.inr ⟨p, vs, ds, rfl, rfl, h2, h3, h4, h5⟩)⟩⟩
theorem je_c {v : V} {d : D} (p : PE X e (tC v)) (r : ∀ H, Rp H v d) : JE X T e ρ (P d) := ⟨fun {σ H F s d' s'} hE hR hA hm Q k => by
  obtain ⟨rfl, rfl⟩ := P_some hm
  exact sE_of p (k v H F (.refl hE) hA (r H))⟩
theorem je_int {i : Int} {j : Nat} {pos : Pos} : JE X T (.Constant (.int i) j pos) ρ (P (.int i)) := je_c pe_int fun _ => .int i
theorem je_bl {b : Bool} {j : Nat} {pos : Pos} : JE X T (.Constant (.bool b) j pos) ρ (P (.bool b)) := je_c pe_bl fun _ => .bl b
theorem je_non {j : Nat} {pos : Pos} : JE X T (.Constant .none j pos) ρ (P .none) := je_c pe_non fun _ => .non
theorem je_str {x : Str} {j : Nat} {pos : Pos} : JE X T (.Constant (.str x) j pos) ρ (P (.str x)) := je_c pe_str fun _ => .str x
/-- a constant of the module -/
theorem je_gint {x : Str} {i : Int} {pos : Pos} (hm : ∃ t, X.mg x = some (.int i t)) (hg : Gl X x) (hd : (x == ("__debug__" : Str)) = false := by decide) : JE X T (.Name x pos) ρ (P (.int i)) := by
  obtain ⟨t, hm⟩ := hm
  exact je_c (pe_glob (v := V.int i) hg hm ⟨t, rfl⟩ hd) fun _ => .int i
theorem je_gstr {x : Str} {i : Str} {pos : Pos} (hm : ∃ t, X.mg x = some (.str i t)) (hg : Gl X x) (hd : (x == ("__debug__" : Str)) = false := by decide) : JE X T (.Name x pos) ρ (P (.str i)) := by
  obtain ⟨t, hm⟩ := hm
  exact je_c (pe_glob (v := V.str i) hg hm ⟨t, rfl⟩ hd) fun _ => .str i
end

/-! ### operators -/
/-- nothing that stands is changed -/
abbrev Stq (H F H' F' : Hp) : Prop := Stp (fun _ => False) H F H' F'
theorem Stq.lift {H F H' F' : Hp} (st : Stq H F H' F') {T : Addr → Prop} (u : ∀ p, T p → F p ≠ none) : Stp T H F H' F' :=
  ⟨st.hh, st.hf, fun a o _ e => st.ff a o (fun h => h) e, st.fr, fun a t h => by
    cases e : H' a with
    | none => rfl
    | some o => exact absurd (st.fr a h (by rw [e]; simp)) (u a t)⟩
theorem Stq.at {S : Type} {T : Tie S} {H F H' F' : Hp} {s : S} (st : Stq H F H' F') (ha : T.at_ s H F) : T.at_ s H' F' :=
  T.stay s H F H' F' ha (fun a o e => st.ff a o (fun h => h) e) st.fr
theorem Stq.up {S : Type} {T : Tie S} {H F H' F' : Hp} {s : S} (st : Stq H F H' F') (ha : T.at_ s H F) : Stp T.pt H F H' F' := st.lift fun p hp => T.used _ _ _ p ha hp
/-- on values for good -/
def OpD (X : Cx) (f : Value → Value → Sem Value) (g : D → D → Option D) : Prop := ∃ r : R2, OpR X f r ∧
  ∀ (H F : Hp) (x y : V) (a b d : D) (Q : VK), Ex H F → Rp H x a → Rp H y b → g a b = some d → (∀ v H' F', Stq H F H' F' → Rp H' v d → Q v F') → r x y F Q
/-- on views, a truth value -/
def OpB (X : Cx) (f : Value → Value → Sem Value) (g : D → D → Option Bool) : Prop := ∃ r : R2, OpR X f r ∧
  ∀ (F : Hp) (x y : V) (a b : D) (c : Bool) (Q : VK), Rp F x a → Rp F y b → g a b = some c → Q (.bl c) F → r x y F Q
section
variable {X : Cx} {S : Type} {T : Tie S} {ρ : List Sl} {ma mb mc : M S D} {a b c : Expr} {pos : Pos} {g : D → D → Option D} {gb gb' : D → D → Option Bool}
theorem je_bin {op : Operator} (ho : OpD X (binaryOp op) g) (ha : JE X T a ρ ma) (hb : JE X T b ρ mb) : JE X T (.BinOp a op b pos) ρ (B ma fun x => B mb fun y => L (g x y)) := by
  obtain ⟨r, h1, h2⟩ := ho
  refine ⟨fun {σ H F s d s'} hE hR hA hm Q k => ?_⟩
  obtain ⟨x, s1, m1, hm⟩ := B_some hm
  obtain ⟨y, s2, m2, hm⟩ := B_some hm
  obtain ⟨hg, rfl⟩ := L_some hm
  refine sE_of (pe_op h1 (pE X a) (pE X b)) (ha.run hE hR hA m1 _ fun v H1 F1 st1 a1 r1 => hb.run st1.hf (hR.step st1) a1 m2 _ fun u H2 F2 st2 a2 r2 => ?_)
  refine h2 H2 F2 v u x y d Q st2.hf (r1.mono st2.hh) r2 hg fun z H3 F3 st3 r3 => ?_
  exact k z H3 F3 ((st1.trans st2).trans (st3.up a2)) (st3.at a2) r3
theorem je_cmp {op : CmpOp} (ho : OpB X (compareOp op) gb) (ha : JV X T a ρ ma) (hb : JV X T b ρ mb) (hm' : behindInMarks op b = false) : JE X T (.Compare a [op] [b] pos) ρ (B ma fun x => B mb fun y => B (L (gb x y)) fun c => P (.bool c)) := by
  obtain ⟨r, h1, h2⟩ := ho
  refine ⟨fun {σ H F s d s'} hE hR hA hm Q k => ?_⟩
  obtain ⟨x, s1, m1, hm⟩ := B_some hm
  obtain ⟨y, s2, m2, hm⟩ := B_some hm
  obtain ⟨c, hg, hm⟩ := BL_some hm
  obtain ⟨rfl, rfl⟩ := P_some hm
  refine sE_of (pe_cmpR h1 (pE X a) (pE X b) hm') (ha.run hE hR hA m1 _ fun v H1 F1 st1 a1 r1 => hb.run st1.hf (hR.step st1) a1 m2 _ fun u H2 F2 st2 a2 r2 => ?_)
  exact h2 F2 v u x y c Q ((r1.step st2).full st2.hf) (r2.full st2.hf) hg (k _ H2 F2 (st1.trans st2) a2 (.bl c))
theorem jt_cmp {op : CmpOp} (ho : OpB X (compareOp op) gb) (ha : JV X T a ρ ma) (hb : JV X T b ρ mb) (hm' : behindInMarks op b = false) : JT X T (.Compare a [op] [b] pos) ρ (B ma fun x => B mb fun y => L (gb x y)) := by
  obtain ⟨r, h1, h2⟩ := ho
  refine ⟨fun {σ H F s d s'} hE hR hA hm Q k => ?_⟩
  obtain ⟨x, s1, m1, hm⟩ := B_some hm
  obtain ⟨y, s2, m2, hm⟩ := B_some hm
  obtain ⟨hg, rfl⟩ := L_some hm
  refine sT_of (pt_cmpR h1 (pE X a) (pE X b) hm') (ha.run hE hR hA m1 _ fun v H1 F1 st1 a1 r1 => hb.run st1.hf (hR.step st1) a1 m2 _ fun u H2 F2 st2 a2 r2 => ?_)
  exact h2 F2 v u x y d _ ((r1.step st2).full st2.hf) (r2.full st2.hf) hg ⟨d, rfl, k H2 F2 (st1.trans st2) a2⟩
theorem je_chain {op op' : CmpOp} (ho : OpB X (compareOp op) gb) (ho' : OpB X (compareOp op') gb') (ha : JV X T a ρ ma) (hb : JV X T b ρ mb) (hc : JV X T c ρ mc) (hm' : lastMarks [op, op'] [b, c] = false := by with_unfolding_all rfl) :
    JE X T (.Compare a [op, op'] [b, c] pos) ρ (B ma fun x => B mb fun y => B (L (gb x y)) fun z => if z then B mc fun w => B (L (gb' y w)) fun c => P (.bool c) else P (.bool false)) := by
  obtain ⟨r, h1, h2⟩ := ho
  obtain ⟨r', h1', h2'⟩ := ho'
  refine ⟨fun {σ H F s d s'} hE hR hA hm Q k => ?_⟩
  obtain ⟨x, s1, m1, hm⟩ := B_some hm
  obtain ⟨y, s2, m2, hm⟩ := B_some hm
  obtain ⟨z, hg, hm⟩ := BL_some hm
  refine sE_of (pe_chain h1 h1' (pE X a) (pE X b) (pE X c) hm') (ha.run hE hR hA m1 _ fun v H1 F1 st1 a1 r1 => hb.run st1.hf (hR.step st1) a1 m2 _ fun u H2 F2 st2 a2 r2 => ?_)
  refine h2 F2 v u x y z _ ((r1.step st2).full st2.hf) (r2.full st2.hf) hg ⟨z, rfl, ?_⟩
  cases z with
  | false =>
    obtain ⟨rfl, rfl⟩ := P_some hm
    exact k _ H2 F2 (st1.trans st2) a2 (.bl false)
  | true =>
    obtain ⟨w, s4, m4, hm⟩ := B_some hm
    obtain ⟨z', hg', hm⟩ := BL_some hm
    obtain ⟨rfl, rfl⟩ := P_some hm
    refine hc.run st2.hf (hR.step (st1.trans st2)) a2 m4 _ fun o H4 F4 st4 a4 r4 => ?_
    exact h2' F4 u o y w z' Q ((r2.step st4).full st4.hf) (r4.full st4.hf) hg' (k _ H4 F4 ((st1.trans st2).trans st4) a4 (.bl z'))
theorem jt_chain {op op' : CmpOp} (ho : OpB X (compareOp op) gb) (ho' : OpB X (compareOp op') gb') (ha : JV X T a ρ ma) (hb : JV X T b ρ mb) (hc : JV X T c ρ mc) (hm' : lastMarks [op, op'] [b, c] = false := by with_unfolding_all rfl) :
    JT X T (.Compare a [op, op'] [b, c] pos) ρ (B ma fun x => B mb fun y => B (L (gb x y)) fun z => if z then B mc fun w => L (gb' y w) else P false) := by
  obtain ⟨r, h1, h2⟩ := ho
  obtain ⟨r', h1', h2'⟩ := ho'
  refine ⟨fun {σ H F s d s'} hE hR hA hm Q k => ?_⟩
  obtain ⟨x, s1, m1, hm⟩ := B_some hm
  obtain ⟨y, s2, m2, hm⟩ := B_some hm
  obtain ⟨z, hg, hm⟩ := BL_some hm
  refine sT_of (pt_chain h1 h1' (pE X a) (pE X b) (pE X c) hm') (ha.run hE hR hA m1 _ fun v H1 F1 st1 a1 r1 => hb.run st1.hf (hR.step st1) a1 m2 _ fun u H2 F2 st2 a2 r2 => ?_)
  refine h2 F2 v u x y z _ ((r1.step st2).full st2.hf) (r2.full st2.hf) hg ⟨z, rfl, ?_⟩
  cases z with
  | false =>
    obtain ⟨rfl, rfl⟩ := P_some hm
    exact ⟨_, rfl, k H2 F2 (st1.trans st2) a2⟩
  | true =>
    obtain ⟨w, s4, m4, hm⟩ := B_some hm
    obtain ⟨hg', rfl⟩ := L_some hm
    refine hc.run st2.hf (hR.step (st1.trans st2)) a2 m4 _ fun o H4 F4 st4 a4 r4 => ?_
    exact h2' F4 u o y w d _ ((r2.step st4).full st4.hf) (r4.full st4.hf) hg' ⟨_, rfl, k H4 F4 ((st1.trans st2).trans st4) a4⟩
end

/-! ### truth -/
def boolD : D → Option Bool
  | .bool b => some b
  | _ => none
theorem boolD_some {d : D} {b : Bool} (h : boolD d = some b) : d = .bool b := by
  cases d <;> first | (cases h; rfl) | cases h
section
variable {X : Cx} {S : Type} {T : Tie S} {ρ : List Sl} {ma mb mc m : M S D} {a b c e : Expr} {rest : List Expr} {pos : Pos} {ta tb : M S Bool}
theorem jt_val (h : JE X T e ρ m) (he : ∀ whole, isTrue e X.env whole = (do let v ← whole; standAt e.pos; holding [v] (truthy v)) := by intro _; rfl) : JT X T e ρ (B m fun x => L (boolD x)) := ⟨fun {σ H F s d s'} hE hR hA hm Q k => by
  obtain ⟨x, s1, m1, hm⟩ := B_some hm
  obtain ⟨hg, rfl⟩ := L_some hm
  refine sT_of (pt_val (pE X e) he) (h.run hE hR hA m1 _ fun v H1 F1 st1 a1 r1 => ?_)
  rw [boolD_some hg] at r1
  cases r1
  exact ⟨d, rfl, k H1 F1 st1 a1⟩⟩
theorem jt_not (h : JT X T e ρ ta) : JT X T (.UnaryOp .Not e pos) ρ (B ta fun x => P (!x)) := ⟨fun {σ H F s d s'} hE hR hA hm Q k => by
  obtain ⟨x, s1, m1, hm⟩ := B_some hm
  obtain ⟨rfl, rfl⟩ := P_some hm
  exact sT_of (pt_not (pT X e)) (h.run hE hR hA m1 _ fun H1 F1 st1 a1 => k H1 F1 st1 a1)⟩
theorem jw_and1 (h : JT X T e ρ ta) : JW X T (.BoolOp .And [e] pos) ρ ta := ⟨fun hE hR hA hm Q k => sW_of (pw_and1 (pT X e)) (h.run hE hR hA hm _ k)⟩
theorem jw_or1 (h : JT X T e ρ ta) : JW X T (.BoolOp .Or [e] pos) ρ ta := ⟨fun hE hR hA hm Q k => sW_of (pw_or1 (pT X e)) (h.run hE hR hA hm _ k)⟩
theorem jw_and (h : JT X T a ρ ta) (h2 : JW X T (.BoolOp .And (b :: rest) pos) ρ tb) : JW X T (.BoolOp .And (a :: b :: rest) pos) ρ (B ta fun x => if x then tb else P false) := ⟨fun {σ H F s d s'} hE hR hA hm Q k => by
  obtain ⟨x, s1, m1, hm⟩ := B_some hm
  refine sW_of (pw_and (pT X a) (pW X _)) (h.run hE hR hA m1 _ fun H1 F1 st1 a1 => ?_)
  cases x with
  | true => exact h2.run st1.hf (hR.step st1) a1 hm Q fun H2 F2 st2 a2 => k H2 F2 (st1.trans st2) a2
  | false =>
    obtain ⟨rfl, rfl⟩ := P_some hm
    exact k H1 F1 st1 a1⟩
theorem jw_or (h : JT X T a ρ ta) (h2 : JW X T (.BoolOp .Or (b :: rest) pos) ρ tb) : JW X T (.BoolOp .Or (a :: b :: rest) pos) ρ (B ta fun x => if x then P true else tb) := ⟨fun {σ H F s d s'} hE hR hA hm Q k => by
  obtain ⟨x, s1, m1, hm⟩ := B_some hm
  refine sW_of (pw_or (pT X a) (pW X _)) (h.run hE hR hA m1 _ fun H1 F1 st1 a1 => ?_)
  cases x with
  | false => exact h2.run st1.hf (hR.step st1) a1 hm Q fun H2 F2 st2 a2 => k H2 F2 (st1.trans st2) a2
  | true =>
    obtain ⟨rfl, rfl⟩ := P_some hm
    exact k H1 F1 st1 a1⟩
theorem JW.t (h : JW X T e ρ ta) : JT X T e ρ ta := ⟨fun hE hR hA hm Q k => fun pins s I => h.run hE hR hA hm Q k _ pins s I⟩
theorem je_one {op : BoolOp} (h : JE X T a ρ ma) : JE X T (.BoolOp op [a] pos) ρ ma := ⟨fun hE hR hA hm Q k => sE_of (pe_one (pE X a)) (h.run hE hR hA hm Q k)⟩
theorem je_and (h : JE X T a ρ ma) (h2 : JE X T (.BoolOp .And (b :: rest) pos) ρ mb) : JE X T (.BoolOp .And (a :: b :: rest) pos) ρ (B ma fun x => B (L (boolD x)) fun c => if c then mb else P (.bool false)) := ⟨fun {σ H F s d s'} hE hR hA hm Q k => by
  obtain ⟨x, s1, m1, hm⟩ := B_some hm
  obtain ⟨c, hg, hm⟩ := BL_some hm
  refine sE_of (pe_and (pE X a) (pE X _)) (h.run hE hR hA m1 _ fun v H1 F1 st1 a1 r1 => ?_)
  rw [boolD_some hg] at r1
  cases r1
  refine ⟨c, rfl, ?_⟩
  cases c with
  | true => exact h2.run st1.hf (hR.step st1) a1 hm Q fun v H2 F2 st2 a2 r2 => k v H2 F2 (st1.trans st2) a2 r2
  | false =>
    obtain ⟨rfl, rfl⟩ := P_some hm
    exact k _ H1 F1 st1 a1 (.bl false)⟩
theorem je_or (h : JE X T a ρ ma) (h2 : JE X T (.BoolOp .Or (b :: rest) pos) ρ mb) : JE X T (.BoolOp .Or (a :: b :: rest) pos) ρ (B ma fun x => B (L (boolD x)) fun c => if c then P (.bool true) else mb) := ⟨fun {σ H F s d s'} hE hR hA hm Q k => by
  obtain ⟨x, s1, m1, hm⟩ := B_some hm
  obtain ⟨c, hg, hm⟩ := BL_some hm
  refine sE_of (pe_or (pE X a) (pE X _)) (h.run hE hR hA m1 _ fun v H1 F1 st1 a1 r1 => ?_)
  rw [boolD_some hg] at r1
  cases r1
  refine ⟨c, rfl, ?_⟩
  cases c with
  | false => exact h2.run st1.hf (hR.step st1) a1 hm Q fun v H2 F2 st2 a2 r2 => k v H2 F2 (st1.trans st2) a2 r2
  | true =>
    obtain ⟨rfl, rfl⟩ := P_some hm
    exact k _ H1 F1 st1 a1 (.bl true)⟩
theorem je_not (h : JE X T a ρ ma) : JE X T (.UnaryOp .Not a pos) ρ (B ma fun x => B (L (boolD x)) fun c => P (.bool (!c))) := ⟨fun {σ H F s d s'} hE hR hA hm Q k => by
  obtain ⟨x, s1, m1, hm⟩ := B_some hm
  obtain ⟨c, hg, hm⟩ := BL_some hm
  obtain ⟨rfl, rfl⟩ := P_some hm
  refine sE_of (pe_not (pE X a)) (h.run hE hR hA m1 _ fun v H1 F1 st1 a1 r1 => ?_)
  rw [boolD_some hg] at r1
  cases r1
  exact ⟨c, rfl, k _ H1 F1 st1 a1 (.bl (!c))⟩⟩
theorem je_if (hc : JT X T c ρ ta) (ha : JE X T a ρ ma) (hb : JE X T b ρ mb) : JE X T (.IfExp c a b pos) ρ (B ta fun x => if x then ma else mb) := ⟨fun {σ H F s d s'} hE hR hA hm Q k => by
  obtain ⟨x, s1, m1, hm⟩ := B_some hm
  refine sE_of (pe_ifExp (pT X c) (pE X a) (pE X b)) (hc.run hE hR hA m1 _ fun H1 F1 st1 a1 => ?_)
  cases x with
  | true => exact ha.run st1.hf (hR.step st1) a1 hm Q fun v H2 F2 st2 a2 r2 => k v H2 F2 (st1.trans st2) a2 r2
  | false => exact hb.run st1.hf (hR.step st1) a1 hm Q fun v H2 F2 st2 a2 r2 => k v H2 F2 (st1.trans st2) a2 r2⟩
theorem jv_if (hc : JT X T c ρ ta) (ha : JV X T a ρ ma) (hb : JV X T b ρ mb) : JV X T (.IfExp c a b pos) ρ (B ta fun x => if x then ma else mb) := ⟨fun {σ H F s d s'} hE hR hA hm Q k => by
  obtain ⟨x, s1, m1, hm⟩ := B_some hm
  refine sE_of (pe_ifExp (pT X c) (pE X a) (pE X b)) (hc.run hE hR hA m1 _ fun H1 F1 st1 a1 => ?_)
  cases x with
  | true => exact ha.run st1.hf (hR.step st1) a1 hm Q fun v H2 F2 st2 a2 r2 => k v H2 F2 (st1.trans st2) a2 r2
  | false => exact hb.run st1.hf (hR.step st1) a1 hm Q fun v H2 F2 st2 a2 r2 => k v H2 F2 (st1.trans st2) a2 r2⟩
end

/-! ### arguments, calls, displays -/
def seqD : D → Option (List D)
  | .list xs => some xs
  | .tuple xs => some xs
  | _ => none
theorem Rv.seq {T : Addr → Prop} {H F : Hp} {K : PySem.W.Frag} (e : Ex H F) {v : V} {d : D} (h : Rv T H F v d) {ds : List D} (hd : seqD d = some ds) : ∃ a vs, v = .ref a ∧ Rps H vs ds ∧ ((d = .list ds ∧ F a = some (.lst vs)) ∨ (d = .tuple ds ∧ Tp F a vs ∧ Tp H a vs)) := by
  rcases h with h | ⟨p, vs, es, h1, h2, h3, h4, h5, h6⟩
  · cases h with
    | lst h r => cases hd; exact ⟨_, _, rfl, r, .inl ⟨rfl, e _ _ h⟩⟩
    | tup h r => cases hd; exact ⟨_, _, rfl, r, .inr ⟨rfl, h.mono e, h⟩⟩
    | non => cases hd
    | bl _ => cases hd
    | int _ => cases hd
    | str _ => cases hd
    | dic _ _ => cases hd
  · subst h1 h2
    cases hd
    exact ⟨_, _, rfl, h6, .inl ⟨rfl, h5⟩⟩
def tupD (ds : List D) : Option D := if ds.length ≤ 16777216 then some (.tuple ds) else none
def lstD (ds : List D) : Option D := if ds.length ≤ 16777216 then some (.list ds) else none
theorem tupD_some {ds : List D} {d : D} (h : tupD ds = some d) : ds.length ≤ sizeLine ∧ d = .tuple ds := by
  unfold tupD at h
  split at h
  · cases h
    exact ⟨by rw [sizeLine_eq]; assumption, rfl⟩
  · cases h
theorem lstD_some {ds : List D} {d : D} (h : lstD ds = some d) : ds.length ≤ sizeLine ∧ d = .list ds := by
  unfold lstD at h
  split at h
  · cases h
    exact ⟨by rw [sizeLine_eq]; assumption, rfl⟩
  · cases h
section
variable {X : Cx} {S β : Type} {T : Tie S} {ρ : List Sl} {me : M S D} {m : M S β} {e : Expr} {es : List Expr} {k : List D → M S β} {f : D → M S β} {g : List D → M S β} {p pos : Pos}
theorem ja_nil : JA X T [] ρ k (k []) := ⟨fun {σ H F s b s'} hE hR hA hm Q q => sA_of pa_nil (q [] [] s H F (.refl hE) hA .nil hm)⟩
theorem jav_nil : JAV X T [] ρ k (k []) := ⟨fun {σ H F s b s'} hE hR hA hm Q q => sA_of pa_nil (q [] [] s H F (.refl hE) hA .nil hm)⟩
theorem ja_cons (h : JE X T e ρ me) (hr : ∀ d, JA X T es ρ (fun ds => k (d :: ds)) (f d)) (hs : starEach (e :: es) X.env = (false, eval e X.env) :: starEach es X.env := by rfl) : JA X T (e :: es) ρ k (B me f) := ⟨fun {σ H F s b s'} hE hR hA hm Q q => by
  obtain ⟨x, s1, m1, hm⟩ := B_some hm
  refine sA_of (pa_cons (pE X e) (pA X es) hs) (h.run hE hR hA m1 _ fun v H1 F1 st1 a1 r1 => (hr x).run st1.hf (hR.step st1) a1 hm _ fun vs ds s2 H2 F2 st2 a2 r2 hk => ?_)
  exact q (v :: vs) (x :: ds) s2 H2 F2 (st1.trans st2) a2 (.cons (r1.mono st2.hh) r2) hk⟩
theorem jav_cons (h : JV X T e ρ me) (hr : ∀ d, JAV X T es ρ (fun ds => k (d :: ds)) (f d)) (hs : starEach (e :: es) X.env = (false, eval e X.env) :: starEach es X.env := by rfl) : JAV X T (e :: es) ρ k (B me f) := ⟨fun {σ H F s b s'} hE hR hA hm Q q => by
  obtain ⟨x, s1, m1, hm⟩ := B_some hm
  refine sA_of (pa_cons (pE X e) (pA X es) hs) (h.run hE hR hA m1 _ fun v H1 F1 st1 a1 r1 => (hr x).run st1.hf (hR.step st1) a1 hm _ fun vs ds s2 H2 F2 st2 a2 r2 hk => ?_)
  exact q (v :: vs) (x :: ds) s2 H2 F2 (st1.trans st2) a2 (.cons (r1.step st2) r2) hk⟩
theorem ja_star (h : JV X T e ρ me) (hr : ∀ xs, JA X T es ρ (fun ds => k (xs ++ ds)) (g xs)) (hs : starEach (.Starred e p :: es) X.env = (true, eval e X.env) :: starEach es X.env := by rfl) : JA X T (.Starred e p :: es) ρ k (B me fun d => B (L (seqD d)) g) := ⟨fun {σ H F s b s'} hE hR hA hm Q q => by
  obtain ⟨x, s1, m1, hm⟩ := B_some hm
  obtain ⟨xs, hg, hm⟩ := BL_some hm
  refine sA_of (StX.pa_star (pE X e) (pA X es) hs) (h.run hE hR hA m1 _ fun v H1 F1 st1 a1 r1 => ?_)
  obtain ⟨a, vs, rfl, r, hh⟩ := r1.seq (K := X.K) st1.hf hg
  refine ⟨a, vs, rfl, ?_, (hr xs).run st1.hf (hR.step st1) a1 hm _ fun ws ds s2 H2 F2 st2 a2 r2 hk => ?_⟩
  · rcases hh with ⟨_, h⟩ | ⟨_, h, _⟩
    · exact .inr (SqL.of h)
    · exact .inl h.sq
  · exact q (vs ++ ws) (xs ++ ds) s2 H2 F2 (st1.trans st2) a2 ((r.mono st2.hh).append r2) hk⟩
end
/-- a built-in by its values -/
def CallD (X : Cx) (f : Value) (g : List D → Option D) : Prop := ∃ r : List V → Hp → VK → Prop, CallR X f r ∧
  ∀ (T : Addr → Prop) (H F : Hp) (vs : List V) (ds : List D) (d : D) (Q : VK), Ex H F → Rvs T H F vs ds → g ds = some d → (∀ v H' F', Stq H F H' F' → Rp H' v d → Q v F') → r vs F Q
/-- what a def of the text promises: its mirror -/
def spF (f : List D → Option D) : Sp := fun vs F Q _ => ∃ H ds r, Ex H F ∧ Rps H vs ds ∧ f ds = some r ∧ ∀ v H' F', Stq H F H' F' → Rp H' v r → Q v F'
/-- .. one that is given the carried state's list -/
def spP (f : List D → M Pot D) : Sp := fun vs F Q _ => ∃ p ws H ds s r s', vs = .ref p :: ws ∧ Ex H F ∧ (tieP p).at_ s H F ∧ Rps H ws ds ∧ f ds s = some (r, s') ∧
  ∀ v H' F', Stp (fun b => b = p) H F H' F' → (tieP p).at_ s' H' F' → Rp H' v r → Q v F'
section
variable {X : Cx} {S : Type} {T : Tie S} {ρ : List Sl} {m : M S D} {e : Expr} {es : List Expr} {p pos : Pos} {x : Str} {id : String} {g : List D → Option D}
theorem je_callB (hc : CallD X (.builtin id) g) (hg : Gl X x) (hm : X.mg x = none) (hv : bootBuiltins x = some (.builtin id)) (ha : JAV X T (e :: es) ρ (fun ds => L (g ds)) m) (hn : x ≠ "__name__" := by decide) (hdb : (x == ("__debug__" : Str)) = false := by decide)
    (he : starEach (e :: es) X.env = (false, eval e X.env) :: starEach es X.env := by rfl) (hpl : (backTo pos (starEach es X.env)).any (·.1) = false := by rfl) : JE X T (.Call (.Name x p) (e :: es) [] pos) ρ m := by
  obtain ⟨r, h1, h2⟩ := hc
  refine ⟨fun {σ H F s d s'} hE hR hA hm' Q k => sE_of (pe_callB h1 hg hm hv (pA X (e :: es)) hn hdb he hpl) (ha.run hE hR hA hm' _ fun vs ds s1 H1 F1 st1 a1 r1 hk => ?_)⟩
  obtain ⟨hg', rfl⟩ := L_some hk
  exact h2 T.pt H1 F1 vs ds d Q st1.hf r1 hg' fun v H2 F2 st2 r2 => k v H2 F2 (st1.trans (st2.up a1)) (st2.at a1) r2
theorem je_callTy (hc : CallD X (.type id) g) (hg : Gl X x) (hm : X.mg x = none) (hv : bootBuiltins x = some (.type id)) (ha : JAV X T (e :: es) ρ (fun ds => L (g ds)) m) (hn : x ≠ "__name__" := by decide) (hdb : (x == ("__debug__" : Str)) = false := by decide)
    (he : starEach (e :: es) X.env = (false, eval e X.env) :: starEach es X.env := by rfl) (hpl : (backTo pos (starEach es X.env)).any (·.1) = false := by rfl) : JE X T (.Call (.Name x p) (e :: es) [] pos) ρ m := by
  obtain ⟨r, h1, h2⟩ := hc
  refine ⟨fun {σ H F s d s'} hE hR hA hm' Q k => sE_of (pe_callTy h1 hg hm hv (pA X (e :: es)) hn hdb he hpl) (ha.run hE hR hA hm' _ fun vs ds s1 H1 F1 st1 a1 r1 hk => ?_)⟩
  obtain ⟨hg', rfl⟩ := L_some hk
  exact h2 T.pt H1 F1 vs ds d Q st1.hf r1 hg' fun v H2 F2 st2 r2 => k v H2 F2 (st1.trans (st2.up a1)) (st2.at a1) r2
theorem je_tup {x1} (ha : JA X T es ρ (fun ds => L (tupD ds)) m) : JE X T (.Tuple es x1 pos) ρ m := ⟨fun {σ H F s d s'} hE hR hA hm Q k => by
  refine sE_of (pe_tupP (pA X es)) (ha.run hE hR hA hm _ fun vs ds s1 H1 F1 st1 a1 r1 hk => ?_)
  obtain ⟨hg, rfl⟩ := L_some hk
  obtain ⟨hz, rfl⟩ := tupD_some hg
  refine ⟨by rw [r1.length]; exact hz, fun q ob hq hd => ?_⟩
  have nt : ¬ T.pt q := fun z => T.used _ _ _ q a1 z hq
  have st2 : Stq H1 F1 (upd H1 q (.frz ob (.tup vs))) (upd F1 q (.frz ob (.tup vs))) := .new st1.hf hq fun z => z
  exact k _ _ _ (st1.trans (st2.up a1)) (st2.at a1) (.tup (.new hd) (r1.mono st2.hh))⟩
theorem je_lst (ha : JA X T es ρ (fun ds => L (lstD ds)) m) : JE X T (.List es pos) ρ m := ⟨fun {σ H F s d s'} hE hR hA hm Q k => by
  refine sE_of (pe_lst (pA X es)) (ha.run hE hR hA hm _ fun vs ds s1 H1 F1 st1 a1 r1 hk => ?_)
  obtain ⟨hg, rfl⟩ := L_some hk
  obtain ⟨hz, rfl⟩ := lstD_some hg
  refine ⟨by rw [r1.length]; exact hz, fun q hq => ?_⟩
  have st2 : Stq H1 F1 (upd H1 q (.lst vs)) (upd F1 q (.lst vs)) := .new st1.hf hq fun z => z
  exact k _ _ _ (st1.trans (st2.up a1)) (st2.at a1) (.lst upd_same (r1.mono st2.hh))⟩
/-- a def of the text, called -/
theorem je_call {CX : CXT} {kk : Nat} {f : Addr} {fd : FuncData} {ps : List Str} {mf : List D → Option D} {E : XK} (Fo : FnOk X.prog X.w X.K X.mg X.base CX kk f fd ps (spF mf)) (hr : Room kk X.A) (hg : Gl X x) (hm : X.mg x = some (.ref f)) (hk : PySem.W.keepIn X.K (.ref f) = true)
    (hb : Binds X.K fd ps []) (hx : Passes CX X E) (ha : JA X T (e :: es) ρ (fun ds => L (mf ds)) m) (hdb : (x == ("__debug__" : Str)) = false := by decide)
    (he : starEach (e :: es) X.env = (false, eval e X.env) :: starEach es X.env := by rfl) (hpl : (backTo pos (starEach es X.env)).any (·.1) = false := by rfl) : JE X T (.Call (.Name x p) (e :: es) [] pos) ρ m := ⟨fun {σ H F s d s'} hE hR hA hm' Q k => by
  refine sE_of (pe_call Fo hr hg hm hk hb .nil hx (pA X (e :: es)) hdb he hpl) (ha.run hE hR hA hm' _ fun vs ds s1 H1 F1 st1 a1 r1 hk' => ?_)
  obtain ⟨hg', rfl⟩ := L_some hk'
  show spF mf (vs ++ []) F1 Q E
  rw [List.append_nil]
  exact ⟨H1, ds, d, st1.hf, r1, hg', fun v H2 F2 st2 r2 => k v H2 F2 (st1.trans (st2.up a1)) (st2.at a1) r2⟩⟩
/-- .. given the carried state -/
theorem je_callP {q : Addr} {m : M Pot D} {CX : CXT} {kk i : Nat} {f : Addr} {fd : FuncData} {ps : List Str} {mf : List D → M Pot D} {E : XK} {y : Str} {pos' : Pos} (Fo : FnOk X.prog X.w X.K X.mg X.base CX kk f fd ps (spP mf)) (hr : Room kk X.A) (hg : Gl X x) (hm : X.mg x = some (.ref f)) (hk : PySem.W.keepIn X.K (.ref f) = true)
    (hb : Binds X.K fd ps []) (hx : Passes CX X E) (hN : X.N[i]? = some y) (hv : Vis X.env.scope y) (hρ : ρ[i]? = some .pot) (ha : JA X (tieP q) es ρ mf m) (hdb : (x == ("__debug__" : Str)) = false := by decide) (hd : (y == ("__debug__" : Str)) = false := by decide) (hcd : (y == ("__classdict__" : Str)) = false := by decide)
    (he : starEach (.Name y pos' :: es) X.env = (false, eval (.Name y pos') X.env) :: starEach es X.env := by rfl) (hpl : (backTo pos (starEach es X.env)).any (·.1) = false := by rfl) : JE X (tieP q) (.Call (.Name x p) (.Name y pos' :: es) [] pos) ρ m := ⟨fun {σ H F s d s'} hE hR hA hm' Q k => by
  refine sE_of (pe_call Fo hr hg hm hk hb .nil hx (pa_cons (pe_var hN hv hd hcd) (pA X es) he) hdb he hpl) ?_
  obtain ⟨ov, h1, p', rfl, h2⟩ := hR.at_ i _ hρ
  refine ⟨_, h1, ha.run hE hR hA hm' _ fun vs ds s1 H1 F1 st1 a1 r1 hk' => ?_⟩
  show spP mf ((V.ref p' :: vs) ++ []) F1 Q E
  rw [List.append_nil]
  have e : p' = q := h2
  subst e
  exact ⟨p', vs, H1, ds, s1, d, s', rfl, st1.hf, a1, r1, hk', fun v H2 F2 st2 a2 r2 => k v H2 F2 (st1.trans st2) a2 r2⟩⟩
end

/-! ### subscripts -/
def ixD : D → D → Option D
  | .list xs, .int i => atI xs i
  | .tuple xs, .int i => atI xs i
  | .str z, .int i => if z.length ≤ 16777216 then (atI z.cps.toList i).map fun c => .str ⟨#[c]⟩ else none
  | _, _ => none
theorem Rps.atI {H : Hp} {vs : List V} {ds : List D} {i : Int} {d : D} (r : Rps H vs ds) (h : L2.atI ds i = some d) : ∃ v, L2.atI vs i = some v ∧ Rp H v d := by
  unfold L2.atI at h ⊢
  rw [r.length]
  cases e : ixN ds.length i with
  | none => rw [e] at h; cases h
  | some j =>
    rw [e] at h
    obtain ⟨v, h1, h2⟩ := r.get (i := j) h
    exact ⟨v, h1, h2⟩
def partD : D → Option Int
  | .int i => some i
  | _ => none
def cutL {α : Type} (xs : List α) (lo hi : Option Int) : List α := (xs.drop (HT.sIx xs.length 0 lo)).take (HT.sIx xs.length xs.length hi - HT.sIx xs.length 0 lo)
def sliceD : D → Option Int → Option Int → Option D
  | .list xs, lo, hi => some (.list (cutL xs lo hi))
  | .tuple xs, lo, hi => some (.tuple (cutL xs lo hi))
  | _, _, _ => none
theorem Rps.cut {H : Hp} {vs : List V} {ds : List D} (r : Rps H vs ds) (lo hi : Option Int) : Rps H (cutV vs lo hi) (cutL ds lo hi) := by
  unfold cutV cutL
  rw [r.length]
  exact (r.drop _).take _
theorem cut_whole {xs : List V} {lo hi : Option Int} (h : HT.sIx xs.length 0 lo = 0 ∧ HT.sIx xs.length xs.length hi = xs.length) : cutV xs lo hi = xs := by
  unfold cutV
  rw [h.1, h.2, List.drop_zero, Nat.sub_zero, List.take_length]
/-- a slice's part -/
def JO (X : Cx) {S : Type} (T : Tie S) (e : Option Expr) (ρ : List Sl) (m : M S (Option Int)) : Prop :=
  ∃ t : TO, PO X e t ∧ ∀ {σ : L2.St} {H F : Hp} {s : S} {d : Option Int} {s' : S}, Ex H F → EnvR X.K T ρ σ H F → T.at_ s H F → m s = some (d, s') →
    ∀ Q : Option Int → Hp → Prop, (∀ H' F', Stp T.pt H F H' F' → T.at_ s' H' F' → Q d F') → t σ F Q
section
variable {X : Cx} {S : Type} {T : Tie S} {ρ : List Sl} {ma mb m : M S D} {a b e : Expr} {lo hi : Option Expr} {ml mh : M S (Option Int)} {pos p2 : Pos}
theorem je_ix (ha : JV X T a ρ ma) (hb : JE X T b ρ mb) (hs : PlainIx b := by intro _ _; rfl) : JE X T (.Subscript a b pos) ρ (B ma fun x => B mb fun y => L (ixD x y)) := ⟨fun {σ H F s d s'} hE hR hA hm Q k => by
  obtain ⟨x, s1, m1, hm⟩ := B_some hm
  obtain ⟨y, s2, m2, hm⟩ := B_some hm
  obtain ⟨hg, rfl⟩ := L_some hm
  refine sE_of (pe_ix ix_seq (pE X a) (pE X b) hs) (ha.run hE hR hA m1 _ fun v H1 F1 st1 a1 r1 => hb.run st1.hf (hR.step st1) a1 m2 _ fun u H2 F2 st2 a2 r2 => ?_)
  have r1 := r1.step st2
  have st := st1.trans st2
  cases y with
  | int i =>
    cases r2
    cases x with
    | list xs =>
      obtain ⟨p, vs, rfl, r, hh⟩ := r1.seq (K := X.K) st2.hf (ds := _) rfl
      rcases hh with ⟨_, hh⟩ | ⟨z, _⟩
      · obtain ⟨w, hw, rw'⟩ := r.atI hg
        exact .inl ⟨p, vs, _, w, rfl, rfl, SqL.of hh, hw, k w H2 F2 st a2 rw'⟩
      · cases z
    | tuple xs =>
      obtain ⟨p, vs, rfl, r, hh⟩ := r1.seq (K := X.K) st2.hf (ds := _) rfl
      rcases hh with ⟨z, _⟩ | ⟨_, hh, _⟩
      · cases z
      · obtain ⟨w, hw, rw'⟩ := r.atI hg
        exact .inr (.inl ⟨p, vs, _, w, rfl, rfl, hh.sq, hw, k w H2 F2 st a2 rw'⟩)
    | str z =>
      have r1' := r1.full st2.hf
      cases r1'
      have hg : (if z.length ≤ 16777216 then (L2.atI z.cps.toList i).map fun c => PyData.str ⟨#[c]⟩ else none) = some d := hg
      by_cases hz : z.length ≤ 16777216
      · rw [if_pos hz] at hg
        cases e : L2.atI z.cps.toList i with
        | none => rw [e] at hg; cases hg
        | some c =>
          rw [e] at hg
          cases hg
          exact .inr (.inr ⟨z, i, c, rfl, rfl, by rw [sizeLine_eq]; exact hz, e, k _ H2 F2 st a2 (.str _)⟩)
      · rw [if_neg hz] at hg
        cases hg
    | _ => cases hg
  | _ => cases x <;> cases hg⟩
theorem jo_none : JO X T none ρ (P none) := ⟨tNoPart, po_none, fun {σ H F s d s'} hE hR hA hm Q k => by
  obtain ⟨rfl, rfl⟩ := P_some hm
  exact k H F (.refl hE) hA⟩
theorem jo_some (h : JE X T e ρ m) : JO X T (some e) ρ (B m fun x => B (L (partD x)) fun i => P (some i)) := ⟨_, po_some (pE X e), fun {σ H F s d s'} hE hR hA hm Q k => by
  obtain ⟨x, s1, m1, hm⟩ := B_some hm
  obtain ⟨i, hg, hm⟩ := BL_some hm
  obtain ⟨rfl, rfl⟩ := P_some hm
  refine h.run hE hR hA m1 _ fun v H1 F1 st1 a1 r1 => ?_
  cases x with
  | int j =>
    cases hg
    cases r1
    exact ⟨_, rfl, k H1 F1 st1 a1⟩
  | _ => cases hg⟩
theorem je_slice (he : JV X T e ρ m) (hl : JO X T lo ρ ml) (hh : JO X T hi ρ mh) : JE X T (.Subscript e (.Slice lo hi none p2) pos) ρ (B m fun x => B ml fun l => B mh fun h => L (sliceD x l h)) := by
  obtain ⟨tl, pl, hl⟩ := hl
  obtain ⟨th, ph, hh⟩ := hh
  refine ⟨fun {σ H F s d s'} hE hR hA hm Q k => ?_⟩
  obtain ⟨x, s1, m1, hm⟩ := B_some hm
  obtain ⟨l, s2, m2, hm⟩ := B_some hm
  obtain ⟨h, s3, m3, hm⟩ := B_some hm
  obtain ⟨hg, rfl⟩ := L_some hm
  refine sE_of (pe_slice (sl_list.or sl_tupP) (pE X e) pl ph) (he.run hE hR hA m1 _ fun v H1 F1 st1 a1 r1 => hl st1.hf (hR.step st1) a1 m2 _ fun H2 F2 st2 a2 => hh st2.hf (hR.step (st1.trans st2)) a2 m3 _ fun H3 F3 st3 a3 => ?_)
  have st := (st1.trans st2).trans st3
  have r := (r1.step st2).step st3
  unfold sliceD at hg
  split at hg
  · cases hg
    obtain ⟨p, vs, rfl, r, hh⟩ := r.seq (K := X.K) st3.hf (ds := _) rfl
    rcases hh with ⟨_, hh⟩ | ⟨z, _⟩
    · refine .inl ⟨p, vs, rfl, SqL.of hh, fun q hq => ?_⟩
      have st4 : Stq H3 F3 (upd H3 q (.lst (cutV vs l h))) (upd F3 q (.lst (cutV vs l h))) := .new st3.hf hq fun z => z
      exact k _ _ _ (st.trans (st4.up a3)) (st4.at a3) (.lst upd_same ((r.cut l h).mono st4.hh))
    · cases z
  · cases hg
    obtain ⟨p, vs, rfl, r, hh⟩ := r.seq (K := X.K) st3.hf (ds := _) rfl
    rcases hh with ⟨z, _⟩ | ⟨_, hh, h2⟩
    · cases z
    · refine .inr ⟨p, vs, rfl, hh.sq, fun w => ?_, fun _ q ob hq hd => ?_⟩
      · have e := cut_whole w
        have rc := r.cut l h
        rw [e] at rc
        exact k _ _ _ st a3 (.tup h2 rc)
      · have st4 : Stq H3 F3 (upd H3 q (.frz ob (.tup (cutV vs l h)))) (upd F3 q (.frz ob (.tup (cutV vs l h)))) := .new st3.hf hq fun z => z
        exact k _ _ _ (st.trans (st4.up a3)) (st4.at a3) (.tup (.new hd) ((r.cut l h).mono st4.hh))
  · cases hg
end
end DL

set_option Elab.async false
set_option linter.all false
set_option maxRecDepth 100000
set_option maxHeartbeats 2000000
/-! DLComp: what is walked, targets, list comprehensions. -/
namespace DL
open PySem PySem.Spec PyProof.Rows L2

/-! ### targets -/
inductive Sh where
  | n (i : Nat)
  | t2 (a b : Sh)
  | t3 (a b c : Sh)
  | t4 (a b c d : Sh)
def gSh (K : PySem.W.Frag) : Sh → TG
  | .n i => gName i
  | .t2 a b => gTup K 2 (gCons (gSh K a) (gCons (gSh K b) gNil))
  | .t3 a b c => gTup K 3 (gCons (gSh K a) (gCons (gSh K b) (gCons (gSh K c) gNil)))
  | .t4 a b c d => gTup K 4 (gCons (gSh K a) (gCons (gSh K b) (gCons (gSh K c) (gCons (gSh K d) gNil))))
def Sh.ix : Sh → List Nat
  | .n i => [i]
  | .t2 a b => a.ix ++ b.ix
  | .t3 a b c => a.ix ++ b.ix ++ c.ix
  | .t4 a b c d => a.ix ++ b.ix ++ c.ix ++ d.ix
def Sh.bind : Sh → D → List Sl → Option (List Sl)
  | .n i, d, ρ => some (ρ.set i (.val d))
  | .t2 a b, .tuple [x, y], ρ => (a.bind x ρ).bind fun ρ => b.bind y ρ
  | .t3 a b c, .tuple [x, y, z], ρ => (a.bind x ρ).bind fun ρ => (b.bind y ρ).bind fun ρ => c.bind z ρ
  | .t4 a b c d, .tuple [x, y, z, u], ρ => (a.bind x ρ).bind fun ρ => (b.bind y ρ).bind fun ρ => (c.bind z ρ).bind fun ρ => d.bind u ρ
  | _, _, _ => none
/-- a tuple of which nothing more is known -/
def Rt (H : Hp) (v : V) (d : D) : Prop := ∃ a vs ds, v = .ref a ∧ d = .tuple ds ∧ H a = some (.tup vs) ∧ Rps H vs ds
def Sh.tupy : Sh → Bool
  | .n _ => false
  | _ => true
def isTupE : Expr → Bool
  | .Tuple _ _ _ => true
  | _ => false
def tupOk (tg : Expr) (sh : Sh) : Bool := !isTupE tg || sh.tupy
theorem tupOk_some {tg : Expr} {sh : Sh} (h : tupOk tg sh = true) (b : isTupE tg = true) : sh.tupy = true := by
  unfold tupOk at h
  rw [b] at h
  exact h
def Rq (b : Bool) (H : Hp) (v : V) (d : D) : Prop := Rp H v d ∨ (b = true ∧ Rt H v d)
theorem Rq.tup {b : Bool} {H : Hp} {v : V} {ds : List D} (r : Rq b H v (.tuple ds)) : ∃ a vs, v = .ref a ∧ (∀ (K : PySem.W.Frag) (F : Hp), Ex H F → SqT K F a vs) ∧ Rps H vs ds := by
  rcases r with r | ⟨_, a, vs, ds', h1, h2, h3, h4⟩
  · cases r with
    | tup h r => exact ⟨_, _, rfl, fun K F e => (h.mono e).sq, r⟩
  · cases h2
    exact ⟨a, vs, h1, fun K F e => SqT.of (e _ _ h3), h4⟩
def PGd (X : Cx) (tg : Expr) (sh : Sh) : Prop := PG X tg (gSh X.K sh)
section
variable {X : Cx} {pos : Pos}
theorem pgd_n (i : Nat) {x : Str} (hN : X.N.Nodup) (hi : X.N[i]? = some x) (hx : Loc X.env.scope x) (hf : X.fn x = true ∨ X.env.scope.names.lookup x = some .local := by first | exact .inl rfl | exact .inr rfl | assumption) : PGd X (.Name x pos) (.n i) := pg_name hN hi hx hf
theorem pgd_2 {e1 e2 : Expr} {k : Nat} {a b : Sh} (hc : X.calm = true) (h1 : PGd X e1 a) (h2 : PGd X e2 b) (hs1 : (assignEach [e1, e2] X.env).map (·.2) = assign e1 X.env :: (assignEach [e2] X.env).map (·.2) := by rfl) (hs2 : (assignEach [e2] X.env).map (·.2) = assign e2 X.env :: (assignEach [] X.env).map (·.2) := by rfl)
    (hn : (assignEach [e1, e2] X.env).length = 2 := by rfl) (hst : (assignEach [e1, e2] X.env).findIdx? (·.1) = none := by rfl) : PGd X (.Tuple [e1, e2] k pos) (.t2 a b) := pg_tup hc (pgs_cons h1 (pgs_cons h2 pgs_nil hs2) hs1) hn hst
theorem pgd_3 {e1 e2 e3 : Expr} {k : Nat} {a b c : Sh} (hc : X.calm = true) (h1 : PGd X e1 a) (h2 : PGd X e2 b) (h3 : PGd X e3 c) (hs1 : (assignEach [e1, e2, e3] X.env).map (·.2) = assign e1 X.env :: (assignEach [e2, e3] X.env).map (·.2) := by rfl) (hs2 : (assignEach [e2, e3] X.env).map (·.2) = assign e2 X.env :: (assignEach [e3] X.env).map (·.2) := by rfl) (hs3 : (assignEach [e3] X.env).map (·.2) = assign e3 X.env :: (assignEach [] X.env).map (·.2) := by rfl)
    (hn : (assignEach [e1, e2, e3] X.env).length = 3 := by rfl) (hst : (assignEach [e1, e2, e3] X.env).findIdx? (·.1) = none := by rfl) : PGd X (.Tuple [e1, e2, e3] k pos) (.t3 a b c) := pg_tup hc (pgs_cons h1 (pgs_cons h2 (pgs_cons h3 pgs_nil hs3) hs2) hs1) hn hst
end
section
variable {K : PySem.W.Frag} {S : Type} {T : Tie S} {H F : Hp}
theorem Rps.two {vs : List V} {x y : D} (r : Rps H vs [x, y]) : ∃ u v, vs = [u, v] ∧ Rp H u x ∧ Rp H v y := by
  cases r with
  | cons h1 r => cases r with
    | cons h2 r => cases r; exact ⟨_, _, rfl, h1, h2⟩
theorem Rps.three {vs : List V} {x y z : D} (r : Rps H vs [x, y, z]) : ∃ u v w, vs = [u, v, w] ∧ Rp H u x ∧ Rp H v y ∧ Rp H w z := by
  cases r with
  | cons h1 r =>
    obtain ⟨v, w, rfl, h2, h3⟩ := r.two
    exact ⟨_, _, _, rfl, h1, h2, h3⟩
theorem Rps.four {vs : List V} {x y z t : D} (r : Rps H vs [x, y, z, t]) : ∃ u v w o, vs = [u, v, w, o] ∧ Rp H u x ∧ Rp H v y ∧ Rp H w z ∧ Rp H o t := by
  cases r with
  | cons h1 r =>
    obtain ⟨v, w, o, rfl, h2, h3, h4⟩ := r.three
    exact ⟨_, _, _, _, rfl, h1, h2, h3, h4⟩
/-- slots set outside a list are as they were -/
def SameOut (ix : List Nat) (σ σ' : L2.St) : Prop := σ'.length = σ.length ∧ ∀ i, i ∉ ix → σ'[i]? = σ[i]?
theorem SameOut.refl (ix : List Nat) (σ : L2.St) : SameOut ix σ σ := ⟨rfl, fun _ _ => rfl⟩
theorem gSh_run (hE : Ex H F) : ∀ (sh : Sh) {v : V} {d : D} {ρ ρ' : List Sl} {σ : L2.St}, Rq sh.tupy H v d → EnvR K T ρ σ H F → sh.bind d ρ = some ρ' → ∀ Q : L2.St → Hp → Prop, (∀ σ', EnvR K T ρ' σ' H F → SameOut sh.ix σ σ' → Q σ' F) → gSh K sh v σ F Q := by
  intro sh
  induction sh with
  | n i =>
    intro v d ρ ρ' σ r hR hb Q k
    cases hb
    have r : Rp H v d := r.elim id fun z => nomatch z.1
    refine k _ (hR.set r i) ⟨by simp, fun j hj => ?_⟩
    have : i ≠ j := fun e => hj (by simp [Sh.ix, e])
    rw [List.getElem?_set_ne this]
  | t2 a b ha hb' =>
    intro v d ρ ρ' σ r hR hb Q k
    cases d with
    | tuple ds =>
      match ds, hb with
      | [x, y], hb =>
        obtain ⟨a0, vs0, rfl, hsq, r⟩ := r.tup
        · skip
          obtain ⟨u, w, rfl, r1, r2⟩ := r.two
          cases e1 : a.bind x ρ with
          | none => simp [Sh.bind, e1] at hb
          | some ρ1 =>
            have e2 : b.bind y ρ1 = some ρ' := by simpa [Sh.bind, e1] using hb
            refine ⟨_, _, rfl, hsq K F hE, rfl, u, [w], rfl, ha (.inl r1) hR e1 _ fun σ1 hR1 s1 => ⟨w, [], rfl, hb' (.inl r2) hR1 e2 _ fun σ2 hR2 s2 => ⟨rfl, k σ2 hR2 ⟨s2.1.trans s1.1, fun i hi => ?_⟩⟩⟩⟩
            simp only [Sh.ix, List.mem_append, not_or] at hi
            exact (s2.2 i hi.2).trans (s1.2 i hi.1)
    | _ => simp [Sh.bind] at hb
  | t3 a b c ha hb' hc =>
    intro v d ρ ρ' σ r hR hb Q k
    cases d with
    | tuple ds =>
      match ds, hb with
      | [x, y, z], hb =>
        obtain ⟨a0, vs0, rfl, hsq, r⟩ := r.tup
        · skip
          obtain ⟨u, w, o, rfl, r1, r2, r3⟩ := r.three
          cases e1 : a.bind x ρ with
          | none => simp [Sh.bind, e1] at hb
          | some ρ1 =>
            cases e2 : b.bind y ρ1 with
            | none => simp [Sh.bind, e1, e2] at hb
            | some ρ2 =>
              have e3 : c.bind z ρ2 = some ρ' := by simpa [Sh.bind, e1, e2] using hb
              refine ⟨_, _, rfl, hsq K F hE, rfl, u, [w, o], rfl, ha (.inl r1) hR e1 _ fun σ1 hR1 s1 => ⟨w, [o], rfl, hb' (.inl r2) hR1 e2 _ fun σ2 hR2 s2 => ⟨o, [], rfl, hc (.inl r3) hR2 e3 _ fun σ3 hR3 s3 => ⟨rfl, k σ3 hR3 ⟨s3.1.trans (s2.1.trans s1.1), fun i hi => ?_⟩⟩⟩⟩⟩
              simp only [Sh.ix, List.mem_append, not_or] at hi
              exact (s3.2 i hi.2).trans ((s2.2 i hi.1.2).trans (s1.2 i hi.1.1))
    | _ => simp [Sh.bind] at hb
  | t4 a b c d4 ha hb' hc hd =>
    intro v d ρ ρ' σ r hR hb Q k
    cases d with
    | tuple ds =>
      match ds, hb with
      | [x, y, z, t], hb =>
        obtain ⟨a0, vs0, rfl, hsq, r⟩ := r.tup
        · skip
          obtain ⟨u, w, o, o2, rfl, r1, r2, r3, r4⟩ := r.four
          cases e1 : a.bind x ρ with
          | none => simp [Sh.bind, e1] at hb
          | some ρ1 =>
            cases e2 : b.bind y ρ1 with
            | none => simp [Sh.bind, e1, e2] at hb
            | some ρ2 =>
              cases e3 : c.bind z ρ2 with
              | none => simp [Sh.bind, e1, e2, e3] at hb
              | some ρ3 =>
                have e4 : d4.bind t ρ3 = some ρ' := by simpa [Sh.bind, e1, e2, e3] using hb
                refine ⟨_, _, rfl, hsq K F hE, rfl, u, [w, o, o2], rfl, ha (.inl r1) hR e1 _ fun σ1 hR1 s1 => ⟨w, [o, o2], rfl, hb' (.inl r2) hR1 e2 _ fun σ2 hR2 s2 => ⟨o, [o2], rfl, hc (.inl r3) hR2 e3 _ fun σ3 hR3 s3 => ⟨o2, [], rfl, hd (.inl r4) hR3 e4 _ fun σ4 hR4 s4 => ⟨rfl, k σ4 hR4 ⟨s4.1.trans (s3.1.trans (s2.1.trans s1.1)), fun i hi => ?_⟩⟩⟩⟩⟩⟩
                simp only [Sh.ix, List.mem_append, not_or] at hi
                exact (s4.2 i hi.2).trans ((s3.2 i hi.1.2).trans ((s2.2 i hi.1.1.2).trans (s1.2 i hi.1.1.1)))
    | _ => simp [Sh.bind] at hb
end

/-! ### what is walked -/
/-- J gives ds, one by one, while F keeps what stands at U -/
structure WalkD (b : Bool) (U : Addr → Prop) (J : It) (ds : List D) (H F : Hp) : Prop where
  goes : ∀ i H1 F1, Ex H H1 → Ex H1 F1 → (∀ a, U a → F1 a = F a) → i < ds.length → J.go i F1
  stops : ∀ H1 F1, Ex H H1 → Ex H1 F1 → (∀ a, U a → F1 a = F a) → J.stop ds.length F1
  yields : ∀ i H1 F1 x F2, Ex H H1 → Ex H1 F1 → (∀ a, U a → F1 a = F a) → i < ds.length → J.yld i F1 x F2 → ∃ H2 d, Stq H1 F1 H2 F2 ∧ ds[i]? = some d ∧ Rq b H2 x d
/-- the walked thing: pure, if nothing hangs on a list that may still change -/
structure JI (X : Cx) {S : Type} (T : Tie S) (tg iter : Expr) (ρ : List Sl) (pure : Bool) (m : M S (List D)) : Prop where
  run : ∀ {σ : L2.St} {H F : Hp} {s : S} {ds : List D} {s' : S}, Ex H F → EnvR X.K T ρ σ H F → T.at_ s H F → m s = some (ds, s') →
    ∀ R : It → Hp → Prop, (∀ U J H' F', Stp T.pt H F H' F' → T.at_ s' H' F' → (∀ a, U a → ¬ T.pt a ∧ H' a = none ∧ F' a ≠ none) → (pure = true → ∀ a, ¬ U a) → WalkD (isTupE tg) U J ds H' F' → R J F') → sI X tg iter σ F R
theorem walkD_list {b : Bool} {K : PySem.W.Frag} {H F : Hp} {a : Addr} {vs : List V} {ds : List D} {U : Addr → Prop} (hs : ∀ F1, (∀ H1, Ex H H1 → Ex H1 F1 → (∀ a, U a → F1 a = F a) → SqL K F1 a vs)) (r : Rps H vs ds) : WalkD b U (Itl K a) ds H F where
  goes := fun i H1 F1 e1 e2 u hi => ⟨vs, vs[i]'(by rw [r.length]; exact hi), hs F1 H1 e1 e2 u, by simp [r.length, hi]⟩
  stops := fun H1 F1 e1 e2 u => ⟨vs, hs F1 H1 e1 e2 u, by rw [r.length]; exact Nat.le_refl _⟩
  yields := fun i H1 F1 x F2 e1 e2 u hi y => by
    obtain ⟨rfl, f⟩ := y
    obtain ⟨d, h1, h2⟩ := r.getV (f vs (hs F2 H1 e1 e2 u))
    exact ⟨H1, d, .refl e2, h1, .inl (h2.mono e1)⟩
theorem walkD_tup {b : Bool} {K : PySem.W.Frag} {H F : Hp} {a : Addr} {vs : List V} {ds : List D} {U : Addr → Prop} (hs : ∀ F1, (∀ H1, Ex H H1 → Ex H1 F1 → (∀ a, U a → F1 a = F a) → SqT K F1 a vs)) (r : Rps H vs ds) : WalkD b U (Itt K a) ds H F where
  goes := fun i H1 F1 e1 e2 u hi => ⟨vs, vs[i]'(by rw [r.length]; exact hi), hs F1 H1 e1 e2 u, by simp [r.length, hi]⟩
  stops := fun H1 F1 e1 e2 u => ⟨vs, hs F1 H1 e1 e2 u, by rw [r.length]; exact Nat.le_refl _⟩
  yields := fun i H1 F1 x F2 e1 e2 u hi y => by
    obtain ⟨rfl, f⟩ := y
    obtain ⟨d, h1, h2⟩ := r.getV (f vs (hs F2 H1 e1 e2 u))
    exact ⟨H1, d, .refl e2, h1, .inl (h2.mono e1)⟩
theorem PI.or {X : Cx} {tg e : Expr} {w1 w2 : TI} (h1 : PI X tg e w1) (h2 : PI X tg e w2) : PI X tg e (fun σ H R => w1 σ H R ∨ w2 σ H R) := ⟨fun pins s σ H R I h => h.elim (h1.run pins s σ H R I) (h2.run pins s σ H R I)⟩
section
variable {X : Cx} {S : Type} {T : Tie S} {ρ : List Sl} {m : M S D} {tg e : Expr} {pos p : Pos}
/-- over a list or a tuple -/
theorem ji_seq (h : JE X T e ρ m) : JI X T tg e ρ true (B m fun x => L (seqD x)) := ⟨fun {σ H F s ds s'} hE hR hA hm R k => by
  obtain ⟨x, s1, m1, hm⟩ := B_some hm
  obtain ⟨hg, rfl⟩ := L_some hm
  refine sI_of (PI.or (pi_list (pE X e)) (pi_tup (pE X e))) ?_
  cases x with
  | list xs =>
    cases hg
    refine .inl (h.run hE hR hA m1 _ fun v H1 F1 st1 a1 r1 => ?_)
    cases r1 with
    | lst ha r => exact ⟨_, rfl, ⟨_, SqL.of (st1.hf _ _ ha)⟩, k (fun _ => False) _ H1 F1 st1 a1 (fun _ h => h.elim) (fun _ _ h => h) (walkD_list (fun F2 H2 e1 e2 _ => SqL.of (e2 _ _ (e1 _ _ ha))) r)⟩
  | tuple xs =>
    cases hg
    refine .inr (h.run hE hR hA m1 _ fun v H1 F1 st1 a1 r1 => ?_)
    cases r1 with
    | tup ha r => exact ⟨_, rfl, ⟨_, (ha.mono st1.hf).sq⟩, k (fun _ => False) _ H1 F1 st1 a1 (fun _ h => h.elim) (fun _ _ h => h) (walkD_tup (fun F2 H2 e1 e2 _ => ((ha.mono e1).mono e2).sq) r)⟩
  | _ => cases hg⟩
/-- over a view -/
theorem ji_view (h : JV X T e ρ m) : JI X T tg e ρ false (B m fun x => L (seqD x)) := ⟨fun {σ H F s ds s'} hE hR hA hm R k => by
  obtain ⟨x, s1, m1, hm⟩ := B_some hm
  obtain ⟨hg, rfl⟩ := L_some hm
  refine sI_of (PI.or (pi_list (pE X e)) (pi_tup (pE X e))) ?_
  cases x with
  | list xs =>
    cases hg
    refine .inl (h.run hE hR hA m1 _ fun v H1 F1 st1 a1 r1 => ?_)
    rcases r1 with r1 | ⟨q, vs, es, rfl, ed, h1, h2, h3, h4⟩
    · cases r1 with
      | lst ha r => exact ⟨_, rfl, ⟨_, SqL.of (st1.hf _ _ ha)⟩, k (fun _ => False) _ H1 F1 st1 a1 (fun _ h => h.elim) (fun _ _ h => h) (walkD_list (fun F2 H2 e1 e2 _ => SqL.of (e2 _ _ (e1 _ _ ha))) r)⟩
    · cases ed
      exact ⟨_, rfl, ⟨_, SqL.of h3⟩, k (fun a => a = q) _ H1 F1 st1 a1 (fun a ea => by subst ea; exact ⟨h2, h1, by rw [h3]; simp⟩) (fun z => Bool.noConfusion z) (walkD_list (fun F2 H2 e1 e2 u => SqL.of ((u q rfl).trans h3)) h4)⟩
  | tuple xs =>
    cases hg
    refine .inr (h.run hE hR hA m1 _ fun v H1 F1 st1 a1 r1 => ?_)
    rcases r1 with r1 | ⟨q, vs, es, rfl, ed, _⟩
    · cases r1 with
      | tup ha r => exact ⟨_, rfl, ⟨_, (ha.mono st1.hf).sq⟩, k (fun _ => False) _ H1 F1 st1 a1 (fun _ h => h.elim) (fun _ _ h => h) (walkD_tup (fun F2 H2 e1 e2 _ => ((ha.mono e1).mono e2).sq) r)⟩
    · cases ed
  | _ => cases hg⟩
/-- ranges -/
def rgL (lo hi : Int) : List D := (List.range (hi - lo).toNat).map fun i => .int (lo + (i : Nat))
theorem rgL_length (lo hi : Int) : (rgL lo hi).length = (hi - lo).toNat := by simp [rgL]
theorem rgL_get {lo hi : Int} {i : Nat} (h : i < (hi - lo).toNat) : (rgL lo hi)[i]? = some (.int (lo + (i : Nat))) := by simp [rgL, h]
def range1L : List D → Option (List D)
  | [.int j] => if -(2 ^ 62) ≤ j ∧ j < 2 ^ 62 then some (rgL 0 j) else none
  | _ => none
def range2L : List D → Option (List D)
  | [.int i, .int j] => if -(2 ^ 62) ≤ i ∧ i < 2 ^ 62 ∧ -(2 ^ 62) ≤ j ∧ j < 2 ^ 62 then some (rgL i j) else none
  | _ => none
theorem range1L_some {ds : List D} {r : List D} (h : range1L ds = some r) : ∃ j, ds = [.int j] ∧ -(2 ^ 62) ≤ j ∧ j < 2 ^ 62 ∧ r = rgL 0 j := by
  unfold range1L at h
  split at h
  · split at h
    · cases h
      rename_i c
      exact ⟨_, rfl, c.1, c.2, rfl⟩
    · cases h
  · cases h
theorem range2L_some {ds : List D} {r : List D} (h : range2L ds = some r) : ∃ i j, ds = [.int i, .int j] ∧ (-(2 ^ 62) ≤ i ∧ i < 2 ^ 62 ∧ -(2 ^ 62) ≤ j ∧ j < 2 ^ 62) ∧ r = rgL i j := by
  unfold range2L at h
  split at h
  · split at h
    · cases h
      exact ⟨_, _, rfl, by assumption, rfl⟩
    · cases h
  · cases h
theorem walkD_range {b : Bool} {H F : Hp} {lo hi : Int} : WalkD b (fun _ => False) (Itr lo (hi - lo).toNat) (rgL lo hi) H F where
  goes := fun i H1 F1 e1 e2 u h => by rw [rgL_length] at h; exact h
  stops := fun H1 F1 e1 e2 u => by rw [rgL_length]; exact Nat.le_refl _
  yields := fun i H1 F1 x F2 e1 e2 u h y => by
    obtain ⟨rfl, rfl⟩ := y
    rw [rgL_length] at h
    exact ⟨H1, _, .refl e2, rgL_get h, .inl (.int _)⟩
theorem Rps.int1 {H : Hp} {vs : List V} {i : Int} (r : Rps H vs [.int i]) : vs = [.int i] := Rps.ints (ns := [i]) r
theorem Rps.int2 {H : Hp} {vs : List V} {i j : Int} (r : Rps H vs [.int i, .int j]) : vs = [.int i, .int j] := Rps.ints (ns := [i, j]) r
theorem Rps.int3 {H : Hp} {vs : List V} {i j k : Int} (r : Rps H vs [.int i, .int j, .int k]) : vs = [.int i, .int j, .int k] := Rps.ints (ns := [i, j, k]) r
theorem ji_range1 {a : Expr} {ma : M S (List D)} (hg : Gl X "range") (hm : X.mg "range" = none) (ha : JA X T [a] ρ (fun ds => L (range1L ds)) ma) (hs : starEach [a] X.env = [(false, eval a X.env)] := by rfl) : JI X T tg (.Call (.Name "range" p) [a] [] pos) ρ true ma := ⟨fun {σ H F s ds s'} hE hR hA hm' R k => by
  refine sI_of (pi_range1 hg hm (pA X _) hs) (ha.run hE hR hA hm' _ fun vs es s1 H1 F1 st1 a1 r1 hk => ?_)
  obtain ⟨hq, rfl⟩ := L_some hk
  obtain ⟨j, rfl, c1, c2, rfl⟩ := range1L_some hq
  have w : WalkD (isTupE tg) (fun _ => False) (Itr 0 (j - 0).toNat) (rgL 0 j) H1 F1 := walkD_range
  rw [Int.sub_zero] at w
  exact ⟨j, r1.int1, c1, c2, k _ _ H1 F1 st1 a1 (fun _ h => h.elim) (fun _ _ h => h) w⟩⟩
theorem ji_range2 {a b : Expr} {ma : M S (List D)} (hg : Gl X "range") (hm : X.mg "range" = none) (ha : JA X T [a, b] ρ (fun ds => L (range2L ds)) ma) (hs : starEach [a, b] X.env = [(false, eval a X.env), (false, eval b X.env)] := by rfl) (hs2 : starEach [b] X.env = [(false, eval b X.env)] := by rfl) :
    JI X T tg (.Call (.Name "range" p) [a, b] [] pos) ρ true ma := ⟨fun {σ H F s ds s'} hE hR hA hm' R k => by
  refine sI_of (pi_range2 hg hm (pA X _) hs hs2) (ha.run hE hR hA hm' _ fun vs es s1 H1 F1 st1 a1 r1 hk => ?_)
  obtain ⟨hq, rfl⟩ := L_some hk
  obtain ⟨i, j, rfl, c, rfl⟩ := range2L_some hq
  exact ⟨i, j, r1.int2, c, k _ _ H1 F1 st1 a1 (fun _ h => h.elim) (fun _ _ h => h) walkD_range⟩⟩
/-- pairs -/
def pairs2 : List D → List D → List D
  | x :: xs, y :: ys => .tuple [x, y] :: pairs2 xs ys
  | _, _ => []
theorem pairs2_length : ∀ xs ys : List D, (pairs2 xs ys).length = min xs.length ys.length
  | [], _ => by simp [pairs2]
  | _ :: _, [] => by simp [pairs2]
  | x :: xs, y :: ys => by simp [pairs2, pairs2_length xs ys]
theorem pairs2_get : ∀ (xs ys : List D) (i : Nat) (x y : D), xs[i]? = some x → ys[i]? = some y → (pairs2 xs ys)[i]? = some (.tuple [x, y])
  | [], _, _, _, _, h, _ => by simp at h
  | _ :: _, [], _, _, _, _, h => by simp at h
  | x :: xs, y :: ys, 0, a, b, h, h' => by simp at h h'; subst h h'; rfl
  | x :: xs, y :: ys, i + 1, a, b, h, h' => by
    show (pairs2 xs ys)[i]? = _
    exact pairs2_get xs ys i a b (by simpa using h) (by simpa using h')
def zipL : List D → Option (List D)
  | [.list xs, .list ys] => some (pairs2 xs ys)
  | [.tuple xs, .tuple ys] => some (pairs2 xs ys)
  | _ => none
theorem zipL_some {ds r : List D} (h : zipL ds = some r) : (∃ xs ys, ds = [.list xs, .list ys] ∧ r = pairs2 xs ys) ∨ (∃ xs ys, ds = [.tuple xs, .tuple ys] ∧ r = pairs2 xs ys) := by
  unfold zipL at h
  split at h
  · cases h
    exact .inl ⟨_, _, rfl, rfl⟩
  · cases h
    exact .inr ⟨_, _, rfl, rfl⟩
  · cases h
theorem Rp.list_inv {H : Hp} {v : V} {xs : List D} (r : Rp H v (.list xs)) : ∃ a vs, v = .ref a ∧ H a = some (.lst vs) ∧ Rps H vs xs := by
  cases r with
  | lst h r => exact ⟨_, _, rfl, h, r⟩
theorem Rp.tup_inv {H : Hp} {v : V} {xs : List D} (r : Rp H v (.tuple xs)) : ∃ a vs, v = .ref a ∧ Tp H a vs ∧ Rps H vs xs := by
  cases r with
  | tup h r => exact ⟨_, _, rfl, h, r⟩
theorem new_pair {H1 F1 : Hp} {Tq : Addr} {u w : V} {x y : D} (e2 : Ex H1 F1) (hn : F1 Tq = none) (r1 : Rp H1 u x) (r2 : Rp H1 w y) : Stq H1 F1 (upd H1 Tq (.tup [u, w])) (upd F1 Tq (.tup [u, w])) ∧ Rt (upd H1 Tq (.tup [u, w])) (.ref Tq) (.tuple [x, y]) := by
  have st : Stq H1 F1 (upd H1 Tq (.tup [u, w])) (upd F1 Tq (.tup [u, w])) := .new e2 hn fun z => z
  exact ⟨st, _, _, _, rfl, rfl, upd_same, .cons (r1.mono st.hh) (.cons (r2.mono st.hh) .nil)⟩
theorem ji_zip {a b : Expr} {elts : List Expr} {kk : Nat} {tpos : Pos} {ma : M S (List D)} (hg : Gl X "zip") (hm : X.mg "zip" = none) (ha : JA X T [a, b] ρ (fun ds => L (zipL ds)) ma)
    (hs : starEach [a, b] X.env = (false, eval a X.env) :: starEach [b] X.env := by rfl) (hpl : (backTo pos (starEach [b] X.env)).any (·.1) = false := by rfl) : JI X T (.Tuple elts kk tpos) (.Call (.Name "zip" p) [a, b] [] pos) ρ true ma := ⟨fun {σ H F s ds s'} hE hR hA hm' R k => by
  refine sI_of (RZ.pi_zipA hg hm (pA X _) hs hpl) (ha.run hE hR hA hm' _ fun vs es s1 H1 F1 st1 a1 r1 hk => ?_)
  obtain ⟨hq, rfl⟩ := L_some hk
  rcases zipL_some hq with ⟨xs, ys, rfl, rfl⟩ | ⟨xs, ys, rfl, rfl⟩
  · obtain ⟨u, w, rfl, ru, rw'⟩ := r1.two
    obtain ⟨c, cs, rfl, hc, rc⟩ := ru.list_inv
    obtain ⟨d, es, rfl, hd, rd⟩ := rw'.list_inv
    refine ⟨c, d, cs, es, rfl, .inl ⟨SqL.of (st1.hf _ _ hc), SqL.of (st1.hf _ _ hd), k (fun _ => False) _ H1 F1 st1 a1 (fun _ h => h.elim) (fun _ _ h => h) ⟨fun i H2 F2 e1 e2 _ hi => ?_, fun H2 F2 e1 e2 _ => ?_, fun i H2 F2 x F3 e1 e2 _ hi y => ?_⟩⟩⟩
    · rw [pairs2_length] at hi
      have l1 := rc.length
      have l2 := rd.length
      exact ⟨cs, es, cs[i]'(by omega), es[i]'(by omega), SqL.of (e2 _ _ (e1 _ _ hc)), SqL.of (e2 _ _ (e1 _ _ hd)), by simp [show i < cs.length by omega], by simp [show i < es.length by omega]⟩
    · rw [pairs2_length]
      exact ⟨cs, es, SqL.of (e2 _ _ (e1 _ _ hc)), SqL.of (e2 _ _ (e1 _ _ hd)), by rw [rc.length, rd.length]; omega⟩
    · obtain ⟨Tq, x1, x2, rfl, nT, rfl, f1, f2⟩ := y
      obtain ⟨y1, g1, q1⟩ := rc.getV (f1 cs (SqL.of (e2 _ _ (e1 _ _ hc))))
      obtain ⟨y2, g2, q2⟩ := rd.getV (f2 es (SqL.of (e2 _ _ (e1 _ _ hd))))
      obtain ⟨st, rp⟩ := new_pair e2 nT (q1.mono e1) (q2.mono e1)
      exact ⟨_, _, st, pairs2_get _ _ _ _ _ g1 g2, .inr ⟨rfl, rp⟩⟩
  · obtain ⟨u, w, rfl, ru, rw'⟩ := r1.two
    obtain ⟨c, cs, rfl, hc, rc⟩ := ru.tup_inv
    obtain ⟨d, es, rfl, hd, rd⟩ := rw'.tup_inv
    refine ⟨c, d, cs, es, rfl, .inr ⟨(hc.mono st1.hf).sq, (hd.mono st1.hf).sq, k (fun _ => False) _ H1 F1 st1 a1 (fun _ h => h.elim) (fun _ _ h => h) ⟨fun i H2 F2 e1 e2 _ hi => ?_, fun H2 F2 e1 e2 _ => ?_, fun i H2 F2 x F3 e1 e2 _ hi y => ?_⟩⟩⟩
    · rw [pairs2_length] at hi
      have l1 := rc.length
      have l2 := rd.length
      exact ⟨cs, es, cs[i]'(by omega), es[i]'(by omega), ((hc.mono e1).mono e2).sq, ((hd.mono e1).mono e2).sq, by simp [show i < cs.length by omega], by simp [show i < es.length by omega]⟩
    · rw [pairs2_length]
      exact ⟨cs, es, ((hc.mono e1).mono e2).sq, ((hd.mono e1).mono e2).sq, by rw [rc.length, rd.length]; omega⟩
    · obtain ⟨Tq, x1, x2, rfl, nT, rfl, f1, f2⟩ := y
      obtain ⟨y1, g1, q1⟩ := rc.getV (f1 cs (((hc.mono e1).mono e2).sq))
      obtain ⟨y2, g2, q2⟩ := rd.getV (f2 es (((hd.mono e1).mono e2).sq))
      obtain ⟨st, rp⟩ := new_pair e2 nT (q1.mono e1) (q2.mono e1)
      exact ⟨_, _, st, pairs2_get _ _ _ _ _ g1 g2, .inr ⟨rfl, rp⟩⟩⟩
/-- enumerate of a list -/
def enumL (xs : List D) : List D := pairs2 ((List.range xs.length).map fun i => .int (i : Nat)) xs
theorem enumL_length (xs : List D) : (enumL xs).length = xs.length := by simp [enumL, pairs2_length]
theorem enumL_get {xs : List D} {i : Nat} {x : D} (h : xs[i]? = some x) : (enumL xs)[i]? = some (.tuple [.int (i : Nat), x]) := by
  have hi : i < xs.length := (List.getElem?_eq_some_iff.mp h).1
  exact pairs2_get _ _ _ _ _ (by simp [hi]) h
def enumD : List D → Option (List D)
  | [.list xs] => some (enumL xs)
  | _ => none
theorem enumD_some {ds r : List D} (h : enumD ds = some r) : ∃ xs, ds = [.list xs] ∧ r = enumL xs := by
  unfold enumD at h
  split at h
  · cases h
    exact ⟨_, rfl, rfl⟩
  · cases h
theorem Rps.one {H : Hp} {vs : List V} {x : D} (r : Rps H vs [x]) : ∃ u, vs = [u] ∧ Rp H u x := by
  cases r with
  | cons h1 r => cases r; exact ⟨_, rfl, h1⟩
theorem ji_enum {a : Expr} {elts : List Expr} {kk : Nat} {tpos : Pos} {ma : M S (List D)} (hg : Gl X "enumerate") (hm : X.mg "enumerate" = none) (ha : JA X T [a] ρ (fun ds => L (enumD ds)) ma)
    (hs : starEach [a] X.env = [(false, eval a X.env)] := by rfl) : JI X T (.Tuple elts kk tpos) (.Call (.Name "enumerate" p) [a] [] pos) ρ true ma := ⟨fun {σ H F s ds s'} hE hR hA hm' R k => by
  refine sI_of (pi_enum hg hm (pA X _) hs) (ha.run hE hR hA hm' _ fun vs es s1 H1 F1 st1 a1 r1 hk => ?_)
  obtain ⟨hq, rfl⟩ := L_some hk
  obtain ⟨xs, rfl, rfl⟩ := enumD_some hq
  obtain ⟨u, rfl, ru⟩ := r1.one
  obtain ⟨c, cs, rfl, hc, rc⟩ := ru.list_inv
  refine ⟨c, cs, rfl, SqL.of (st1.hf _ _ hc), k (fun _ => False) _ H1 F1 st1 a1 (fun _ h => h.elim) (fun _ _ h => h) ⟨fun i H2 F2 e1 e2 _ hi => ?_, fun H2 F2 e1 e2 _ => ?_, fun i H2 F2 x F3 e1 e2 _ hi y => ?_⟩⟩
  · rw [enumL_length] at hi
    have l1 := rc.length
    exact ⟨cs, cs[i]'(by omega), SqL.of (e2 _ _ (e1 _ _ hc)), by simp [show i < cs.length by omega]⟩
  · rw [enumL_length]
    exact ⟨cs, SqL.of (e2 _ _ (e1 _ _ hc)), by rw [rc.length]; exact Nat.le_refl _⟩
  · obtain ⟨Tq, x1, rfl, nT, rfl, f1⟩ := y
    obtain ⟨y1, g1, q1⟩ := rc.getV (f1 cs (SqL.of (e2 _ _ (e1 _ _ hc))))
    obtain ⟨st, rp⟩ := new_pair e2 nT (.int (i : Nat)) (q1.mono e1)
    exact ⟨_, _, st, enumL_get g1, .inr ⟨rfl, rp⟩⟩⟩
end

/-! ### list comprehensions -/
def cmp {S : Type} : List D → (D → M S (Option D)) → M S (List D)
  | [], _ => P []
  | d :: ds, f => B (f d) fun o => B (cmp ds f) fun r => P (match o with
    | some x => x :: r
    | none => r)
/-- a turn: the target takes an item, then Post -/
def JItem {S β : Type} (sh : Sh) (ρ : List Sl) (mb : D → M S β) (Post : List Sl → M S β → Prop) : Prop := ∀ d s r s', mb d s = some (r, s') → ∃ ρ' m', sh.bind d ρ = some ρ' ∧ Post ρ' m' ∧ m' s = some (r, s')
def u2 {S β : Type} (d : D) (f : D → D → M S β) : M S β := match d with
  | .tuple [x, y] => f x y
  | _ => fail
def u3 {S β : Type} (d : D) (f : D → D → D → M S β) : M S β := match d with
  | .tuple [x, y, z] => f x y z
  | _ => fail
def u4 {S β : Type} (d : D) (f : D → D → D → D → M S β) : M S β := match d with
  | .tuple [x, y, z, t] => f x y z t
  | _ => fail
theorem u2_some {S β : Type} {d : D} {f : D → D → M S β} {s s' : S} {r : β} (h : u2 d f s = some (r, s')) : ∃ x y, d = .tuple [x, y] ∧ f x y s = some (r, s') := by
  unfold u2 at h
  split at h
  · exact ⟨_, _, rfl, h⟩
  · cases h
theorem u3_some {S β : Type} {d : D} {f : D → D → D → M S β} {s s' : S} {r : β} (h : u3 d f s = some (r, s')) : ∃ x y z, d = .tuple [x, y, z] ∧ f x y z s = some (r, s') := by
  unfold u3 at h
  split at h
  · exact ⟨_, _, _, rfl, h⟩
  · cases h
theorem u4_some {S β : Type} {d : D} {f : D → D → D → D → M S β} {s s' : S} {r : β} (h : u4 d f s = some (r, s')) : ∃ x y z t, d = .tuple [x, y, z, t] ∧ f x y z t s = some (r, s') := by
  unfold u4 at h
  split at h
  · exact ⟨_, _, _, _, rfl, h⟩
  · cases h
section
variable {S β : Type} {ρ : List Sl} {Post : List Sl → M S β → Prop}
theorem ji_n {i : Nat} {mb : D → M S β} (h : ∀ d, Post (ρ.set i (.val d)) (mb d)) : JItem (.n i) ρ mb Post := fun d s r s' e => ⟨_, _, rfl, h d, e⟩
theorem ji_2 {i j : Nat} {mb : D → D → M S β} (h : ∀ x y, Post ((ρ.set i (.val x)).set j (.val y)) (mb x y)) : JItem (.t2 (.n i) (.n j)) ρ (fun d => u2 d mb) Post := fun d s r s' e => by
  obtain ⟨x, y, rfl, e⟩ := u2_some e
  exact ⟨_, _, rfl, h x y, e⟩
theorem ji_3 {i j k : Nat} {mb : D → D → D → M S β} (h : ∀ x y z, Post (((ρ.set i (.val x)).set j (.val y)).set k (.val z)) (mb x y z)) : JItem (.t3 (.n i) (.n j) (.n k)) ρ (fun d => u3 d mb) Post := fun d s r s' e => by
  obtain ⟨x, y, z, rfl, e⟩ := u3_some e
  exact ⟨_, _, rfl, h x y z, e⟩
theorem ji_4 {i j k l : Nat} {mb : D → D → D → D → M S β} (h : ∀ x y z t, Post ((((ρ.set i (.val x)).set j (.val y)).set k (.val z)).set l (.val t)) (mb x y z t)) : JItem (.t4 (.n i) (.n j) (.n k) (.n l)) ρ (fun d => u4 d mb) Post := fun d s r s' e => by
  obtain ⟨x, y, z, t, rfl, e⟩ := u4_some e
  exact ⟨_, _, rfl, h x y z t, e⟩
theorem ji_12 {i j k : Nat} {mb : D → D → D → M S β} (h : ∀ x y z, Post (((ρ.set i (.val x)).set j (.val y)).set k (.val z)) (mb x y z)) : JItem (.t2 (.n i) (.t2 (.n j) (.n k))) ρ (fun d => u2 d fun x e => u2 e (mb x)) Post := fun d s r s' e => by
  obtain ⟨x, w, rfl, e1⟩ := u2_some e
  obtain ⟨y, z, rfl, e2⟩ := u2_some e1
  exact ⟨_, _, rfl, h x y z, e2⟩
end
/-- the element with its tests, in the block's context (any of them) -/
def BlkAll (X : Cx) (scope : Scope) (Q : Cx → Prop) : Prop := ∀ (s : Shared) (H : Hp) (C : Addr) (cl : List (Str × Addr)) (fp : List Addr), Q (X.blk s H scope (compEnvC scope cl C X.env) fp)
inductive JEl (X : Cx) {S : Type} (T : Tie S) (scope : Scope) (elt : Expr) : List Expr → List Sl → M S (Option D) → Prop
  | plain {ρ : List Sl} {me : M S D} : BlkAll X scope (fun X' => JE X' T elt ρ me) → JEl X T scope elt [] ρ (B me fun x => P (some x))
  | cond {c : Expr} {ρ : List Sl} {mc : M S Bool} {me : M S D} : BlkAll X scope (fun X' => JT X' T c ρ mc) → BlkAll X scope (fun X' => JE X' T elt ρ me) → JEl X T scope elt [c] ρ (B mc fun b => if b then B me fun x => P (some x) else P none)
/-- the slots of the block's own names forgotten -/
def wipeS (ρ : List Sl) : List Nat → List Sl
  | [] => ρ
  | v :: vs => (wipeS ρ vs).set v .unk
theorem EnvR.wipe {K : PySem.W.Frag} {S : Type} {T : Tie S} {H F : Hp} {ρ : List Sl} {σ : L2.St} (h : EnvR K T ρ σ H F) : ∀ vs : List Nat, EnvR K T (wipeS ρ vs) (L2.wipe σ vs) H F
  | [] => h
  | v :: vs => by
    have h1 := EnvR.wipe h vs
    refine ⟨by simp [wipeS, L2.wipe, h1.len], fun i sl hi => ?_, fun i j sl sl' p hij hi oi si hj oj => ?_⟩
    · unfold wipeS at hi
      unfold L2.wipe
      by_cases c : v = i
      · subst c
        have hl : v < (wipeS ρ vs).length := by
          have := (List.getElem?_eq_some_iff.mp hi).1
          simpa using this
        rw [List.getElem?_set_self hl] at hi
        cases hi
        exact ⟨none, by rw [List.getElem?_set_self (by rw [← h1.len]; exact hl)], trivial⟩
      · rw [List.getElem?_set_ne c] at hi ⊢
        exact h1.at_ i sl hi
    · unfold wipeS at hi hj
      unfold L2.wipe at si ⊢
      have ne : ∀ (k : Nat) (sl : Sl), ((wipeS ρ vs).set v .unk)[k]? = some sl → isOwn sl = true → v ≠ k := fun k sl e o c => by
        subst c
        have hl : v < (wipeS ρ vs).length := by
          have := (List.getElem?_eq_some_iff.mp e).1
          simpa using this
        rw [List.getElem?_set_self hl] at e
        cases e
        cases o
      have n1 := ne i sl hi oi
      have n2 := ne j sl' hj oj
      rw [List.getElem?_set_ne n1] at hi si
      rw [List.getElem?_set_ne n2] at hj ⊢
      exact h1.apart i j sl sl' p hij hi oi si hj oj
theorem wipe_get_in {σ : L2.St} {i : Nat} : ∀ {vs : List Nat}, i ∈ vs → i < σ.length → (L2.wipe σ vs)[i]? = some none
  | v :: vs, h, hl => by
    unfold L2.wipe
    by_cases c : v = i
    · subst c
      rw [List.getElem?_set_self (by rw [wipe_length]; exact hl)]
    · rw [List.getElem?_set_ne c]
      rcases List.mem_cons.mp h with e | e
      · exact absurd e.symm c
      · exact wipe_get_in e hl
theorem wipe_get_out {σ : L2.St} {i : Nat} : ∀ {vs : List Nat}, i ∉ vs → (L2.wipe σ vs)[i]? = σ[i]?
  | [], _ => rfl
  | v :: vs, h => by
    unfold L2.wipe
    simp only [List.mem_cons, not_or] at h
    rw [List.getElem?_set_ne (fun e => h.1 e.symm)]
    exact wipe_get_out h.2
theorem wipe_same {σ σ2 : L2.St} {ix vs : List Nat} (s : SameOut ix (L2.wipe σ vs) σ2) (h : ∀ i ∈ ix, i ∈ vs) : L2.wipe σ2 vs = L2.wipe σ vs := by
  have hl : σ2.length = σ.length := by rw [s.1, wipe_length]
  refine List.ext_getElem? fun i => ?_
  by_cases c : i ∈ vs
  · by_cases hi : i < σ.length
    · rw [wipe_get_in c hi, wipe_get_in c (by rw [hl]; exact hi)]
    · rw [List.getElem?_eq_none (by rw [wipe_length, hl]; omega), List.getElem?_eq_none (by rw [wipe_length]; omega)]
  · rw [wipe_get_out c, wipe_get_out c, s.2 i fun z => c (h i z), wipe_get_out c]
section
variable {X : Cx} {S : Type} {T : Tie S} {ρ : List Sl} {tg iter elt : Expr} {ifs : List Expr} {scope : Scope} {own : List (Str × Nat)} {sh : Sh} {pr : Bool} {src : M S (List D)} {mb : D → M S (Option D)} {pos : Pos}
def gB (X : Cx) (scope : Scope) (elt : Expr) : TE := fun σ F Q => BlkAll X scope fun X' => sE X' elt σ F Q
def tB (X : Cx) (scope : Scope) (ifs : List Expr) : TT := match ifs with
  | [] => tYes
  | [c] => fun σ F Q => BlkAll X scope fun X' => sT X' c σ F Q
  | _ => fun _ _ _ => False
theorem lc_run (ht : tupOk tg sh = true) (hi : JI X T tg iter ρ pr src) (hb : JItem sh (wipeS ρ (own.map (·.2))) mb (JEl X T scope elt ifs)) (hx : ∀ i ∈ sh.ix, i ∈ own.map (·.2))
    {σ : L2.St} {H F : Hp} {s s' : S} {out : List D} (hE : Ex H F) (hR : EnvR X.K T ρ σ H F) (hA : T.at_ s H F) (hm : B src (fun ds => cmp ds mb) s = some (out, s')) (hz : out.length ≤ 16777216) (Q : VK)
    (k : ∀ v H' F', Stp T.pt H F H' F' → T.at_ s' H' F' → Rp H' v (.list out) → Q v F') : tLc (sI X tg iter) (gSh X.K sh) (tB X scope ifs) (gB X scope elt) (own.map (·.2)) σ F Q := by
  obtain ⟨ds, s1, m1, hm⟩ := B_some hm
  refine hi.run hE hR hA m1 _ fun U J H1 F1 st1 a1 hU _ w => ?_
  intro Dl hD
  have nt : ¬ T.pt Dl := fun z => T.used _ _ _ Dl a1 z hD
  have nU : ¬ U Dl := fun z => (hU Dl z).2.2 hD
  have hDH : H1 Dl = none := Evl.fresh_back st1.hf hD
  -- the invariant
  refine ⟨fun i m Fi => m = ds.length - i ∧ i ≤ ds.length ∧ ∃ Hi accV accD rest si, Stp T.pt H1 F1 Hi Fi ∧ T.at_ si Hi Fi ∧ Hi Dl = none ∧ Fi Dl = some (.lst accV) ∧ Rps Hi accV accD ∧ cmp (ds.drop i) mb si = some (rest, s') ∧ out = accD ++ rest ∧ (∀ a, U a → Fi a = F1 a),
    ⟨ds.length, rfl, Nat.zero_le _, H1, [], [], out, s1, ?_, ?_, hDH, upd_same, .nil, by simpa using hm, rfl, fun a z => upd_ne fun e => nU (by rw [← e]; exact z)⟩, fun i m Fi hW => ?_⟩
  · exact ⟨Evl.Ex.refl _, fun a u e => by rw [upd_ne (ne_of_none (st1.hf _ _ e) hD)]; exact st1.hf _ _ e, fun a u _ e => by rw [upd_ne (ne_of_none e hD)]; exact e, fun a h1 h2 => absurd h1 h2, fun a _ h => h⟩
  · exact T.stay _ H1 F1 H1 _ a1 (fun a u e => by rw [upd_ne (ne_of_none e hD)]; exact e) fun a h1 h2 => absurd h1 h2
  obtain ⟨rfl, hi', Hi, accV, accD, rest, si, st, ai, hnD, hFD, racc, hc, ho, hUi⟩ := hW
  by_cases hlt : i < ds.length
  · -- a turn
    have hdr : ds.drop i = ds[i] :: ds.drop (i + 1) := (List.drop_eq_getElem_cons hlt)
    rw [hdr] at hc
    obtain ⟨o, s2, mo, hc⟩ := B_some hc
    obtain ⟨r, s3, mr, hc⟩ := B_some hc
    obtain ⟨er, rfl⟩ := P_some hc
    refine .inr ⟨w.goes i Hi Fi st.hh st.hf hUi hlt, fun Fi' => ∃ Hj accV' accD' rest' sj, Stp T.pt H1 F1 Hj Fi' ∧ T.at_ sj Hj Fi' ∧ Hj Dl = none ∧ Fi' Dl = some (.lst accV') ∧ Rps Hj accV' accD' ∧ cmp (ds.drop (i + 1)) mb sj = some (rest', s') ∧ out = accD' ++ rest' ∧ (∀ a, U a → Fi' a = F1 a),
      fun Fi' hN => ⟨ds.length - (i + 1), by omega, rfl, hlt, hN⟩, fun x F2 hy => ?_⟩
    obtain ⟨H2, d, st2, hd, rx⟩ := w.yields i Hi Fi x F2 st.hh st.hf hUi hlt hy
    have ed : d = ds[i] := by
      rw [List.getElem?_eq_getElem hlt] at hd
      exact (Option.some.inj hd).symm
    subst ed
    have a2 : T.at_ si H2 F2 := st2.at ai
    have st12 : Stp T.pt H1 F1 H2 F2 := st.trans (st2.up ai)
    obtain ⟨ρ', m', hbind, hpost, hm'⟩ := hb _ _ _ _ mo
    have hRw : EnvR X.K T (wipeS ρ (own.map (·.2))) (L2.wipe σ (own.map (·.2))) H2 F2 := (hR.step (st1.trans st12)).wipe _
    refine gSh_run st2.hf sh (rx.imp id fun z => ⟨tupOk_some ht z.1, z.2⟩) hRw hbind _ fun σ' hR' so => ⟨wipe_same so hx, ?_⟩
    have hD2 : F2 Dl = some (.lst accV) := st2.ff _ _ (fun z => z) hFD
    have hDn : ∀ {H3 F3 : Hp}, Stp T.pt H2 F2 H3 F3 → H3 Dl = none := fun {H3 F3} st3 => by
      cases q : H3 Dl with
      | none => rfl
      | some o =>
        have z2 : H2 Dl = none := by
          cases q2 : H2 Dl with
          | none => rfl
          | some o2 =>
            have z := st2.fr Dl hnD (by rw [q2]; simp)
            rw [hFD] at z
            cases z
        have z := st3.fr Dl z2 (by rw [q]; simp)
        rw [hD2] at z
        cases z
    have hUn : ∀ {H3 F3 : Hp}, Stp T.pt H2 F2 H3 F3 → ∀ a, U a → F3 a = F1 a := fun {H3 F3} st3 a za => by
      have z1 := hUi a za
      cases q : F1 a with
      | none => exact absurd q (hU a za).2.2
      | some o => rw [q] at z1; exact st3.ff _ _ (hU a za).1 (st2.ff _ _ (fun z => z) z1)
    have fin : ∀ {H3 F3 : Hp} {y : V} {z : D}, o = some z → Stp T.pt H2 F2 H3 F3 → T.at_ s2 H3 F3 → Rp H3 y z →
        ∃ acc, F3 Dl = some (.lst acc) ∧ acc.length < sizeLine ∧ ∃ Hj accV' accD' rest' sj, Stp T.pt H1 F1 Hj (upd F3 Dl (.lst (acc ++ [y]))) ∧ T.at_ sj Hj (upd F3 Dl (.lst (acc ++ [y]))) ∧ Hj Dl = none ∧ (upd F3 Dl (.lst (acc ++ [y]))) Dl = some (.lst accV') ∧ Rps Hj accV' accD' ∧ cmp (ds.drop (i + 1)) mb sj = some (rest', s') ∧ out = accD' ++ rest' ∧ (∀ a, U a → (upd F3 Dl (.lst (acc ++ [y]))) a = F1 a) := fun {H3 F3 y z} eo st3 a3 ry => by
      subst eo
      have hD3 : F3 Dl = some (.lst accV) := st3.ff _ _ nt hD2
      have hn3 := hDn st3
      have stj := st12.trans st3
      have ne : ∀ a u, F1 a = some u → a ≠ Dl := fun a u e z => by subst z; rw [hD] at e; cases e
      refine ⟨accV, hD3, ?_, H3, accV ++ [y], accD ++ [z], r, s2, ?_, ?_, hn3, upd_same, ((racc.mono st2.hh).mono st3.hh).append (.cons ry .nil), ?_, ?_, fun a za => ?_⟩
      · rw [sizeLine_eq, racc.length]
        have e1 : out.length = accD.length + rest.length := by rw [ho, List.length_append]
        have e2 : rest.length = r.length + 1 := by rw [er]; rfl
        omega
      · refine ⟨stj.hh, fun a u e => ?_, fun a u nta e => ?_, stj.fr, stj.tt⟩
        · rw [upd_ne (ne_of_none e hn3)]
          exact stj.hf _ _ e
        · rw [upd_ne (ne a u e)]
          exact stj.ff _ _ nta e
      · exact T.loc _ _ _ _ _ a3 (fun a pa => upd_ne fun e => nt (by rw [← e]; exact pa)) fun a _ h => h
      · exact mr
      · rw [ho, er, List.append_assoc]
        rfl
      · rw [upd_ne fun e => nU (by rw [← e]; exact za)]
        exact hUn st3 a za
    have fin0 : ∀ {H3 F3 : Hp}, o = none → Stp T.pt H2 F2 H3 F3 → T.at_ s2 H3 F3 →
        ∃ Hj accV' accD' rest' sj, Stp T.pt H1 F1 Hj F3 ∧ T.at_ sj Hj F3 ∧ Hj Dl = none ∧ F3 Dl = some (.lst accV') ∧ Rps Hj accV' accD' ∧ cmp (ds.drop (i + 1)) mb sj = some (rest', s') ∧ out = accD' ++ rest' ∧ (∀ a, U a → F3 a = F1 a) := fun {H3 F3} eo st3 a3 => by
      subst eo
      exact ⟨H3, accV, accD, r, s2, st12.trans st3, a3, hDn st3, st3.ff _ _ nt hD2, (racc.mono st2.hh).mono st3.hh, mr, by rw [ho, er], fun a za => hUn st3 a za⟩
    cases hpost with
    | plain he =>
      obtain ⟨z, s4, me, hq⟩ := B_some hm'
      obtain ⟨eo, rfl⟩ := P_some hq
      show gB X scope elt σ' F2 _
      exact fun s0 H0 C cl fp => (he s0 H0 C cl fp).run st2.hf hR' a2 me _ fun v H3 F3 st3 a3 r3 => fin eo st3 a3 r3
    | cond hc' he =>
      obtain ⟨b, s5, mc, hq⟩ := B_some hm'
      show tB X scope _ σ' F2 _
      refine fun s0 H0 C cl fp => (hc' s0 H0 C cl fp).run st2.hf hR' a2 mc _ fun H3 F3 st3 a3 => ?_
      cases b with
      | false =>
        obtain ⟨eo, rfl⟩ := P_some hq
        exact fin0 eo st3 a3
      | true =>
        obtain ⟨z, s4, me, hq⟩ := B_some hq
        obtain ⟨eo, rfl⟩ := P_some hq
        exact fun s0 H0 C cl fp => (he s0 H0 C cl fp).run st3.hf (hR'.step st3) a3 me _ fun v H4 F4 st4 a4 r4 => fin eo (st3.trans st4) a4 r4
  · have e : i = ds.length := by omega
    subst e
    rw [List.drop_length] at hc
    obtain ⟨er, rfl⟩ := P_some hc
    subst er
    rw [List.append_nil] at ho
    subst ho
    refine .inl ⟨w.stops Hi Fi st.hh st.hf hUi, ?_⟩
    have ext : Ex Hi (upd Hi Dl (.lst accV)) := Evl.Ex.new hnD
    refine k _ (upd Hi Dl (.lst accV)) Fi (st1.trans ⟨st.hh.trans ext, fun a u e => ?_, st.ff, fun a h1 h2 => ?_, fun a ta h => ?_⟩) ?_ (.lst upd_same (racc.mono ext))
    · by_cases c : a = Dl
      · subst c
        rw [upd_same] at e
        rw [hFD]
        exact e
      · rw [upd_ne c] at e
        exact st.hf _ _ e
    · by_cases c : a = Dl
      · subst c
        exact hD
      · rw [upd_ne c] at h2
        exact st.fr a h1 h2
    · have c : a ≠ Dl := fun z => nt (by rw [← z]; exact ta)
      rw [upd_ne c]
      exact st.tt a ta h
    · exact T.loc _ _ _ _ _ ai (fun _ _ => rfl) fun a pa h => by
        have c : a ≠ Dl := fun z => nt (by rw [← z]; exact pa)
        rw [upd_ne c]
        exact h
theorem tB_ok (ifs : List Expr) {ρ' : List Sl} {m' : M S (Option D)} (h : JEl X T scope elt ifs ρ' m') : BlkAll X scope fun X' => PTs X' ifs (tB X scope ifs) := by
  cases h with
  | plain _ => exact fun _ _ _ _ _ => pts_nil
  | cond _ _ => exact fun s H C cl fp => pts_one ⟨fun pins s1 σ F Q I h => h s H C cl fp pins s1 I⟩
/-- the tests are of one of two forms -/
def ifsOk : List Expr → Bool
  | [] => true
  | [_] => true
  | _ => false
theorem tB_pts {ifs : List Expr} (h : ifsOk ifs = true) : BlkAll X scope fun X' => PTs X' ifs (tB X scope ifs) := by
  match ifs, h with
  | [], _ => exact fun _ _ _ _ _ => pts_nil
  | [c], _ => exact fun s H C cl fp => pts_one ⟨fun pins s1 σ F Q I h => h s H C cl fp pins s1 I⟩
theorem je_lc (hc : X.calm = true) (hN : X.N.Nodup) (hi : JI X T tg iter ρ pr src) (ok : BlkOk X.N X.env.scope scope own) (hg : BlkAll X scope fun X' => PGd X' tg sh) (hb : JItem sh (wipeS ρ (own.map (·.2))) mb (JEl X T scope elt ifs))
    (hx : ∀ i ∈ sh.ix, i ∈ own.map (·.2) := by decide) (ho : ifsOk ifs = true := by rfl) (ht : tupOk tg sh = true := by rfl) (hs : ∀ x, foldedSetIterable iter X.env x = pure x := by intro _; rfl) :
    JE X T (.ListComp elt [⟨tg, iter, ifs, 0⟩] scope pos) ρ (B src fun ds => B (cmp ds mb) fun out => L (lstD out)) := ⟨fun {σ H F s d s'} hE hR hA hm Q k => by
  obtain ⟨ds, s1, m1, hm⟩ := B_some hm
  obtain ⟨out, s2, m2, hm⟩ := B_some hm
  obtain ⟨hq, rfl⟩ := L_some hm
  obtain ⟨hz, rfl⟩ := lstD_some hq
  refine sE_of (pe_lc (g := gSh X.K sh) (tt := tB X scope ifs) (te := gB X scope elt) hc hN (pI X tg iter) ok hg (tB_pts ho) (fun s H C cl fp => ⟨fun pins s1 σ F Q I h => h s H C cl fp pins s1 I⟩) hs) ?_
  have e : B src (fun ds => cmp ds mb) s = some (out, s') := by
    unfold B
    rw [m1]
    exact m2
  exact lc_run ht hi hb hx hE hR hA e (by rw [sizeLine_eq] at hz; exact hz) Q k⟩
end
end DL

set_option Elab.async false
set_option linter.all false
set_option maxRecDepth 100000
set_option maxHeartbeats 2000000
/-! DLStmt: statements, loops, defs. -/
namespace DL
open PySem PySem.Spec PyProof.Rows L2

/-! ### a value into a slot: for good, or a new list that will be changed -/
structure JX (X : Cx) {S δ : Type} (T : Tie S) (e : Expr) (ρ : List Sl) (mk : δ → Sl) (m : M S δ) : Prop where
  run : ∀ {σ : L2.St} {H F : Hp} {s : S} {x : δ} {s' : S}, Ex H F → EnvR X.K T ρ σ H F → T.at_ s H F → m s = some (x, s') →
    ∀ Q : VK, (∀ v H' F', Stp T.pt H F H' F' → T.at_ s' H' F' → SlR X.K T H' F' (mk x) (some v) → (isOwn (mk x) = true → ∀ a, v = .ref a → F a = none) → Q v F') → sE X e σ F Q
section
variable {X : Cx} {S : Type} {T : Tie S} {ρ : List Sl} {m : M S D} {e : Expr} {es : List Expr} {pos p : Pos}
theorem JE.x (h : JE X T e ρ m) : JX X T e ρ Sl.val m := ⟨fun hE hR hA hm Q k => h.run hE hR hA hm Q fun v H' F' st ha r => k v H' F' st ha ⟨v, rfl, r⟩ fun o => by cases o⟩
def lstS (ds : List D) : Option (List D) := if ds.length ≤ 16777216 then some ds else none
theorem lstS_some {ds es : List D} (h : lstS ds = some es) : ds.length ≤ sizeLine ∧ es = ds := by
  unfold lstS at h
  split at h
  · cases h
    exact ⟨by rw [sizeLine_eq]; assumption, rfl⟩
  · cases h
/-- a list that is new -/
theorem own_new {H F : Hp} {q : Addr} {vs : List V} {ds : List D} {K : PySem.W.Frag} {s : S} (hE : Ex H F) (hq : F q = none) (hA : T.at_ s H F) (r : Rps H vs ds) : Stp T.pt H F H (upd F q (.lst vs)) ∧ T.at_ s H (upd F q (.lst vs)) ∧ SlR K T H (upd F q (.lst vs)) (.own ds) (some (.ref q)) := by
  have nt : ¬ T.pt q := fun z => T.used _ _ _ q hA z hq
  refine ⟨⟨Evl.Ex.refl _, fun a u e => ?_, fun a u _ e => ?_, fun a h1 h2 => absurd h1 h2, fun a _ h => h⟩, ?_, ⟨q, vs, rfl, Evl.fresh_back hE hq, nt, upd_same, r⟩⟩
  · rw [upd_ne (ne_of_none (hE _ _ e) hq)]
    exact hE _ _ e
  · rw [upd_ne (ne_of_none e hq)]
    exact e
  · exact T.loc _ _ _ _ _ hA (fun a pa => upd_ne fun z => nt (by rw [← z]; exact pa)) fun _ _ h => h
theorem jn_lst {m : M S (List D)} (ha : JA X T es ρ (fun ds => L (lstS ds)) m) : JX X T (.List es pos) ρ Sl.own m := ⟨fun {σ H F s d s'} hE hR hA hm Q k => by
  refine sE_of (pe_lst (pA X es)) (ha.run hE hR hA hm _ fun vs ds s1 H1 F1 st1 a1 r1 hk => ?_)
  obtain ⟨hg, rfl⟩ := L_some hk
  obtain ⟨hz, rfl⟩ := lstS_some hg
  refine ⟨by rw [r1.length]; exact hz, fun q hq => ?_⟩
  obtain ⟨st2, a2, r2⟩ := own_new (K := X.K) st1.hf hq a1 r1
  refine k _ _ _ (st1.trans st2) a2 r2 fun _ a ea => ?_
  cases ea
  cases e : F q with
  | none => rfl
  | some o =>
    have nt : ¬ T.pt q := fun z => T.used _ _ _ q a1 z hq
    rw [st1.ff _ _ nt e] at hq
    cases hq⟩
/-- list(x) -/
theorem jn_list {a : Expr} {me : M S D} (h : JV X T a ρ me) (hg : Gl X "list") (hm : X.mg "list" = none) (he : starEach [a] X.env = (false, eval a X.env) :: starEach [] X.env := by rfl) (hpl : (backTo pos (starEach [] X.env)).any (·.1) = false := by rfl) :
    JX X T (.Call (.Name "list" p) [a] [] pos) ρ Sl.own (B me fun d => L (seqD d)) := ⟨fun {σ H F s d s'} hE hR hA hm' Q k => by
  obtain ⟨x, s1, m1, hm'⟩ := B_some hm'
  obtain ⟨hq, rfl⟩ := L_some hm'
  refine sE_of (pe_callTy call_list_of hg hm (by decide +kernel) (pa_cons (pE X a) pa_nil he) (by decide) (by decide) he hpl) (h.run hE hR hA m1 _ fun v H1 F1 st1 a1 r1 => ?_)
  obtain ⟨c, vs, rfl, r, hh⟩ := r1.seq (K := X.K) st1.hf hq
  refine ⟨c, vs, rfl, ?_, fun q hq => ?_⟩
  · rcases hh with ⟨_, h⟩ | ⟨_, h, _⟩
    · exact .inl (SqL.of h)
    · exact .inr h.sq
  · obtain ⟨st2, a2, r2⟩ := own_new (K := X.K) st1.hf hq a1 r
    refine k _ _ _ (st1.trans st2) a2 r2 fun _ a ea => ?_
    cases ea
    cases e : F q with
    | none => rfl
    | some o =>
      have nt : ¬ T.pt q := fun z => T.used _ _ _ q a1 z hq
      rw [st1.ff _ _ nt e] at hq
      cases hq⟩
end

theorem Sh.bind_own : ∀ (sh : Sh) {d : D} {ρ ρ' : List Sl}, sh.bind d ρ = some ρ' → ∀ (j : Nat) (sl : Sl), ρ'[j]? = some sl → isOwn sl = true → ρ[j]? = some sl ∧ j ∉ sh.ix := by
  intro sh
  induction sh with
  | n i =>
    intro d ρ ρ' h j sl hj oj
    cases h
    by_cases c : i = j
    · subst c
      have hl : i < ρ.length := by
        have := (List.getElem?_eq_some_iff.mp hj).1
        simpa using this
      rw [List.getElem?_set_self hl] at hj
      cases hj
      cases oj
    · rw [List.getElem?_set_ne c] at hj
      exact ⟨hj, by simp [Sh.ix]; exact fun e => c e.symm⟩
  | t2 a b ha hb =>
    intro d ρ ρ' h j sl hj oj
    cases d with
    | tuple ds =>
      match ds, h with
      | [x, y], h =>
        cases e1 : a.bind x ρ with
        | none => simp [Sh.bind, e1] at h
        | some ρ1 =>
          have e2 : b.bind y ρ1 = some ρ' := by simpa [Sh.bind, e1] using h
          obtain ⟨h1, n1⟩ := hb e2 j sl hj oj
          obtain ⟨h2, n2⟩ := ha e1 j sl h1 oj
          exact ⟨h2, by simp [Sh.ix, n1, n2]⟩
    | _ => simp [Sh.bind] at h
  | t3 a b c ha hb hc =>
    intro d ρ ρ' h j sl hj oj
    cases d with
    | tuple ds =>
      match ds, h with
      | [x, y, z], h =>
        cases e1 : a.bind x ρ with
        | none => simp [Sh.bind, e1] at h
        | some ρ1 =>
          cases e2 : b.bind y ρ1 with
          | none => simp [Sh.bind, e1, e2] at h
          | some ρ2 =>
            have e3 : c.bind z ρ2 = some ρ' := by simpa [Sh.bind, e1, e2] using h
            obtain ⟨h0, n0⟩ := hc e3 j sl hj oj
            obtain ⟨h1, n1⟩ := hb e2 j sl h0 oj
            obtain ⟨h2, n2⟩ := ha e1 j sl h1 oj
            exact ⟨h2, by simp [Sh.ix, n0, n1, n2]⟩
    | _ => simp [Sh.bind] at h
  | t4 a b c d4 ha hb hc hd =>
    intro d ρ ρ' h j sl hj oj
    cases d with
    | tuple ds =>
      match ds, h with
      | [x, y, z, u], h =>
        cases e1 : a.bind x ρ with
        | none => simp [Sh.bind, e1] at h
        | some ρ1 =>
          cases e2 : b.bind y ρ1 with
          | none => simp [Sh.bind, e1, e2] at h
          | some ρ2 =>
            cases e3 : c.bind z ρ2 with
            | none => simp [Sh.bind, e1, e2, e3] at h
            | some ρ3 =>
              have e4 : d4.bind u ρ3 = some ρ' := by simpa [Sh.bind, e1, e2, e3] using h
              obtain ⟨h9, n9⟩ := hd e4 j sl hj oj
              obtain ⟨h0, n0⟩ := hc e3 j sl h9 oj
              obtain ⟨h1, n1⟩ := hb e2 j sl h0 oj
              obtain ⟨h2, n2⟩ := ha e1 j sl h1 oj
              exact ⟨h2, by simp [Sh.ix, n9, n0, n1, n2]⟩
    | _ => simp [Sh.bind] at h

/-! ### how a block ends -/
inductive Oc where
  | nx (ρ : List Sl)
  | rt (d : D)
  | bk (ρ : List Sl)
/-- the world at a statement; C: what lies elsewhere and stays -/
structure Wo (K : PySem.W.Frag) {S : Type} (T : Tie S) (C : Hp) (ρ : List Sl) (σ : L2.St) (s : S) (H F : Hp) : Prop where
  ex : Ex H F
  env : EnvR K T ρ σ H F
  at_ : T.at_ s H F
  cx : Ex C F
  cd : ∀ a o, C a = some o → H a = none ∧ ¬ T.pt a ∧ ∀ (i : Nat) (sl : Sl), ρ[i]? = some sl → isOwn sl = true → σ[i]? ≠ some (some (V.ref a))
section
variable {K : PySem.W.Frag} {S : Type} {T : Tie S} {C : Hp} {ρ ρ' : List Sl} {σ : L2.St} {s s' : S} {H F H' F' : Hp}
theorem Wo.step (w : Wo K T C ρ σ s H F) (st : Stp T.pt H F H' F') (a : T.at_ s' H' F') : Wo K T C ρ σ s' H' F' :=
  ⟨st.hf, w.env.step st, a, fun b o e => st.ff _ _ (w.cd b o e).2.1 (w.cx b o e), fun b o e => ⟨(by
    cases q : H' b with
    | none => rfl
    | some u =>
      have z := st.fr b (w.cd b o e).1 (by rw [q]; simp)
      rw [w.cx b o e] at z
      cases z), (w.cd b o e).2⟩⟩
theorem Wo.weak (w : Wo K T C ρ σ s H F) (hl : ρ'.length = ρ.length) (h : ∀ (i : Nat) (sl : Sl), ρ'[i]? = some sl → sl = .unk ∨ ρ[i]? = some sl) : Wo K T C ρ' σ s H F :=
  ⟨w.ex, w.env.weak hl h, w.at_, w.cx, fun a o e => ⟨(w.cd a o e).1, (w.cd a o e).2.1, fun i sl hi ho => (w.cd a o e).2.2 i sl ((h i sl hi).resolve_left fun c => by subst c; cases ho) ho⟩⟩
/-- a slot is set -/
theorem Wo.set (w : Wo K T C ρ σ s H F) {sl : Sl} {v : V} (i : Nat) (r : SlR K T H F sl (some v)) (n : isOwn sl = true → ∀ a, v = .ref a → C a = none ∧ ∀ (j : Nat) (sl' : Sl), ρ[j]? = some sl' → isOwn sl' = true → σ[j]? ≠ some (some (V.ref a))) :
    Wo K T C (ρ.set i sl) (σ.set i (some v)) s H F := by
  have at_i : ∀ {sl' : Sl}, (ρ.set i sl)[i]? = some sl' → sl' = sl ∧ i < ρ.length := fun {sl'} e => by
    have hl : i < ρ.length := by
      have := (List.getElem?_eq_some_iff.mp e).1
      simpa using this
    rw [List.getElem?_set_self hl] at e
    exact ⟨(Option.some.inj e).symm, hl⟩
  refine ⟨w.ex, ⟨by simp [w.env.len], fun j sl' hj => ?_, fun j k sl1 sl2 p hjk hj oj sj hk ok => ?_⟩, w.at_, w.cx, fun a o e => ⟨(w.cd a o e).1, (w.cd a o e).2.1, fun j sl' hj oj => ?_⟩⟩
  · by_cases c : i = j
    · subst c
      obtain ⟨rfl, hl⟩ := at_i hj
      exact ⟨some v, by rw [List.getElem?_set_self (by rw [← w.env.len]; exact hl)], r⟩
    · rw [List.getElem?_set_ne c] at hj ⊢
      exact w.env.at_ j sl' hj
  · by_cases c : i = j
    · subst c
      obtain ⟨rfl, hl⟩ := at_i hj
      rw [List.getElem?_set_self (by rw [← w.env.len]; exact hl)] at sj
      have ev : v = .ref p := Option.some.inj (Option.some.inj sj)
      rw [List.getElem?_set_ne hjk] at hk ⊢
      exact (n oj p ev).2 k sl2 hk ok
    · rw [List.getElem?_set_ne c] at hj sj
      by_cases c2 : i = k
      · subst c2
        obtain ⟨rfl, hl⟩ := at_i hk
        rw [List.getElem?_set_self (by rw [← w.env.len]; exact hl)]
        intro z
        have ev : v = .ref p := Option.some.inj (Option.some.inj z)
        exact (n ok p ev).2 j sl1 hj oj sj
      · rw [List.getElem?_set_ne c2] at hk ⊢
        exact w.env.apart j k sl1 sl2 p hjk hj oj sj hk ok
  · by_cases c : i = j
    · subst c
      obtain ⟨rfl, hl⟩ := at_i hj
      rw [List.getElem?_set_self (by rw [← w.env.len]; exact hl)]
      intro z
      have ev : v = .ref a := Option.some.inj (Option.some.inj z)
      have := (n oj a ev).1
      rw [e] at this
      cases this
    · rw [List.getElem?_set_ne c] at hj ⊢
      exact (w.cd a o e).2.2 j sl' hj oj
/-- a list that is still changed is changed -/
theorem Wo.own (w : Wo K T C ρ σ s H F) {i : Nat} {ds es : List D} {p : Addr} {ws : List V} (hi : ρ[i]? = some (.own ds)) (hs : σ[i]? = some (some (.ref p))) (r : Rps H ws es) : Wo K T C (ρ.set i (.own es)) σ s H (upd F p (.lst ws)) := by
  obtain ⟨ov, h1, q, vs, e1, h2, h3, h4, h5⟩ := w.env.at_ i _ hi
  rw [hs] at h1
  have e2 : p = q := by
    have z := Option.some.inj h1
    rw [← z] at e1
    exact V.ref.inj (Option.some.inj e1)
  subst e2
  have hl : i < ρ.length := (List.getElem?_eq_some_iff.mp hi).1
  have at_i : ∀ {sl' : Sl}, (ρ.set i (.own es))[i]? = some sl' → sl' = .own es := fun {sl'} e => by
    rw [List.getElem?_set_self hl] at e
    exact (Option.some.inj e).symm
  refine ⟨fun a u e => ?_, ⟨by simp [w.env.len], fun j sl' hj => ?_, fun j k sl1 sl2 p' hjk hj oj sj hk ok => ?_⟩, ?_, fun a u e => ?_, fun a o e => ⟨(w.cd a o e).1, (w.cd a o e).2.1, fun j sl' hj oj => ?_⟩⟩
  · rw [upd_ne fun z => by subst z; rw [h2] at e; cases e]
    exact w.ex a u e
  · by_cases c : i = j
    · subst c
      rw [at_i hj]
      exact ⟨_, hs, p, ws, rfl, h2, h3, upd_same, r⟩
    · rw [List.getElem?_set_ne c] at hj
      obtain ⟨ov, g1, g2⟩ := w.env.at_ j sl' hj
      refine ⟨ov, g1, ?_⟩
      cases sl' with
      | unk => trivial
      | val d => exact g2
      | own xs =>
        obtain ⟨q, us, e3, k2, k3, k4, k5⟩ := g2
        have ne : q ≠ p := fun z => by
          subst z
          subst e3
          exact w.env.apart i j _ _ q c hi rfl hs hj rfl g1
        exact ⟨q, us, e3, k2, k3, by rw [upd_ne ne]; exact k4, k5⟩
      | pot => exact g2
      | scr ns =>
        obtain ⟨a, e3, k2, k3⟩ := g2
        exact ⟨a, e3, k2, k3.ex fun o u z => by
          rw [upd_ne fun z2 => by subst z2; rw [h4] at z; cases z]
          exact z⟩
  · have a : ∃ sl, ρ[j]? = some sl ∧ isOwn sl = true := by
      by_cases c : i = j
      · subst c; exact ⟨_, hi, rfl⟩
      · rw [List.getElem?_set_ne c] at hj; exact ⟨_, hj, oj⟩
    have b : ∃ sl, ρ[k]? = some sl ∧ isOwn sl = true := by
      by_cases c : i = k
      · subst c; exact ⟨_, hi, rfl⟩
      · rw [List.getElem?_set_ne c] at hk; exact ⟨_, hk, ok⟩
    obtain ⟨x, a1, a2⟩ := a
    obtain ⟨y, b1, b2⟩ := b
    exact w.env.apart j k x y p' hjk a1 a2 sj b1 b2
  · exact T.loc _ _ _ _ _ w.at_ (fun a pa => upd_ne fun z => h3 (by rw [← z]; exact pa)) fun _ _ h => h
  · rw [upd_ne fun z => by subst z; exact (w.cd a u e).2.2 i _ hi rfl hs]
    exact w.cx a u e
  · by_cases c : i = j
    · subst c
      exact (w.cd a o e).2.2 i _ hi rfl
    · rw [List.getElem?_set_ne c] at hj
      exact (w.cd a o e).2.2 j sl' hj oj
end
theorem Wo.bind {K : PySem.W.Frag} {S : Type} {T : Tie S} {C : Hp} {ρ ρ' : List Sl} {σ σ' : L2.St} {s : S} {H F : Hp} (w : Wo K T C ρ σ s H F) {sh : Sh} {d : D} (hb : sh.bind d ρ = some ρ') (hR : EnvR K T ρ' σ' H F) (so : SameOut sh.ix σ σ') : Wo K T C ρ' σ' s H F :=
  ⟨w.ex, hR, w.at_, w.cx, fun a o ea => ⟨(w.cd a o ea).1, (w.cd a o ea).2.1, fun i sl hi oi => by
    obtain ⟨g1, g2⟩ := Sh.bind_own sh hb i sl hi oi
    rw [so.2 i g2]
    exact (w.cd a o ea).2.2 i sl g1 oi⟩⟩
def OcOk (K : PySem.W.Frag) {S : Type} (T : Tie S) (C H : Hp) (s' : S) (Dn : Ends) : Oc → Prop
  | .nx ρ' => ∀ σ' H' F', Ex H H' → Wo K T C ρ' σ' s' H' F' → Dn.nx σ' F'
  | .rt d => ∀ v H' F', Ex H H' → Ex H' F' → T.at_ s' H' F' → Ex C F' → (∀ a o, C a = some o → H' a = none ∧ ¬ T.pt a) → Rp H' v d → Dn.rt v F'
  | .bk ρ' => ∀ σ' H' F', Ex H H' → Wo K T C ρ' σ' s' H' F' → Dn.bk σ' F'
theorem OcOk.mono {K : PySem.W.Frag} {S : Type} {T : Tie S} {C H H1 : Hp} {s' : S} {Dn : Ends} {o : Oc} (e : Ex H H1) (h : OcOk K T C H s' Dn o) : OcOk K T C H1 s' Dn o := by
  cases o with
  | nx ρ' => exact fun σ' H' F' e1 w => h σ' H' F' (e.trans e1) w
  | rt d => exact fun v H' F' e1 e2 a c1 c2 r => h v H' F' (e.trans e1) e2 a c1 c2 r
  | bk ρ' => exact fun σ' H' F' e1 w => h σ' H' F' (e.trans e1) w
structure JS (X : Cx) {S β : Type} (T : Tie S) (sts : List Stmt) (ρ : List Sl) (m : M S β) (out : β → Oc) : Prop where
  run : ∀ {σ : L2.St} {H F C : Hp} {s : S} {b : β} {s' : S}, Wo X.K T C ρ σ s H F → m s = some (b, s') → ∀ Dn : Ends, OcOk X.K T C H s' Dn (out b) → sSs X sts Dn σ F
/-- .. what is known is less -/
inductive Le : List Sl → List Sl → Prop
  | nil : Le [] []
  | u {a : Sl} {r r' : List Sl} : Le r r' → Le (.unk :: r) (a :: r')
  | e {a : Sl} {r r' : List Sl} : Le r r' → Le (a :: r) (a :: r')
theorem Le.len : ∀ {a b : List Sl}, Le a b → a.length = b.length
  | _, _, .nil => rfl
  | _, _, .u h => by simp [h.len]
  | _, _, .e h => by simp [h.len]
theorem Le.get : ∀ {a b : List Sl}, Le a b → ∀ (i : Nat) (sl : Sl), a[i]? = some sl → sl = .unk ∨ b[i]? = some sl
  | _, _, .nil, _, _, h => by simp at h
  | _, _, .u _, 0, _, h => .inl (by simpa using h.symm)
  | _, _, .e _, 0, _, h => .inr h
  | _, _, .u l, i + 1, sl, h => l.get i sl (by simpa using h)
  | _, _, .e l, i + 1, sl, h => l.get i sl (by simpa using h)
section
variable {X : Cx} {S β γ δ : Type} {T : Tie S} {ρ ρ' : List Sl} {m m1 m2 : M S β} {out : β → Oc} {me : M S D} {mc : M S Bool} {e c : Expr} {rest b1 b2 : List Stmt} {pos p : Pos} {f : D → M S β}
theorem js_end {b : β} (h : out b = .nx ρ') (l : Le ρ' ρ) : JS X T [] ρ (P b) out := ⟨fun {σ H F C s b' s'} w hm Dn k => by
  obtain ⟨rfl, rfl⟩ := P_some hm
  rw [h] at k
  exact sSs_of pss_nil (k σ H F (Evl.Ex.refl H) (w.weak l.len l.get))⟩
theorem js_break {b : β} (h : out b = .bk ρ') (l : Le ρ' ρ) : JS X T (.Break pos :: rest) ρ (P b) out := ⟨fun {σ H F C s b' s'} w hm Dn k => by
  obtain ⟨rfl, rfl⟩ := P_some hm
  rw [h] at k
  exact sSs_of (pss_cons ps_break pss_never) (k σ H F (Evl.Ex.refl H) (w.weak l.len l.get))⟩
theorem js_fail : JS X T rest ρ fail out := ⟨fun w hm => by cases hm⟩
theorem js_freeze {i : Nat} {ds : List D} (hi : ρ[i]? = some (.own ds)) (h : JS X T rest (ρ.set i (.val (.list ds))) m out) : JS X T rest ρ m out := ⟨fun {σ H F C s b s'} w hm Dn k => by
  obtain ⟨ov, h1, q, vs, rfl, h2, h3, h4, h5⟩ := w.env.at_ i _ hi
  have hl : i < ρ.length := (List.getElem?_eq_some_iff.mp hi).1
  have ext : Ex H (upd H q (.lst vs)) := Evl.Ex.new h2
  have cq : C q = none := by
    cases e : C q with
    | none => rfl
    | some o => exact absurd h1 ((w.cd q o e).2.2 i _ hi rfl)
  have st1 : ∀ {sl : Sl} {ov : Option V}, (isOwn sl = true → ov ≠ some (.ref q)) → SlR X.K T H F sl ov → SlR X.K T (upd H q (.lst vs)) F sl ov := fun {sl ov} n g => by
    cases sl with
    | unk => trivial
    | val d =>
      obtain ⟨v, g1, g2⟩ := g
      exact ⟨v, g1, g2.mono ext⟩
    | own xs =>
      obtain ⟨p, us, g1, g2, g3, g4, g5⟩ := g
      exact ⟨p, us, g1, by rw [upd_ne fun z => n rfl (by rw [g1, z])]; exact g2, g3, g4, g5.mono ext⟩
    | pot => exact g
    | scr ns => exact g
  refine h.run (H := upd H q (.lst vs)) (s := s) ⟨fun a u e => ?_, ⟨by simp [w.env.len], fun j sl' hj => ?_, fun j k' sl1 sl2 p' hjk hj oj sj hk ok => ?_⟩, ?_, w.cx, fun a o e => ⟨?_, (w.cd a o e).2.1, fun j sl' hj oj => ?_⟩⟩ hm Dn (k.mono ext)
  · by_cases c : a = q
    · subst c
      rw [upd_same] at e
      rw [h4]
      exact e
    · rw [upd_ne c] at e
      exact w.ex a u e
  · by_cases c : i = j
    · subst c
      rw [List.getElem?_set_self hl] at hj
      cases hj
      exact ⟨_, h1, _, rfl, .lst upd_same (h5.mono ext)⟩
    · rw [List.getElem?_set_ne c] at hj
      obtain ⟨ov', g1, g2⟩ := w.env.at_ j sl' hj
      exact ⟨ov', g1, st1 (fun oo z => w.env.apart i j _ _ q c hi rfl h1 hj oo (by rw [g1, z])) g2⟩
  · have ne : ∀ (k : Nat) (sl : Sl), (ρ.set i (.val (.list ds)))[k]? = some sl → isOwn sl = true → ρ[k]? = some sl := fun k sl e o => by
      by_cases c : i = k
      · subst c
        rw [List.getElem?_set_self hl] at e
        cases e
        cases o
      · rw [List.getElem?_set_ne c] at e
        exact e
    exact w.env.apart j k' sl1 sl2 p' hjk (ne _ _ hj oj) oj sj (ne _ _ hk ok) ok
  · exact T.loc _ _ _ _ _ w.at_ (fun _ _ => rfl) fun a pa h => by
      rw [upd_ne fun z => h3 (by rw [← z]; exact pa)]
      exact h
  · rw [upd_ne fun z => by subst z; rw [cq] at e; cases e]
    exact (w.cd a o e).1
  · by_cases c : i = j
    · subst c
      rw [List.getElem?_set_self hl] at hj
      cases hj
      cases oj
    · rw [List.getElem?_set_ne c] at hj
      exact (w.cd a o e).2.2 j sl' hj oj⟩
theorem js_ret {r : D → β} (he : JE X T e ρ me) (h : ∀ d, out (r d) = .rt d) : JS X T (.Return (some e) pos :: rest) ρ (B me fun d => P (r d)) out := ⟨fun {σ H F C s b s'} w hm Dn k => by
  obtain ⟨d, s1, m1, hm⟩ := B_some hm
  obtain ⟨rfl, rfl⟩ := P_some hm
  rw [h] at k
  refine sSs_of (pss_cons (ps_ret (pE X e)) pss_never) (he.run w.ex w.env w.at_ m1 _ fun v H1 F1 st1 a1 r1 => ?_)
  have w1 := w.step st1 a1
  exact k v H1 F1 st1.hh st1.hf a1 w1.cx (fun a o e => ⟨(w1.cd a o e).1, (w1.cd a o e).2.1⟩) r1⟩
/-- at the def's own level -/
theorem js_ret0 {m : M S D} (he : JE X T e ρ m) : JS X T (.Return (some e) pos :: rest) ρ m Oc.rt := ⟨fun {σ H F C s b s'} w hm Dn k => by
  refine sSs_of (pss_cons (ps_ret (pE X e)) pss_never) (he.run w.ex w.env w.at_ hm _ fun v H1 F1 st1 a1 r1 => ?_)
  have w1 := w.step st1 a1
  exact k v H1 F1 st1.hh st1.hf a1 w1.cx (fun a o e => ⟨(w1.cd a o e).1, (w1.cd a o e).2.1⟩) r1⟩
theorem js_asg {i : Nat} {x : Str} {mk : δ → Sl} {m : M S δ} {f : δ → M S β} {pos' : Pos} (hN : X.N.Nodup) (hi : X.N[i]? = some x) (hx : Loc X.env.scope x) (he : JX X T e ρ mk m) (hr : ∀ d, JS X T rest (ρ.set i (mk d)) (f d) out)
    (hs : swapsWith e (some (.Name x pos')) pos.line X.env = pure false := by rfl) (hf : X.fn x = true ∨ X.env.scope.names.lookup x = some .local := by first | exact .inl rfl | exact .inr rfl | assumption) : JS X T (.Assign [.Name x pos'] e pos :: rest) ρ (B m f) out := ⟨fun {σ H F C s b s'} w hm Dn k => by
  obtain ⟨d, s1, m1, hm⟩ := B_some hm
  refine sSs_of (pss_cons (ps_set hN hi hx (pE X e) hs hf) (pSs X rest)) (he.run w.ex w.env w.at_ m1 _ fun v H1 F1 st1 a1 r1 n1 => ?_)
  have w1 := w.step st1 a1
  refine (hr d).run (w1.set i r1 fun o a ea => ?_) hm Dn (k.mono st1.hh)
  have hn := n1 o a ea
  refine ⟨?_, fun j sl' hj oj z => ?_⟩
  · cases q : C a with
    | none => rfl
    | some u =>
      rw [w.cx a u q] at hn
      cases hn
  · cases sl' with
    | own xs =>
      obtain ⟨ov, g1, p', vs', g2, _, _, g5, _⟩ := w.env.at_ j _ hj
      rw [z] at g1
      have : a = p' := by
        have q := Option.some.inj g1
        rw [← q] at g2
        exact V.ref.inj (Option.some.inj g2)
      subst this
      rw [hn] at g5
      cases g5
    | _ => cases oj⟩
theorem js_expr {f : M S β} (he : JE X T e ρ me) (hr : JS X T rest ρ f out) (hs : swapsWith e none pos.line X.env = pure false := by rfl) : JS X T (.Expr e pos :: rest) ρ (B me fun _ => f) out := ⟨fun {σ H F C s b s'} w hm Dn k => by
  obtain ⟨d, s1, m1, hm⟩ := B_some hm
  refine sSs_of (pss_cons (ps_expr (pE X e) hs) (pSs X rest)) (he.run w.ex w.env w.at_ m1 _ fun v H1 F1 st1 a1 r1 => ?_)
  exact hr.run (w.step st1 a1) hm Dn (k.mono st1.hh)⟩
theorem js_ifraise (hc : JT X T c ρ mc) (hr : JS X T rest ρ m out) : JS X T (.If c b1 [] pos :: rest) ρ (B mc fun b => if b then fail else m) out := ⟨fun {σ H F C s b s'} w hm Dn k => by
  obtain ⟨d, s1, m1, hm⟩ := B_some hm
  refine sSs_of (pss_cons (ps_if (pT X c) pss_never pss_nil) (pSs X rest)) (hc.run w.ex w.env w.at_ m1 _ fun H1 F1 st1 a1 => ?_)
  cases d with
  | true => cases hm
  | false => exact hr.run (w.step st1 a1) hm Dn (k.mono st1.hh)⟩
/-- the first block never goes on -/
theorem js_ifret (hc : JT X T c ρ mc) (h1 : JS X T b1 ρ m1 out) (hr : JS X T rest ρ m2 out) (ho : ∀ b ρ', out b ≠ .nx ρ') : JS X T (.If c b1 [] pos :: rest) ρ (B mc fun b => if b then m1 else m2) out := ⟨fun {σ H F C s b s'} w hm Dn k => by
  obtain ⟨d, s1, m1', hm⟩ := B_some hm
  refine sSs_of (pss_cons (ps_if (pT X c) (pSs X b1) pss_nil) (pSs X rest)) (hc.run w.ex w.env w.at_ m1' _ fun H1 F1 st1 a1 => ?_)
  have k1 := k.mono st1.hh
  cases d with
  | true =>
    refine h1.run (w.step st1 a1) hm _ ?_
    cases e : out b with
    | nx ρ' => exact absurd e (ho b ρ')
    | rt d => rw [e] at k1; exact k1
    | bk ρ' => rw [e] at k1; exact k1
  | false => exact hr.run (w.step st1 a1) hm Dn k1⟩
/-- both ways join, or leave -/
inductive Fl (α : Type) where
  | nx (a : α)
  | rt (d : D)
  | bk (a : α)
def Fl.oc {α : Type} (emb : α → List Sl) : Fl α → Oc
  | .nx a => .nx (emb a)
  | .rt d => .rt d
  | .bk a => .bk (emb a)
theorem js_ifjoin {α : Type} {emb : α → List Sl} {n1 n2 : M S α} {f : α → M S β} (hc : JT X T c ρ mc) (h1 : JS X T b1 ρ n1 (fun a => .nx (emb a))) (h2 : JS X T b2 ρ n2 (fun a => .nx (emb a))) (hr : ∀ a, JS X T rest (emb a) (f a) out) : JS X T (.If c b1 b2 pos :: rest) ρ (B mc fun b => B (if b then n1 else n2) f) out := ⟨fun {σ H F C s b s'} w hm Dn k => by
  obtain ⟨d, s1, m1', hm1⟩ := B_some hm
  obtain ⟨a, s2, m2', hm2⟩ := B_some hm1
  refine sSs_of (pss_cons (ps_if (pT X c) (pSs X b1) (pSs X b2)) (pSs X rest)) (hc.run w.ex w.env w.at_ m1' _ fun H1 F1 st1 a1 => ?_)
  have w1 := w.step st1 a1
  have k1 := k.mono st1.hh
  cases d with
  | true => exact h1.run w1 m2' _ fun σ' H' F' e w' => (hr a).run w' hm2 Dn (k1.mono e)
  | false => exact h2.run w1 m2' _ fun σ' H' F' e w' => (hr a).run w' hm2 Dn (k1.mono e)⟩
theorem js_ifleave {α : Type} {emb : α → List Sl} {n1 n2 : M S (Fl α)} {f : α → M S β} {r : D → β} (hc : JT X T c ρ mc) (h1 : JS X T b1 ρ n1 (Fl.oc emb)) (h2 : JS X T b2 ρ n2 (Fl.oc emb)) (hr : ∀ a, JS X T rest (emb a) (f a) out) (ho : ∀ d, out (r d) = .rt d) :
    JS X T (.If c b1 b2 pos :: rest) ρ (B mc fun b => B (if b then n1 else n2) fun
      | .nx a => f a
      | .rt d => P (r d)
      | .bk _ => fail) out := ⟨fun {σ H F C s b s'} w hm Dn k => by
  obtain ⟨d, s1, m1', hm⟩ := B_some hm
  obtain ⟨a, s2, m2', hm⟩ := B_some hm
  refine sSs_of (pss_cons (ps_if (pT X c) (pSs X b1) (pSs X b2)) (pSs X rest)) (hc.run w.ex w.env w.at_ m1' _ fun H1 F1 st1 a1 => ?_)
  have w1 := w.step st1 a1
  have k1 := k.mono st1.hh
  have go : ∀ {D1 : Ends}, D1.rt = Dn.rt → (D1.nx = fun σ' F' => sSs X rest Dn σ' F') → OcOk X.K T C H1 s2 D1 (Fl.oc emb a) := fun {D1} e1 e2 => by
    cases a with
    | nx a =>
      intro σ' H' F' e w'
      rw [e2]
      exact (hr a).run w' hm Dn (k1.mono e)
    | rt d =>
      obtain ⟨rfl, rfl⟩ := P_some hm
      rw [ho] at k1
      intro v H' F' q1 q2 q3 q4 q5 q6
      rw [e1]
      exact k1 v H' F' q1 q2 q3 q4 q5 q6
    | bk _ => cases hm
  cases d with
  | true => exact h1.run w1 m2' _ (go rfl rfl)
  | false => exact h2.run w1 m2' _ (go rfl rfl)⟩
/-- (a, b) = .. -/
theorem js_unpack {tg : Expr} {sh : Sh} {mb : D → M S β} (he : JE X T e ρ me) (hg : PGd X tg sh) (hb : JItem sh ρ mb (fun ρ' m' => JS X T rest ρ' m' out)) (hs : swapsWithSole [tg] e pos.line X.env = pure false := by rfl) (hw : swappedStores [tg] e X.env = pure none := by rfl)
    (h1 : (assignEach [tg] X.env).map (·.2) = [assign tg X.env] := by rfl) : JS X T (.Assign [tg] e pos :: rest) ρ (B me mb) out := ⟨fun {σ H F C s b s'} w hm Dn k => by
  obtain ⟨d, s1, m1, hm⟩ := B_some hm
  refine sSs_of (pss_cons (ps_asg (pE X e) hg hs hw h1) (pSs X rest)) (he.run w.ex w.env w.at_ m1 _ fun v H1 F1 st1 a1 r1 => ?_)
  have w1 := w.step st1 a1
  obtain ⟨ρ', m', e1, e2, e3⟩ := hb d _ _ _ hm
  refine gSh_run w1.ex sh (.inl r1) w1.env e1 _ fun σ' hR' so => ?_
  exact e2.run (w1.bind e1 hR' so) e3 Dn (k.mono st1.hh)⟩
theorem js_map {o2 : γ → Oc} {g : β → γ} (h : JS X T rest ρ m out) (e : ∀ b, o2 (g b) = out b) : JS X T rest ρ (B m fun b => P (g b)) o2 := ⟨fun {σ H F C s b s'} w hm Dn k => by
  obtain ⟨d, s1, m1, hm⟩ := B_some hm
  obtain ⟨rfl, rfl⟩ := P_some hm
  rw [e] at k
  exact h.run w m1 Dn k⟩
/-! ### lists that are changed -/
def appL (xs : List D) (d : D) : Option (List D) := if xs.length < 16777216 then some (xs ++ [d]) else none
def extL (xs ys : List D) : Option (List D) := if xs.length + ys.length ≤ 16777216 then some (xs ++ ys) else none
def lstOf : D → Option (List D)
  | .list xs => some xs
  | _ => none
def setL (xs : List D) (i d : D) : Option (List D) := match i with
  | .int k => (ixN xs.length k).map fun j => xs.set j d
  | _ => none
theorem own_get {K : PySem.W.Frag} {C : Hp} {σ : L2.St} {s : S} {H F : Hp} (w : Wo K T C ρ σ s H F) {i : Nat} {xs : List D} (hi : ρ[i]? = some (.own xs)) : ∃ p vs, σ[i]? = some (some (.ref p)) ∧ H p = none ∧ ¬ T.pt p ∧ F p = some (.lst vs) ∧ Rps H vs xs := by
  obtain ⟨ov, h1, q, vs, rfl, h2, h3, h4, h5⟩ := w.env.at_ i _ hi
  exact ⟨q, vs, h1, h2, h3, h4, h5⟩
theorem js_append {i : Nat} {x : Str} {xs : List D} {p1 p2 p3 : Pos} {f : List D → M S β} (hN : X.N[i]? = some x) (hv : Vis X.env.scope x) (hρ : ρ[i]? = some (.own xs)) (he : JE X T e ρ me) (hr : ∀ ys, JS X T rest (ρ.set i (.own ys)) (f ys) out)
    (hbase : attributeBase (.Name x p1) "append" X.env (eval (.Name x p1) X.env) = eval (.Name x p1) X.env := by rfl)
    (hfew : ((backTo p3 (starEach [e] X.env)).all (fun x => !x.1) && (backToKw p3 (keywordEach [] X.env)).all (fun x => x.1.isSome) && decide ([e].length + ([] : List Keyword).length + (if ([] : List Keyword).isEmpty then 0 else 1) < 30)) = true := by rfl)
    (hline : (p2.endLine == p3.line) = true := by rfl) (hse : starEach [e] X.env = (false, eval e X.env) :: starEach [] X.env := by rfl) (hplain : (backTo p3 (starEach [] X.env)).any (·.1) = false := by rfl)
    (hs : swapsWith (.Call (.Attribute (.Name x p1) "append" p2) [e] [] p3) none pos.line X.env = pure false := by rfl) (hd : (x == ("__debug__" : Str)) = false := by decide) (hcd : (x == ("__classdict__" : Str)) = false := by decide) :
    JS X T (.Expr (.Call (.Attribute (.Name x p1) "append" p2) [e] [] p3) pos :: rest) ρ (B me fun d => B (L (appL xs d)) f) out := ⟨fun {σ H F C s b s'} w hm Dn k => by
  obtain ⟨d, s1, m1, hm⟩ := B_some hm
  obtain ⟨ys, hy, hm⟩ := BL_some hm
  obtain ⟨q, vs, hs1, h2, h3, h4, h5⟩ := own_get w hρ
  refine sSs_of (pss_cons (ps_expr (pe_bm PySem.F.plainAttrs_list PySem.F.slot_list_append PySem.F.type_list_append mt_append (pe_var hN hv hd hcd) (pa_cons (pE X e) pa_nil hse) hbase hfew hline hse hplain) hs) (pSs X rest)) ?_
  refine ⟨_, hs1, .inl ⟨rfl, _, .inl (.inl h4)⟩, he.run w.ex w.env w.at_ m1 _ fun v H1 F1 st1 a1 r1 => ?_⟩
  have w1 := w.step st1 a1
  unfold appL at hy
  by_cases hz : xs.length < 16777216
  · rw [if_pos hz] at hy
    cases hy
    refine ⟨q, vs, v, rfl, rfl, st1.ff _ _ h3 h4, by rw [sizeLine_eq, h5.length]; exact hz, ?_⟩
    exact (hr _).run (w1.own hρ hs1 ((h5.mono st1.hh).append (.cons r1 .nil))) hm Dn (k.mono st1.hh)
  · rw [if_neg hz] at hy
    cases hy⟩
theorem js_extend {i : Nat} {x : Str} {xs : List D} {p1 p2 p3 : Pos} {f : List D → M S β} (hN : X.N[i]? = some x) (hv : Vis X.env.scope x) (hρ : ρ[i]? = some (.own xs)) (he : JE X T e ρ me) (hr : ∀ ys, JS X T rest (ρ.set i (.own ys)) (f ys) out)
    (hbase : attributeBase (.Name x p1) "extend" X.env (eval (.Name x p1) X.env) = eval (.Name x p1) X.env := by rfl)
    (hfew : ((backTo p3 (starEach [e] X.env)).all (fun x => !x.1) && (backToKw p3 (keywordEach [] X.env)).all (fun x => x.1.isSome) && decide ([e].length + ([] : List Keyword).length + (if ([] : List Keyword).isEmpty then 0 else 1) < 30)) = true := by rfl)
    (hline : (p2.endLine == p3.line) = true := by rfl) (hse : starEach [e] X.env = (false, eval e X.env) :: starEach [] X.env := by rfl) (hplain : (backTo p3 (starEach [] X.env)).any (·.1) = false := by rfl)
    (hs : swapsWith (.Call (.Attribute (.Name x p1) "extend" p2) [e] [] p3) none pos.line X.env = pure false := by rfl) (hd : (x == ("__debug__" : Str)) = false := by decide) (hcd : (x == ("__classdict__" : Str)) = false := by decide) :
    JS X T (.Expr (.Call (.Attribute (.Name x p1) "extend" p2) [e] [] p3) pos :: rest) ρ (B me fun d => B (L ((lstOf d).bind fun zs => extL xs zs)) f) out := ⟨fun {σ H F C s b s'} w hm Dn k => by
  obtain ⟨d, s1, m1, hm⟩ := B_some hm
  obtain ⟨ys, hy, hm⟩ := BL_some hm
  obtain ⟨q, vs, hs1, h2, h3, h4, h5⟩ := own_get w hρ
  refine sSs_of (pss_cons (ps_expr (pe_bm PySem.F.plainAttrs_list PySem.F.slot_list_extend PySem.F.type_list_extend mt_extend (pe_var hN hv hd hcd) (pa_cons (pE X e) pa_nil hse) hbase hfew hline hse hplain) hs) (pSs X rest)) ?_
  refine ⟨_, hs1, .inl ⟨rfl, _, .inl (.inl h4)⟩, he.run w.ex w.env w.at_ m1 _ fun v H1 F1 st1 a1 r1 => ?_⟩
  have w1 := w.step st1 a1
  cases d with
  | list zs =>
    have hy : (if xs.length + zs.length ≤ 16777216 then some (xs ++ zs) else none) = some ys := hy
    by_cases hz : xs.length + zs.length ≤ 16777216
    · rw [if_pos hz] at hy
      cases hy
      obtain ⟨c, ws, rfl, hc, rc⟩ := r1.list_inv
      refine ⟨q, c, vs, ws, rfl, rfl, st1.ff _ _ h3 h4, st1.hf _ _ hc, by rw [sizeLine_eq, h5.length, rc.length]; exact hz, ?_⟩
      exact (hr _).run (w1.own hρ hs1 ((h5.mono st1.hh).append rc)) hm Dn (k.mono st1.hh)
    · rw [if_neg hz] at hy
      cases hy
  | _ => cases hy⟩
/-- x[i] = e -/
theorem js_setitem {i : Nat} {x : Str} {xs : List D} {p1 p2 : Pos} {ie : Expr} {mi : M S D} {f : List D → M S β} (hN : X.N[i]? = some x) (hv : Vis X.env.scope x) (hρ : ρ[i]? = some (.own xs)) (he : JE X T e ρ me) (hi : JE X T ie ρ mi) (hr : ∀ ys, JS X T rest (ρ.set i (.own ys)) (f ys) out)
    (ha : ∀ v, assign (.Subscript (.Name x p1) ie p2) X.env v = (do
      let ov ← holding [v] (eval (.Name x p1) X.env)
      let iv ← holding [v, ov] (eval ie X.env)
      standAt p2
      holding [v, ov, iv] (setItem ov iv v)
      release [v, ov, iv] []) := by intro _; rfl) (hs : swapsWithSole [.Subscript (.Name x p1) ie p2] e pos.line X.env = pure false := by rfl) (hw : swappedStores [.Subscript (.Name x p1) ie p2] e X.env = pure none := by rfl)
    (h1 : (assignEach [.Subscript (.Name x p1) ie p2] X.env).map (·.2) = [assign (.Subscript (.Name x p1) ie p2) X.env] := by rfl) (hd : (x == ("__debug__" : Str)) = false := by decide) (hcd : (x == ("__classdict__" : Str)) = false := by decide) :
    JS X T (.Assign [.Subscript (.Name x p1) ie p2] e pos :: rest) ρ (B me fun d => B mi fun j => B (L (setL xs j d)) f) out := ⟨fun {σ H F C s b s'} w hm Dn k => by
  obtain ⟨d, s1, m1, hm⟩ := B_some hm
  obtain ⟨j, s2, m2, hm⟩ := B_some hm
  obtain ⟨ys, hy, hm⟩ := BL_some hm
  obtain ⟨q, vs, hs1, h2, h3, h4, h5⟩ := own_get w hρ
  refine sSs_of (pss_cons (ps_asg (pE X e) (pg_sub (pe_var hN hv hd hcd) (pE X ie) set_list ha) hs hw h1) (pSs X rest)) (he.run w.ex w.env w.at_ m1 _ fun v H1 F1 st1 a1 r1 => ?_)
  have w1 := w.step st1 a1
  refine ⟨_, hs1, hi.run w1.ex w1.env a1 m2 _ fun u H2 F2 st2 a2 r2 => ?_⟩
  have w2 := w1.step st2 a2
  cases j with
  | int n =>
    cases r2
    have hy : (ixN xs.length n).map (fun j => xs.set j d) = some ys := hy
    cases e : ixN xs.length n with
    | none => rw [e] at hy; cases hy
    | some j =>
      rw [e] at hy
      cases hy
      refine ⟨q, vs, n, j, rfl, rfl, st2.ff _ _ h3 (st1.ff _ _ h3 h4), by rw [h5.length]; exact e, ?_⟩
      exact (hr _).run (w2.own hρ hs1 (Rps.set (r1.mono st2.hh) j ((h5.mono st1.hh).mono st2.hh))) hm Dn ((k.mono st1.hh).mono st2.hh)
  | _ => cases hy⟩
end

/-! ### loops -/
def foldF {S α : Type} : List D → α → (α → D → M S (Fl α)) → M S (Fl α)
  | [], a, _ => P (.nx a)
  | d :: ds, a, f => B (f a d) fun
    | .nx a => foldF ds a f
    | .bk a => P (.nx a)
    | .rt d => P (.rt d)
def foldS {S α : Type} : List D → α → (α → D → M S α) → M S α
  | [], a, _ => P a
  | d :: ds, a, f => B (f a d) fun a => foldS ds a f
def whileF {S α : Type} : Nat → α → (α → M S Bool) → (α → M S (Fl α)) → M S (Fl α)
  | 0, _, _, _ => fail
  | n + 1, a, t, f => B (t a) fun b => if b then B (f a) fun
      | .nx a => whileF n a t f
      | .bk a => P (.nx a)
      | .rt d => P (.rt d)
    else P (.nx a)
section
variable {X : Cx} {S α β : Type} {T : Tie S} {ρ ρ' : List Sl} {out : β → Oc} {emb : α → List Sl} {a0 : α} {src : M S (List D)} {tg iter c : Expr} {sh : Sh} {rest body : List Stmt} {pos p : Pos}
theorem js_forF {fb : α → D → M S (Fl α)} {f : α → M S β} {r : D → β} (hp : PassesOwn (model X.prog X.w) X.A X.env X.xe) (hc : X.calm = true) (hi : JI X T tg iter ρ true src) (hg : PGd X tg sh) (h0 : Le (emb a0) ρ) (hb : ∀ a, JItem sh (emb a) (fb a) (fun ρ' m' => JS X T body ρ' m' (Fl.oc emb)))
    (hr : ∀ a, JS X T rest (emb a) (f a) out) (ho : ∀ d, out (r d) = .rt d) (hs : ∀ x, foldedSetIterable iter X.env x = pure x := by intro _; rfl) (ht : tupOk tg sh = true := by rfl) :
    JS X T (.For tg iter body [] pos :: rest) ρ (B src fun ds => B (foldF ds a0 fb) fun
      | .nx a => f a
      | .rt d => P (r d)
      | .bk _ => fail) out := ⟨fun {σ H F C s b s'} w hm Dn k => by
  obtain ⟨ds, s1, m1, hm1⟩ := B_some hm
  obtain ⟨res, s2, m2, hm2⟩ := B_some hm1
  refine sSs_of (pss_cons (ps_for hp hc (pI X tg iter) hg (pSs X body) hs) (pSs X rest)) (hi.run w.ex w.env w.at_ m1 _ fun U J H1 F1 st1 a1 hU hpu wk => ?_)
  have nU : ∀ a, ¬ U a := hpu rfl
  have w1 := w.step st1 a1
  have k1 := k.mono st1.hh
  -- what comes behind the loop
  have fin : ∀ {a : α} {σ' : L2.St} {H' F' : Hp}, res = .nx a → Ex H1 H' → Wo X.K T C (emb a) σ' s2 H' F' → sSs X rest Dn σ' F' := fun {a σ' H' F'} er e w' => by
    subst er
    exact (hr a).run w' hm2 Dn (k1.mono e)
  refine ⟨fun i m σ' F' => m = ds.length - i ∧ i ≤ ds.length ∧ ∃ H' sx a, Ex H1 H' ∧ Wo X.K T C (emb a) σ' sx H' F' ∧ foldF (ds.drop i) a fb sx = some (res, s2),
    ⟨ds.length, rfl, Nat.zero_le _, H1, s1, a0, Evl.Ex.refl _, w1.weak h0.len h0.get, by simpa using m2⟩, fun i m σ' F' hW => ?_⟩
  obtain ⟨rfl, hi', H', sx, a, eH, w', hf⟩ := hW
  have vac : ∀ b, U b → F' b = F1 b := fun b z => absurd z (nU b)
  by_cases hlt : i < ds.length
  · have hdr : ds.drop i = ds[i] :: ds.drop (i + 1) := (List.drop_eq_getElem_cons hlt)
    rw [hdr] at hf
    obtain ⟨o, s3, mo, hf⟩ := B_some hf
    refine .inr ⟨wk.goes i H' F' eH w'.ex vac hlt, fun σ7 F7 => ∃ H7 s7 a7, Ex H1 H7 ∧ Wo X.K T C (emb a7) σ7 s7 H7 F7 ∧ foldF (ds.drop (i + 1)) a7 fb s7 = some (res, s2),
      fun σ7 F7 hN => ⟨ds.length - (i + 1), by omega, rfl, hlt, hN⟩, fun x F2 hy => ?_⟩
    obtain ⟨H2, d, st2, hd, rx⟩ := wk.yields i H' F' x F2 eH w'.ex vac hlt hy
    have ed : d = ds[i] := by
      rw [List.getElem?_eq_getElem hlt] at hd
      exact (Option.some.inj hd).symm
    subst ed
    have w2 := w'.step (st2.up w'.at_) (st2.at w'.at_)
    obtain ⟨ρ', m', hbind, hpost, hm'⟩ := hb a _ _ _ _ mo
    refine gSh_run w2.ex sh (rx.imp id fun z => ⟨tupOk_some ht z.1, z.2⟩) w2.env hbind _ fun σ2 hR' so => ?_
    refine hpost.run (w2.bind hbind hR' so) hm' _ ?_
    have e12 : Ex H1 H2 := eH.trans st2.hh
    cases o with
    | nx a' => exact fun σ7 H7 F7 e7 w7 => ⟨H7, s3, a', e12.trans e7, w7, hf⟩
    | bk a' =>
      obtain ⟨er, rfl⟩ := P_some hf
      exact fun σ7 H7 F7 e7 w7 => fin er (e12.trans e7) w7
    | rt d =>
      obtain ⟨er, rfl⟩ := P_some hf
      subst er
      obtain ⟨eb, rfl⟩ := P_some hm2
      subst eb
      rw [ho] at k1
      exact fun v H7 F7 q1 q2 q3 q4 q5 q6 => k1 v H7 F7 (e12.trans q1) q2 q3 q4 q5 q6
  · have e : i = ds.length := by omega
    subst e
    rw [List.drop_length] at hf
    obtain ⟨er, rfl⟩ := P_some hf
    exact .inl ⟨wk.stops H' F' eH w'.ex vac, fin er eH w'⟩⟩
theorem B_eq {S α β : Type} {m : M S α} {f : α → M S β} {s s1 : S} {a : α} (h : m s = some (a, s1)) : B m f s = f a s1 := by
  unfold B
  rw [h]
theorem foldF_nx {fb : α → D → M S α} : ∀ (ds : List D) (a : α) (s : S), foldF ds a (fun a d => B (fb a d) fun b => P (.nx b)) s = B (foldS ds a fb) (fun b => P (.nx b)) s
  | [], a, s => rfl
  | d :: ds, a, s => by
    show B (B (fb a d) fun b => P (Fl.nx b)) _ s = B (B (fb a d) fun a => foldS ds a fb) _ s
    unfold B
    cases fb a d s with
    | none => rfl
    | some q =>
      obtain ⟨b, s1⟩ := q
      exact foldF_nx ds b s1
/-- a loop that is neither left nor broken -/
theorem js_for {fb : α → D → M S α} {f : α → M S β} {r : D → β} (hp : PassesOwn (model X.prog X.w) X.A X.env X.xe) (hc : X.calm = true) (hi : JI X T tg iter ρ true src) (hg : PGd X tg sh) (h0 : Le (emb a0) ρ) (hb : ∀ a, JItem sh (emb a) (fb a) (fun ρ' m' => JS X T body ρ' m' (fun a => .nx (emb a))))
    (hr : ∀ a, JS X T rest (emb a) (f a) out) (ho : ∀ d, out (r d) = .rt d) (hs : ∀ x, foldedSetIterable iter X.env x = pure x := by intro _; rfl) (ht : tupOk tg sh = true := by rfl) :
    JS X T (.For tg iter body [] pos :: rest) ρ (B src fun ds => B (foldS ds a0 fb) f) out := by
  have h := js_forF (fb := fun a d => B (fb a d) fun b => P (.nx b)) (f := f) (r := r) (pos := pos) hp hc hi hg h0 (fun a d s x s' e => by
    obtain ⟨y, s1, e1, e2⟩ := B_some e
    obtain ⟨ρ', m', h1, h2, h3⟩ := hb a d _ _ _ e1
    refine ⟨ρ', B m' fun b => P (.nx b), h1, js_map h2 fun b => rfl, ?_⟩
    unfold B
    rw [h3]
    exact e2) hr ho hs ht
  refine ⟨fun {σ H F C s b s'} w hm Dn k => h.run w ?_ Dn k⟩
  obtain ⟨ds, s1, m1, hm1⟩ := B_some hm
  obtain ⟨res, s2, m2, hm2⟩ := B_some hm1
  rw [B_eq m1, B_eq (show foldF ds a0 (fun a d => B (fb a d) fun b => P (.nx b)) s1 = some (.nx res, s2) by rw [foldF_nx, B_eq m2]; rfl)]
  exact hm2
theorem js_whileF {fb : α → M S (Fl α)} {tb : α → M S Bool} {f : α → M S β} {r : D → β} {n : Nat} (hp : PassesOwn (model X.prog X.w) X.A X.env X.xe) (h0 : Le (emb a0) ρ) (ht : ∀ a, JT X T c (emb a) (tb a)) (hb : ∀ a, JS X T body (emb a) (fb a) (Fl.oc emb))
    (hr : ∀ a, JS X T rest (emb a) (f a) out) (ho : ∀ d, out (r d) = .rt d) :
    JS X T (.While c body [] pos :: rest) ρ (B (whileF n a0 tb fb) fun
      | .nx a => f a
      | .rt d => P (r d)
      | .bk _ => fail) out := ⟨fun {σ H F C s b s'} w hm Dn k => by
  obtain ⟨res, s2, m2, hm2⟩ := B_some hm
  refine sSs_of (pss_cons (ps_while hp (pT X c) (pSs X body)) (pSs X rest)) ?_
  have fin : ∀ {a : α} {σ' : L2.St} {H' F' : Hp}, res = .nx a → Ex H H' → Wo X.K T C (emb a) σ' s2 H' F' → sSs X rest Dn σ' F' := fun {a σ' H' F'} er e w' => by
    subst er
    exact (hr a).run w' hm2 Dn (k.mono e)
  refine ⟨fun m σ' F' => ∃ H' sx a, Ex H H' ∧ Wo X.K T C (emb a) σ' sx H' F' ∧ whileF m a tb fb sx = some (res, s2), ⟨n, H, s, a0, Evl.Ex.refl _, w.weak h0.len h0.get, m2⟩, fun m σ' F' hW => ?_⟩
  obtain ⟨H', sx, a, eH, w', hf⟩ := hW
  cases m with
  | zero => cases hf
  | succ m =>
    obtain ⟨t, s3, mt, hf1⟩ := B_some hf
    refine (ht a).run w'.ex w'.env w'.at_ mt _ fun H3 F3 st3 a3 => ?_
    have w3 := w'.step st3 a3
    have e3 := eH.trans st3.hh
    cases t with
    | false =>
      obtain ⟨er, rfl⟩ := P_some hf1
      exact fin er e3 w3
    | true =>
      obtain ⟨o, s4, mo, hf2⟩ := B_some hf1
      refine ⟨fun σ7 F7 => ∃ H7 s7 a7, Ex H H7 ∧ Wo X.K T C (emb a7) σ7 s7 H7 F7 ∧ whileF m a7 tb fb s7 = some (res, s2), fun σ7 F7 hN => ⟨m, Nat.lt_succ_self m, hN⟩, ?_⟩
      refine (hb a).run w3 mo _ ?_
      cases o with
      | nx a' => exact fun σ7 H7 F7 e7 w7 => ⟨H7, s4, a', e3.trans e7, w7, hf2⟩
      | bk a' =>
        obtain ⟨er, rfl⟩ := P_some hf2
        exact fun σ7 H7 F7 e7 w7 => fin er (e3.trans e7) w7
      | rt d =>
        obtain ⟨er, rfl⟩ := P_some hf2
        subst er
        obtain ⟨eb, rfl⟩ := P_some hm2
        subst eb
        rw [ho] at k
        exact fun v H7 F7 q1 q2 q3 q4 q5 q6 => k v H7 F7 (e3.trans q1) q2 q3 q4 q5 q6⟩
end
/-! ### a, b = e1, e2 -/
section
variable {X : Cx} {S β δ1 δ2 δ3 : Type} {T : Tie S} {ρ : List Sl} {out : β → Oc} {mk1 : δ1 → Sl} {mk2 : δ2 → Sl} {mk3 : δ3 → Sl} {m1 : M S δ1} {m2 : M S δ2} {m3 : M S δ3} {a b c : Expr} {rest : List Stmt} {pos : Pos}
/-- a new list lies nowhere yet -/
theorem Wo.fresh {K : PySem.W.Frag} {C : Hp} {σ : L2.St} {s : S} {H F : Hp} (w : Wo K T C ρ σ s H F) {q : Addr} (hq : F q = none) : C q = none ∧ ∀ (j : Nat) (sl' : Sl), ρ[j]? = some sl' → isOwn sl' = true → σ[j]? ≠ some (some (V.ref q)) := by
  refine ⟨?_, fun j sl' hj oj z => ?_⟩
  · cases e : C q with
    | none => rfl
    | some u =>
      rw [w.cx q u e] at hq
      cases hq
  · cases sl' with
    | own xs =>
      obtain ⟨ov, g1, p', vs', g2, _, _, g5, _⟩ := w.env.at_ j _ hj
      rw [z] at g1
      have : q = p' := by
        have q := Option.some.inj g1
        rw [← q] at g2
        exact V.ref.inj (Option.some.inj g2)
      subst this
      rw [hq] at g5
      cases g5
    | _ => cases oj
theorem js_par2 {i j : Nat} {x y : Str} {px py pt : Pos} {kt k2 : Nat} {pt2 : Pos} {f : δ1 → δ2 → M S β} (hc : X.calm = true) (hN : X.N.Nodup) (hi : X.N[i]? = some x) (hj : X.N[j]? = some y) (hij : i ≠ j) (hx : X.env.scope.names.lookup x = some .local) (hy : X.env.scope.names.lookup y = some .local)
    (h1 : JX X T a ρ mk1 m1) (h2 : JX X T b ρ mk2 m2) (hr : ∀ d e, JS X T rest ((ρ.set i (mk1 d)).set j (mk2 e)) (f d e) out)
    (hw : swappedStores [.Tuple [.Name x px, .Name y py] kt pt] (.Tuple [a, b] k2 pt2) X.env = pure (some [x, y]) := by rfl) (hs : swapsWithSole [.Tuple [.Name x px, .Name y py] kt pt] (.Tuple [a, b] k2 pt2) pos.line X.env = pure false := by rfl)
    (hs1 : starEach (a :: [b]) X.env = (false, eval a X.env) :: starEach [b] X.env := by rfl) (hs2 : starEach (b :: []) X.env = (false, eval b X.env) :: starEach [] X.env := by rfl) :
    JS X T (.Assign [.Tuple [.Name x px, .Name y py] kt pt] (.Tuple [a, b] k2 pt2) pos :: rest) ρ (B m1 fun d => B m2 fun e => f d e) out := ⟨fun {σ H F C s b' s'} w hm Dn k => by
  obtain ⟨d, s1, e1, hm1⟩ := B_some hm
  obtain ⟨e, s2, e2, hm2⟩ := B_some hm1
  refine sSs_of (pss_cons (ps_par hc hN hi hj hij hx hy (pa_cons (pE X a) (pa_cons (pE X b) pa_nil hs2) hs1) hw hs) (pSs X rest)) ?_
  refine h1.run w.ex w.env w.at_ e1 _ fun v1 H1 F1 st1 a1 r1 n1 => h2.run st1.hf (w.env.step st1) a1 e2 _ fun v2 H2 F2 st2 a2 r2 n2 => ⟨v1, v2, rfl, ?_⟩
  have w1 := w.step st1 a1
  have w2 := w1.step st2 a2
  have fr1 : isOwn (mk1 d) = true → ∀ q, v1 = .ref q → C q = none ∧ ∀ (j : Nat) (sl' : Sl), ρ[j]? = some sl' → isOwn sl' = true → σ[j]? ≠ some (some (V.ref q)) := fun o q eq => w.fresh (n1 o q eq)
  refine (hr d e).run ((w2.set i (r1.step st2) fr1).set j r2 fun o q eq => ?_) hm2 Dn ((k.mono st1.hh).mono st2.hh)
  have hq := n2 o q eq
  obtain ⟨c1, c2⟩ := w1.fresh hq
  refine ⟨c1, fun l sl' hl ol => ?_⟩
  by_cases c : i = l
  · subst c
    have hlt : i < ρ.length := by
      have := (List.getElem?_eq_some_iff.mp hl).1
      simpa using this
    rw [List.getElem?_set_self (by rw [← w.env.len]; exact hlt)]
    intro z
    have ev : v1 = .ref q := Option.some.inj (Option.some.inj z)
    rw [List.getElem?_set_self hlt] at hl
    cases hl
    cases hmk : mk1 d with
    | own xs =>
      rw [hmk] at r1
      obtain ⟨p', vs', g2, _, _, g5, _⟩ := r1
      rw [ev] at g2
      cases g2
      rw [hq] at g5
      cases g5
    | _ => rw [hmk] at ol; cases ol
  · rw [List.getElem?_set_ne c] at hl ⊢
    exact c2 l sl' hl ol⟩
/-- three, all for good but the first -/
theorem js_par3 {i j l : Nat} {x y z : Str} {px py pz pt : Pos} {kt k2 : Nat} {pt2 : Pos} {f : δ1 → D → D → M S β} {n2 n3 : M S D} (hc : X.calm = true) (hN : X.N.Nodup) (hi : X.N[i]? = some x) (hj : X.N[j]? = some y) (hl : X.N[l]? = some z) (hij : i ≠ j) (hil : i ≠ l) (hjl : j ≠ l)
    (hx : X.env.scope.names.lookup x = some .local) (hy : X.env.scope.names.lookup y = some .local) (hz : X.env.scope.names.lookup z = some .local)
    (h1 : JX X T a ρ mk1 m1) (h2 : JE X T b ρ n2) (h3 : JE X T c ρ n3) (hr : ∀ d e g, JS X T rest (((ρ.set i (mk1 d)).set j (.val e)).set l (.val g)) (f d e g) out)
    (hw : swappedStores [.Tuple [.Name x px, .Name y py, .Name z pz] kt pt] (.Tuple [a, b, c] k2 pt2) X.env = pure (some [x, y, z]) := by rfl) (hs : swapsWithSole [.Tuple [.Name x px, .Name y py, .Name z pz] kt pt] (.Tuple [a, b, c] k2 pt2) pos.line X.env = pure false := by rfl)
    (hs1 : starEach (a :: [b, c]) X.env = (false, eval a X.env) :: starEach [b, c] X.env := by rfl) (hs2 : starEach (b :: [c]) X.env = (false, eval b X.env) :: starEach [c] X.env := by rfl) (hs3 : starEach (c :: []) X.env = (false, eval c X.env) :: starEach [] X.env := by rfl) :
    JS X T (.Assign [.Tuple [.Name x px, .Name y py, .Name z pz] kt pt] (.Tuple [a, b, c] k2 pt2) pos :: rest) ρ (B m1 fun d => B n2 fun e => B n3 fun g => f d e g) out := ⟨fun {σ H F C s b' s'} w hm Dn k => by
  obtain ⟨d, s1, e1, hm1⟩ := B_some hm
  obtain ⟨e, s2, e2, hm2⟩ := B_some hm1
  obtain ⟨g, s3, e3, hm3⟩ := B_some hm2
  refine sSs_of (pss_cons (ps_par3 hc hN hi hj hl hij hil hjl hx hy hz (pa_cons (pE X a) (pa_cons (pE X b) (pa_cons (pE X c) pa_nil hs3) hs2) hs1) hw hs) (pSs X rest)) ?_
  refine h1.run w.ex w.env w.at_ e1 _ fun v1 H1 F1 st1 a1 r1 n1 => h2.run st1.hf (w.env.step st1) a1 e2 _ fun v2 H2 F2 st2 a2 r2 => h3.run st2.hf (w.env.step (st1.trans st2)) a2 e3 _ fun v3 H3 F3 st3 a3 r3 => ⟨v1, v2, v3, rfl, ?_⟩
  have w3 := ((w.step st1 a1).step st2 a2).step st3 a3
  have fr1 : isOwn (mk1 d) = true → ∀ q, v1 = .ref q → C q = none ∧ ∀ (j : Nat) (sl' : Sl), ρ[j]? = some sl' → isOwn sl' = true → σ[j]? ≠ some (some (V.ref q)) := fun o q eq => w.fresh (n1 o q eq)
  exact (hr d e g).run (((w3.set i ((r1.step st2).step st3) fr1).set (sl := .val e) j ⟨v2, rfl, r2.mono st3.hh⟩ fun o => by cases o).set (sl := .val g) l ⟨v3, rfl, r3⟩ fun o => by cases o) hm3 Dn (((k.mono st1.hh).mono st2.hh).mono st3.hh)⟩
end

/-! ### a def -/
def run0 {α : Type} (m : M Unit α) : Option α := (m ()).map (·.1)
theorem run0_some {α : Type} {m : M Unit α} {a : α} (h : run0 m = some a) : m () = some (a, ()) := by
  unfold run0 at h
  cases e : m () with
  | none => rw [e] at h; cases h
  | some q =>
    rw [e] at h
    obtain ⟨b, u⟩ := q
    cases h
    rfl
/-- the slots at a def's entry -/
def slots0 (N : List Str) (sls : List Sl) : List Sl := sls ++ List.replicate (N.length - sls.length) .unk
/-- what is handed in -/
inductive Rsl (K : PySem.W.Frag) {S : Type} (T : Tie S) (H F : Hp) : List V → List Sl → Prop
  | nil : Rsl K T H F [] []
  | cons {v : V} {vs : List V} {sl : Sl} {sls : List Sl} : SlR K T H F sl (some v) → isOwn sl = false → Rsl K T H F vs sls → Rsl K T H F (v :: vs) (sl :: sls)
theorem Rsl.length {K : PySem.W.Frag} {S : Type} {T : Tie S} {H F : Hp} : ∀ {vs : List V} {ds : List Sl}, Rsl K T H F vs ds → vs.length = ds.length
  | _, _, .nil => rfl
  | _, _, .cons _ _ r => by simp [Rsl.length r]
theorem Rsl.get {K : PySem.W.Frag} {S : Type} {T : Tie S} {H F : Hp} : ∀ {vs : List V} {ds : List Sl} {i : Nat} {d : Sl}, Rsl K T H F vs ds → ds[i]? = some d → isOwn d = false ∧ ∃ v, vs[i]? = some v ∧ SlR K T H F d (some v)
  | _, _, _, _, .nil, e => by simp at e
  | _, _, 0, _, .cons h o _, e => by simp at e; subst e; exact ⟨o, _, rfl, h⟩
  | _, _, i + 1, _, .cons _ _ r, e => by
    obtain ⟨o, v, h1, h2⟩ := Rsl.get (i := i) r (by simpa using e)
    exact ⟨o, v, by simpa using h1, h2⟩
theorem Rps.sl {K : PySem.W.Frag} {S : Type} {T : Tie S} {H F : Hp} : ∀ {vs : List V} {ds : List D}, Rps H vs ds → Rsl K T H F vs (ds.map .val)
  | _, _, .nil => .nil
  | _, _, .cons h r => .cons ⟨_, rfl, h⟩ rfl (Rps.sl r)
theorem slots0_no {K : PySem.W.Frag} {S : Type} {T : Tie S} {H F : Hp} {vs : List V} {sls : List Sl} (r : Rsl K T H F vs sls) (N : List Str) {i : Nat} {sl : Sl} (hi : (slots0 N sls)[i]? = some sl) : isOwn sl = false := by
  unfold slots0 at hi
  by_cases c : i < sls.length
  · rw [List.getElem?_append_left c] at hi
    exact (r.get hi).1
  · rw [List.getElem?_append_right (by omega), List.getElem?_replicate] at hi
    split at hi
    · cases hi
      rfl
    · cases hi
theorem env0_start {K : PySem.W.Frag} {S : Type} {T : Tie S} {H F : Hp} {vs : List V} {sls : List Sl} (r : Rsl K T H F vs sls) (N : List Str) : EnvR K T (slots0 N sls) (L2.start N vs) H F := by
  have hl := r.length
  refine ⟨by simp [slots0, L2.start, hl], fun i sl hi => ?_, fun i j sl sl' p hij hi oi => ?_⟩
  · unfold slots0 at hi
    unfold L2.start
    by_cases c : i < sls.length
    · rw [List.getElem?_append_left c] at hi
      rw [List.getElem?_append_left (by simpa [hl] using c)]
      obtain ⟨_, v, e1, e2⟩ := r.get hi
      exact ⟨some v, by rw [List.getElem?_map, e1]; rfl, e2⟩
    · rw [List.getElem?_append_right (by omega)] at hi
      rw [List.getElem?_append_right (by simpa [hl] using c)]
      rw [List.length_map]
      have hlt := (List.getElem?_eq_some_iff.mp hi).1
      rw [List.length_replicate] at hlt
      rw [List.getElem?_replicate, if_pos hlt] at hi
      cases hi
      exact ⟨none, by rw [List.getElem?_replicate, hl, if_pos hlt], trivial⟩
  · rw [slots0_no r N hi] at oi
    cases oi
theorem entry_run {X : Cx} {S : Type} {T : Tie S} {sts : List Stmt} {N : List Str} {sls : List Sl} {mb : M S D} (hJ : JS X T sts (slots0 N sls) mb Oc.rt) {vs : List V} {H F : Hp} {s s' : S} {r : D} (hE : Ex H F) (hR : Rsl X.K T H F vs sls) (hA : T.at_ s H F) (hm : mb s = some (r, s'))
    (Q : VK) (k : ∀ v H' F', Stp T.pt H F H' F' → T.at_ s' H' F' → Rp H' v r → Q v F') : sSs X sts { nx := fun _ H' => Q .non H', rt := Q } (L2.start N vs) F := by
  haveI := fun a => Classical.propDecidable (H a = none ∧ ¬ T.pt a)
  have hC : ∀ a o, (if H a = none ∧ ¬ T.pt a then F a else none) = some o → F a = some o ∧ H a = none ∧ ¬ T.pt a := fun a o e => by
    by_cases c : H a = none ∧ ¬ T.pt a
    · rw [if_pos c] at e
      exact ⟨e, c⟩
    · rw [if_neg c] at e
      cases e
  refine hJ.run (C := fun a => if H a = none ∧ ¬ T.pt a then F a else none) (H := H) (s := s) ⟨hE, env0_start hR N, hA, fun a o e => (hC a o e).1, fun a o e => ⟨(hC a o e).2.1, (hC a o e).2.2, fun i sl hi oi => ?_⟩⟩ hm _ ?_
  · rw [slots0_no hR N hi] at oi
    cases oi
  · intro v H' F' e1 e2 a1 e3 e4 rv
    refine k v H' F' ⟨e1, e2, fun a o nt e => ?_, fun a n1 n2 => ?_, fun a ta _ => T.hout _ _ _ _ a1 ta⟩ a1 rv
    · cases c : H a with
      | some u =>
        have z := hE a u c
        rw [e] at z
        cases z
        exact e2 _ _ (e1 _ _ c)
      | none => exact e3 a o (by show (if H a = none ∧ ¬ T.pt a then F a else none) = some o; rw [if_pos ⟨c, nt⟩]; exact e)
    · cases c : F a with
      | none => rfl
      | some u =>
        by_cases ta : T.pt a
        · exact absurd (T.hout _ _ _ _ a1 ta) n2
        · exact absurd (e4 a u (by show (if H a = none ∧ ¬ T.pt a then F a else none) = some u; rw [if_pos ⟨n1, ta⟩]; exact c)).1 n2
section
variable {P : Program} {w : World} {K : PySem.W.Frag} {mg : Str → Option Value} {base : Heap}
/-- the context of a def's body -/
abbrev bodyX (P : Program) (w : World) (K : PySem.W.Frag) (mg : Str → Option Value) (base : Heap) (N : List Str) (qual : Str) (st : Stmt) (f : Addr) (cdv : Value) (A : Around) (outer : List Env) (s : Shared) (F : Hp) (E : XK) : Cx := (cxOf CX0 P w K mg base N qual (defScope st) f cdv A outer s F E).nox
abbrev BodyAll (P : Program) (w : World) (K : PySem.W.Frag) (mg : Str → Option Value) (base : Heap) (N : List Str) (qual : Str) (st : Stmt) (f : Addr) (k : Nat) (Q : Cx → Prop) : Prop :=
  ∀ (cdv : Value) (A : Around) (outer : List Env) (s : Shared) (F : Hp) (E : XK), Room k (A.deeper (envOfC qual (defScope st) s.heap.objs.size f cdv)) → Q (bodyX P w K mg base N qual st f cdv A outer s F E)
theorem fn_pure {x qual : Str} {st : Stmt} {f : Addr} {fd : FuncData} {N ps : List Str} {k : Nat} {mf : List D → Option D} {mb : List D → M Unit D} (Fn : Fun K x qual st f fd) (Sc : FnScope N ps (defScope st)) (hmf : ∀ ds r, mf ds = some r → ds.length = ps.length ∧ run0 (mb ds) = some r)
    (hb : ∀ ds : List D, ds.length = ps.length → BodyAll P w K mg base N qual st f k fun X => JS X tie0 (defBody st) (slots0 N (ds.map .val)) (mb ds) Oc.rt) : FnOk P w K mg base CX0 (k + 1) f fd ps (spF mf) := by
  refine Fn.ok Sc (fun vs F Q E h => ?_) (fun cdv A outer s F vs Q E hr h => ?_)
  · obtain ⟨H, ds, r, _, h2, h3, _⟩ := h
    rw [h2.length]
    exact (hmf ds r h3).1
  · obtain ⟨H, ds, r, h1, h2, h3, h4⟩ := h
    obtain ⟨hl, hm⟩ := hmf ds r h3
    exact ⟨_, pSs _ _, entry_run (hb ds hl cdv A outer s F E hr) (s := ()) h1 h2.sl trivial (run0_some hm) Q fun v H' F' st _ r => h4 v H' F' st r⟩
/-- .. that is given the carried state -/
theorem fn_pot {x qual : Str} {st : Stmt} {f : Addr} {fd : FuncData} {N ps : List Str} {k : Nat} {mf : List D → M Pot D} (Fn : Fun K x qual st f fd) (Sc : FnScope N ps (defScope st)) (hmf : ∀ ds s r s', mf ds s = some (r, s') → ds.length + 1 = ps.length)
    (hb : ∀ (ds : List D) (p : Addr), ds.length + 1 = ps.length → BodyAll P w K mg base N qual st f k fun X => JS X (tieP p) (defBody st) (slots0 N (.pot :: ds.map .val)) (mf ds) Oc.rt) : FnOk P w K mg base CX0 (k + 1) f fd ps (spP mf) := by
  refine Fn.ok Sc (fun vs F Q E h => ?_) (fun cdv A outer s F vs Q E hr h => ?_)
  · obtain ⟨p, ws, H, ds, s, r, s', rfl, _, _, h2, h3, _⟩ := h
    rw [List.length_cons, h2.length]
    exact hmf ds _ _ _ h3
  · obtain ⟨p, ws, H, ds, s0, r, s', rfl, h1, ha, h2, h3, h4⟩ := h
    exact ⟨_, pSs _ _, entry_run (hb ds p (hmf ds _ _ _ h3) cdv A outer s F E hr) h1 (.cons ⟨p, rfl, rfl⟩ rfl h2.sl) ha h3 Q fun v H' F' st a r => h4 v H' F' st a r⟩
/-- .. that is given the script -/
def spScr (K : PySem.W.Frag) (f : List Int → List D → Option D) : Sp := fun vs F Q _ => ∃ a ws ns H ds r, vs = .ref a :: ws ∧ ScrR K F a ns ∧ Ex H F ∧ Rps H ws ds ∧ f ns ds = some r ∧ ∀ v H' F', Stq H F H' F' → Rp H' v r → Q v F'
theorem fn_scr {x qual : Str} {st : Stmt} {f : Addr} {fd : FuncData} {N ps : List Str} {k : Nat} {mf : List Int → List D → Option D} {mb : List Int → List D → M Unit D} (Fn : Fun K x qual st f fd) (Sc : FnScope N ps (defScope st)) (hmf : ∀ ns ds r, mf ns ds = some r → ds.length + 1 = ps.length ∧ run0 (mb ns ds) = some r)
    (hb : ∀ (ns : List Int) (ds : List D), ds.length + 1 = ps.length → BodyAll P w K mg base N qual st f k fun X => JS X tie0 (defBody st) (slots0 N (.scr ns :: ds.map .val)) (mb ns ds) Oc.rt) : FnOk P w K mg base CX0 (k + 1) f fd ps (spScr K mf) := by
  refine Fn.ok Sc (fun vs F Q E h => ?_) (fun cdv A outer s F vs Q E hr h => ?_)
  · obtain ⟨a, ws, ns, H, ds, r, rfl, _, _, h2, h3, _⟩ := h
    rw [List.length_cons, h2.length]
    exact (hmf ns ds r h3).1
  · obtain ⟨a, ws, ns, H, ds, r, rfl, hs, h1, h2, h3, h4⟩ := h
    obtain ⟨hl, hm⟩ := hmf ns ds r h3
    exact ⟨_, pSs _ _, entry_run (hb ns ds hl cdv A outer s F E hr) (s := ()) h1 (.cons ⟨a, rfl, fun z => z, hs⟩ rfl h2.sl) trivial (run0_some hm) Q fun v H' F' st _ r => h4 v H' F' st r⟩
end
end DL

set_option Elab.async false
set_option linter.all false
set_option maxRecDepth 100000
set_option maxHeartbeats 2000000
/-! DLOps: operators and built-ins on data. -/
namespace DL
open PySem PySem.Spec PyProof.Rows L2

/-! ### data without dicts -/
mutual
theorem Rp.dp {K : PySem.W.Frag} {H : Hp} : ∀ {v : V} {d : D}, Rp H v d → d.plain = true → Dp K H v d
  | _, _, .non, _ => .non
  | _, _, .bl b, _ => .bl b
  | _, _, .int i, _ => .int i
  | _, _, .str x, _ => .str x
  | _, _, .lst h r, p => .lst (SqL.of h) (Rps.dp r (by simpa only [PyData.plain] using p))
  | _, _, .tup h r, p => .tup h.sq (Rps.dp r (by simpa only [PyData.plain] using p))
  | _, _, .dic _ _, p => by simp only [PyData.plain] at p; cases p
theorem Rps.dp {K : PySem.W.Frag} {H : Hp} : ∀ {v : List V} {d : List D}, Rps H v d → PyData.plainAll d = true → DpAll K H v d
  | _, _, .nil, _ => .nil
  | _, _, .cons h r, p => by
    simp only [PyData.plainAll, Bool.and_eq_true] at p
    exact .cons (Rp.dp h p.1) (Rps.dp r p.2)
end
def okD (d : D) : Bool := d.plain && decide (d.depth ≤ 40)
theorem okD_some {d : D} (h : okD d = true) : d.plain = true ∧ d.depth ≤ 40 := by
  unfold okD at h
  rw [Bool.and_eq_true, decide_eq_true_eq] at h
  exact h
/-! ### == -/
def eqB (a b : D) : Option Bool := if okD a && okD b then some (PyData.eqv a b) else none
def neB (a b : D) : Option Bool := if okD a && okD b then some (!PyData.eqv a b) else none
theorem eqB_some {a b : D} {c : Bool} (h : eqB a b = some c) : okD a = true ∧ okD b = true ∧ c = PyData.eqv a b := by
  unfold eqB at h
  split at h
  · rename_i q
    rw [Bool.and_eq_true] at q
    cases h
    exact ⟨q.1, q.2, rfl⟩
  · cases h
theorem neB_some {a b : D} {c : Bool} (h : neB a b = some c) : okD a = true ∧ okD b = true ∧ c = !PyData.eqv a b := by
  unfold neB at h
  split at h
  · rename_i q
    rw [Bool.and_eq_true] at q
    cases h
    exact ⟨q.1, q.2, rfl⟩
  · cases h
section
variable {X : Cx}
def rEqP (K : PySem.W.Frag) : R2 := fun x y H Q => ∃ d e, Dp K H x d ∧ Dp K H y e ∧ okD d = true ∧ okD e = true ∧ Q (.bl (PyData.eqv d e)) H
def rNeP (K : PySem.W.Frag) : R2 := fun x y H Q => ∃ d e, Dp K H x d ∧ Dp K H y e ∧ okD d = true ∧ okD e = true ∧ Q (.bl (!PyData.eqv d e)) H
theorem op_eqP (hu : X.A.units + 64 < cLine) : OpR X (compareOp .Eq) (rEqP X.K) := by
  intro pins s σ H x y v u Q I rx ry h
  obtain ⟨d, e, hd, he, o1, o2, q⟩ := h
  obtain ⟨as, r1⟩ := Dp.reads I d x v hd rx
  obtain ⟨bs, r2⟩ := Dp.reads I e y u he ry
  have p1 := okD_some o1
  have p2 := okD_some o2
  exact PySem.SeqAt.eq_plain r1 r2 p1.1 p2.1 (by have := p1.2; omega) ⟨.bl _, H, I, rfl, q⟩
theorem op_neP (hu : X.A.units + 64 < cLine) : OpR X (compareOp .NotEq) (rNeP X.K) := by
  intro pins s σ H x y v u Q I rx ry h
  obtain ⟨d, e, hd, he, o1, o2, q⟩ := h
  obtain ⟨as, r1⟩ := Dp.reads I d x v hd rx
  obtain ⟨bs, r2⟩ := Dp.reads I e y u he ry
  have p1 := okD_some o1
  have p2 := okD_some o2
  exact PySem.SeqAt.ne_plain r1 r2 p1.1 p2.1 (by have := p1.2; omega) ⟨.bl _, H, I, rfl, q⟩
theorem ob_eq (hu : X.A.units + 64 < cLine) : OpB X (compareOp .Eq) eqB := ⟨_, op_eqP hu, fun F x y a b c Q ra rb h q => by
  obtain ⟨h1, h2, rfl⟩ := eqB_some h
  exact ⟨a, b, ra.dp (okD_some h1).1, rb.dp (okD_some h2).1, h1, h2, q⟩⟩
theorem ob_ne (hu : X.A.units + 64 < cLine) : OpB X (compareOp .NotEq) neB := ⟨_, op_neP hu, fun F x y a b c Q ra rb h q => by
  obtain ⟨h1, h2, rfl⟩ := neB_some h
  exact ⟨a, b, ra.dp (okD_some h1).1, rb.dp (okD_some h2).1, h1, h2, q⟩⟩
/-! ### <, <=, >, >= of whole numbers -/
def ltB : D → D → Option Bool
  | .int i, .int j => some (decide (i < j))
  | _, _ => none
def leB : D → D → Option Bool
  | .int i, .int j => some (decide (i ≤ j))
  | _, _ => none
def gtB : D → D → Option Bool
  | .int i, .int j => some (decide (j < i))
  | _, _ => none
def geB : D → D → Option Bool
  | .int i, .int j => some (decide (j ≤ i))
  | _, _ => none
theorem ob_int {f : Value → Value → Sem Value} {p : Int → Int → Bool} {g : D → D → Option Bool} (ho : OpR X f (rI0 fun i j => .bl (p i j))) (hg : ∀ a b c, g a b = some c → ∃ i j, a = .int i ∧ b = .int j ∧ c = p i j) : OpB X f g := ⟨_, ho, fun F x y a b c Q ra rb h q => by
  obtain ⟨i, j, rfl, rfl, rfl⟩ := hg a b c h
  cases ra
  cases rb
  exact ⟨i, j, rfl, rfl, q⟩⟩
theorem ob_lt : OpB X (compareOp .Lt) ltB := ob_int op_lt fun a b c h => by
  cases a <;> cases b <;> first | (cases h; exact ⟨_, _, rfl, rfl, rfl⟩) | cases h
theorem ob_le : OpB X (compareOp .LtE) leB := ob_int op_le fun a b c h => by
  cases a <;> cases b <;> first | (cases h; exact ⟨_, _, rfl, rfl, rfl⟩) | cases h
theorem ob_gt : OpB X (compareOp .Gt) gtB := ob_int op_gt fun a b c h => by
  cases a <;> cases b <;> first | (cases h; exact ⟨_, _, rfl, rfl, rfl⟩) | cases h
theorem ob_ge : OpB X (compareOp .GtE) geB := ob_int op_ge fun a b c h => by
  cases a <;> cases b <;> first | (cases h; exact ⟨_, _, rfl, rfl, rfl⟩) | cases h
/-! ### is -/
def isN : D → Bool
  | .none => true
  | _ => false
def isB : D → D → Option Bool
  | a, .none => some (isN a)
  | .bool a, .bool b => some (decide (a = b))
  | _, _ => none
def isntB : D → D → Option Bool
  | a, .none => some (!isN a)
  | .bool a, .bool b => some (!decide (a = b))
  | _, _ => none
theorem isN_of {H : Hp} {x : V} {a : D} (r : Rp H x a) : decide (x = .non) = isN a := by
  cases r <;> simp [isN]
theorem ob_is : OpB X (compareOp .Is) isB := ⟨_, op_isN.or op_isBl, fun F x y a b c Q ra rb h q => by
  cases b with
  | none =>
    cases rb
    have e : isB a .none = some (isN a) := by cases a <;> rfl
    rw [e] at h
    cases h
    refine .inl ⟨rfl, ?_⟩
    rw [isN_of ra]
    exact q
  | bool b =>
    cases rb
    cases a with
    | bool a => cases h; cases ra; exact .inr ⟨a, b, rfl, rfl, q⟩
    | _ => cases h
  | _ => cases a <;> cases h⟩
theorem ob_isnt : OpB X (compareOp .IsNot) isntB := ⟨_, op_notN.or op_notBl, fun F x y a b c Q ra rb h q => by
  cases b with
  | none =>
    cases rb
    have e : isntB a .none = some (!isN a) := by cases a <;> rfl
    rw [e] at h
    cases h
    refine .inl ⟨rfl, ?_⟩
    rw [isN_of ra]
    exact q
  | bool b =>
    cases rb
    cases a with
    | bool a => cases h; cases ra; exact .inr ⟨a, b, rfl, rfl, q⟩
    | _ => cases h
  | _ => cases a <;> cases h⟩
/-! ### in -/
def memOk (x : D) (ys : List D) : Bool := okD x && PyData.plainAll ys && decide (PyData.depthAll ys ≤ 40)
def inB : D → D → Option Bool
  | x, .list ys => if memOk x ys then some (ys.any fun y => PyData.eqv y x) else none
  | x, .tuple ys => if memOk x ys then some (ys.any fun y => PyData.eqv y x) else none
  | .str x, .str z => if x.cps.size = 1 then some (decide (x.cps.getD 0 0 ∈ z.cps.toList)) else none
  | _, _ => none
def ninB (x y : D) : Option Bool := (inB x y).map (!·)
def rInP (K : PySem.W.Frag) (neg : Bool) : R2 := fun x y H Q => ∃ p xs d ds, y = .ref p ∧ (SqL K H p xs ∨ SqT K H p xs) ∧ DpAll K H xs ds ∧ Dp K H x d ∧ memOk d ds = true ∧ Q (.bl (if neg then !(ds.any fun y => PyData.eqv y d) else ds.any fun y => PyData.eqv y d)) H
theorem memOk_some {x : D} {ys : List D} (h : memOk x ys = true) : x.plain = true ∧ x.depth ≤ 40 ∧ PyData.plainAll ys = true ∧ PyData.depthAll ys ≤ 40 := by
  unfold memOk at h
  rw [Bool.and_eq_true, Bool.and_eq_true, decide_eq_true_eq] at h
  exact ⟨(okD_some h.1.1).1, (okD_some h.1.1).2, h.1.2, h.2⟩
theorem op_inP (hu : X.A.units + 64 < cLine) : OpR X (compareOp .In) (rInP X.K false) := by
  intro pins s σ H x y v u Q I rx ry h
  obtain ⟨p, xs, d, ds, rfl, hs, ha, hd, ok, q⟩ := h
  obtain ⟨k1, k2, k3, k4⟩ := memOk_some ok
  obtain ⟨bs, r2⟩ := Dp.reads I d x v hd rx
  rcases hs with hs | hs
  · obtain ⟨as, r1⟩ := Dp.reads I (.list ds) (.ref p) u (.lst hs ha) ry
    exact PySem.SeqAt.in_list_data r1 r2 k3 k1 (by omega) ⟨.bl _, H, I, rfl, q⟩
  · obtain ⟨as, r1⟩ := Dp.reads I (.tuple ds) (.ref p) u (.tup hs ha) ry
    exact PySem.SeqAt.in_tuple_data r1 r2 k3 k1 (by omega) ⟨.bl _, H, I, rfl, q⟩
theorem op_ninP (hu : X.A.units + 64 < cLine) : OpR X (compareOp .NotIn) (rInP X.K true) := by
  intro pins s σ H x y v u Q I rx ry h
  obtain ⟨p, xs, d, ds, rfl, hs, ha, hd, ok, q⟩ := h
  obtain ⟨k1, k2, k3, k4⟩ := memOk_some ok
  obtain ⟨bs, r2⟩ := Dp.reads I d x v hd rx
  rcases hs with hs | hs
  · obtain ⟨as, r1⟩ := Dp.reads I (.list ds) (.ref p) u (.lst hs ha) ry
    exact PySem.SeqAt.notIn_list_data r1 r2 k3 k1 (by omega) ⟨.bl _, H, I, rfl, q⟩
  · obtain ⟨as, r1⟩ := Dp.reads I (.tuple ds) (.ref p) u (.tup hs ha) ry
    exact PySem.SeqAt.notIn_tuple_data r1 r2 k3 k1 (by omega) ⟨.bl _, H, I, rfl, q⟩
theorem one_sign {x : Str} (h : x.cps.size = 1) : x = ⟨#[x.cps.getD 0 0]⟩ := by
  obtain ⟨cps⟩ := x
  congr 1
  apply Array.ext
  · simpa using h
  · intro i h1 h2
    have : i = 0 := by simp at h2; omega
    subst this
    simp [Array.getD, h1]
theorem ob_in (hu : X.A.units + 64 < cLine) : OpB X (compareOp .In) inB := ⟨_, (op_inP hu).or op_in_sign, fun F x y a b c Q ra rb h q => by
  cases b with
  | list ys =>
    have h : (if memOk a ys then some (ys.any fun y => PyData.eqv y a) else none) = some c := by cases a <;> exact h
    by_cases k : memOk a ys = true
    · rw [if_pos k] at h
      cases h
      obtain ⟨k1, k2, k3, k4⟩ := memOk_some k
      obtain ⟨p, vs, rfl, hp, r⟩ := rb.list_inv
      exact .inl ⟨p, vs, a, ys, rfl, .inl (SqL.of hp), r.dp k3, ra.dp k1, k, q⟩
    · rw [if_neg k] at h
      cases h
  | tuple ys =>
    have h : (if memOk a ys then some (ys.any fun y => PyData.eqv y a) else none) = some c := by cases a <;> exact h
    by_cases k : memOk a ys = true
    · rw [if_pos k] at h
      cases h
      obtain ⟨k1, k2, k3, k4⟩ := memOk_some k
      obtain ⟨p, vs, rfl, hp, r⟩ := rb.tup_inv
      exact .inl ⟨p, vs, a, ys, rfl, .inr hp.sq, r.dp k3, ra.dp k1, k, q⟩
    · rw [if_neg k] at h
      cases h
  | str z =>
    cases a with
    | str x =>
      have h : (if x.cps.size = 1 then some (decide (x.cps.getD 0 0 ∈ z.cps.toList)) else none) = some c := h
      by_cases k : x.cps.size = 1
      · rw [if_pos k] at h
        cases h
        cases ra
        cases rb
        exact .inr ⟨x.cps.getD 0 0, z, by rw [← one_sign k], rfl, q⟩
      · rw [if_neg k] at h
        cases h
    | _ => cases h
  | _ => cases a <;> cases h⟩
theorem ob_nin (hu : X.A.units + 64 < cLine) : OpB X (compareOp .NotIn) ninB := ⟨_, op_ninP hu |>.or op_notIn_sign, fun F x y a b c Q ra rb h q => by
  unfold ninB at h
  cases b with
  | list ys =>
    have e : inB a (.list ys) = (if memOk a ys then some (ys.any fun y => PyData.eqv y a) else none) := by cases a <;> rfl
    rw [e] at h
    by_cases k : memOk a ys = true
    · rw [if_pos k] at h
      cases h
      obtain ⟨k1, k2, k3, k4⟩ := memOk_some k
      obtain ⟨p, vs, rfl, hp, r⟩ := rb.list_inv
      exact .inl ⟨p, vs, a, ys, rfl, .inl (SqL.of hp), r.dp k3, ra.dp k1, k, q⟩
    · rw [if_neg k] at h
      cases h
  | tuple ys =>
    have e : inB a (.tuple ys) = (if memOk a ys then some (ys.any fun y => PyData.eqv y a) else none) := by cases a <;> rfl
    rw [e] at h
    by_cases k : memOk a ys = true
    · rw [if_pos k] at h
      cases h
      obtain ⟨k1, k2, k3, k4⟩ := memOk_some k
      obtain ⟨p, vs, rfl, hp, r⟩ := rb.tup_inv
      exact .inl ⟨p, vs, a, ys, rfl, .inr hp.sq, r.dp k3, ra.dp k1, k, q⟩
    · rw [if_neg k] at h
      cases h
  | str z =>
    cases a with
    | str x =>
      have e : inB (.str x) (.str z) = (if x.cps.size = 1 then some (decide (x.cps.getD 0 0 ∈ z.cps.toList)) else none) := rfl
      rw [e] at h
      by_cases k : x.cps.size = 1
      · rw [if_pos k] at h
        cases h
        cases ra
        cases rb
        exact .inr ⟨x.cps.getD 0 0, z, by rw [← one_sign k], rfl, q⟩
      · rw [if_neg k] at h
        cases h
    | _ => cases h
  | _ => cases a <;> cases h⟩

/-! ### arithmetic -/
def addD : D → D → Option D
  | .int i, .int j => some (.int (i + j))
  | .tuple xs, .tuple ys => if xs.length + ys.length ≤ 16777216 then some (.tuple (xs ++ ys)) else none
  | .list xs, .list ys => if xs.length + ys.length ≤ 16777216 then some (.list (xs ++ ys)) else none
  | _, _ => none
def subD : D → D → Option D
  | .int i, .int j => some (.int (i - j))
  | _, _ => none
/-- one factor is small -/
def mulD : D → D → Option D
  | .int i, .int j => if (-(2 ^ 64) < i ∧ i < 2 ^ 64) ∨ (-(2 ^ 64) < j ∧ j < 2 ^ 64) then some (.int (i * j)) else none
  | .list xs, .int k => if 0 ≤ k ∧ k ≤ 100000 ∧ xs.length ≤ 100 then some (.list (List.replicate k.toNat xs).flatten) else none
  | _, _ => none
def divD : D → D → Option D
  | .int i, .int j => if 0 < j ∧ j < 1073741824 then some (.int (i / j)) else none
  | _, _ => none
def modD : D → D → Option D
  | .int i, .int j => if 0 < j then some (.int (i % j)) else none
  | _, _ => none
def powD : D → D → Option D
  | .int i, .int j => if 0 ≤ j ∧ (Builtin.Int.intBits i : Int) * j ≤ 2 ^ 27 then some (.int (i ^ j.toNat)) else none
  | _, _ => none
theorem od_int {f : Value → Value → Sem Value} {C : Int → Int → Prop} {p : Int → Int → Int} {g : D → D → Option D} (ho : OpR X f (rI C fun i j => .int (p i j))) (hg : ∀ a b c, g a b = some c → ∃ i j, a = .int i ∧ b = .int j ∧ C i j ∧ c = .int (p i j)) : OpD X f g := ⟨_, ho, fun H F x y a b d Q hE ra rb h k => by
  obtain ⟨i, j, rfl, rfl, c, rfl⟩ := hg a b d h
  cases ra
  cases rb
  exact ⟨i, j, rfl, rfl, c, k _ H F (.refl hE) (.int _)⟩⟩
theorem od_sub : OpD X (binaryOp .Sub) subD := ⟨_, op_sub, fun H F x y a b d Q hE ra rb h k => by
  cases a <;> cases b <;> try cases h
  cases ra
  cases rb
  exact ⟨_, _, rfl, rfl, k _ H F (.refl hE) (.int _)⟩⟩
theorem Rps.flat_rep {H : Hp} {vs : List V} {ds : List D} (r : Rps H vs ds) : ∀ k : Nat, Rps H (List.replicate k vs).flatten (List.replicate k ds).flatten
  | 0 => .nil
  | k + 1 => by
    rw [List.replicate_succ, List.replicate_succ, List.flatten_cons, List.flatten_cons]
    exact r.append (r.flat_rep k)
theorem od_mul : OpD X (binaryOp .Mult) mulD := ⟨_, op_mul.or op_rep, fun H F x y a b d Q hE ra rb h k => by
  cases b with
  | int j =>
    cases rb
    cases a with
    | int i =>
      cases ra
      have h : (if (-(2 ^ 64) < i ∧ i < 2 ^ 64) ∨ (-(2 ^ 64) < j ∧ j < 2 ^ 64) then some (PyData.int (i * j)) else none) = some d := h
      by_cases c : (-(2 ^ 64) < i ∧ i < 2 ^ 64) ∨ (-(2 ^ 64) < j ∧ j < 2 ^ 64)
      · rw [if_pos c] at h
        cases h
        exact .inl ⟨i, j, rfl, rfl, c, k _ H F (.refl hE) (.int _)⟩
      · rw [if_neg c] at h
        cases h
    | list xs =>
      have h : (if 0 ≤ j ∧ j ≤ 100000 ∧ xs.length ≤ 100 then some (PyData.list (List.replicate j.toNat xs).flatten) else none) = some d := h
      by_cases c : 0 ≤ j ∧ j ≤ 100000 ∧ xs.length ≤ 100
      · rw [if_pos c] at h
        cases h
        obtain ⟨p, vs, rfl, hp, r⟩ := ra.list_inv
        have hl := r.length
        refine .inr ⟨p, j, vs, rfl, rfl, hE _ _ hp, by omega, by omega, ?_, fun q hq => ?_⟩
        · rw [sizeLine_eq]
          have : vs.length * j.toNat ≤ 100 * 100000 := Nat.mul_le_mul (by omega) (by omega)
          omega
        · have st : Stq H F (upd H q (.lst (List.replicate j.toNat vs).flatten)) (upd F q (.lst (List.replicate j.toNat vs).flatten)) := .new hE hq fun z => z
          exact k _ _ _ st (.lst upd_same ((r.flat_rep _).mono st.hh))
      · rw [if_neg c] at h
        cases h
    | _ => cases h
  | _ => cases a <;> cases h⟩
theorem od_div : OpD X (binaryOp .FloorDiv) divD := od_int op_fdiv fun a b c h => by
  cases a <;> cases b <;> try cases h
  rename_i i j
  have h : (if 0 < j ∧ j < 1073741824 then some (PyData.int (i / j)) else none) = some c := h
  by_cases k : 0 < j ∧ j < 1073741824
  · rw [if_pos k] at h
    cases h
    exact ⟨i, j, rfl, rfl, k, rfl⟩
  · rw [if_neg k] at h
    cases h
theorem od_mod : OpD X (binaryOp .Mod) modD := od_int op_mod fun a b c h => by
  cases a <;> cases b <;> try cases h
  rename_i i j
  have h : (if 0 < j then some (PyData.int (i % j)) else none) = some c := h
  by_cases k : 0 < j
  · rw [if_pos k] at h
    cases h
    exact ⟨i, j, rfl, rfl, k, rfl⟩
  · rw [if_neg k] at h
    cases h
theorem op_powW : OpR X (binaryOp .Pow) (rI (fun i j => 0 ≤ j ∧ (Builtin.Int.intBits i : Int) * j ≤ 2 ^ 27) fun i j => .int (i ^ j.toNat)) := opI fun _ _ _ _ _ _ _ hc q => pow_int hc.1 hc.2 q
theorem od_pow : OpD X (binaryOp .Pow) powD := od_int op_powW fun a b c h => by
  cases a <;> cases b <;> try cases h
  rename_i i j
  have h : (if 0 ≤ j ∧ (Builtin.Int.intBits i : Int) * j ≤ 2 ^ 27 then some (PyData.int (i ^ j.toNat)) else none) = some c := h
  by_cases k : 0 ≤ j ∧ (Builtin.Int.intBits i : Int) * j ≤ 2 ^ 27
  · rw [if_pos k] at h
    cases h
    exact ⟨i, j, rfl, rfl, k, rfl⟩
  · rw [if_neg k] at h
    cases h
theorem od_add : OpD X (binaryOp .Add) addD := ⟨_, op_add.or (op_catP.or op_cat), fun H F x y a b d Q hE ra rb h k => by
  cases a with
  | int i =>
    cases b with
    | int j =>
      cases h
      cases ra
      cases rb
      exact .inl ⟨i, j, rfl, rfl, k _ H F (.refl hE) (.int _)⟩
    | _ => cases h
  | tuple xs =>
    cases b with
    | tuple ys =>
      have h : (if xs.length + ys.length ≤ 16777216 then some (PyData.tuple (xs ++ ys)) else none) = some d := h
      by_cases c : xs.length + ys.length ≤ 16777216
      · rw [if_pos c] at h
        cases h
        have ra' := ra
        have rb' := rb
        obtain ⟨p, vs, rfl, hp, r⟩ := ra.tup_inv
        obtain ⟨q, ws, rfl, hq, r2⟩ := rb.tup_inv
        refine .inr (.inl ⟨p, q, vs, ws, rfl, rfl, (hp.mono hE).sq, (hq.mono hE).sq, by rw [sizeLine_eq, r.length, r2.length]; exact c, fun e => ?_, fun _ e => ?_, fun _ _ o ob ho hd => ?_⟩)
        · subst e
          cases r
          exact k _ H F (.refl hE) rb'
        · subst e
          cases r2
          rw [List.append_nil] at k
          exact k _ H F (.refl hE) ra'
        · have st : Stq H F (upd H o (.frz ob (.tup (vs ++ ws)))) (upd F o (.frz ob (.tup (vs ++ ws)))) := .new hE ho fun z => z
          exact k _ _ _ st (.tup (.new hd) ((r.append r2).mono st.hh))
      · rw [if_neg c] at h
        cases h
    | _ => cases h
  | list xs =>
    cases b with
    | list ys =>
      have h : (if xs.length + ys.length ≤ 16777216 then some (PyData.list (xs ++ ys)) else none) = some d := h
      by_cases c : xs.length + ys.length ≤ 16777216
      · rw [if_pos c] at h
        cases h
        obtain ⟨p, vs, rfl, hp, r⟩ := ra.list_inv
        obtain ⟨q, ws, rfl, hq, r2⟩ := rb.list_inv
        refine .inr (.inr ⟨p, q, vs, ws, rfl, rfl, hE _ _ hp, hE _ _ hq, by rw [sizeLine_eq, r.length, r2.length]; exact c, fun o ho => ?_⟩)
        have st : Stq H F (upd H o (.lst (vs ++ ws))) (upd F o (.lst (vs ++ ws))) := .new hE ho fun z => z
        exact k _ _ _ st (.lst upd_same ((r.append r2).mono st.hh))
      · rw [if_neg c] at h
        cases h
    | _ => cases h
  | _ => cases b <;> cases h⟩
def negD : D → Option D
  | .int i => some (.int (-i))
  | _ => none
theorem je_neg {S : Type} {T : Tie S} {ρ : List Sl} {m : M S D} {e : Expr} {pos : Pos} (h : JE X T e ρ m) : JE X T (.UnaryOp .USub e pos) ρ (B m fun x => L (negD x)) := ⟨fun {σ H F s d s'} hE hR hA hm Q k => by
  obtain ⟨x, s1, m1, hm⟩ := B_some hm
  obtain ⟨hg, rfl⟩ := L_some hm
  refine sE_of (pe_un un_neg (pE X e)) (h.run hE hR hA m1 _ fun v H1 F1 st1 a1 r1 => ?_)
  cases x with
  | int i => cases hg; cases r1; exact ⟨i, rfl, k _ H1 F1 st1 a1 (.int _)⟩
  | _ => cases hg⟩
end
end DL

set_option Elab.async false
set_option linter.all false
set_option maxRecDepth 100000
set_option maxHeartbeats 2000000
/-! DLMore: built-ins, methods. -/
namespace DL
open PySem PySem.Spec PyProof.Rows L2
theorem Rvs.one {T : Addr → Prop} {H F : Hp} {vs : List V} {d : D} (h : Rvs T H F vs [d]) : ∃ v, vs = [v] ∧ Rv T H F v d := by
  cases h with
  | cons h1 h2 => cases h2; exact ⟨_, rfl, h1⟩
theorem Rvs.two {T : Addr → Prop} {H F : Hp} {vs : List V} {d e : D} (h : Rvs T H F vs [d, e]) : ∃ v w, vs = [v, w] ∧ Rv T H F v d ∧ Rv T H F w e := by
  cases h with
  | cons h1 h2 => obtain ⟨w, rfl, h3⟩ := h2.one; exact ⟨_, _, rfl, h1, h3⟩
def intsOf : List D → Option (List Int)
  | [] => some []
  | .int i :: r => (intsOf r).map (i :: ·)
  | _ => none
theorem intsOf_some : ∀ {ds : List D} {ns : List Int}, intsOf ds = some ns → ds = ns.map .int
  | [], _, h => by cases h; rfl
  | .int i :: r, ns, h => by
    have h : (intsOf r).map (i :: ·) = some ns := h
    cases e : intsOf r with
    | none => rw [e] at h; cases h
    | some ms => rw [e] at h; cases h; rw [intsOf_some e]; rfl
  | .none :: _, _, h => nomatch h
  | .bool _ :: _, _, h => nomatch h
  | .str _ :: _, _, h => nomatch h
  | .list _ :: _, _, h => nomatch h
  | .tuple _ :: _, _, h => nomatch h
  | .dict _ :: _, _, h => nomatch h
theorem intsOf_ints : ∀ ns : List Int, intsOf (ns.map .int) = some ns
  | [] => rfl
  | n :: ns => by
    show (intsOf (ns.map .int)).map (n :: ·) = _
    rw [intsOf_ints ns]; rfl
def strsOf : List D → Option (List Str)
  | [] => some []
  | .str i :: r => (strsOf r).map (i :: ·)
  | _ => none
theorem strsOf_some : ∀ {ds : List D} {ns : List Str}, strsOf ds = some ns → ds = ns.map .str
  | [], _, h => by cases h; rfl
  | .str i :: r, ns, h => by
    have h : (strsOf r).map (i :: ·) = some ns := h
    cases e : strsOf r with
    | none => rw [e] at h; cases h
    | some ms => rw [e] at h; cases h; rw [strsOf_some e]; rfl
  | .none :: _, _, h => nomatch h
  | .bool _ :: _, _, h => nomatch h
  | .int _ :: _, _, h => nomatch h
  | .list _ :: _, _, h => nomatch h
  | .tuple _ :: _, _, h => nomatch h
  | .dict _ :: _, _, h => nomatch h
theorem strsOf_strs : ∀ ns : List Str, strsOf (ns.map .str) = some ns
  | [] => rfl
  | n :: ns => by
    show (strsOf (ns.map .str)).map (n :: ·) = _
    rw [strsOf_strs ns]; rfl
section
variable {X : Cx}
/-! ### len -/
def lenD : List D → Option D
  | [.list xs] => some (.int xs.length)
  | [.tuple xs] => some (.int xs.length)
  | [.str x] => if x.length ≤ 16777216 then some (.int x.length) else none
  | _ => none
theorem cd_len : CallD X (.builtin "len") lenD := ⟨_, call_len, fun T H F vs ds d Q hE r h k => by
  unfold lenD at h
  split at h
  · cases h
    obtain ⟨v, rfl, rv⟩ := r.one
    obtain ⟨a, ws, rfl, rw', hh⟩ := rv.seq (K := X.K) hE (ds := _) rfl
    refine ⟨_, _, rfl, ?_, k _ H F (.refl hE) (.int _)⟩
    rcases hh with ⟨_, hh⟩ | ⟨z, _⟩
    · exact .inl ⟨ws, SqL.of hh, rw'.length.symm⟩
    · cases z
  · cases h
    obtain ⟨v, rfl, rv⟩ := r.one
    obtain ⟨a, ws, rfl, rw', hh⟩ := rv.seq (K := X.K) hE (ds := _) rfl
    refine ⟨_, _, rfl, ?_, k _ H F (.refl hE) (.int _)⟩
    rcases hh with ⟨z, _⟩ | ⟨_, hh, _⟩
    · cases z
    · exact .inr ⟨ws, hh.sq, rw'.length.symm⟩
  · rename_i x
    split at h
    · rename_i hl
      cases h
      obtain ⟨v, rfl, rv⟩ := r.one
      have rf := rv.full hE
      cases rf
      exact ⟨_, x.length, rfl, ⟨by rw [sizeLine_eq]; exact hl, rfl⟩, k _ H F (.refl hE) (.int _)⟩
    · cases h
  · cases h⟩
/-! ### any, all -/
def biB : D → Bool
  | .bool _ => true
  | .int _ => true
  | _ => false
theorem bi_plain : ∀ {ds : List D}, ds.all biB = true → PyData.plainAll ds = true
  | [], _ => rfl
  | d :: ds, h => by
    rw [List.all_cons, Bool.and_eq_true] at h
    have i := bi_plain h.2
    cases d <;> first | (cases h.1; done) | simpa [PyData.plainAll, PyData.plain] using i
theorem bi_fits : ∀ {ds : List D}, ds.all biB = true → ∀ x ∈ ds, x.fits63
  | d :: ds, h, x, hx => by
    rw [List.all_cons, Bool.and_eq_true] at h
    rcases List.mem_cons.mp hx with rfl | hx
    · cases x <;> first | (cases h.1; done) | (simp [PyData.fits63])
    · exact bi_fits h.2 x hx
def rBi (K : PySem.W.Frag) (p : List D → Bool) : List V → Hp → VK → Prop := fun xs H Q => ∃ a vs ds, xs = [.ref a] ∧ (SqL K H a vs ∨ SqT K H a vs) ∧ DpAll K H vs ds ∧ ds.all biB = true ∧ Q (.bl (p ds)) H
theorem call_allP (hc : X.calm = true) : CallR X (.builtin "all") (rBi X.K fun ds => ds.all PyData.truthy) := by
  intro pins s σ H xs us Q I r h
  obtain ⟨p, vs, ds, rfl, hs, ha, ok, q⟩ := h
  rw [Vals.ref1 r]
  rcases hs with hs | hs
  · obtain ⟨its, rv, pl, hz⟩ := I.list hs
    obtain ⟨as, hr⟩ := Dp.readsAll I ds vs its ha rv
    exact PySem.W.all_list_data (I.ok.hd hc) pl.isList (by simpa using hr) (bi_plain ok) (bi_fits ok) fun h' tk k => ⟨.bl _, H, I.kept k, rfl, q⟩
  · obtain ⟨its, rv, pl, hz⟩ := I.tuple hs
    obtain ⟨as, hr⟩ := Dp.readsAll I ds vs its ha rv
    exact PySem.W.all_tuple_data (I.ok.hd hc) pl (by simpa using hr) (bi_plain ok) (bi_fits ok) fun h' tk k => ⟨.bl _, H, I.kept k, rfl, q⟩
theorem call_anyP (hc : X.calm = true) : CallR X (.builtin "any") (rBi X.K fun ds => ds.any PyData.truthy) := by
  intro pins s σ H xs us Q I r h
  obtain ⟨p, vs, ds, rfl, hs, ha, ok, q⟩ := h
  rw [Vals.ref1 r]
  rcases hs with hs | hs
  · obtain ⟨its, rv, pl, hz⟩ := I.list hs
    obtain ⟨as, hr⟩ := Dp.readsAll I ds vs its ha rv
    exact PySem.W.any_list_data (I.ok.hd hc) pl.isList (by simpa using hr) (bi_plain ok) (bi_fits ok) fun h' tk k => ⟨.bl _, H, I.kept k, rfl, q⟩
  · obtain ⟨its, rv, pl, hz⟩ := I.tuple hs
    obtain ⟨as, hr⟩ := Dp.readsAll I ds vs its ha rv
    exact PySem.W.any_tuple_data (I.ok.hd hc) pl (by simpa using hr) (bi_plain ok) (bi_fits ok) fun h' tk k => ⟨.bl _, H, I.kept k, rfl, q⟩
def seq1 (f : List D → Option D) : List D → Option D
  | [x] => (seqD x).bind f
  | _ => none
theorem seq1_some {f : List D → Option D} {ds : List D} {d : D} (h : seq1 f ds = some d) : ∃ x xs, ds = [x] ∧ seqD x = some xs ∧ f xs = some d := by
  unfold seq1 at h
  split at h
  · rename_i x
    cases e : seqD x with
    | none => rw [e] at h; cases h
    | some xs => rw [e] at h; exact ⟨x, xs, rfl, e, h⟩
  · cases h
def biD (p : List D → Bool) (xs : List D) : Option D := if xs.all biB then some (.bool (p xs)) else none
def allD : List D → Option D := seq1 (biD fun ds => ds.all PyData.truthy)
def anyD : List D → Option D := seq1 (biD fun ds => ds.any PyData.truthy)
theorem cd_bi {id : String} {p : List D → Bool} (hc : CallR X (.builtin id) (rBi X.K p)) : CallD X (.builtin id) (seq1 (biD p)) := ⟨_, hc, fun T H F vs ds d Q hE r h k => by
  obtain ⟨x, xs, rfl, hx, hf⟩ := seq1_some h
  unfold biD at hf
  split at hf
  · rename_i ok
    cases hf
    obtain ⟨v, rfl, rv⟩ := r.one
    obtain ⟨a, ws, rfl, rw', hh⟩ := rv.seq (K := X.K) hE hx
    refine ⟨a, ws, xs, rfl, ?_, (rw'.mono hE).dp (bi_plain ok), ok, k _ H F (.refl hE) (.bl _)⟩
    rcases hh with ⟨_, hh⟩ | ⟨_, hh, _⟩
    · exact .inl (SqL.of hh)
    · exact .inr (hh.sq)
  · cases hf⟩
theorem cd_all (hc : X.calm = true) : CallD X (.builtin "all") allD := cd_bi (call_allP hc)
theorem cd_any (hc : X.calm = true) : CallD X (.builtin "any") anyD := cd_bi (call_anyP hc)
/-! ### min, max -/
def mmOk (xs : List D) : Bool := (xs.all fun x => xs.all fun y => PySem.W.alike x y) && (xs.all fun x => !isN x) && PyData.plainAll xs && decide (PyData.depthAll xs ≤ 40)
theorem mmOk_some {xs : List D} (h : mmOk xs = true) : PySem.W.AlikeAll xs ∧ PyData.plainAll xs = true ∧ PyData.depthAll xs ≤ 40 := by
  unfold mmOk at h
  simp only [Bool.and_eq_true, decide_eq_true_eq, List.all_eq_true] at h
  refine ⟨⟨h.1.1.1, fun x hx e => ?_⟩, h.1.2, h.2⟩
  have := h.1.1.2 x hx
  rw [e] at this
  cases this
def rMM (K : PySem.W.Frag) (g : D → List D → D) : List V → Hp → VK → Prop := fun xs H Q => ∃ a vs x ds, xs = [.ref a] ∧ (SqL K H a vs ∨ SqT K H a vs) ∧ DpAll K H vs (x :: ds) ∧ mmOk (x :: ds) = true ∧ ∀ (i : Nat) (v : V), vs[i]? = some v → (x :: ds)[i]? = some (g x ds) → Q v H
theorem mm_end {pins : List (Addr × Obj)} {s : Shared} {σ : L2.St} {H : Hp} {vs : List V} {its : List Value} {x m : D} {ds : List D} {as : List Addr} {Q : VK} (I : Inv X pins σ H s) (rv : Vals vs its) (hr : ReadsAll s.heap its (x :: ds) as)
    (q : ∀ (i : Nat) (v : V), vs[i]? = some v → (x :: ds)[i]? = some m → Q v H) (i : Nat) (v : Value) (h' : Heap) (tk : Nat) (bs : List Addr) (hv : its.toArray[i]? = some v) (hm : Reads h' v m bs) (k : ∀ b o, s.heap.get? b = some o → h'.get? b = some o) : EP X pins σ Q v { s with heap := h', toks := tk } := by
  have hv' : its[i]? = some v := by simpa using hv
  obtain ⟨cs, r1, hi, _, _⟩ := PySem.W.readsAll_at hr i v hv'
  have e := (PyProof.Rows.reads_det (fun b o z _ => k b o z) r1 hm).1
  have hl := rv.length
  have hil : i < its.length := by
    rcases List.getElem?_eq_some_iff.mp hv' with ⟨z, _⟩
    exact z
  have hx : vs[i]? = some vs[i] := List.getElem?_eq_getElem (by omega)
  obtain ⟨u, hu, ru⟩ := rv.get hx
  have eu : u = v := Option.some.inj (hu.symm.trans hv')
  subst eu
  refine ⟨vs[i], H, I.kept k, ru, q i _ hx ?_⟩
  rw [e, List.getD_eq_getElem?_getD, List.getElem?_eq_getElem hi]
  rfl
theorem call_minP (hc : X.calm = true) (hu : X.A.units + 64 < cLine) : CallR X (.builtin "min") (rMM X.K PySem.W.minD) := by
  intro pins s σ H xs us Q I r h
  obtain ⟨p, vs, x, ds, rfl, hs, ha, ok, q⟩ := h
  obtain ⟨k1, k2, k3⟩ := mmOk_some ok
  rw [Vals.ref1 r]
  rcases hs with hs | hs
  · obtain ⟨its, rv, pl, hz⟩ := I.list hs
    obtain ⟨as, hr⟩ := Dp.readsAll I _ vs its ha rv
    exact PySem.W.min_list_data (I.ok.hd hc) pl.isList (by simpa using hr) k1 (by omega) fun i v h' tk bs hv hm k => mm_end I rv hr q i v h' tk bs hv hm k
  · obtain ⟨its, rv, pl, hz⟩ := I.tuple hs
    obtain ⟨as, hr⟩ := Dp.readsAll I _ vs its ha rv
    exact PySem.W.min_tuple_data (I.ok.hd hc) pl (by simpa using hr) k1 (by omega) fun i v h' tk bs hv hm k => mm_end I rv hr q i v h' tk bs hv hm k
theorem call_maxP (hc : X.calm = true) (hu : X.A.units + 64 < cLine) : CallR X (.builtin "max") (rMM X.K PySem.W.maxD) := by
  intro pins s σ H xs us Q I r h
  obtain ⟨p, vs, x, ds, rfl, hs, ha, ok, q⟩ := h
  obtain ⟨k1, k2, k3⟩ := mmOk_some ok
  rw [Vals.ref1 r]
  rcases hs with hs | hs
  · obtain ⟨its, rv, pl, hz⟩ := I.list hs
    obtain ⟨as, hr⟩ := Dp.readsAll I _ vs its ha rv
    exact PySem.W.max_list_data (I.ok.hd hc) pl.isList (by simpa using hr) k1 (by omega) fun i v h' tk bs hv hm k => mm_end I rv hr q i v h' tk bs hv hm k
  · obtain ⟨its, rv, pl, hz⟩ := I.tuple hs
    obtain ⟨as, hr⟩ := Dp.readsAll I _ vs its ha rv
    exact PySem.W.max_tuple_data (I.ok.hd hc) pl (by simpa using hr) k1 (by omega) fun i v h' tk bs hv hm k => mm_end I rv hr q i v h' tk bs hv hm k
def mmD (g : D → List D → D) : List D → Option D
  | [] => none
  | x :: ds => if mmOk (x :: ds) then some (g x ds) else none
theorem cd_mm {id : String} {g : D → List D → D} (hc : CallR X (.builtin id) (rMM X.K g)) : CallD X (.builtin id) (seq1 (mmD g)) := ⟨_, hc, fun T H F vs ds d Q hE r h k => by
  obtain ⟨x, xs, rfl, hx, hf⟩ := seq1_some h
  cases xs with
  | nil => cases hf
  | cons y ys =>
    have hf : (if mmOk (y :: ys) then some (g y ys) else none) = some d := hf
    split at hf
    · rename_i ok
      cases hf
      obtain ⟨v, rfl, rv⟩ := r.one
      obtain ⟨a, ws, rfl, rw', hh⟩ := rv.seq (K := X.K) hE hx
      refine ⟨a, ws, y, ys, rfl, ?_, (rw'.mono hE).dp (mmOk_some ok).2.1, ok, fun i v hv hi => ?_⟩
      · rcases hh with ⟨_, hh⟩ | ⟨_, hh, _⟩
        · exact .inl (SqL.of hh)
        · exact .inr (hh.sq)
      · obtain ⟨w, hw, rw2⟩ := rw'.get hi
        have e : w = v := Option.some.inj (hw.symm.trans hv)
        subst e
        exact k _ H F (.refl hE) rw2
    · cases hf⟩
def minL : List D → Option D := seq1 (mmD PySem.W.minD)
def maxL : List D → Option D := seq1 (mmD PySem.W.maxD)
theorem cd_min (hc : X.calm = true) (hu : X.A.units + 64 < cLine) : CallD X (.builtin "min") minL := cd_mm (call_minP hc hu)
theorem cd_max (hc : X.calm = true) (hu : X.A.units + 64 < cLine) : CallD X (.builtin "max") maxL := cd_mm (call_maxP hc hu)
/-! ### min and max of two ints, abs, int, sum, sorted, str -/
def min2L : List D → Option D
  | [.int i, .int j] => some (.int (if j < i then j else i))
  | _ => none
def max2L : List D → Option D
  | [.int i, .int j] => some (.int (if j > i then j else i))
  | _ => none
theorem cd_min2 (hc : X.calm = true) : CallD X (.builtin "min") min2L := ⟨_, call_min2 hc, fun T H F vs ds d Q hE r h k => by
  unfold min2L at h
  split at h
  · cases h
    obtain ⟨v, w, rfl, r1, r2⟩ := r.two
    have r1 := r1.full hE
    have r2 := r2.full hE
    cases r1
    cases r2
    exact ⟨_, _, rfl, k _ H F (.refl hE) (.int _)⟩
  · cases h⟩
theorem cd_max2 (hc : X.calm = true) : CallD X (.builtin "max") max2L := ⟨_, call_max2 hc, fun T H F vs ds d Q hE r h k => by
  unfold max2L at h
  split at h
  · cases h
    obtain ⟨v, w, rfl, r1, r2⟩ := r.two
    have r1 := r1.full hE
    have r2 := r2.full hE
    cases r1
    cases r2
    exact ⟨_, _, rfl, k _ H F (.refl hE) (.int _)⟩
  · cases h⟩
def absL : List D → Option D
  | [.int i] => some (.int (if i < 0 then -i else i))
  | _ => none
theorem cd_abs : CallD X (.builtin "abs") absL := ⟨_, call_abs, fun T H F vs ds d Q hE r h k => by
  unfold absL at h
  split at h
  · cases h
    obtain ⟨v, rfl, r1⟩ := r.one
    have r1 := r1.full hE
    cases r1
    exact ⟨_, rfl, k _ H F (.refl hE) (.int _)⟩
  · cases h⟩
def intL : List D → Option D
  | [.int i] => some (.int i)
  | [.bool b] => some (.int (if b then 1 else 0))
  | [.str a] => if a.length ≤ 640 then (PySem.intText? a).map .int else none
  | _ => none
theorem cd_int : CallD X (.type "int") intL := ⟨_, call_int1.or call_int_str, fun T H F vs ds d Q hE r h k => by
  unfold intL at h
  split at h
  · cases h
    obtain ⟨v, rfl, r1⟩ := r.one
    have r1 := r1.full hE
    cases r1
    exact .inl (.inl ⟨_, rfl, k _ H F (.refl hE) (.int _)⟩)
  · cases h
    obtain ⟨v, rfl, r1⟩ := r.one
    have r1 := r1.full hE
    cases r1
    exact .inl (.inr ⟨_, rfl, k _ H F (.refl hE) (.int _)⟩)
  · rename_i a
    split at h
    · rename_i hl
      obtain ⟨v, rfl, r1⟩ := r.one
      have r1 := r1.full hE
      cases r1
      cases e : PySem.intText? a with
      | none => rw [e] at h; cases h
      | some n => rw [e] at h; cases h; exact .inr ⟨_, _, rfl, e, hl, k _ H F (.refl hE) (.int _)⟩
    · cases h
  · cases h⟩
def sumL : List D → Option D
  | [.list xs] => (intsOf xs).map fun ns => .int ns.sum
  | _ => none
theorem cd_sum (hc : X.calm = true) : CallD X (.builtin "sum") sumL := ⟨_, cr_sum hc, fun T H F vs ds d Q hE r h k => by
  unfold sumL at h
  split at h
  · rename_i xs
    cases e : intsOf xs with
    | none => rw [e] at h; cases h
    | some ns =>
      rw [e] at h
      cases h
      have e2 := intsOf_some e
      subst e2
      obtain ⟨v, rfl, rv⟩ := r.one
      obtain ⟨a, ws, rfl, rw', hh⟩ := rv.seq (K := X.K) hE (ds := _) rfl
      have ew := rw'.ints
      subst ew
      rcases hh with ⟨_, hh⟩ | ⟨z, _⟩
      · exact ⟨a, ns, rfl, SqL.of hh, k _ H F (.refl hE) (.int _)⟩
      · cases z
  · cases h⟩
def sortI (ns : List Int) : List Int := ns.mergeSort fun a b => decide (a ≤ b)
theorem sortI_eq {ns ms : List Int} (h : ms.Perm ns) (s : ms.Pairwise (· ≤ ·)) : ms = sortI ns := by
  have h2 : (sortI ns).Pairwise (· ≤ ·) := by
    have z := List.pairwise_mergeSort (le := fun a b : Int => decide (a ≤ b)) (by intro a b c; simp; omega) (by intro a b; simp; omega) ns
    simp only [decide_eq_true_eq] at z
    exact z
  exact List.Perm.eq_of_pairwise (fun a b _ _ h1 h2 => Int.le_antisymm h1 h2) s h2 (h.trans (List.mergeSort_perm ns _).symm)
def sortedL : List D → Option D
  | [.list xs] => (intsOf xs).map fun ns => .list ((sortI ns).map .int)
  | _ => none
theorem cd_sorted : CallD X (.builtin "sorted") sortedL := ⟨_, cr_sortedI, fun T H F vs ds d Q hE r h k => by
  unfold sortedL at h
  split at h
  · rename_i xs
    cases e : intsOf xs with
    | none => rw [e] at h; cases h
    | some ns =>
      rw [e] at h
      cases h
      have e2 := intsOf_some e
      subst e2
      obtain ⟨v, rfl, rv⟩ := r.one
      obtain ⟨a, ws, rfl, rw', hh⟩ := rv.seq (K := X.K) hE (ds := _) rfl
      have ew := rw'.ints
      subst ew
      rcases hh with ⟨_, hh⟩ | ⟨z, _⟩
      · refine ⟨a, ns, rfl, SqL.of hh, fun ns' p h1 h2 hp => ?_⟩
        have e3 := sortI_eq h1 h2
        subst e3
        have st : Stq H F (upd H p (.lst ((sortI ns).map V.int))) (upd F p (.lst ((sortI ns).map V.int))) := .new hE hp fun z => z
        exact k _ _ _ st (.lst upd_same (Rps.of_ints _))
      · cases z
  · cases h⟩
def strL : List D → Option D
  | [.int i] => if i.natAbs.log2 < 1920 then some (.str (toString i)) else none
  | _ => none
theorem cd_str : CallD X (.type "str") strL := ⟨_, call_str_int, fun T H F vs ds d Q hE r h k => by
  unfold strL at h
  split at h
  · split at h
    · rename_i hl
      cases h
      obtain ⟨v, rfl, r1⟩ := r.one
      have r1 := r1.full hE
      cases r1
      exact ⟨_, rfl, hl, k _ H F (.refl hE) (.str _)⟩
    · cases h
  · cases h⟩
/-! ### tuple(..), list(..) -/
def tupL : List D → Option D
  | [.list xs] => some (.tuple xs)
  | [.tuple xs] => some (.tuple xs)
  | _ => none
theorem cd_tuple : CallD X (.type "tuple") tupL := ⟨_, call_tupleP, fun T H F vs ds d Q hE r h k => by
  unfold tupL at h
  split at h
  · cases h
    obtain ⟨v, rfl, rv⟩ := r.one
    obtain ⟨a, ws, rfl, rw', hh⟩ := rv.seq (K := X.K) hE (ds := _) rfl
    rcases hh with ⟨_, hh⟩ | ⟨z, _⟩
    · refine ⟨a, ws, rfl, .inl ⟨SqL.of hh, fun l ob hl hd => ?_⟩⟩
      have st : Stq H F (upd H l (.frz ob (.tup ws))) (upd F l (.frz ob (.tup ws))) := .new hE hl fun z => z
      exact k _ _ _ st (.tup (.new hd) (rw'.mono st.hh))
    · cases z
  · cases h
    obtain ⟨v, rfl, rv⟩ := r.one
    obtain ⟨a, ws, rfl, rw', hh⟩ := rv.seq (K := X.K) hE (ds := _) rfl
    rcases hh with ⟨z, _⟩ | ⟨_, hh, h3⟩
    · cases z
    · exact ⟨a, ws, rfl, .inr ⟨hh.sq, k _ H F (.refl hE) (.tup h3 rw')⟩⟩
  · cases h⟩
def lstL : List D → Option D
  | [.list xs] => some (.list xs)
  | [.tuple xs] => some (.list xs)
  | _ => none
theorem cd_list : CallD X (.type "list") lstL := ⟨_, call_list_of, fun T H F vs ds d Q hE r h k => by
  have key : ∀ xs x, ds = [x] → seqD x = some xs → d = .list xs → ∃ p ys, vs = [.ref p] ∧ (SqL X.K F p ys ∨ SqT X.K F p ys) ∧ ∀ l, F l = none → Q (.ref l) (upd F l (.lst ys)) := fun xs x e1 e2 e3 => by
    subst e1 e3
    obtain ⟨v, rfl, rv⟩ := r.one
    obtain ⟨a, ws, rfl, rw', hh⟩ := rv.seq (K := X.K) hE e2
    refine ⟨a, ws, rfl, ?_, fun l hl => ?_⟩
    · rcases hh with ⟨_, hh⟩ | ⟨_, hh, _⟩
      · exact .inl (SqL.of hh)
      · exact .inr (hh.sq)
    · have st : Stq H F (upd H l (.lst ws)) (upd F l (.lst ws)) := .new hE hl fun z => z
      exact k _ _ _ st (.lst upd_same (rw'.mono st.hh))
  unfold lstL at h
  split at h
  · cases h; exact key _ _ rfl rfl rfl
  · cases h; exact key _ _ rfl rfl rfl
  · cases h⟩
end
end DL

set_option Elab.async false
set_option linter.all false
set_option maxRecDepth 100000
set_option maxHeartbeats 2000000
/-! DLRev: t[::-1] of a tuple, enumerate over a tuple. -/
namespace HT
open PySem PySem.Spec PyProof.Rows
section
variable {prog : Program} {w : World} {A : Around} {E : Value → Shared → Prop} {s : Shared}
theorem adjust_rev (n : Nat) : Builtin.Slice.sliceAdjust none none (-1) (n : Int) = ((n : Int) - 1, -1) := by
  unfold Builtin.Slice.sliceAdjust
  simp
theorem places_rev (n : Nat) : Builtin.Slice.slicePlaces ((n : Int) - 1) (-1) (-1) = n := by
  unfold Builtin.Slice.slicePlaces
  have h1 : ¬ ((-1 : Int) > 0) := by omega
  simp only [h1, if_false]
  by_cases h : (n : Int) - 1 > -1
  · simp only [h, if_true]
    rw [show (- -1 : Int) = 1 by decide, Int.ediv_one]
    omega
  · simp only [h, if_false]
    omega
theorem sliceApplied_rev {sl : Addr} {vl vu vs : Value} {n : Nat} {Q : Int × Int × Nat → Shared → Prop} (hs : s.heap.IsSliceOf sl vl vu vs) (pl : IsPart vl none) (pu : IsPart vu none) (ps : IsPart vs (some (-1)))
    (h : Q ((n : Int) - 1, -1, n) s) : wpAny (model prog w) A (Builtin.Slice.sliceApplied (.ref sl) (pure (n : Int))) Q E s := by
  obtain ⟨os, hos, hcs, hds⟩ := id hs
  unfold Builtin.Slice.sliceApplied Builtin.Slice.sliceFields
  refine wpAny_bind (wpAny_bind (wpAny_field hos hds (x := vl) rfl (wpAny_bind (wpAny_field hos hds (x := vu) rfl (wpAny_bind (wpAny_field hos hds (x := vs) rfl (wpAny_pure ?_)))))))
  refine wpAny_bind (slicePart_ ps ?_)
  show wpAny _ _ (if ((-1 : Int) == 0) = true then _ else _) _ _ s
  rw [if_neg (by decide)]
  refine wpAny_bind (slicePart_ pl (wpAny_bind (slicePart_ pu (wpAny_bind (wpAny_pure ?_)))))
  show wpAny _ _ (match Builtin.Slice.sliceAdjust none none (-1) (n : Int) with | (lo, hi) => pure (lo, (-1 : Int), Builtin.Slice.slicePlaces lo hi (-1))) _ _ s
  rw [adjust_rev n]
  show wpAny _ _ (pure ((n : Int) - 1, (-1 : Int), Builtin.Slice.slicePlaces ((n : Int) - 1) (-1) (-1))) _ _ s
  rw [places_rev]
  exact wpAny_pure h
theorem pick_rev (xs : Array Value) : ((List.range xs.size).filterMap fun (m : Nat) => xs[(((xs.size : Int) - 1) + (m : Int) * (-1)).toNat]?).toArray = xs.toList.reverse.toArray := by
  have e : ((List.range xs.size).filterMap fun (m : Nat) => xs[(((xs.size : Int) - 1) + (m : Int) * (-1)).toNat]?) = (((List.range xs.size).map fun k => xs.size - 1 - k).filterMap (xs[·]?)) := by
    rw [List.filterMap_map]
    congr 1
    funext m
    show _ = xs[xs.size - 1 - m]?
    congr 1
    omega
  rw [e, PySem.W.krv_range, List.filterMap_reverse, PySem.W.krv_all]
theorem getItem_tuple_rev {t sl : Addr} {items : Array Value} {vl vu vs : Value} {Q : Value → Shared → Prop} (ht : IsTup s.heap t items) (hs : s.heap.IsSliceOf sl vl vu vs) (pl : IsPart vl none) (pu : IsPart vu none) (ps : IsPart vs (some (-1)))
    (h : Q (.ref s.heap.objs.size) { s with heap := s.heap.push { cls := .type "tuple", data := .seq items.toList.reverse.toArray } })
    (hsz : items.size ≤ sizeLine) : wpAny (model prog w) A (getItem (.ref t) (.ref sl)) Q E s := by
  have htake : sizeOk (.seq items.toList.reverse.toArray) := by
    show items.toList.reverse.toArray.size ≤ sizeLine
    rw [List.size_toArray, List.length_reverse, Array.length_toList]
    exact hsz
  obtain ⟨os, hos, hcs, hds⟩ := id hs
  have hTs : s.TypeIs (.ref sl) "slice" := ⟨os, hos, hcs⟩
  unfold getItem
  try with_reducible refine wpAny_holding ?_
  first | refine wpAny_bind (wpAny_pure ?_) | skip
  refine wpAny_bind (wpAny_sequenceKey ht.typeIs (by decide) ?_)
  refine wpAny_bind (wpAny_callSpecial?_slot (name := Str.ofString "__getitem__") ht.typeIs PyProof.Rows.slot_tuple_getitem
    (wpAny_call_entry PyProof.Rows.slot_tuple_getitem ht.typeIs entry_tuple_getitem ?_ (args_tuple_getitem _ _)))
  show wpAny _ _ (Builtin.Tuple.tupleItemsOf (.ref t) >>= _) _ _ s
  refine wpAny_bind (tupleItemsOf_ ht ?_)
  refine wpAny_bind (wpAny_typeOf hTs ?_)
  rw [if_pos (by decide)]
  refine wpAny_bind (sliceApplied_rev hs pl pu ps ?_)
  have hno : ¬ ((((items.size : Int) - 1) == 0 && (-1 : Int) == 1 && items.size == items.size) = true) := by
    intro q
    rw [Bool.and_eq_true, Bool.and_eq_true] at q
    have q1 : (-1 : Int) = 1 := eq_of_beq q.1.2
    omega
  show wpAny _ _ (if (((items.size : Int) - 1) == 0 && (-1 : Int) == 1 && items.size == items.size) = true then _ else _) _ _ s
  rw [if_neg hno, pick_rev]
  first
    | exact wpAny_bind (m := Builtin.Tuple.tupleExact _) (wpAny_newObj_type (wpAny_pure ⟨_, rfl, wpAny_pure h⟩) htake)
    | exact wpAny_bind (m := Builtin.Tuple.tupleExact _) (wpAny_newObj_type (wpAny_bind (wpAny_pure (wpAny_pure ⟨_, rfl, wpAny_pure h⟩))) htake)
    | exact wpAny_bind (wpAny_bind (m := Builtin.Tuple.tupleExact _) (wpAny_newObj_type (wpAny_pure (wpAny_pure ⟨_, rfl, wpAny_pure h⟩)) htake))
    | exact wpAny_bind (wpAny_bind (m := Builtin.Tuple.tupleExact _) (wpAny_newObj_type (wpAny_pure ⟨_, rfl, wpAny_pure h⟩) htake))
end
end HT
namespace DL
open PySem PySem.Spec PyProof.Rows L2
def tRevT (K : PySem.W.Frag) (te : TE) : TE := fun σ H Q => te σ H fun x H1 => ∃ a xs, x = .ref a ∧ SqT K H1 a xs ∧ newT Q H1 xs.reverse
theorem pe_revT {X : Cx} {te : TE} {e : Expr} {k : Nat} {p1 p2 p3 pos : Pos} (he : PE X e te) : PE X (.Subscript e (.Slice none none (some (.UnaryOp .USub (.Constant (.int 1) k p1) p2)) p3) pos) (tRevT X.K te) := by
  refine ⟨fun pins s σ H Q I h => ?_⟩
  refine Subscript_ (thn (he.run pins s σ H _ I h) fun v s1 ⟨x, H1, I1, r1, q1⟩ => ?_)
  obtain ⟨a, xs, ex, hx, q⟩ := q1
  subst ex
  cases r1
  have hst : PO X (some (.UnaryOp .USub (.Constant (.int 1) k p1) p2)) (tPart (tUn (rU fun i => .int (-i)) (tC (.int 1)))) := po_some (pe_un un_neg pe_int)
  refine wpAny_Slice (thn (po_none.run pins s1 σ H1 (fun o H2 => o = none ∧ H2 = H1) I1 ⟨rfl, rfl⟩) fun vl s2 ⟨l, H2, I2, pl, el, e2⟩ => ?_)
  subst el e2
  refine thn (po_none.run pins s2 σ H2 (fun o H3 => o = none ∧ H3 = H2) I2 ⟨rfl, rfl⟩) fun vu s3 ⟨u, H3, I3, pu, eu, e3⟩ => ?_
  subst eu e3
  refine thn (hst.run pins s3 σ H3 (fun o H4 => o = some (-1) ∧ H4 = H3) I3 ⟨1, rfl, -1, rfl, rfl, rfl⟩) fun vs s4 ⟨o, H4, I4, ps, eo, e4⟩ => ?_
  subst eo e4
  have I5 : Inv X pins σ H4 { s4 with heap := s4.heap.push { cls := .type "slice", data := .fields #[vl, vu, vs] } } := I4.kept (t' := s4.toks) fun b ob q => Heap.get?_push_of_some _ q
  obtain ⟨its, r, ht, hz⟩ := I5.tuple hx
  have hlen := r.length
  show wpAny (model X.prog X.w) X.A (subscriptTail e (.Slice none none (some (.UnaryOp .USub (.Constant (.int 1) k p1) p2)) p3) (.ref a) (.ref s4.heap.objs.size)) (EP X pins σ Q) X.xe { s4 with heap := s4.heap.push { cls := .type "slice", data := .fields #[vl, vu, vs] } }
  refine tail_any (ops := [.ref a, .ref s4.heap.objs.size]) ht.typeIs (PyProof.Rows.slot_tuple_getitem.lookup) ?_ (by with_unfolding_all rfl)
  refine HT.getItem_tuple_rev ht (Heap.IsSliceOf.new _ vl vu vs) pl pu ps ?_ (by rw [List.size_toArray]; omega)
  exact new_tup I5 r.reverse (by rw [List.length_reverse]; exact hz) q
def revD : D → Option D
  | .tuple xs => some (.tuple xs.reverse)
  | _ => none
theorem je_revT {X : Cx} {S : Type} {T : Tie S} {ρ : List Sl} {m : M S D} {e : Expr} {k : Nat} {p1 p2 p3 pos : Pos} (h : JE X T e ρ m) : JE X T (.Subscript e (.Slice none none (some (.UnaryOp .USub (.Constant (.int 1) k p1) p2)) p3) pos) ρ (B m fun x => L (revD x)) := ⟨fun {σ H F s d s'} hE hR hA hm Q q => by
  obtain ⟨x, s1, m1, hm⟩ := B_some hm
  obtain ⟨hg, rfl⟩ := L_some hm
  refine sE_of (pe_revT (pE X e)) (h.run hE hR hA m1 _ fun v H1 F1 st1 a1 r1 => ?_)
  cases x with
  | tuple xs =>
    cases hg
    cases r1 with
    | @tup a vs _ ha r =>
      refine ⟨_, _, rfl, (ha.mono st1.hf).sq, fun p ob hp hd => ?_⟩
      have st : Stq H1 F1 (upd H1 p (.frz ob (.tup vs.reverse))) (upd F1 p (.frz ob (.tup vs.reverse))) := .new st1.hf hp fun z => z
      exact q _ _ _ (st1.trans (st.up a1)) (st.at a1) (.tup (.new hd) (r.reverse.mono st.hh))
  | _ => cases hg⟩
/-! ### enumerate over a tuple -/
theorem meets_enumB {v : Value} {o : Obj} {H : Heap → Prop} (B : Begins v o H) :
    Meets (Builtin.«enumerate.__new__» ⟨[.type "enumerate", v], []⟩) (fun _ R s => H s.heap ∧
      R (.ok (.ret (.ref (s.heap.push o).objs.size))) { s with heap := (s.heap.push o).push { cls := .type "enumerate", data := .fields #[.none, .bool false, .ref s.heap.objs.size, rawInt 0, .none, .none] } }) :=
  .of_wp fun prog w A R s h => by
    obtain ⟨hp, g, d, tk, os⟩ := s; obtain ⟨h1, h⟩ := h
    have hsub := sub_enumerate
    have q1 : ∀ {A' : Around} {E : Value → Shared → Prop} {Q : Value → Shared → Prop}, Q (.ref hp.objs.size) ⟨hp.push o, g, d, tk, os⟩ → wpAny (model prog w) A' (pyIter v) Q E ⟨hp, g, d, tk, os⟩ :=
      fun q => B.iter prog w _ _ ⟨hp, g, d, tk, os⟩ _ h1 q
    wp_walk using q1
    refine wpAny_stack_any fun st => wpAny_pure ?_
    split
    · rename_i c _ _ _ _ _
      cases (c == Value.type "enumerate")
      · wp_walk using q1
        exact ⟨_, rfl, h⟩
      · wp_walk using q1
        exact ⟨_, rfl, h⟩
    · wp_walk using q1
      exact ⟨_, rfl, h⟩
section
variable {prog : Program} {w : World} {A : Around} {E : Value → Shared → Prop} {s : Shared}
theorem call_enumB {v : Value} {o : Obj} {H : Heap → Prop} {Q : Value → Shared → Prop} (B : Begins v o H) (h1 : H s.heap)
    (h : ∀ h', IsEnum h' (s.heap.objs.size + 1) s.heap.objs.size 0 .none → h'.get? s.heap.objs.size = some o → h'.objs.size = s.heap.objs.size + 2 →
      (∀ b o, s.heap.get? b = some o → h'.get? b = some o) → Q (.ref (s.heap.objs.size + 1)) { s with heap := h' }) :
    wpAny (model prog w) A (call (.type "enumerate") [v]) Q E s := by
  refine callType_new F.called_enumerate (by decide) (F.typeCall_enumerate_1 _) (F.newCall_enumerate_1 _) (fun obj => F.args_object_init_2 obj _) F.entry_enumerate_new
    (meets_enumB B) ⟨h1, ?_⟩
  have hz : (s.heap.push o).objs.size = s.heap.objs.size + 1 := Heap.size_push ..
  show _ ∧ _
  rw [hz]
  have he : IsEnum ((s.heap.push o).push { cls := .type "enumerate", data := .fields #[.none, .bool false, .ref s.heap.objs.size, rawInt 0, .none, .none] }) (s.heap.objs.size + 1) s.heap.objs.size 0 .none := by
    have := Heap.get?_push_size (s.heap.push o) (o := { cls := .type "enumerate", data := .fields #[.none, .bool false, .ref s.heap.objs.size, rawInt 0, .none, .none] }) rfl
    rw [hz] at this; exact this
  refine ⟨⟨_, he, rfl⟩, h _ he (Heap.get?_push_of_some _ (Heap.get?_push_size _ B.free)) (by rw [Heap.size_push, hz]) fun b o x => Heap.get?_push_of_some _ (Heap.get?_push_of_some _ x)⟩
end
def IteT (K : PySem.W.Frag) (a : Addr) : It :=
  ⟨fun i H => ∃ (xs : List V) (x : V), SqT K H a xs ∧ xs[i]? = some x, fun i H v H' => ∃ T x, v = .ref T ∧ H T = none ∧ H' = upd H T (.tup [.int (i : Nat), x]) ∧ ∀ xs, SqT K H a xs → xs[i]? = some x, fun i H => ∃ xs : List V, SqT K H a xs ∧ xs.length = i⟩
theorem turn_enumT {P : Program} {w : World} {K : PySem.W.Frag} {elts : List Expr} {kk : Nat} {tpos : Pos} (a e it : Addr) :
    Turn P w K (.Tuple elts kk tpos) (IteT K a) [e, it] e (fun i h => (∃ old, IsEnum h e it ((i : Nat) : Int) old) ∧ h.IsTupleIter it a i ∧ e ≠ it ∧ e ≠ a ∧ a ≠ it) where
  mem := by simp
  obj := fun i h st b hb => by
    obtain ⟨⟨old, he⟩, ⟨o, ho, hc, hd⟩, _⟩ := st
    have e' : b = e ∨ b = it := by simpa using hb
    rcases e' with z | z
    · rw [z]; exact ⟨_, he, fun v q => nomatch q⟩
    · rw [z]; exact ⟨o, ho, fun v q => by rw [hd] at q; cases q⟩
  keep := fun i h h' st k => let ⟨⟨old, he⟩, hi, hne⟩ := st; ⟨⟨old, k e (by simp) _ he⟩, hi.at fun o q => k it (by simp) o q, hne⟩
  item := by
    intro X hP hw hK hc i pins s σ H E I hf st hg
    subst hP hw hK
    obtain ⟨⟨old, he⟩, hit, hne, hea, hai⟩ := st
    obtain ⟨xs, x, hq, hx⟩ := hg
    obtain ⟨its, rv, p, hz⟩ := I.tuple hq
    obtain ⟨u, hu, ru⟩ := rv.get hx
    have hel : e < s.heap.objs.size := Heap.lt_size he
    have hil : it < s.heap.objs.size := by obtain ⟨_, q, _⟩ := hit; exact Heap.lt_size q
    have hlt : i < its.toArray.size := by
      rcases List.getElem?_eq_some_iff.mp hu with ⟨z, _⟩
      simpa using z
    refine wpAny_pyNext_enum_itemD (Draws.tuple (A := X.A.in1) (I.ok.hd hc) it a hai its.toArray) he ⟨hit, p⟩ hlt hne (by simp [hne, hea]) fun u' h' tk hu' ho hst' hT hsz hk => ?_
    have eu : u' = u := by
      have z : its.toArray[i]? = some u' := hu'
      have z2 : its[i]? = some u' := by simpa using z
      exact Option.some.inj (z2.symm.trans hu)
    subst eu
    obtain ⟨hit', _⟩ := hst'
    refine ⟨_, rfl, wpAny_letOwnedTupleGo_enum (s := { s with heap := h', toks := tk + 1 }) ho fun h'' he' sb => ?_⟩
    have hT2 : h''.get? s.heap.objs.size = some { cls := .type "tuple", data := .seq #[.int i tk, u'] } := (sb.2 _ (Nat.ne_of_gt hel)).trans hT
    have new : ObjOk X.prog X.w (upd H s.heap.objs.size (.tup [.int (i : Nat), x])) h'' s.heap.objs.size (.tup [.int (i : Nat), x]) :=
      ⟨by show 2 ≤ sizeLine; decide, [.int i tk, u'], .cons ⟨_, rfl⟩ (.cons ru .nil), ⟨_, hT2, rfl, _, rfl⟩⟩
    have I1 : Inv X pins σ (upd H s.heap.objs.size (.tup [.int (i : Nat), x])) { s with heap := h'', toks := tk + 1 } :=
      I.turnedNew (ch := [e, it]) (fun b ob hb q => (sb.2 b (fun z => hb (by simp [z]))).trans (hk b ob (fun z => hb (by simp [z])) (fun z => hb (by simp [z])) q)) hf (Nat.le_refl _) new
    refine ⟨.ref s.heap.objs.size, _, I1, rfl, ⟨_, x, rfl, I.hok.fresh (Nat.le_refl _), rfl, fun ys hy => ?_⟩, ⟨⟨u', ?_⟩, hit'.at fun o q => (sb.2 it (Ne.symm hne)).trans q, hne, hea, hai⟩, fun b hb => ?_⟩
    · rw [I.tuple_inj hy hq]; exact hx
    · have e1 : ((i + 1 : Nat) : Int) = (i : Int) + 1 := by omega
      rw [e1]; exact he'
    · have hb' : b < s.heap.objs.size := by
        have e' : b = e ∨ b = it := by simpa using hb
        rcases e' with z | z
        · rw [z]; exact hel
        · rw [z]; exact hil
      rw [upd_ne (Nat.ne_of_lt hb')]
      exact (hf b hb).1
  done := by
    intro X hP hw hK hc i pins s σ H E I hf st hg
    subst hP hw hK
    obtain ⟨⟨old, he⟩, hit, hne, hea, hai⟩ := st
    obtain ⟨xs, hq, hx⟩ := hg
    obtain ⟨its, rv, p, hz⟩ := I.tuple hq
    obtain ⟨f0, f1, f2, f3, f4, f5⟩ := hf it (by simp)
    have hl := rv.length
    have hn : i = its.toArray.size := by rw [List.size_toArray]; omega
    subst hn
    exact wpAny_pyNext_enum_endD (Draws.tuple (A := X.A.in1) (I.ok.hd hc) it a hai its.toArray) he ⟨hit, p⟩ fun h' eb => ⟨rfl, I.turned (t' := s.toks) (fun b o hb q => eb b o hb q) f0 f1 f3 f4 f5⟩
  self := fun A i s Q E st h => let ⟨⟨_, he⟩, _⟩ := st; wpAny_pyIter_enum he h
def iEnumT (K : PySem.W.Frag) (ta : TA) : TI := fun σ H R => ta σ H fun vs H1 => ∃ a xs, vs = [.ref a] ∧ SqT K H1 a xs ∧ R (IteT K a) H1
theorem pi_enumT {X : Cx} {e : Expr} {ta : TA} {p pos tpos : Pos} {elts : List Expr} {kk : Nat} (hg : Gl X "enumerate") (hm : X.mg "enumerate" = none) (ha : PA X [e] ta) (hs : starEach [e] X.env = [(false, eval e X.env)] := by rfl) :
    PI X (.Tuple elts kk tpos) (.Call (.Name "enumerate" p) [e] [] pos) (iEnumT X.K ta) := by
  refine ⟨fun pins s σ H R I h => ?_⟩
  refine Call_ (ld_blt I hg hm boot_enumerate (PyProof.Rows.callWith_type1 (thn (ha.run pos pins s σ H _ I h) fun us s1 ⟨vs, H1, I1, r1, q1⟩ => ?_) hs rfl))
  obtain ⟨a, xs, ex, hq, q⟩ := q1
  subst ex
  cases r1 with
  | cons r rr =>
    cases rr
    cases r
    obtain ⟨its, rv, p', hz⟩ := I1.tuple hq
    refine call_enumB (begins_tuple a its.toArray) p' fun h' he hit hsz hk => wpAny_pyIter_enum he ?_
    have I2 : Inv X pins σ H1 { s1 with heap := h' } := I1.kept (t' := s1.toks) hk
    have hal : a < s1.heap.objs.size := by obtain ⟨_, q, _⟩ := p'; exact Heap.lt_size q
    have n1 : s1.heap.objs.size + 1 ≠ a := Ne.symm (Nat.ne_of_lt (Nat.lt_succ_of_lt hal))
    have n2 : a ≠ s1.heap.objs.size := Nat.ne_of_lt hal
    refine ⟨s1.heap.objs.size + 1, [s1.heap.objs.size + 1, s1.heap.objs.size], _, _, H1, rfl, I2, turn_enumT a (s1.heap.objs.size + 1) s1.heap.objs.size, ⟨⟨.none, he⟩, ⟨_, hit, rfl, rfl⟩, Nat.succ_ne_self _, n1, n2⟩, fun b hb => ?_, q⟩
    have e' : b = s1.heap.objs.size + 1 ∨ b = s1.heap.objs.size := by simpa using hb
    have hle : s1.heap.objs.size ≤ b := by
      rcases e' with z | z
      · rw [z]; exact Nat.le_add_right _ _
      · rw [z]; exact Nat.le_refl _
    exact I1.fpOk hle (I1.hok.fresh hle)
def enumTD : List D → Option (List D)
  | [.tuple xs] => some (enumL xs)
  | _ => none
theorem enumTD_some {ds r : List D} (h : enumTD ds = some r) : ∃ xs, ds = [.tuple xs] ∧ r = enumL xs := by
  unfold enumTD at h
  split at h
  · cases h
    exact ⟨_, rfl, rfl⟩
  · cases h
section
variable {X : Cx} {S : Type} {T : Tie S} {ρ : List Sl} {p pos : Pos}
theorem ji_enumT {a : Expr} {elts : List Expr} {kk : Nat} {tpos : Pos} {ma : M S (List D)} (hg : Gl X "enumerate") (hm : X.mg "enumerate" = none) (ha : JA X T [a] ρ (fun ds => L (enumTD ds)) ma)
    (hs : starEach [a] X.env = [(false, eval a X.env)] := by rfl) : JI X T (.Tuple elts kk tpos) (.Call (.Name "enumerate" p) [a] [] pos) ρ true ma := ⟨fun {σ H F s ds s'} hE hR hA hm' R k => by
  refine sI_of (pi_enumT hg hm (pA X _) hs) (ha.run hE hR hA hm' _ fun vs es s1 H1 F1 st1 a1 r1 hk => ?_)
  obtain ⟨hq, rfl⟩ := L_some hk
  obtain ⟨xs, rfl, rfl⟩ := enumTD_some hq
  obtain ⟨u, rfl, ru⟩ := r1.one
  obtain ⟨c, cs, rfl, hc, rc⟩ := ru.tup_inv
  refine ⟨c, cs, rfl, (hc.mono st1.hf).sq, k (fun _ => False) _ H1 F1 st1 a1 (fun _ h => h.elim) (fun _ _ h => h) ⟨fun i H2 F2 e1 e2 _ hi => ?_, fun H2 F2 e1 e2 _ => ?_, fun i H2 F2 x F3 e1 e2 _ hi y => ?_⟩⟩
  · rw [enumL_length] at hi
    have l1 := rc.length
    exact ⟨cs, cs[i]'(by omega), ((hc.mono e1).mono e2).sq, by simp [show i < cs.length by omega]⟩
  · rw [enumL_length]
    exact ⟨cs, ((hc.mono e1).mono e2).sq, rc.length⟩
  · obtain ⟨Tq, x1, rfl, nT, rfl, f1⟩ := y
    obtain ⟨y1, g1, q1⟩ := rc.getV (f1 cs (((hc.mono e1).mono e2).sq))
    obtain ⟨st, rp⟩ := new_pair e2 nT (.int (i : Nat)) (q1.mono e1)
    exact ⟨_, _, st, enumL_get g1, .inr ⟨rfl, rp⟩⟩⟩
end
end DL

set_option Elab.async false
set_option linter.all false
set_option maxRecDepth 100000
set_option maxHeartbeats 2000000
/-! DLMeth: isinstance, index, split, join, a text's signs, list(range(..)), dict, get. -/
namespace DL
open PySem PySem.Spec PyProof.Rows L2
def tyN : D → String
  | .none => "NoneType"
  | .bool _ => "bool"
  | .int _ => "int"
  | .str _ => "str"
  | .list _ => "list"
  | .tuple _ => "tuple"
  | .dict _ => "dict"
theorem Rp.tyx {K : PySem.W.Frag} {H : Hp} {v : V} {d : D} (r : Rp H v d) : TyX K H v (.type (tyN d)) := by
  cases r with
  | non => exact .base .non
  | bl b => exact .base (.bl b)
  | int i => exact .base (.int i)
  | str x => exact .base (.str x)
  | lst h _ => exact .base (.lst h)
  | tup h _ => obtain ⟨o, h, _⟩ := h; exact .fTuple h
  | dic h _ => exact .base (.dK h)
def isiD (c : String) (x : D) : Option D := (kitB (tyN x) c).map .bool
section
variable {X : Cx} {S : Type} {T : Tie S} {ρ : List Sl} {m mb : M S D} {e f : Expr} {p p2 pos apos : Pos}
theorem je_isi {ty : Str} {c : String} (h : JE X T e ρ m) (g1 : Gl X "isinstance") (m1 : X.mg "isinstance" = none) (g2 : Gl X ty) (m2 : X.mg ty = none) (hv : bootBuiltins ty = some (.type c)) (hn : ty ≠ "__name__" := by decide) (hd : (ty == ("__debug__" : Str)) = false := by decide)
    (he : starEach [e, .Name ty p2] X.env = (false, eval e X.env) :: starEach [.Name ty p2] X.env := by rfl) (hpl : (backTo pos (starEach [.Name ty p2] X.env)).any (·.1) = false := by rfl) :
    JE X T (.Call (.Name "isinstance" p) [e, .Name ty p2] [] pos) ρ (B m fun x => L (isiD c x)) := ⟨fun {σ H F s d s'} hE hR hA hm Q k => by
  obtain ⟨x, s1, h1, hm⟩ := B_some hm
  obtain ⟨hg, rfl⟩ := L_some hm
  refine sE_of (pe_callB call_isi g1 m1 boot_isinstance (pa_cons (pE X e) (pa_cons (pe_bltn g2 m2 hv (v := .ty c) rfl hn hd) pa_nil) he) (by decide) (by decide) he hpl) (h.run hE hR hA h1 _ fun v H1 F1 st1 a1 r1 => ?_)
  unfold isiD at hg
  cases kb : kitB (tyN x) c with
  | none => rw [kb] at hg; cases hg
  | some b =>
    rw [kb] at hg
    cases hg
    exact ⟨v, .ty c, .type (tyN x), .type c, b, rfl, .ty c, (r1.mono st1.hf).tyx, kit_ty kb, k _ H1 F1 st1 a1 (.bl _)⟩⟩
/-! ### index -/
def rIxI (K : PySem.W.Frag) : V → List V → Hp → VK → Prop := fun x xs H Q => ∃ (a : Addr) (ns : List Int) (k : Int), x = V.ref a ∧ xs = [V.int k] ∧ SqL K H a (ns.map V.int) ∧ k ∈ ns ∧ Q (.int (ns.idxOf k : Nat)) H
theorem mt_indexL : MtR X "list.index" (rIxI X.K) := by
  intro pins s σ H x xs v us Q I r rs h
  obtain ⟨a, ns, k, rfl, rfl, hs, hk, q⟩ := h
  cases r
  obtain ⟨u, rfl, t, rfl⟩ := vals1 rs
  obtain ⟨its, rv, pl, hz⟩ := I.list hs
  exact PySem.SeqAt.list_index_ints pl.isList rv.ints (by simpa using hz) hk ⟨.int _, H, I.tok _, ⟨_, rfl⟩, q⟩
def ixI (xs : List D) (k : Int) : Option D := (intsOf xs).bind fun (ns : List Int) => if k ∈ ns then some (.int (ns.idxOf k : Nat)) else none
theorem ixI_some {xs : List D} {k : Int} {d : D} (h : ixI xs k = some d) : ∃ ns : List Int, xs = ns.map .int ∧ k ∈ ns ∧ d = .int (ns.idxOf k : Nat) := by
  unfold ixI at h
  cases e : intsOf xs with
  | none => rw [e] at h; cases h
  | some ns =>
    rw [e] at h
    have h : (if k ∈ ns then some (PyData.int (ns.idxOf k : Nat)) else none) = some d := h
    split at h
    · cases h
      exact ⟨ns, intsOf_some e, by assumption, rfl⟩
    · cases h
def indexL : D → D → Option D
  | .list xs, .int k => ixI xs k
  | _, _ => none
def indexT : D → D → Option D
  | .tuple xs, .int k => ixI xs k
  | _, _ => none
theorem je_indexL (h : JE X T e ρ m) (h2 : JE X T f ρ mb)
    (hbase : attributeBase e "index" X.env (eval e X.env) = eval e X.env := by rfl) (hfew : ((backTo pos (starEach [f] X.env)).all (fun x => !x.1) && (backToKw pos (keywordEach [] X.env)).all (fun x => x.1.isSome)
      && decide ([f].length + ([] : List Keyword).length + (if ([] : List Keyword).isEmpty then 0 else 1) < 30)) = true := by rfl)
    (hline : (apos.endLine == pos.line) = true := by rfl) (hs : starEach [f] X.env = [(false, eval f X.env)] := by rfl) : JE X T (.Call (.Attribute e "index" apos) [f] [] pos) ρ (B m fun x => B mb fun y => L (indexL x y)) := ⟨fun {σ H F s d s'} hE hR hA hm Q k => by
  obtain ⟨x, s1, m1, hm⟩ := B_some hm
  obtain ⟨y, s2, m2, hm⟩ := B_some hm
  obtain ⟨hg, rfl⟩ := L_some hm
  refine sE_of (pe_bm PySem.F.plainAttrs_list PySem.F.slot_list_index PySem.F.type_list_index mt_indexL (pE X e) (pa_cons (pE X f) pa_nil hs) hbase hfew hline hs) (h.run hE hR hA m1 _ fun v H1 F1 st1 a1 r1 => ?_)
  unfold indexL at hg
  split at hg
  · obtain ⟨ns, rfl, hk, rfl⟩ := ixI_some hg
    obtain ⟨a, vs, rfl, ha, r⟩ := r1.list_inv
    have ev := r.ints
    subst ev
    refine ⟨.inl ⟨rfl, _, SqL.of (st1.hf _ _ ha)⟩, h2.run st1.hf (hR.step st1) a1 m2 _ fun w H2 F2 st2 a2 r2 => ?_⟩
    cases r2
    exact ⟨a, ns, _, rfl, rfl, SqL.of (st2.hf _ _ (st2.hh _ _ ha)), hk, k _ H2 F2 (st1.trans st2) a2 (.int _)⟩
  · cases hg⟩
theorem je_indexT (h : JE X T e ρ m) (h2 : JE X T f ρ mb)
    (hbase : attributeBase e "index" X.env (eval e X.env) = eval e X.env := by rfl)
    (hline : (apos.endLine == pos.line) = true := by rfl) (hs : starEach [f] X.env = [(false, eval f X.env)] := by rfl) : JE X T (.Call (.Attribute e "index" apos) [f] [] pos) ρ (B m fun x => B mb fun y => L (indexT x y)) := ⟨fun {σ H F s d s'} hE hR hA hm Q k => by
  obtain ⟨x, s1, m1, hm⟩ := B_some hm
  obtain ⟨y, s2, m2, hm⟩ := B_some hm
  obtain ⟨hg, rfl⟩ := L_some hm
  refine sE_of (pe_indexT (pE X e) (pE X f) hbase hline hs) (h.run hE hR hA m1 _ fun v H1 F1 st1 a1 r1 => ?_)
  unfold indexT at hg
  split at hg
  · obtain ⟨ns, rfl, hk, rfl⟩ := ixI_some hg
    obtain ⟨a, vs, rfl, ha, r⟩ := r1.tup_inv
    have ev := r.ints
    subst ev
    refine ⟨⟨a, _, rfl, ha.mono st1.hf⟩, h2.run st1.hf (hR.step st1) a1 m2 _ fun w H2 F2 st2 a2 r2 => ?_⟩
    cases r2
    exact ⟨a, ns, _, rfl, rfl, ((ha.mono st2.hh).mono st2.hf).sq, hk, k _ H2 F2 (st1.trans st2) a2 (.int _)⟩
  · cases hg⟩
/-! ### texts -/
def splitD : D → D → Option D
  | .str a, .str b => if (b.length == 0) = false ∧ a.length + 2 ≤ 16777216 then some (.list ((Txt.split a b).map .str)) else none
  | _, _ => none
theorem splitD_some {x y d : D} (h : splitD x y = some d) : ∃ a b : Str, x = .str a ∧ y = .str b ∧ (b.length == 0) = false ∧ a.length + 2 ≤ 16777216 ∧ d = .list ((Txt.split a b).map .str) := by
  unfold splitD at h
  split at h
  · split at h
    · rename_i hc
      cases h
      exact ⟨_, _, rfl, rfl, hc.1, hc.2, rfl⟩
    · cases h
  · cases h
theorem je_split (h : JE X T e ρ m) (h2 : JE X T f ρ mb) (hs : starEach [f] X.env = [(false, eval f X.env)] := by rfl) (hbase : attributeBase e "split" X.env (eval e X.env) = eval e X.env := by rfl) (hline : (apos.endLine == pos.line) = true := by rfl) :
    JE X T (.Call (.Attribute e "split" apos) [f] [] pos) ρ (B m fun x => B mb fun y => L (splitD x y)) := ⟨fun {σ H F s d s'} hE hR hA hm Q k => by
  obtain ⟨x, s1, m1, hm⟩ := B_some hm
  obtain ⟨y, s2, m2, hm⟩ := B_some hm
  obtain ⟨hg, rfl⟩ := L_some hm
  refine sE_of (pe_split (pE X e) (pE X f) hs hbase hline) (h.run hE hR hA m1 _ fun v H1 F1 st1 a1 r1 => ?_)
  obtain ⟨a, b, rfl, rfl, c1, c2, rfl⟩ := splitD_some hg
  cases r1
  refine ⟨⟨_, rfl⟩, h2.run st1.hf (hR.step st1) a1 m2 _ fun w H2 F2 st2 a2 r2 => ?_⟩
  cases r2
  refine ⟨a, b, rfl, rfl, c1, by rw [sizeLine_eq]; exact c2, fun p hp => ?_⟩
  have st : Stq H2 F2 (upd H2 p (.lst ((Txt.split a b).map V.str))) (upd F2 p (.lst ((Txt.split a b).map V.str))) := .new st2.hf hp fun z => z
  exact k _ _ _ ((st1.trans st2).trans (st.up a2)) (st.at a2) (.lst upd_same (Rps.of_strs _))⟩
def joinD : D → D → Option D
  | .str a, .list xs => (strsOf xs).bind fun ys => if (ys.map (·.length)).sum + ys.length * a.length ≤ 16777216 then some (.str (Txt.join a ys)) else none
  | _, _ => none
theorem joinD_some {x y d : D} (h : joinD x y = some d) : ∃ (a : Str) (ys : List Str), x = .str a ∧ y = .list (ys.map .str) ∧ (ys.map (·.length)).sum + ys.length * a.length ≤ 16777216 ∧ d = .str (Txt.join a ys) := by
  unfold joinD at h
  split at h
  · rename_i a xs
    cases e2 : strsOf xs with
    | none => rw [e2] at h; cases h
    | some ys =>
      rw [e2] at h
      have h : (if (ys.map (·.length)).sum + ys.length * a.length ≤ 16777216 then some (PyData.str (Txt.join a ys)) else none) = some d := h
      split at h
      · rename_i hc
        cases h
        exact ⟨a, ys, rfl, by rw [strsOf_some e2], hc, rfl⟩
      · cases h
  · cases h
theorem je_join (h : JE X T e ρ m) (h2 : JE X T f ρ mb) (hs : starEach [f] X.env = [(false, eval f X.env)] := by rfl) (hbase : attributeBase e "join" X.env (eval e X.env) = eval e X.env := by rfl) (hline : (apos.endLine == pos.line) = true := by rfl) :
    JE X T (.Call (.Attribute e "join" apos) [f] [] pos) ρ (B m fun x => B mb fun y => L (joinD x y)) := ⟨fun {σ H F s d s'} hE hR hA hm Q k => by
  obtain ⟨x, s1, m1, hm⟩ := B_some hm
  obtain ⟨y, s2, m2, hm⟩ := B_some hm
  obtain ⟨hg, rfl⟩ := L_some hm
  refine sE_of (pe_join (pE X e) (pE X f) hs hbase hline) (h.run hE hR hA m1 _ fun v H1 F1 st1 a1 r1 => ?_)
  obtain ⟨a, ys, rfl, rfl, hc, rfl⟩ := joinD_some hg
  cases r1
  refine ⟨⟨_, rfl⟩, h2.run st1.hf (hR.step st1) a1 m2 _ fun w H2 F2 st2 a2 r2 => ?_⟩
  obtain ⟨c, vs, rfl, hp, r⟩ := r2.list_inv
  have ev := r.strs
  subst ev
  exact ⟨a, c, ys, rfl, rfl, .inl (SqL.of (st2.hf _ _ hp)), hc, k _ H2 F2 (st1.trans st2) a2 (.str _)⟩⟩
/-- a text's signs -/
def signs (x : Str) : List D := x.cps.toList.map fun c => .str ⟨#[c]⟩
def signD : D → Option (List D)
  | .str x => some (signs x)
  | _ => none
theorem walkD_str {b : Bool} {H F : Hp} {x : Str} : WalkD b (fun _ => False) (Its x) (signs x) H F where
  goes := fun i H1 F1 _ _ _ hi => by simpa [signs, Its] using hi
  stops := fun H1 F1 _ _ _ => by simp [signs, Its]
  yields := fun i H1 F1 v F2 e1 e2 _ hi y => by
    obtain ⟨rfl, c, hc, rfl⟩ := y
    refine ⟨H1, .str ⟨#[c]⟩, .refl e2, ?_, .inl (.str _)⟩
    have hc' : x.cps.toList[i]? = some c := by simpa using hc
    rw [signs, List.getElem?_map, hc']
    rfl
theorem ji_str {tg : Expr} (h : JE X T e ρ m) : JI X T tg e ρ true (B m fun x => L (signD x)) := ⟨fun {σ H F s ds s'} hE hR hA hm R k => by
  obtain ⟨x, s1, m1, hm⟩ := B_some hm
  obtain ⟨hg, rfl⟩ := L_some hm
  refine sI_of (pi_str (pE X e)) (h.run hE hR hA m1 _ fun v H1 F1 st1 a1 r1 => ?_)
  unfold signD at hg
  split at hg
  · cases hg
    cases r1
    exact ⟨_, rfl, k (fun _ => False) _ H1 F1 st1 a1 (fun _ h => h.elim) (fun _ _ h => h) walkD_str⟩
  · cases hg⟩
/-! ### list(range(n)) -/
def lrgD : D → Option D
  | .int n => if 0 ≤ n ∧ n ≤ 1000000 then some (.list (rgL 0 n)) else none
  | _ => none
theorem lrgD_some {x d : D} (h : lrgD x = some d) : ∃ n : Int, x = .int n ∧ 0 ≤ n ∧ n ≤ 1000000 ∧ d = .list (rgL 0 n) := by
  unfold lrgD at h
  split at h
  · split at h
    · rename_i hc
      cases h
      exact ⟨_, rfl, hc.1, hc.2, rfl⟩
    · cases h
  · cases h
theorem Rps.rg {H : Hp} {a b : Int} : Rps H (rgV a b) (rgL a b) := by
  have e1 : rgV a b = ((List.range (b - a).toNat).map fun i => a + ((i : Nat) : Int)).map V.int := by
    rw [List.map_map]
    rfl
  have e2 : rgL a b = ((List.range (b - a).toNat).map fun i => a + ((i : Nat) : Int)).map PyData.int := by
    rw [List.map_map]
    rfl
  rw [e1, e2]
  exact Rps.of_ints _
theorem je_listRg {p1 p3 p4 : Pos} (hc : X.calm = true) (h : JE X T e ρ m) (g1 : Gl X "list") (m1 : X.mg "list" = none) (g2 : Gl X "range") (m2 : X.mg "range" = none) (na : starEach [e] X.env = (false, eval e X.env) :: starEach [] X.env := by rfl)
    (nb : starEach [.Call (.Name "range" p3) [e] [] p4] X.env = (false, eval (.Call (.Name "range" p3) [e] [] p4) X.env) :: starEach [] X.env := by rfl) : JE X T (.Call (.Name "list" p1) [.Call (.Name "range" p3) [e] [] p4] [] pos) ρ (B m fun x => L (lrgD x)) := ⟨fun {σ H F s d s'} hE hR hA hm Q k => by
  obtain ⟨x, s1, h1, hm⟩ := B_some hm
  obtain ⟨hg, rfl⟩ := L_some hm
  obtain ⟨n, rfl, c0, c1, rfl⟩ := lrgD_some hg
  refine sE_of (pe_listRg hc g1 m1 (prg_1 g2 m2 (pE X e) na) nb) (h.run hE hR hA h1 _ fun v H1 F1 st1 a1 r1 => ?_)
  cases r1
  refine ⟨n, rfl, .of_le (by omega) (by omega) (by omega) c0, fun q hq => ?_⟩
  have st : Stq H1 F1 (upd H1 q (.lst (rgV 0 n))) (upd F1 q (.lst (rgV 0 n))) := .new st1.hf hq fun z => z
  exact k _ _ _ (st1.trans (st.up a1)) (st.at a1) (.lst upd_same Rps.rg)⟩
end
end DL

set_option Elab.async false
set_option linter.all false
set_option maxRecDepth 100000
set_option maxHeartbeats 2000000
/-! DLDict: dict(pairs), d.get(k, x). -/
namespace DL
open PySem PySem.Spec PyProof.Rows L2
def keyD : D → Option Key
  | .int i => some (.inl i)
  | .str x => some (.inr x)
  | _ => none
theorem keyD_some {d : D} {k : Key} (h : keyD d = some k) : d = kD k := by
  cases d <;> cases h <;> rfl
theorem keyD_kD (k : Key) : keyD (kD k) = some k := by cases k <;> rfl
def kvD : List D → Option (List (Key × D))
  | [] => some []
  | .tuple [a, b] :: r => (keyD a).bind fun k => (kvD r).map fun q => (k, b) :: q
  | _ => none
theorem merge_nodup : ∀ (acc more : List (Key × V)), ((acc ++ more).map (·.1)).Nodup → mergeK acc more = acc ++ more
  | acc, [], _ => by simp [mergeK]
  | acc, (k, v) :: r, h => by
    have e : putK acc k v = acc ++ [(k, v)] := by
      unfold putK
      have : (acc.any fun kv => decide (kv.1 = k)) = false := by
        rw [Bool.eq_false_iff]
        intro z
        rw [List.any_eq_true] at z
        obtain ⟨p, hp, e⟩ := z
        have e := of_decide_eq_true e
        rw [List.map_append, List.nodup_append] at h
        exact h.2.2 p.1 (List.mem_map_of_mem hp) k (by simp) e
      rw [this]
      rfl
    show mergeK (putK acc k v) r = _
    rw [e, merge_nodup (acc ++ [(k, v)]) r (by simpa using h)]
    simp
theorem kvD_rp {H : Hp} : ∀ {ds : List D} {vs : List V} {kds : List (Key × D)}, Rps H vs ds → kvD ds = some kds → ∃ (ps : List Addr) (kvs : List (Key × V)), vs = ps.map V.ref ∧ Paired (fun p (kv : Key × V) => Tp H p [kV kv.1, kv.2]) ps kvs ∧ kvs.map (·.1) = kds.map (·.1) ∧ Rkv H kvs (kds.map fun q => (kD q.1, q.2))
  | _, _, kds, .nil, h => by
    cases h
    exact ⟨[], [], rfl, .nil, rfl, .nil⟩
  | _, _, kds, .cons (d := d) (ds := ds) r rs, h => by
    cases d with
    | tuple ts =>
      match ts, h with
      | [a, b], h =>
        have h : (keyD a).bind (fun k => (kvD ds).map fun q => (k, b) :: q) = some kds := h
        cases ek : keyD a with
        | none => rw [ek] at h; cases h
        | some k =>
          rw [ek] at h
          have h : (kvD ds).map (fun q => (k, b) :: q) = some kds := h
          cases e : kvD ds with
          | none => rw [e] at h; cases h
          | some q =>
            rw [e] at h
            cases h
            obtain ⟨ps, kvs, rfl, h2, h3, h4⟩ := kvD_rp rs e
            have ea := keyD_some ek
            subst ea
            obtain ⟨c, ws, rfl, hc, rw'⟩ := r.tup_inv
            obtain ⟨u, w, rfl, ru, rb⟩ := rw'.two
            have eu : u = kV k := by
              cases k with
              | inl i => cases ru; rfl
              | inr x => cases ru; rfl
            subst eu
            refine ⟨c :: ps, (k, w) :: kvs, rfl, .cons hc h2, ?_, .cons rb h4⟩
            rw [List.map_cons, List.map_cons, h3]
    | _ => cases h
def dictL : List D → Option D
  | [.list xs] => (kvD xs).bind fun kds => if (kds.map (·.1)).Nodup then some (.dict (kds.map fun q => (kD q.1, q.2))) else none
  | _ => none
section
variable {X : Cx}
theorem cd_dict (hcalm : X.calm = true) : CallD X (.type "dict") dictL := ⟨_, call_dictP hcalm, fun T H F vs ds d Q hE r h k => by
  unfold dictL at h
  split at h
  · rename_i xs
    cases e : kvD xs with
    | none => rw [e] at h; cases h
    | some kds =>
      rw [e] at h
      have h : (if (kds.map (·.1)).Nodup then some (PyData.dict (kds.map fun q => (kD q.1, q.2))) else none) = some d := h
      split at h
      · rename_i hn
        cases h
        obtain ⟨v, rfl, rv⟩ := r.one
        obtain ⟨a, ws, rfl, rw', hh⟩ := rv.seq (K := X.K) hE (ds := _) rfl
        obtain ⟨ps, kvs, rfl, h2, h3, h4⟩ := kvD_rp rw' e
        rcases hh with ⟨_, hh⟩ | ⟨z, _⟩
        · refine ⟨a, ps, kvs, rfl, SqL.of hh, ?_, fun p hp => ?_⟩
          · exact L2.Paired.mapP h2 fun x y z => (z.mono hE).sq
          · rw [merge_nodup [] kvs (by simpa [h3] using hn)]
            have st : Stq H F (upd H p (.dK ([] ++ kvs))) (upd F p (.dK ([] ++ kvs))) := .new hE hp fun z => z
            exact k _ _ _ st (.dic upd_same (h4.mono st.hh))
        · cases z
      · cases h
  · cases h⟩
/-! ### get -/
def dgetL (ds : List (D × D)) (k : Key) : Option D := (ds.find? fun p => decide (keyD p.1 = some k)).map (·.2)
theorem dget_rp {H : Hp} {k : Key} : ∀ {kvs : List (Key × V)} {ds : List (D × D)}, Rkv H kvs ds → (valV kvs k = none ∧ dgetL ds k = none) ∨ ∃ v d, valV kvs k = some v ∧ dgetL ds k = some d ∧ Rp H v d
  | _, _, .nil => .inl ⟨rfl, rfl⟩
  | _, _, .cons (k := k2) (v := v) (vs := vs) (d := d) (ds := ds) h r => by
    by_cases e : k2 = k
    · refine .inr ⟨v, d, valV_pos e, ?_, h⟩
      unfold dgetL
      rw [List.find?_cons_of_pos (by rw [keyD_kD, e]; exact decide_eq_true rfl)]
      rfl
    · have e1 : valV ((k2, v) :: vs) k = valV vs k := valV_neg e
      have e2 : dgetL ((kD k2, d) :: ds) k = dgetL ds k := by
        unfold dgetL
        rw [List.find?_cons_of_neg (by rw [keyD_kD]; simpa using e)]
      rw [e1, e2]
      exact dget_rp r
def getD3 (x y z : D) : Option D := match x with
  | .dict ds => (keyD y).map fun k => (dgetL ds k).getD z
  | _ => none
theorem getD3_some {x y z d : D} (h : getD3 x y z = some d) : ∃ ds k, x = .dict ds ∧ y = kD k ∧ d = (dgetL ds k).getD z := by
  unfold getD3 at h
  split at h
  · rename_i ds
    cases e : keyD y with
    | none => rw [e] at h; cases h
    | some k => rw [e] at h; cases h; exact ⟨ds, k, rfl, keyD_some e, rfl⟩
  · cases h
variable {S : Type} {T : Tie S} {ρ : List Sl} {mo me mf : M S D} {o e f : Expr} {apos cpos : Pos}
theorem Rp.kV_inv {H : Hp} {v : V} {k : Key} (r : Rp H v (kD k)) : v = kV k := by
  cases k with
  | inl i => cases r; rfl
  | inr x => cases r; rfl
theorem je_get (hu : X.A.units + 64 < cLine) (ho : JE X T o ρ mo) (he : JE X T e ρ me) (hf : JE X T f ρ mf)
    (h1 : attributeBase o "get" X.env (eval o X.env) = eval o X.env := by rfl)
    (h2 : ((backTo cpos (starEach [e, f] X.env)).all (fun x => !x.1) && (backToKw cpos (keywordEach [] X.env)).all (fun x => x.1.isSome)
      && decide (([e, f] : List Expr).length + ([] : List Keyword).length + (if ([] : List Keyword).isEmpty then 0 else 1) < 30)) = true := by rfl)
    (h3 : (apos.endLine == cpos.line) = true := by rfl) (h4 : backTo cpos (starEach [e, f] X.env) = [(false, eval e X.env), (false, eval f X.env)] := by rfl) :
    JE X T (.Call (.Attribute o "get" apos) [e, f] [] cpos) ρ (B mo fun x => B me fun y => B mf fun z => L (getD3 x y z)) := ⟨fun {σ H F s d s'} hE hR hA hm Q k => by
  obtain ⟨x, s1, m1, hm⟩ := B_some hm
  obtain ⟨y, s2, m2, hm⟩ := B_some hm
  obtain ⟨z, s3, m3, hm⟩ := B_some hm
  obtain ⟨hg, rfl⟩ := L_some hm
  obtain ⟨ds, ky, rfl, rfl, rfl⟩ := getD3_some hg
  refine sE_of (pe_dget2 (by omega) (pE X o) (pE X e) (pE X f) ⟨h1, h2, h3, h4⟩) (ho.run hE hR hA m1 _ fun v H1 F1 st1 a1 r1 => ?_)
  cases r1 with
  | @dic a kvs _ ha rk =>
    refine ⟨a, rfl, .inl ⟨kvs, .inl (st1.hf _ _ ha)⟩, he.run st1.hf (hR.step st1) a1 m2 _ fun w H2 F2 st2 a2 r2 => hf.run st2.hf (hR.step (st1.trans st2)) a2 m3 _ fun u H3 F3 st3 a3 r3 => ?_⟩
    have st := (st1.trans st2).trans st3
    have ew := r2.kV_inv
    subst ew
    refine ⟨valV kvs ky, DGet.k ((st3.hf _ _ (st3.hh _ _ (st2.hh _ _ ha)))), ?_⟩
    rcases dget_rp (k := ky) (rk.mono (st2.hh.trans st3.hh)) with ⟨q1, q2⟩ | ⟨v2, d2, q1, q2, q3⟩
    · rw [q1]
      refine k _ H3 F3 st a3 ?_
      rw [q2]
      exact r3
    · rw [q1]
      refine k _ H3 F3 st a3 ?_
      rw [q2]
      exact q3⟩
end
end DL

set_option Elab.async false
set_option linter.all false
set_option maxRecDepth 100000
set_option maxHeartbeats 2000000
/-! DLSet: name = [.. for ..] on one line. -/
namespace DL
open PySem PySem.Spec PyProof.Rows L2
section
variable {X : Cx} {S β : Type} {T : Tie S} {ρ : List Sl} {tg iter elt : Expr} {ifs : List Expr} {scope : Scope} {own : List (Str × Nat)} {sh : Sh} {pr : Bool} {src : M S (List D)} {mb : D → M S (Option D)} {pos spos py : Pos} {rest : List Stmt} {out : β → Oc}
theorem js_asgLc {i : Nat} {y : Str} {f : D → M S β} (hc : X.calm = true) (hN : X.N.Nodup) (hy : X.N[i]? = some y) (hyl : X.env.scope.names.lookup y = some .local) (hi : JI X T tg iter ρ pr src) (ok : BlkOk X.N X.env.scope scope own) (hg : BlkAll X scope fun X' => PGd X' tg sh)
    (hb : JItem sh (wipeS ρ (own.map (·.2))) mb (JEl X T scope elt ifs)) (hr : ∀ d, JS X T rest (ρ.set i (.val d)) (f d) out)
    (hx : ∀ i ∈ sh.ix, i ∈ own.map (·.2) := by decide) (ho : ifsOk ifs = true := by rfl) (ht : tupOk tg sh = true := by rfl) (hs : ∀ x, foldedSetIterable iter X.env x = pure x := by intro _; rfl)
    (hk : X.env.scope.kind = .function := by rfl) (hl : (py.line == pos.line) = true := by rfl) (ha : (scope.names.any fun (n, k) => n == y && (k == .local || k == .cell)) = false := by rfl) :
    JS X T (.Assign [.Name y py] (.ListComp elt [⟨tg, iter, ifs, 0⟩] scope pos) spos :: rest) ρ (B (B src fun ds => B (cmp ds mb) fun out => L (lstD out)) f) out := ⟨fun {σ H F C s b s'} w hm Dn k => by
  obtain ⟨d, s2, hm1, hm2⟩ := B_some hm
  obtain ⟨ds, s1, m1, hm⟩ := B_some hm1
  obtain ⟨o, s3, m2, hm⟩ := B_some hm
  obtain ⟨hq, rfl⟩ := L_some hm
  obtain ⟨hz, rfl⟩ := lstD_some hq
  have e : B src (fun ds => cmp ds mb) s = some (o, s2) := by
    unfold B
    rw [m1]
    exact m2
  refine sSs_of (pss_cons (ps_setLc (g := gSh X.K sh) (tt := tB X scope ifs) (te := gB X scope elt) hc hN hy hyl (L2.sw_true hk hyl hl ha) (pI X tg iter) ok hg (tB_pts ho) (fun s H C cl fp => ⟨fun pins s1 σ F Q I h => h s H C cl fp pins s1 I⟩) hs) (pSs X rest)) ?_
  show tLc (sI X tg iter) (gSh X.K sh) (tB X scope ifs) (gB X scope elt) (own.map (·.2)) σ F (fun v F' => gName i v σ F' fun σ' F'' => sSs X rest Dn σ' F'')
  refine lc_run ht hi hb hx w.ex w.env w.at_ e (by rw [sizeLine_eq] at hz; exact hz) _ fun v H1 F1 st1 a1 r1 => ?_
  have w1 := w.step st1 a1
  exact (hr _).run (w1.set i (sl := .val (.list o)) ⟨v, rfl, r1⟩ fun o => by cases o) hm2 Dn (k.mono st1.hh)⟩
end
end DL

set_option Elab.async false
set_option linter.all false
set_option maxRecDepth 100000
set_option maxHeartbeats 2000000
/-! DLCall: defs by name; the script. -/
namespace DL
open PySem PySem.Spec PyProof.Rows L2
/-- a def's text under its name -/
def Dfn (K : PySem.W.Frag) (mg : Str → Option Value) (x : Str) (st : Stmt) : Prop := mg x = some (.ref (He.ga K x)) ∧ ∃ fd, Fun K x x st (He.ga K x) fd
/-- .. and what it promises -/
def DOk (P : Program) (w : World) (K : PySem.W.Frag) (mg : Str → Option Value) (base : Heap) (k : Nat) (x : Str) (ps : List Str) (sp : Sp) : Prop :=
  mg x = some (.ref (He.ga K x)) ∧ PySem.W.keepIn K (.ref (He.ga K x)) = true ∧ ∃ fd, Binds K fd ps [] ∧ FnOk P w K mg base CX0 k (He.ga K x) fd ps sp
section
variable {P : Program} {w : World} {K : PySem.W.Frag} {mg : Str → Option Value} {base : Heap} {x : Str} {st : Stmt} {N ps : List Str} {k : Nat}
abbrev BindOk (x : Str) (st : Stmt) (ps : List Str) : Prop := ∀ (kV doc pm : Value) (an : Option Addr) (cdv ct : Value) (us : List Value), us.length = ps.length → bindArgs (PySem.W.fnOf x x (defArgs st) (defBody st) (defScope st) .none kV doc pm an cdv ct) ⟨us, []⟩ = pure (ps.zip us)
theorem ok_pure {mf : List D → Option D} {mb : List D → M Unit D} (Dn : Dfn K mg x st) (Sc : FnScope N ps (defScope st)) (hbi : BindOk x st ps) (hmf : ∀ ds r, mf ds = some r → ds.length = ps.length ∧ run0 (mb ds) = some r)
    (hb : ∀ ds : List D, ds.length = ps.length → BodyAll P w K mg base N x st (He.ga K x) k fun X => JS X tie0 (defBody st) (slots0 N (ds.map .val)) (mb ds) Oc.rt) : DOk P w K mg base (k + 1) x ps (spF mf) := by
  obtain ⟨h1, fd, F⟩ := Dn
  exact ⟨h1, F.kp, fd, F.binds hbi, fn_pure F Sc hmf hb⟩
theorem ok_pot {mf : List D → M Pot D} (Dn : Dfn K mg x st) (Sc : FnScope N ps (defScope st)) (hbi : BindOk x st ps) (hmf : ∀ ds s r s', mf ds s = some (r, s') → ds.length + 1 = ps.length)
    (hb : ∀ (ds : List D) (p : Addr), ds.length + 1 = ps.length → BodyAll P w K mg base N x st (He.ga K x) k fun X => JS X (tieP p) (defBody st) (slots0 N (.pot :: ds.map .val)) (mf ds) Oc.rt) : DOk P w K mg base (k + 1) x ps (spP mf) := by
  obtain ⟨h1, fd, F⟩ := Dn
  exact ⟨h1, F.kp, fd, F.binds hbi, fn_pot F Sc hmf hb⟩
theorem ok_scr {mf : List Int → List D → Option D} {mb : List Int → List D → M Unit D} (Dn : Dfn K mg x st) (Sc : FnScope N ps (defScope st)) (hbi : BindOk x st ps) (hmf : ∀ ns ds r, mf ns ds = some r → ds.length + 1 = ps.length ∧ run0 (mb ns ds) = some r)
    (hb : ∀ (ns : List Int) (ds : List D), ds.length + 1 = ps.length → BodyAll P w K mg base N x st (He.ga K x) k fun X => JS X tie0 (defBody st) (slots0 N (.scr ns :: ds.map .val)) (mb ns ds) Oc.rt) : DOk P w K mg base (k + 1) x ps (spScr K mf) := by
  obtain ⟨h1, fd, F⟩ := Dn
  exact ⟨h1, F.kp, fd, F.binds hbi, fn_scr F Sc hmf hb⟩
/-- a def that returns nothing -/
theorem entry_nx {X : Cx} {sts : List Stmt} {sls : List Sl} {mb : M Unit Unit} {ρ' : List Sl} (hJ : JS X tie0 sts (slots0 N sls) mb (fun _ => Oc.nx ρ')) {vs : List V} {H F : Hp} (hE : Ex H F) (hR : Rsl X.K tie0 H F vs sls) (hm : mb () = some ((), ()))
    (Q : VK) (k : ∀ H' F', Stq H F H' F' → Q .non F') : sSs X sts { nx := fun _ H' => Q .non H', rt := Q } (L2.start N vs) F := by
  haveI := fun a => Classical.propDecidable (H a = none)
  have hC : ∀ a o, (if H a = none then F a else none) = some o → F a = some o ∧ H a = none := fun a o e => by
    by_cases c : H a = none
    · rw [if_pos c] at e
      exact ⟨e, c⟩
    · rw [if_neg c] at e
      cases e
  refine hJ.run (C := fun a => if H a = none then F a else none) (H := H) (s := ()) ⟨hE, env0_start hR N, trivial, fun a o e => (hC a o e).1, fun a o e => ⟨(hC a o e).2, fun z => z, fun i sl hi oi => ?_⟩⟩ hm _ ?_
  · rw [slots0_no hR N hi] at oi
    cases oi
  · intro σ' H' F' e1 w'
    refine k H' F' ⟨e1, w'.ex, fun a o _ e => ?_, fun a n1 n2 => ?_, fun a ta _ => ta.elim⟩
    · cases c : H a with
      | some u =>
        have z := hE a u c
        rw [e] at z
        cases z
        exact w'.ex _ _ (e1 _ _ c)
      | none => exact w'.cx a o (by show (if H a = none then F a else none) = some o; rw [if_pos c]; exact e)
    · cases c : F a with
      | none => rfl
      | some u =>
        exact absurd (w'.cd a u (by show (if H a = none then F a else none) = some u; rw [if_pos n1]; exact c)).1 n2
def mNone (m : M Unit Unit) : Option D := (run0 m).map fun _ => .none
theorem ok_proc {mf : List D → Option D} {mb : List D → M Unit Unit} {ρ' : List Sl} (Dn : Dfn K mg x st) (Sc : FnScope N ps (defScope st)) (hbi : BindOk x st ps) (hmf : ∀ ds r, mf ds = some r → ds.length = ps.length ∧ mNone (mb ds) = some r)
    (hb : ∀ ds : List D, ds.length = ps.length → BodyAll P w K mg base N x st (He.ga K x) k fun X => JS X tie0 (defBody st) (slots0 N (ds.map .val)) (mb ds) (fun _ => Oc.nx ρ')) : DOk P w K mg base (k + 1) x ps (spF mf) := by
  obtain ⟨h1, fd, F⟩ := Dn
  refine ⟨h1, F.kp, fd, F.binds hbi, F.ok Sc (fun vs F Q E h => ?_) (fun cdv A outer s F vs Q E hr h => ?_)⟩
  · obtain ⟨H, ds, r, _, h2, h3, _⟩ := h
    rw [h2.length]
    exact (hmf ds r h3).1
  · obtain ⟨H, ds, r, h1, h2, h3, h4⟩ := h
    obtain ⟨hl, hm⟩ := hmf ds r h3
    unfold mNone at hm
    cases e : run0 (mb ds) with
    | none => rw [e] at hm; cases hm
    | some u =>
      rw [e] at hm
      cases hm
      exact ⟨_, pSs _ _, entry_nx (hb ds hl cdv A outer s F E hr) h1 h2.sl (run0_some e) Q fun H' F' st => h4 .non H' F' st .non⟩
end
section
variable {X : Cx} {S : Type} {T : Tie S} {ρ : List Sl} {m : M S D} {e : Expr} {es : List Expr} {p pos : Pos} {x : Str}
theorem je_callO {k j : Nat} {ps : List Str} {mf : List D → Option D} (o : DOk X.prog X.w X.K X.mg X.base k x ps (spF mf)) (hr : Room j X.A) (hk : k ≤ j) (hg : Gl X x) (ha : JA X T (e :: es) ρ (fun ds => L (mf ds)) m) (hdb : (x == ("__debug__" : Str)) = false := by decide)
    (he : starEach (e :: es) X.env = (false, eval e X.env) :: starEach es X.env := by rfl) (hpl : (backTo pos (starEach es X.env)).any (·.1) = false := by rfl) : JE X T (.Call (.Name x p) (e :: es) [] pos) ρ m := by
  obtain ⟨h1, h2, fd, h3, h4⟩ := o
  exact je_call h4 (hr.mono hk) hg h1 h2 h3 (E := fun _ _ _ => False) pass0 ha hdb he hpl
theorem je_callPO {q : Addr} {k j i : Nat} {ps : List Str} {m : M Pot D} {mf : List D → M Pot D} {y : Str} {pos' : Pos} (o : DOk X.prog X.w X.K X.mg X.base k x ps (spP mf)) (hr : Room j X.A) (hk : k ≤ j) (hg : Gl X x) (hN : X.N[i]? = some y) (hv : Vis X.env.scope y) (hρ : ρ[i]? = some .pot) (ha : JA X (tieP q) es ρ mf m)
    (hdb : (x == ("__debug__" : Str)) = false := by decide) (hd : (y == ("__debug__" : Str)) = false := by decide) (hcd : (y == ("__classdict__" : Str)) = false := by decide)
    (he : starEach (.Name y pos' :: es) X.env = (false, eval (.Name y pos') X.env) :: starEach es X.env := by rfl) (hpl : (backTo pos (starEach es X.env)).any (·.1) = false := by rfl) : JE X (tieP q) (.Call (.Name x p) (.Name y pos' :: es) [] pos) ρ m := by
  obtain ⟨h1, h2, fd, h3, h4⟩ := o
  exact je_callP h4 (hr.mono hk) hg h1 h2 h3 (E := fun _ _ _ => False) pass0 hN hv hρ ha hdb hd hcd he hpl
/-! ### the script -/
theorem je_lenS {ns : List Int} {i : Nat} {y : Str} {py : Pos} (hN : X.N[i]? = some y) (hv : Vis X.env.scope y) (hρ : ρ[i]? = some (.scr ns)) (hg : Gl X "len") (hm : X.mg "len" = none) (hd : (y == ("__debug__" : Str)) = false := by decide) (hcd : (y == ("__classdict__" : Str)) = false := by decide) :
    JE X T (.Call (.Name "len" p) [.Name y py] [] pos) ρ (P (.int ns.length)) := ⟨fun {σ H F s d s'} hE hR hA hm' Q k => by
  obtain ⟨rfl, rfl⟩ := P_some hm'
  obtain ⟨ov, h1, a, rfl, h2, h3⟩ := hR.at_ i _ hρ
  refine sE_of (pe_callB call_len hg hm boot_len (pa_cons (pe_var hN hv hd hcd) pa_nil)) ⟨_, h1, _, ns.length, rfl, .inl ⟨ns.map V.int, h3.sq, by rw [List.length_map]⟩, k _ H F (.refl hE) hA (.int _)⟩⟩
theorem je_ixS {ns : List Int} {i : Nat} {y : Str} {py : Pos} {me : M S D} (hN : X.N[i]? = some y) (hv : Vis X.env.scope y) (hρ : ρ[i]? = some (.scr ns)) (he : JE X T e ρ me) (hs : PlainIx e := by intro _ _; rfl) (hd : (y == ("__debug__" : Str)) = false := by decide) (hcd : (y == ("__classdict__" : Str)) = false := by decide) :
    JE X T (.Subscript (.Name y py) e pos) ρ (B me fun j => L (ixD (.list (ns.map .int)) j)) := ⟨fun {σ H F s d s'} hE hR hA hm' Q k => by
  obtain ⟨j, s1, m1, hm⟩ := B_some hm'
  obtain ⟨hg, rfl⟩ := L_some hm
  obtain ⟨ov, h1, a, rfl, h2, h3⟩ := hR.at_ i _ hρ
  refine sE_of (pe_ix ix_seq (pe_var hN hv hd hcd) (pE X e) hs) ⟨_, h1, he.run hE hR hA m1 _ fun u H2 F2 st2 a2 r2 => ?_⟩
  have hR2 := hR.step st2
  obtain ⟨ov', g1, a', ea, g2, g3⟩ := hR2.at_ i _ hρ
  have ez : a' = a := by
    rw [h1] at g1
    have q := Option.some.inj g1
    rw [ea] at q
    exact (V.ref.inj (Option.some.inj q)).symm
  subst ez
  cases j with
  | int jj =>
    cases r2
    obtain ⟨w, hw, rw'⟩ := (Rps.of_ints (H := H2) ns).atI (i := jj) hg
    exact .inl ⟨a', _, _, w, rfl, rfl, g3.sq, hw, k w H2 F2 st2 a2 rw'⟩
  | _ => cases hg⟩
end
end DL

set_option Elab.async false
set_option linter.all false
set_option maxRecDepth 100000
set_option maxHeartbeats 2000000
/-! DLFor: loops and branches with a named continuation; blocks by a check; slices of the script. -/
namespace DL
open PySem PySem.Spec PyProof.Rows L2
section
variable {S α β : Type}
/-- behind a loop or a branch that may leave -/
def kF (f : α → M S β) (r : D → β) : Fl α → M S β
  | .nx a => f a
  | .rt d => P (r d)
  | .bk _ => fail
theorem kF_eq (f : α → M S β) (r : D → β) : kF f r = (fun
      | .nx a => f a
      | .rt d => P (r d)
      | .bk _ => fail) := by
  funext x
  cases x <;> rfl
variable {X : Cx} {T : Tie S} {ρ : List Sl} {out : β → Oc} {emb : α → List Sl} {a0 : α} {src : M S (List D)} {tg iter c : Expr} {sh : Sh} {rest body b1 b2 : List Stmt} {pos : Pos} {mc : M S Bool}
theorem js_forK {fb : α → D → M S (Fl α)} {f : α → M S β} {r : D → β} (hp : PassesOwn (model X.prog X.w) X.A X.env X.xe) (hc : X.calm = true) (hi : JI X T tg iter ρ true src) (hg : PGd X tg sh) (h0 : Le (emb a0) ρ) (hb : ∀ a, JItem sh (emb a) (fb a) (fun ρ' m' => JS X T body ρ' m' (Fl.oc emb)))
    (hr : ∀ a, JS X T rest (emb a) (f a) out) (ho : ∀ d, out (r d) = .rt d) (hs : ∀ x, foldedSetIterable iter X.env x = pure x := by intro _; rfl) (ht : tupOk tg sh = true := by rfl) :
    JS X T (.For tg iter body [] pos :: rest) ρ (B src fun ds => B (foldF ds a0 fb) (kF f r)) out := by
  rw [show (fun ds => B (foldF ds a0 fb) (kF f r)) = _ from congrArg (fun g => fun ds => B (foldF ds a0 fb) g) (kF_eq f r)]
  exact js_forF hp hc hi hg h0 hb hr ho hs ht
theorem js_ifK {n1 n2 : M S (Fl α)} {f : α → M S β} {r : D → β} (hc : JT X T c ρ mc) (h1 : JS X T b1 ρ n1 (Fl.oc emb)) (h2 : JS X T b2 ρ n2 (Fl.oc emb)) (hr : ∀ a, JS X T rest (emb a) (f a) out) (ho : ∀ d, out (r d) = .rt d) :
    JS X T (.If c b1 b2 pos :: rest) ρ (B mc fun b => B (if b then n1 else n2) (kF f r)) out := by
  rw [show (fun b : Bool => B (if b then n1 else n2) (kF f r)) = _ from congrArg (fun g => fun b : Bool => B (if b then n1 else n2) g) (kF_eq f r)]
  exact js_ifleave hc h1 h2 hr ho
end
/-! ### what is known, written anew -/
section
variable {X : Cx} {S β : Type} {T : Tie S} {ρ : List Sl} {m : M S D} {mt : M S Bool} {mb : M S β} {e : Expr} {sts : List Stmt} {out : β → Oc} {pos : Pos}
theorem js_nf (ρ2 : List Sl) (h : ρ = ρ2) (j : JS X T sts ρ2 mb out) : JS X T sts ρ mb out := h ▸ j
theorem je_nf (ρ2 : List Sl) (h : ρ = ρ2) (j : JE X T e ρ2 m) : JE X T e ρ m := h ▸ j
theorem jt_nf (ρ2 : List Sl) (h : ρ = ρ2) (j : JT X T e ρ2 mt) : JT X T e ρ mt := h ▸ j
/-- a name of a def: its place, its kind -/
structure NmF (sc : Scope) (N : List Str) (i : Nat) (x : Str) : Prop where
  hN : N[i]? = some x
  hv : Vis sc x
  hd : (x == ("__debug__" : Str)) = false
  hcd : (x == ("__classdict__" : Str)) = false
theorem je_nm {i : Nat} {x : Str} {d : D} (h : NmF X.env.scope X.N i x) (hρ : ρ[i]? = some (.val d)) : JE X T (.Name x pos) ρ (P d) := je_name i h.hN h.hv hρ h.hd h.hcd
theorem jv_nm {i : Nat} {x : Str} {ds : List D} (h : NmF X.env.scope X.N i x) (hρ : ρ[i]? = some (.own ds)) : JV X T (.Name x pos) ρ (P (.list ds)) := jv_own i h.hN h.hv hρ h.hd h.hcd
end
/-! ### a block's names, by a check -/
def blkChk (N : List Str) (sc scope : Scope) (own : List (Str × Nat)) : Bool :=
  decide (scope.kind = .function) && (scope.names.all fun y => decide (scope.names.lookup y.1 = some y.2)) && (own.all fun p => decide (N[p.2]? = some p.1)) &&
  (scope.names.all fun y => !decide (y.2 = .free) || decide (sc.names.lookup y.1 = some .cell) || decide (sc.names.lookup y.1 = some .free)) &&
  (scope.names.all fun y => !(decide (y.2 = .local) || decide (y.2 = .cell)) || (own.map (·.1)).contains y.1 || !N.contains y.1)
theorem blk {N : List Str} {sc scope : Scope} {own : List (Str × Nat)} (h : blkChk N sc scope own = true) : BlkOk N sc scope own := by
  unfold blkChk at h
  simp only [Bool.and_eq_true, decide_eq_true_eq, List.all_eq_true, Bool.or_eq_true, Bool.not_eq_true', decide_eq_false_iff_not] at h
  obtain ⟨⟨⟨⟨h1, h2⟩, h3⟩, h4⟩, h5⟩ := h
  refine ⟨h1, h2, h3, fun y hy e => ?_, fun y hy e => ?_⟩
  · rcases h4 y hy with (z | z) | z
    · exact absurd e z
    · exact .inl z
    · exact .inr z
  · rcases h5 y hy with (z | z) | z
    · have z1 := z
      rw [Bool.or_eq_false_iff, decide_eq_false_iff_not, decide_eq_false_iff_not] at z1
      rcases e with e | e
      · exact absurd e z1.1
      · exact absurd e z1.2
    · exact .inl (by simpa using z)
    · exact .inr fun m => by
        have : N.contains y.1 = true := by simpa using m
        rw [this] at z
        cases z
section
variable {X : Cx} {S : Type} {T : Tie S} {ρ : List Sl} {lo hi : Option Expr} {ml mh : M S (Option Int)} {pos p2 py : Pos} {y : Str} {i : Nat} {ns : List Int}
/-- a slice of the script: new -/
theorem je_sliceS (hN : X.N[i]? = some y) (hv : Vis X.env.scope y) (hρ : ρ[i]? = some (.scr ns)) (hl : JO X T lo ρ ml) (hh : JO X T hi ρ mh) (hd : (y == ("__debug__" : Str)) = false := by decide) (hcd : (y == ("__classdict__" : Str)) = false := by decide) :
    JE X T (.Subscript (.Name y py) (.Slice lo hi none p2) pos) ρ (B ml fun l => B mh fun h => L (sliceD (.list (ns.map .int)) l h)) := by
  obtain ⟨tl, pl, hl⟩ := hl
  obtain ⟨th, ph, hh⟩ := hh
  refine ⟨fun {σ H F s d s'} hE hR hA hm Q k => ?_⟩
  obtain ⟨l, s2, m2, hm⟩ := B_some hm
  obtain ⟨h, s3, m3, hm⟩ := B_some hm
  obtain ⟨hg, rfl⟩ := L_some hm
  obtain ⟨ov, h1, a, rfl, h2, h3⟩ := hR.at_ i _ hρ
  refine sE_of (pe_slice sl_list (pe_var hN hv hd hcd) pl ph) ⟨_, h1, hl hE hR hA m2 _ fun H2 F2 st2 a2 => hh st2.hf (hR.step st2) a2 m3 _ fun H3 F3 st3 a3 => ?_⟩
  have st := st2.trans st3
  obtain ⟨ov', g1, a', ea, g2, g3⟩ := (hR.step st).at_ i _ hρ
  have ez : a' = a := by
    rw [h1] at g1
    have q := Option.some.inj g1
    rw [ea] at q
    exact (V.ref.inj (Option.some.inj q)).symm
  subst ez
  cases hg
  refine ⟨a', _, rfl, g3.sq, fun q hq => ?_⟩
  have r : Rps H3 (ns.map V.int) (ns.map PyData.int) := Rps.of_ints ns
  have st4 : Stq H3 F3 (upd H3 q (.lst (cutV (ns.map V.int) l h))) (upd F3 q (.lst (cutV (ns.map V.int) l h))) := .new st3.hf hq fun z => z
  exact k _ _ _ (st.trans (st4.up a3)) (st4.at a3) (.lst upd_same ((r.cut l h).mono st4.hh))
end
end DL

set_option Elab.async false
set_option linter.all false
set_option maxRecDepth 100000
set_option maxHeartbeats 2000000
/-! DLPot: the carried list of three numbers, read and written. -/
namespace DL
open PySem PySem.Spec PyProof.Rows L2
def Pot.list (s : Pot) : List Int := [s.a, s.b, s.c]
def Pot.put (s : Pot) (j : Nat) (v : Int) : Pot := match j with
  | 0 => ⟨v, s.b, s.c⟩
  | 1 => ⟨s.a, v, s.c⟩
  | _ => ⟨s.a, s.b, v⟩
def getP (j : Int) : M Pot D := fun s => match j with
  | 0 => some (.int s.a, s)
  | 1 => some (.int s.b, s)
  | 2 => some (.int s.c, s)
  | _ => none
def putP (j : Int) (d : D) : M Pot Unit := fun s => match d, j with
  | .int v, 0 => some ((), ⟨v, s.b, s.c⟩)
  | .int v, 1 => some ((), ⟨s.a, v, s.c⟩)
  | .int v, 2 => some ((), ⟨s.a, s.b, v⟩)
  | _, _ => none
theorem getP_some {j : Int} {s s' : Pot} {d : D} (h : getP j s = some (d, s')) : s' = s ∧ ∃ v : Int, d = .int v ∧ atI [V.int s.a, V.int s.b, V.int s.c] j = some (.int v) := by
  unfold getP at h
  split at h
  · cases h; exact ⟨rfl, _, rfl, rfl⟩
  · cases h; exact ⟨rfl, _, rfl, rfl⟩
  · cases h; exact ⟨rfl, _, rfl, rfl⟩
  · cases h
theorem putP_some {j : Int} {d : D} {s s' : Pot} {u : Unit} (h : putP j d s = some (u, s')) : ∃ (v : Int) (i : Nat), d = .int v ∧ ixN 3 j = some i ∧ [V.int s.a, V.int s.b, V.int s.c].set i (.int v) = [V.int s'.a, V.int s'.b, V.int s'.c] := by
  unfold putP at h
  split at h
  · cases h; exact ⟨_, 0, rfl, rfl, rfl⟩
  · cases h; exact ⟨_, 1, rfl, rfl, rfl⟩
  · cases h; exact ⟨_, 2, rfl, rfl, rfl⟩
  · cases h
section
variable {X : Cx} {β : Type} {q : Addr} {ρ : List Sl} {i : Nat} {y : Str} {py pos p1 p2 pc : Pos} {k0 : Nat} {j : Int} {e : Expr} {me : M Pot D} {rest : List Stmt} {f : M Pot β} {out : β → Oc}
theorem je_ixP (hN : X.N[i]? = some y) (hv : Vis X.env.scope y) (hρ : ρ[i]? = some .pot) (hd : (y == ("__debug__" : Str)) = false := by decide) (hcd : (y == ("__classdict__" : Str)) = false := by decide) (hs : PlainIx (.Constant (.int j) k0 pc) := by intro _ _; rfl) :
    JE X (tieP q) (.Subscript (.Name y py) (.Constant (.int j) k0 pc) pos) ρ (getP j) := ⟨fun {σ H F s d s'} hE hR hA hm Q k => by
  obtain ⟨rfl, v, rfl, ha⟩ := getP_some hm
  obtain ⟨ov, h1, a, rfl, h2⟩ := hR.at_ i _ hρ
  have e : a = q := h2
  subst e
  exact sE_of (pe_ix ix_seq (pe_var hN hv hd hcd) pe_int hs) ⟨_, h1, .inl ⟨a, _, j, .int v, rfl, rfl, SqL.of hA.1, ha, k _ H F (.refl hE) hA (.int _)⟩⟩⟩
theorem js_setP (hN : X.N[i]? = some y) (hv : Vis X.env.scope y) (hρ : ρ[i]? = some .pot) (he : JE X (tieP q) e ρ me) (hr : JS X (tieP q) rest ρ f out)
    (ha : ∀ v, assign (.Subscript (.Name y p1) (.Constant (.int j) k0 pc) p2) X.env v = (do
      let ov ← holding [v] (eval (.Name y p1) X.env)
      let iv ← holding [v, ov] (eval (.Constant (.int j) k0 pc) X.env)
      standAt p2
      holding [v, ov, iv] (setItem ov iv v)
      release [v, ov, iv] []) := by intro _; rfl) (hs : swapsWithSole [.Subscript (.Name y p1) (.Constant (.int j) k0 pc) p2] e pos.line X.env = pure false := by rfl) (hw : swappedStores [.Subscript (.Name y p1) (.Constant (.int j) k0 pc) p2] e X.env = pure none := by rfl)
    (h1 : (assignEach [.Subscript (.Name y p1) (.Constant (.int j) k0 pc) p2] X.env).map (·.2) = [assign (.Subscript (.Name y p1) (.Constant (.int j) k0 pc) p2) X.env] := by rfl) (hd : (y == ("__debug__" : Str)) = false := by decide) (hcd : (y == ("__classdict__" : Str)) = false := by decide) :
    JS X (tieP q) (.Assign [.Subscript (.Name y p1) (.Constant (.int j) k0 pc) p2] e pos :: rest) ρ (B me fun d => B (putP j d) fun _ => f) out := ⟨fun {σ H F C s b s'} w hm Dn k => by
  obtain ⟨d, s1, m1, hm1⟩ := B_some hm
  obtain ⟨u, s2, m2, hm2⟩ := B_some hm1
  obtain ⟨v, ix, rfl, hix, hset⟩ := putP_some m2
  refine sSs_of (pss_cons (ps_asg (pE X e) (pg_sub (pe_var hN hv hd hcd) pe_int set_list ha) hs hw h1) (pSs X rest)) (he.run w.ex w.env w.at_ m1 _ fun x H1 F1 st1 a1 r1 => ?_)
  have w1 := w.step st1 a1
  obtain ⟨ov, g1, a, rfl, g2⟩ := w1.env.at_ i _ hρ
  have ea : a = q := g2
  subst ea
  cases r1
  refine ⟨_, g1, a, _, j, ix, rfl, rfl, a1.1, hix, ?_⟩
  rw [hset]
  have st2 : Stp (tieP a).pt H1 F1 H1 (upd F1 a (.lst [.int s2.a, .int s2.b, .int s2.c])) := by
    refine ⟨Evl.Ex.refl _, fun b o eb => ?_, fun b o nt eb => ?_, fun b n1 n2 => absurd n1 n2, fun b _ z => z⟩
    · have nb : b ≠ a := fun z => by
        rw [z, a1.2] at eb
        cases eb
      rw [upd_ne nb]
      exact w1.ex _ _ eb
    · have nb : b ≠ a := fun z => nt z
      rw [upd_ne nb]
      exact eb
  exact hr.run (w1.step st2 ⟨upd_same, a1.2⟩) hm2 Dn (k.mono st1.hh)⟩
end
end DL

set_option Elab.async false
set_option linter.all false
set_option maxRecDepth 100000
set_option maxHeartbeats 2000000
/-! DLLaw: a law's outermost def: a new carried list at each place. -/
namespace DL
open PySem PySem.Spec PyProof.Rows L2
/-- a list of three numbers is taken over -/
def potD : D → Option Pot
  | .list [.int a, .int b, .int c] => some ⟨a, b, c⟩
  | _ => none
theorem potD_some {d : D} {s : Pot} (h : potD d = some s) : d = .list [.int s.a, .int s.b, .int s.c] := by
  unfold potD at h
  split at h
  · cases h; rfl
  · cases h
def callS (mf : List Int → List D → Option D) (ns : List Int) : D → Option D
  | .int j => mf ns [.int j]
  | _ => none
theorem callS_some {mf : List Int → List D → Option D} {ns : List Int} {d r : D} (h : callS mf ns d = some r) : ∃ j : Int, d = .int j ∧ mf ns [.int j] = some r := by
  unfold callS at h
  split at h
  · exact ⟨_, rfl, h⟩
  · cases h
def runT (m : M Pot Bool) (s : Pot) : Option Bool := (m s).map (·.1)
theorem runT_some {m : M Pot Bool} {s : Pot} {b : Bool} (h : runT m s = some b) : ∃ s', m s = some (b, s') := by
  unfold runT at h
  cases e : m s with
  | none => rw [e] at h; cases h
  | some r => rw [e] at h; cases h; exact ⟨r.2, rfl⟩
def lawBody (mf : List Int → List D → Option D) (mt : M Pot Bool) (ns : List Int) (d : D) : M Unit (Fl Unit) :=
  B (L (callS mf ns d)) fun r => B (L (potD r)) fun p0 => B (L (runT mt p0)) fun c => if c then P (.rt (.bool false)) else P (.nx ())
section
variable {X : Cx} {x : Str} {ns : List Int} {d : D} {k j : Nat} {ps : List Str} {mf : List Int → List D → Option D} {mt : M Pot Bool} {cond : Expr} {p1 p2 p3 p4 p5 p6 p7 p8 pos : Pos} {j0 : Nat}
theorem js_withPot (o : DOk X.prog X.w X.K X.mg X.base k x ps (spScr X.K mf)) (hr : Room j X.A) (hk : k ≤ j) (hg : Gl X x) (hN : X.N = (["script", "place", "pot", "lap"] : List Str)) (hnd : X.N.Nodup) (v0 : NmF X.env.scope X.N 0 "script") (v1 : NmF X.env.scope X.N 1 "place") (hl2 : Loc X.env.scope "pot")
    (hj : ∀ q, JT X (tieP q) cond [.unk, .unk, .pot, .unk] mt) (hdb : (x == ("__debug__" : Str)) = false := by decide)
    (he1 : starEach [.Name "script" p2, .Name "place" p3] X.env = (false, eval (.Name "script" p2) X.env) :: starEach [.Name "place" p3] X.env := by rfl) (he2 : starEach [.Name "place" p3] X.env = (false, eval (.Name "place" p3) X.env) :: starEach [] X.env := by rfl)
    (hpl : (backTo pos (starEach [.Name "place" p3] X.env)).any (·.1) = false := by rfl) (hs : swapsWith (.Call (.Name x p1) [.Name "script" p2, .Name "place" p3] [] pos) (some (.Name "pot" p4)) p5.line X.env = pure false := by rfl)
    (hf : X.fn "pot" = true ∨ X.env.scope.names.lookup ("pot" : Str) = some .local := by first | exact .inl rfl | exact .inr rfl | assumption) :
    JS X tie0 [.Assign [.Name "pot" p4] (.Call (.Name x p1) [.Name "script" p2, .Name "place" p3] [] pos) p5, .If cond [.Return (some (.Constant (.bool false) j0 p6)) p8] [] p7] [.scr ns, .val d, .unk, .unk] (lawBody mf mt ns d) (Fl.oc fun _ : Unit => [.scr ns, .unk, .unk, .unk]) := ⟨fun {σ H F C s b s'} w hm Dn kq => by
  obtain ⟨r, s1, m1, hm1⟩ := B_some hm
  obtain ⟨e1, rfl⟩ := L_some m1
  obtain ⟨p0, s2, m2, hm2⟩ := B_some hm1
  obtain ⟨e2, rfl⟩ := L_some m2
  obtain ⟨c, s3, m3, hm3⟩ := B_some hm2
  obtain ⟨e3, rfl⟩ := L_some m3
  obtain ⟨jj, rfl, e4⟩ := callS_some e1
  have er := potD_some e2
  subst er
  obtain ⟨pz, e5⟩ := runT_some e3
  obtain ⟨ov0, g0, a0, rfl, na0, sc0⟩ := w.env.at_ 0 (.scr ns) rfl
  obtain ⟨ov1, g1, vp, rfl, rp⟩ := w.env.at_ 1 (.val (.int jj)) rfl
  cases rp
  obtain ⟨o1, o2, fd, o3, o4⟩ := o
  have hN2 : X.N[2]? = some ("pot" : Str) := by rw [hN]; rfl
  have hsl : σ.length = 4 := by rw [← w.env.len]; rfl
  refine sSs_of (pss_cons (ps_set (i := 2) hnd hN2 hl2 (pe_call o4 (hr.mono hk) hg o1 o2 o3 .nil (E := fun _ _ _ => False) pass0 (pa_cons (pe_var v0.hN v0.hv v0.hd v0.hcd) (pa_cons (pe_var v1.hN v1.hv v1.hd v1.hcd) pa_nil he2) he1) hdb he1 hpl) hs hf) (pss_one (ps_if (pT X cond) (pss_one (ps_ret pe_bl)) pss_nil))) ?_
  refine ⟨_, g0, _, g1, ?_⟩
  show spScr X.K mf ([V.ref a0, V.int jj] ++ []) F (fun x H1 => gName 2 x σ H1 fun σ' H' => tIfS (sT X cond) (tRet (tC (V.bl false))) tNext Dn σ' H') fun _ _ _ => False
  rw [List.append_nil]
  refine ⟨a0, [.int jj], ns, fun _ => none, [.int jj], _, rfl, sc0, ?_, Rps.cons (.int _) .nil, e4, fun v H1 F1 st rv => ?_⟩
  · intro a u z
    cases z
  obtain ⟨p, vs, rfl, hp, rvs⟩ := rv.list_inv
  have ev : vs = [V.int p0.a, V.int p0.b, V.int p0.c] := rvs.ints (ns := [p0.a, p0.b, p0.c])
  subst ev
  have fp : F p = none := st.fr p rfl (by rw [hp]; simp)
  have Hp0 : H p = none := Evl.fresh_back w.ex fp
  have F1p : F1 p = some (.lst [V.int p0.a, V.int p0.b, V.int p0.c]) := st.hf _ _ hp
  have F1F : ∀ a u, F a = some u → F1 a = some u := fun a u z => st.ff a u (fun q => q) z
  have exH : Ex H F1 := fun a u z => F1F _ _ (w.ex _ _ z)
  have sc1 : ScrR X.K F1 a0 ns := sc0.ex fun _ _ z => F1F _ _ z
  show sT X cond (σ.set 2 (some (V.ref p))) F1 fun c H' => if c = true then (tRet (tC (V.bl false))) Dn (σ.set 2 (some (V.ref p))) H' else tNext Dn (σ.set 2 (some (V.ref p))) H'
  refine (hj p).run (H := H) (F := F1) (s := p0) (σ := σ.set 2 (some (V.ref p))) exH ⟨by rw [List.length_set, hsl]; rfl, fun i sl hi => ?_, fun i i' sl sl' q hii hi oi _ _ _ => ?_⟩ ⟨F1p, Hp0⟩ e5 _ fun H3 F3 st3 at3 => ?_
  · match i, hi with
    | 0, hi => cases hi; exact ⟨_, by rw [List.getElem?_set_ne (by decide)]; exact g0, trivial⟩
    | 1, hi => cases hi; exact ⟨_, by rw [List.getElem?_set_ne (by decide)]; exact g1, trivial⟩
    | 2, hi => cases hi; exact ⟨_, by rw [List.getElem?_set_self (by omega)], p, rfl, rfl⟩
    | 3, hi => cases hi; exact ⟨_, by rw [List.getElem?_set_ne (by decide)]; exact List.getElem?_eq_getElem (by omega), trivial⟩
    | n + 4, hi => cases hi
  · match i, hi with
    | 0, hi => cases hi; cases oi
    | 1, hi => cases hi; cases oi
    | 2, hi => cases hi; cases oi
    | 3, hi => cases hi; cases oi
    | n + 4, hi => cases hi
  have cx3 : Ex C F3 := fun a u z => by
    have na : a ≠ p := fun q => by
      rw [q] at z
      rw [w.cx _ _ z] at fp
      cases fp
    exact st3.ff _ _ na (F1F _ _ (w.cx _ _ z))
  have cd3 : ∀ a u, C a = some u → H3 a = none := fun a u z => by
    cases q : H3 a with
    | none => rfl
    | some t =>
      have y := st3.fr a (w.cd a u z).1 (by rw [q]; simp)
      rw [F1F _ _ (w.cx _ _ z)] at y
      cases y
  have sc3 : ScrR X.K F3 a0 ns := sc1.ex fun ob u z => by
    have na : a0 ≠ p := fun q => by
      rw [q, F1p] at z
      cases z
    exact st3.ff _ _ na z
  cases c with
  | true =>
    obtain ⟨rfl, rfl⟩ := P_some (show P (Fl.rt (PyData.bool false)) _ = some (b, s') from hm3)
    exact kq (.bl false) H3 F3 st3.hh st3.hf trivial cx3 (fun a u z => ⟨cd3 a u z, fun q => q⟩) (.bl false)
  | false =>
    obtain ⟨rfl, rfl⟩ := P_some (show P (Fl.nx ()) _ = some (b, s') from hm3)
    refine kq _ H3 F3 st3.hh ⟨st3.hf, ⟨by rw [List.length_set, hsl]; rfl, fun i sl hi => ?_, fun i i' sl sl' q hii hi oi _ _ _ => ?_⟩, trivial, cx3, fun a u z => ⟨cd3 a u z, fun q => q, fun i sl hi oi => ?_⟩⟩
    · match i, hi with
      | 0, hi => cases hi; exact ⟨_, by rw [List.getElem?_set_ne (by decide)]; exact g0, a0, rfl, fun q => q, sc3⟩
      | 1, hi => cases hi; exact ⟨_, by rw [List.getElem?_set_ne (by decide)]; exact g1, trivial⟩
      | 2, hi => cases hi; exact ⟨_, by rw [List.getElem?_set_self (by omega)], trivial⟩
      | 3, hi => cases hi; exact ⟨_, by rw [List.getElem?_set_ne (by decide)]; exact List.getElem?_eq_getElem (by omega), trivial⟩
      | n + 4, hi => cases hi
    · match i, hi with
      | 0, hi => cases hi; cases oi
      | 1, hi => cases hi; cases oi
      | 2, hi => cases hi; cases oi
      | 3, hi => cases hi; cases oi
      | n + 4, hi => cases hi
    · match i, hi with
      | 0, hi => cases hi; cases oi
      | 1, hi => cases hi; cases oi
      | 2, hi => cases hi; cases oi
      | 3, hi => cases hi; cases oi
      | n + 4, hi => cases hi⟩
/-- the script given to a def that takes it -/
theorem je_callSO {S : Type} {T : Tie S} {ρ : List Sl} {m : M S D} {i : Nat} {y : Str} {pos' p : Pos} {es : List Expr} (o : DOk X.prog X.w X.K X.mg X.base k x ps (spScr X.K mf)) (hr : Room j X.A) (hk : k ≤ j) (hg : Gl X x) (hv : NmF X.env.scope X.N i y) (hρ : ρ[i]? = some (.scr ns)) (ha : JA X T es ρ (fun ds => L (mf ns ds)) m)
    (hdb : (x == ("__debug__" : Str)) = false := by decide)
    (he : starEach (.Name y pos' :: es) X.env = (false, eval (.Name y pos') X.env) :: starEach es X.env := by rfl) (hpl : (backTo pos (starEach es X.env)).any (·.1) = false := by rfl) : JE X T (.Call (.Name x p) (.Name y pos' :: es) [] pos) ρ m := ⟨fun {σ H F s d s'} hE hR hA hm' Q kq => by
  obtain ⟨h1, h2, fd, h3, h4⟩ := o
  refine sE_of (pe_call h4 (hr.mono hk) hg h1 h2 h3 .nil (E := fun _ _ _ => False) pass0 (pa_cons (pe_var hv.hN hv.hv hv.hd hv.hcd) (pA X es) he) hdb he hpl) ?_
  obtain ⟨ov, g1, a, rfl, g2, g3⟩ := hR.at_ i _ hρ
  refine ⟨_, g1, ha.run hE hR hA hm' _ fun vs ds s1 H1 F1 st1 a1 r1 hk' => ?_⟩
  obtain ⟨hg', rfl⟩ := L_some hk'
  show spScr X.K mf ((V.ref a :: vs) ++ []) F1 Q _
  rw [List.append_nil]
  obtain ⟨ov', g4, a', ea, g5, g6⟩ := (hR.step st1).at_ i _ hρ
  have ez : a' = a := by
    rw [g1] at g4
    have q := Option.some.inj g4
    rw [ea] at q
    exact (V.ref.inj (Option.some.inj q)).symm
  subst ez
  exact ⟨a', vs, ns, H1, ds, d, rfl, g6, st1.hf, r1, hg', fun v H2 F2 st2 r2 => kq v H2 F2 (st1.trans (st2.up a1)) (st2.at a1) r2⟩⟩
end
/-- the end: the promise of `law` at the script -/
theorem scr_of {K : PySem.W.Frag} {H : Hp} {a : Addr} {ns : List Int} (hO : Only H) (h : SqL K H a (ns.map V.int)) : ScrR K H a ns := by
  rcases h with h | h
  · rcases h with h | h
    · rcases hO a with z | ⟨o, xs, z⟩
      · rw [z] at h; cases h
      · rw [z] at h; cases h
    · exact .inl h
  · exact .inr h
end DL

set_option Elab.async false
set_option linter.all false
set_option maxRecDepth 100000
set_option maxHeartbeats 0
namespace K20
open PySem PySem.Spec PyProof.Rows L2 DL
def b_is_tuple (d1 d2 d3 : D) : M Unit D := B (B (P d1) fun x4 => L (isiD "tuple" x4)) fun x11 => B (L (boolD x11)) fun b12 => if b12 then B (P d2) fun x6 => B (B (P d1) fun x5 => L (lenD [x5])) fun x7 => B (L (leB x6 x7)) fun b8 => if b8 then B (P d3) fun x9 => B (L (leB x7 x9)) fun b10 => P (.bool b10) else P (.bool false) else P (.bool false)
def m_is_tuple : List D → Option D
  | [d1, d2, d3] => run0 (b_is_tuple d1 d2 d3)
  | _ => none
def b_is_whole (d13 : D) : M Unit D := B (B (P d13) fun x14 => L (isiD "int" x14)) fun x18 => B (L (boolD x18)) fun b19 => if b19 then B (B (P d13) fun x15 => L (isiD "bool" x15)) fun x16 => B (L (boolD x16)) fun b17 => P (.bool (!b17)) else P (.bool false)
def m_is_whole : List D → Option D
  | [d13] => run0 (b_is_whole d13)
  | _ => none
def b_is_integer (d20 d21 d22 : D) : M Unit D := B (B (P d20) fun x23 => L (m_is_whole [x23])) fun x29 => B (L (boolD x29)) fun b30 => if b30 then B (P d21) fun x24 => B (P d20) fun x25 => B (L (leB x24 x25)) fun b26 => if b26 then B (P d22) fun x27 => B (L (leB x25 x27)) fun b28 => P (.bool b28) else P (.bool false) else P (.bool false)
def m_is_integer : List D → Option D
  | [d20, d21, d22] => run0 (b_is_integer d20 d21 d22)
  | _ => none
def b_number_in (d31 d32 : D) : M Unit D := B (B (B (B (P (.int 1)) fun x36 => B (B (P d31) fun x33 => L (lenD [x33])) fun x37 => B (L (leB x36 x37)) fun b38 => if b38 then B (B (B (P d32) fun x34 => L (strL [x34])) fun x35 => L (lenD [x35])) fun x39 => L (leB x37 x39) else P false) fun b40 => P (!b40)) fun b53 => if b53 then P true else B (B (B (B (B (P d31) fun x41 => L (signD x41)) fun ds48 => B (cmp ds48 (fun d42 => B (B (P d42) fun x43 => B (P (.str ("0123456789" : Str))) fun x44 => B (L (inB x43 x44)) fun b45 => P (.bool b45)) fun x46 => P (some x46))) fun o49 => L (lstD o49)) fun x50 => L (allD [x50])) fun x51 => L (boolD x51)) fun b52 => P (!b52)) fun b54 => if b54 then P .none else B (B (P d31) fun x55 => L (intL [x55])) fun d56 => B (B (B (B (P d56) fun x57 => L (strL [x57])) fun x58 => B (P d31) fun x59 => L (eqB x58 x59)) fun b64 => if b64 then B (P d56) fun x61 => B (P d32) fun x62 => L (leB x61 x62) else P false) fun b65 => if b65 then P d56 else P .none
def m_number_in : List D → Option D
  | [d31, d32] => run0 (b_number_in d31 d32)
  | _ => none
def b_is_strand (d66 : D) : M Unit D := B (B (P d66) fun x67 => B (P (.int 1)) fun x68 => B (P (.int 60)) fun x69 => L (m_is_tuple [x67, x68, x69])) fun x80 => B (L (boolD x80)) fun b81 => if b81 then B (B (B (P d66) fun x70 => L (seqD x70)) fun ds77 => B (cmp ds77 (fun d71 => B (B (P d71) fun x72 => B (P (.int 0)) fun x73 => B (P (.int 100)) fun x74 => L (m_is_integer [x72, x73, x74])) fun x75 => P (some x75))) fun o78 => L (lstD o78)) fun x79 => L (allD [x79]) else P (.bool false)
def m_is_strand : List D → Option D
  | [d66] => run0 (b_is_strand d66)
  | _ => none
def b_check_strand (d82 : D) : M Unit Unit := B (B (B (B (P d82) fun x83 => L (m_is_strand [x83])) fun x84 => L (boolD x84)) fun b85 => P (!b85)) fun b86 => if b86 then fail else P ()
def m_check_strand : List D → Option D
  | [d82] => mNone (b_check_strand d82)
  | _ => none
def b_weakest (d87 : D) : M Unit D := B (B (P d87) fun x88 => L (m_check_strand [x88])) fun _ => B (B (P d87) fun x89 => L (minL [x89])) fun d90 => B (P d90) fun x91 => B (B (P d87) fun x92 => B (P d90) fun x93 => L (indexT x92 x93)) fun x94 => L (tupD [x91, x94])
def m_weakest : List D → Option D
  | [d87] => run0 (b_weakest d87)
  | _ => none
def b_cut (d95 d96 d97 : D) : M Unit D := B (B (P d95) fun x98 => L (m_check_strand [x98])) fun _ => B (B (B (B (P d96) fun x99 => B (P (.int 0)) fun x100 => B (B (B (P d95) fun x101 => L (lenD [x101])) fun x102 => B (P (.int 1)) fun x103 => L (subD x102 x103)) fun x104 => L (m_is_integer [x99, x100, x104])) fun x105 => L (boolD x105)) fun b106 => P (!b106)) fun b107 => if b107 then fail else B (B (B (B (P d97) fun x108 => B (B (P d96) fun x109 => B (P (.int 1)) fun x110 => L (addD x109 x110)) fun x111 => B (B (P d95) fun x112 => L (lenD [x112])) fun x113 => L (m_is_integer [x108, x111, x113])) fun x114 => L (boolD x114)) fun b115 => P (!b115)) fun b116 => if b116 then fail else B (P d95) fun x123 => B (B (P d96) fun x117 => B (L (partD x117)) fun i118 => P (some i118)) fun l121 => B (B (P d97) fun x119 => B (L (partD x119)) fun i120 => P (some i120)) fun h122 => L (sliceD x123 l121 h122)
def m_cut : List D → Option D
  | [d95, d96, d97] => run0 (b_cut d95 d96 d97)
  | _ => none
def b_end_to_end (d124 d125 : D) : M Unit D := B (B (P d124) fun x126 => L (m_check_strand [x126])) fun _ => B (B (P d125) fun x127 => L (m_check_strand [x127])) fun _ => B (B (B (B (P d124) fun x128 => L (lenD [x128])) fun x130 => B (B (P d125) fun x129 => L (lenD [x129])) fun x131 => L (addD x130 x131)) fun x132 => B (P (.int 60)) fun x133 => L (gtB x132 x133)) fun b135 => if b135 then fail else B (P d124) fun x136 => B (P d125) fun x137 => L (addD x136 x137)
def m_end_to_end : List D → Option D
  | [d124, d125] => run0 (b_end_to_end d124 d125)
  | _ => none
def b_turned (d138 : D) : M Unit D := B (B (P d138) fun x139 => L (m_check_strand [x139])) fun _ => B (P d138) fun x140 => L (revD x140)
def m_turned : List D → Option D
  | [d138] => run0 (b_turned d138)
  | _ => none
def b_swing (d141 : D) : M Unit D := B (B (P d141) fun x142 => L (m_check_strand [x142])) fun _ => B (B (B (P d141) fun x143 => B (B (P d141) fun x148 => B (B (P (.int 1)) fun x144 => B (L (partD x144)) fun i145 => P (some i145)) fun l146 => B (P none) fun h147 => L (sliceD x148 l146 h147)) fun x149 => L (zipL [x143, x149])) fun ds157 => B (cmp ds157 (fun d156 => u2 d156 fun d150 d151 => B (B (B (P d151) fun x152 => B (P d150) fun x153 => L (subD x152 x153)) fun x154 => L (absL [x154])) fun x155 => P (some x155))) fun o158 => L (lstD o158)) fun d159 => B (B (P d159) fun x160 => B (L (lstD [])) fun x161 => L (neB x160 x161)) fun b169 => if b169 then B (B (P d159) fun x163 => L (maxL [x163])) fun x164 => B (B (P d159) fun x166 => B (B (P d159) fun x165 => L (maxL [x165])) fun x167 => L (indexL x166 x167)) fun x168 => L (tupD [x164, x168]) else P .none
def m_swing : List D → Option D
  | [d141] => run0 (b_swing d141)
  | _ => none
def b_is_loose (d170 : D) : M Unit D := B (B (B (B (B (P d170) fun x171 => B (P (.int 1)) fun x172 => B (P (.int 60)) fun x173 => L (m_is_tuple [x171, x172, x173])) fun x174 => L (boolD x174)) fun b175 => P (!b175)) fun b188 => if b188 then P true else B (B (B (B (B (P d170) fun x176 => L (seqD x176)) fun ds183 => B (cmp ds183 (fun d177 => B (B (P d177) fun x178 => B (P (.int 2)) fun x179 => B (P (.int 2)) fun x180 => L (m_is_tuple [x178, x179, x180])) fun x181 => P (some x181))) fun o184 => L (lstD o184)) fun x185 => L (allD [x185])) fun x186 => L (boolD x186)) fun b187 => P (!b187)) fun b189 => if b189 then P (.bool false) else B (B (B (B (B (B (P d170) fun x190 => L (seqD x190)) fun ds198 => B (cmp ds198 (fun d197 => u2 d197 fun d191 d192 => B (B (P d191) fun x193 => B (P (.int 0)) fun x194 => B (P (.int 100)) fun x195 => L (m_is_integer [x193, x194, x195])) fun x196 => P (some x196))) fun o199 => L (lstD o199)) fun x200 => L (allD [x200])) fun x201 => L (boolD x201)) fun b202 => P (!b202)) fun b203 => if b203 then P (.bool false) else B (B (B (P d170) fun x204 => L (seqD x204)) fun ds212 => B (cmp ds212 (fun d211 => u2 d211 fun d205 d206 => B (B (P d206) fun x207 => B (P d205) fun x208 => B (P (.int 100)) fun x209 => L (m_is_integer [x207, x208, x209])) fun x210 => P (some x210))) fun o213 => L (lstD o213)) fun x214 => L (allD [x214])
def m_is_loose : List D → Option D
  | [d170] => run0 (b_is_loose d170)
  | _ => none
def b_check_loose (d215 : D) : M Unit Unit := B (B (B (B (P d215) fun x216 => L (m_is_loose [x216])) fun x217 => L (boolD x217)) fun b218 => P (!b218)) fun b219 => if b219 then fail else P ()
def m_check_loose : List D → Option D
  | [d215] => mNone (b_check_loose d215)
  | _ => none
def b_loosened (d220 d221 : D) : M Unit D := B (B (P d220) fun x222 => L (m_check_strand [x222])) fun _ => B (B (B (B (P d221) fun x223 => B (P (.int 0)) fun x224 => B (P (.int 100)) fun x225 => L (m_is_integer [x223, x224, x225])) fun x226 => L (boolD x226)) fun b227 => P (!b227)) fun b228 => if b228 then fail else B (B (B (P d220) fun x229 => L (seqD x229)) fun ds243 => B (cmp ds243 (fun d230 => B (B (B (P (.int 0)) fun x231 => B (B (P d230) fun x232 => B (P d221) fun x233 => L (subD x232 x233)) fun x234 => L (max2L [x231, x234])) fun x235 => B (B (P (.int 100)) fun x236 => B (B (P d230) fun x237 => B (P d221) fun x238 => L (addD x237 x238)) fun x239 => L (min2L [x236, x239])) fun x240 => L (tupD [x235, x240])) fun x241 => P (some x241))) fun o244 => L (lstD o244)) fun x245 => L (tupL [x245])
def m_loosened : List D → Option D
  | [d220, d221] => run0 (b_loosened d220 d221)
  | _ => none
def b_may_be (d246 d247 : D) : M Unit D := B (B (P d246) fun x248 => L (m_check_loose [x248])) fun _ => B (B (P d247) fun x249 => L (m_check_strand [x249])) fun _ => B (B (B (P d247) fun x250 => L (lenD [x250])) fun x252 => B (B (P d246) fun x251 => L (lenD [x251])) fun x253 => L (neB x252 x253)) fun b255 => if b255 then fail else B (B (B (P d247) fun x256 => B (P d246) fun x257 => L (zipL [x256, x257])) fun ds269 => B (cmp ds269 (fun d267 => u2 d267 fun d258 e268 => u2 e268 fun d259 d260 => B (B (P d259) fun x261 => B (P d258) fun x262 => B (L (leB x261 x262)) fun b263 => if b263 then B (P d260) fun x264 => B (L (leB x262 x264)) fun b265 => P (.bool b265) else P (.bool false)) fun x266 => P (some x266))) fun o270 => L (lstD o270)) fun x271 => L (allD [x271])
def m_may_be : List D → Option D
  | [d246, d247] => run0 (b_may_be d246 d247)
  | _ => none
def b_both (d272 d273 : D) : M Unit D := B (B (P d272) fun x274 => L (m_check_loose [x274])) fun _ => B (B (P d273) fun x275 => L (m_check_loose [x275])) fun _ => B (B (B (P d272) fun x276 => L (lenD [x276])) fun x278 => B (B (P d273) fun x277 => L (lenD [x277])) fun x279 => L (neB x278 x279)) fun b281 => if b281 then fail else B (B (B (P d272) fun x282 => B (P d273) fun x283 => L (zipL [x282, x283])) fun ds302 => B (cmp ds302 (fun d301 => u2 d301 fun d284 d285 => B (B (B (B (P d284) fun x287 => B (P (.int 0)) fun x286 => L (ixD x287 x286)) fun x288 => B (B (P d285) fun x290 => B (P (.int 0)) fun x289 => L (ixD x290 x289)) fun x291 => L (max2L [x288, x291])) fun x292 => B (B (B (P d284) fun x294 => B (P (.int 1)) fun x293 => L (ixD x294 x293)) fun x295 => B (B (P d285) fun x297 => B (P (.int 1)) fun x296 => L (ixD x297 x296)) fun x298 => L (min2L [x295, x298])) fun x299 => L (tupD [x292, x299])) fun x300 => P (some x300))) fun o303 => L (lstD o303)) fun d304 => B (B (B (B (B (P d304) fun x305 => L (seqD x305)) fun ds313 => B (cmp ds313 (fun d312 => u2 d312 fun d306 d307 => B (B (P d306) fun x308 => B (P d307) fun x309 => B (L (leB x308 x309)) fun b310 => P (.bool b310)) fun x311 => P (some x311))) fun o314 => L (lstD o314)) fun x315 => L (allD [x315])) fun x316 => L (boolD x316)) fun b318 => if b318 then B (P d304) fun x317 => L (tupL [x317]) else P .none
def m_both : List D → Option D
  | [d272, d273] => run0 (b_both d272 d273)
  | _ => none
def b_is_band (d319 : D) : M Unit D := B (B (B (B (B (P d319) fun x320 => B (P (.int 2)) fun x321 => B (P (.int 2)) fun x322 => L (m_is_tuple [x320, x321, x322])) fun x323 => L (boolD x323)) fun b324 => P (!b324)) fun b332 => if b332 then P true else B (B (B (B (P d319) fun x326 => B (P (.int 0)) fun x325 => L (ixD x326 x325)) fun x327 => B (P (.int 0)) fun x328 => B (P (.int 1000)) fun x329 => L (m_is_integer [x327, x328, x329])) fun x330 => L (boolD x330)) fun b331 => P (!b331)) fun b333 => if b333 then P (.bool false) else B (B (P d319) fun x335 => B (P (.int 1)) fun x334 => L (ixD x335 x334)) fun x336 => B (B (P d319) fun x338 => B (P (.int 0)) fun x337 => L (ixD x338 x337)) fun x339 => B (P (.int 1000)) fun x340 => L (m_is_integer [x336, x339, x340])
def m_is_band : List D → Option D
  | [d319] => run0 (b_is_band d319)
  | _ => none
def b_check_band (d341 : D) : M Unit Unit := B (B (B (B (P d341) fun x342 => L (m_is_band [x342])) fun x343 => L (boolD x343)) fun b344 => P (!b344)) fun b345 => if b345 then fail else P ()
def m_check_band : List D → Option D
  | [d341] => mNone (b_check_band d341)
  | _ => none
def b_strand_text (d346 : D) : M Unit D := B (B (P d346) fun x347 => L (m_check_strand [x347])) fun _ => B (P (.str (" " : Str))) fun x355 => B (B (B (P d346) fun x348 => L (seqD x348)) fun ds353 => B (cmp ds353 (fun d349 => B (B (P d349) fun x350 => L (strL [x350])) fun x351 => P (some x351))) fun o354 => L (lstD o354)) fun x356 => L (joinD x355 x356)
def m_strand_text : List D → Option D
  | [d346] => run0 (b_strand_text d346)
  | _ => none
def b_read_strand (d357 : D) : M Unit D := B (B (B (B (B (P d357) fun x358 => L (isiD "str" x358)) fun x359 => L (boolD x359)) fun b360 => P (!b360)) fun b367 => if b367 then P true else B (B (P (.int 1)) fun x362 => B (B (P d357) fun x361 => L (lenD [x361])) fun x363 => B (L (leB x362 x363)) fun b364 => if b364 then B (P (.int 2000)) fun x365 => L (leB x363 x365) else P false) fun b366 => P (!b366)) fun b368 => if b368 then fail else B (B (B (B (P d357) fun x369 => B (P (.str (" " : Str))) fun x370 => L (splitD x369 x370)) fun x371 => L (seqD x371)) fun ds377 => B (cmp ds377 (fun d372 => B (B (P d372) fun x373 => B (P (.int 100)) fun x374 => L (m_number_in [x373, x374])) fun x375 => P (some x375))) fun o378 => L (lstD o378)) fun d379 => B (B (B (P .none) fun x380 => B (P d379) fun x381 => L (inB x380 x381)) fun b387 => if b387 then P true else B (B (B (B (P d379) fun x383 => L (tupL [x383])) fun x384 => L (m_is_strand [x384])) fun x385 => L (boolD x385)) fun b386 => P (!b386)) fun b388 => if b388 then fail else B (P d379) fun x389 => L (tupL [x389])
def m_read_strand : List D → Option D
  | [d357] => run0 (b_read_strand d357)
  | _ => none
def b_is_thread (d390 : D) : M Unit D := B (B (B (B (B (P d390) fun x391 => B (P (.int 1)) fun x392 => B (P (.int 8)) fun x393 => L (m_is_tuple [x391, x392, x393])) fun x394 => L (boolD x394)) fun b395 => P (!b395)) fun b408 => if b408 then P true else B (B (B (B (B (P d390) fun x396 => L (seqD x396)) fun ds403 => B (cmp ds403 (fun d397 => B (B (P d397) fun x398 => B (P (.int 2)) fun x399 => B (P (.int 2)) fun x400 => L (m_is_tuple [x398, x399, x400])) fun x401 => P (some x401))) fun o404 => L (lstD o404)) fun x405 => L (allD [x405])) fun x406 => L (boolD x406)) fun b407 => P (!b407)) fun b409 => if b409 then P (.bool false) else B (B (B (P d390) fun x410 => L (seqD x410)) fun ds421 => B (cmp ds421 (fun d420 => u2 d420 fun d411 d412 => B (B (B (P d411) fun x413 => B (P (.int 0)) fun x414 => B (P (.int 200)) fun x415 => L (m_is_integer [x413, x414, x415])) fun x417 => B (L (boolD x417)) fun b418 => if b418 then B (P d412) fun x416 => L (m_is_strand [x416]) else P (.bool false)) fun x419 => P (some x419))) fun o422 => L (lstD o422)) fun x423 => L (allD [x423])
def m_is_thread : List D → Option D
  | [d390] => run0 (b_is_thread d390)
  | _ => none
def b_check_thread (d424 : D) : M Unit Unit := B (B (B (B (P d424) fun x425 => L (m_is_thread [x425])) fun x426 => L (boolD x426)) fun b427 => P (!b427)) fun b428 => if b428 then fail else P ()
def m_check_thread : List D → Option D
  | [d424] => mNone (b_check_thread d424)
  | _ => none
def b_span_of (d429 : D) : M Unit D := B (B (B (B (P d429) fun x430 => L (seqD x430)) fun ds435 => B (cmp ds435 (fun d434 => u2 d434 fun d431 d432 => B (P d431) fun x433 => P (some x433))) fun o436 => L (lstD o436)) fun x437 => L (minL [x437])) fun x438 => B (B (B (B (P d429) fun x439 => L (seqD x439)) fun ds447 => B (cmp ds447 (fun d446 => u2 d446 fun d440 d441 => B (B (P d440) fun x443 => B (B (P d441) fun x442 => L (lenD [x442])) fun x444 => L (addD x443 x444)) fun x445 => P (some x445))) fun o448 => L (lstD o448)) fun x449 => L (maxL [x449])) fun x450 => L (tupD [x438, x450])
def m_span_of : List D → Option D
  | [d429] => run0 (b_span_of d429)
  | _ => none
def b_span (d451 : D) : M Unit D := B (B (P d451) fun x452 => L (m_check_thread [x452])) fun _ => B (P d451) fun x453 => L (m_span_of [x453])
def m_span : List D → Option D
  | [d451] => run0 (b_span d451)
  | _ => none
def b_at_yard (d454 d455 : D) : M Unit D := B (B (B (P d454) fun x456 => L (seqD x456)) fun ds473 => B (cmp ds473 (fun d472 => u2 d472 fun d457 d458 => B (B (P d457) fun x467 => B (P d455) fun x468 => B (L (leB x467 x468)) fun b469 => if b469 then B (B (P d457) fun x465 => B (B (P d458) fun x464 => L (lenD [x464])) fun x466 => L (addD x465 x466)) fun x470 => L (ltB x468 x470) else P false) fun b471 => if b471 then B (B (P d458) fun x462 => B (B (P d455) fun x459 => B (P d457) fun x460 => L (subD x459 x460)) fun x461 => L (ixD x462 x461)) fun x463 => P (some x463) else P none)) fun o474 => L (lstD o474)) fun x475 => L (sumL [x475])
def m_at_yard : List D → Option D
  | [d454, d455] => run0 (b_at_yard d454 d455)
  | _ => none
def b_strengths_of (d476 : D) : M Unit D := B (B (P d476) fun x477 => L (m_span_of [x477])) (fun d489 => u2 d489 fun d478 d479 => B (B (P d478) fun x480 => B (P d479) fun x481 => L (range2L [x480, x481])) fun ds487 => B (cmp ds487 (fun d482 => B (B (P d476) fun x483 => B (P d482) fun x484 => L (m_at_yard [x483, x484])) fun x485 => P (some x485))) fun o488 => L (lstD o488))
def m_strengths_of : List D → Option D
  | [d476] => run0 (b_strengths_of d476)
  | _ => none
def b_strengths (d490 : D) : M Unit D := B (B (P d490) fun x491 => L (m_check_thread [x491])) fun _ => B (B (P d490) fun x492 => L (m_strengths_of [x492])) fun x493 => L (tupL [x493])
def m_strengths : List D → Option D
  | [d490] => run0 (b_strengths d490)
  | _ => none
def b_weakest_yard (d494 : D) : M Unit D := B (B (P d494) fun x495 => L (m_check_thread [x495])) fun _ => B (B (P d494) fun x496 => L (m_strengths_of [x496])) fun d497 => B (B (P d497) fun x498 => L (minL [x498])) fun x499 => B (B (B (B (P d494) fun x501 => L (m_span_of [x501])) fun x502 => B (P (.int 0)) fun x500 => L (ixD x502 x500)) fun x506 => B (B (P d497) fun x504 => B (B (P d497) fun x503 => L (minL [x503])) fun x505 => L (indexL x504 x505)) fun x507 => L (addD x506 x507)) fun x508 => L (tupD [x499, x508])
def m_weakest_yard : List D → Option D
  | [d494] => run0 (b_weakest_yard d494)
  | _ => none
def b_spread (d509 : D) : M Unit D := B (B (P d509) fun x510 => L (m_check_thread [x510])) fun _ => B (B (P d509) fun x511 => L (m_strengths_of [x511])) fun d512 => B (B (P d512) fun x513 => L (maxL [x513])) fun x515 => B (B (P d512) fun x514 => L (minL [x514])) fun x516 => L (subD x515 x516)
def m_spread : List D → Option D
  | [d509] => run0 (b_spread d509)
  | _ => none
def b_check_both (d517 d518 : D) : M Unit Unit := B (B (P d517) fun x519 => L (m_check_thread [x519])) fun _ => B (B (P d518) fun x520 => L (m_check_band [x520])) fun _ => P ()
def m_check_both : List D → Option D
  | [d517, d518] => mNone (b_check_both d517 d518)
  | _ => none
def b_uneven (d521 d522 : D) : M Unit D := B (B (P d521) fun x523 => B (P d522) fun x524 => L (m_check_both [x523, x524])) fun _ => B (B (B (P d521) fun x526 => L (m_span_of [x526])) fun x527 => B (P (.int 0)) fun x525 => L (ixD x527 x525)) fun d528 => B (B (B (B (P d521) fun x529 => L (m_strengths_of [x529])) fun x530 => L (enumD [x530])) fun ds547 => B (cmp ds547 (fun d546 => u2 d546 fun d531 d532 => B (B (B (B (P d522) fun x537 => B (P (.int 0)) fun x536 => L (ixD x537 x536)) fun x540 => B (P d532) fun x541 => B (L (leB x540 x541)) fun b542 => if b542 then B (B (P d522) fun x539 => B (P (.int 1)) fun x538 => L (ixD x539 x538)) fun x543 => L (leB x541 x543) else P false) fun b544 => P (!b544)) fun b545 => if b545 then B (B (P d528) fun x533 => B (P d531) fun x534 => L (addD x533 x534)) fun x535 => P (some x535) else P none)) fun o548 => L (lstD o548)) fun x549 => L (tupL [x549])
def m_uneven : List D → Option D
  | [d521, d522] => run0 (b_uneven d521 d522)
  | _ => none
def b_is_even (d550 d551 : D) : M Unit D := B (B (P d550) fun x552 => B (P d551) fun x553 => L (m_uneven [x552, x553])) fun x554 => B (L (tupD [])) fun x555 => B (L (eqB x554 x555)) fun b556 => P (.bool b556)
def m_is_even : List D → Option D
  | [d550, d551] => run0 (b_is_even d550 d551)
  | _ => none
def b_even_part (d557 d558 : D) : M Unit D := B (B (P d557) fun x559 => B (P d558) fun x560 => L (m_uneven [x559, x560])) fun d561 => B (B (P d557) fun x562 => L (m_span_of [x562])) (fun d609 => u2 d609 fun d563 d564 => B (B (B (P d563) fun x565 => B (P (.int 1)) fun x566 => L (subD x565 x566)) fun x567 => B (P d561) fun d568 => B (L (seqD d568)) fun s569 => B (P d564) fun x570 => L (lstD (x567 :: (s569 ++ (x570 :: []))))) fun d571 => B (B (B (P d571) fun x572 => B (B (P d571) fun x577 => B (B (P (.int 1)) fun x573 => B (L (partD x573)) fun i574 => P (some i574)) fun l575 => B (P none) fun h576 => L (sliceD x577 l575 h576)) fun x578 => L (zipL [x572, x578])) fun ds592 => B (cmp ds592 (fun d591 => u2 d591 fun d579 d580 => B (B (B (B (P d580) fun x581 => B (P d579) fun x582 => L (subD x581 x582)) fun x583 => B (P (.int 1)) fun x584 => L (subD x583 x584)) fun x585 => B (B (B (P d579) fun x586 => L (negD x586)) fun x587 => B (P (.int 1)) fun x588 => L (subD x587 x588)) fun x589 => L (tupD [x585, x589])) fun x590 => P (some x590))) fun o593 => L (lstD o593)) fun d594 => B (B (P d594) fun x595 => L (maxL [x595])) (fun d608 => u2 d608 fun d596 d597 => B (B (P d596) fun x598 => B (P (.int 0)) fun x599 => L (gtB x598 x599)) fun b607 => if b607 then B (B (P d597) fun x601 => L (negD x601)) fun x602 => B (B (B (P d597) fun x603 => L (negD x603)) fun x604 => B (P d596) fun x605 => L (addD x604 x605)) fun x606 => L (tupD [x602, x606]) else P .none))
def m_even_part : List D → Option D
  | [d557, d558] => run0 (b_even_part d557 d558)
  | _ => none
def b_least_band (d610 : D) : M Unit D := B (B (P d610) fun x611 => L (m_check_thread [x611])) fun _ => B (B (P d610) fun x612 => L (m_strengths_of [x612])) fun d613 => B (B (P d613) fun x614 => L (minL [x614])) fun x615 => B (B (P d613) fun x616 => L (maxL [x616])) fun x617 => L (tupD [x615, x617])
def m_least_band : List D → Option D
  | [d610] => run0 (b_least_band d610)
  | _ => none
def b_beside (d618 : D) : M Unit D := B (B (P d618) fun x619 => L (m_check_thread [x619])) fun _ => B (B (P d618) fun x620 => L (m_span_of [x620])) (fun d650 => u2 d650 fun d621 d622 => B (L (lstS [])) fun d623 => B (B (P d621) fun x624 => B (P d622) fun x625 => L (range2L [x624, x625])) fun ds649 => B (foldS ds649 (d623 : (List D)) fun a626 => fun d627 => B (B (B (B (P d618) fun x628 => L (seqD x628)) fun ds641 => B (cmp ds641 (fun d640 => u2 d640 fun d629 d630 => B (B (P d629) fun x635 => B (P d627) fun x636 => B (L (leB x635 x636)) fun b637 => if b637 then B (B (P d629) fun x633 => B (B (P d630) fun x632 => L (lenD [x632])) fun x634 => L (addD x633 x634)) fun x638 => L (ltB x636 x638) else P false) fun b639 => if b639 then B (P d629) fun x631 => P (some x631) else P none)) fun o642 => L (lstD o642)) fun x643 => L (lenD [x643])) fun d644 => B (L (appL a626 d644)) fun ys645 => P ys645) fun a647 : (List D) => B (P (.list a647)) fun x648 => L (tupL [x648]))
def m_beside : List D → Option D
  | [d618] => run0 (b_beside d618)
  | _ => none
def b_joins (d651 : D) : M Unit D := B (B (P d651) fun x652 => L (m_check_thread [x652])) fun _ => B (B (B (P d651) fun x654 => L (m_span_of [x654])) fun x655 => B (P (.int 0)) fun x653 => L (ixD x655 x653)) fun d656 => B (B (B (B (P d651) fun x657 => L (seqD x657)) fun ds666 => B (cmp ds666 (fun d665 => u2 d665 fun d658 d659 => B (B (P d658) fun x661 => B (P d656) fun x662 => L (gtB x661 x662)) fun b664 => if b664 then B (P d658) fun x660 => P (some x660) else P none)) fun o667 => L (lstD o667)) fun x668 => L (sortedL [x668])) fun x669 => L (tupL [x669])
def m_joins : List D → Option D
  | [d651] => run0 (b_joins d651)
  | _ => none
def b_moved (d670 d671 : D) : M Unit D := B (B (P d670) fun x672 => L (m_check_thread [x672])) fun _ => B (B (B (B (P d671) fun x673 => B (P (.int 0)) fun x674 => B (B (P (.int 200)) fun x683 => B (B (B (B (P d670) fun x675 => L (seqD x675)) fun ds680 => B (cmp ds680 (fun d679 => u2 d679 fun d676 d677 => B (P d676) fun x678 => P (some x678))) fun o681 => L (lstD o681)) fun x682 => L (maxL [x682])) fun x684 => L (subD x683 x684)) fun x685 => L (m_is_integer [x673, x674, x685])) fun x686 => L (boolD x686)) fun b687 => P (!b687)) fun b688 => if b688 then fail else B (B (B (P d670) fun x689 => L (seqD x689)) fun ds698 => B (cmp ds698 (fun d697 => u2 d697 fun d690 d691 => B (B (B (P d690) fun x692 => B (P d671) fun x693 => L (addD x692 x693)) fun x694 => B (P d691) fun x695 => L (tupD [x694, x695])) fun x696 => P (some x696))) fun o699 => L (lstD o699)) fun x700 => L (tupL [x700])
def m_moved : List D → Option D
  | [d670, d671] => run0 (b_moved d670 d671)
  | _ => none
def b_trimmed (d701 d702 d703 : D) : M Unit D := B (B (P d701) fun x704 => L (m_check_thread [x704])) fun _ => B (B (B (B (P d702) fun x705 => B (P (.int 0)) fun x706 => B (P (.int 200)) fun x707 => L (m_is_integer [x705, x706, x707])) fun x708 => L (boolD x708)) fun b709 => P (!b709)) fun b710 => if b710 then fail else B (B (B (B (P d703) fun x711 => B (B (P d702) fun x712 => B (P (.int 1)) fun x713 => L (addD x712 x713)) fun x714 => B (B (P (.int 2)) fun x715 => B (P (.int 200)) fun x716 => L (mulD x715 x716)) fun x717 => L (m_is_integer [x711, x714, x717])) fun x718 => L (boolD x718)) fun b719 => P (!b719)) fun b720 => if b720 then fail else B (L (lstS [])) fun d721 => B (B (P d701) fun x722 => L (seqD x722)) fun ds762 => B (foldS ds762 (d721 : (List D)) fun a723 => fun d755 => u2 d755 fun d724 d725 => B (B (P d702) fun x726 => B (P d724) fun x727 => L (max2L [x726, x727])) fun d733 => B (B (P d703) fun x728 => B (B (P d724) fun x730 => B (B (P d725) fun x729 => L (lenD [x729])) fun x731 => L (addD x730 x731)) fun x732 => L (min2L [x728, x732])) fun d734 => B (B (P d733) fun x735 => B (P d734) fun x736 => L (ltB x735 x736)) fun b738 => B (if b738 then B (B (P d733) fun x739 => B (B (P d725) fun x750 => B (B (B (P d733) fun x740 => B (P d724) fun x741 => L (subD x740 x741)) fun x742 => B (L (partD x742)) fun i743 => P (some i743)) fun l748 => B (B (B (P d734) fun x744 => B (P d724) fun x745 => L (subD x744 x745)) fun x746 => B (L (partD x746)) fun i747 => P (some i747)) fun h749 => L (sliceD x750 l748 h749)) fun x751 => L (tupD [x739, x751])) fun d752 => B (L (appL a723 d752)) fun ys753 => P ys753 else P a723) fun a754 : (List D) => P a754) fun a756 : (List D) => B (B (P (.list a756)) fun x757 => B (L (lstD [])) fun x758 => L (neB x757 x758)) fun b761 => if b761 then B (P (.list a756)) fun x760 => L (tupL [x760]) else P .none
def m_trimmed : List D → Option D
  | [d701, d702, d703] => run0 (b_trimmed d701 d702 d703)
  | _ => none
def b_needless (d763 d764 : D) : M Unit D := B (B (P d763) fun x765 => B (P d764) fun x766 => L (m_check_both [x765, x766])) fun _ => B (B (P d763) fun x767 => L (m_span_of [x767])) (fun d820 => u2 d820 fun d768 d769 => B (L (lstS [])) fun d770 => B (B (B (P d763) fun x771 => L (lenD [x771])) fun x772 => L (range1L [x772])) fun ds819 => B (foldS ds819 (d770 : (List D)) fun a773 => fun d774 => B (B (B (P d763) fun x779 => B (P none) fun l777 => B (B (P d774) fun x775 => B (L (partD x775)) fun i776 => P (some i776)) fun h778 => L (sliceD x779 l777 h778)) fun d780 => B (L (seqD d780)) fun s781 => B (B (P d763) fun x788 => B (B (B (P d774) fun x782 => B (P (.int 1)) fun x783 => L (addD x782 x783)) fun x784 => B (L (partD x784)) fun i785 => P (some i785)) fun l786 => B (P none) fun h787 => L (sliceD x788 l786 h787)) fun d789 => B (L (seqD d789)) fun s790 => L (lstD (s781 ++ (s790 ++ [])))) fun d791 => B (B (B (B (B (P d768) fun x792 => B (P d769) fun x793 => L (range2L [x792, x793])) fun ds808 => B (cmp ds808 (fun d794 => B (B (B (P d764) fun x796 => B (P (.int 0)) fun x795 => L (ixD x796 x795)) fun x801 => B (B (P d791) fun x797 => B (P d794) fun x798 => L (m_at_yard [x797, x798])) fun x802 => B (L (leB x801 x802)) fun b803 => if b803 then B (B (P d764) fun x800 => B (P (.int 1)) fun x799 => L (ixD x800 x799)) fun x804 => B (L (leB x802 x804)) fun b805 => P (.bool b805) else P (.bool false)) fun x806 => P (some x806))) fun o809 => L (lstD o809)) fun x810 => L (allD [x810])) fun x811 => L (boolD x811)) fun b812 => B (if b812 then B (P d774) fun d813 => B (L (appL a773 d813)) fun ys814 => P ys814 else P a773) fun a815 : (List D) => P a815) fun a817 : (List D) => B (P (.list a817)) fun x818 => L (tupL [x818]))
def m_needless : List D → Option D
  | [d763, d764] => run0 (b_needless d763 d764)
  | _ => none
def b_is_bounds (d821 : D) : M Unit D := B (B (B (B (B (P d821) fun x822 => B (P (.int 1)) fun x823 => B (P (.int 260)) fun x824 => L (m_is_tuple [x822, x823, x824])) fun x825 => L (boolD x825)) fun b826 => P (!b826)) fun b839 => if b839 then P true else B (B (B (B (B (P d821) fun x827 => L (seqD x827)) fun ds834 => B (cmp ds834 (fun d828 => B (B (P d828) fun x829 => B (P (.int 2)) fun x830 => B (P (.int 2)) fun x831 => L (m_is_tuple [x829, x830, x831])) fun x832 => P (some x832))) fun o835 => L (lstD o835)) fun x836 => L (allD [x836])) fun x837 => L (boolD x837)) fun b838 => P (!b838)) fun b840 => if b840 then P (.bool false) else B (B (B (B (B (B (P d821) fun x841 => L (seqD x841)) fun ds849 => B (cmp ds849 (fun d848 => u2 d848 fun d842 d843 => B (B (P d842) fun x844 => B (P (.int 0)) fun x845 => B (P (.int 1000)) fun x846 => L (m_is_integer [x844, x845, x846])) fun x847 => P (some x847))) fun o850 => L (lstD o850)) fun x851 => L (allD [x851])) fun x852 => L (boolD x852)) fun b853 => P (!b853)) fun b854 => if b854 then P (.bool false) else B (B (B (P d821) fun x855 => L (seqD x855)) fun ds863 => B (cmp ds863 (fun d862 => u2 d862 fun d856 d857 => B (B (P d857) fun x858 => B (P d856) fun x859 => B (P (.int 1000)) fun x860 => L (m_is_integer [x858, x859, x860])) fun x861 => P (some x861))) fun o864 => L (lstD o864)) fun x865 => L (allD [x865])
def m_is_bounds : List D → Option D
  | [d821] => run0 (b_is_bounds d821)
  | _ => none
def b_check_bounds (d866 : D) : M Unit Unit := B (B (B (B (P d866) fun x867 => L (m_is_bounds [x867])) fun x868 => L (boolD x868)) fun b869 => P (!b869)) fun b870 => if b870 then fail else P ()
def m_check_bounds : List D → Option D
  | [d866] => mNone (b_check_bounds d866)
  | _ => none
def b_bounds_of (d871 : D) : M Unit D := B (B (B (B (B (P d871) fun x872 => B (P (.int 1)) fun x873 => B (P (.int 8)) fun x874 => L (m_is_tuple [x872, x873, x874])) fun x875 => L (boolD x875)) fun b876 => P (!b876)) fun b889 => if b889 then P true else B (B (B (B (B (P d871) fun x877 => L (seqD x877)) fun ds884 => B (cmp ds884 (fun d878 => B (B (P d878) fun x879 => B (P (.int 2)) fun x880 => B (P (.int 2)) fun x881 => L (m_is_tuple [x879, x880, x881])) fun x882 => P (some x882))) fun o885 => L (lstD o885)) fun x886 => L (allD [x886])) fun x887 => L (boolD x887)) fun b888 => P (!b888)) fun b890 => if b890 then fail else B (B (B (B (B (B (P d871) fun x891 => L (seqD x891)) fun ds902 => B (cmp ds902 (fun d901 => u2 d901 fun d892 d893 => B (B (B (P d892) fun x894 => B (P (.int 0)) fun x895 => B (P (.int 200)) fun x896 => L (m_is_integer [x894, x895, x896])) fun x898 => B (L (boolD x898)) fun b899 => if b899 then B (P d893) fun x897 => L (m_is_loose [x897]) else P (.bool false)) fun x900 => P (some x900))) fun o903 => L (lstD o903)) fun x904 => L (allD [x904])) fun x905 => L (boolD x905)) fun b906 => P (!b906)) fun b907 => if b907 then fail else B (B (B (B (P d871) fun x908 => L (seqD x908)) fun ds913 => B (cmp ds913 (fun d912 => u2 d912 fun d909 d910 => B (P d909) fun x911 => P (some x911))) fun o914 => L (lstD o914)) fun x915 => L (minL [x915])) fun d927 => B (B (B (B (P d871) fun x916 => L (seqD x916)) fun ds924 => B (cmp ds924 (fun d923 => u2 d923 fun d917 d918 => B (B (P d917) fun x920 => B (B (P d918) fun x919 => L (lenD [x919])) fun x921 => L (addD x920 x921)) fun x922 => P (some x922))) fun o925 => L (lstD o925)) fun x926 => L (maxL [x926])) fun d928 => B (L (lstS [])) fun d929 => B (B (P d927) fun x930 => B (P d928) fun x931 => L (range2L [x930, x931])) fun ds977 => B (foldS ds977 (d929 : (List D)) fun a932 => fun d933 => B (B (B (P d871) fun x934 => L (seqD x934)) fun ds951 => B (cmp ds951 (fun d950 => u2 d950 fun d935 d936 => B (B (P d935) fun x945 => B (P d933) fun x946 => B (L (leB x945 x946)) fun b947 => if b947 then B (B (P d935) fun x943 => B (B (P d936) fun x942 => L (lenD [x942])) fun x944 => L (addD x943 x944)) fun x948 => L (ltB x946 x948) else P false) fun b949 => if b949 then B (B (P d936) fun x940 => B (B (P d933) fun x937 => B (P d935) fun x938 => L (subD x937 x938)) fun x939 => L (ixD x940 x939)) fun x941 => P (some x941) else P none)) fun o952 => L (lstD o952)) fun d953 => B (B (B (B (B (P d953) fun x954 => L (seqD x954)) fun ds959 => B (cmp ds959 (fun d958 => u2 d958 fun d955 d956 => B (P d955) fun x957 => P (some x957))) fun o960 => L (lstD o960)) fun x961 => L (sumL [x961])) fun x962 => B (B (B (B (P d953) fun x963 => L (seqD x963)) fun ds968 => B (cmp ds968 (fun d967 => u2 d967 fun d964 d965 => B (P d965) fun x966 => P (some x966))) fun o969 => L (lstD o969)) fun x970 => L (sumL [x970])) fun x971 => L (tupD [x962, x971])) fun d972 => B (L (appL a932 d972)) fun ys973 => P ys973) fun a975 : (List D) => B (P (.list a975)) fun x976 => L (tupL [x976])
def m_bounds_of : List D → Option D
  | [d871] => run0 (b_bounds_of d871)
  | _ => none
def b_verdict_of (d978 d979 : D) : M Unit D := B (B (B (B (B (P d978) fun x980 => L (seqD x980)) fun ds997 => B (cmp ds997 (fun d996 => u2 d996 fun d981 d982 => B (B (B (P d982) fun x985 => B (B (P d979) fun x984 => B (P (.int 0)) fun x983 => L (ixD x984 x983)) fun x986 => B (L (ltB x985 x986)) fun b987 => P (.bool b987)) fun x993 => B (L (boolD x993)) fun b994 => if b994 then P (.bool true) else B (P d981) fun x990 => B (B (P d979) fun x989 => B (P (.int 1)) fun x988 => L (ixD x989 x988)) fun x991 => B (L (gtB x990 x991)) fun b992 => P (.bool b992)) fun x995 => P (some x995))) fun o998 => L (lstD o998)) fun x999 => L (anyD [x999])) fun x1000 => L (boolD x1000)) fun b1001 => if b1001 then P (.str ("never" : Str)) else B (B (B (B (B (P d978) fun x1002 => L (seqD x1002)) fun ds1019 => B (cmp ds1019 (fun d1018 => u2 d1018 fun d1003 d1004 => B (B (B (B (P d979) fun x1006 => B (P (.int 0)) fun x1005 => L (ixD x1006 x1005)) fun x1007 => B (P d1003) fun x1008 => B (L (leB x1007 x1008)) fun b1009 => P (.bool b1009)) fun x1015 => B (L (boolD x1015)) fun b1016 => if b1016 then B (P d1004) fun x1012 => B (B (P d979) fun x1011 => B (P (.int 1)) fun x1010 => L (ixD x1011 x1010)) fun x1013 => B (L (leB x1012 x1013)) fun b1014 => P (.bool b1014) else P (.bool false)) fun x1017 => P (some x1017))) fun o1020 => L (lstD o1020)) fun x1021 => L (allD [x1021])) fun x1022 => L (boolD x1022)) fun b1023 => if b1023 then P (.str ("sure" : Str)) else P (.str ("open" : Str))
def m_verdict_of : List D → Option D
  | [d978, d979] => run0 (b_verdict_of d978 d979)
  | _ => none
def b_even (d1024 d1025 : D) : M Unit D := B (B (P d1024) fun x1026 => L (m_check_bounds [x1026])) fun _ => B (B (P d1025) fun x1027 => L (m_check_band [x1027])) fun _ => B (P d1024) fun x1028 => B (P d1025) fun x1029 => L (m_verdict_of [x1028, x1029])
def m_even : List D → Option D
  | [d1024, d1025] => run0 (b_even d1024 d1025)
  | _ => none
def b_borne (d1030 : D) : M Unit D := B (B (P d1030) fun x1031 => L (m_check_bounds [x1031])) fun _ => B (B (B (B (P d1030) fun x1032 => L (seqD x1032)) fun ds1037 => B (cmp ds1037 (fun d1036 => u2 d1036 fun d1033 d1034 => B (P d1033) fun x1035 => P (some x1035))) fun o1038 => L (lstD o1038)) fun x1039 => L (minL [x1039])) fun x1040 => B (B (B (B (P d1030) fun x1041 => L (seqD x1041)) fun ds1046 => B (cmp ds1046 (fun d1045 => u2 d1045 fun d1042 d1043 => B (P d1043) fun x1044 => P (some x1044))) fun o1047 => L (lstD o1047)) fun x1048 => L (minL [x1048])) fun x1049 => L (tupD [x1040, x1049])
def m_borne : List D → Option D
  | [d1030] => run0 (b_borne d1030)
  | _ => none
def b__law_pot (ns : List Int) (d1050 : D) : M Unit D := B (B (B (P d1050) fun x1051 => B (P (.int ns.length)) fun x1052 => L (ltB x1051 x1052)) fun b1068 => if b1068 then B (P d1050) fun x1054 => L (ixD (.list (ns.map .int)) x1054) else B (B (B (B (B (P none) fun l1057 => B (B (P (.int 1)) fun x1055 => B (L (partD x1055)) fun i1056 => P (some i1056)) fun h1058 => L (sliceD (.list (ns.map .int)) l1057 h1058)) fun x1059 => L (sumL [x1059])) fun x1060 => B (P (.int 1000003)) fun x1061 => L (modD x1060 x1061)) fun x1064 => B (B (P (.int 7741)) fun x1062 => B (P d1050) fun x1063 => L (mulD x1062 x1063)) fun x1065 => L (addD x1064 x1065)) fun x1066 => B (P (.int 24802)) fun x1067 => L (addD x1066 x1067)) fun d1069 => B (B (B (B (B (P d1069) fun x1070 => L (absL [x1070])) fun x1071 => L (intL [x1071])) fun x1076 => B (B (B (P (.int 10)) fun x1072 => B (P (.int 60)) fun x1073 => L (powD x1072 x1073)) fun x1074 => B (P (.int 5)) fun x1075 => L (powD x1074 x1075)) fun x1077 => L (modD x1076 x1077)) fun x1085 => B (B (B (B (P d1069) fun x1078 => L (absL [x1078])) fun x1081 => B (B (P (.int 10)) fun x1079 => B (P (.int 18)) fun x1080 => L (powD x1079 x1080)) fun x1082 => B (L (geB x1081 x1082)) fun b1083 => P (.bool b1083)) fun x1084 => L (intL [x1084])) fun x1086 => L (mulD x1085 x1086)) fun d1087 => B (B (B (P d1069) fun x1088 => L (intL [x1088])) fun x1089 => B (P (.int 2305843009213693951)) fun x1090 => L (modD x1089 x1090)) fun d1091 => B (P d1087) fun x1092 => B (B (B (B (B (B (P d1091) fun x1093 => B (P (.int 113546)) fun x1094 => L (mulD x1093 x1094)) fun x1099 => B (B (B (P (.int 8861)) fun x1095 => B (P d1050) fun x1096 => L (mulD x1095 x1096)) fun x1097 => B (P d1050) fun x1098 => L (mulD x1097 x1098)) fun x1100 => L (addD x1099 x1100)) fun x1101 => B (P (.int 241)) fun x1102 => L (addD x1101 x1102)) fun x1103 => L (intL [x1103])) fun x1104 => B (P (.int 2305843009213693921)) fun x1105 => L (modD x1104 x1105)) fun x1106 => B (P (.int 0)) fun x1107 => L (lstD [x1092, x1106, x1107])
def m__law_pot (ns : List Int) : List D → Option D
  | [d1050] => run0 (b__law_pot ns d1050)
  | _ => none
def b__law_take (d1108 : D) : M Pot D := B (B (getP 0) fun x1109 => B (P (.int 0)) fun x1110 => L (gtB x1109 x1110)) fun b1112 => if b1112 then B (B (B (getP 0) fun x1113 => L (intL [x1113])) fun x1114 => B (P d1108) fun x1115 => L (modD x1114 x1115)) fun d1116 => B (B (getP 0) fun x1117 => B (P d1108) fun x1118 => L (divD x1117 x1118)) fun d1119 => B (putP 0 d1119) fun _ => P d1116 else B (B (getP 2) fun x1120 => B (P (.int 1)) fun x1121 => L (addD x1120 x1121)) fun d1122 => B (putP 2 d1122) fun _ => B (B (B (P (.int 2147483647)) fun x1127 => B (P (.int 2147483629)) fun x1128 => B (P (.int 2147483587)) fun x1129 => B (P (.int 2147483579)) fun x1130 => B (P (.int 2147483563)) fun x1131 => L (lstD [x1127, x1128, x1129, x1130, x1131])) fun x1132 => B (B (B (getP 2) fun x1123 => L (intL [x1123])) fun x1124 => B (P (.int 5)) fun x1125 => L (modD x1124 x1125)) fun x1126 => L (ixD x1132 x1126)) fun d1133 => B (B (B (B (B (B (B (getP 1) fun x1138 => B (B (B (P (.int 98833)) fun x1134 => B (getP 2) fun x1135 => L (mulD x1134 x1135)) fun x1136 => B (getP 2) fun x1137 => L (mulD x1136 x1137)) fun x1139 => L (addD x1138 x1139)) fun x1140 => B (P (.int 107)) fun x1141 => L (addD x1140 x1141)) fun x1142 => L (intL [x1142])) fun x1143 => B (P (.int 3)) fun x1144 => L (powD x1143 x1144)) fun x1145 => L (intL [x1145])) fun x1146 => B (P d1133) fun x1147 => L (modD x1146 x1147)) fun d1148 => B (B (B (B (P d1148) fun x1156 => B (B (B (B (P d1148) fun x1149 => L (intL [x1149])) fun x1150 => B (P (.int 10047)) fun x1151 => L (modD x1150 x1151)) fun x1154 => B (B (P (.int 123)) fun x1152 => B (getP 2) fun x1153 => L (mulD x1152 x1153)) fun x1155 => L (addD x1154 x1155)) fun x1157 => L (mulD x1156 x1157)) fun x1158 => L (intL [x1158])) fun x1159 => B (P (.int 2305843009213693907)) fun x1160 => L (modD x1159 x1160)) fun d1161 => B (B (B (P d1161) fun x1162 => B (P (.int 167)) fun x1163 => L (divD x1162 x1163)) fun x1164 => L (intL [x1164])) fun x1165 => B (P d1108) fun x1166 => L (modD x1165 x1166)
def m__law_take : List D → M Pot D
  | [d1108] => b__law_take d1108
  | _ => fail
def b__law_of (d1167 : D) : M Pot D := B (P d1167) fun x1171 => B (B (B (P d1167) fun x1168 => L (lenD [x1168])) fun x1169 => m__law_take [x1169]) fun x1170 => L (ixD x1171 x1170)
def m__law_of : List D → M Pot D
  | [d1167] => b__law_of d1167
  | _ => fail
def b__law_places (ns : List Int) (d1172 : D) : M Unit D := B (B (P (.int 1)) fun x1173 => B (B (P d1172) fun x1174 => B (P (.int ns.length)) fun x1175 => L (min2L [x1174, x1175])) fun x1176 => L (max2L [x1173, x1176])) fun x1177 => L (lrgD x1177)
def m__law_places (ns : List Int) : List D → Option D
  | [d1172] => run0 (b__law_places ns d1172)
  | _ => none
def b__law_strand (d1178 d1179 : D) : M Pot D := B (B (B (B (P (.int 1)) fun x1181 => B (B (P d1178) fun x1180 => m__law_take [x1180]) fun x1182 => L (addD x1181 x1182)) fun x1183 => L (range1L [x1183])) fun ds1191 => B (cmp ds1191 (fun d1184 => B (B (B (B (P d1179) fun x1185 => B (P (.int 1)) fun x1186 => L (addD x1185 x1186)) fun x1187 => m__law_take [x1187]) fun x1188 => L (intL [x1188])) fun x1189 => P (some x1189))) fun o1192 => L (lstD o1192)) fun x1193 => L (tupL [x1193])
def m__law_strand : List D → M Pot D
  | [d1178, d1179] => b__law_strand d1178 d1179
  | _ => fail
def b__law_thread (d1194 : D) : M Pot D := B (L (lstS [])) fun d1195 => B (B (B (P (.int 1)) fun x1197 => B (B (P d1194) fun x1196 => m__law_take [x1196]) fun x1198 => L (addD x1197 x1198)) fun x1199 => L (range1L [x1199])) fun ds1216 => B (foldS ds1216 (d1195 : (List D)) fun a1200 => fun d1201 => B (B (B (B (P (.int 20)) fun x1202 => m__law_take [x1202]) fun x1203 => L (intL [x1203])) fun x1204 => B (B (P (.int 20)) fun x1205 => B (B (B (P (.int 3)) fun x1206 => B (P (.int 100)) fun x1207 => L (lstD [x1206, x1207])) fun x1208 => m__law_of [x1208]) fun x1209 => m__law_strand [x1205, x1209]) fun x1210 => L (tupD [x1204, x1210])) fun d1211 => B (L (appL a1200 d1211)) fun ys1212 => P ys1212) fun a1214 : (List D) => B (P (.list a1214)) fun x1215 => L (tupL [x1215])
def m__law_thread : List D → M Pot D
  | [d1194] => b__law_thread d1194
  | _ => fail
def b__law_by_yard (d1217 : D) : M Unit D := B (B (B (P d1217) fun x1219 => L (m_span [x1219])) fun x1220 => B (P (.int 0)) fun x1218 => L (ixD x1220 x1218)) fun d1221 => B (B (B (B (P d1217) fun x1222 => L (m_strengths [x1222])) fun x1223 => L (enumTD [x1223])) fun ds1232 => B (cmp ds1232 (fun d1231 => u2 d1231 fun d1224 d1225 => B (B (B (P d1221) fun x1226 => B (P d1224) fun x1227 => L (addD x1226 x1227)) fun x1228 => B (P d1225) fun x1229 => L (tupD [x1228, x1229])) fun x1230 => P (some x1230))) fun o1233 => L (lstD o1233)) fun x1234 => L (dictL [x1234])
def m__law_by_yard : List D → Option D
  | [d1217] => run0 (b__law_by_yard d1217)
  | _ => none
def b__law_is_band_right (d1235 d1236 d1237 d1238 : D) : M Unit D := B (B (B (P d1236) fun x1239 => L (seqD x1239)) fun ds1252 => B (cmp ds1252 (fun d1240 => B (B (B (P d1238) fun x1242 => B (P (.int 0)) fun x1241 => L (ixD x1242 x1241)) fun x1245 => B (P d1240) fun x1246 => B (L (leB x1245 x1246)) fun b1247 => if b1247 then B (B (P d1238) fun x1244 => B (P (.int 1)) fun x1243 => L (ixD x1244 x1243)) fun x1248 => B (L (leB x1246 x1248)) fun b1249 => P (.bool b1249) else P (.bool false)) fun x1250 => P (some x1250))) fun o1253 => L (lstD o1253)) fun d1254 => B (B (B (P d1235) fun x1255 => B (P d1238) fun x1256 => L (m_uneven [x1255, x1256])) fun x1270 => B (B (B (B (P d1254) fun x1257 => L (enumD [x1257])) fun ds1267 => B (cmp ds1267 (fun d1266 => u2 d1266 fun d1258 d1259 => B (B (B (P d1259) fun x1263 => L (boolD x1263)) fun b1264 => P (!b1264)) fun b1265 => if b1265 then B (B (P d1237) fun x1260 => B (P d1258) fun x1261 => L (addD x1260 x1261)) fun x1262 => P (some x1262) else P none)) fun o1268 => L (lstD o1268)) fun x1269 => L (tupL [x1269])) fun x1271 => L (neB x1270 x1271)) fun b1273 => if b1273 then P (.bool false) else B (B (B (B (P d1235) fun x1274 => B (P d1238) fun x1275 => L (m_is_even [x1274, x1275])) fun x1277 => B (B (P d1254) fun x1276 => L (allD [x1276])) fun x1278 => L (neB x1277 x1278)) fun b1292 => if b1292 then P true else B (B (P d1235) fun x1280 => L (m_weakest_yard [x1280])) fun x1289 => B (B (B (P d1236) fun x1281 => L (minL [x1281])) fun x1282 => B (B (P d1237) fun x1286 => B (B (P d1236) fun x1284 => B (B (P d1236) fun x1283 => L (minL [x1283])) fun x1285 => L (indexT x1284 x1285)) fun x1287 => L (addD x1286 x1287)) fun x1288 => L (tupD [x1282, x1288])) fun x1290 => L (neB x1289 x1290)) fun b1293 => if b1293 then P (.bool false) else B (B (B (B (P d1235) fun x1294 => L (m_least_band [x1294])) fun x1299 => B (B (B (P d1236) fun x1295 => L (minL [x1295])) fun x1296 => B (B (P d1236) fun x1297 => L (maxL [x1297])) fun x1298 => L (tupD [x1296, x1298])) fun x1300 => L (neB x1299 x1300)) fun b1310 => if b1310 then P true else B (B (P d1235) fun x1302 => L (m_spread [x1302])) fun x1307 => B (B (B (P d1236) fun x1303 => L (maxL [x1303])) fun x1305 => B (B (P d1236) fun x1304 => L (minL [x1304])) fun x1306 => L (subD x1305 x1306)) fun x1308 => L (neB x1307 x1308)) fun b1311 => if b1311 then P (.bool false) else B (B (B (P d1235) fun x1312 => L (m_joins [x1312])) fun x1326 => B (B (B (B (B (P d1235) fun x1313 => L (seqD x1313)) fun ds1322 => B (cmp ds1322 (fun d1321 => u2 d1321 fun d1314 d1315 => B (B (P d1314) fun x1317 => B (P d1237) fun x1318 => L (neB x1317 x1318)) fun b1320 => if b1320 then B (P d1314) fun x1316 => P (some x1316) else P none)) fun o1323 => L (lstD o1323)) fun x1324 => L (sortedL [x1324])) fun x1325 => L (tupL [x1325])) fun x1327 => L (neB x1326 x1327)) fun b1329 => if b1329 then P (.bool false) else B (B (P .none) fun x1330 => B (P (.int 0)) fun x1331 => L (tupD [x1330, x1331])) (fun d1470 => u2 d1470 fun d1332 d1333 => B (B (B (P d1236) fun x1334 => L (lenD [x1334])) fun x1335 => L (range1L [x1335])) fun ds1469 => B (foldS ds1469 ((d1333, d1332) : D × D) fun a1336 => fun d1337 => B (B (B (B (P d1254) fun x1339 => B (P d1337) fun x1338 => L (ixD x1339 x1338)) fun x1340 => L (boolD x1340)) fun b1343 => if b1343 then P a1336.1 else B (P d1337) fun x1341 => B (P (.int 1)) fun x1342 => L (addD x1341 x1342)) fun d1344 => B (B (B (B (P d1254) fun x1346 => B (P d1337) fun x1345 => L (ixD x1346 x1345)) fun x1347 => L (boolD x1347)) fun b1365 => if b1365 then B (B (P a1336.2) fun x1348 => B (P .none) fun x1349 => L (isB x1348 x1349)) fun b1364 => if b1364 then P true else B (B (B (P d1337) fun x1351 => B (P (.int 1)) fun x1352 => L (addD x1351 x1352)) fun x1353 => B (P d1344) fun x1354 => L (subD x1353 x1354)) fun x1361 => B (B (B (P a1336.2) fun x1356 => B (P (.int 1)) fun x1355 => L (ixD x1356 x1355)) fun x1359 => B (B (P a1336.2) fun x1358 => B (P (.int 0)) fun x1357 => L (ixD x1358 x1357)) fun x1360 => L (subD x1359 x1360)) fun x1362 => L (gtB x1361 x1362) else P false) fun b1366 => B (if b1366 then B (B (P d1344) fun x1367 => B (B (P d1337) fun x1368 => B (P (.int 1)) fun x1369 => L (addD x1368 x1369)) fun x1370 => L (tupD [x1367, x1370])) fun d1371 => P d1371 else P a1336.2) fun a1372 : D => P (d1344, a1372)) fun a1374 : D × D => B (B (B (P d1235) fun x1375 => B (P d1238) fun x1376 => L (m_even_part [x1375, x1376])) fun x1391 => B (B (B (P a1374.2) fun x1377 => B (P .none) fun x1378 => L (isB x1377 x1378)) fun b1390 => if b1390 then P .none else B (B (P d1237) fun x1382 => B (B (P a1374.2) fun x1381 => B (P (.int 0)) fun x1380 => L (ixD x1381 x1380)) fun x1383 => L (addD x1382 x1383)) fun x1384 => B (B (P d1237) fun x1387 => B (B (P a1374.2) fun x1386 => B (P (.int 1)) fun x1385 => L (ixD x1386 x1385)) fun x1388 => L (addD x1387 x1388)) fun x1389 => L (tupD [x1384, x1389])) fun x1392 => L (neB x1391 x1392)) fun b1394 => if b1394 then P (.bool false) else B (L (lstS [])) fun d1395 => B (B (P d1235) fun x1396 => L (enumTD [x1396])) fun ds1468 => B (foldF ds1468 (d1395 : (List D)) fun a1397 => fun d1459 => u2 d1459 fun d1398 e1460 => u2 e1460 fun d1399 d1400 => B (B (P d1236) fun x1401 => L (seqD x1401)) fun d1402 => B (B (P d1400) fun x1403 => L (enumTD [x1403])) fun ds1458 => B (foldF ds1458 (d1402 : (List D)) fun a1404 => fun d1435 => u2 d1435 fun d1405 d1406 => B (B (B (P (.int 0)) fun x1412 => B (B (B (P d1399) fun x1407 => B (P d1237) fun x1408 => L (subD x1407 x1408)) fun x1409 => B (P d1405) fun x1410 => L (addD x1409 x1410)) fun x1413 => B (L (leB x1412 x1413)) fun b1414 => if b1414 then B (B (P (.list a1404)) fun x1411 => L (lenD [x1411])) fun x1415 => L (ltB x1413 x1415) else P false) fun b1416 => P (!b1416)) fun b1417 => B (if b1417 then B (P (.bool false)) fun d1418 => P (.rt d1418) else P (.nx ())) (kF (fun a1419 : Unit => B (B (B (P (.list a1404)) fun x1425 => B (B (B (P d1399) fun x1420 => B (P d1237) fun x1421 => L (subD x1420 x1421)) fun x1422 => B (P d1405) fun x1423 => L (addD x1422 x1423)) fun x1424 => L (ixD x1425 x1424)) fun x1426 => B (P d1406) fun x1427 => L (subD x1426 x1427)) fun d1432 => B (B (B (P d1399) fun x1428 => B (P d1237) fun x1429 => L (subD x1428 x1429)) fun x1430 => B (P d1405) fun x1431 => L (addD x1430 x1431)) fun j1433 => B (L (setL a1404 j1433 d1432)) fun ys1434 => P (.nx ys1434)) Fl.rt)) (kF (fun a1436 : (List D) => B (B (B (B (B (B (P (.list a1436)) fun x1437 => L (seqD x1437)) fun ds1450 => B (cmp ds1450 (fun d1438 => B (B (B (P d1238) fun x1440 => B (P (.int 0)) fun x1439 => L (ixD x1440 x1439)) fun x1443 => B (P d1438) fun x1444 => B (L (leB x1443 x1444)) fun b1445 => if b1445 then B (B (P d1238) fun x1442 => B (P (.int 1)) fun x1441 => L (ixD x1442 x1441)) fun x1446 => B (L (leB x1444 x1446)) fun b1447 => P (.bool b1447) else P (.bool false)) fun x1448 => P (some x1448))) fun o1451 => L (lstD o1451)) fun x1452 => L (allD [x1452])) fun x1453 => L (boolD x1453)) fun b1455 => if b1455 then B (P d1398) fun x1454 => L (lstD [x1454]) else L (lstD [])) fun d1456 => B (L ((lstOf d1456).bind fun zs => extL a1397 zs)) fun ys1457 => P (.nx ys1457)) Fl.rt)) (kF (fun a1461 : (List D) => B (B (P d1235) fun x1462 => B (P d1238) fun x1463 => L (m_needless [x1462, x1463])) fun x1465 => B (B (P (.list a1461)) fun x1464 => L (tupL [x1464])) fun x1466 => B (L (eqB x1465 x1466)) fun b1467 => P (.bool b1467)) (fun d => d)))
def m__law_is_band_right : List D → Option D
  | [d1235, d1236, d1237, d1238] => run0 (b__law_is_band_right d1235 d1236 d1237 d1238)
  | _ => none
def b__law_are_cuts_right (d1471 d1472 : D) : M Pot D := B (B (P d1471) fun x1473 => L (m_span [x1473])) (fun d1617 => u2 d1617 fun d1474 d1475 => B (B (P d1474) fun x1480 => B (B (B (B (P d1475) fun x1476 => B (P d1474) fun x1477 => L (subD x1476 x1477)) fun x1478 => m__law_take [x1478]) fun x1479 => L (intL [x1479])) fun x1481 => L (addD x1480 x1481)) fun d1482 => B (B (B (P d1482) fun x1483 => B (P (.int 1)) fun x1484 => L (addD x1483 x1484)) fun x1489 => B (B (B (B (P d1475) fun x1485 => B (P d1482) fun x1486 => L (subD x1485 x1486)) fun x1487 => m__law_take [x1487]) fun x1488 => L (intL [x1488])) fun x1490 => L (addD x1489 x1490)) fun d1491 => B (B (P d1471) fun x1492 => B (P d1482) fun x1493 => B (P d1491) fun x1494 => L (m_trimmed [x1492, x1493, x1494])) fun d1495 => B (B (P d1495) fun x1496 => B (P .none) fun x1497 => L (isB x1496 x1497)) fun b1499 => if b1499 then B (B (B (B (P d1471) fun x1510 => L (m_beside [x1510])) fun x1511 => B (B (B (P d1482) fun x1500 => B (P d1474) fun x1501 => L (subD x1500 x1501)) fun x1502 => B (L (partD x1502)) fun i1503 => P (some i1503)) fun l1508 => B (B (B (P d1491) fun x1504 => B (P d1474) fun x1505 => L (subD x1504 x1505)) fun x1506 => B (L (partD x1506)) fun i1507 => P (some i1507)) fun h1509 => L (sliceD x1511 l1508 h1509)) fun x1512 => L (anyD [x1512])) fun x1513 => B (L (boolD x1513)) fun b1514 => P (.bool (!b1514)) else B (B (B (P d1482) fun x1515 => B (P d1491) fun x1516 => L (range2L [x1515, x1516])) fun ds1529 => B (cmp ds1529 (fun d1517 => B (B (B (B (P d1471) fun x1522 => L (m_beside [x1522])) fun x1523 => B (B (P d1517) fun x1519 => B (P d1474) fun x1520 => L (subD x1519 x1520)) fun x1521 => L (ixD x1523 x1521)) fun x1524 => B (P (.int 0)) fun x1525 => L (gtB x1524 x1525)) fun b1527 => if b1527 then B (P d1517) fun x1518 => P (some x1518) else P none)) fun o1530 => L (lstD o1530)) fun d1531 => B (B (B (B (P d1495) fun x1532 => L (m_span [x1532])) fun x1542 => B (B (B (P d1531) fun x1534 => B (P (.int 0)) fun x1533 => L (ixD x1534 x1533)) fun x1535 => B (B (B (P d1531) fun x1538 => B (B (P (.int 1)) fun x1536 => L (negD x1536)) fun x1537 => L (ixD x1538 x1537)) fun x1539 => B (P (.int 1)) fun x1540 => L (addD x1539 x1540)) fun x1541 => L (tupD [x1535, x1541])) fun x1543 => L (neB x1542 x1543)) fun b1567 => if b1567 then P true else B (B (P d1495) fun x1545 => L (m_strengths [x1545])) fun x1564 => B (B (P d1472) fun x1563 => B (B (B (B (P d1531) fun x1547 => B (P (.int 0)) fun x1546 => L (ixD x1547 x1546)) fun x1548 => B (P d1474) fun x1549 => L (subD x1548 x1549)) fun x1550 => B (L (partD x1550)) fun i1551 => P (some i1551)) fun l1561 => B (B (B (B (B (P d1531) fun x1554 => B (B (P (.int 1)) fun x1552 => L (negD x1552)) fun x1553 => L (ixD x1554 x1553)) fun x1555 => B (P (.int 1)) fun x1556 => L (addD x1555 x1556)) fun x1557 => B (P d1474) fun x1558 => L (subD x1557 x1558)) fun x1559 => B (L (partD x1559)) fun i1560 => P (some i1560)) fun h1562 => L (sliceD x1563 l1561 h1562)) fun x1565 => L (neB x1564 x1565)) fun b1568 => if b1568 then P (.bool false) else B (B (B (P d1495) fun x1569 => B (P d1482) fun x1570 => B (P d1491) fun x1571 => L (m_trimmed [x1569, x1570, x1571])) fun x1572 => B (P d1495) fun x1573 => L (neB x1572 x1573)) fun b1575 => if b1575 then P (.bool false) else B (B (B (B (P d1495) fun x1576 => L (seqD x1576)) fun ds1581 => B (cmp ds1581 (fun d1580 => u2 d1580 fun d1577 d1578 => B (P d1578) fun x1579 => P (some x1579))) fun o1582 => L (lstD o1582)) fun x1583 => L (seqD x1583)) fun ds1616 => B (foldF ds1616 (() : Unit) fun a1584 => fun d1585 => B (B (B (B (P d1585) fun x1587 => L (m_weakest [x1587])) fun x1588 => B (P (.int 0)) fun x1586 => L (ixD x1588 x1586)) fun x1600 => B (B (B (B (P d1471) fun x1589 => L (seqD x1589)) fun ds1597 => B (cmp ds1597 (fun d1596 => u2 d1596 fun d1590 d1591 => B (B (B (P d1591) fun x1593 => L (m_weakest [x1593])) fun x1594 => B (P (.int 0)) fun x1592 => L (ixD x1594 x1592)) fun x1595 => P (some x1595))) fun o1598 => L (lstD o1598)) fun x1599 => L (minL [x1599])) fun x1601 => L (ltB x1600 x1601)) fun b1603 => B (if b1603 then B (P (.bool false)) fun d1604 => P (.rt d1604) else P (.nx ())) (kF (fun a1605 : Unit => P (.nx ())) Fl.rt)) (kF (fun a1607 : Unit => B (B (P d1471) fun x1608 => B (P d1475) fun x1609 => B (B (P d1475) fun x1610 => B (P (.int 1)) fun x1611 => L (addD x1610 x1611)) fun x1612 => L (m_trimmed [x1608, x1609, x1612])) fun x1613 => B (P .none) fun x1614 => B (L (isB x1613 x1614)) fun b1615 => P (.bool b1615)) (fun d => d)))
def m__law_are_cuts_right : List D → M Pot D
  | [d1471, d1472] => b__law_are_cuts_right d1471 d1472
  | _ => fail
def b__law_are_strands_right (d1618 : D) : M Pot D := B (B (B (P d1618) fun x1621 => B (P (.int 0)) fun x1620 => L (ixD x1621 x1620)) fun x1622 => B (P (.int 1)) fun x1619 => L (ixD x1622 x1619)) fun d1623 => B (B (B (B (P d1623) fun x1624 => L (lenD [x1624])) fun x1625 => m__law_take [x1625]) fun x1626 => L (intL [x1626])) fun d1627 => B (B (P d1627) fun x1628 => B (P (.int 0)) fun x1629 => L (gtB x1628 x1629)) fun b1631 => B (if b1631 then B (B (P d1623) fun x1632 => B (P (.int 0)) fun x1633 => B (P d1627) fun x1634 => L (m_cut [x1632, x1633, x1634])) fun d1639 => B (B (P d1623) fun x1635 => B (P d1627) fun x1636 => B (B (P d1623) fun x1637 => L (lenD [x1637])) fun x1638 => L (m_cut [x1635, x1636, x1638])) fun d1640 => B (B (B (B (P d1639) fun x1641 => B (P d1640) fun x1642 => L (m_end_to_end [x1641, x1642])) fun x1643 => B (P d1623) fun x1644 => L (neB x1643 x1644)) fun b1660 => if b1660 then P true else B (B (B (P d1623) fun x1647 => L (m_weakest [x1647])) fun x1648 => B (P (.int 0)) fun x1646 => L (ixD x1648 x1646)) fun x1657 => B (B (B (B (P d1639) fun x1650 => L (m_weakest [x1650])) fun x1651 => B (P (.int 0)) fun x1649 => L (ixD x1651 x1649)) fun x1652 => B (B (B (P d1640) fun x1654 => L (m_weakest [x1654])) fun x1655 => B (P (.int 0)) fun x1653 => L (ixD x1655 x1653)) fun x1656 => L (min2L [x1652, x1656])) fun x1658 => L (neB x1657 x1658)) fun b1661 => B (if b1661 then B (P (.bool false)) fun d1662 => P (.rt d1662) else P (.nx ())) (kF (fun a1663 : Unit => B (B (P d1623) fun x1664 => L (m_swing [x1664])) fun d1665 => B (B (B (P d1665) fun x1667 => B (P (.int 0)) fun x1666 => L (ixD x1667 x1666)) fun x1697 => B (B (B (B (B (B (B (P d1623) fun x1669 => B (P d1627) fun x1668 => L (ixD x1669 x1668)) fun x1674 => B (B (P d1623) fun x1673 => B (B (P d1627) fun x1670 => B (P (.int 1)) fun x1671 => L (subD x1670 x1671)) fun x1672 => L (ixD x1673 x1672)) fun x1675 => L (subD x1674 x1675)) fun x1676 => L (absL [x1676])) fun x1677 => L (lstD [x1677])) fun x1694 => B (B (B (B (B (P d1639) fun x1678 => L (m_swing [x1678])) fun x1679 => B (B (P d1640) fun x1680 => L (m_swing [x1680])) fun x1681 => L (tupD [x1679, x1681])) fun x1682 => L (seqD x1682)) fun ds1692 => B (cmp ds1692 (fun d1683 => B (B (P d1683) fun x1687 => B (P .none) fun x1688 => L (isntB x1687 x1688)) fun b1690 => if b1690 then B (B (P d1683) fun x1685 => B (P (.int 0)) fun x1684 => L (ixD x1685 x1684)) fun x1686 => P (some x1686) else P none)) fun o1693 => L (lstD o1693)) fun x1695 => L (addD x1694 x1695)) fun x1696 => L (maxL [x1696])) fun x1698 => L (ltB x1697 x1698)) fun b1700 => B (if b1700 then B (P (.bool false)) fun d1701 => P (.rt d1701) else P (.nx ())) (kF (fun a1702 : Unit => P (.nx ())) Fl.rt)) Fl.rt) else P (.nx ())) (kF (fun a1703 : Unit => B (B (B (B (B (P d1623) fun x1704 => L (m_strand_text [x1704])) fun x1705 => L (m_read_strand [x1705])) fun x1706 => B (P d1623) fun x1707 => L (neB x1706 x1707)) fun b1714 => if b1714 then P true else B (B (B (P d1623) fun x1709 => L (m_turned [x1709])) fun x1710 => L (m_turned [x1710])) fun x1711 => B (P d1623) fun x1712 => L (neB x1711 x1712)) fun b1715 => if b1715 then P (.bool false) else B (B (B (P d1623) fun x1716 => L (m_turned [x1716])) fun x1717 => L (m_swing [x1717])) fun d1718 => B (B (B (P d1718) fun x1719 => B (P .none) fun x1720 => B (L (isB x1719 x1720)) fun b1721 => P (.bool b1721)) fun x1726 => B (B (B (P d1623) fun x1722 => L (m_swing [x1722])) fun x1723 => B (P .none) fun x1724 => B (L (isB x1723 x1724)) fun b1725 => P (.bool b1725)) fun x1727 => B (L (eqB x1726 x1727)) fun b1728 => P (.bool b1728)) fun x1742 => B (L (boolD x1742)) fun b1743 => if b1743 then B (B (P d1718) fun x1729 => B (P .none) fun x1730 => B (L (isB x1729 x1730)) fun b1731 => P (.bool b1731)) fun x1740 => B (L (boolD x1740)) fun b1741 => if b1741 then P (.bool true) else B (B (P d1718) fun x1733 => B (P (.int 0)) fun x1732 => L (ixD x1733 x1732)) fun x1737 => B (B (B (P d1623) fun x1735 => L (m_swing [x1735])) fun x1736 => B (P (.int 0)) fun x1734 => L (ixD x1736 x1734)) fun x1738 => B (L (eqB x1737 x1738)) fun b1739 => P (.bool b1739) else P (.bool false)) (fun d => d))
def m__law_are_strands_right : List D → M Pot D
  | [d1618] => b__law_are_strands_right d1618
  | _ => fail
def b__law_are_loose_right (d1744 d1745 d1746 : D) : M Pot D := B (B (B (B (P (.int 20)) fun x1747 => m__law_take [x1747]) fun x1748 => L (intL [x1748])) fun x1749 => B (P (.int 0)) fun x1750 => L (tupD [x1749, x1750])) (fun d1881 => u2 d1881 fun d1751 d1752 => B (B (B (B (P d1744) fun x1753 => L (seqD x1753)) fun ds1762 => B (cmp ds1762 (fun d1761 => u2 d1761 fun d1754 d1755 => B (B (P d1754) fun x1756 => B (B (P d1755) fun x1757 => B (P d1751) fun x1758 => L (m_loosened [x1757, x1758])) fun x1759 => L (tupD [x1756, x1759])) fun x1760 => P (some x1760))) fun o1763 => L (lstD o1763)) fun x1764 => L (tupL [x1764])) fun d1765 => B (B (P d1765) fun x1766 => L (m_bounds_of [x1766])) fun d1767 => B (B (B (B (B (B (P d1745) fun x1768 => B (P d1767) fun x1769 => L (zipL [x1768, x1769])) fun ds1781 => B (cmp ds1781 (fun d1779 => u2 d1779 fun d1770 e1780 => u2 e1780 fun d1771 d1772 => B (B (P d1771) fun x1773 => B (P d1770) fun x1774 => B (L (leB x1773 x1774)) fun b1775 => if b1775 then B (P d1772) fun x1776 => B (L (leB x1774 x1776)) fun b1777 => P (.bool b1777) else P (.bool false)) fun x1778 => P (some x1778))) fun o1782 => L (lstD o1782)) fun x1783 => L (allD [x1783])) fun x1784 => L (boolD x1784)) fun b1785 => P (!b1785)) fun b1786 => if b1786 then P (.bool false) else B (B (P d1767) fun x1787 => B (P d1746) fun x1788 => L (m_even [x1787, x1788])) fun d1789 => B (B (B (B (P d1789) fun x1790 => B (P (.str ("sure" : Str))) fun x1791 => L (eqB x1790 x1791)) fun b1797 => if b1797 then B (B (B (P d1744) fun x1793 => B (P d1746) fun x1794 => L (m_is_even [x1793, x1794])) fun x1795 => L (boolD x1795)) fun b1796 => P (!b1796) else P false) fun b1805 => if b1805 then P true else B (B (P d1789) fun x1798 => B (P (.str ("never" : Str))) fun x1799 => L (eqB x1798 x1799)) fun b1804 => if b1804 then B (B (P d1744) fun x1801 => B (P d1746) fun x1802 => L (m_is_even [x1801, x1802])) fun x1803 => L (boolD x1803) else P false) fun b1806 => if b1806 then P (.bool false) else B (B (B (B (B (P d1744) fun x1807 => L (seqD x1807)) fun ds1816 => B (cmp ds1816 (fun d1815 => u2 d1815 fun d1808 d1809 => B (B (P d1808) fun x1810 => B (B (P d1809) fun x1811 => B (P d1752) fun x1812 => L (m_loosened [x1811, x1812])) fun x1813 => L (tupD [x1810, x1813])) fun x1814 => P (some x1814))) fun o1817 => L (lstD o1817)) fun x1818 => L (tupL [x1818])) fun x1819 => L (m_bounds_of [x1819])) fun d1820 => B (B (B (P d1820) fun x1830 => B (B (B (B (P d1745) fun x1821 => L (seqD x1821)) fun ds1827 => B (cmp ds1827 (fun d1822 => B (B (P d1822) fun x1823 => B (P d1822) fun x1824 => L (tupD [x1823, x1824])) fun x1825 => P (some x1825))) fun o1828 => L (lstD o1828)) fun x1829 => L (tupL [x1829])) fun x1831 => L (neB x1830 x1831)) fun b1851 => if b1851 then P true else B (B (B (P d1820) fun x1833 => L (m_borne [x1833])) fun x1838 => B (B (B (P d1745) fun x1834 => L (minL [x1834])) fun x1835 => B (B (P d1745) fun x1836 => L (minL [x1836])) fun x1837 => L (tupD [x1835, x1837])) fun x1839 => L (neB x1838 x1839)) fun b1850 => if b1850 then P true else B (B (P d1820) fun x1841 => B (P d1746) fun x1842 => L (m_even [x1841, x1842])) fun x1847 => B (B (B (B (P d1744) fun x1843 => B (P d1746) fun x1844 => L (m_is_even [x1843, x1844])) fun x1845 => L (boolD x1845)) fun b1846 => if b1846 then P (.str ("sure" : Str)) else P (.str ("never" : Str))) fun x1848 => L (neB x1847 x1848)) fun b1852 => if b1852 then P (.bool false) else B (B (B (P d1744) fun x1855 => B (P (.int 0)) fun x1854 => L (ixD x1855 x1854)) fun x1856 => B (P (.int 1)) fun x1853 => L (ixD x1856 x1853)) fun d1857 => B (B (P d1857) fun x1858 => B (B (P (.int 100)) fun x1859 => B (B (P d1751) fun x1860 => B (P (.int 3)) fun x1861 => L (addD x1860 x1861)) fun x1862 => L (min2L [x1859, x1862])) fun x1863 => L (m_loosened [x1858, x1863])) fun d1864 => B (B (B (P d1864) fun x1865 => B (P d1857) fun x1866 => L (m_may_be [x1865, x1866])) fun x1867 => B (P (.bool true)) fun x1868 => B (L (isB x1867 x1868)) fun b1869 => P (.bool b1869)) fun x1879 => B (L (boolD x1879)) fun b1880 => if b1880 then B (B (P d1864) fun x1870 => B (B (P d1857) fun x1871 => B (P d1751) fun x1872 => L (m_loosened [x1871, x1872])) fun x1873 => L (m_both [x1870, x1873])) fun x1876 => B (B (P d1857) fun x1874 => B (P d1751) fun x1875 => L (m_loosened [x1874, x1875])) fun x1877 => B (L (eqB x1876 x1877)) fun b1878 => P (.bool b1878) else P (.bool false))
def m__law_are_loose_right : List D → M Pot D
  | [d1744, d1745, d1746] => b__law_are_loose_right d1744 d1745 d1746
  | _ => fail
def b__law_right : M Pot D := B (B (P (.int 4)) fun x1882 => m__law_thread [x1882]) fun d1884 => B (B (P (.int 4)) fun x1883 => m__law_thread [x1883]) fun d1885 => B (B (B (P d1884) fun x1886 => B (P d1885) fun x1887 => L (addD x1886 x1887)) fun x1888 => B (B (P d1884) fun x1889 => L (m__law_by_yard [x1889])) fun x1890 => B (B (P d1885) fun x1891 => L (m__law_by_yard [x1891])) fun x1892 => L (tupD [x1888, x1890, x1892])) (fun d2208 => u3 d2208 fun d1893 d1894 d1895 => B (B (P d1893) fun x1896 => L (m_span [x1896])) (fun d2207 => u2 d2207 fun d1897 d1898 => B (B (B (P d1897) fun x1899 => B (P d1898) fun x1900 => L (tupD [x1899, x1900])) fun x1919 => B (B (B (B (B (P d1884) fun x1902 => L (m_span [x1902])) fun x1903 => B (P (.int 0)) fun x1901 => L (ixD x1903 x1901)) fun x1904 => B (B (B (P d1885) fun x1906 => L (m_span [x1906])) fun x1907 => B (P (.int 0)) fun x1905 => L (ixD x1907 x1905)) fun x1908 => L (min2L [x1904, x1908])) fun x1909 => B (B (B (B (P d1884) fun x1911 => L (m_span [x1911])) fun x1912 => B (P (.int 1)) fun x1910 => L (ixD x1912 x1910)) fun x1913 => B (B (B (P d1885) fun x1915 => L (m_span [x1915])) fun x1916 => B (P (.int 1)) fun x1914 => L (ixD x1916 x1914)) fun x1917 => L (max2L [x1913, x1917])) fun x1918 => L (tupD [x1909, x1918])) fun x1920 => L (neB x1919 x1920)) fun b1922 => if b1922 then P (.bool false) else B (B (P d1893) fun x1923 => L (m_strengths [x1923])) fun d1924 => B (B (B (P d1924) fun x1941 => B (B (B (B (P d1897) fun x1925 => B (P d1898) fun x1926 => L (range2L [x1925, x1926])) fun ds1938 => B (cmp ds1938 (fun d1927 => B (B (B (P d1894) fun x1928 => B (P d1927) fun x1929 => B (P (.int 0)) fun x1930 => L (getD3 x1928 x1929 x1930)) fun x1934 => B (B (P d1895) fun x1931 => B (P d1927) fun x1932 => B (P (.int 0)) fun x1933 => L (getD3 x1931 x1932 x1933)) fun x1935 => L (addD x1934 x1935)) fun x1936 => P (some x1936))) fun o1939 => L (lstD o1939)) fun x1940 => L (tupL [x1940])) fun x1942 => L (neB x1941 x1942)) fun b1950 => if b1950 then P true else B (B (B (P d1885) fun x1944 => B (P d1884) fun x1945 => L (addD x1944 x1945)) fun x1946 => L (m_strengths [x1946])) fun x1947 => B (P d1924) fun x1948 => L (neB x1947 x1948)) fun b1951 => if b1951 then P (.bool false) else B (B (B (B (B (P d1924) fun x1952 => L (maxL [x1952])) fun x1953 => B (P (.int 1)) fun x1954 => L (addD x1953 x1954)) fun x1955 => m__law_take [x1955]) fun x1956 => L (intL [x1956])) fun d1957 => B (B (P d1957) fun x1958 => B (B (P (.int 1000)) fun x1959 => B (B (P d1957) fun x1965 => B (B (B (B (B (P d1924) fun x1960 => L (maxL [x1960])) fun x1961 => B (P (.int 1)) fun x1962 => L (addD x1961 x1962)) fun x1963 => m__law_take [x1963]) fun x1964 => L (intL [x1964])) fun x1966 => L (addD x1965 x1966)) fun x1967 => L (min2L [x1959, x1967])) fun x1968 => L (tupD [x1958, x1968])) fun d1969 => B (B (B (P (.int 0)) fun x1970 => B (B (B (P d1969) fun x1972 => B (P (.int 0)) fun x1971 => L (ixD x1972 x1971)) fun x1973 => B (P (.int 2)) fun x1974 => L (subD x1973 x1974)) fun x1975 => L (max2L [x1970, x1975])) fun x1976 => B (B (P (.int 1000)) fun x1977 => B (B (B (P d1969) fun x1979 => B (P (.int 1)) fun x1978 => L (ixD x1979 x1978)) fun x1980 => B (P (.int 2)) fun x1981 => L (addD x1980 x1981)) fun x1982 => L (min2L [x1977, x1982])) fun x1983 => L (tupD [x1976, x1983])) fun d1984 => B (B (P d1893) fun x1985 => B (P d1969) fun x1986 => L (m_uneven [x1985, x1986])) fun d1987 => B (B (B (B (P d1893) fun x1988 => B (P d1924) fun x1989 => B (P d1897) fun x1990 => B (P d1969) fun x1991 => L (m__law_is_band_right [x1988, x1989, x1990, x1991])) fun x1992 => L (boolD x1992)) fun b1993 => P (!b1993)) fun b1994 => if b1994 then P (.bool false) else B (B (B (B (B (B (B (B (P d1893) fun x1995 => B (P d1984) fun x1996 => L (m_uneven [x1995, x1996])) fun x1997 => L (seqD x1997)) fun ds2004 => B (cmp ds2004 (fun d1998 => B (B (P d1998) fun x1999 => B (P d1987) fun x2000 => B (L (inB x1999 x2000)) fun b2001 => P (.bool b2001)) fun x2002 => P (some x2002))) fun o2005 => L (lstD o2005)) fun x2006 => L (allD [x2006])) fun x2007 => L (boolD x2007)) fun b2008 => P (!b2008)) fun b2017 => if b2017 then P true else B (B (B (P d1893) fun x2009 => B (P d1969) fun x2010 => L (m_is_even [x2009, x2010])) fun x2011 => L (boolD x2011)) fun b2016 => if b2016 then B (B (B (P d1893) fun x2012 => B (P d1984) fun x2013 => L (m_is_even [x2012, x2013])) fun x2014 => L (boolD x2014)) fun b2015 => P (!b2015) else P false) fun b2018 => if b2018 then P (.bool false) else B (B (B (P d1893) fun x2019 => B (P d1969) fun x2020 => L (m_even_part [x2019, x2020])) fun x2021 => B (B (P d1893) fun x2022 => B (P d1984) fun x2023 => L (m_even_part [x2022, x2023])) fun x2024 => L (tupD [x2021, x2024])) (fun d2206 => u2 d2206 fun d2025 d2026 => B (B (B (P d2025) fun x2027 => B (P .none) fun x2028 => L (isntB x2027 x2028)) fun b2049 => if b2049 then B (B (P d2026) fun x2030 => B (P .none) fun x2031 => L (isB x2030 x2031)) fun b2048 => if b2048 then P true else B (B (B (P d2026) fun x2034 => B (P (.int 1)) fun x2033 => L (ixD x2034 x2033)) fun x2037 => B (B (P d2026) fun x2036 => B (P (.int 0)) fun x2035 => L (ixD x2036 x2035)) fun x2038 => L (subD x2037 x2038)) fun x2045 => B (B (B (P d2025) fun x2040 => B (P (.int 1)) fun x2039 => L (ixD x2040 x2039)) fun x2043 => B (B (P d2025) fun x2042 => B (P (.int 0)) fun x2041 => L (ixD x2042 x2041)) fun x2044 => L (subD x2043 x2044)) fun x2046 => L (ltB x2045 x2046) else P false) fun b2050 => if b2050 then P (.bool false) else B (B (B (P d2025) fun x2051 => B (P .none) fun x2052 => L (isntB x2051 x2052)) fun b2071 => if b2071 then B (B (B (B (P d1987) fun x2054 => L (seqD x2054)) fun ds2067 => B (cmp ds2067 (fun d2055 => B (B (B (P d2025) fun x2057 => B (P (.int 0)) fun x2056 => L (ixD x2057 x2056)) fun x2060 => B (P d2055) fun x2061 => B (L (leB x2060 x2061)) fun b2062 => if b2062 then B (B (P d2025) fun x2059 => B (P (.int 1)) fun x2058 => L (ixD x2059 x2058)) fun x2063 => B (L (ltB x2061 x2063)) fun b2064 => P (.bool b2064) else P (.bool false)) fun x2065 => P (some x2065))) fun o2068 => L (lstD o2068)) fun x2069 => L (anyD [x2069])) fun x2070 => L (boolD x2070) else P false) fun b2072 => if b2072 then P (.bool false) else B (B (B (P (.int 100)) fun x2073 => m__law_take [x2073]) fun x2074 => L (intL [x2074])) fun d2075 => B (B (P d1893) fun x2076 => B (P d2075) fun x2077 => L (m_moved [x2076, x2077])) fun d2078 => B (B (B (B (P d2078) fun x2079 => L (m_strengths [x2079])) fun x2080 => B (P d1924) fun x2081 => L (neB x2080 x2081)) fun b2108 => if b2108 then P true else B (B (B (P d2078) fun x2083 => L (m_span [x2083])) fun x2090 => B (B (B (P d1897) fun x2084 => B (P d2075) fun x2085 => L (addD x2084 x2085)) fun x2086 => B (B (P d1898) fun x2087 => B (P d2075) fun x2088 => L (addD x2087 x2088)) fun x2089 => L (tupD [x2086, x2089])) fun x2091 => L (neB x2090 x2091)) fun b2107 => if b2107 then P true else B (B (P d2078) fun x2093 => B (P d1969) fun x2094 => L (m_uneven [x2093, x2094])) fun x2104 => B (B (B (B (P d1987) fun x2095 => L (seqD x2095)) fun ds2101 => B (cmp ds2101 (fun d2096 => B (B (P d2096) fun x2097 => B (P d2075) fun x2098 => L (addD x2097 x2098)) fun x2099 => P (some x2099))) fun o2102 => L (lstD o2102)) fun x2103 => L (tupL [x2103])) fun x2105 => L (neB x2104 x2105)) fun b2109 => if b2109 then P (.bool false) else B (B (B (B (P d2078) fun x2110 => L (m_weakest_yard [x2110])) fun x2121 => B (B (B (B (P d1893) fun x2112 => L (m_weakest_yard [x2112])) fun x2113 => B (P (.int 0)) fun x2111 => L (ixD x2113 x2111)) fun x2114 => B (B (B (B (P d1893) fun x2116 => L (m_weakest_yard [x2116])) fun x2117 => B (P (.int 1)) fun x2115 => L (ixD x2117 x2115)) fun x2118 => B (P d2075) fun x2119 => L (addD x2118 x2119)) fun x2120 => L (tupD [x2114, x2120])) fun x2122 => L (neB x2121 x2122)) fun b2138 => if b2138 then P true else B (B (P d2078) fun x2124 => L (m_joins [x2124])) fun x2135 => B (B (B (B (B (P d1893) fun x2125 => L (m_joins [x2125])) fun x2126 => L (seqD x2126)) fun ds2132 => B (cmp ds2132 (fun d2127 => B (B (P d2127) fun x2128 => B (P d2075) fun x2129 => L (addD x2128 x2129)) fun x2130 => P (some x2130))) fun o2133 => L (lstD o2133)) fun x2134 => L (tupL [x2134])) fun x2136 => L (neB x2135 x2136)) fun b2139 => if b2139 then P (.bool false) else B (B (B (B (P d2078) fun x2140 => L (m_least_band [x2140])) fun x2142 => B (B (P d1893) fun x2141 => L (m_least_band [x2141])) fun x2143 => L (neB x2142 x2143)) fun b2156 => if b2156 then P true else B (B (B (P d2078) fun x2145 => L (m_spread [x2145])) fun x2147 => B (B (P d1893) fun x2146 => L (m_spread [x2146])) fun x2148 => L (neB x2147 x2148)) fun b2155 => if b2155 then P true else B (B (P d2078) fun x2150 => L (m_beside [x2150])) fun x2152 => B (B (P d1893) fun x2151 => L (m_beside [x2151])) fun x2153 => L (neB x2152 x2153)) fun b2157 => if b2157 then P (.bool false) else B (B (B (B (P d1893) fun x2158 => L (seqD x2158)) fun ds2171 => B (cmp ds2171 (fun d2170 => u2 d2170 fun d2159 d2160 => B (B (B (B (P d1898) fun x2161 => B (P d2159) fun x2162 => L (subD x2161 x2162)) fun x2164 => B (B (P d2160) fun x2163 => L (lenD [x2163])) fun x2165 => L (subD x2164 x2165)) fun x2166 => B (B (P d2160) fun x2167 => L (m_turned [x2167])) fun x2168 => L (tupD [x2166, x2168])) fun x2169 => P (some x2169))) fun o2172 => L (lstD o2172)) fun x2173 => L (tupL [x2173])) fun d2174 => B (B (B (B (P d2174) fun x2175 => L (m_strengths [x2175])) fun x2177 => B (B (P d1924) fun x2176 => L (revD x2176)) fun x2178 => L (neB x2177 x2178)) fun b2194 => if b2194 then P true else B (B (B (P d2174) fun x2180 => L (m_beside [x2180])) fun x2183 => B (B (B (P d1893) fun x2181 => L (m_beside [x2181])) fun x2182 => L (revD x2182)) fun x2184 => L (neB x2183 x2184)) fun b2193 => if b2193 then P true else B (B (P d2174) fun x2186 => B (P d1969) fun x2187 => L (m_needless [x2186, x2187])) fun x2190 => B (B (P d1893) fun x2188 => B (P d1969) fun x2189 => L (m_needless [x2188, x2189])) fun x2191 => L (neB x2190 x2191)) fun b2195 => if b2195 then P (.bool false) else B (B (P d1893) fun x2196 => B (P d1924) fun x2197 => m__law_are_cuts_right [x2196, x2197]) fun x2204 => B (L (boolD x2204)) fun b2205 => if b2205 then B (B (P d1884) fun x2198 => m__law_are_strands_right [x2198]) fun x2202 => B (L (boolD x2202)) fun b2203 => if b2203 then B (P d1893) fun x2199 => B (P d1924) fun x2200 => B (P d1969) fun x2201 => m__law_are_loose_right [x2199, x2200, x2201] else P (.bool false) else P (.bool false))))
def m__law_right : List D → M Pot D
  | [] => b__law_right
  | _ => fail
def t_law : M Pot Bool := B (B (B (B (B (P (.int 3)) fun x2209 => L (range1L [x2209])) fun ds2213 => B (cmp ds2213 (fun d2210 => B (m__law_right []) fun x2211 => P (some x2211))) fun o2214 => L (lstD o2214)) fun x2215 => L (allD [x2215])) fun x2216 => L (boolD x2216)) fun b2217 => P (!b2217)
def b_law (ns : List Int) : M Unit D := B (B (B (P (.int 4)) fun x => L (m__law_places ns [x])) fun y => L (seqD y)) fun ds => B (foldF ds (() : Unit) fun _ => fun d => lawBody m__law_pot t_law ns d) (kF (fun _ : Unit => P (.bool true)) fun d => d)
def m_law (ns : List Int) : List D → Option D
  | [] => run0 (b_law ns)
  | _ => none
end K20

set_option Elab.async false
set_option linter.all false
set_option maxRecDepth 100000
set_option maxHeartbeats 0
namespace K20
open PySem PySem.Spec PyProof.Rows L2 DL
def topS (i : Nat) : Stmt := PySem.Challenge.pw_reeledeven_k20_threads_put_together_and.main.body.getD i (.Pass ⟨0, 0, 0, 0⟩)
structure Fx (K : PySem.W.Frag) (mg : Str → Option Value) : Prop where
  f_is_tuple : Dfn K mg "is_tuple" (topS 1)
  f_is_whole : Dfn K mg "is_whole" (topS 2)
  f_is_integer : Dfn K mg "is_integer" (topS 3)
  f_number_in : Dfn K mg "number_in" (topS 4)
  f_is_strand : Dfn K mg "is_strand" (topS 21)
  f_check_strand : Dfn K mg "check_strand" (topS 22)
  f_weakest : Dfn K mg "weakest" (topS 23)
  f_cut : Dfn K mg "cut" (topS 24)
  f_end_to_end : Dfn K mg "end_to_end" (topS 25)
  f_turned : Dfn K mg "turned" (topS 26)
  f_swing : Dfn K mg "swing" (topS 27)
  f_is_loose : Dfn K mg "is_loose" (topS 28)
  f_check_loose : Dfn K mg "check_loose" (topS 29)
  f_loosened : Dfn K mg "loosened" (topS 30)
  f_may_be : Dfn K mg "may_be" (topS 31)
  f_both : Dfn K mg "both" (topS 32)
  f_is_band : Dfn K mg "is_band" (topS 33)
  f_check_band : Dfn K mg "check_band" (topS 34)
  f_strand_text : Dfn K mg "strand_text" (topS 35)
  f_read_strand : Dfn K mg "read_strand" (topS 36)
  f_is_thread : Dfn K mg "is_thread" (topS 41)
  f_check_thread : Dfn K mg "check_thread" (topS 42)
  f_span_of : Dfn K mg "span_of" (topS 43)
  f_span : Dfn K mg "span" (topS 44)
  f_at_yard : Dfn K mg "at_yard" (topS 45)
  f_strengths_of : Dfn K mg "strengths_of" (topS 46)
  f_strengths : Dfn K mg "strengths" (topS 47)
  f_weakest_yard : Dfn K mg "weakest_yard" (topS 48)
  f_spread : Dfn K mg "spread" (topS 49)
  f_check_both : Dfn K mg "check_both" (topS 50)
  f_uneven : Dfn K mg "uneven" (topS 51)
  f_is_even : Dfn K mg "is_even" (topS 52)
  f_even_part : Dfn K mg "even_part" (topS 53)
  f_least_band : Dfn K mg "least_band" (topS 54)
  f_beside : Dfn K mg "beside" (topS 55)
  f_joins : Dfn K mg "joins" (topS 56)
  f_moved : Dfn K mg "moved" (topS 57)
  f_trimmed : Dfn K mg "trimmed" (topS 58)
  f_needless : Dfn K mg "needless" (topS 59)
  f_is_bounds : Dfn K mg "is_bounds" (topS 69)
  f_check_bounds : Dfn K mg "check_bounds" (topS 70)
  f_bounds_of : Dfn K mg "bounds_of" (topS 71)
  f_verdict_of : Dfn K mg "verdict_of" (topS 72)
  f_even : Dfn K mg "even" (topS 73)
  f_borne : Dfn K mg "borne" (topS 74)
  f__law_pot : Dfn K mg "_law_pot" (topS 76)
  f__law_take : Dfn K mg "_law_take" (topS 77)
  f__law_of : Dfn K mg "_law_of" (topS 78)
  f__law_places : Dfn K mg "_law_places" (topS 79)
  f__law_strand : Dfn K mg "_law_strand" (topS 80)
  f__law_thread : Dfn K mg "_law_thread" (topS 81)
  f__law_by_yard : Dfn K mg "_law_by_yard" (topS 82)
  f__law_right : Dfn K mg "_law_right" (topS 83)
  f__law_is_band_right : Dfn K mg "_law_is_band_right" (topS 84)
  f__law_are_cuts_right : Dfn K mg "_law_are_cuts_right" (topS 85)
  f__law_are_strands_right : Dfn K mg "_law_are_strands_right" (topS 86)
  f__law_are_loose_right : Dfn K mg "_law_are_loose_right" (topS 87)
  f_law : Dfn K mg "law" (topS 88)
  c_BLANK : ∃ t, mg "BLANK" = some (.str (" " : Str) t)
  c_MOST_BEGIN_sure : ∃ t, mg "MOST_BEGIN_sure" = some (.int 200 t)
  c_MOST_BEGIN_threads : ∃ t, mg "MOST_BEGIN_threads" = some (.int 200 t)
  c_MOST_BESIDE_sure : ∃ t, mg "MOST_BESIDE_sure" = some (.int 8 t)
  c_MOST_BESIDE_threads : ∃ t, mg "MOST_BESIDE_threads" = some (.int 8 t)
  c_MOST_ROWS : ∃ t, mg "MOST_ROWS" = some (.int 260 t)
  c_MOST_STRENGTH : ∃ t, mg "MOST_STRENGTH" = some (.int 100 t)
  c_MOST_SUM_strands : ∃ t, mg "MOST_SUM_strands" = some (.int 1000 t)
  c_MOST_SUM_sure : ∃ t, mg "MOST_SUM_sure" = some (.int 1000 t)
  c_MOST_TEXT : ∃ t, mg "MOST_TEXT" = some (.int 2000 t)
  c_MOST_YARDS : ∃ t, mg "MOST_YARDS" = some (.int 60 t)
  c_NEVER : ∃ t, mg "NEVER" = some (.str ("never" : Str) t)
  c_OPEN : ∃ t, mg "OPEN" = some (.str ("open" : Str) t)
  c_PAIR_strands : ∃ t, mg "PAIR_strands" = some (.int 2 t)
  c_PAIR_sure : ∃ t, mg "PAIR_sure" = some (.int 2 t)
  c_PAIR_threads : ∃ t, mg "PAIR_threads" = some (.int 2 t)
  c_SURE : ∃ t, mg "SURE" = some (.str ("sure" : Str) t)
  n_abs : mg "abs" = none
  n_all : mg "all" = none
  n_any : mg "any" = none
  n_bool : mg "bool" = none
  n_dict : mg "dict" = none
  n_enumerate : mg "enumerate" = none
  n_int : mg "int" = none
  n_isinstance : mg "isinstance" = none
  n_len : mg "len" = none
  n_list : mg "list" = none
  n_max : mg "max" = none
  n_min : mg "min" = none
  n_range : mg "range" = none
  n_sorted : mg "sorted" = none
  n_str : mg "str" = none
  n_sum : mg "sum" = none
  n_tuple : mg "tuple" = none
  n_zip : mg "zip" = none
section
variable {PR : Program} {w : World} {K : PySem.W.Frag} {mg : Str → Option Value} {base : Heap}
abbrev s_is_tuple : Stmt := topS 1
theorem sc_is_tuple : FnScope ["value", "least", "most"] ["value", "least", "most"] (defScope s_is_tuple) := ⟨rfl, rfl, rfl, by decide +kernel, rfl, by decide +kernel, by decide +kernel⟩
theorem n_is_tuple_least : NmF (defScope s_is_tuple) ["value", "least", "most"] 1 "least" := ⟨rfl, (.inl (by kernel_rfl)), by decide, by decide⟩
theorem n_is_tuple_most : NmF (defScope s_is_tuple) ["value", "least", "most"] 2 "most" := ⟨rfl, (.inl (by kernel_rfl)), by decide, by decide⟩
theorem n_is_tuple_value : NmF (defScope s_is_tuple) ["value", "least", "most"] 0 "value" := ⟨rfl, (.inl (by kernel_rfl)), by decide, by decide⟩
theorem g_is_tuple_isinstance : (defScope s_is_tuple).names.lookup (("isinstance" : Str)) = some .globalImplicit := by kernel_rfl
theorem g_is_tuple_len : (defScope s_is_tuple).names.lookup (("len" : Str)) = some .globalImplicit := by kernel_rfl
theorem g_is_tuple_tuple : (defScope s_is_tuple).names.lookup (("tuple" : Str)) = some .globalImplicit := by kernel_rfl
theorem w_is_tuple (c : Fx K mg) : DOk PR w K mg base 1 "is_tuple" ["value", "least", "most"] (spF m_is_tuple) := by
  refine ok_pure (N := ["value", "least", "most"]) (k := 0) c.f_is_tuple sc_is_tuple (fun _ _ _ _ _ _ us hl => match us, hl with | [_, _, _], _ => rfl) (mb := fun ds => match ds with | [d1, d2, d3] => b_is_tuple d1 d2 d3 | _ => fail) ?_ ?_
  · intro ds r h
    match ds, h with
    | [_, _, _], h => exact ⟨rfl, h⟩
  · intro ds hl
    match ds, hl with
    | [d1, d2, d3], _ =>
      intro cdv A outer s F E hr
      show JS _ _ _ _ (b_is_tuple d1 d2 d3) _
      unfold b_is_tuple
      exact (js_nf [.val d1, .val d2, .val d3] rfl (js_ret0 (je_and (je_isi (je_nm n_is_tuple_value rfl) g_is_tuple_isinstance c.n_isinstance g_is_tuple_tuple c.n_tuple (by decide +kernel)) (je_one (je_chain ob_le ob_le (JE.v (je_nm n_is_tuple_least rfl)) (JE.v (je_callB cd_len g_is_tuple_len c.n_len (by decide +kernel) (jav_cons (JE.v (je_nm n_is_tuple_value rfl)) fun x5 => jav_nil))) (JE.v (je_nm n_is_tuple_most rfl)))))))
abbrev s_is_whole : Stmt := topS 2
theorem sc_is_whole : FnScope ["value"] ["value"] (defScope s_is_whole) := ⟨rfl, rfl, rfl, by decide +kernel, rfl, by decide +kernel, by decide +kernel⟩
theorem n_is_whole_value : NmF (defScope s_is_whole) ["value"] 0 "value" := ⟨rfl, (.inl (by kernel_rfl)), by decide, by decide⟩
theorem g_is_whole_bool : (defScope s_is_whole).names.lookup (("bool" : Str)) = some .globalImplicit := by kernel_rfl
theorem g_is_whole_int : (defScope s_is_whole).names.lookup (("int" : Str)) = some .globalImplicit := by kernel_rfl
theorem g_is_whole_isinstance : (defScope s_is_whole).names.lookup (("isinstance" : Str)) = some .globalImplicit := by kernel_rfl
theorem w_is_whole (c : Fx K mg) : DOk PR w K mg base 1 "is_whole" ["value"] (spF m_is_whole) := by
  refine ok_pure (N := ["value"]) (k := 0) c.f_is_whole sc_is_whole (fun _ _ _ _ _ _ us hl => match us, hl with | [_], _ => rfl) (mb := fun ds => match ds with | [d13] => b_is_whole d13 | _ => fail) ?_ ?_
  · intro ds r h
    match ds, h with
    | [_], h => exact ⟨rfl, h⟩
  · intro ds hl
    match ds, hl with
    | [d13], _ =>
      intro cdv A outer s F E hr
      show JS _ _ _ _ (b_is_whole d13) _
      unfold b_is_whole
      exact (js_nf [.val d13] rfl (js_ret0 (je_and (je_isi (je_nm n_is_whole_value rfl) g_is_whole_isinstance c.n_isinstance g_is_whole_int c.n_int (by decide +kernel)) (je_one (je_not (je_isi (je_nm n_is_whole_value rfl) g_is_whole_isinstance c.n_isinstance g_is_whole_bool c.n_bool (by decide +kernel)))))))
abbrev s_is_integer : Stmt := topS 3
theorem sc_is_integer : FnScope ["value", "low", "high"] ["value", "low", "high"] (defScope s_is_integer) := ⟨rfl, rfl, rfl, by decide +kernel, rfl, by decide +kernel, by decide +kernel⟩
theorem n_is_integer_high : NmF (defScope s_is_integer) ["value", "low", "high"] 2 "high" := ⟨rfl, (.inl (by kernel_rfl)), by decide, by decide⟩
theorem n_is_integer_low : NmF (defScope s_is_integer) ["value", "low", "high"] 1 "low" := ⟨rfl, (.inl (by kernel_rfl)), by decide, by decide⟩
theorem n_is_integer_value : NmF (defScope s_is_integer) ["value", "low", "high"] 0 "value" := ⟨rfl, (.inl (by kernel_rfl)), by decide, by decide⟩
theorem g_is_integer_is_whole : (defScope s_is_integer).names.lookup (("is_whole" : Str)) = some .globalImplicit := by kernel_rfl
theorem w_is_integer (c : Fx K mg) : DOk PR w K mg base 2 "is_integer" ["value", "low", "high"] (spF m_is_integer) := by
  refine ok_pure (N := ["value", "low", "high"]) (k := 1) c.f_is_integer sc_is_integer (fun _ _ _ _ _ _ us hl => match us, hl with | [_, _, _], _ => rfl) (mb := fun ds => match ds with | [d20, d21, d22] => b_is_integer d20 d21 d22 | _ => fail) ?_ ?_
  · intro ds r h
    match ds, h with
    | [_, _, _], h => exact ⟨rfl, h⟩
  · intro ds hl
    match ds, hl with
    | [d20, d21, d22], _ =>
      intro cdv A outer s F E hr
      show JS _ _ _ _ (b_is_integer d20 d21 d22) _
      unfold b_is_integer
      exact (js_nf [.val d20, .val d21, .val d22] rfl (js_ret0 (je_and (je_callO (w_is_whole c) hr (by decide) g_is_integer_is_whole (ja_cons (je_nm n_is_integer_value rfl) fun x23 => ja_nil)) (je_one (je_chain ob_le ob_le (JE.v (je_nm n_is_integer_low rfl)) (JE.v (je_nm n_is_integer_value rfl)) (JE.v (je_nm n_is_integer_high rfl)))))))
abbrev s_number_in : Stmt := topS 4
theorem sc_number_in : FnScope ["word", "most", "found", "sign"] ["word", "most"] (defScope s_number_in) := ⟨rfl, rfl, rfl, by decide +kernel, rfl, by decide +kernel, by decide +kernel⟩
theorem n_number_in_found : NmF (defScope s_number_in) ["word", "most", "found", "sign"] 2 "found" := ⟨rfl, (.inl (by kernel_rfl)), by decide, by decide⟩
theorem n_number_in_most : NmF (defScope s_number_in) ["word", "most", "found", "sign"] 1 "most" := ⟨rfl, (.inl (by kernel_rfl)), by decide, by decide⟩
theorem n_number_in_word : NmF (defScope s_number_in) ["word", "most", "found", "sign"] 0 "word" := ⟨rfl, (.inl (by kernel_rfl)), by decide, by decide⟩
theorem g_number_in_all : (defScope s_number_in).names.lookup (("all" : Str)) = some .globalImplicit := by kernel_rfl
theorem g_number_in_int : (defScope s_number_in).names.lookup (("int" : Str)) = some .globalImplicit := by kernel_rfl
theorem g_number_in_len : (defScope s_number_in).names.lookup (("len" : Str)) = some .globalImplicit := by kernel_rfl
theorem g_number_in_str : (defScope s_number_in).names.lookup (("str" : Str)) = some .globalImplicit := by kernel_rfl
theorem w_number_in (c : Fx K mg) : DOk PR w K mg base 1 "number_in" ["word", "most"] (spF m_number_in) := by
  refine ok_pure (N := ["word", "most", "found", "sign"]) (k := 0) c.f_number_in sc_number_in (fun _ _ _ _ _ _ us hl => match us, hl with | [_, _], _ => rfl) (mb := fun ds => match ds with | [d31, d32] => b_number_in d31 d32 | _ => fail) ?_ ?_
  · intro ds r h
    match ds, h with
    | [_, _], h => exact ⟨rfl, h⟩
  · intro ds hl
    match ds, hl with
    | [d31, d32], _ =>
      intro cdv A outer s F E hr
      show JS _ _ _ _ (b_number_in d31 d32) _
      unfold b_number_in
      exact (js_nf [.val d31, .val d32, .unk, .unk] rfl (js_ifret (JW.t (jw_or (jt_not (jt_chain ob_le ob_le (JE.v je_int) (JE.v (je_callB cd_len g_number_in_len c.n_len (by decide +kernel) (jav_cons (JE.v (je_nm n_number_in_word rfl)) fun x33 => jav_nil))) (JE.v (je_callB cd_len g_number_in_len c.n_len (by decide +kernel) (jav_cons (JE.v (je_callTy cd_str g_number_in_str c.n_str (by decide +kernel) (jav_cons (JE.v (je_nm n_number_in_most rfl)) fun x34 => jav_nil))) fun x35 => jav_nil))))) (jw_or1 (jt_not (jt_val (je_callB (cd_all rfl) g_number_in_all c.n_all (by decide +kernel) (jav_cons (JE.v (je_lc rfl sc_number_in.nd (ji_str (je_nm n_number_in_word rfl)) (blk (own := [("sign", 3)]) (by kernel_rfl)) (fun _ _ _ _ _ => (pgd_n 3 sc_number_in.nd rfl (.inl rfl))) (ji_n fun d42 => .plain (fun _ _ _ _ _ => je_nf [.val d31, .val d32, .unk, .val d42] rfl (je_cmp (ob_in hr.units) (JE.v (je_name 3 rfl (.inl rfl) rfl)) (JE.v je_str) (by rfl)))))) fun x50 => jav_nil))))))) (js_nf [.val d31, .val d32, .unk, .unk] rfl (js_ret0 je_non)) (js_nf [.val d31, .val d32, .unk, .unk] rfl (js_asg (i := 2) sc_number_in.nd rfl (.inl rfl) (JE.x (je_callTy cd_int g_number_in_int c.n_int (by decide +kernel) (jav_cons (JE.v (je_nm n_number_in_word rfl)) fun x55 => jav_nil))) fun d56 => (js_nf [.val d31, .val d32, .val d56, .unk] rfl (js_ret0 (je_if (JW.t (jw_and (jt_cmp (ob_eq hr.units) (JE.v (je_callTy cd_str g_number_in_str c.n_str (by decide +kernel) (jav_cons (JE.v (je_nm n_number_in_found rfl)) fun x57 => jav_nil))) (JE.v (je_nm n_number_in_word rfl)) (by rfl)) (jw_and1 (jt_cmp ob_le (JE.v (je_nm n_number_in_found rfl)) (JE.v (je_nm n_number_in_most rfl)) (by rfl))))) (je_nm n_number_in_found rfl) je_non))))) fun _ _ => nofun))
abbrev s_is_strand : Stmt := topS 21
theorem sc_is_strand : FnScope ["value", "one"] ["value"] (defScope s_is_strand) := ⟨rfl, rfl, rfl, by decide +kernel, rfl, by decide +kernel, by decide +kernel⟩
theorem n_is_strand_value : NmF (defScope s_is_strand) ["value", "one"] 0 "value" := ⟨rfl, (.inl (by kernel_rfl)), by decide, by decide⟩
theorem g_is_strand_MOST_YARDS : (defScope s_is_strand).names.lookup (("MOST_YARDS" : Str)) = some .globalImplicit := by kernel_rfl
theorem g_is_strand_all : (defScope s_is_strand).names.lookup (("all" : Str)) = some .globalImplicit := by kernel_rfl
theorem g_is_strand_is_tuple : (defScope s_is_strand).names.lookup (("is_tuple" : Str)) = some .globalImplicit := by kernel_rfl
theorem w_is_strand (c : Fx K mg) : DOk PR w K mg base 3 "is_strand" ["value"] (spF m_is_strand) := by
  refine ok_pure (N := ["value", "one"]) (k := 2) c.f_is_strand sc_is_strand (fun _ _ _ _ _ _ us hl => match us, hl with | [_], _ => rfl) (mb := fun ds => match ds with | [d66] => b_is_strand d66 | _ => fail) ?_ ?_
  · intro ds r h
    match ds, h with
    | [_], h => exact ⟨rfl, h⟩
  · intro ds hl
    match ds, hl with
    | [d66], _ =>
      intro cdv A outer s F E hr
      show JS _ _ _ _ (b_is_strand d66) _
      unfold b_is_strand
      exact (js_nf [.val d66, .unk] rfl (js_ret0 (je_and (je_callO (w_is_tuple c) hr (by decide) g_is_strand_is_tuple (ja_cons (je_nm n_is_strand_value rfl) fun x67 => (ja_cons je_int fun x68 => (ja_cons (je_gint c.c_MOST_YARDS g_is_strand_MOST_YARDS) fun x69 => ja_nil)))) (je_one (je_callB (cd_all rfl) g_is_strand_all c.n_all (by decide +kernel) (jav_cons (JE.v (je_lc rfl sc_is_strand.nd (ji_seq (je_nm n_is_strand_value rfl)) (blk (own := [("one", 1)]) (by kernel_rfl)) (fun _ _ _ _ _ => (pgd_n 1 sc_is_strand.nd rfl (.inl rfl))) (ji_n fun d71 => .plain (fun _ _ _ _ _ => je_nf [.val d66, .val d71] rfl (je_callO (w_is_integer c) hr (by decide) rfl (ja_cons (je_name 1 rfl (.inl rfl) rfl) fun x72 => (ja_cons je_int fun x73 => (ja_cons (je_gint c.c_MOST_STRENGTH rfl) fun x74 => ja_nil)))))))) fun x79 => jav_nil))))))
abbrev s_check_strand : Stmt := topS 22
theorem sc_check_strand : FnScope ["value"] ["value"] (defScope s_check_strand) := ⟨rfl, rfl, rfl, by decide +kernel, rfl, by decide +kernel, by decide +kernel⟩
theorem n_check_strand_value : NmF (defScope s_check_strand) ["value"] 0 "value" := ⟨rfl, (.inl (by kernel_rfl)), by decide, by decide⟩
theorem g_check_strand_is_strand : (defScope s_check_strand).names.lookup (("is_strand" : Str)) = some .globalImplicit := by kernel_rfl
theorem w_check_strand (c : Fx K mg) : DOk PR w K mg base 4 "check_strand" ["value"] (spF m_check_strand) := by
  refine ok_proc (ρ' := [.unk]) (N := ["value"]) (k := 3) c.f_check_strand sc_check_strand (fun _ _ _ _ _ _ us hl => match us, hl with | [_], _ => rfl) (mb := fun ds => match ds with | [d82] => b_check_strand d82 | _ => fail) ?_ ?_
  · intro ds r h
    match ds, h with
    | [_], h => exact ⟨rfl, h⟩
  · intro ds hl
    match ds, hl with
    | [d82], _ =>
      intro cdv A outer s F E hr
      show JS _ _ _ _ (b_check_strand d82) _
      unfold b_check_strand
      exact (js_nf [.val d82] rfl (js_ifraise (jt_not (jt_val (je_callO (w_is_strand c) hr (by decide) g_check_strand_is_strand (ja_cons (je_nm n_check_strand_value rfl) fun x83 => ja_nil)))) (js_end rfl (.u .nil))))
abbrev s_weakest : Stmt := topS 23
theorem sc_weakest : FnScope ["strand", "least"] ["strand"] (defScope s_weakest) := ⟨rfl, rfl, rfl, by decide +kernel, rfl, by decide +kernel, by decide +kernel⟩
theorem n_weakest_least : NmF (defScope s_weakest) ["strand", "least"] 1 "least" := ⟨rfl, (.inl (by kernel_rfl)), by decide, by decide⟩
theorem n_weakest_strand : NmF (defScope s_weakest) ["strand", "least"] 0 "strand" := ⟨rfl, (.inl (by kernel_rfl)), by decide, by decide⟩
theorem g_weakest_check_strand : (defScope s_weakest).names.lookup (("check_strand" : Str)) = some .globalImplicit := by kernel_rfl
theorem g_weakest_min : (defScope s_weakest).names.lookup (("min" : Str)) = some .globalImplicit := by kernel_rfl
theorem w_weakest (c : Fx K mg) : DOk PR w K mg base 5 "weakest" ["strand"] (spF m_weakest) := by
  refine ok_pure (N := ["strand", "least"]) (k := 4) c.f_weakest sc_weakest (fun _ _ _ _ _ _ us hl => match us, hl with | [_], _ => rfl) (mb := fun ds => match ds with | [d87] => b_weakest d87 | _ => fail) ?_ ?_
  · intro ds r h
    match ds, h with
    | [_], h => exact ⟨rfl, h⟩
  · intro ds hl
    match ds, hl with
    | [d87], _ =>
      intro cdv A outer s F E hr
      show JS _ _ _ _ (b_weakest d87) _
      unfold b_weakest
      exact (js_nf [.val d87, .unk] rfl (js_expr (je_callO (w_check_strand c) hr (by decide) g_weakest_check_strand (ja_cons (je_nm n_weakest_strand rfl) fun x88 => ja_nil)) (js_nf [.val d87, .unk] rfl (js_asg (i := 1) sc_weakest.nd rfl (.inl rfl) (JE.x (je_callB (cd_min rfl hr.units) g_weakest_min c.n_min (by decide +kernel) (jav_cons (JE.v (je_nm n_weakest_strand rfl)) fun x89 => jav_nil))) fun d90 => (js_nf [.val d87, .val d90] rfl (js_ret0 (je_tup (ja_cons (je_nm n_weakest_least rfl) fun x91 => (ja_cons (je_indexT (je_nm n_weakest_strand rfl) (je_nm n_weakest_least rfl)) fun x94 => ja_nil)))))))))
abbrev s_cut : Stmt := topS 24
theorem sc_cut : FnScope ["strand", "begin", "end"] ["strand", "begin", "end"] (defScope s_cut) := ⟨rfl, rfl, rfl, by decide +kernel, rfl, by decide +kernel, by decide +kernel⟩
theorem n_cut_begin : NmF (defScope s_cut) ["strand", "begin", "end"] 1 "begin" := ⟨rfl, (.inl (by kernel_rfl)), by decide, by decide⟩
theorem n_cut_end : NmF (defScope s_cut) ["strand", "begin", "end"] 2 "end" := ⟨rfl, (.inl (by kernel_rfl)), by decide, by decide⟩
theorem n_cut_strand : NmF (defScope s_cut) ["strand", "begin", "end"] 0 "strand" := ⟨rfl, (.inl (by kernel_rfl)), by decide, by decide⟩
theorem g_cut_check_strand : (defScope s_cut).names.lookup (("check_strand" : Str)) = some .globalImplicit := by kernel_rfl
theorem g_cut_is_integer : (defScope s_cut).names.lookup (("is_integer" : Str)) = some .globalImplicit := by kernel_rfl
theorem g_cut_len : (defScope s_cut).names.lookup (("len" : Str)) = some .globalImplicit := by kernel_rfl
theorem w_cut (c : Fx K mg) : DOk PR w K mg base 5 "cut" ["strand", "begin", "end"] (spF m_cut) := by
  refine ok_pure (N := ["strand", "begin", "end"]) (k := 4) c.f_cut sc_cut (fun _ _ _ _ _ _ us hl => match us, hl with | [_, _, _], _ => rfl) (mb := fun ds => match ds with | [d95, d96, d97] => b_cut d95 d96 d97 | _ => fail) ?_ ?_
  · intro ds r h
    match ds, h with
    | [_, _, _], h => exact ⟨rfl, h⟩
  · intro ds hl
    match ds, hl with
    | [d95, d96, d97], _ =>
      intro cdv A outer s F E hr
      show JS _ _ _ _ (b_cut d95 d96 d97) _
      unfold b_cut
      exact (js_nf [.val d95, .val d96, .val d97] rfl (js_expr (je_callO (w_check_strand c) hr (by decide) g_cut_check_strand (ja_cons (je_nm n_cut_strand rfl) fun x98 => ja_nil)) (js_nf [.val d95, .val d96, .val d97] rfl (js_ifraise (jt_not (jt_val (je_callO (w_is_integer c) hr (by decide) g_cut_is_integer (ja_cons (je_nm n_cut_begin rfl) fun x99 => (ja_cons je_int fun x100 => (ja_cons (je_bin od_sub (je_callB cd_len g_cut_len c.n_len (by decide +kernel) (jav_cons (JE.v (je_nm n_cut_strand rfl)) fun x101 => jav_nil)) je_int) fun x104 => ja_nil)))))) (js_nf [.val d95, .val d96, .val d97] rfl (js_ifraise (jt_not (jt_val (je_callO (w_is_integer c) hr (by decide) g_cut_is_integer (ja_cons (je_nm n_cut_end rfl) fun x108 => (ja_cons (je_bin od_add (je_nm n_cut_begin rfl) je_int) fun x111 => (ja_cons (je_callB cd_len g_cut_len c.n_len (by decide +kernel) (jav_cons (JE.v (je_nm n_cut_strand rfl)) fun x112 => jav_nil)) fun x113 => ja_nil)))))) (js_nf [.val d95, .val d96, .val d97] rfl (js_ret0 (je_slice (JE.v (je_nm n_cut_strand rfl)) (jo_some (je_nm n_cut_begin rfl)) (jo_some (je_nm n_cut_end rfl)))))))))))
abbrev s_end_to_end : Stmt := topS 25
theorem sc_end_to_end : FnScope ["one", "other"] ["one", "other"] (defScope s_end_to_end) := ⟨rfl, rfl, rfl, by decide +kernel, rfl, by decide +kernel, by decide +kernel⟩
theorem n_end_to_end_one : NmF (defScope s_end_to_end) ["one", "other"] 0 "one" := ⟨rfl, (.inl (by kernel_rfl)), by decide, by decide⟩
theorem n_end_to_end_other : NmF (defScope s_end_to_end) ["one", "other"] 1 "other" := ⟨rfl, (.inl (by kernel_rfl)), by decide, by decide⟩
theorem g_end_to_end_MOST_YARDS : (defScope s_end_to_end).names.lookup (("MOST_YARDS" : Str)) = some .globalImplicit := by kernel_rfl
theorem g_end_to_end_check_strand : (defScope s_end_to_end).names.lookup (("check_strand" : Str)) = some .globalImplicit := by kernel_rfl
theorem g_end_to_end_len : (defScope s_end_to_end).names.lookup (("len" : Str)) = some .globalImplicit := by kernel_rfl
theorem w_end_to_end (c : Fx K mg) : DOk PR w K mg base 5 "end_to_end" ["one", "other"] (spF m_end_to_end) := by
  refine ok_pure (N := ["one", "other"]) (k := 4) c.f_end_to_end sc_end_to_end (fun _ _ _ _ _ _ us hl => match us, hl with | [_, _], _ => rfl) (mb := fun ds => match ds with | [d124, d125] => b_end_to_end d124 d125 | _ => fail) ?_ ?_
  · intro ds r h
    match ds, h with
    | [_, _], h => exact ⟨rfl, h⟩
  · intro ds hl
    match ds, hl with
    | [d124, d125], _ =>
      intro cdv A outer s F E hr
      show JS _ _ _ _ (b_end_to_end d124 d125) _
      unfold b_end_to_end
      exact (js_nf [.val d124, .val d125] rfl (js_expr (je_callO (w_check_strand c) hr (by decide) g_end_to_end_check_strand (ja_cons (je_nm n_end_to_end_one rfl) fun x126 => ja_nil)) (js_nf [.val d124, .val d125] rfl (js_expr (je_callO (w_check_strand c) hr (by decide) g_end_to_end_check_strand (ja_cons (je_nm n_end_to_end_other rfl) fun x127 => ja_nil)) (js_nf [.val d124, .val d125] rfl (js_ifraise (jt_cmp ob_gt (JE.v (je_bin od_add (je_callB cd_len g_end_to_end_len c.n_len (by decide +kernel) (jav_cons (JE.v (je_nm n_end_to_end_one rfl)) fun x128 => jav_nil)) (je_callB cd_len g_end_to_end_len c.n_len (by decide +kernel) (jav_cons (JE.v (je_nm n_end_to_end_other rfl)) fun x129 => jav_nil)))) (JE.v (je_gint c.c_MOST_YARDS g_end_to_end_MOST_YARDS)) (by rfl)) (js_nf [.val d124, .val d125] rfl (js_ret0 (je_bin od_add (je_nm n_end_to_end_one rfl) (je_nm n_end_to_end_other rfl))))))))))
abbrev s_turned : Stmt := topS 26
theorem sc_turned : FnScope ["strand"] ["strand"] (defScope s_turned) := ⟨rfl, rfl, rfl, by decide +kernel, rfl, by decide +kernel, by decide +kernel⟩
theorem n_turned_strand : NmF (defScope s_turned) ["strand"] 0 "strand" := ⟨rfl, (.inl (by kernel_rfl)), by decide, by decide⟩
theorem g_turned_check_strand : (defScope s_turned).names.lookup (("check_strand" : Str)) = some .globalImplicit := by kernel_rfl
theorem w_turned (c : Fx K mg) : DOk PR w K mg base 5 "turned" ["strand"] (spF m_turned) := by
  refine ok_pure (N := ["strand"]) (k := 4) c.f_turned sc_turned (fun _ _ _ _ _ _ us hl => match us, hl with | [_], _ => rfl) (mb := fun ds => match ds with | [d138] => b_turned d138 | _ => fail) ?_ ?_
  · intro ds r h
    match ds, h with
    | [_], h => exact ⟨rfl, h⟩
  · intro ds hl
    match ds, hl with
    | [d138], _ =>
      intro cdv A outer s F E hr
      show JS _ _ _ _ (b_turned d138) _
      unfold b_turned
      exact (js_nf [.val d138] rfl (js_expr (je_callO (w_check_strand c) hr (by decide) g_turned_check_strand (ja_cons (je_nm n_turned_strand rfl) fun x139 => ja_nil)) (js_nf [.val d138] rfl (js_ret0 (je_revT (je_nm n_turned_strand rfl))))))
abbrev s_swing : Stmt := topS 27
theorem sc_swing : FnScope ["strand", "steps", "one", "other"] ["strand"] (defScope s_swing) := ⟨rfl, rfl, rfl, by decide +kernel, rfl, by decide +kernel, by decide +kernel⟩
theorem n_swing_steps : NmF (defScope s_swing) ["strand", "steps", "one", "other"] 1 "steps" := ⟨rfl, (.inl (by kernel_rfl)), by decide, by decide⟩
theorem n_swing_strand : NmF (defScope s_swing) ["strand", "steps", "one", "other"] 0 "strand" := ⟨rfl, (.inl (by kernel_rfl)), by decide, by decide⟩
theorem g_swing_check_strand : (defScope s_swing).names.lookup (("check_strand" : Str)) = some .globalImplicit := by kernel_rfl
theorem g_swing_max : (defScope s_swing).names.lookup (("max" : Str)) = some .globalImplicit := by kernel_rfl
theorem g_swing_zip : (defScope s_swing).names.lookup (("zip" : Str)) = some .globalImplicit := by kernel_rfl
theorem w_swing (c : Fx K mg) : DOk PR w K mg base 5 "swing" ["strand"] (spF m_swing) := by
  refine ok_pure (N := ["strand", "steps", "one", "other"]) (k := 4) c.f_swing sc_swing (fun _ _ _ _ _ _ us hl => match us, hl with | [_], _ => rfl) (mb := fun ds => match ds with | [d141] => b_swing d141 | _ => fail) ?_ ?_
  · intro ds r h
    match ds, h with
    | [_], h => exact ⟨rfl, h⟩
  · intro ds hl
    match ds, hl with
    | [d141], _ =>
      intro cdv A outer s F E hr
      show JS _ _ _ _ (b_swing d141) _
      unfold b_swing
      exact (js_nf [.val d141, .unk, .unk, .unk] rfl (js_expr (je_callO (w_check_strand c) hr (by decide) g_swing_check_strand (ja_cons (je_nm n_swing_strand rfl) fun x142 => ja_nil)) (js_nf [.val d141, .unk, .unk, .unk] rfl (js_asgLc (i := 1) rfl sc_swing.nd rfl rfl (ji_zip g_swing_zip c.n_zip (ja_cons (je_nm n_swing_strand rfl) fun x143 => (ja_cons (je_slice (JE.v (je_nm n_swing_strand rfl)) (jo_some je_int) jo_none) fun x149 => ja_nil))) (blk (own := [("one", 2), ("other", 3)]) (by kernel_rfl)) (fun _ _ _ _ _ => (pgd_2 rfl (pgd_n 2 sc_swing.nd rfl (.inl rfl)) (pgd_n 3 sc_swing.nd rfl (.inl rfl)))) (ji_2 fun d150 d151 => .plain (fun _ _ _ _ _ => je_nf [.val d141, .unk, .val d150, .val d151] rfl (je_callB cd_abs rfl c.n_abs (by decide +kernel) (jav_cons (JE.v (je_bin od_sub (je_name 3 rfl (.inl rfl) rfl) (je_name 2 rfl (.inl rfl) rfl))) fun x154 => jav_nil)))) fun d159 => (js_nf [.val d141, .val d159, .unk, .unk] rfl (js_ret0 (je_if (jt_cmp (ob_ne hr.units) (JE.v (je_nm n_swing_steps rfl)) (JE.v (je_lst ja_nil)) (by rfl)) (je_tup (ja_cons (je_callB (cd_max rfl hr.units) g_swing_max c.n_max (by decide +kernel) (jav_cons (JE.v (je_nm n_swing_steps rfl)) fun x163 => jav_nil)) fun x164 => (ja_cons (je_indexL (je_nm n_swing_steps rfl) (je_callB (cd_max rfl hr.units) g_swing_max c.n_max (by decide +kernel) (jav_cons (JE.v (je_nm n_swing_steps rfl)) fun x165 => jav_nil))) fun x168 => ja_nil))) je_non)))))))
abbrev s_is_loose : Stmt := topS 28
theorem sc_is_loose : FnScope ["value", "one", "least", "most"] ["value"] (defScope s_is_loose) := ⟨rfl, rfl, rfl, by decide +kernel, rfl, by decide +kernel, by decide +kernel⟩
theorem n_is_loose_value : NmF (defScope s_is_loose) ["value", "one", "least", "most"] 0 "value" := ⟨rfl, (.inl (by kernel_rfl)), by decide, by decide⟩
theorem g_is_loose_MOST_YARDS : (defScope s_is_loose).names.lookup (("MOST_YARDS" : Str)) = some .globalImplicit := by kernel_rfl
theorem g_is_loose_all : (defScope s_is_loose).names.lookup (("all" : Str)) = some .globalImplicit := by kernel_rfl
theorem g_is_loose_is_tuple : (defScope s_is_loose).names.lookup (("is_tuple" : Str)) = some .globalImplicit := by kernel_rfl
theorem w_is_loose (c : Fx K mg) : DOk PR w K mg base 3 "is_loose" ["value"] (spF m_is_loose) := by
  refine ok_pure (N := ["value", "one", "least", "most"]) (k := 2) c.f_is_loose sc_is_loose (fun _ _ _ _ _ _ us hl => match us, hl with | [_], _ => rfl) (mb := fun ds => match ds with | [d170] => b_is_loose d170 | _ => fail) ?_ ?_
  · intro ds r h
    match ds, h with
    | [_], h => exact ⟨rfl, h⟩
  · intro ds hl
    match ds, hl with
    | [d170], _ =>
      intro cdv A outer s F E hr
      show JS _ _ _ _ (b_is_loose d170) _
      unfold b_is_loose
      exact (js_nf [.val d170, .unk, .unk, .unk] rfl (js_ifret (JW.t (jw_or (jt_not (jt_val (je_callO (w_is_tuple c) hr (by decide) g_is_loose_is_tuple (ja_cons (je_nm n_is_loose_value rfl) fun x171 => (ja_cons je_int fun x172 => (ja_cons (je_gint c.c_MOST_YARDS g_is_loose_MOST_YARDS) fun x173 => ja_nil)))))) (jw_or1 (jt_not (jt_val (je_callB (cd_all rfl) g_is_loose_all c.n_all (by decide +kernel) (jav_cons (JE.v (je_lc rfl sc_is_loose.nd (ji_seq (je_nm n_is_loose_value rfl)) (blk (own := [("one", 1)]) (by kernel_rfl)) (fun _ _ _ _ _ => (pgd_n 1 sc_is_loose.nd rfl (.inl rfl))) (ji_n fun d177 => .plain (fun _ _ _ _ _ => je_nf [.val d170, .val d177, .unk, .unk] rfl (je_callO (w_is_tuple c) hr (by decide) rfl (ja_cons (je_name 1 rfl (.inl rfl) rfl) fun x178 => (ja_cons (je_gint c.c_PAIR_strands rfl) fun x179 => (ja_cons (je_gint c.c_PAIR_strands rfl) fun x180 => ja_nil)))))))) fun x185 => jav_nil))))))) (js_nf [.val d170, .unk, .unk, .unk] rfl (js_ret0 je_bl)) (js_nf [.val d170, .unk, .unk, .unk] rfl (js_ifret (jt_not (jt_val (je_callB (cd_all rfl) g_is_loose_all c.n_all (by decide +kernel) (jav_cons (JE.v (je_lc rfl sc_is_loose.nd (ji_seq (je_nm n_is_loose_value rfl)) (blk (own := [("least", 2), ("most", 3)]) (by kernel_rfl)) (fun _ _ _ _ _ => (pgd_2 rfl (pgd_n 2 sc_is_loose.nd rfl (.inl rfl)) (pgd_n 3 sc_is_loose.nd rfl (.inl rfl)))) (ji_2 fun d191 d192 => .plain (fun _ _ _ _ _ => je_nf [.val d170, .unk, .val d191, .val d192] rfl (je_callO (w_is_integer c) hr (by decide) rfl (ja_cons (je_name 2 rfl (.inl rfl) rfl) fun x193 => (ja_cons je_int fun x194 => (ja_cons (je_gint c.c_MOST_STRENGTH rfl) fun x195 => ja_nil)))))))) fun x200 => jav_nil)))) (js_nf [.val d170, .unk, .unk, .unk] rfl (js_ret0 je_bl)) (js_nf [.val d170, .unk, .unk, .unk] rfl (js_ret0 (je_callB (cd_all rfl) g_is_loose_all c.n_all (by decide +kernel) (jav_cons (JE.v (je_lc rfl sc_is_loose.nd (ji_seq (je_nm n_is_loose_value rfl)) (blk (own := [("least", 2), ("most", 3)]) (by kernel_rfl)) (fun _ _ _ _ _ => (pgd_2 rfl (pgd_n 2 sc_is_loose.nd rfl (.inl rfl)) (pgd_n 3 sc_is_loose.nd rfl (.inl rfl)))) (ji_2 fun d205 d206 => .plain (fun _ _ _ _ _ => je_nf [.val d170, .unk, .val d205, .val d206] rfl (je_callO (w_is_integer c) hr (by decide) rfl (ja_cons (je_name 3 rfl (.inl rfl) rfl) fun x207 => (ja_cons (je_name 2 rfl (.inl rfl) rfl) fun x208 => (ja_cons (je_gint c.c_MOST_STRENGTH rfl) fun x209 => ja_nil)))))))) fun x214 => jav_nil)))) fun _ _ => nofun)) fun _ _ => nofun))
abbrev s_check_loose : Stmt := topS 29
theorem sc_check_loose : FnScope ["value"] ["value"] (defScope s_check_loose) := ⟨rfl, rfl, rfl, by decide +kernel, rfl, by decide +kernel, by decide +kernel⟩
theorem n_check_loose_value : NmF (defScope s_check_loose) ["value"] 0 "value" := ⟨rfl, (.inl (by kernel_rfl)), by decide, by decide⟩
theorem g_check_loose_is_loose : (defScope s_check_loose).names.lookup (("is_loose" : Str)) = some .globalImplicit := by kernel_rfl
theorem w_check_loose (c : Fx K mg) : DOk PR w K mg base 4 "check_loose" ["value"] (spF m_check_loose) := by
  refine ok_proc (ρ' := [.unk]) (N := ["value"]) (k := 3) c.f_check_loose sc_check_loose (fun _ _ _ _ _ _ us hl => match us, hl with | [_], _ => rfl) (mb := fun ds => match ds with | [d215] => b_check_loose d215 | _ => fail) ?_ ?_
  · intro ds r h
    match ds, h with
    | [_], h => exact ⟨rfl, h⟩
  · intro ds hl
    match ds, hl with
    | [d215], _ =>
      intro cdv A outer s F E hr
      show JS _ _ _ _ (b_check_loose d215) _
      unfold b_check_loose
      exact (js_nf [.val d215] rfl (js_ifraise (jt_not (jt_val (je_callO (w_is_loose c) hr (by decide) g_check_loose_is_loose (ja_cons (je_nm n_check_loose_value rfl) fun x216 => ja_nil)))) (js_end rfl (.u .nil))))
abbrev s_loosened : Stmt := topS 30
theorem sc_loosened : FnScope ["strand", "much", "one"] ["strand", "much"] (defScope s_loosened) := ⟨rfl, rfl, rfl, by decide +kernel, rfl, by decide +kernel, by decide +kernel⟩
theorem n_loosened_much : NmF (defScope s_loosened) ["strand", "much", "one"] 1 "much" := ⟨rfl, (.inr (.inl (by kernel_rfl))), by decide, by decide⟩
theorem n_loosened_strand : NmF (defScope s_loosened) ["strand", "much", "one"] 0 "strand" := ⟨rfl, (.inl (by kernel_rfl)), by decide, by decide⟩
theorem g_loosened_MOST_STRENGTH : (defScope s_loosened).names.lookup (("MOST_STRENGTH" : Str)) = some .globalImplicit := by kernel_rfl
theorem g_loosened_check_strand : (defScope s_loosened).names.lookup (("check_strand" : Str)) = some .globalImplicit := by kernel_rfl
theorem g_loosened_is_integer : (defScope s_loosened).names.lookup (("is_integer" : Str)) = some .globalImplicit := by kernel_rfl
theorem g_loosened_tuple : (defScope s_loosened).names.lookup (("tuple" : Str)) = some .globalImplicit := by kernel_rfl
theorem w_loosened (c : Fx K mg) : DOk PR w K mg base 5 "loosened" ["strand", "much"] (spF m_loosened) := by
  refine ok_pure (N := ["strand", "much", "one"]) (k := 4) c.f_loosened sc_loosened (fun _ _ _ _ _ _ us hl => match us, hl with | [_, _], _ => rfl) (mb := fun ds => match ds with | [d220, d221] => b_loosened d220 d221 | _ => fail) ?_ ?_
  · intro ds r h
    match ds, h with
    | [_, _], h => exact ⟨rfl, h⟩
  · intro ds hl
    match ds, hl with
    | [d220, d221], _ =>
      intro cdv A outer s F E hr
      show JS _ _ _ _ (b_loosened d220 d221) _
      unfold b_loosened
      exact (js_nf [.val d220, .val d221, .unk] rfl (js_expr (je_callO (w_check_strand c) hr (by decide) g_loosened_check_strand (ja_cons (je_nm n_loosened_strand rfl) fun x222 => ja_nil)) (js_nf [.val d220, .val d221, .unk] rfl (js_ifraise (jt_not (jt_val (je_callO (w_is_integer c) hr (by decide) g_loosened_is_integer (ja_cons (je_nm n_loosened_much rfl) fun x223 => (ja_cons je_int fun x224 => (ja_cons (je_gint c.c_MOST_STRENGTH g_loosened_MOST_STRENGTH) fun x225 => ja_nil)))))) (js_nf [.val d220, .val d221, .unk] rfl (js_ret0 (je_callTy cd_tuple g_loosened_tuple c.n_tuple (by decide +kernel) (jav_cons (JE.v (je_lc rfl sc_loosened.nd (ji_seq (je_nm n_loosened_strand rfl)) (blk (own := [("one", 2)]) (by kernel_rfl)) (fun _ _ _ _ _ => (pgd_n 2 sc_loosened.nd rfl (.inl rfl))) (ji_n fun d230 => .plain (fun _ _ _ _ _ => je_nf [.val d220, .val d221, .val d230] rfl (je_tup (ja_cons (je_callB (cd_max2 rfl) rfl c.n_max (by decide +kernel) (jav_cons (JE.v je_int) fun x231 => (jav_cons (JE.v (je_bin od_sub (je_name 2 rfl (.inl rfl) rfl) (je_name 1 rfl (.inr (.inl rfl)) rfl))) fun x234 => jav_nil))) fun x235 => (ja_cons (je_callB (cd_min2 rfl) rfl c.n_min (by decide +kernel) (jav_cons (JE.v (je_gint c.c_MOST_STRENGTH rfl)) fun x236 => (jav_cons (JE.v (je_bin od_add (je_name 2 rfl (.inl rfl) rfl) (je_name 1 rfl (.inr (.inl rfl)) rfl))) fun x239 => jav_nil))) fun x240 => ja_nil))))))) fun x245 => jav_nil))))))))
abbrev s_may_be : Stmt := topS 31
theorem sc_may_be : FnScope ["loose", "strand", "one", "least", "most"] ["loose", "strand"] (defScope s_may_be) := ⟨rfl, rfl, rfl, by decide +kernel, rfl, by decide +kernel, by decide +kernel⟩
theorem n_may_be_loose : NmF (defScope s_may_be) ["loose", "strand", "one", "least", "most"] 0 "loose" := ⟨rfl, (.inl (by kernel_rfl)), by decide, by decide⟩
theorem n_may_be_strand : NmF (defScope s_may_be) ["loose", "strand", "one", "least", "most"] 1 "strand" := ⟨rfl, (.inl (by kernel_rfl)), by decide, by decide⟩
theorem g_may_be_all : (defScope s_may_be).names.lookup (("all" : Str)) = some .globalImplicit := by kernel_rfl
theorem g_may_be_check_loose : (defScope s_may_be).names.lookup (("check_loose" : Str)) = some .globalImplicit := by kernel_rfl
theorem g_may_be_check_strand : (defScope s_may_be).names.lookup (("check_strand" : Str)) = some .globalImplicit := by kernel_rfl
theorem g_may_be_len : (defScope s_may_be).names.lookup (("len" : Str)) = some .globalImplicit := by kernel_rfl
theorem g_may_be_zip : (defScope s_may_be).names.lookup (("zip" : Str)) = some .globalImplicit := by kernel_rfl
theorem w_may_be (c : Fx K mg) : DOk PR w K mg base 5 "may_be" ["loose", "strand"] (spF m_may_be) := by
  refine ok_pure (N := ["loose", "strand", "one", "least", "most"]) (k := 4) c.f_may_be sc_may_be (fun _ _ _ _ _ _ us hl => match us, hl with | [_, _], _ => rfl) (mb := fun ds => match ds with | [d246, d247] => b_may_be d246 d247 | _ => fail) ?_ ?_
  · intro ds r h
    match ds, h with
    | [_, _], h => exact ⟨rfl, h⟩
  · intro ds hl
    match ds, hl with
    | [d246, d247], _ =>
      intro cdv A outer s F E hr
      show JS _ _ _ _ (b_may_be d246 d247) _
      unfold b_may_be
      exact (js_nf [.val d246, .val d247, .unk, .unk, .unk] rfl (js_expr (je_callO (w_check_loose c) hr (by decide) g_may_be_check_loose (ja_cons (je_nm n_may_be_loose rfl) fun x248 => ja_nil)) (js_nf [.val d246, .val d247, .unk, .unk, .unk] rfl (js_expr (je_callO (w_check_strand c) hr (by decide) g_may_be_check_strand (ja_cons (je_nm n_may_be_strand rfl) fun x249 => ja_nil)) (js_nf [.val d246, .val d247, .unk, .unk, .unk] rfl (js_ifraise (jt_cmp (ob_ne hr.units) (JE.v (je_callB cd_len g_may_be_len c.n_len (by decide +kernel) (jav_cons (JE.v (je_nm n_may_be_strand rfl)) fun x250 => jav_nil))) (JE.v (je_callB cd_len g_may_be_len c.n_len (by decide +kernel) (jav_cons (JE.v (je_nm n_may_be_loose rfl)) fun x251 => jav_nil))) (by rfl)) (js_nf [.val d246, .val d247, .unk, .unk, .unk] rfl (js_ret0 (je_callB (cd_all rfl) g_may_be_all c.n_all (by decide +kernel) (jav_cons (JE.v (je_lc rfl sc_may_be.nd (ji_zip g_may_be_zip c.n_zip (ja_cons (je_nm n_may_be_strand rfl) fun x256 => (ja_cons (je_nm n_may_be_loose rfl) fun x257 => ja_nil))) (blk (own := [("one", 2), ("least", 3), ("most", 4)]) (by kernel_rfl)) (fun _ _ _ _ _ => (pgd_2 rfl (pgd_n 2 sc_may_be.nd rfl (.inl rfl)) (pgd_2 rfl (pgd_n 3 sc_may_be.nd rfl (.inl rfl)) (pgd_n 4 sc_may_be.nd rfl (.inl rfl))))) (ji_12 fun d258 d259 d260 => .plain (fun _ _ _ _ _ => je_nf [.val d246, .val d247, .val d258, .val d259, .val d260] rfl (je_chain ob_le ob_le (JE.v (je_name 3 rfl (.inl rfl) rfl)) (JE.v (je_name 2 rfl (.inl rfl) rfl)) (JE.v (je_name 4 rfl (.inl rfl) rfl))))))) fun x271 => jav_nil))))))))))
abbrev s_both : Stmt := topS 32
theorem sc_both : FnScope ["one", "other", "found", "mine", "its", "least", "most"] ["one", "other"] (defScope s_both) := ⟨rfl, rfl, rfl, by decide +kernel, rfl, by decide +kernel, by decide +kernel⟩
theorem n_both_found : NmF (defScope s_both) ["one", "other", "found", "mine", "its", "least", "most"] 2 "found" := ⟨rfl, (.inl (by kernel_rfl)), by decide, by decide⟩
theorem n_both_one : NmF (defScope s_both) ["one", "other", "found", "mine", "its", "least", "most"] 0 "one" := ⟨rfl, (.inl (by kernel_rfl)), by decide, by decide⟩
theorem n_both_other : NmF (defScope s_both) ["one", "other", "found", "mine", "its", "least", "most"] 1 "other" := ⟨rfl, (.inl (by kernel_rfl)), by decide, by decide⟩
theorem g_both_all : (defScope s_both).names.lookup (("all" : Str)) = some .globalImplicit := by kernel_rfl
theorem g_both_check_loose : (defScope s_both).names.lookup (("check_loose" : Str)) = some .globalImplicit := by kernel_rfl
theorem g_both_len : (defScope s_both).names.lookup (("len" : Str)) = some .globalImplicit := by kernel_rfl
theorem g_both_tuple : (defScope s_both).names.lookup (("tuple" : Str)) = some .globalImplicit := by kernel_rfl
theorem g_both_zip : (defScope s_both).names.lookup (("zip" : Str)) = some .globalImplicit := by kernel_rfl
theorem w_both (c : Fx K mg) : DOk PR w K mg base 5 "both" ["one", "other"] (spF m_both) := by
  refine ok_pure (N := ["one", "other", "found", "mine", "its", "least", "most"]) (k := 4) c.f_both sc_both (fun _ _ _ _ _ _ us hl => match us, hl with | [_, _], _ => rfl) (mb := fun ds => match ds with | [d272, d273] => b_both d272 d273 | _ => fail) ?_ ?_
  · intro ds r h
    match ds, h with
    | [_, _], h => exact ⟨rfl, h⟩
  · intro ds hl
    match ds, hl with
    | [d272, d273], _ =>
      intro cdv A outer s F E hr
      show JS _ _ _ _ (b_both d272 d273) _
      unfold b_both
      exact (js_nf [.val d272, .val d273, .unk, .unk, .unk, .unk, .unk] rfl (js_expr (je_callO (w_check_loose c) hr (by decide) g_both_check_loose (ja_cons (je_nm n_both_one rfl) fun x274 => ja_nil)) (js_nf [.val d272, .val d273, .unk, .unk, .unk, .unk, .unk] rfl (js_expr (je_callO (w_check_loose c) hr (by decide) g_both_check_loose (ja_cons (je_nm n_both_other rfl) fun x275 => ja_nil)) (js_nf [.val d272, .val d273, .unk, .unk, .unk, .unk, .unk] rfl (js_ifraise (jt_cmp (ob_ne hr.units) (JE.v (je_callB cd_len g_both_len c.n_len (by decide +kernel) (jav_cons (JE.v (je_nm n_both_one rfl)) fun x276 => jav_nil))) (JE.v (je_callB cd_len g_both_len c.n_len (by decide +kernel) (jav_cons (JE.v (je_nm n_both_other rfl)) fun x277 => jav_nil))) (by rfl)) (js_nf [.val d272, .val d273, .unk, .unk, .unk, .unk, .unk] rfl (js_asgLc (i := 2) rfl sc_both.nd rfl rfl (ji_zip g_both_zip c.n_zip (ja_cons (je_nm n_both_one rfl) fun x282 => (ja_cons (je_nm n_both_other rfl) fun x283 => ja_nil))) (blk (own := [("mine", 3), ("its", 4)]) (by kernel_rfl)) (fun _ _ _ _ _ => (pgd_2 rfl (pgd_n 3 sc_both.nd rfl (.inl rfl)) (pgd_n 4 sc_both.nd rfl (.inl rfl)))) (ji_2 fun d284 d285 => .plain (fun _ _ _ _ _ => je_nf [.val d272, .val d273, .unk, .val d284, .val d285, .unk, .unk] rfl (je_tup (ja_cons (je_callB (cd_max2 rfl) rfl c.n_max (by decide +kernel) (jav_cons (JE.v (je_ix (JE.v (je_name 3 rfl (.inl rfl) rfl)) je_int)) fun x288 => (jav_cons (JE.v (je_ix (JE.v (je_name 4 rfl (.inl rfl) rfl)) je_int)) fun x291 => jav_nil))) fun x292 => (ja_cons (je_callB (cd_min2 rfl) rfl c.n_min (by decide +kernel) (jav_cons (JE.v (je_ix (JE.v (je_name 3 rfl (.inl rfl) rfl)) je_int)) fun x295 => (jav_cons (JE.v (je_ix (JE.v (je_name 4 rfl (.inl rfl) rfl)) je_int)) fun x298 => jav_nil))) fun x299 => ja_nil))))) fun d304 => (js_nf [.val d272, .val d273, .val d304, .unk, .unk, .unk, .unk] rfl (js_ret0 (je_if (jt_val (je_callB (cd_all rfl) g_both_all c.n_all (by decide +kernel) (jav_cons (JE.v (je_lc rfl sc_both.nd (ji_seq (je_nm n_both_found rfl)) (blk (own := [("least", 5), ("most", 6)]) (by kernel_rfl)) (fun _ _ _ _ _ => (pgd_2 rfl (pgd_n 5 sc_both.nd rfl (.inl rfl)) (pgd_n 6 sc_both.nd rfl (.inl rfl)))) (ji_2 fun d306 d307 => .plain (fun _ _ _ _ _ => je_nf [.val d272, .val d273, .val d304, .unk, .unk, .val d306, .val d307] rfl (je_cmp ob_le (JE.v (je_name 5 rfl (.inl rfl) rfl)) (JE.v (je_name 6 rfl (.inl rfl) rfl)) (by rfl)))))) fun x315 => jav_nil))) (je_callTy cd_tuple g_both_tuple c.n_tuple (by decide +kernel) (jav_cons (JE.v (je_nm n_both_found rfl)) fun x317 => jav_nil)) je_non)))))))))))
abbrev s_is_band : Stmt := topS 33
theorem sc_is_band : FnScope ["value"] ["value"] (defScope s_is_band) := ⟨rfl, rfl, rfl, by decide +kernel, rfl, by decide +kernel, by decide +kernel⟩
theorem n_is_band_value : NmF (defScope s_is_band) ["value"] 0 "value" := ⟨rfl, (.inl (by kernel_rfl)), by decide, by decide⟩
theorem g_is_band_MOST_SUM_strands : (defScope s_is_band).names.lookup (("MOST_SUM_strands" : Str)) = some .globalImplicit := by kernel_rfl
theorem g_is_band_PAIR_strands : (defScope s_is_band).names.lookup (("PAIR_strands" : Str)) = some .globalImplicit := by kernel_rfl
theorem g_is_band_is_integer : (defScope s_is_band).names.lookup (("is_integer" : Str)) = some .globalImplicit := by kernel_rfl
theorem g_is_band_is_tuple : (defScope s_is_band).names.lookup (("is_tuple" : Str)) = some .globalImplicit := by kernel_rfl
theorem w_is_band (c : Fx K mg) : DOk PR w K mg base 3 "is_band" ["value"] (spF m_is_band) := by
  refine ok_pure (N := ["value"]) (k := 2) c.f_is_band sc_is_band (fun _ _ _ _ _ _ us hl => match us, hl with | [_], _ => rfl) (mb := fun ds => match ds with | [d319] => b_is_band d319 | _ => fail) ?_ ?_
  · intro ds r h
    match ds, h with
    | [_], h => exact ⟨rfl, h⟩
  · intro ds hl
    match ds, hl with
    | [d319], _ =>
      intro cdv A outer s F E hr
      show JS _ _ _ _ (b_is_band d319) _
      unfold b_is_band
      exact (js_nf [.val d319] rfl (js_ifret (JW.t (jw_or (jt_not (jt_val (je_callO (w_is_tuple c) hr (by decide) g_is_band_is_tuple (ja_cons (je_nm n_is_band_value rfl) fun x320 => (ja_cons (je_gint c.c_PAIR_strands g_is_band_PAIR_strands) fun x321 => (ja_cons (je_gint c.c_PAIR_strands g_is_band_PAIR_strands) fun x322 => ja_nil)))))) (jw_or1 (jt_not (jt_val (je_callO (w_is_integer c) hr (by decide) g_is_band_is_integer (ja_cons (je_ix (JE.v (je_nm n_is_band_value rfl)) je_int) fun x327 => (ja_cons je_int fun x328 => (ja_cons (je_gint c.c_MOST_SUM_strands g_is_band_MOST_SUM_strands) fun x329 => ja_nil))))))))) (js_nf [.val d319] rfl (js_ret0 je_bl)) (js_nf [.val d319] rfl (js_ret0 (je_callO (w_is_integer c) hr (by decide) g_is_band_is_integer (ja_cons (je_ix (JE.v (je_nm n_is_band_value rfl)) je_int) fun x336 => (ja_cons (je_ix (JE.v (je_nm n_is_band_value rfl)) je_int) fun x339 => (ja_cons (je_gint c.c_MOST_SUM_strands g_is_band_MOST_SUM_strands) fun x340 => ja_nil)))))) fun _ _ => nofun))
abbrev s_check_band : Stmt := topS 34
theorem sc_check_band : FnScope ["value"] ["value"] (defScope s_check_band) := ⟨rfl, rfl, rfl, by decide +kernel, rfl, by decide +kernel, by decide +kernel⟩
theorem n_check_band_value : NmF (defScope s_check_band) ["value"] 0 "value" := ⟨rfl, (.inl (by kernel_rfl)), by decide, by decide⟩
theorem g_check_band_is_band : (defScope s_check_band).names.lookup (("is_band" : Str)) = some .globalImplicit := by kernel_rfl
theorem w_check_band (c : Fx K mg) : DOk PR w K mg base 4 "check_band" ["value"] (spF m_check_band) := by
  refine ok_proc (ρ' := [.unk]) (N := ["value"]) (k := 3) c.f_check_band sc_check_band (fun _ _ _ _ _ _ us hl => match us, hl with | [_], _ => rfl) (mb := fun ds => match ds with | [d341] => b_check_band d341 | _ => fail) ?_ ?_
  · intro ds r h
    match ds, h with
    | [_], h => exact ⟨rfl, h⟩
  · intro ds hl
    match ds, hl with
    | [d341], _ =>
      intro cdv A outer s F E hr
      show JS _ _ _ _ (b_check_band d341) _
      unfold b_check_band
      exact (js_nf [.val d341] rfl (js_ifraise (jt_not (jt_val (je_callO (w_is_band c) hr (by decide) g_check_band_is_band (ja_cons (je_nm n_check_band_value rfl) fun x342 => ja_nil)))) (js_end rfl (.u .nil))))
abbrev s_strand_text : Stmt := topS 35
theorem sc_strand_text : FnScope ["strand", "one"] ["strand"] (defScope s_strand_text) := ⟨rfl, rfl, rfl, by decide +kernel, rfl, by decide +kernel, by decide +kernel⟩
theorem n_strand_text_strand : NmF (defScope s_strand_text) ["strand", "one"] 0 "strand" := ⟨rfl, (.inl (by kernel_rfl)), by decide, by decide⟩
theorem g_strand_text_BLANK : (defScope s_strand_text).names.lookup (("BLANK" : Str)) = some .globalImplicit := by kernel_rfl
theorem g_strand_text_check_strand : (defScope s_strand_text).names.lookup (("check_strand" : Str)) = some .globalImplicit := by kernel_rfl
theorem w_strand_text (c : Fx K mg) : DOk PR w K mg base 5 "strand_text" ["strand"] (spF m_strand_text) := by
  refine ok_pure (N := ["strand", "one"]) (k := 4) c.f_strand_text sc_strand_text (fun _ _ _ _ _ _ us hl => match us, hl with | [_], _ => rfl) (mb := fun ds => match ds with | [d346] => b_strand_text d346 | _ => fail) ?_ ?_
  · intro ds r h
    match ds, h with
    | [_], h => exact ⟨rfl, h⟩
  · intro ds hl
    match ds, hl with
    | [d346], _ =>
      intro cdv A outer s F E hr
      show JS _ _ _ _ (b_strand_text d346) _
      unfold b_strand_text
      exact (js_nf [.val d346, .unk] rfl (js_expr (je_callO (w_check_strand c) hr (by decide) g_strand_text_check_strand (ja_cons (je_nm n_strand_text_strand rfl) fun x347 => ja_nil)) (js_nf [.val d346, .unk] rfl (js_ret0 (je_join (je_gstr c.c_BLANK g_strand_text_BLANK) (je_lc rfl sc_strand_text.nd (ji_seq (je_nm n_strand_text_strand rfl)) (blk (own := [("one", 1)]) (by kernel_rfl)) (fun _ _ _ _ _ => (pgd_n 1 sc_strand_text.nd rfl (.inl rfl))) (ji_n fun d349 => .plain (fun _ _ _ _ _ => je_nf [.val d346, .val d349] rfl (je_callTy cd_str rfl c.n_str (by decide +kernel) (jav_cons (JE.v (je_name 1 rfl (.inl rfl) rfl)) fun x350 => jav_nil))))))))))
abbrev s_read_strand : Stmt := topS 36
theorem sc_read_strand : FnScope ["text", "found", "word"] ["text"] (defScope s_read_strand) := ⟨rfl, rfl, rfl, by decide +kernel, rfl, by decide +kernel, by decide +kernel⟩
theorem n_read_strand_found : NmF (defScope s_read_strand) ["text", "found", "word"] 1 "found" := ⟨rfl, (.inl (by kernel_rfl)), by decide, by decide⟩
theorem n_read_strand_text : NmF (defScope s_read_strand) ["text", "found", "word"] 0 "text" := ⟨rfl, (.inl (by kernel_rfl)), by decide, by decide⟩
theorem g_read_strand_BLANK : (defScope s_read_strand).names.lookup (("BLANK" : Str)) = some .globalImplicit := by kernel_rfl
theorem g_read_strand_MOST_TEXT : (defScope s_read_strand).names.lookup (("MOST_TEXT" : Str)) = some .globalImplicit := by kernel_rfl
theorem g_read_strand_is_strand : (defScope s_read_strand).names.lookup (("is_strand" : Str)) = some .globalImplicit := by kernel_rfl
theorem g_read_strand_isinstance : (defScope s_read_strand).names.lookup (("isinstance" : Str)) = some .globalImplicit := by kernel_rfl
theorem g_read_strand_len : (defScope s_read_strand).names.lookup (("len" : Str)) = some .globalImplicit := by kernel_rfl
theorem g_read_strand_str : (defScope s_read_strand).names.lookup (("str" : Str)) = some .globalImplicit := by kernel_rfl
theorem g_read_strand_tuple : (defScope s_read_strand).names.lookup (("tuple" : Str)) = some .globalImplicit := by kernel_rfl
theorem w_read_strand (c : Fx K mg) : DOk PR w K mg base 4 "read_strand" ["text"] (spF m_read_strand) := by
  refine ok_pure (N := ["text", "found", "word"]) (k := 3) c.f_read_strand sc_read_strand (fun _ _ _ _ _ _ us hl => match us, hl with | [_], _ => rfl) (mb := fun ds => match ds with | [d357] => b_read_strand d357 | _ => fail) ?_ ?_
  · intro ds r h
    match ds, h with
    | [_], h => exact ⟨rfl, h⟩
  · intro ds hl
    match ds, hl with
    | [d357], _ =>
      intro cdv A outer s F E hr
      show JS _ _ _ _ (b_read_strand d357) _
      unfold b_read_strand
      exact (js_nf [.val d357, .unk, .unk] rfl (js_ifraise (JW.t (jw_or (jt_not (jt_val (je_isi (je_nm n_read_strand_text rfl) g_read_strand_isinstance c.n_isinstance g_read_strand_str c.n_str (by decide +kernel)))) (jw_or1 (jt_not (jt_chain ob_le ob_le (JE.v je_int) (JE.v (je_callB cd_len g_read_strand_len c.n_len (by decide +kernel) (jav_cons (JE.v (je_nm n_read_strand_text rfl)) fun x361 => jav_nil))) (JE.v (je_gint c.c_MOST_TEXT g_read_strand_MOST_TEXT))))))) (js_nf [.val d357, .unk, .unk] rfl (js_asgLc (i := 1) rfl sc_read_strand.nd rfl rfl (ji_seq (je_split (je_nm n_read_strand_text rfl) (je_gstr c.c_BLANK g_read_strand_BLANK))) (blk (own := [("word", 2)]) (by kernel_rfl)) (fun _ _ _ _ _ => (pgd_n 2 sc_read_strand.nd rfl (.inl rfl))) (ji_n fun d372 => .plain (fun _ _ _ _ _ => je_nf [.val d357, .unk, .val d372] rfl (je_callO (w_number_in c) hr (by decide) rfl (ja_cons (je_name 2 rfl (.inl rfl) rfl) fun x373 => (ja_cons (je_gint c.c_MOST_STRENGTH rfl) fun x374 => ja_nil))))) fun d379 => (js_nf [.val d357, .val d379, .unk] rfl (js_ifraise (JW.t (jw_or (jt_cmp (ob_in hr.units) (JE.v je_non) (JE.v (je_nm n_read_strand_found rfl)) (by rfl)) (jw_or1 (jt_not (jt_val (je_callO (w_is_strand c) hr (by decide) g_read_strand_is_strand (ja_cons (je_callTy cd_tuple g_read_strand_tuple c.n_tuple (by decide +kernel) (jav_cons (JE.v (je_nm n_read_strand_found rfl)) fun x383 => jav_nil)) fun x384 => ja_nil))))))) (js_nf [.val d357, .val d379, .unk] rfl (js_ret0 (je_callTy cd_tuple g_read_strand_tuple c.n_tuple (by decide +kernel) (jav_cons (JE.v (je_nm n_read_strand_found rfl)) fun x389 => jav_nil))))))))))
abbrev s_is_thread : Stmt := topS 41
theorem sc_is_thread : FnScope ["value", "one", "begin", "strand"] ["value"] (defScope s_is_thread) := ⟨rfl, rfl, rfl, by decide +kernel, rfl, by decide +kernel, by decide +kernel⟩
theorem n_is_thread_value : NmF (defScope s_is_thread) ["value", "one", "begin", "strand"] 0 "value" := ⟨rfl, (.inl (by kernel_rfl)), by decide, by decide⟩
theorem g_is_thread_MOST_BESIDE_threads : (defScope s_is_thread).names.lookup (("MOST_BESIDE_threads" : Str)) = some .globalImplicit := by kernel_rfl
theorem g_is_thread_all : (defScope s_is_thread).names.lookup (("all" : Str)) = some .globalImplicit := by kernel_rfl
theorem g_is_thread_is_tuple : (defScope s_is_thread).names.lookup (("is_tuple" : Str)) = some .globalImplicit := by kernel_rfl
theorem w_is_thread (c : Fx K mg) : DOk PR w K mg base 4 "is_thread" ["value"] (spF m_is_thread) := by
  refine ok_pure (N := ["value", "one", "begin", "strand"]) (k := 3) c.f_is_thread sc_is_thread (fun _ _ _ _ _ _ us hl => match us, hl with | [_], _ => rfl) (mb := fun ds => match ds with | [d390] => b_is_thread d390 | _ => fail) ?_ ?_
  · intro ds r h
    match ds, h with
    | [_], h => exact ⟨rfl, h⟩
  · intro ds hl
    match ds, hl with
    | [d390], _ =>
      intro cdv A outer s F E hr
      show JS _ _ _ _ (b_is_thread d390) _
      unfold b_is_thread
      exact (js_nf [.val d390, .unk, .unk, .unk] rfl (js_ifret (JW.t (jw_or (jt_not (jt_val (je_callO (w_is_tuple c) hr (by decide) g_is_thread_is_tuple (ja_cons (je_nm n_is_thread_value rfl) fun x391 => (ja_cons je_int fun x392 => (ja_cons (je_gint c.c_MOST_BESIDE_threads g_is_thread_MOST_BESIDE_threads) fun x393 => ja_nil)))))) (jw_or1 (jt_not (jt_val (je_callB (cd_all rfl) g_is_thread_all c.n_all (by decide +kernel) (jav_cons (JE.v (je_lc rfl sc_is_thread.nd (ji_seq (je_nm n_is_thread_value rfl)) (blk (own := [("one", 1)]) (by kernel_rfl)) (fun _ _ _ _ _ => (pgd_n 1 sc_is_thread.nd rfl (.inl rfl))) (ji_n fun d397 => .plain (fun _ _ _ _ _ => je_nf [.val d390, .val d397, .unk, .unk] rfl (je_callO (w_is_tuple c) hr (by decide) rfl (ja_cons (je_name 1 rfl (.inl rfl) rfl) fun x398 => (ja_cons (je_gint c.c_PAIR_threads rfl) fun x399 => (ja_cons (je_gint c.c_PAIR_threads rfl) fun x400 => ja_nil)))))))) fun x405 => jav_nil))))))) (js_nf [.val d390, .unk, .unk, .unk] rfl (js_ret0 je_bl)) (js_nf [.val d390, .unk, .unk, .unk] rfl (js_ret0 (je_callB (cd_all rfl) g_is_thread_all c.n_all (by decide +kernel) (jav_cons (JE.v (je_lc rfl sc_is_thread.nd (ji_seq (je_nm n_is_thread_value rfl)) (blk (own := [("begin", 2), ("strand", 3)]) (by kernel_rfl)) (fun _ _ _ _ _ => (pgd_2 rfl (pgd_n 2 sc_is_thread.nd rfl (.inl rfl)) (pgd_n 3 sc_is_thread.nd rfl (.inl rfl)))) (ji_2 fun d411 d412 => .plain (fun _ _ _ _ _ => je_nf [.val d390, .unk, .val d411, .val d412] rfl (je_and (je_callO (w_is_integer c) hr (by decide) rfl (ja_cons (je_name 2 rfl (.inl rfl) rfl) fun x413 => (ja_cons je_int fun x414 => (ja_cons (je_gint c.c_MOST_BEGIN_threads rfl) fun x415 => ja_nil)))) (je_one (je_callO (w_is_strand c) hr (by decide) rfl (ja_cons (je_name 3 rfl (.inl rfl) rfl) fun x416 => ja_nil)))))))) fun x423 => jav_nil)))) fun _ _ => nofun))
abbrev s_check_thread : Stmt := topS 42
theorem sc_check_thread : FnScope ["value"] ["value"] (defScope s_check_thread) := ⟨rfl, rfl, rfl, by decide +kernel, rfl, by decide +kernel, by decide +kernel⟩
theorem n_check_thread_value : NmF (defScope s_check_thread) ["value"] 0 "value" := ⟨rfl, (.inl (by kernel_rfl)), by decide, by decide⟩
theorem g_check_thread_is_thread : (defScope s_check_thread).names.lookup (("is_thread" : Str)) = some .globalImplicit := by kernel_rfl
theorem w_check_thread (c : Fx K mg) : DOk PR w K mg base 5 "check_thread" ["value"] (spF m_check_thread) := by
  refine ok_proc (ρ' := [.unk]) (N := ["value"]) (k := 4) c.f_check_thread sc_check_thread (fun _ _ _ _ _ _ us hl => match us, hl with | [_], _ => rfl) (mb := fun ds => match ds with | [d424] => b_check_thread d424 | _ => fail) ?_ ?_
  · intro ds r h
    match ds, h with
    | [_], h => exact ⟨rfl, h⟩
  · intro ds hl
    match ds, hl with
    | [d424], _ =>
      intro cdv A outer s F E hr
      show JS _ _ _ _ (b_check_thread d424) _
      unfold b_check_thread
      exact (js_nf [.val d424] rfl (js_ifraise (jt_not (jt_val (je_callO (w_is_thread c) hr (by decide) g_check_thread_is_thread (ja_cons (je_nm n_check_thread_value rfl) fun x425 => ja_nil)))) (js_end rfl (.u .nil))))
abbrev s_span_of : Stmt := topS 43
theorem sc_span_of : FnScope ["thread", "begin", "strand"] ["thread"] (defScope s_span_of) := ⟨rfl, rfl, rfl, by decide +kernel, rfl, by decide +kernel, by decide +kernel⟩
theorem n_span_of_thread : NmF (defScope s_span_of) ["thread", "begin", "strand"] 0 "thread" := ⟨rfl, (.inl (by kernel_rfl)), by decide, by decide⟩
theorem g_span_of_max : (defScope s_span_of).names.lookup (("max" : Str)) = some .globalImplicit := by kernel_rfl
theorem g_span_of_min : (defScope s_span_of).names.lookup (("min" : Str)) = some .globalImplicit := by kernel_rfl
theorem w_span_of (c : Fx K mg) : DOk PR w K mg base 1 "span_of" ["thread"] (spF m_span_of) := by
  refine ok_pure (N := ["thread", "begin", "strand"]) (k := 0) c.f_span_of sc_span_of (fun _ _ _ _ _ _ us hl => match us, hl with | [_], _ => rfl) (mb := fun ds => match ds with | [d429] => b_span_of d429 | _ => fail) ?_ ?_
  · intro ds r h
    match ds, h with
    | [_], h => exact ⟨rfl, h⟩
  · intro ds hl
    match ds, hl with
    | [d429], _ =>
      intro cdv A outer s F E hr
      show JS _ _ _ _ (b_span_of d429) _
      unfold b_span_of
      exact (js_nf [.val d429, .unk, .unk] rfl (js_ret0 (je_tup (ja_cons (je_callB (cd_min rfl hr.units) g_span_of_min c.n_min (by decide +kernel) (jav_cons (JE.v (je_lc rfl sc_span_of.nd (ji_seq (je_nm n_span_of_thread rfl)) (blk (own := [("begin", 1), ("strand", 2)]) (by kernel_rfl)) (fun _ _ _ _ _ => (pgd_2 rfl (pgd_n 1 sc_span_of.nd rfl (.inl rfl)) (pgd_n 2 sc_span_of.nd rfl (.inl rfl)))) (ji_2 fun d431 d432 => .plain (fun _ _ _ _ _ => je_nf [.val d429, .val d431, .val d432] rfl (je_name 1 rfl (.inl rfl) rfl))))) fun x437 => jav_nil)) fun x438 => (ja_cons (je_callB (cd_max rfl hr.units) g_span_of_max c.n_max (by decide +kernel) (jav_cons (JE.v (je_lc rfl sc_span_of.nd (ji_seq (je_nm n_span_of_thread rfl)) (blk (own := [("begin", 1), ("strand", 2)]) (by kernel_rfl)) (fun _ _ _ _ _ => (pgd_2 rfl (pgd_n 1 sc_span_of.nd rfl (.inl rfl)) (pgd_n 2 sc_span_of.nd rfl (.inl rfl)))) (ji_2 fun d440 d441 => .plain (fun _ _ _ _ _ => je_nf [.val d429, .val d440, .val d441] rfl (je_bin od_add (je_name 1 rfl (.inl rfl) rfl) (je_callB cd_len rfl c.n_len (by decide +kernel) (jav_cons (JE.v (je_name 2 rfl (.inl rfl) rfl)) fun x442 => jav_nil))))))) fun x449 => jav_nil)) fun x450 => ja_nil)))))
abbrev s_span : Stmt := topS 44
theorem sc_span : FnScope ["thread"] ["thread"] (defScope s_span) := ⟨rfl, rfl, rfl, by decide +kernel, rfl, by decide +kernel, by decide +kernel⟩
theorem n_span_thread : NmF (defScope s_span) ["thread"] 0 "thread" := ⟨rfl, (.inl (by kernel_rfl)), by decide, by decide⟩
theorem g_span_check_thread : (defScope s_span).names.lookup (("check_thread" : Str)) = some .globalImplicit := by kernel_rfl
theorem g_span_span_of : (defScope s_span).names.lookup (("span_of" : Str)) = some .globalImplicit := by kernel_rfl
theorem w_span (c : Fx K mg) : DOk PR w K mg base 6 "span" ["thread"] (spF m_span) := by
  refine ok_pure (N := ["thread"]) (k := 5) c.f_span sc_span (fun _ _ _ _ _ _ us hl => match us, hl with | [_], _ => rfl) (mb := fun ds => match ds with | [d451] => b_span d451 | _ => fail) ?_ ?_
  · intro ds r h
    match ds, h with
    | [_], h => exact ⟨rfl, h⟩
  · intro ds hl
    match ds, hl with
    | [d451], _ =>
      intro cdv A outer s F E hr
      show JS _ _ _ _ (b_span d451) _
      unfold b_span
      exact (js_nf [.val d451] rfl (js_expr (je_callO (w_check_thread c) hr (by decide) g_span_check_thread (ja_cons (je_nm n_span_thread rfl) fun x452 => ja_nil)) (js_nf [.val d451] rfl (js_ret0 (je_callO (w_span_of c) hr (by decide) g_span_span_of (ja_cons (je_nm n_span_thread rfl) fun x453 => ja_nil))))))
abbrev s_at_yard : Stmt := topS 45
theorem sc_at_yard : FnScope ["thread", "yard", "begin", "strand"] ["thread", "yard"] (defScope s_at_yard) := ⟨rfl, rfl, rfl, by decide +kernel, rfl, by decide +kernel, by decide +kernel⟩
theorem n_at_yard_thread : NmF (defScope s_at_yard) ["thread", "yard", "begin", "strand"] 0 "thread" := ⟨rfl, (.inl (by kernel_rfl)), by decide, by decide⟩
theorem g_at_yard_sum : (defScope s_at_yard).names.lookup (("sum" : Str)) = some .globalImplicit := by kernel_rfl
theorem w_at_yard (c : Fx K mg) : DOk PR w K mg base 1 "at_yard" ["thread", "yard"] (spF m_at_yard) := by
  refine ok_pure (N := ["thread", "yard", "begin", "strand"]) (k := 0) c.f_at_yard sc_at_yard (fun _ _ _ _ _ _ us hl => match us, hl with | [_, _], _ => rfl) (mb := fun ds => match ds with | [d454, d455] => b_at_yard d454 d455 | _ => fail) ?_ ?_
  · intro ds r h
    match ds, h with
    | [_, _], h => exact ⟨rfl, h⟩
  · intro ds hl
    match ds, hl with
    | [d454, d455], _ =>
      intro cdv A outer s F E hr
      show JS _ _ _ _ (b_at_yard d454 d455) _
      unfold b_at_yard
      exact (js_nf [.val d454, .val d455, .unk, .unk] rfl (js_ret0 (je_callB (cd_sum rfl) g_at_yard_sum c.n_sum (by decide +kernel) (jav_cons (JE.v (je_lc rfl sc_at_yard.nd (ji_seq (je_nm n_at_yard_thread rfl)) (blk (own := [("begin", 2), ("strand", 3)]) (by kernel_rfl)) (fun _ _ _ _ _ => (pgd_2 rfl (pgd_n 2 sc_at_yard.nd rfl (.inl rfl)) (pgd_n 3 sc_at_yard.nd rfl (.inl rfl)))) (ji_2 fun d457 d458 => .cond (fun _ _ _ _ _ => jt_nf [.val d454, .val d455, .val d457, .val d458] rfl (jt_chain ob_le ob_lt (JE.v (je_name 2 rfl (.inl rfl) rfl)) (JE.v (je_name 1 rfl (.inr (.inl rfl)) rfl)) (JE.v (je_bin od_add (je_name 2 rfl (.inl rfl) rfl) (je_callB cd_len rfl c.n_len (by decide +kernel) (jav_cons (JE.v (je_name 3 rfl (.inl rfl) rfl)) fun x464 => jav_nil)))))) (fun _ _ _ _ _ => je_nf [.val d454, .val d455, .val d457, .val d458] rfl (je_ix (JE.v (je_name 3 rfl (.inl rfl) rfl)) (je_bin od_sub (je_name 1 rfl (.inr (.inl rfl)) rfl) (je_name 2 rfl (.inl rfl) rfl))))))) fun x475 => jav_nil))))
abbrev s_strengths_of : Stmt := topS 46
theorem sc_strengths_of : FnScope ["thread", "first", "end", "yard"] ["thread"] (defScope s_strengths_of) := ⟨rfl, rfl, rfl, by decide +kernel, rfl, by decide +kernel, by decide +kernel⟩
theorem n_strengths_of_end : NmF (defScope s_strengths_of) ["thread", "first", "end", "yard"] 2 "end" := ⟨rfl, (.inl (by kernel_rfl)), by decide, by decide⟩
theorem n_strengths_of_first : NmF (defScope s_strengths_of) ["thread", "first", "end", "yard"] 1 "first" := ⟨rfl, (.inl (by kernel_rfl)), by decide, by decide⟩
theorem n_strengths_of_thread : NmF (defScope s_strengths_of) ["thread", "first", "end", "yard"] 0 "thread" := ⟨rfl, (.inr (.inl (by kernel_rfl))), by decide, by decide⟩
theorem g_strengths_of_range : (defScope s_strengths_of).names.lookup (("range" : Str)) = some .globalImplicit := by kernel_rfl
theorem g_strengths_of_span_of : (defScope s_strengths_of).names.lookup (("span_of" : Str)) = some .globalImplicit := by kernel_rfl
theorem w_strengths_of (c : Fx K mg) : DOk PR w K mg base 2 "strengths_of" ["thread"] (spF m_strengths_of) := by
  refine ok_pure (N := ["thread", "first", "end", "yard"]) (k := 1) c.f_strengths_of sc_strengths_of (fun _ _ _ _ _ _ us hl => match us, hl with | [_], _ => rfl) (mb := fun ds => match ds with | [d476] => b_strengths_of d476 | _ => fail) ?_ ?_
  · intro ds r h
    match ds, h with
    | [_], h => exact ⟨rfl, h⟩
  · intro ds hl
    match ds, hl with
    | [d476], _ =>
      intro cdv A outer s F E hr
      show JS _ _ _ _ (b_strengths_of d476) _
      unfold b_strengths_of
      exact (js_nf [.val d476, .unk, .unk, .unk] rfl (js_unpack (je_callO (w_span_of c) hr (by decide) g_strengths_of_span_of (ja_cons (je_nm n_strengths_of_thread rfl) fun x477 => ja_nil)) (pgd_2 rfl (pgd_n 1 sc_strengths_of.nd rfl (.inl rfl)) (pgd_n 2 sc_strengths_of.nd rfl (.inl rfl))) (ji_2 fun d478 d479 => (js_nf [.val d476, .val d478, .val d479, .unk] rfl (js_ret0 (je_lc rfl sc_strengths_of.nd (ji_range2 g_strengths_of_range c.n_range (ja_cons (je_nm n_strengths_of_first rfl) fun x480 => (ja_cons (je_nm n_strengths_of_end rfl) fun x481 => ja_nil))) (blk (own := [("yard", 3)]) (by kernel_rfl)) (fun _ _ _ _ _ => (pgd_n 3 sc_strengths_of.nd rfl (.inl rfl))) (ji_n fun d482 => .plain (fun _ _ _ _ _ => je_nf [.val d476, .val d478, .val d479, .val d482] rfl (je_callO (w_at_yard c) hr (by decide) rfl (ja_cons (je_name 0 rfl (.inr (.inl rfl)) rfl) fun x483 => (ja_cons (je_name 3 rfl (.inl rfl) rfl) fun x484 => ja_nil)))))))))))
abbrev s_strengths : Stmt := topS 47
theorem sc_strengths : FnScope ["thread"] ["thread"] (defScope s_strengths) := ⟨rfl, rfl, rfl, by decide +kernel, rfl, by decide +kernel, by decide +kernel⟩
theorem n_strengths_thread : NmF (defScope s_strengths) ["thread"] 0 "thread" := ⟨rfl, (.inl (by kernel_rfl)), by decide, by decide⟩
theorem g_strengths_check_thread : (defScope s_strengths).names.lookup (("check_thread" : Str)) = some .globalImplicit := by kernel_rfl
theorem g_strengths_strengths_of : (defScope s_strengths).names.lookup (("strengths_of" : Str)) = some .globalImplicit := by kernel_rfl
theorem g_strengths_tuple : (defScope s_strengths).names.lookup (("tuple" : Str)) = some .globalImplicit := by kernel_rfl
theorem w_strengths (c : Fx K mg) : DOk PR w K mg base 6 "strengths" ["thread"] (spF m_strengths) := by
  refine ok_pure (N := ["thread"]) (k := 5) c.f_strengths sc_strengths (fun _ _ _ _ _ _ us hl => match us, hl with | [_], _ => rfl) (mb := fun ds => match ds with | [d490] => b_strengths d490 | _ => fail) ?_ ?_
  · intro ds r h
    match ds, h with
    | [_], h => exact ⟨rfl, h⟩
  · intro ds hl
    match ds, hl with
    | [d490], _ =>
      intro cdv A outer s F E hr
      show JS _ _ _ _ (b_strengths d490) _
      unfold b_strengths
      exact (js_nf [.val d490] rfl (js_expr (je_callO (w_check_thread c) hr (by decide) g_strengths_check_thread (ja_cons (je_nm n_strengths_thread rfl) fun x491 => ja_nil)) (js_nf [.val d490] rfl (js_ret0 (je_callTy cd_tuple g_strengths_tuple c.n_tuple (by decide +kernel) (jav_cons (JE.v (je_callO (w_strengths_of c) hr (by decide) g_strengths_strengths_of (ja_cons (je_nm n_strengths_thread rfl) fun x492 => ja_nil))) fun x493 => jav_nil))))))
abbrev s_weakest_yard : Stmt := topS 48
theorem sc_weakest_yard : FnScope ["thread", "row"] ["thread"] (defScope s_weakest_yard) := ⟨rfl, rfl, rfl, by decide +kernel, rfl, by decide +kernel, by decide +kernel⟩
theorem n_weakest_yard_row : NmF (defScope s_weakest_yard) ["thread", "row"] 1 "row" := ⟨rfl, (.inl (by kernel_rfl)), by decide, by decide⟩
theorem n_weakest_yard_thread : NmF (defScope s_weakest_yard) ["thread", "row"] 0 "thread" := ⟨rfl, (.inl (by kernel_rfl)), by decide, by decide⟩
theorem g_weakest_yard_check_thread : (defScope s_weakest_yard).names.lookup (("check_thread" : Str)) = some .globalImplicit := by kernel_rfl
theorem g_weakest_yard_min : (defScope s_weakest_yard).names.lookup (("min" : Str)) = some .globalImplicit := by kernel_rfl
theorem g_weakest_yard_span_of : (defScope s_weakest_yard).names.lookup (("span_of" : Str)) = some .globalImplicit := by kernel_rfl
theorem g_weakest_yard_strengths_of : (defScope s_weakest_yard).names.lookup (("strengths_of" : Str)) = some .globalImplicit := by kernel_rfl
theorem w_weakest_yard (c : Fx K mg) : DOk PR w K mg base 6 "weakest_yard" ["thread"] (spF m_weakest_yard) := by
  refine ok_pure (N := ["thread", "row"]) (k := 5) c.f_weakest_yard sc_weakest_yard (fun _ _ _ _ _ _ us hl => match us, hl with | [_], _ => rfl) (mb := fun ds => match ds with | [d494] => b_weakest_yard d494 | _ => fail) ?_ ?_
  · intro ds r h
    match ds, h with
    | [_], h => exact ⟨rfl, h⟩
  · intro ds hl
    match ds, hl with
    | [d494], _ =>
      intro cdv A outer s F E hr
      show JS _ _ _ _ (b_weakest_yard d494) _
      unfold b_weakest_yard
      exact (js_nf [.val d494, .unk] rfl (js_expr (je_callO (w_check_thread c) hr (by decide) g_weakest_yard_check_thread (ja_cons (je_nm n_weakest_yard_thread rfl) fun x495 => ja_nil)) (js_nf [.val d494, .unk] rfl (js_asg (i := 1) sc_weakest_yard.nd rfl (.inl rfl) (JE.x (je_callO (w_strengths_of c) hr (by decide) g_weakest_yard_strengths_of (ja_cons (je_nm n_weakest_yard_thread rfl) fun x496 => ja_nil))) fun d497 => (js_nf [.val d494, .val d497] rfl (js_ret0 (je_tup (ja_cons (je_callB (cd_min rfl hr.units) g_weakest_yard_min c.n_min (by decide +kernel) (jav_cons (JE.v (je_nm n_weakest_yard_row rfl)) fun x498 => jav_nil)) fun x499 => (ja_cons (je_bin od_add (je_ix (JE.v (je_callO (w_span_of c) hr (by decide) g_weakest_yard_span_of (ja_cons (je_nm n_weakest_yard_thread rfl) fun x501 => ja_nil))) je_int) (je_indexL (je_nm n_weakest_yard_row rfl) (je_callB (cd_min rfl hr.units) g_weakest_yard_min c.n_min (by decide +kernel) (jav_cons (JE.v (je_nm n_weakest_yard_row rfl)) fun x503 => jav_nil)))) fun x508 => ja_nil)))))))))
abbrev s_spread : Stmt := topS 49
theorem sc_spread : FnScope ["thread", "row"] ["thread"] (defScope s_spread) := ⟨rfl, rfl, rfl, by decide +kernel, rfl, by decide +kernel, by decide +kernel⟩
theorem n_spread_row : NmF (defScope s_spread) ["thread", "row"] 1 "row" := ⟨rfl, (.inl (by kernel_rfl)), by decide, by decide⟩
theorem n_spread_thread : NmF (defScope s_spread) ["thread", "row"] 0 "thread" := ⟨rfl, (.inl (by kernel_rfl)), by decide, by decide⟩
theorem g_spread_check_thread : (defScope s_spread).names.lookup (("check_thread" : Str)) = some .globalImplicit := by kernel_rfl
theorem g_spread_max : (defScope s_spread).names.lookup (("max" : Str)) = some .globalImplicit := by kernel_rfl
theorem g_spread_min : (defScope s_spread).names.lookup (("min" : Str)) = some .globalImplicit := by kernel_rfl
theorem g_spread_strengths_of : (defScope s_spread).names.lookup (("strengths_of" : Str)) = some .globalImplicit := by kernel_rfl
theorem w_spread (c : Fx K mg) : DOk PR w K mg base 6 "spread" ["thread"] (spF m_spread) := by
  refine ok_pure (N := ["thread", "row"]) (k := 5) c.f_spread sc_spread (fun _ _ _ _ _ _ us hl => match us, hl with | [_], _ => rfl) (mb := fun ds => match ds with | [d509] => b_spread d509 | _ => fail) ?_ ?_
  · intro ds r h
    match ds, h with
    | [_], h => exact ⟨rfl, h⟩
  · intro ds hl
    match ds, hl with
    | [d509], _ =>
      intro cdv A outer s F E hr
      show JS _ _ _ _ (b_spread d509) _
      unfold b_spread
      exact (js_nf [.val d509, .unk] rfl (js_expr (je_callO (w_check_thread c) hr (by decide) g_spread_check_thread (ja_cons (je_nm n_spread_thread rfl) fun x510 => ja_nil)) (js_nf [.val d509, .unk] rfl (js_asg (i := 1) sc_spread.nd rfl (.inl rfl) (JE.x (je_callO (w_strengths_of c) hr (by decide) g_spread_strengths_of (ja_cons (je_nm n_spread_thread rfl) fun x511 => ja_nil))) fun d512 => (js_nf [.val d509, .val d512] rfl (js_ret0 (je_bin od_sub (je_callB (cd_max rfl hr.units) g_spread_max c.n_max (by decide +kernel) (jav_cons (JE.v (je_nm n_spread_row rfl)) fun x513 => jav_nil)) (je_callB (cd_min rfl hr.units) g_spread_min c.n_min (by decide +kernel) (jav_cons (JE.v (je_nm n_spread_row rfl)) fun x514 => jav_nil)))))))))
abbrev s_check_both : Stmt := topS 50
theorem sc_check_both : FnScope ["thread", "band"] ["thread", "band"] (defScope s_check_both) := ⟨rfl, rfl, rfl, by decide +kernel, rfl, by decide +kernel, by decide +kernel⟩
theorem n_check_both_band : NmF (defScope s_check_both) ["thread", "band"] 1 "band" := ⟨rfl, (.inl (by kernel_rfl)), by decide, by decide⟩
theorem n_check_both_thread : NmF (defScope s_check_both) ["thread", "band"] 0 "thread" := ⟨rfl, (.inl (by kernel_rfl)), by decide, by decide⟩
theorem g_check_both_check_band : (defScope s_check_both).names.lookup (("check_band" : Str)) = some .globalImplicit := by kernel_rfl
theorem g_check_both_check_thread : (defScope s_check_both).names.lookup (("check_thread" : Str)) = some .globalImplicit := by kernel_rfl
theorem w_check_both (c : Fx K mg) : DOk PR w K mg base 6 "check_both" ["thread", "band"] (spF m_check_both) := by
  refine ok_proc (ρ' := [.unk, .unk]) (N := ["thread", "band"]) (k := 5) c.f_check_both sc_check_both (fun _ _ _ _ _ _ us hl => match us, hl with | [_, _], _ => rfl) (mb := fun ds => match ds with | [d517, d518] => b_check_both d517 d518 | _ => fail) ?_ ?_
  · intro ds r h
    match ds, h with
    | [_, _], h => exact ⟨rfl, h⟩
  · intro ds hl
    match ds, hl with
    | [d517, d518], _ =>
      intro cdv A outer s F E hr
      show JS _ _ _ _ (b_check_both d517 d518) _
      unfold b_check_both
      exact (js_nf [.val d517, .val d518] rfl (js_expr (je_callO (w_check_thread c) hr (by decide) g_check_both_check_thread (ja_cons (je_nm n_check_both_thread rfl) fun x519 => ja_nil)) (js_nf [.val d517, .val d518] rfl (js_expr (je_callO (w_check_band c) hr (by decide) g_check_both_check_band (ja_cons (je_nm n_check_both_band rfl) fun x520 => ja_nil)) (js_end rfl (.u (.u .nil)))))))
abbrev s_uneven : Stmt := topS 51
theorem sc_uneven : FnScope ["thread", "band", "first", "at", "one"] ["thread", "band"] (defScope s_uneven) := ⟨rfl, rfl, rfl, by decide +kernel, rfl, by decide +kernel, by decide +kernel⟩
theorem n_uneven_band : NmF (defScope s_uneven) ["thread", "band", "first", "at", "one"] 1 "band" := ⟨rfl, (.inr (.inl (by kernel_rfl))), by decide, by decide⟩
theorem n_uneven_thread : NmF (defScope s_uneven) ["thread", "band", "first", "at", "one"] 0 "thread" := ⟨rfl, (.inl (by kernel_rfl)), by decide, by decide⟩
theorem g_uneven_check_both : (defScope s_uneven).names.lookup (("check_both" : Str)) = some .globalImplicit := by kernel_rfl
theorem g_uneven_enumerate : (defScope s_uneven).names.lookup (("enumerate" : Str)) = some .globalImplicit := by kernel_rfl
theorem g_uneven_span_of : (defScope s_uneven).names.lookup (("span_of" : Str)) = some .globalImplicit := by kernel_rfl
theorem g_uneven_strengths_of : (defScope s_uneven).names.lookup (("strengths_of" : Str)) = some .globalImplicit := by kernel_rfl
theorem g_uneven_tuple : (defScope s_uneven).names.lookup (("tuple" : Str)) = some .globalImplicit := by kernel_rfl
theorem w_uneven (c : Fx K mg) : DOk PR w K mg base 7 "uneven" ["thread", "band"] (spF m_uneven) := by
  refine ok_pure (N := ["thread", "band", "first", "at", "one"]) (k := 6) c.f_uneven sc_uneven (fun _ _ _ _ _ _ us hl => match us, hl with | [_, _], _ => rfl) (mb := fun ds => match ds with | [d521, d522] => b_uneven d521 d522 | _ => fail) ?_ ?_
  · intro ds r h
    match ds, h with
    | [_, _], h => exact ⟨rfl, h⟩
  · intro ds hl
    match ds, hl with
    | [d521, d522], _ =>
      intro cdv A outer s F E hr
      show JS _ _ _ _ (b_uneven d521 d522) _
      unfold b_uneven
      exact (js_nf [.val d521, .val d522, .unk, .unk, .unk] rfl (js_expr (je_callO (w_check_both c) hr (by decide) g_uneven_check_both (ja_cons (je_nm n_uneven_thread rfl) fun x523 => (ja_cons (je_nm n_uneven_band rfl) fun x524 => ja_nil))) (js_nf [.val d521, .val d522, .unk, .unk, .unk] rfl (js_asg (i := 2) sc_uneven.nd rfl (.inr rfl) (JE.x (je_ix (JE.v (je_callO (w_span_of c) hr (by decide) g_uneven_span_of (ja_cons (je_nm n_uneven_thread rfl) fun x526 => ja_nil))) je_int)) fun d528 => (js_nf [.val d521, .val d522, .val d528, .unk, .unk] rfl (js_ret0 (je_callTy cd_tuple g_uneven_tuple c.n_tuple (by decide +kernel) (jav_cons (JE.v (je_lc rfl sc_uneven.nd (ji_enum g_uneven_enumerate c.n_enumerate (ja_cons (je_callO (w_strengths_of c) hr (by decide) g_uneven_strengths_of (ja_cons (je_nm n_uneven_thread rfl) fun x529 => ja_nil)) fun x530 => ja_nil)) (blk (own := [("at", 3), ("one", 4)]) (by kernel_rfl)) (fun _ _ _ _ _ => (pgd_2 rfl (pgd_n 3 sc_uneven.nd rfl (.inl rfl)) (pgd_n 4 sc_uneven.nd rfl (.inl rfl)))) (ji_2 fun d531 d532 => .cond (fun _ _ _ _ _ => jt_nf [.val d521, .val d522, .val d528, .val d531, .val d532] rfl (jt_not (jt_chain ob_le ob_le (JE.v (je_ix (JE.v (je_name 1 rfl (.inr (.inl rfl)) rfl)) je_int)) (JE.v (je_name 4 rfl (.inl rfl) rfl)) (JE.v (je_ix (JE.v (je_name 1 rfl (.inr (.inl rfl)) rfl)) je_int))))) (fun _ _ _ _ _ => je_nf [.val d521, .val d522, .val d528, .val d531, .val d532] rfl (je_bin od_add (je_name 2 rfl (.inr (.inl rfl)) rfl) (je_name 3 rfl (.inl rfl) rfl)))))) fun x549 => jav_nil))))))))
abbrev s_is_even : Stmt := topS 52
theorem sc_is_even : FnScope ["thread", "band"] ["thread", "band"] (defScope s_is_even) := ⟨rfl, rfl, rfl, by decide +kernel, rfl, by decide +kernel, by decide +kernel⟩
theorem n_is_even_band : NmF (defScope s_is_even) ["thread", "band"] 1 "band" := ⟨rfl, (.inl (by kernel_rfl)), by decide, by decide⟩
theorem n_is_even_thread : NmF (defScope s_is_even) ["thread", "band"] 0 "thread" := ⟨rfl, (.inl (by kernel_rfl)), by decide, by decide⟩
theorem g_is_even_uneven : (defScope s_is_even).names.lookup (("uneven" : Str)) = some .globalImplicit := by kernel_rfl
theorem w_is_even (c : Fx K mg) : DOk PR w K mg base 8 "is_even" ["thread", "band"] (spF m_is_even) := by
  refine ok_pure (N := ["thread", "band"]) (k := 7) c.f_is_even sc_is_even (fun _ _ _ _ _ _ us hl => match us, hl with | [_, _], _ => rfl) (mb := fun ds => match ds with | [d550, d551] => b_is_even d550 d551 | _ => fail) ?_ ?_
  · intro ds r h
    match ds, h with
    | [_, _], h => exact ⟨rfl, h⟩
  · intro ds hl
    match ds, hl with
    | [d550, d551], _ =>
      intro cdv A outer s F E hr
      show JS _ _ _ _ (b_is_even d550 d551) _
      unfold b_is_even
      exact (js_nf [.val d550, .val d551] rfl (js_ret0 (je_cmp (ob_eq hr.units) (JE.v (je_callO (w_uneven c) hr (by decide) g_is_even_uneven (ja_cons (je_nm n_is_even_thread rfl) fun x552 => (ja_cons (je_nm n_is_even_band rfl) fun x553 => ja_nil)))) (JE.v (je_tup ja_nil)) (by rfl))))
abbrev s_even_part : Stmt := topS 53
theorem sc_even_part : FnScope ["thread", "band", "bad", "first", "end", "edges", "some", "much", "begin", "one", "other"] ["thread", "band"] (defScope s_even_part) := ⟨rfl, rfl, rfl, by decide +kernel, rfl, by decide +kernel, by decide +kernel⟩
theorem n_even_part_bad : NmF (defScope s_even_part) ["thread", "band", "bad", "first", "end", "edges", "some", "much", "begin", "one", "other"] 2 "bad" := ⟨rfl, (.inl (by kernel_rfl)), by decide, by decide⟩
theorem n_even_part_band : NmF (defScope s_even_part) ["thread", "band", "bad", "first", "end", "edges", "some", "much", "begin", "one", "other"] 1 "band" := ⟨rfl, (.inl (by kernel_rfl)), by decide, by decide⟩
theorem n_even_part_begin : NmF (defScope s_even_part) ["thread", "band", "bad", "first", "end", "edges", "some", "much", "begin", "one", "other"] 8 "begin" := ⟨rfl, (.inl (by kernel_rfl)), by decide, by decide⟩
theorem n_even_part_edges : NmF (defScope s_even_part) ["thread", "band", "bad", "first", "end", "edges", "some", "much", "begin", "one", "other"] 5 "edges" := ⟨rfl, (.inl (by kernel_rfl)), by decide, by decide⟩
theorem n_even_part_end : NmF (defScope s_even_part) ["thread", "band", "bad", "first", "end", "edges", "some", "much", "begin", "one", "other"] 4 "end" := ⟨rfl, (.inl (by kernel_rfl)), by decide, by decide⟩
theorem n_even_part_first : NmF (defScope s_even_part) ["thread", "band", "bad", "first", "end", "edges", "some", "much", "begin", "one", "other"] 3 "first" := ⟨rfl, (.inl (by kernel_rfl)), by decide, by decide⟩
theorem n_even_part_much : NmF (defScope s_even_part) ["thread", "band", "bad", "first", "end", "edges", "some", "much", "begin", "one", "other"] 7 "much" := ⟨rfl, (.inl (by kernel_rfl)), by decide, by decide⟩
theorem n_even_part_some : NmF (defScope s_even_part) ["thread", "band", "bad", "first", "end", "edges", "some", "much", "begin", "one", "other"] 6 "some" := ⟨rfl, (.inl (by kernel_rfl)), by decide, by decide⟩
theorem n_even_part_thread : NmF (defScope s_even_part) ["thread", "band", "bad", "first", "end", "edges", "some", "much", "begin", "one", "other"] 0 "thread" := ⟨rfl, (.inl (by kernel_rfl)), by decide, by decide⟩
theorem g_even_part_max : (defScope s_even_part).names.lookup (("max" : Str)) = some .globalImplicit := by kernel_rfl
theorem g_even_part_span_of : (defScope s_even_part).names.lookup (("span_of" : Str)) = some .globalImplicit := by kernel_rfl
theorem g_even_part_uneven : (defScope s_even_part).names.lookup (("uneven" : Str)) = some .globalImplicit := by kernel_rfl
theorem g_even_part_zip : (defScope s_even_part).names.lookup (("zip" : Str)) = some .globalImplicit := by kernel_rfl
theorem w_even_part (c : Fx K mg) : DOk PR w K mg base 8 "even_part" ["thread", "band"] (spF m_even_part) := by
  refine ok_pure (N := ["thread", "band", "bad", "first", "end", "edges", "some", "much", "begin", "one", "other"]) (k := 7) c.f_even_part sc_even_part (fun _ _ _ _ _ _ us hl => match us, hl with | [_, _], _ => rfl) (mb := fun ds => match ds with | [d557, d558] => b_even_part d557 d558 | _ => fail) ?_ ?_
  · intro ds r h
    match ds, h with
    | [_, _], h => exact ⟨rfl, h⟩
  · intro ds hl
    match ds, hl with
    | [d557, d558], _ =>
      intro cdv A outer s F E hr
      show JS _ _ _ _ (b_even_part d557 d558) _
      unfold b_even_part
      exact (js_nf [.val d557, .val d558, .unk, .unk, .unk, .unk, .unk, .unk, .unk, .unk, .unk] rfl (js_asg (i := 2) sc_even_part.nd rfl (.inl rfl) (JE.x (je_callO (w_uneven c) hr (by decide) g_even_part_uneven (ja_cons (je_nm n_even_part_thread rfl) fun x559 => (ja_cons (je_nm n_even_part_band rfl) fun x560 => ja_nil)))) fun d561 => (js_nf [.val d557, .val d558, .val d561, .unk, .unk, .unk, .unk, .unk, .unk, .unk, .unk] rfl (js_unpack (je_callO (w_span_of c) hr (by decide) g_even_part_span_of (ja_cons (je_nm n_even_part_thread rfl) fun x562 => ja_nil)) (pgd_2 rfl (pgd_n 3 sc_even_part.nd rfl (.inl rfl)) (pgd_n 4 sc_even_part.nd rfl (.inl rfl))) (ji_2 fun d563 d564 => (js_nf [.val d557, .val d558, .val d561, .val d563, .val d564, .unk, .unk, .unk, .unk, .unk, .unk] rfl (js_asg (i := 5) sc_even_part.nd rfl (.inl rfl) (JE.x (je_lst (ja_cons (je_bin od_sub (je_nm n_even_part_first rfl) je_int) fun x567 => (ja_star (JE.v (je_nm n_even_part_bad rfl)) fun s569 => (ja_cons (je_nm n_even_part_end rfl) fun x570 => ja_nil))))) fun d571 => (js_nf [.val d557, .val d558, .val d561, .val d563, .val d564, .val d571, .unk, .unk, .unk, .unk, .unk] rfl (js_asgLc (i := 6) rfl sc_even_part.nd rfl rfl (ji_zip g_even_part_zip c.n_zip (ja_cons (je_nm n_even_part_edges rfl) fun x572 => (ja_cons (je_slice (JE.v (je_nm n_even_part_edges rfl)) (jo_some je_int) jo_none) fun x578 => ja_nil))) (blk (own := [("one", 9), ("other", 10)]) (by kernel_rfl)) (fun _ _ _ _ _ => (pgd_2 rfl (pgd_n 9 sc_even_part.nd rfl (.inl rfl)) (pgd_n 10 sc_even_part.nd rfl (.inl rfl)))) (ji_2 fun d579 d580 => .plain (fun _ _ _ _ _ => je_nf [.val d557, .val d558, .val d561, .val d563, .val d564, .val d571, .unk, .unk, .unk, .val d579, .val d580] rfl (je_tup (ja_cons (je_bin od_sub (je_bin od_sub (je_name 10 rfl (.inl rfl) rfl) (je_name 9 rfl (.inl rfl) rfl)) je_int) fun x585 => (ja_cons (je_bin od_sub (je_neg (je_name 9 rfl (.inl rfl) rfl)) je_int) fun x589 => ja_nil))))) fun d594 => (js_nf [.val d557, .val d558, .val d561, .val d563, .val d564, .val d571, .val d594, .unk, .unk, .unk, .unk] rfl (js_unpack (je_callB (cd_max rfl hr.units) g_even_part_max c.n_max (by decide +kernel) (jav_cons (JE.v (je_nm n_even_part_some rfl)) fun x595 => jav_nil)) (pgd_2 rfl (pgd_n 7 sc_even_part.nd rfl (.inl rfl)) (pgd_n 8 sc_even_part.nd rfl (.inl rfl))) (ji_2 fun d596 d597 => (js_nf [.val d557, .val d558, .val d561, .val d563, .val d564, .val d571, .val d594, .val d596, .val d597, .unk, .unk] rfl (js_ret0 (je_if (jt_cmp ob_gt (JE.v (je_nm n_even_part_much rfl)) (JE.v je_int) (by rfl)) (je_tup (ja_cons (je_neg (je_nm n_even_part_begin rfl)) fun x602 => (ja_cons (je_bin od_add (je_neg (je_nm n_even_part_begin rfl)) (je_nm n_even_part_much rfl)) fun x606 => ja_nil))) je_non)))))))))))))))
abbrev s_least_band : Stmt := topS 54
theorem sc_least_band : FnScope ["thread", "row"] ["thread"] (defScope s_least_band) := ⟨rfl, rfl, rfl, by decide +kernel, rfl, by decide +kernel, by decide +kernel⟩
theorem n_least_band_row : NmF (defScope s_least_band) ["thread", "row"] 1 "row" := ⟨rfl, (.inl (by kernel_rfl)), by decide, by decide⟩
theorem n_least_band_thread : NmF (defScope s_least_band) ["thread", "row"] 0 "thread" := ⟨rfl, (.inl (by kernel_rfl)), by decide, by decide⟩
theorem g_least_band_check_thread : (defScope s_least_band).names.lookup (("check_thread" : Str)) = some .globalImplicit := by kernel_rfl
theorem g_least_band_max : (defScope s_least_band).names.lookup (("max" : Str)) = some .globalImplicit := by kernel_rfl
theorem g_least_band_min : (defScope s_least_band).names.lookup (("min" : Str)) = some .globalImplicit := by kernel_rfl
theorem g_least_band_strengths_of : (defScope s_least_band).names.lookup (("strengths_of" : Str)) = some .globalImplicit := by kernel_rfl
theorem w_least_band (c : Fx K mg) : DOk PR w K mg base 6 "least_band" ["thread"] (spF m_least_band) := by
  refine ok_pure (N := ["thread", "row"]) (k := 5) c.f_least_band sc_least_band (fun _ _ _ _ _ _ us hl => match us, hl with | [_], _ => rfl) (mb := fun ds => match ds with | [d610] => b_least_band d610 | _ => fail) ?_ ?_
  · intro ds r h
    match ds, h with
    | [_], h => exact ⟨rfl, h⟩
  · intro ds hl
    match ds, hl with
    | [d610], _ =>
      intro cdv A outer s F E hr
      show JS _ _ _ _ (b_least_band d610) _
      unfold b_least_band
      exact (js_nf [.val d610, .unk] rfl (js_expr (je_callO (w_check_thread c) hr (by decide) g_least_band_check_thread (ja_cons (je_nm n_least_band_thread rfl) fun x611 => ja_nil)) (js_nf [.val d610, .unk] rfl (js_asg (i := 1) sc_least_band.nd rfl (.inl rfl) (JE.x (je_callO (w_strengths_of c) hr (by decide) g_least_band_strengths_of (ja_cons (je_nm n_least_band_thread rfl) fun x612 => ja_nil))) fun d613 => (js_nf [.val d610, .val d613] rfl (js_ret0 (je_tup (ja_cons (je_callB (cd_min rfl hr.units) g_least_band_min c.n_min (by decide +kernel) (jav_cons (JE.v (je_nm n_least_band_row rfl)) fun x614 => jav_nil)) fun x615 => (ja_cons (je_callB (cd_max rfl hr.units) g_least_band_max c.n_max (by decide +kernel) (jav_cons (JE.v (je_nm n_least_band_row rfl)) fun x616 => jav_nil)) fun x617 => ja_nil)))))))))
abbrev s_beside : Stmt := topS 55
theorem sc_beside : FnScope ["thread", "first", "end", "found", "yard", "begin", "strand"] ["thread"] (defScope s_beside) := ⟨rfl, rfl, rfl, by decide +kernel, rfl, by decide +kernel, by decide +kernel⟩
theorem n_beside_end : NmF (defScope s_beside) ["thread", "first", "end", "found", "yard", "begin", "strand"] 2 "end" := ⟨rfl, (.inl (by kernel_rfl)), by decide, by decide⟩
theorem n_beside_first : NmF (defScope s_beside) ["thread", "first", "end", "found", "yard", "begin", "strand"] 1 "first" := ⟨rfl, (.inl (by kernel_rfl)), by decide, by decide⟩
theorem n_beside_found : NmF (defScope s_beside) ["thread", "first", "end", "found", "yard", "begin", "strand"] 3 "found" := ⟨rfl, (.inl (by kernel_rfl)), by decide, by decide⟩
theorem n_beside_thread : NmF (defScope s_beside) ["thread", "first", "end", "found", "yard", "begin", "strand"] 0 "thread" := ⟨rfl, (.inl (by kernel_rfl)), by decide, by decide⟩
theorem g_beside_check_thread : (defScope s_beside).names.lookup (("check_thread" : Str)) = some .globalImplicit := by kernel_rfl
theorem g_beside_len : (defScope s_beside).names.lookup (("len" : Str)) = some .globalImplicit := by kernel_rfl
theorem g_beside_range : (defScope s_beside).names.lookup (("range" : Str)) = some .globalImplicit := by kernel_rfl
theorem g_beside_span_of : (defScope s_beside).names.lookup (("span_of" : Str)) = some .globalImplicit := by kernel_rfl
theorem g_beside_tuple : (defScope s_beside).names.lookup (("tuple" : Str)) = some .globalImplicit := by kernel_rfl
theorem w_beside (c : Fx K mg) : DOk PR w K mg base 6 "beside" ["thread"] (spF m_beside) := by
  refine ok_pure (N := ["thread", "first", "end", "found", "yard", "begin", "strand"]) (k := 5) c.f_beside sc_beside (fun _ _ _ _ _ _ us hl => match us, hl with | [_], _ => rfl) (mb := fun ds => match ds with | [d618] => b_beside d618 | _ => fail) ?_ ?_
  · intro ds r h
    match ds, h with
    | [_], h => exact ⟨rfl, h⟩
  · intro ds hl
    match ds, hl with
    | [d618], _ =>
      intro cdv A outer s F E hr
      show JS _ _ _ _ (b_beside d618) _
      unfold b_beside
      exact (js_nf [.val d618, .unk, .unk, .unk, .unk, .unk, .unk] rfl (js_expr (je_callO (w_check_thread c) hr (by decide) g_beside_check_thread (ja_cons (je_nm n_beside_thread rfl) fun x619 => ja_nil)) (js_nf [.val d618, .unk, .unk, .unk, .unk, .unk, .unk] rfl (js_unpack (je_callO (w_span_of c) hr (by decide) g_beside_span_of (ja_cons (je_nm n_beside_thread rfl) fun x620 => ja_nil)) (pgd_2 rfl (pgd_n 1 sc_beside.nd rfl (.inl rfl)) (pgd_n 2 sc_beside.nd rfl (.inl rfl))) (ji_2 fun d621 d622 => (js_nf [.val d618, .val d621, .val d622, .unk, .unk, .unk, .unk] rfl (js_asg (i := 3) sc_beside.nd rfl (.inl rfl) (jn_lst ja_nil) fun d623 => (js_nf [.val d618, .val d621, .val d622, .own d623, .unk, .unk, .unk] rfl (js_for (r := (fun d => d)) (emb := (fun a : (List D) => [.val d618, .val d621, .val d622, .own a, .unk, .unk, .unk])) (a0 := d623) PassesOwn.never rfl (ji_range2 g_beside_range c.n_range (ja_cons (je_nm n_beside_first rfl) fun x624 => (ja_cons (je_nm n_beside_end rfl) fun x625 => ja_nil))) (pgd_n 4 sc_beside.nd rfl (.inr rfl)) (.e (.e (.e (.e (.u (.u (.u .nil))))))) (fun a626 => ji_n fun d627 => (js_nf [.val d618, .val d621, .val d622, .own a626, .val d627, .unk, .unk] rfl (js_append (i := 3) rfl (.inl rfl) rfl (je_callB cd_len g_beside_len c.n_len (by decide +kernel) (jav_cons (JE.v (je_lc rfl sc_beside.nd (ji_seq (je_nm n_beside_thread rfl)) (blk (own := [("begin", 5), ("strand", 6)]) (by kernel_rfl)) (fun _ _ _ _ _ => (pgd_2 rfl (pgd_n 5 sc_beside.nd rfl (.inl rfl)) (pgd_n 6 sc_beside.nd rfl (.inl rfl)))) (ji_2 fun d629 d630 => .cond (fun _ _ _ _ _ => jt_nf [.val d618, .val d621, .val d622, .own a626, .val d627, .val d629, .val d630] rfl (jt_chain ob_le ob_lt (JE.v (je_name 5 rfl (.inl rfl) rfl)) (JE.v (je_name 4 rfl (.inr (.inl rfl)) rfl)) (JE.v (je_bin od_add (je_name 5 rfl (.inl rfl) rfl) (je_callB cd_len rfl c.n_len (by decide +kernel) (jav_cons (JE.v (je_name 6 rfl (.inl rfl) rfl)) fun x632 => jav_nil)))))) (fun _ _ _ _ _ => je_nf [.val d618, .val d621, .val d622, .own a626, .val d627, .val d629, .val d630] rfl (je_name 5 rfl (.inl rfl) rfl))))) fun x643 => jav_nil)) fun ys645 => (js_end rfl (.e (.e (.e (.e (.u (.u (.u .nil))))))))))) (fun a647 => (js_nf [.val d618, .val d621, .val d622, .own a647, .unk, .unk, .unk] rfl (js_ret0 (je_callTy cd_tuple g_beside_tuple c.n_tuple (by decide +kernel) (jav_cons (jv_nm n_beside_found rfl) fun x648 => jav_nil))))) fun _ => rfl)))))))))
abbrev s_joins : Stmt := topS 56
theorem sc_joins : FnScope ["thread", "first", "begin", "strand"] ["thread"] (defScope s_joins) := ⟨rfl, rfl, rfl, by decide +kernel, rfl, by decide +kernel, by decide +kernel⟩
theorem n_joins_thread : NmF (defScope s_joins) ["thread", "first", "begin", "strand"] 0 "thread" := ⟨rfl, (.inl (by kernel_rfl)), by decide, by decide⟩
theorem g_joins_check_thread : (defScope s_joins).names.lookup (("check_thread" : Str)) = some .globalImplicit := by kernel_rfl
theorem g_joins_sorted : (defScope s_joins).names.lookup (("sorted" : Str)) = some .globalImplicit := by kernel_rfl
theorem g_joins_span_of : (defScope s_joins).names.lookup (("span_of" : Str)) = some .globalImplicit := by kernel_rfl
theorem g_joins_tuple : (defScope s_joins).names.lookup (("tuple" : Str)) = some .globalImplicit := by kernel_rfl
theorem w_joins (c : Fx K mg) : DOk PR w K mg base 6 "joins" ["thread"] (spF m_joins) := by
  refine ok_pure (N := ["thread", "first", "begin", "strand"]) (k := 5) c.f_joins sc_joins (fun _ _ _ _ _ _ us hl => match us, hl with | [_], _ => rfl) (mb := fun ds => match ds with | [d651] => b_joins d651 | _ => fail) ?_ ?_
  · intro ds r h
    match ds, h with
    | [_], h => exact ⟨rfl, h⟩
  · intro ds hl
    match ds, hl with
    | [d651], _ =>
      intro cdv A outer s F E hr
      show JS _ _ _ _ (b_joins d651) _
      unfold b_joins
      exact (js_nf [.val d651, .unk, .unk, .unk] rfl (js_expr (je_callO (w_check_thread c) hr (by decide) g_joins_check_thread (ja_cons (je_nm n_joins_thread rfl) fun x652 => ja_nil)) (js_nf [.val d651, .unk, .unk, .unk] rfl (js_asg (i := 1) sc_joins.nd rfl (.inr rfl) (JE.x (je_ix (JE.v (je_callO (w_span_of c) hr (by decide) g_joins_span_of (ja_cons (je_nm n_joins_thread rfl) fun x654 => ja_nil))) je_int)) fun d656 => (js_nf [.val d651, .val d656, .unk, .unk] rfl (js_ret0 (je_callTy cd_tuple g_joins_tuple c.n_tuple (by decide +kernel) (jav_cons (JE.v (je_callB cd_sorted g_joins_sorted c.n_sorted (by decide +kernel) (jav_cons (JE.v (je_lc rfl sc_joins.nd (ji_seq (je_nm n_joins_thread rfl)) (blk (own := [("begin", 2), ("strand", 3)]) (by kernel_rfl)) (fun _ _ _ _ _ => (pgd_2 rfl (pgd_n 2 sc_joins.nd rfl (.inl rfl)) (pgd_n 3 sc_joins.nd rfl (.inl rfl)))) (ji_2 fun d658 d659 => .cond (fun _ _ _ _ _ => jt_nf [.val d651, .val d656, .val d658, .val d659] rfl (jt_cmp ob_gt (JE.v (je_name 2 rfl (.inl rfl) rfl)) (JE.v (je_name 1 rfl (.inr (.inl rfl)) rfl)) (by rfl))) (fun _ _ _ _ _ => je_nf [.val d651, .val d656, .val d658, .val d659] rfl (je_name 2 rfl (.inl rfl) rfl))))) fun x668 => jav_nil))) fun x669 => jav_nil))))))))
abbrev s_moved : Stmt := topS 57
theorem sc_moved : FnScope ["thread", "much", "begin", "strand"] ["thread", "much"] (defScope s_moved) := ⟨rfl, rfl, rfl, by decide +kernel, rfl, by decide +kernel, by decide +kernel⟩
theorem n_moved_much : NmF (defScope s_moved) ["thread", "much", "begin", "strand"] 1 "much" := ⟨rfl, (.inr (.inl (by kernel_rfl))), by decide, by decide⟩
theorem n_moved_thread : NmF (defScope s_moved) ["thread", "much", "begin", "strand"] 0 "thread" := ⟨rfl, (.inl (by kernel_rfl)), by decide, by decide⟩
theorem g_moved_MOST_BEGIN_threads : (defScope s_moved).names.lookup (("MOST_BEGIN_threads" : Str)) = some .globalImplicit := by kernel_rfl
theorem g_moved_check_thread : (defScope s_moved).names.lookup (("check_thread" : Str)) = some .globalImplicit := by kernel_rfl
theorem g_moved_is_integer : (defScope s_moved).names.lookup (("is_integer" : Str)) = some .globalImplicit := by kernel_rfl
theorem g_moved_max : (defScope s_moved).names.lookup (("max" : Str)) = some .globalImplicit := by kernel_rfl
theorem g_moved_tuple : (defScope s_moved).names.lookup (("tuple" : Str)) = some .globalImplicit := by kernel_rfl
theorem w_moved (c : Fx K mg) : DOk PR w K mg base 6 "moved" ["thread", "much"] (spF m_moved) := by
  refine ok_pure (N := ["thread", "much", "begin", "strand"]) (k := 5) c.f_moved sc_moved (fun _ _ _ _ _ _ us hl => match us, hl with | [_, _], _ => rfl) (mb := fun ds => match ds with | [d670, d671] => b_moved d670 d671 | _ => fail) ?_ ?_
  · intro ds r h
    match ds, h with
    | [_, _], h => exact ⟨rfl, h⟩
  · intro ds hl
    match ds, hl with
    | [d670, d671], _ =>
      intro cdv A outer s F E hr
      show JS _ _ _ _ (b_moved d670 d671) _
      unfold b_moved
      exact (js_nf [.val d670, .val d671, .unk, .unk] rfl (js_expr (je_callO (w_check_thread c) hr (by decide) g_moved_check_thread (ja_cons (je_nm n_moved_thread rfl) fun x672 => ja_nil)) (js_nf [.val d670, .val d671, .unk, .unk] rfl (js_ifraise (jt_not (jt_val (je_callO (w_is_integer c) hr (by decide) g_moved_is_integer (ja_cons (je_nm n_moved_much rfl) fun x673 => (ja_cons je_int fun x674 => (ja_cons (je_bin od_sub (je_gint c.c_MOST_BEGIN_threads g_moved_MOST_BEGIN_threads) (je_callB (cd_max rfl hr.units) g_moved_max c.n_max (by decide +kernel) (jav_cons (JE.v (je_lc rfl sc_moved.nd (ji_seq (je_nm n_moved_thread rfl)) (blk (own := [("begin", 2), ("strand", 3)]) (by kernel_rfl)) (fun _ _ _ _ _ => (pgd_2 rfl (pgd_n 2 sc_moved.nd rfl (.inl rfl)) (pgd_n 3 sc_moved.nd rfl (.inl rfl)))) (ji_2 fun d676 d677 => .plain (fun _ _ _ _ _ => je_nf [.val d670, .val d671, .val d676, .val d677] rfl (je_name 2 rfl (.inl rfl) rfl))))) fun x682 => jav_nil))) fun x685 => ja_nil)))))) (js_nf [.val d670, .val d671, .unk, .unk] rfl (js_ret0 (je_callTy cd_tuple g_moved_tuple c.n_tuple (by decide +kernel) (jav_cons (JE.v (je_lc rfl sc_moved.nd (ji_seq (je_nm n_moved_thread rfl)) (blk (own := [("begin", 2), ("strand", 3)]) (by kernel_rfl)) (fun _ _ _ _ _ => (pgd_2 rfl (pgd_n 2 sc_moved.nd rfl (.inl rfl)) (pgd_n 3 sc_moved.nd rfl (.inl rfl)))) (ji_2 fun d690 d691 => .plain (fun _ _ _ _ _ => je_nf [.val d670, .val d671, .val d690, .val d691] rfl (je_tup (ja_cons (je_bin od_add (je_name 2 rfl (.inl rfl) rfl) (je_name 1 rfl (.inr (.inl rfl)) rfl)) fun x694 => (ja_cons (je_name 3 rfl (.inl rfl) rfl) fun x695 => ja_nil))))))) fun x700 => jav_nil))))))))
abbrev s_trimmed : Stmt := topS 58
theorem sc_trimmed : FnScope ["thread", "first", "end", "found", "begin", "strand", "low", "high"] ["thread", "first", "end"] (defScope s_trimmed) := ⟨rfl, rfl, rfl, by decide +kernel, rfl, by decide +kernel, by decide +kernel⟩
theorem n_trimmed_begin : NmF (defScope s_trimmed) ["thread", "first", "end", "found", "begin", "strand", "low", "high"] 4 "begin" := ⟨rfl, (.inl (by kernel_rfl)), by decide, by decide⟩
theorem n_trimmed_end : NmF (defScope s_trimmed) ["thread", "first", "end", "found", "begin", "strand", "low", "high"] 2 "end" := ⟨rfl, (.inl (by kernel_rfl)), by decide, by decide⟩
theorem n_trimmed_first : NmF (defScope s_trimmed) ["thread", "first", "end", "found", "begin", "strand", "low", "high"] 1 "first" := ⟨rfl, (.inl (by kernel_rfl)), by decide, by decide⟩
theorem n_trimmed_found : NmF (defScope s_trimmed) ["thread", "first", "end", "found", "begin", "strand", "low", "high"] 3 "found" := ⟨rfl, (.inl (by kernel_rfl)), by decide, by decide⟩
theorem n_trimmed_high : NmF (defScope s_trimmed) ["thread", "first", "end", "found", "begin", "strand", "low", "high"] 7 "high" := ⟨rfl, (.inl (by kernel_rfl)), by decide, by decide⟩
theorem n_trimmed_low : NmF (defScope s_trimmed) ["thread", "first", "end", "found", "begin", "strand", "low", "high"] 6 "low" := ⟨rfl, (.inl (by kernel_rfl)), by decide, by decide⟩
theorem n_trimmed_strand : NmF (defScope s_trimmed) ["thread", "first", "end", "found", "begin", "strand", "low", "high"] 5 "strand" := ⟨rfl, (.inl (by kernel_rfl)), by decide, by decide⟩
theorem n_trimmed_thread : NmF (defScope s_trimmed) ["thread", "first", "end", "found", "begin", "strand", "low", "high"] 0 "thread" := ⟨rfl, (.inl (by kernel_rfl)), by decide, by decide⟩
theorem g_trimmed_MOST_BEGIN_threads : (defScope s_trimmed).names.lookup (("MOST_BEGIN_threads" : Str)) = some .globalImplicit := by kernel_rfl
theorem g_trimmed_PAIR_threads : (defScope s_trimmed).names.lookup (("PAIR_threads" : Str)) = some .globalImplicit := by kernel_rfl
theorem g_trimmed_check_thread : (defScope s_trimmed).names.lookup (("check_thread" : Str)) = some .globalImplicit := by kernel_rfl
theorem g_trimmed_is_integer : (defScope s_trimmed).names.lookup (("is_integer" : Str)) = some .globalImplicit := by kernel_rfl
theorem g_trimmed_len : (defScope s_trimmed).names.lookup (("len" : Str)) = some .globalImplicit := by kernel_rfl
theorem g_trimmed_max : (defScope s_trimmed).names.lookup (("max" : Str)) = some .globalImplicit := by kernel_rfl
theorem g_trimmed_min : (defScope s_trimmed).names.lookup (("min" : Str)) = some .globalImplicit := by kernel_rfl
theorem g_trimmed_tuple : (defScope s_trimmed).names.lookup (("tuple" : Str)) = some .globalImplicit := by kernel_rfl
theorem w_trimmed (c : Fx K mg) : DOk PR w K mg base 6 "trimmed" ["thread", "first", "end"] (spF m_trimmed) := by
  refine ok_pure (N := ["thread", "first", "end", "found", "begin", "strand", "low", "high"]) (k := 5) c.f_trimmed sc_trimmed (fun _ _ _ _ _ _ us hl => match us, hl with | [_, _, _], _ => rfl) (mb := fun ds => match ds with | [d701, d702, d703] => b_trimmed d701 d702 d703 | _ => fail) ?_ ?_
  · intro ds r h
    match ds, h with
    | [_, _, _], h => exact ⟨rfl, h⟩
  · intro ds hl
    match ds, hl with
    | [d701, d702, d703], _ =>
      intro cdv A outer s F E hr
      show JS _ _ _ _ (b_trimmed d701 d702 d703) _
      unfold b_trimmed
      exact (js_nf [.val d701, .val d702, .val d703, .unk, .unk, .unk, .unk, .unk] rfl (js_expr (je_callO (w_check_thread c) hr (by decide) g_trimmed_check_thread (ja_cons (je_nm n_trimmed_thread rfl) fun x704 => ja_nil)) (js_nf [.val d701, .val d702, .val d703, .unk, .unk, .unk, .unk, .unk] rfl (js_ifraise (jt_not (jt_val (je_callO (w_is_integer c) hr (by decide) g_trimmed_is_integer (ja_cons (je_nm n_trimmed_first rfl) fun x705 => (ja_cons je_int fun x706 => (ja_cons (je_gint c.c_MOST_BEGIN_threads g_trimmed_MOST_BEGIN_threads) fun x707 => ja_nil)))))) (js_nf [.val d701, .val d702, .val d703, .unk, .unk, .unk, .unk, .unk] rfl (js_ifraise (jt_not (jt_val (je_callO (w_is_integer c) hr (by decide) g_trimmed_is_integer (ja_cons (je_nm n_trimmed_end rfl) fun x711 => (ja_cons (je_bin od_add (je_nm n_trimmed_first rfl) je_int) fun x714 => (ja_cons (je_bin od_mul (je_gint c.c_PAIR_threads g_trimmed_PAIR_threads) (je_gint c.c_MOST_BEGIN_threads g_trimmed_MOST_BEGIN_threads)) fun x717 => ja_nil)))))) (js_nf [.val d701, .val d702, .val d703, .unk, .unk, .unk, .unk, .unk] rfl (js_asg (i := 3) sc_trimmed.nd rfl (.inl rfl) (jn_lst ja_nil) fun d721 => (js_nf [.val d701, .val d702, .val d703, .own d721, .unk, .unk, .unk, .unk] rfl (js_for (r := (fun d => d)) (emb := (fun a : (List D) => [.val d701, .val d702, .val d703, .own a, .unk, .unk, .unk, .unk])) (a0 := d721) PassesOwn.never rfl (ji_seq (je_nm n_trimmed_thread rfl)) (pgd_2 rfl (pgd_n 4 sc_trimmed.nd rfl (.inl rfl)) (pgd_n 5 sc_trimmed.nd rfl (.inl rfl))) (.e (.e (.e (.e (.u (.u (.u (.u .nil)))))))) (fun a723 => ji_2 fun d724 d725 => (js_nf [.val d701, .val d702, .val d703, .own a723, .val d724, .val d725, .unk, .unk] rfl (js_par2 (i := 6) (j := 7) rfl sc_trimmed.nd rfl rfl (by decide) rfl rfl (JE.x (je_callB (cd_max2 rfl) g_trimmed_max c.n_max (by decide +kernel) (jav_cons (JE.v (je_nm n_trimmed_first rfl)) fun x726 => (jav_cons (JE.v (je_nm n_trimmed_begin rfl)) fun x727 => jav_nil)))) (JE.x (je_callB (cd_min2 rfl) g_trimmed_min c.n_min (by decide +kernel) (jav_cons (JE.v (je_nm n_trimmed_end rfl)) fun x728 => (jav_cons (JE.v (je_bin od_add (je_nm n_trimmed_begin rfl) (je_callB cd_len g_trimmed_len c.n_len (by decide +kernel) (jav_cons (JE.v (je_nm n_trimmed_strand rfl)) fun x729 => jav_nil)))) fun x732 => jav_nil)))) fun d733 d734 => (js_nf [.val d701, .val d702, .val d703, .own a723, .val d724, .val d725, .val d733, .val d734] rfl (js_ifjoin (emb := (fun a : (List D) => [.val d701, .val d702, .val d703, .own a, .val d724, .val d725, .val d733, .val d734])) (jt_cmp ob_lt (JE.v (je_nm n_trimmed_low rfl)) (JE.v (je_nm n_trimmed_high rfl)) (by rfl)) (js_nf [.val d701, .val d702, .val d703, .own a723, .val d724, .val d725, .val d733, .val d734] rfl (js_append (i := 3) rfl (.inl rfl) rfl (je_tup (ja_cons (je_nm n_trimmed_low rfl) fun x739 => (ja_cons (je_slice (JE.v (je_nm n_trimmed_strand rfl)) (jo_some (je_bin od_sub (je_nm n_trimmed_low rfl) (je_nm n_trimmed_begin rfl))) (jo_some (je_bin od_sub (je_nm n_trimmed_high rfl) (je_nm n_trimmed_begin rfl)))) fun x751 => ja_nil))) fun ys753 => (js_end rfl (.e (.e (.e (.e (.e (.e (.e (.e .nil))))))))))) (js_end rfl (.e (.e (.e (.e (.e (.e (.e (.e .nil))))))))) fun a754 => (js_end rfl (.e (.e (.e (.e (.u (.u (.u (.u .nil)))))))))))))) (fun a756 => (js_nf [.val d701, .val d702, .val d703, .own a756, .unk, .unk, .unk, .unk] rfl (js_ret0 (je_if (jt_cmp (ob_ne hr.units) (jv_nm n_trimmed_found rfl) (JE.v (je_lst ja_nil)) (by rfl)) (je_callTy cd_tuple g_trimmed_tuple c.n_tuple (by decide +kernel) (jav_cons (jv_nm n_trimmed_found rfl) fun x760 => jav_nil)) je_non)))) fun _ => rfl))))))))))
abbrev s_needless : Stmt := topS 59
theorem sc_needless : FnScope ["thread", "band", "first", "end", "found", "at", "rest", "yard"] ["thread", "band"] (defScope s_needless) := ⟨rfl, rfl, rfl, by decide +kernel, rfl, by decide +kernel, by decide +kernel⟩
theorem n_needless_at : NmF (defScope s_needless) ["thread", "band", "first", "end", "found", "at", "rest", "yard"] 5 "at" := ⟨rfl, (.inl (by kernel_rfl)), by decide, by decide⟩
theorem n_needless_band : NmF (defScope s_needless) ["thread", "band", "first", "end", "found", "at", "rest", "yard"] 1 "band" := ⟨rfl, (.inr (.inl (by kernel_rfl))), by decide, by decide⟩
theorem n_needless_end : NmF (defScope s_needless) ["thread", "band", "first", "end", "found", "at", "rest", "yard"] 3 "end" := ⟨rfl, (.inl (by kernel_rfl)), by decide, by decide⟩
theorem n_needless_first : NmF (defScope s_needless) ["thread", "band", "first", "end", "found", "at", "rest", "yard"] 2 "first" := ⟨rfl, (.inl (by kernel_rfl)), by decide, by decide⟩
theorem n_needless_found : NmF (defScope s_needless) ["thread", "band", "first", "end", "found", "at", "rest", "yard"] 4 "found" := ⟨rfl, (.inl (by kernel_rfl)), by decide, by decide⟩
theorem n_needless_thread : NmF (defScope s_needless) ["thread", "band", "first", "end", "found", "at", "rest", "yard"] 0 "thread" := ⟨rfl, (.inl (by kernel_rfl)), by decide, by decide⟩
theorem g_needless_all : (defScope s_needless).names.lookup (("all" : Str)) = some .globalImplicit := by kernel_rfl
theorem g_needless_check_both : (defScope s_needless).names.lookup (("check_both" : Str)) = some .globalImplicit := by kernel_rfl
theorem g_needless_len : (defScope s_needless).names.lookup (("len" : Str)) = some .globalImplicit := by kernel_rfl
theorem g_needless_range : (defScope s_needless).names.lookup (("range" : Str)) = some .globalImplicit := by kernel_rfl
theorem g_needless_span_of : (defScope s_needless).names.lookup (("span_of" : Str)) = some .globalImplicit := by kernel_rfl
theorem g_needless_tuple : (defScope s_needless).names.lookup (("tuple" : Str)) = some .globalImplicit := by kernel_rfl
theorem w_needless (c : Fx K mg) : DOk PR w K mg base 7 "needless" ["thread", "band"] (spF m_needless) := by
  refine ok_pure (N := ["thread", "band", "first", "end", "found", "at", "rest", "yard"]) (k := 6) c.f_needless sc_needless (fun _ _ _ _ _ _ us hl => match us, hl with | [_, _], _ => rfl) (mb := fun ds => match ds with | [d763, d764] => b_needless d763 d764 | _ => fail) ?_ ?_
  · intro ds r h
    match ds, h with
    | [_, _], h => exact ⟨rfl, h⟩
  · intro ds hl
    match ds, hl with
    | [d763, d764], _ =>
      intro cdv A outer s F E hr
      show JS _ _ _ _ (b_needless d763 d764) _
      unfold b_needless
      exact (js_nf [.val d763, .val d764, .unk, .unk, .unk, .unk, .unk, .unk] rfl (js_expr (je_callO (w_check_both c) hr (by decide) g_needless_check_both (ja_cons (je_nm n_needless_thread rfl) fun x765 => (ja_cons (je_nm n_needless_band rfl) fun x766 => ja_nil))) (js_nf [.val d763, .val d764, .unk, .unk, .unk, .unk, .unk, .unk] rfl (js_unpack (je_callO (w_span_of c) hr (by decide) g_needless_span_of (ja_cons (je_nm n_needless_thread rfl) fun x767 => ja_nil)) (pgd_2 rfl (pgd_n 2 sc_needless.nd rfl (.inl rfl)) (pgd_n 3 sc_needless.nd rfl (.inl rfl))) (ji_2 fun d768 d769 => (js_nf [.val d763, .val d764, .val d768, .val d769, .unk, .unk, .unk, .unk] rfl (js_asg (i := 4) sc_needless.nd rfl (.inl rfl) (jn_lst ja_nil) fun d770 => (js_nf [.val d763, .val d764, .val d768, .val d769, .own d770, .unk, .unk, .unk] rfl (js_for (r := (fun d => d)) (emb := (fun a : (List D) => [.val d763, .val d764, .val d768, .val d769, .own a, .unk, .unk, .unk])) (a0 := d770) PassesOwn.never rfl (ji_range1 g_needless_range c.n_range (ja_cons (je_callB cd_len g_needless_len c.n_len (by decide +kernel) (jav_cons (JE.v (je_nm n_needless_thread rfl)) fun x771 => jav_nil)) fun x772 => ja_nil)) (pgd_n 5 sc_needless.nd rfl (.inl rfl)) (.e (.e (.e (.e (.e (.u (.u (.u .nil)))))))) (fun a773 => ji_n fun d774 => (js_nf [.val d763, .val d764, .val d768, .val d769, .own a773, .val d774, .unk, .unk] rfl (js_asg (i := 6) sc_needless.nd rfl (.inr rfl) (JE.x (je_lst (ja_star (JE.v (je_slice (JE.v (je_nm n_needless_thread rfl)) jo_none (jo_some (je_nm n_needless_at rfl)))) fun s781 => (ja_star (JE.v (je_slice (JE.v (je_nm n_needless_thread rfl)) (jo_some (je_bin od_add (je_nm n_needless_at rfl) je_int)) jo_none)) fun s790 => ja_nil)))) fun d791 => (js_nf [.val d763, .val d764, .val d768, .val d769, .own a773, .val d774, .val d791, .unk] rfl (js_ifjoin (emb := (fun a : (List D) => [.val d763, .val d764, .val d768, .val d769, .own a, .val d774, .val d791, .unk])) (jt_val (je_callB (cd_all rfl) g_needless_all c.n_all (by decide +kernel) (jav_cons (JE.v (je_lc rfl sc_needless.nd (ji_range2 g_needless_range c.n_range (ja_cons (je_nm n_needless_first rfl) fun x792 => (ja_cons (je_nm n_needless_end rfl) fun x793 => ja_nil))) (blk (own := [("yard", 7)]) (by kernel_rfl)) (fun _ _ _ _ _ => (pgd_n 7 sc_needless.nd rfl (.inl rfl))) (ji_n fun d794 => .plain (fun _ _ _ _ _ => je_nf [.val d763, .val d764, .val d768, .val d769, .own a773, .val d774, .val d791, .val d794] rfl (je_chain ob_le ob_le (JE.v (je_ix (JE.v (je_name 1 rfl (.inr (.inl rfl)) rfl)) je_int)) (JE.v (je_callO (w_at_yard c) hr (by decide) rfl (ja_cons (je_name 6 rfl (.inr (.inl rfl)) rfl) fun x797 => (ja_cons (je_name 7 rfl (.inl rfl) rfl) fun x798 => ja_nil)))) (JE.v (je_ix (JE.v (je_name 1 rfl (.inr (.inl rfl)) rfl)) je_int))))))) fun x810 => jav_nil))) (js_nf [.val d763, .val d764, .val d768, .val d769, .own a773, .val d774, .val d791, .unk] rfl (js_append (i := 4) rfl (.inl rfl) rfl (je_nm n_needless_at rfl) fun ys814 => (js_end rfl (.e (.e (.e (.e (.e (.e (.e (.u .nil))))))))))) (js_end rfl (.e (.e (.e (.e (.e (.e (.e (.u .nil))))))))) fun a815 => (js_end rfl (.e (.e (.e (.e (.e (.u (.u (.u .nil)))))))))))))) (fun a817 => (js_nf [.val d763, .val d764, .val d768, .val d769, .own a817, .unk, .unk, .unk] rfl (js_ret0 (je_callTy cd_tuple g_needless_tuple c.n_tuple (by decide +kernel) (jav_cons (jv_nm n_needless_found rfl) fun x818 => jav_nil))))) fun _ => rfl)))))))))
abbrev s_is_bounds : Stmt := topS 69
theorem sc_is_bounds : FnScope ["value", "one", "least", "most"] ["value"] (defScope s_is_bounds) := ⟨rfl, rfl, rfl, by decide +kernel, rfl, by decide +kernel, by decide +kernel⟩
theorem n_is_bounds_value : NmF (defScope s_is_bounds) ["value", "one", "least", "most"] 0 "value" := ⟨rfl, (.inl (by kernel_rfl)), by decide, by decide⟩
theorem g_is_bounds_MOST_ROWS : (defScope s_is_bounds).names.lookup (("MOST_ROWS" : Str)) = some .globalImplicit := by kernel_rfl
theorem g_is_bounds_all : (defScope s_is_bounds).names.lookup (("all" : Str)) = some .globalImplicit := by kernel_rfl
theorem g_is_bounds_is_tuple : (defScope s_is_bounds).names.lookup (("is_tuple" : Str)) = some .globalImplicit := by kernel_rfl
theorem w_is_bounds (c : Fx K mg) : DOk PR w K mg base 3 "is_bounds" ["value"] (spF m_is_bounds) := by
  refine ok_pure (N := ["value", "one", "least", "most"]) (k := 2) c.f_is_bounds sc_is_bounds (fun _ _ _ _ _ _ us hl => match us, hl with | [_], _ => rfl) (mb := fun ds => match ds with | [d821] => b_is_bounds d821 | _ => fail) ?_ ?_
  · intro ds r h
    match ds, h with
    | [_], h => exact ⟨rfl, h⟩
  · intro ds hl
    match ds, hl with
    | [d821], _ =>
      intro cdv A outer s F E hr
      show JS _ _ _ _ (b_is_bounds d821) _
      unfold b_is_bounds
      exact (js_nf [.val d821, .unk, .unk, .unk] rfl (js_ifret (JW.t (jw_or (jt_not (jt_val (je_callO (w_is_tuple c) hr (by decide) g_is_bounds_is_tuple (ja_cons (je_nm n_is_bounds_value rfl) fun x822 => (ja_cons je_int fun x823 => (ja_cons (je_gint c.c_MOST_ROWS g_is_bounds_MOST_ROWS) fun x824 => ja_nil)))))) (jw_or1 (jt_not (jt_val (je_callB (cd_all rfl) g_is_bounds_all c.n_all (by decide +kernel) (jav_cons (JE.v (je_lc rfl sc_is_bounds.nd (ji_seq (je_nm n_is_bounds_value rfl)) (blk (own := [("one", 1)]) (by kernel_rfl)) (fun _ _ _ _ _ => (pgd_n 1 sc_is_bounds.nd rfl (.inl rfl))) (ji_n fun d828 => .plain (fun _ _ _ _ _ => je_nf [.val d821, .val d828, .unk, .unk] rfl (je_callO (w_is_tuple c) hr (by decide) rfl (ja_cons (je_name 1 rfl (.inl rfl) rfl) fun x829 => (ja_cons (je_gint c.c_PAIR_sure rfl) fun x830 => (ja_cons (je_gint c.c_PAIR_sure rfl) fun x831 => ja_nil)))))))) fun x836 => jav_nil))))))) (js_nf [.val d821, .unk, .unk, .unk] rfl (js_ret0 je_bl)) (js_nf [.val d821, .unk, .unk, .unk] rfl (js_ifret (jt_not (jt_val (je_callB (cd_all rfl) g_is_bounds_all c.n_all (by decide +kernel) (jav_cons (JE.v (je_lc rfl sc_is_bounds.nd (ji_seq (je_nm n_is_bounds_value rfl)) (blk (own := [("least", 2), ("most", 3)]) (by kernel_rfl)) (fun _ _ _ _ _ => (pgd_2 rfl (pgd_n 2 sc_is_bounds.nd rfl (.inl rfl)) (pgd_n 3 sc_is_bounds.nd rfl (.inl rfl)))) (ji_2 fun d842 d843 => .plain (fun _ _ _ _ _ => je_nf [.val d821, .unk, .val d842, .val d843] rfl (je_callO (w_is_integer c) hr (by decide) rfl (ja_cons (je_name 2 rfl (.inl rfl) rfl) fun x844 => (ja_cons je_int fun x845 => (ja_cons (je_gint c.c_MOST_SUM_sure rfl) fun x846 => ja_nil)))))))) fun x851 => jav_nil)))) (js_nf [.val d821, .unk, .unk, .unk] rfl (js_ret0 je_bl)) (js_nf [.val d821, .unk, .unk, .unk] rfl (js_ret0 (je_callB (cd_all rfl) g_is_bounds_all c.n_all (by decide +kernel) (jav_cons (JE.v (je_lc rfl sc_is_bounds.nd (ji_seq (je_nm n_is_bounds_value rfl)) (blk (own := [("least", 2), ("most", 3)]) (by kernel_rfl)) (fun _ _ _ _ _ => (pgd_2 rfl (pgd_n 2 sc_is_bounds.nd rfl (.inl rfl)) (pgd_n 3 sc_is_bounds.nd rfl (.inl rfl)))) (ji_2 fun d856 d857 => .plain (fun _ _ _ _ _ => je_nf [.val d821, .unk, .val d856, .val d857] rfl (je_callO (w_is_integer c) hr (by decide) rfl (ja_cons (je_name 3 rfl (.inl rfl) rfl) fun x858 => (ja_cons (je_name 2 rfl (.inl rfl) rfl) fun x859 => (ja_cons (je_gint c.c_MOST_SUM_sure rfl) fun x860 => ja_nil)))))))) fun x865 => jav_nil)))) fun _ _ => nofun)) fun _ _ => nofun))
abbrev s_check_bounds : Stmt := topS 70
theorem sc_check_bounds : FnScope ["value"] ["value"] (defScope s_check_bounds) := ⟨rfl, rfl, rfl, by decide +kernel, rfl, by decide +kernel, by decide +kernel⟩
theorem n_check_bounds_value : NmF (defScope s_check_bounds) ["value"] 0 "value" := ⟨rfl, (.inl (by kernel_rfl)), by decide, by decide⟩
theorem g_check_bounds_is_bounds : (defScope s_check_bounds).names.lookup (("is_bounds" : Str)) = some .globalImplicit := by kernel_rfl
theorem w_check_bounds (c : Fx K mg) : DOk PR w K mg base 4 "check_bounds" ["value"] (spF m_check_bounds) := by
  refine ok_proc (ρ' := [.unk]) (N := ["value"]) (k := 3) c.f_check_bounds sc_check_bounds (fun _ _ _ _ _ _ us hl => match us, hl with | [_], _ => rfl) (mb := fun ds => match ds with | [d866] => b_check_bounds d866 | _ => fail) ?_ ?_
  · intro ds r h
    match ds, h with
    | [_], h => exact ⟨rfl, h⟩
  · intro ds hl
    match ds, hl with
    | [d866], _ =>
      intro cdv A outer s F E hr
      show JS _ _ _ _ (b_check_bounds d866) _
      unfold b_check_bounds
      exact (js_nf [.val d866] rfl (js_ifraise (jt_not (jt_val (je_callO (w_is_bounds c) hr (by decide) g_check_bounds_is_bounds (ja_cons (je_nm n_check_bounds_value rfl) fun x867 => ja_nil)))) (js_end rfl (.u .nil))))
abbrev s_bounds_of : Stmt := topS 71
theorem sc_bounds_of : FnScope ["thread", "first", "end", "found", "yard", "here", "one", "begin", "loose", "least", "most"] ["thread"] (defScope s_bounds_of) := ⟨rfl, rfl, rfl, by decide +kernel, rfl, by decide +kernel, by decide +kernel⟩
theorem n_bounds_of_end : NmF (defScope s_bounds_of) ["thread", "first", "end", "found", "yard", "here", "one", "begin", "loose", "least", "most"] 2 "end" := ⟨rfl, (.inl (by kernel_rfl)), by decide, by decide⟩
theorem n_bounds_of_first : NmF (defScope s_bounds_of) ["thread", "first", "end", "found", "yard", "here", "one", "begin", "loose", "least", "most"] 1 "first" := ⟨rfl, (.inl (by kernel_rfl)), by decide, by decide⟩
theorem n_bounds_of_found : NmF (defScope s_bounds_of) ["thread", "first", "end", "found", "yard", "here", "one", "begin", "loose", "least", "most"] 3 "found" := ⟨rfl, (.inl (by kernel_rfl)), by decide, by decide⟩
theorem n_bounds_of_here : NmF (defScope s_bounds_of) ["thread", "first", "end", "found", "yard", "here", "one", "begin", "loose", "least", "most"] 5 "here" := ⟨rfl, (.inl (by kernel_rfl)), by decide, by decide⟩
theorem n_bounds_of_thread : NmF (defScope s_bounds_of) ["thread", "first", "end", "found", "yard", "here", "one", "begin", "loose", "least", "most"] 0 "thread" := ⟨rfl, (.inl (by kernel_rfl)), by decide, by decide⟩
theorem g_bounds_of_MOST_BESIDE_sure : (defScope s_bounds_of).names.lookup (("MOST_BESIDE_sure" : Str)) = some .globalImplicit := by kernel_rfl
theorem g_bounds_of_all : (defScope s_bounds_of).names.lookup (("all" : Str)) = some .globalImplicit := by kernel_rfl
theorem g_bounds_of_is_tuple : (defScope s_bounds_of).names.lookup (("is_tuple" : Str)) = some .globalImplicit := by kernel_rfl
theorem g_bounds_of_max : (defScope s_bounds_of).names.lookup (("max" : Str)) = some .globalImplicit := by kernel_rfl
theorem g_bounds_of_min : (defScope s_bounds_of).names.lookup (("min" : Str)) = some .globalImplicit := by kernel_rfl
theorem g_bounds_of_range : (defScope s_bounds_of).names.lookup (("range" : Str)) = some .globalImplicit := by kernel_rfl
theorem g_bounds_of_sum : (defScope s_bounds_of).names.lookup (("sum" : Str)) = some .globalImplicit := by kernel_rfl
theorem g_bounds_of_tuple : (defScope s_bounds_of).names.lookup (("tuple" : Str)) = some .globalImplicit := by kernel_rfl
theorem w_bounds_of (c : Fx K mg) : DOk PR w K mg base 4 "bounds_of" ["thread"] (spF m_bounds_of) := by
  refine ok_pure (N := ["thread", "first", "end", "found", "yard", "here", "one", "begin", "loose", "least", "most"]) (k := 3) c.f_bounds_of sc_bounds_of (fun _ _ _ _ _ _ us hl => match us, hl with | [_], _ => rfl) (mb := fun ds => match ds with | [d871] => b_bounds_of d871 | _ => fail) ?_ ?_
  · intro ds r h
    match ds, h with
    | [_], h => exact ⟨rfl, h⟩
  · intro ds hl
    match ds, hl with
    | [d871], _ =>
      intro cdv A outer s F E hr
      show JS _ _ _ _ (b_bounds_of d871) _
      unfold b_bounds_of
      exact (js_nf [.val d871, .unk, .unk, .unk, .unk, .unk, .unk, .unk, .unk, .unk, .unk] rfl (js_ifraise (JW.t (jw_or (jt_not (jt_val (je_callO (w_is_tuple c) hr (by decide) g_bounds_of_is_tuple (ja_cons (je_nm n_bounds_of_thread rfl) fun x872 => (ja_cons je_int fun x873 => (ja_cons (je_gint c.c_MOST_BESIDE_sure g_bounds_of_MOST_BESIDE_sure) fun x874 => ja_nil)))))) (jw_or1 (jt_not (jt_val (je_callB (cd_all rfl) g_bounds_of_all c.n_all (by decide +kernel) (jav_cons (JE.v (je_lc rfl sc_bounds_of.nd (ji_seq (je_nm n_bounds_of_thread rfl)) (blk (own := [("one", 6)]) (by kernel_rfl)) (fun _ _ _ _ _ => (pgd_n 6 sc_bounds_of.nd rfl (.inl rfl))) (ji_n fun d878 => .plain (fun _ _ _ _ _ => je_nf [.val d871, .unk, .unk, .unk, .unk, .unk, .val d878, .unk, .unk, .unk, .unk] rfl (je_callO (w_is_tuple c) hr (by decide) rfl (ja_cons (je_name 6 rfl (.inl rfl) rfl) fun x879 => (ja_cons (je_gint c.c_PAIR_sure rfl) fun x880 => (ja_cons (je_gint c.c_PAIR_sure rfl) fun x881 => ja_nil)))))))) fun x886 => jav_nil))))))) (js_nf [.val d871, .unk, .unk, .unk, .unk, .unk, .unk, .unk, .unk, .unk, .unk] rfl (js_ifraise (jt_not (jt_val (je_callB (cd_all rfl) g_bounds_of_all c.n_all (by decide +kernel) (jav_cons (JE.v (je_lc rfl sc_bounds_of.nd (ji_seq (je_nm n_bounds_of_thread rfl)) (blk (own := [("begin", 7), ("loose", 8)]) (by kernel_rfl)) (fun _ _ _ _ _ => (pgd_2 rfl (pgd_n 7 sc_bounds_of.nd rfl (.inl rfl)) (pgd_n 8 sc_bounds_of.nd rfl (.inl rfl)))) (ji_2 fun d892 d893 => .plain (fun _ _ _ _ _ => je_nf [.val d871, .unk, .unk, .unk, .unk, .unk, .unk, .val d892, .val d893, .unk, .unk] rfl (je_and (je_callO (w_is_integer c) hr (by decide) rfl (ja_cons (je_name 7 rfl (.inl rfl) rfl) fun x894 => (ja_cons je_int fun x895 => (ja_cons (je_gint c.c_MOST_BEGIN_sure rfl) fun x896 => ja_nil)))) (je_one (je_callO (w_is_loose c) hr (by decide) rfl (ja_cons (je_name 8 rfl (.inl rfl) rfl) fun x897 => ja_nil)))))))) fun x904 => jav_nil)))) (js_nf [.val d871, .unk, .unk, .unk, .unk, .unk, .unk, .unk, .unk, .unk, .unk] rfl (js_par2 (i := 1) (j := 2) rfl sc_bounds_of.nd rfl rfl (by decide) rfl rfl (JE.x (je_callB (cd_min rfl hr.units) g_bounds_of_min c.n_min (by decide +kernel) (jav_cons (JE.v (je_lc rfl sc_bounds_of.nd (ji_seq (je_nm n_bounds_of_thread rfl)) (blk (own := [("begin", 7), ("loose", 8)]) (by kernel_rfl)) (fun _ _ _ _ _ => (pgd_2 rfl (pgd_n 7 sc_bounds_of.nd rfl (.inl rfl)) (pgd_n 8 sc_bounds_of.nd rfl (.inl rfl)))) (ji_2 fun d909 d910 => .plain (fun _ _ _ _ _ => je_nf [.val d871, .unk, .unk, .unk, .unk, .unk, .unk, .val d909, .val d910, .unk, .unk] rfl (je_name 7 rfl (.inl rfl) rfl))))) fun x915 => jav_nil))) (JE.x (je_callB (cd_max rfl hr.units) g_bounds_of_max c.n_max (by decide +kernel) (jav_cons (JE.v (je_lc rfl sc_bounds_of.nd (ji_seq (je_nm n_bounds_of_thread rfl)) (blk (own := [("begin", 7), ("loose", 8)]) (by kernel_rfl)) (fun _ _ _ _ _ => (pgd_2 rfl (pgd_n 7 sc_bounds_of.nd rfl (.inl rfl)) (pgd_n 8 sc_bounds_of.nd rfl (.inl rfl)))) (ji_2 fun d917 d918 => .plain (fun _ _ _ _ _ => je_nf [.val d871, .unk, .unk, .unk, .unk, .unk, .unk, .val d917, .val d918, .unk, .unk] rfl (je_bin od_add (je_name 7 rfl (.inl rfl) rfl) (je_callB cd_len rfl c.n_len (by decide +kernel) (jav_cons (JE.v (je_name 8 rfl (.inl rfl) rfl)) fun x919 => jav_nil))))))) fun x926 => jav_nil))) fun d927 d928 => (js_nf [.val d871, .val d927, .val d928, .unk, .unk, .unk, .unk, .unk, .unk, .unk, .unk] rfl (js_asg (i := 3) sc_bounds_of.nd rfl (.inl rfl) (jn_lst ja_nil) fun d929 => (js_nf [.val d871, .val d927, .val d928, .own d929, .unk, .unk, .unk, .unk, .unk, .unk, .unk] rfl (js_for (r := (fun d => d)) (emb := (fun a : (List D) => [.val d871, .val d927, .val d928, .own a, .unk, .unk, .unk, .unk, .unk, .unk, .unk])) (a0 := d929) PassesOwn.never rfl (ji_range2 g_bounds_of_range c.n_range (ja_cons (je_nm n_bounds_of_first rfl) fun x930 => (ja_cons (je_nm n_bounds_of_end rfl) fun x931 => ja_nil))) (pgd_n 4 sc_bounds_of.nd rfl (.inr rfl)) (.e (.e (.e (.e (.u (.u (.u (.u (.u (.u (.u .nil))))))))))) (fun a932 => ji_n fun d933 => (js_nf [.val d871, .val d927, .val d928, .own a932, .val d933, .unk, .unk, .unk, .unk, .unk, .unk] rfl (js_asgLc (i := 5) rfl sc_bounds_of.nd rfl rfl (ji_seq (je_nm n_bounds_of_thread rfl)) (blk (own := [("begin", 7), ("loose", 8)]) (by kernel_rfl)) (fun _ _ _ _ _ => (pgd_2 rfl (pgd_n 7 sc_bounds_of.nd rfl (.inl rfl)) (pgd_n 8 sc_bounds_of.nd rfl (.inl rfl)))) (ji_2 fun d935 d936 => .cond (fun _ _ _ _ _ => jt_nf [.val d871, .val d927, .val d928, .own a932, .val d933, .unk, .unk, .val d935, .val d936, .unk, .unk] rfl (jt_chain ob_le ob_lt (JE.v (je_name 7 rfl (.inl rfl) rfl)) (JE.v (je_name 4 rfl (.inr (.inl rfl)) rfl)) (JE.v (je_bin od_add (je_name 7 rfl (.inl rfl) rfl) (je_callB cd_len rfl c.n_len (by decide +kernel) (jav_cons (JE.v (je_name 8 rfl (.inl rfl) rfl)) fun x942 => jav_nil)))))) (fun _ _ _ _ _ => je_nf [.val d871, .val d927, .val d928, .own a932, .val d933, .unk, .unk, .val d935, .val d936, .unk, .unk] rfl (je_ix (JE.v (je_name 8 rfl (.inl rfl) rfl)) (je_bin od_sub (je_name 4 rfl (.inr (.inl rfl)) rfl) (je_name 7 rfl (.inl rfl) rfl))))) fun d953 => (js_nf [.val d871, .val d927, .val d928, .own a932, .val d933, .val d953, .unk, .unk, .unk, .unk, .unk] rfl (js_append (i := 3) rfl (.inl rfl) rfl (je_tup (ja_cons (je_callB (cd_sum rfl) g_bounds_of_sum c.n_sum (by decide +kernel) (jav_cons (JE.v (je_lc rfl sc_bounds_of.nd (ji_seq (je_nm n_bounds_of_here rfl)) (blk (own := [("least", 9), ("most", 10)]) (by kernel_rfl)) (fun _ _ _ _ _ => (pgd_2 rfl (pgd_n 9 sc_bounds_of.nd rfl (.inl rfl)) (pgd_n 10 sc_bounds_of.nd rfl (.inl rfl)))) (ji_2 fun d955 d956 => .plain (fun _ _ _ _ _ => je_nf [.val d871, .val d927, .val d928, .own a932, .val d933, .val d953, .unk, .unk, .unk, .val d955, .val d956] rfl (je_name 9 rfl (.inl rfl) rfl))))) fun x961 => jav_nil)) fun x962 => (ja_cons (je_callB (cd_sum rfl) g_bounds_of_sum c.n_sum (by decide +kernel) (jav_cons (JE.v (je_lc rfl sc_bounds_of.nd (ji_seq (je_nm n_bounds_of_here rfl)) (blk (own := [("least", 9), ("most", 10)]) (by kernel_rfl)) (fun _ _ _ _ _ => (pgd_2 rfl (pgd_n 9 sc_bounds_of.nd rfl (.inl rfl)) (pgd_n 10 sc_bounds_of.nd rfl (.inl rfl)))) (ji_2 fun d964 d965 => .plain (fun _ _ _ _ _ => je_nf [.val d871, .val d927, .val d928, .own a932, .val d933, .val d953, .unk, .unk, .unk, .val d964, .val d965] rfl (je_name 10 rfl (.inl rfl) rfl))))) fun x970 => jav_nil)) fun x971 => ja_nil))) fun ys973 => (js_end rfl (.e (.e (.e (.e (.u (.u (.u (.u (.u (.u (.u .nil))))))))))))))))) (fun a975 => (js_nf [.val d871, .val d927, .val d928, .own a975, .unk, .unk, .unk, .unk, .unk, .unk, .unk] rfl (js_ret0 (je_callTy cd_tuple g_bounds_of_tuple c.n_tuple (by decide +kernel) (jav_cons (jv_nm n_bounds_of_found rfl) fun x976 => jav_nil))))) fun _ => rfl))))))))))
abbrev s_verdict_of : Stmt := topS 72
theorem sc_verdict_of : FnScope ["bounds", "band", "least", "most"] ["bounds", "band"] (defScope s_verdict_of) := ⟨rfl, rfl, rfl, by decide +kernel, rfl, by decide +kernel, by decide +kernel⟩
theorem n_verdict_of_bounds : NmF (defScope s_verdict_of) ["bounds", "band", "least", "most"] 0 "bounds" := ⟨rfl, (.inl (by kernel_rfl)), by decide, by decide⟩
theorem g_verdict_of_NEVER : (defScope s_verdict_of).names.lookup (("NEVER" : Str)) = some .globalImplicit := by kernel_rfl
theorem g_verdict_of_OPEN : (defScope s_verdict_of).names.lookup (("OPEN" : Str)) = some .globalImplicit := by kernel_rfl
theorem g_verdict_of_SURE : (defScope s_verdict_of).names.lookup (("SURE" : Str)) = some .globalImplicit := by kernel_rfl
theorem g_verdict_of_all : (defScope s_verdict_of).names.lookup (("all" : Str)) = some .globalImplicit := by kernel_rfl
theorem g_verdict_of_any : (defScope s_verdict_of).names.lookup (("any" : Str)) = some .globalImplicit := by kernel_rfl
theorem w_verdict_of (c : Fx K mg) : DOk PR w K mg base 1 "verdict_of" ["bounds", "band"] (spF m_verdict_of) := by
  refine ok_pure (N := ["bounds", "band", "least", "most"]) (k := 0) c.f_verdict_of sc_verdict_of (fun _ _ _ _ _ _ us hl => match us, hl with | [_, _], _ => rfl) (mb := fun ds => match ds with | [d978, d979] => b_verdict_of d978 d979 | _ => fail) ?_ ?_
  · intro ds r h
    match ds, h with
    | [_, _], h => exact ⟨rfl, h⟩
  · intro ds hl
    match ds, hl with
    | [d978, d979], _ =>
      intro cdv A outer s F E hr
      show JS _ _ _ _ (b_verdict_of d978 d979) _
      unfold b_verdict_of
      exact (js_nf [.val d978, .val d979, .unk, .unk] rfl (js_ifret (jt_val (je_callB (cd_any rfl) g_verdict_of_any c.n_any (by decide +kernel) (jav_cons (JE.v (je_lc rfl sc_verdict_of.nd (ji_seq (je_nm n_verdict_of_bounds rfl)) (blk (own := [("least", 2), ("most", 3)]) (by kernel_rfl)) (fun _ _ _ _ _ => (pgd_2 rfl (pgd_n 2 sc_verdict_of.nd rfl (.inl rfl)) (pgd_n 3 sc_verdict_of.nd rfl (.inl rfl)))) (ji_2 fun d981 d982 => .plain (fun _ _ _ _ _ => je_nf [.val d978, .val d979, .val d981, .val d982] rfl (je_or (je_cmp ob_lt (JE.v (je_name 3 rfl (.inl rfl) rfl)) (JE.v (je_ix (JE.v (je_name 1 rfl (.inr (.inl rfl)) rfl)) je_int)) (by rfl)) (je_one (je_cmp ob_gt (JE.v (je_name 2 rfl (.inl rfl) rfl)) (JE.v (je_ix (JE.v (je_name 1 rfl (.inr (.inl rfl)) rfl)) je_int)) (by rfl)))))))) fun x999 => jav_nil))) (js_nf [.val d978, .val d979, .unk, .unk] rfl (js_ret0 (je_gstr c.c_NEVER g_verdict_of_NEVER))) (js_nf [.val d978, .val d979, .unk, .unk] rfl (js_ret0 (je_if (jt_val (je_callB (cd_all rfl) g_verdict_of_all c.n_all (by decide +kernel) (jav_cons (JE.v (je_lc rfl sc_verdict_of.nd (ji_seq (je_nm n_verdict_of_bounds rfl)) (blk (own := [("least", 2), ("most", 3)]) (by kernel_rfl)) (fun _ _ _ _ _ => (pgd_2 rfl (pgd_n 2 sc_verdict_of.nd rfl (.inl rfl)) (pgd_n 3 sc_verdict_of.nd rfl (.inl rfl)))) (ji_2 fun d1003 d1004 => .plain (fun _ _ _ _ _ => je_nf [.val d978, .val d979, .val d1003, .val d1004] rfl (je_and (je_cmp ob_le (JE.v (je_ix (JE.v (je_name 1 rfl (.inr (.inl rfl)) rfl)) je_int)) (JE.v (je_name 2 rfl (.inl rfl) rfl)) (by rfl)) (je_one (je_cmp ob_le (JE.v (je_name 3 rfl (.inl rfl) rfl)) (JE.v (je_ix (JE.v (je_name 1 rfl (.inr (.inl rfl)) rfl)) je_int)) (by rfl)))))))) fun x1021 => jav_nil))) (je_gstr c.c_SURE g_verdict_of_SURE) (je_gstr c.c_OPEN g_verdict_of_OPEN)))) fun _ _ => nofun))
abbrev s_even : Stmt := topS 73
theorem sc_even : FnScope ["bounds", "band"] ["bounds", "band"] (defScope s_even) := ⟨rfl, rfl, rfl, by decide +kernel, rfl, by decide +kernel, by decide +kernel⟩
theorem n_even_band : NmF (defScope s_even) ["bounds", "band"] 1 "band" := ⟨rfl, (.inl (by kernel_rfl)), by decide, by decide⟩
theorem n_even_bounds : NmF (defScope s_even) ["bounds", "band"] 0 "bounds" := ⟨rfl, (.inl (by kernel_rfl)), by decide, by decide⟩
theorem g_even_check_band : (defScope s_even).names.lookup (("check_band" : Str)) = some .globalImplicit := by kernel_rfl
theorem g_even_check_bounds : (defScope s_even).names.lookup (("check_bounds" : Str)) = some .globalImplicit := by kernel_rfl
theorem g_even_verdict_of : (defScope s_even).names.lookup (("verdict_of" : Str)) = some .globalImplicit := by kernel_rfl
theorem w_even (c : Fx K mg) : DOk PR w K mg base 5 "even" ["bounds", "band"] (spF m_even) := by
  refine ok_pure (N := ["bounds", "band"]) (k := 4) c.f_even sc_even (fun _ _ _ _ _ _ us hl => match us, hl with | [_, _], _ => rfl) (mb := fun ds => match ds with | [d1024, d1025] => b_even d1024 d1025 | _ => fail) ?_ ?_
  · intro ds r h
    match ds, h with
    | [_, _], h => exact ⟨rfl, h⟩
  · intro ds hl
    match ds, hl with
    | [d1024, d1025], _ =>
      intro cdv A outer s F E hr
      show JS _ _ _ _ (b_even d1024 d1025) _
      unfold b_even
      exact (js_nf [.val d1024, .val d1025] rfl (js_expr (je_callO (w_check_bounds c) hr (by decide) g_even_check_bounds (ja_cons (je_nm n_even_bounds rfl) fun x1026 => ja_nil)) (js_nf [.val d1024, .val d1025] rfl (js_expr (je_callO (w_check_band c) hr (by decide) g_even_check_band (ja_cons (je_nm n_even_band rfl) fun x1027 => ja_nil)) (js_nf [.val d1024, .val d1025] rfl (js_ret0 (je_callO (w_verdict_of c) hr (by decide) g_even_verdict_of (ja_cons (je_nm n_even_bounds rfl) fun x1028 => (ja_cons (je_nm n_even_band rfl) fun x1029 => ja_nil)))))))))
abbrev s_borne : Stmt := topS 74
theorem sc_borne : FnScope ["bounds", "least", "most"] ["bounds"] (defScope s_borne) := ⟨rfl, rfl, rfl, by decide +kernel, rfl, by decide +kernel, by decide +kernel⟩
theorem n_borne_bounds : NmF (defScope s_borne) ["bounds", "least", "most"] 0 "bounds" := ⟨rfl, (.inl (by kernel_rfl)), by decide, by decide⟩
theorem g_borne_check_bounds : (defScope s_borne).names.lookup (("check_bounds" : Str)) = some .globalImplicit := by kernel_rfl
theorem g_borne_min : (defScope s_borne).names.lookup (("min" : Str)) = some .globalImplicit := by kernel_rfl
theorem w_borne (c : Fx K mg) : DOk PR w K mg base 5 "borne" ["bounds"] (spF m_borne) := by
  refine ok_pure (N := ["bounds", "least", "most"]) (k := 4) c.f_borne sc_borne (fun _ _ _ _ _ _ us hl => match us, hl with | [_], _ => rfl) (mb := fun ds => match ds with | [d1030] => b_borne d1030 | _ => fail) ?_ ?_
  · intro ds r h
    match ds, h with
    | [_], h => exact ⟨rfl, h⟩
  · intro ds hl
    match ds, hl with
    | [d1030], _ =>
      intro cdv A outer s F E hr
      show JS _ _ _ _ (b_borne d1030) _
      unfold b_borne
      exact (js_nf [.val d1030, .unk, .unk] rfl (js_expr (je_callO (w_check_bounds c) hr (by decide) g_borne_check_bounds (ja_cons (je_nm n_borne_bounds rfl) fun x1031 => ja_nil)) (js_nf [.val d1030, .unk, .unk] rfl (js_ret0 (je_tup (ja_cons (je_callB (cd_min rfl hr.units) g_borne_min c.n_min (by decide +kernel) (jav_cons (JE.v (je_lc rfl sc_borne.nd (ji_seq (je_nm n_borne_bounds rfl)) (blk (own := [("least", 1), ("most", 2)]) (by kernel_rfl)) (fun _ _ _ _ _ => (pgd_2 rfl (pgd_n 1 sc_borne.nd rfl (.inl rfl)) (pgd_n 2 sc_borne.nd rfl (.inl rfl)))) (ji_2 fun d1033 d1034 => .plain (fun _ _ _ _ _ => je_nf [.val d1030, .val d1033, .val d1034] rfl (je_name 1 rfl (.inl rfl) rfl))))) fun x1039 => jav_nil)) fun x1040 => (ja_cons (je_callB (cd_min rfl hr.units) g_borne_min c.n_min (by decide +kernel) (jav_cons (JE.v (je_lc rfl sc_borne.nd (ji_seq (je_nm n_borne_bounds rfl)) (blk (own := [("least", 1), ("most", 2)]) (by kernel_rfl)) (fun _ _ _ _ _ => (pgd_2 rfl (pgd_n 1 sc_borne.nd rfl (.inl rfl)) (pgd_n 2 sc_borne.nd rfl (.inl rfl)))) (ji_2 fun d1042 d1043 => .plain (fun _ _ _ _ _ => je_nf [.val d1030, .val d1042, .val d1043] rfl (je_name 2 rfl (.inl rfl) rfl))))) fun x1048 => jav_nil)) fun x1049 => ja_nil)))))))
abbrev s__law_pot : Stmt := topS 76
theorem sc__law_pot : FnScope ["script", "place", "cell", "own", "small"] ["script", "place"] (defScope s__law_pot) := ⟨rfl, rfl, rfl, by decide +kernel, rfl, by decide +kernel, by decide +kernel⟩
theorem n__law_pot_cell : NmF (defScope s__law_pot) ["script", "place", "cell", "own", "small"] 2 "cell" := ⟨rfl, (.inl (by kernel_rfl)), by decide, by decide⟩
theorem n__law_pot_own : NmF (defScope s__law_pot) ["script", "place", "cell", "own", "small"] 3 "own" := ⟨rfl, (.inl (by kernel_rfl)), by decide, by decide⟩
theorem n__law_pot_place : NmF (defScope s__law_pot) ["script", "place", "cell", "own", "small"] 1 "place" := ⟨rfl, (.inl (by kernel_rfl)), by decide, by decide⟩
theorem n__law_pot_small : NmF (defScope s__law_pot) ["script", "place", "cell", "own", "small"] 4 "small" := ⟨rfl, (.inl (by kernel_rfl)), by decide, by decide⟩
theorem g__law_pot_abs : (defScope s__law_pot).names.lookup (("abs" : Str)) = some .globalImplicit := by kernel_rfl
theorem g__law_pot_int : (defScope s__law_pot).names.lookup (("int" : Str)) = some .globalImplicit := by kernel_rfl
theorem g__law_pot_sum : (defScope s__law_pot).names.lookup (("sum" : Str)) = some .globalImplicit := by kernel_rfl
theorem w__law_pot (c : Fx K mg) : DOk PR w K mg base 1 "_law_pot" ["script", "place"] (spScr K m__law_pot) := by
  refine ok_scr (N := ["script", "place", "cell", "own", "small"]) (k := 0) c.f__law_pot sc__law_pot (fun _ _ _ _ _ _ us hl => match us, hl with | [_, _], _ => rfl) (mb := fun ns ds => match ds with | [d1050] => b__law_pot ns d1050 | _ => fail) ?_ ?_
  · intro ns ds r h
    match ds, h with
    | [_], h => exact ⟨rfl, h⟩
  · intro ns ds hl
    match ds, hl with
    | [d1050], _ =>
      intro cdv A outer s F E hr
      show JS _ _ _ _ (b__law_pot ns d1050) _
      unfold b__law_pot
      exact (js_nf [.scr ns, .val d1050, .unk, .unk, .unk] rfl (js_asg (i := 2) sc__law_pot.nd rfl (.inl rfl) (JE.x (je_if (jt_cmp ob_lt (JE.v (je_nm n__law_pot_place rfl)) (JE.v (je_lenS (i := 0) rfl (.inl rfl) rfl rfl c.n_len)) (by rfl)) (je_ixS (i := 0) rfl (.inl rfl) rfl (je_nm n__law_pot_place rfl)) (je_bin od_add (je_bin od_add (je_bin od_mod (je_callB (cd_sum rfl) g__law_pot_sum c.n_sum (by decide +kernel) (jav_cons (JE.v (je_sliceS (i := 0) rfl (.inl rfl) rfl jo_none (jo_some je_int))) fun x1059 => jav_nil)) je_int) (je_bin od_mul je_int (je_nm n__law_pot_place rfl))) je_int))) fun d1069 => (js_nf [.scr ns, .val d1050, .val d1069, .unk, .unk] rfl (js_asg (i := 3) sc__law_pot.nd rfl (.inl rfl) (JE.x (je_bin od_mul (je_bin od_mod (je_callTy cd_int g__law_pot_int c.n_int (by decide +kernel) (jav_cons (JE.v (je_callB cd_abs g__law_pot_abs c.n_abs (by decide +kernel) (jav_cons (JE.v (je_nm n__law_pot_cell rfl)) fun x1070 => jav_nil))) fun x1071 => jav_nil)) (je_bin od_pow (je_bin od_pow je_int je_int) je_int)) (je_callTy cd_int g__law_pot_int c.n_int (by decide +kernel) (jav_cons (JE.v (je_cmp ob_ge (JE.v (je_callB cd_abs g__law_pot_abs c.n_abs (by decide +kernel) (jav_cons (JE.v (je_nm n__law_pot_cell rfl)) fun x1078 => jav_nil))) (JE.v (je_bin od_pow je_int je_int)) (by rfl))) fun x1084 => jav_nil)))) fun d1087 => (js_nf [.scr ns, .val d1050, .val d1069, .val d1087, .unk] rfl (js_asg (i := 4) sc__law_pot.nd rfl (.inl rfl) (JE.x (je_bin od_mod (je_callTy cd_int g__law_pot_int c.n_int (by decide +kernel) (jav_cons (JE.v (je_nm n__law_pot_cell rfl)) fun x1088 => jav_nil)) je_int)) fun d1091 => (js_nf [.scr ns, .val d1050, .val d1069, .val d1087, .val d1091] rfl (js_ret0 (je_lst (ja_cons (je_nm n__law_pot_own rfl) fun x1092 => (ja_cons (je_bin od_mod (je_callTy cd_int g__law_pot_int c.n_int (by decide +kernel) (jav_cons (JE.v (je_bin od_add (je_bin od_add (je_bin od_mul (je_nm n__law_pot_small rfl) je_int) (je_bin od_mul (je_bin od_mul je_int (je_nm n__law_pot_place rfl)) (je_nm n__law_pot_place rfl))) je_int)) fun x1103 => jav_nil)) je_int) fun x1106 => (ja_cons je_int fun x1107 => ja_nil))))))))))))
abbrev s__law_take : Stmt := topS 77
theorem sc__law_take : FnScope ["pot", "upto", "digit", "prime", "blend"] ["pot", "upto"] (defScope s__law_take) := ⟨rfl, rfl, rfl, by decide +kernel, rfl, by decide +kernel, by decide +kernel⟩
theorem n__law_take_blend : NmF (defScope s__law_take) ["pot", "upto", "digit", "prime", "blend"] 4 "blend" := ⟨rfl, (.inl (by kernel_rfl)), by decide, by decide⟩
theorem n__law_take_digit : NmF (defScope s__law_take) ["pot", "upto", "digit", "prime", "blend"] 2 "digit" := ⟨rfl, (.inl (by kernel_rfl)), by decide, by decide⟩
theorem n__law_take_prime : NmF (defScope s__law_take) ["pot", "upto", "digit", "prime", "blend"] 3 "prime" := ⟨rfl, (.inl (by kernel_rfl)), by decide, by decide⟩
theorem n__law_take_upto : NmF (defScope s__law_take) ["pot", "upto", "digit", "prime", "blend"] 1 "upto" := ⟨rfl, (.inl (by kernel_rfl)), by decide, by decide⟩
theorem g__law_take_int : (defScope s__law_take).names.lookup (("int" : Str)) = some .globalImplicit := by kernel_rfl
theorem w__law_take (c : Fx K mg) : DOk PR w K mg base 1 "_law_take" ["pot", "upto"] (spP m__law_take) := by
  refine ok_pot (N := ["pot", "upto", "digit", "prime", "blend"]) (k := 0) c.f__law_take sc__law_take (fun _ _ _ _ _ _ us hl => match us, hl with | [_, _], _ => rfl) ?_ ?_
  · intro ds s r s' h
    match ds, h with
    | [_], _ => rfl
  · intro ds p hl
    match ds, hl with
    | [d1108], _ =>
      intro cdv A outer s F E hr
      show JS _ _ _ _ (b__law_take d1108) _
      unfold b__law_take
      exact (js_nf [.pot, .val d1108, .unk, .unk, .unk] rfl (js_ifret (jt_cmp ob_gt (JE.v (je_ixP (i := 0) rfl (.inl rfl) rfl)) (JE.v je_int) (by rfl)) (js_nf [.pot, .val d1108, .unk, .unk, .unk] rfl (js_asg (i := 2) sc__law_take.nd rfl (.inl rfl) (JE.x (je_bin od_mod (je_callTy cd_int g__law_take_int c.n_int (by decide +kernel) (jav_cons (JE.v (je_ixP (i := 0) rfl (.inl rfl) rfl)) fun x1113 => jav_nil)) (je_nm n__law_take_upto rfl))) fun d1116 => (js_nf [.pot, .val d1108, .val d1116, .unk, .unk] rfl (js_setP (i := 0) rfl (.inl rfl) rfl (je_bin od_div (je_ixP (i := 0) rfl (.inl rfl) rfl) (je_nm n__law_take_upto rfl)) (js_nf [.pot, .val d1108, .val d1116, .unk, .unk] rfl (js_ret0 (je_nm n__law_take_digit rfl))))))) (js_nf [.pot, .val d1108, .unk, .unk, .unk] rfl (js_setP (i := 0) rfl (.inl rfl) rfl (je_bin od_add (je_ixP (i := 0) rfl (.inl rfl) rfl) je_int) (js_nf [.pot, .val d1108, .unk, .unk, .unk] rfl (js_asg (i := 3) sc__law_take.nd rfl (.inl rfl) (JE.x (je_ix (JE.v (je_lst (ja_cons je_int fun x1127 => (ja_cons je_int fun x1128 => (ja_cons je_int fun x1129 => (ja_cons je_int fun x1130 => (ja_cons je_int fun x1131 => ja_nil))))))) (je_bin od_mod (je_callTy cd_int g__law_take_int c.n_int (by decide +kernel) (jav_cons (JE.v (je_ixP (i := 0) rfl (.inl rfl) rfl)) fun x1123 => jav_nil)) je_int))) fun d1133 => (js_nf [.pot, .val d1108, .unk, .val d1133, .unk] rfl (js_asg (i := 4) sc__law_take.nd rfl (.inl rfl) (JE.x (je_bin od_mod (je_callTy cd_int g__law_take_int c.n_int (by decide +kernel) (jav_cons (JE.v (je_bin od_pow (je_callTy cd_int g__law_take_int c.n_int (by decide +kernel) (jav_cons (JE.v (je_bin od_add (je_bin od_add (je_ixP (i := 0) rfl (.inl rfl) rfl) (je_bin od_mul (je_bin od_mul je_int (je_ixP (i := 0) rfl (.inl rfl) rfl)) (je_ixP (i := 0) rfl (.inl rfl) rfl))) je_int)) fun x1142 => jav_nil)) je_int)) fun x1145 => jav_nil)) (je_nm n__law_take_prime rfl))) fun d1148 => (js_nf [.pot, .val d1108, .unk, .val d1133, .val d1148] rfl (js_asg (i := 4) sc__law_take.nd rfl (.inl rfl) (JE.x (je_bin od_mod (je_callTy cd_int g__law_take_int c.n_int (by decide +kernel) (jav_cons (JE.v (je_bin od_mul (je_nm n__law_take_blend rfl) (je_bin od_add (je_bin od_mod (je_callTy cd_int g__law_take_int c.n_int (by decide +kernel) (jav_cons (JE.v (je_nm n__law_take_blend rfl)) fun x1149 => jav_nil)) je_int) (je_bin od_mul je_int (je_ixP (i := 0) rfl (.inl rfl) rfl))))) fun x1158 => jav_nil)) je_int)) fun d1161 => (js_nf [.pot, .val d1108, .unk, .val d1133, .val d1161] rfl (js_ret0 (je_bin od_mod (je_callTy cd_int g__law_take_int c.n_int (by decide +kernel) (jav_cons (JE.v (je_bin od_div (je_nm n__law_take_blend rfl) je_int)) fun x1164 => jav_nil)) (je_nm n__law_take_upto rfl)))))))))))) fun _ _ => nofun))
abbrev s__law_of : Stmt := topS 78
theorem sc__law_of : FnScope ["pot", "some"] ["pot", "some"] (defScope s__law_of) := ⟨rfl, rfl, rfl, by decide +kernel, rfl, by decide +kernel, by decide +kernel⟩
theorem n__law_of_some : NmF (defScope s__law_of) ["pot", "some"] 1 "some" := ⟨rfl, (.inl (by kernel_rfl)), by decide, by decide⟩
theorem g__law_of__law_take : (defScope s__law_of).names.lookup (("_law_take" : Str)) = some .globalImplicit := by kernel_rfl
theorem g__law_of_len : (defScope s__law_of).names.lookup (("len" : Str)) = some .globalImplicit := by kernel_rfl
theorem w__law_of (c : Fx K mg) : DOk PR w K mg base 2 "_law_of" ["pot", "some"] (spP m__law_of) := by
  refine ok_pot (N := ["pot", "some"]) (k := 1) c.f__law_of sc__law_of (fun _ _ _ _ _ _ us hl => match us, hl with | [_, _], _ => rfl) ?_ ?_
  · intro ds s r s' h
    match ds, h with
    | [_], _ => rfl
  · intro ds p hl
    match ds, hl with
    | [d1167], _ =>
      intro cdv A outer s F E hr
      show JS _ _ _ _ (b__law_of d1167) _
      unfold b__law_of
      exact (js_nf [.pot, .val d1167] rfl (js_ret0 (je_ix (JE.v (je_nm n__law_of_some rfl)) (je_callPO (i := 0) (w__law_take c) hr (by decide) g__law_of__law_take rfl (.inl rfl) rfl (ja_cons (je_callB cd_len g__law_of_len c.n_len (by decide +kernel) (jav_cons (JE.v (je_nm n__law_of_some rfl)) fun x1168 => jav_nil)) fun x1169 => ja_nil)))))
abbrev s__law_places : Stmt := topS 79
theorem sc__law_places : FnScope ["script", "most"] ["script", "most"] (defScope s__law_places) := ⟨rfl, rfl, rfl, by decide +kernel, rfl, by decide +kernel, by decide +kernel⟩
theorem n__law_places_most : NmF (defScope s__law_places) ["script", "most"] 1 "most" := ⟨rfl, (.inl (by kernel_rfl)), by decide, by decide⟩
theorem g__law_places_max : (defScope s__law_places).names.lookup (("max" : Str)) = some .globalImplicit := by kernel_rfl
theorem g__law_places_min : (defScope s__law_places).names.lookup (("min" : Str)) = some .globalImplicit := by kernel_rfl
theorem w__law_places (c : Fx K mg) : DOk PR w K mg base 1 "_law_places" ["script", "most"] (spScr K m__law_places) := by
  refine ok_scr (N := ["script", "most"]) (k := 0) c.f__law_places sc__law_places (fun _ _ _ _ _ _ us hl => match us, hl with | [_, _], _ => rfl) (mb := fun ns ds => match ds with | [d1172] => b__law_places ns d1172 | _ => fail) ?_ ?_
  · intro ns ds r h
    match ds, h with
    | [_], h => exact ⟨rfl, h⟩
  · intro ns ds hl
    match ds, hl with
    | [d1172], _ =>
      intro cdv A outer s F E hr
      show JS _ _ _ _ (b__law_places ns d1172) _
      unfold b__law_places
      exact (js_nf [.scr ns, .val d1172] rfl (js_ret0 (je_listRg rfl (je_callB (cd_max2 rfl) g__law_places_max c.n_max (by decide +kernel) (jav_cons (JE.v je_int) fun x1173 => (jav_cons (JE.v (je_callB (cd_min2 rfl) g__law_places_min c.n_min (by decide +kernel) (jav_cons (JE.v (je_nm n__law_places_most rfl)) fun x1174 => (jav_cons (JE.v (je_lenS (i := 0) rfl (.inl rfl) rfl rfl c.n_len)) fun x1175 => jav_nil)))) fun x1176 => jav_nil))) rfl c.n_list rfl c.n_range)))
abbrev s__law_strand : Stmt := topS 80
theorem sc__law_strand : FnScope ["pot", "long", "most", "yard"] ["pot", "long", "most"] (defScope s__law_strand) := ⟨rfl, rfl, rfl, by decide +kernel, rfl, by decide +kernel, by decide +kernel⟩
theorem n__law_strand_long : NmF (defScope s__law_strand) ["pot", "long", "most", "yard"] 1 "long" := ⟨rfl, (.inl (by kernel_rfl)), by decide, by decide⟩
theorem g__law_strand__law_take : (defScope s__law_strand).names.lookup (("_law_take" : Str)) = some .globalImplicit := by kernel_rfl
theorem g__law_strand_range : (defScope s__law_strand).names.lookup (("range" : Str)) = some .globalImplicit := by kernel_rfl
theorem g__law_strand_tuple : (defScope s__law_strand).names.lookup (("tuple" : Str)) = some .globalImplicit := by kernel_rfl
theorem w__law_strand (c : Fx K mg) : DOk PR w K mg base 2 "_law_strand" ["pot", "long", "most"] (spP m__law_strand) := by
  refine ok_pot (N := ["pot", "long", "most", "yard"]) (k := 1) c.f__law_strand sc__law_strand (fun _ _ _ _ _ _ us hl => match us, hl with | [_, _, _], _ => rfl) ?_ ?_
  · intro ds s r s' h
    match ds, h with
    | [_, _], _ => rfl
  · intro ds p hl
    match ds, hl with
    | [d1178, d1179], _ =>
      intro cdv A outer s F E hr
      show JS _ _ _ _ (b__law_strand d1178 d1179) _
      unfold b__law_strand
      exact (js_nf [.pot, .val d1178, .val d1179, .unk] rfl (js_ret0 (je_callTy cd_tuple g__law_strand_tuple c.n_tuple (by decide +kernel) (jav_cons (JE.v (je_lc rfl sc__law_strand.nd (ji_range1 g__law_strand_range c.n_range (ja_cons (je_bin od_add je_int (je_callPO (i := 0) (w__law_take c) hr (by decide) g__law_strand__law_take rfl (.inr (.inl rfl)) rfl (ja_cons (je_nm n__law_strand_long rfl) fun x1180 => ja_nil))) fun x1183 => ja_nil)) (blk (own := [("yard", 3)]) (by kernel_rfl)) (fun _ _ _ _ _ => (pgd_n 3 sc__law_strand.nd rfl (.inl rfl))) (ji_n fun d1184 => .plain (fun _ _ _ _ _ => je_nf [.pot, .val d1178, .val d1179, .val d1184] rfl (je_callTy cd_int rfl c.n_int (by decide +kernel) (jav_cons (JE.v (je_callPO (i := 0) (w__law_take c) hr (by decide) rfl rfl (.inr (.inl rfl)) rfl (ja_cons (je_bin od_add (je_name 2 rfl (.inr (.inl rfl)) rfl) je_int) fun x1187 => ja_nil))) fun x1188 => jav_nil)))))) fun x1193 => jav_nil))))
abbrev s__law_thread : Stmt := topS 81
theorem sc__law_thread : FnScope ["pot", "many", "found", "lap"] ["pot", "many"] (defScope s__law_thread) := ⟨rfl, rfl, rfl, by decide +kernel, rfl, by decide +kernel, by decide +kernel⟩
theorem n__law_thread_found : NmF (defScope s__law_thread) ["pot", "many", "found", "lap"] 2 "found" := ⟨rfl, (.inl (by kernel_rfl)), by decide, by decide⟩
theorem n__law_thread_many : NmF (defScope s__law_thread) ["pot", "many", "found", "lap"] 1 "many" := ⟨rfl, (.inl (by kernel_rfl)), by decide, by decide⟩
theorem g__law_thread__law_of : (defScope s__law_thread).names.lookup (("_law_of" : Str)) = some .globalImplicit := by kernel_rfl
theorem g__law_thread__law_strand : (defScope s__law_thread).names.lookup (("_law_strand" : Str)) = some .globalImplicit := by kernel_rfl
theorem g__law_thread__law_take : (defScope s__law_thread).names.lookup (("_law_take" : Str)) = some .globalImplicit := by kernel_rfl
theorem g__law_thread_int : (defScope s__law_thread).names.lookup (("int" : Str)) = some .globalImplicit := by kernel_rfl
theorem g__law_thread_range : (defScope s__law_thread).names.lookup (("range" : Str)) = some .globalImplicit := by kernel_rfl
theorem g__law_thread_tuple : (defScope s__law_thread).names.lookup (("tuple" : Str)) = some .globalImplicit := by kernel_rfl
theorem w__law_thread (c : Fx K mg) : DOk PR w K mg base 3 "_law_thread" ["pot", "many"] (spP m__law_thread) := by
  refine ok_pot (N := ["pot", "many", "found", "lap"]) (k := 2) c.f__law_thread sc__law_thread (fun _ _ _ _ _ _ us hl => match us, hl with | [_, _], _ => rfl) ?_ ?_
  · intro ds s r s' h
    match ds, h with
    | [_], _ => rfl
  · intro ds p hl
    match ds, hl with
    | [d1194], _ =>
      intro cdv A outer s F E hr
      show JS _ _ _ _ (b__law_thread d1194) _
      unfold b__law_thread
      exact (js_nf [.pot, .val d1194, .unk, .unk] rfl (js_asg (i := 2) sc__law_thread.nd rfl (.inl rfl) (jn_lst ja_nil) fun d1195 => (js_nf [.pot, .val d1194, .own d1195, .unk] rfl (js_for (r := (fun d => d)) (emb := (fun a : (List D) => [.pot, .val d1194, .own a, .unk])) (a0 := d1195) PassesOwn.never rfl (ji_range1 g__law_thread_range c.n_range (ja_cons (je_bin od_add je_int (je_callPO (i := 0) (w__law_take c) hr (by decide) g__law_thread__law_take rfl (.inl rfl) rfl (ja_cons (je_nm n__law_thread_many rfl) fun x1196 => ja_nil))) fun x1199 => ja_nil)) (pgd_n 3 sc__law_thread.nd rfl (.inl rfl)) (.e (.e (.e (.u .nil)))) (fun a1200 => ji_n fun d1201 => (js_nf [.pot, .val d1194, .own a1200, .val d1201] rfl (js_append (i := 2) rfl (.inl rfl) rfl (je_tup (ja_cons (je_callTy cd_int g__law_thread_int c.n_int (by decide +kernel) (jav_cons (JE.v (je_callPO (i := 0) (w__law_take c) hr (by decide) g__law_thread__law_take rfl (.inl rfl) rfl (ja_cons je_int fun x1202 => ja_nil))) fun x1203 => jav_nil)) fun x1204 => (ja_cons (je_callPO (i := 0) (w__law_strand c) hr (by decide) g__law_thread__law_strand rfl (.inl rfl) rfl (ja_cons je_int fun x1205 => (ja_cons (je_callPO (i := 0) (w__law_of c) hr (by decide) g__law_thread__law_of rfl (.inl rfl) rfl (ja_cons (je_lst (ja_cons je_int fun x1206 => (ja_cons je_int fun x1207 => ja_nil))) fun x1208 => ja_nil)) fun x1209 => ja_nil))) fun x1210 => ja_nil))) fun ys1212 => (js_end rfl (.e (.e (.e (.u .nil)))))))) (fun a1214 => (js_nf [.pot, .val d1194, .own a1214, .unk] rfl (js_ret0 (je_callTy cd_tuple g__law_thread_tuple c.n_tuple (by decide +kernel) (jav_cons (jv_nm n__law_thread_found rfl) fun x1215 => jav_nil))))) fun _ => rfl))))
abbrev s__law_by_yard : Stmt := topS 82
theorem sc__law_by_yard : FnScope ["thread", "first", "at", "one"] ["thread"] (defScope s__law_by_yard) := ⟨rfl, rfl, rfl, by decide +kernel, rfl, by decide +kernel, by decide +kernel⟩
theorem n__law_by_yard_thread : NmF (defScope s__law_by_yard) ["thread", "first", "at", "one"] 0 "thread" := ⟨rfl, (.inl (by kernel_rfl)), by decide, by decide⟩
theorem g__law_by_yard_dict : (defScope s__law_by_yard).names.lookup (("dict" : Str)) = some .globalImplicit := by kernel_rfl
theorem g__law_by_yard_enumerate : (defScope s__law_by_yard).names.lookup (("enumerate" : Str)) = some .globalImplicit := by kernel_rfl
theorem g__law_by_yard_span : (defScope s__law_by_yard).names.lookup (("span" : Str)) = some .globalImplicit := by kernel_rfl
theorem g__law_by_yard_strengths : (defScope s__law_by_yard).names.lookup (("strengths" : Str)) = some .globalImplicit := by kernel_rfl
theorem w__law_by_yard (c : Fx K mg) : DOk PR w K mg base 7 "_law_by_yard" ["thread"] (spF m__law_by_yard) := by
  refine ok_pure (N := ["thread", "first", "at", "one"]) (k := 6) c.f__law_by_yard sc__law_by_yard (fun _ _ _ _ _ _ us hl => match us, hl with | [_], _ => rfl) (mb := fun ds => match ds with | [d1217] => b__law_by_yard d1217 | _ => fail) ?_ ?_
  · intro ds r h
    match ds, h with
    | [_], h => exact ⟨rfl, h⟩
  · intro ds hl
    match ds, hl with
    | [d1217], _ =>
      intro cdv A outer s F E hr
      show JS _ _ _ _ (b__law_by_yard d1217) _
      unfold b__law_by_yard
      exact (js_nf [.val d1217, .unk, .unk, .unk] rfl (js_asg (i := 1) sc__law_by_yard.nd rfl (.inr rfl) (JE.x (je_ix (JE.v (je_callO (w_span c) hr (by decide) g__law_by_yard_span (ja_cons (je_nm n__law_by_yard_thread rfl) fun x1219 => ja_nil))) je_int)) fun d1221 => (js_nf [.val d1217, .val d1221, .unk, .unk] rfl (js_ret0 (je_callTy (cd_dict rfl) g__law_by_yard_dict c.n_dict (by decide +kernel) (jav_cons (JE.v (je_lc rfl sc__law_by_yard.nd (ji_enumT g__law_by_yard_enumerate c.n_enumerate (ja_cons (je_callO (w_strengths c) hr (by decide) g__law_by_yard_strengths (ja_cons (je_nm n__law_by_yard_thread rfl) fun x1222 => ja_nil)) fun x1223 => ja_nil)) (blk (own := [("at", 2), ("one", 3)]) (by kernel_rfl)) (fun _ _ _ _ _ => (pgd_2 rfl (pgd_n 2 sc__law_by_yard.nd rfl (.inl rfl)) (pgd_n 3 sc__law_by_yard.nd rfl (.inl rfl)))) (ji_2 fun d1224 d1225 => .plain (fun _ _ _ _ _ => je_nf [.val d1217, .val d1221, .val d1224, .val d1225] rfl (je_tup (ja_cons (je_bin od_add (je_name 1 rfl (.inr (.inl rfl)) rfl) (je_name 2 rfl (.inl rfl) rfl)) fun x1228 => (ja_cons (je_name 3 rfl (.inl rfl) rfl) fun x1229 => ja_nil))))))) fun x1234 => jav_nil))))))
abbrev s__law_is_band_right : Stmt := topS 84
theorem sc__law_is_band_right : FnScope ["thread", "row", "first", "band", "is_in", "best", "at", "yard", "found", "number", "begin", "strand", "left", "one", "its"] ["thread", "row", "first", "band"] (defScope s__law_is_band_right) := ⟨rfl, rfl, rfl, by decide +kernel, rfl, by decide +kernel, by decide +kernel⟩
theorem n__law_is_band_right_at : NmF (defScope s__law_is_band_right) ["thread", "row", "first", "band", "is_in", "best", "at", "yard", "found", "number", "begin", "strand", "left", "one", "its"] 6 "at" := ⟨rfl, (.inl (by kernel_rfl)), by decide, by decide⟩
theorem n__law_is_band_right_band : NmF (defScope s__law_is_band_right) ["thread", "row", "first", "band", "is_in", "best", "at", "yard", "found", "number", "begin", "strand", "left", "one", "its"] 3 "band" := ⟨rfl, (.inr (.inl (by kernel_rfl))), by decide, by decide⟩
theorem n__law_is_band_right_begin : NmF (defScope s__law_is_band_right) ["thread", "row", "first", "band", "is_in", "best", "at", "yard", "found", "number", "begin", "strand", "left", "one", "its"] 10 "begin" := ⟨rfl, (.inl (by kernel_rfl)), by decide, by decide⟩
theorem n__law_is_band_right_best : NmF (defScope s__law_is_band_right) ["thread", "row", "first", "band", "is_in", "best", "at", "yard", "found", "number", "begin", "strand", "left", "one", "its"] 5 "best" := ⟨rfl, (.inl (by kernel_rfl)), by decide, by decide⟩
theorem n__law_is_band_right_first : NmF (defScope s__law_is_band_right) ["thread", "row", "first", "band", "is_in", "best", "at", "yard", "found", "number", "begin", "strand", "left", "one", "its"] 2 "first" := ⟨rfl, (.inr (.inl (by kernel_rfl))), by decide, by decide⟩
theorem n__law_is_band_right_found : NmF (defScope s__law_is_band_right) ["thread", "row", "first", "band", "is_in", "best", "at", "yard", "found", "number", "begin", "strand", "left", "one", "its"] 8 "found" := ⟨rfl, (.inl (by kernel_rfl)), by decide, by decide⟩
theorem n__law_is_band_right_is_in : NmF (defScope s__law_is_band_right) ["thread", "row", "first", "band", "is_in", "best", "at", "yard", "found", "number", "begin", "strand", "left", "one", "its"] 4 "is_in" := ⟨rfl, (.inl (by kernel_rfl)), by decide, by decide⟩
theorem n__law_is_band_right_left : NmF (defScope s__law_is_band_right) ["thread", "row", "first", "band", "is_in", "best", "at", "yard", "found", "number", "begin", "strand", "left", "one", "its"] 12 "left" := ⟨rfl, (.inl (by kernel_rfl)), by decide, by decide⟩
theorem n__law_is_band_right_number : NmF (defScope s__law_is_band_right) ["thread", "row", "first", "band", "is_in", "best", "at", "yard", "found", "number", "begin", "strand", "left", "one", "its"] 9 "number" := ⟨rfl, (.inl (by kernel_rfl)), by decide, by decide⟩
theorem n__law_is_band_right_one : NmF (defScope s__law_is_band_right) ["thread", "row", "first", "band", "is_in", "best", "at", "yard", "found", "number", "begin", "strand", "left", "one", "its"] 13 "one" := ⟨rfl, (.inl (by kernel_rfl)), by decide, by decide⟩
theorem n__law_is_band_right_row : NmF (defScope s__law_is_band_right) ["thread", "row", "first", "band", "is_in", "best", "at", "yard", "found", "number", "begin", "strand", "left", "one", "its"] 1 "row" := ⟨rfl, (.inl (by kernel_rfl)), by decide, by decide⟩
theorem n__law_is_band_right_strand : NmF (defScope s__law_is_band_right) ["thread", "row", "first", "band", "is_in", "best", "at", "yard", "found", "number", "begin", "strand", "left", "one", "its"] 11 "strand" := ⟨rfl, (.inl (by kernel_rfl)), by decide, by decide⟩
theorem n__law_is_band_right_thread : NmF (defScope s__law_is_band_right) ["thread", "row", "first", "band", "is_in", "best", "at", "yard", "found", "number", "begin", "strand", "left", "one", "its"] 0 "thread" := ⟨rfl, (.inl (by kernel_rfl)), by decide, by decide⟩
theorem n__law_is_band_right_yard : NmF (defScope s__law_is_band_right) ["thread", "row", "first", "band", "is_in", "best", "at", "yard", "found", "number", "begin", "strand", "left", "one", "its"] 7 "yard" := ⟨rfl, (.inl (by kernel_rfl)), by decide, by decide⟩
theorem g__law_is_band_right_all : (defScope s__law_is_band_right).names.lookup (("all" : Str)) = some .globalImplicit := by kernel_rfl
theorem g__law_is_band_right_enumerate : (defScope s__law_is_band_right).names.lookup (("enumerate" : Str)) = some .globalImplicit := by kernel_rfl
theorem g__law_is_band_right_even_part : (defScope s__law_is_band_right).names.lookup (("even_part" : Str)) = some .globalImplicit := by kernel_rfl
theorem g__law_is_band_right_is_even : (defScope s__law_is_band_right).names.lookup (("is_even" : Str)) = some .globalImplicit := by kernel_rfl
theorem g__law_is_band_right_joins : (defScope s__law_is_band_right).names.lookup (("joins" : Str)) = some .globalImplicit := by kernel_rfl
theorem g__law_is_band_right_least_band : (defScope s__law_is_band_right).names.lookup (("least_band" : Str)) = some .globalImplicit := by kernel_rfl
theorem g__law_is_band_right_len : (defScope s__law_is_band_right).names.lookup (("len" : Str)) = some .globalImplicit := by kernel_rfl
theorem g__law_is_band_right_max : (defScope s__law_is_band_right).names.lookup (("max" : Str)) = some .globalImplicit := by kernel_rfl
theorem g__law_is_band_right_min : (defScope s__law_is_band_right).names.lookup (("min" : Str)) = some .globalImplicit := by kernel_rfl
theorem g__law_is_band_right_needless : (defScope s__law_is_band_right).names.lookup (("needless" : Str)) = some .globalImplicit := by kernel_rfl
theorem g__law_is_band_right_range : (defScope s__law_is_band_right).names.lookup (("range" : Str)) = some .globalImplicit := by kernel_rfl
theorem g__law_is_band_right_sorted : (defScope s__law_is_band_right).names.lookup (("sorted" : Str)) = some .globalImplicit := by kernel_rfl
theorem g__law_is_band_right_spread : (defScope s__law_is_band_right).names.lookup (("spread" : Str)) = some .globalImplicit := by kernel_rfl
theorem g__law_is_band_right_tuple : (defScope s__law_is_band_right).names.lookup (("tuple" : Str)) = some .globalImplicit := by kernel_rfl
theorem g__law_is_band_right_uneven : (defScope s__law_is_band_right).names.lookup (("uneven" : Str)) = some .globalImplicit := by kernel_rfl
theorem g__law_is_band_right_weakest_yard : (defScope s__law_is_band_right).names.lookup (("weakest_yard" : Str)) = some .globalImplicit := by kernel_rfl
theorem w__law_is_band_right (c : Fx K mg) : DOk PR w K mg base 9 "_law_is_band_right" ["thread", "row", "first", "band"] (spF m__law_is_band_right) := by
  refine ok_pure (N := ["thread", "row", "first", "band", "is_in", "best", "at", "yard", "found", "number", "begin", "strand", "left", "one", "its"]) (k := 8) c.f__law_is_band_right sc__law_is_band_right (fun _ _ _ _ _ _ us hl => match us, hl with | [_, _, _, _], _ => rfl) (mb := fun ds => match ds with | [d1235, d1236, d1237, d1238] => b__law_is_band_right d1235 d1236 d1237 d1238 | _ => fail) ?_ ?_
  · intro ds r h
    match ds, h with
    | [_, _, _, _], h => exact ⟨rfl, h⟩
  · intro ds hl
    match ds, hl with
    | [d1235, d1236, d1237, d1238], _ =>
      intro cdv A outer s F E hr
      show JS _ _ _ _ (b__law_is_band_right d1235 d1236 d1237 d1238) _
      unfold b__law_is_band_right
      exact (js_nf [.val d1235, .val d1236, .val d1237, .val d1238, .unk, .unk, .unk, .unk, .unk, .unk, .unk, .unk, .unk, .unk, .unk] rfl (js_asgLc (i := 4) rfl sc__law_is_band_right.nd rfl rfl (ji_seq (je_nm n__law_is_band_right_row rfl)) (blk (own := [("one", 13)]) (by kernel_rfl)) (fun _ _ _ _ _ => (pgd_n 13 sc__law_is_band_right.nd rfl (.inl rfl))) (ji_n fun d1240 => .plain (fun _ _ _ _ _ => je_nf [.val d1235, .val d1236, .val d1237, .val d1238, .unk, .unk, .unk, .unk, .unk, .unk, .unk, .unk, .unk, .val d1240, .unk] rfl (je_chain ob_le ob_le (JE.v (je_ix (JE.v (je_name 3 rfl (.inr (.inl rfl)) rfl)) je_int)) (JE.v (je_name 13 rfl (.inl rfl) rfl)) (JE.v (je_ix (JE.v (je_name 3 rfl (.inr (.inl rfl)) rfl)) je_int))))) fun d1254 => (js_nf [.val d1235, .val d1236, .val d1237, .val d1238, .val d1254, .unk, .unk, .unk, .unk, .unk, .unk, .unk, .unk, .unk, .unk] rfl (js_ifret (jt_cmp (ob_ne hr.units) (JE.v (je_callO (w_uneven c) hr (by decide) g__law_is_band_right_uneven (ja_cons (je_nm n__law_is_band_right_thread rfl) fun x1255 => (ja_cons (je_nm n__law_is_band_right_band rfl) fun x1256 => ja_nil)))) (JE.v (je_callTy cd_tuple g__law_is_band_right_tuple c.n_tuple (by decide +kernel) (jav_cons (JE.v (je_lc rfl sc__law_is_band_right.nd (ji_enum g__law_is_band_right_enumerate c.n_enumerate (ja_cons (je_nm n__law_is_band_right_is_in rfl) fun x1257 => ja_nil)) (blk (own := [("at", 6), ("its", 14)]) (by kernel_rfl)) (fun _ _ _ _ _ => (pgd_2 rfl (pgd_n 6 sc__law_is_band_right.nd rfl (.inl rfl)) (pgd_n 14 sc__law_is_band_right.nd rfl (.inl rfl)))) (ji_2 fun d1258 d1259 => .cond (fun _ _ _ _ _ => jt_nf [.val d1235, .val d1236, .val d1237, .val d1238, .val d1254, .unk, .val d1258, .unk, .unk, .unk, .unk, .unk, .unk, .unk, .val d1259] rfl (jt_not (jt_val (je_name 14 rfl (.inl rfl) rfl)))) (fun _ _ _ _ _ => je_nf [.val d1235, .val d1236, .val d1237, .val d1238, .val d1254, .unk, .val d1258, .unk, .unk, .unk, .unk, .unk, .unk, .unk, .val d1259] rfl (je_bin od_add (je_name 2 rfl (.inr (.inl rfl)) rfl) (je_name 6 rfl (.inl rfl) rfl)))))) fun x1269 => jav_nil))) (by rfl)) (js_nf [.val d1235, .val d1236, .val d1237, .val d1238, .val d1254, .unk, .unk, .unk, .unk, .unk, .unk, .unk, .unk, .unk, .unk] rfl (js_ret0 je_bl)) (js_nf [.val d1235, .val d1236, .val d1237, .val d1238, .val d1254, .unk, .unk, .unk, .unk, .unk, .unk, .unk, .unk, .unk, .unk] rfl (js_ifret (JW.t (jw_or (jt_cmp (ob_ne hr.units) (JE.v (je_callO (w_is_even c) hr (by decide) g__law_is_band_right_is_even (ja_cons (je_nm n__law_is_band_right_thread rfl) fun x1274 => (ja_cons (je_nm n__law_is_band_right_band rfl) fun x1275 => ja_nil)))) (JE.v (je_callB (cd_all rfl) g__law_is_band_right_all c.n_all (by decide +kernel) (jav_cons (JE.v (je_nm n__law_is_band_right_is_in rfl)) fun x1276 => jav_nil))) (by rfl)) (jw_or1 (jt_cmp (ob_ne hr.units) (JE.v (je_callO (w_weakest_yard c) hr (by decide) g__law_is_band_right_weakest_yard (ja_cons (je_nm n__law_is_band_right_thread rfl) fun x1280 => ja_nil))) (JE.v (je_tup (ja_cons (je_callB (cd_min rfl hr.units) g__law_is_band_right_min c.n_min (by decide +kernel) (jav_cons (JE.v (je_nm n__law_is_band_right_row rfl)) fun x1281 => jav_nil)) fun x1282 => (ja_cons (je_bin od_add (je_nm n__law_is_band_right_first rfl) (je_indexT (je_nm n__law_is_band_right_row rfl) (je_callB (cd_min rfl hr.units) g__law_is_band_right_min c.n_min (by decide +kernel) (jav_cons (JE.v (je_nm n__law_is_band_right_row rfl)) fun x1283 => jav_nil)))) fun x1288 => ja_nil)))) (by rfl))))) (js_nf [.val d1235, .val d1236, .val d1237, .val d1238, .val d1254, .unk, .unk, .unk, .unk, .unk, .unk, .unk, .unk, .unk, .unk] rfl (js_ret0 je_bl)) (js_nf [.val d1235, .val d1236, .val d1237, .val d1238, .val d1254, .unk, .unk, .unk, .unk, .unk, .unk, .unk, .unk, .unk, .unk] rfl (js_ifret (JW.t (jw_or (jt_cmp (ob_ne hr.units) (JE.v (je_callO (w_least_band c) hr (by decide) g__law_is_band_right_least_band (ja_cons (je_nm n__law_is_band_right_thread rfl) fun x1294 => ja_nil))) (JE.v (je_tup (ja_cons (je_callB (cd_min rfl hr.units) g__law_is_band_right_min c.n_min (by decide +kernel) (jav_cons (JE.v (je_nm n__law_is_band_right_row rfl)) fun x1295 => jav_nil)) fun x1296 => (ja_cons (je_callB (cd_max rfl hr.units) g__law_is_band_right_max c.n_max (by decide +kernel) (jav_cons (JE.v (je_nm n__law_is_band_right_row rfl)) fun x1297 => jav_nil)) fun x1298 => ja_nil)))) (by rfl)) (jw_or1 (jt_cmp (ob_ne hr.units) (JE.v (je_callO (w_spread c) hr (by decide) g__law_is_band_right_spread (ja_cons (je_nm n__law_is_band_right_thread rfl) fun x1302 => ja_nil))) (JE.v (je_bin od_sub (je_callB (cd_max rfl hr.units) g__law_is_band_right_max c.n_max (by decide +kernel) (jav_cons (JE.v (je_nm n__law_is_band_right_row rfl)) fun x1303 => jav_nil)) (je_callB (cd_min rfl hr.units) g__law_is_band_right_min c.n_min (by decide +kernel) (jav_cons (JE.v (je_nm n__law_is_band_right_row rfl)) fun x1304 => jav_nil)))) (by rfl))))) (js_nf [.val d1235, .val d1236, .val d1237, .val d1238, .val d1254, .unk, .unk, .unk, .unk, .unk, .unk, .unk, .unk, .unk, .unk] rfl (js_ret0 je_bl)) (js_nf [.val d1235, .val d1236, .val d1237, .val d1238, .val d1254, .unk, .unk, .unk, .unk, .unk, .unk, .unk, .unk, .unk, .unk] rfl (js_ifret (jt_cmp (ob_ne hr.units) (JE.v (je_callO (w_joins c) hr (by decide) g__law_is_band_right_joins (ja_cons (je_nm n__law_is_band_right_thread rfl) fun x1312 => ja_nil))) (JE.v (je_callTy cd_tuple g__law_is_band_right_tuple c.n_tuple (by decide +kernel) (jav_cons (JE.v (je_callB cd_sorted g__law_is_band_right_sorted c.n_sorted (by decide +kernel) (jav_cons (JE.v (je_lc rfl sc__law_is_band_right.nd (ji_seq (je_nm n__law_is_band_right_thread rfl)) (blk (own := [("begin", 10), ("strand", 11)]) (by kernel_rfl)) (fun _ _ _ _ _ => (pgd_2 rfl (pgd_n 10 sc__law_is_band_right.nd rfl (.inl rfl)) (pgd_n 11 sc__law_is_band_right.nd rfl (.inl rfl)))) (ji_2 fun d1314 d1315 => .cond (fun _ _ _ _ _ => jt_nf [.val d1235, .val d1236, .val d1237, .val d1238, .val d1254, .unk, .unk, .unk, .unk, .unk, .val d1314, .val d1315, .unk, .unk, .unk] rfl (jt_cmp (ob_ne hr.units) (JE.v (je_name 10 rfl (.inl rfl) rfl)) (JE.v (je_name 2 rfl (.inr (.inl rfl)) rfl)) (by rfl))) (fun _ _ _ _ _ => je_nf [.val d1235, .val d1236, .val d1237, .val d1238, .val d1254, .unk, .unk, .unk, .unk, .unk, .val d1314, .val d1315, .unk, .unk, .unk] rfl (je_name 10 rfl (.inl rfl) rfl))))) fun x1324 => jav_nil))) fun x1325 => jav_nil))) (by rfl)) (js_nf [.val d1235, .val d1236, .val d1237, .val d1238, .val d1254, .unk, .unk, .unk, .unk, .unk, .unk, .unk, .unk, .unk, .unk] rfl (js_ret0 je_bl)) (js_nf [.val d1235, .val d1236, .val d1237, .val d1238, .val d1254, .unk, .unk, .unk, .unk, .unk, .unk, .unk, .unk, .unk, .unk] rfl (js_unpack (je_tup (ja_cons je_non fun x1330 => (ja_cons je_int fun x1331 => ja_nil))) (pgd_2 rfl (pgd_n 5 sc__law_is_band_right.nd rfl (.inl rfl)) (pgd_n 6 sc__law_is_band_right.nd rfl (.inl rfl))) (ji_2 fun d1332 d1333 => (js_nf [.val d1235, .val d1236, .val d1237, .val d1238, .val d1254, .val d1332, .val d1333, .unk, .unk, .unk, .unk, .unk, .unk, .unk, .unk] rfl (js_for (r := (fun d => d)) (emb := (fun a : D × D => [.val d1235, .val d1236, .val d1237, .val d1238, .val d1254, .val a.2, .val a.1, .unk, .unk, .unk, .unk, .unk, .unk, .unk, .unk])) (a0 := (d1333, d1332)) PassesOwn.never rfl (ji_range1 g__law_is_band_right_range c.n_range (ja_cons (je_callB cd_len g__law_is_band_right_len c.n_len (by decide +kernel) (jav_cons (JE.v (je_nm n__law_is_band_right_row rfl)) fun x1334 => jav_nil)) fun x1335 => ja_nil)) (pgd_n 7 sc__law_is_band_right.nd rfl (.inl rfl)) (.e (.e (.e (.e (.e (.e (.e (.u (.u (.u (.u (.u (.u (.u (.u .nil))))))))))))))) (fun a1336 => ji_n fun d1337 => (js_nf [.val d1235, .val d1236, .val d1237, .val d1238, .val d1254, .val a1336.2, .val a1336.1, .val d1337, .unk, .unk, .unk, .unk, .unk, .unk, .unk] rfl (js_asg (i := 6) sc__law_is_band_right.nd rfl (.inl rfl) (JE.x (je_if (jt_val (je_ix (JE.v (je_nm n__law_is_band_right_is_in rfl)) (je_nm n__law_is_band_right_yard rfl))) (je_nm n__law_is_band_right_at rfl) (je_bin od_add (je_nm n__law_is_band_right_yard rfl) je_int))) fun d1344 => (js_nf [.val d1235, .val d1236, .val d1237, .val d1238, .val d1254, .val a1336.2, .val d1344, .val d1337, .unk, .unk, .unk, .unk, .unk, .unk, .unk] rfl (js_ifjoin (emb := (fun a : D => [.val d1235, .val d1236, .val d1237, .val d1238, .val d1254, .val a, .val d1344, .val d1337, .unk, .unk, .unk, .unk, .unk, .unk, .unk])) (JW.t (jw_and (jt_val (je_ix (JE.v (je_nm n__law_is_band_right_is_in rfl)) (je_nm n__law_is_band_right_yard rfl))) (jw_and1 (JW.t (jw_or (jt_cmp ob_is (JE.v (je_nm n__law_is_band_right_best rfl)) (JE.v je_non) (by rfl)) (jw_or1 (jt_cmp ob_gt (JE.v (je_bin od_sub (je_bin od_add (je_nm n__law_is_band_right_yard rfl) je_int) (je_nm n__law_is_band_right_at rfl))) (JE.v (je_bin od_sub (je_ix (JE.v (je_nm n__law_is_band_right_best rfl)) je_int) (je_ix (JE.v (je_nm n__law_is_band_right_best rfl)) je_int))) (by rfl)))))))) (js_nf [.val d1235, .val d1236, .val d1237, .val d1238, .val d1254, .val a1336.2, .val d1344, .val d1337, .unk, .unk, .unk, .unk, .unk, .unk, .unk] rfl (js_asg (i := 5) sc__law_is_band_right.nd rfl (.inl rfl) (JE.x (je_tup (ja_cons (je_nm n__law_is_band_right_at rfl) fun x1367 => (ja_cons (je_bin od_add (je_nm n__law_is_band_right_yard rfl) je_int) fun x1370 => ja_nil)))) fun d1371 => (js_end rfl (.e (.e (.e (.e (.e (.e (.e (.e (.u (.u (.u (.u (.u (.u (.u .nil)))))))))))))))))) (js_end rfl (.e (.e (.e (.e (.e (.e (.e (.e (.u (.u (.u (.u (.u (.u (.u .nil)))))))))))))))) fun a1372 => (js_end rfl (.e (.e (.e (.e (.e (.e (.e (.u (.u (.u (.u (.u (.u (.u (.u .nil))))))))))))))))))))) (fun a1374 => (js_nf [.val d1235, .val d1236, .val d1237, .val d1238, .val d1254, .val a1374.2, .val a1374.1, .unk, .unk, .unk, .unk, .unk, .unk, .unk, .unk] rfl (js_ifret (jt_cmp (ob_ne hr.units) (JE.v (je_callO (w_even_part c) hr (by decide) g__law_is_band_right_even_part (ja_cons (je_nm n__law_is_band_right_thread rfl) fun x1375 => (ja_cons (je_nm n__law_is_band_right_band rfl) fun x1376 => ja_nil)))) (JE.v (je_if (jt_cmp ob_is (JE.v (je_nm n__law_is_band_right_best rfl)) (JE.v je_non) (by rfl)) je_non (je_tup (ja_cons (je_bin od_add (je_nm n__law_is_band_right_first rfl) (je_ix (JE.v (je_nm n__law_is_band_right_best rfl)) je_int)) fun x1384 => (ja_cons (je_bin od_add (je_nm n__law_is_band_right_first rfl) (je_ix (JE.v (je_nm n__law_is_band_right_best rfl)) je_int)) fun x1389 => ja_nil))))) (by rfl)) (js_nf [.val d1235, .val d1236, .val d1237, .val d1238, .val d1254, .val a1374.2, .val a1374.1, .unk, .unk, .unk, .unk, .unk, .unk, .unk, .unk] rfl (js_ret0 je_bl)) (js_nf [.val d1235, .val d1236, .val d1237, .val d1238, .val d1254, .val a1374.2, .val a1374.1, .unk, .unk, .unk, .unk, .unk, .unk, .unk, .unk] rfl (js_asg (i := 8) sc__law_is_band_right.nd rfl (.inl rfl) (jn_lst ja_nil) fun d1395 => (js_nf [.val d1235, .val d1236, .val d1237, .val d1238, .val d1254, .val a1374.2, .val a1374.1, .unk, .own d1395, .unk, .unk, .unk, .unk, .unk, .unk] rfl (js_forK (r := (fun d => d)) (emb := (fun a : (List D) => [.val d1235, .val d1236, .val d1237, .val d1238, .val d1254, .val a1374.2, .val a1374.1, .unk, .own a, .unk, .unk, .unk, .unk, .unk, .unk])) (a0 := d1395) PassesOwn.never rfl (ji_enumT g__law_is_band_right_enumerate c.n_enumerate (ja_cons (je_nm n__law_is_band_right_thread rfl) fun x1396 => ja_nil)) (pgd_2 rfl (pgd_n 9 sc__law_is_band_right.nd rfl (.inl rfl)) (pgd_2 rfl (pgd_n 10 sc__law_is_band_right.nd rfl (.inl rfl)) (pgd_n 11 sc__law_is_band_right.nd rfl (.inl rfl)))) (.e (.e (.e (.e (.e (.e (.e (.u (.e (.u (.u (.u (.u (.u (.u .nil))))))))))))))) (fun a1397 => ji_12 fun d1398 d1399 d1400 => (js_nf [.val d1235, .val d1236, .val d1237, .val d1238, .val d1254, .val a1374.2, .val a1374.1, .unk, .own a1397, .val d1398, .val d1399, .val d1400, .unk, .unk, .unk] rfl (js_asg (i := 12) sc__law_is_band_right.nd rfl (.inl rfl) (jn_list (JE.v (je_nm n__law_is_band_right_row rfl)) rfl c.n_list) fun d1402 => (js_nf [.val d1235, .val d1236, .val d1237, .val d1238, .val d1254, .val a1374.2, .val a1374.1, .unk, .own a1397, .val d1398, .val d1399, .val d1400, .own d1402, .unk, .unk] rfl (js_forK (r := Fl.rt) (emb := (fun a : (List D) => [.val d1235, .val d1236, .val d1237, .val d1238, .val d1254, .val a1374.2, .val a1374.1, .unk, .own a1397, .val d1398, .val d1399, .val d1400, .own a, .unk, .unk])) (a0 := d1402) PassesOwn.never rfl (ji_enumT g__law_is_band_right_enumerate c.n_enumerate (ja_cons (je_nm n__law_is_band_right_strand rfl) fun x1403 => ja_nil)) (pgd_2 rfl (pgd_n 7 sc__law_is_band_right.nd rfl (.inl rfl)) (pgd_n 13 sc__law_is_band_right.nd rfl (.inl rfl))) (.e (.e (.e (.e (.e (.e (.e (.u (.e (.e (.e (.e (.e (.u (.u .nil))))))))))))))) (fun a1404 => ji_2 fun d1405 d1406 => (js_nf [.val d1235, .val d1236, .val d1237, .val d1238, .val d1254, .val a1374.2, .val a1374.1, .val d1405, .own a1397, .val d1398, .val d1399, .val d1400, .own a1404, .val d1406, .unk] rfl (js_ifK (emb := (fun a : Unit => [.val d1235, .val d1236, .val d1237, .val d1238, .val d1254, .val a1374.2, .val a1374.1, .val d1405, .own a1397, .val d1398, .val d1399, .val d1400, .own a1404, .val d1406, .unk])) (jt_not (jt_chain ob_le ob_lt (JE.v je_int) (JE.v (je_bin od_add (je_bin od_sub (je_nm n__law_is_band_right_begin rfl) (je_nm n__law_is_band_right_first rfl)) (je_nm n__law_is_band_right_yard rfl))) (JE.v (je_callB cd_len g__law_is_band_right_len c.n_len (by decide +kernel) (jav_cons (jv_nm n__law_is_band_right_left rfl) fun x1411 => jav_nil))))) (js_nf [.val d1235, .val d1236, .val d1237, .val d1238, .val d1254, .val a1374.2, .val a1374.1, .val d1405, .own a1397, .val d1398, .val d1399, .val d1400, .own a1404, .val d1406, .unk] rfl (js_ret (r := Fl.rt) je_bl fun _ => rfl)) (js_end rfl (.e (.e (.e (.e (.e (.e (.e (.e (.e (.e (.e (.e (.e (.e (.u .nil)))))))))))))))) (fun a1419 => (js_nf [.val d1235, .val d1236, .val d1237, .val d1238, .val d1254, .val a1374.2, .val a1374.1, .val d1405, .own a1397, .val d1398, .val d1399, .val d1400, .own a1404, .val d1406, .unk] rfl (js_setitem (i := 12) rfl (.inl rfl) rfl (je_bin od_sub (je_ix (jv_nm n__law_is_band_right_left rfl) (je_bin od_add (je_bin od_sub (je_nm n__law_is_band_right_begin rfl) (je_nm n__law_is_band_right_first rfl)) (je_nm n__law_is_band_right_yard rfl))) (je_nm n__law_is_band_right_one rfl)) (je_bin od_add (je_bin od_sub (je_nm n__law_is_band_right_begin rfl) (je_nm n__law_is_band_right_first rfl)) (je_nm n__law_is_band_right_yard rfl)) fun ys1434 => (js_end rfl (.e (.e (.e (.e (.e (.e (.e (.u (.e (.e (.e (.e (.e (.u (.u .nil))))))))))))))))))) fun _ => rfl))) (fun a1436 => (js_nf [.val d1235, .val d1236, .val d1237, .val d1238, .val d1254, .val a1374.2, .val a1374.1, .unk, .own a1397, .val d1398, .val d1399, .val d1400, .own a1436, .unk, .unk] rfl (js_extend (i := 8) rfl (.inl rfl) rfl (je_if (jt_val (je_callB (cd_all rfl) g__law_is_band_right_all c.n_all (by decide +kernel) (jav_cons (JE.v (je_lc rfl sc__law_is_band_right.nd (ji_view (jv_nm n__law_is_band_right_left rfl)) (blk (own := [("one", 13)]) (by kernel_rfl)) (fun _ _ _ _ _ => (pgd_n 13 sc__law_is_band_right.nd rfl (.inl rfl))) (ji_n fun d1438 => .plain (fun _ _ _ _ _ => je_nf [.val d1235, .val d1236, .val d1237, .val d1238, .val d1254, .val a1374.2, .val a1374.1, .unk, .own a1397, .val d1398, .val d1399, .val d1400, .own a1436, .val d1438, .unk] rfl (je_chain ob_le ob_le (JE.v (je_ix (JE.v (je_name 3 rfl (.inr (.inl rfl)) rfl)) je_int)) (JE.v (je_name 13 rfl (.inl rfl) rfl)) (JE.v (je_ix (JE.v (je_name 3 rfl (.inr (.inl rfl)) rfl)) je_int))))))) fun x1452 => jav_nil))) (je_lst (ja_cons (je_nm n__law_is_band_right_number rfl) fun x1454 => ja_nil)) (je_lst ja_nil)) fun ys1457 => (js_end rfl (.e (.e (.e (.e (.e (.e (.e (.u (.e (.u (.u (.u (.u (.u (.u .nil))))))))))))))))))) fun _ => rfl))))) (fun a1461 => (js_nf [.val d1235, .val d1236, .val d1237, .val d1238, .val d1254, .val a1374.2, .val a1374.1, .unk, .own a1461, .unk, .unk, .unk, .unk, .unk, .unk] rfl (js_ret0 (je_cmp (ob_eq hr.units) (JE.v (je_callO (w_needless c) hr (by decide) g__law_is_band_right_needless (ja_cons (je_nm n__law_is_band_right_thread rfl) fun x1462 => (ja_cons (je_nm n__law_is_band_right_band rfl) fun x1463 => ja_nil)))) (JE.v (je_callTy cd_tuple g__law_is_band_right_tuple c.n_tuple (by decide +kernel) (jav_cons (jv_nm n__law_is_band_right_found rfl) fun x1464 => jav_nil))) (by rfl))))) fun _ => rfl)))) fun _ _ => nofun))) fun _ => rfl))))) fun _ _ => nofun)) fun _ _ => nofun)) fun _ _ => nofun)) fun _ _ => nofun))))
abbrev s__law_are_cuts_right : Stmt := topS 85
theorem sc__law_are_cuts_right : FnScope ["pot", "thread", "row", "first", "end", "begin", "stop", "part", "lows", "strand", "yard", "start", "whole"] ["pot", "thread", "row"] (defScope s__law_are_cuts_right) := ⟨rfl, rfl, rfl, by decide +kernel, rfl, by decide +kernel, by decide +kernel⟩
theorem n__law_are_cuts_right_begin : NmF (defScope s__law_are_cuts_right) ["pot", "thread", "row", "first", "end", "begin", "stop", "part", "lows", "strand", "yard", "start", "whole"] 5 "begin" := ⟨rfl, (.inl (by kernel_rfl)), by decide, by decide⟩
theorem n__law_are_cuts_right_end : NmF (defScope s__law_are_cuts_right) ["pot", "thread", "row", "first", "end", "begin", "stop", "part", "lows", "strand", "yard", "start", "whole"] 4 "end" := ⟨rfl, (.inl (by kernel_rfl)), by decide, by decide⟩
theorem n__law_are_cuts_right_first : NmF (defScope s__law_are_cuts_right) ["pot", "thread", "row", "first", "end", "begin", "stop", "part", "lows", "strand", "yard", "start", "whole"] 3 "first" := ⟨rfl, (.inr (.inl (by kernel_rfl))), by decide, by decide⟩
theorem n__law_are_cuts_right_lows : NmF (defScope s__law_are_cuts_right) ["pot", "thread", "row", "first", "end", "begin", "stop", "part", "lows", "strand", "yard", "start", "whole"] 8 "lows" := ⟨rfl, (.inl (by kernel_rfl)), by decide, by decide⟩
theorem n__law_are_cuts_right_part : NmF (defScope s__law_are_cuts_right) ["pot", "thread", "row", "first", "end", "begin", "stop", "part", "lows", "strand", "yard", "start", "whole"] 7 "part" := ⟨rfl, (.inl (by kernel_rfl)), by decide, by decide⟩
theorem n__law_are_cuts_right_row : NmF (defScope s__law_are_cuts_right) ["pot", "thread", "row", "first", "end", "begin", "stop", "part", "lows", "strand", "yard", "start", "whole"] 2 "row" := ⟨rfl, (.inl (by kernel_rfl)), by decide, by decide⟩
theorem n__law_are_cuts_right_stop : NmF (defScope s__law_are_cuts_right) ["pot", "thread", "row", "first", "end", "begin", "stop", "part", "lows", "strand", "yard", "start", "whole"] 6 "stop" := ⟨rfl, (.inl (by kernel_rfl)), by decide, by decide⟩
theorem n__law_are_cuts_right_strand : NmF (defScope s__law_are_cuts_right) ["pot", "thread", "row", "first", "end", "begin", "stop", "part", "lows", "strand", "yard", "start", "whole"] 9 "strand" := ⟨rfl, (.inl (by kernel_rfl)), by decide, by decide⟩
theorem n__law_are_cuts_right_thread : NmF (defScope s__law_are_cuts_right) ["pot", "thread", "row", "first", "end", "begin", "stop", "part", "lows", "strand", "yard", "start", "whole"] 1 "thread" := ⟨rfl, (.inr (.inl (by kernel_rfl))), by decide, by decide⟩
theorem g__law_are_cuts_right__law_take : (defScope s__law_are_cuts_right).names.lookup (("_law_take" : Str)) = some .globalImplicit := by kernel_rfl
theorem g__law_are_cuts_right_any : (defScope s__law_are_cuts_right).names.lookup (("any" : Str)) = some .globalImplicit := by kernel_rfl
theorem g__law_are_cuts_right_beside : (defScope s__law_are_cuts_right).names.lookup (("beside" : Str)) = some .globalImplicit := by kernel_rfl
theorem g__law_are_cuts_right_int : (defScope s__law_are_cuts_right).names.lookup (("int" : Str)) = some .globalImplicit := by kernel_rfl
theorem g__law_are_cuts_right_min : (defScope s__law_are_cuts_right).names.lookup (("min" : Str)) = some .globalImplicit := by kernel_rfl
theorem g__law_are_cuts_right_range : (defScope s__law_are_cuts_right).names.lookup (("range" : Str)) = some .globalImplicit := by kernel_rfl
theorem g__law_are_cuts_right_span : (defScope s__law_are_cuts_right).names.lookup (("span" : Str)) = some .globalImplicit := by kernel_rfl
theorem g__law_are_cuts_right_strengths : (defScope s__law_are_cuts_right).names.lookup (("strengths" : Str)) = some .globalImplicit := by kernel_rfl
theorem g__law_are_cuts_right_trimmed : (defScope s__law_are_cuts_right).names.lookup (("trimmed" : Str)) = some .globalImplicit := by kernel_rfl
theorem g__law_are_cuts_right_weakest : (defScope s__law_are_cuts_right).names.lookup (("weakest" : Str)) = some .globalImplicit := by kernel_rfl
theorem w__law_are_cuts_right (c : Fx K mg) : DOk PR w K mg base 7 "_law_are_cuts_right" ["pot", "thread", "row"] (spP m__law_are_cuts_right) := by
  refine ok_pot (N := ["pot", "thread", "row", "first", "end", "begin", "stop", "part", "lows", "strand", "yard", "start", "whole"]) (k := 6) c.f__law_are_cuts_right sc__law_are_cuts_right (fun _ _ _ _ _ _ us hl => match us, hl with | [_, _, _], _ => rfl) ?_ ?_
  · intro ds s r s' h
    match ds, h with
    | [_, _], _ => rfl
  · intro ds p hl
    match ds, hl with
    | [d1471, d1472], _ =>
      intro cdv A outer s F E hr
      show JS _ _ _ _ (b__law_are_cuts_right d1471 d1472) _
      unfold b__law_are_cuts_right
      exact (js_nf [.pot, .val d1471, .val d1472, .unk, .unk, .unk, .unk, .unk, .unk, .unk, .unk, .unk, .unk] rfl (js_unpack (je_callO (w_span c) hr (by decide) g__law_are_cuts_right_span (ja_cons (je_nm n__law_are_cuts_right_thread rfl) fun x1473 => ja_nil)) (pgd_2 rfl (pgd_n 3 sc__law_are_cuts_right.nd rfl (.inr rfl)) (pgd_n 4 sc__law_are_cuts_right.nd rfl (.inl rfl))) (ji_2 fun d1474 d1475 => (js_nf [.pot, .val d1471, .val d1472, .val d1474, .val d1475, .unk, .unk, .unk, .unk, .unk, .unk, .unk, .unk] rfl (js_asg (i := 5) sc__law_are_cuts_right.nd rfl (.inl rfl) (JE.x (je_bin od_add (je_nm n__law_are_cuts_right_first rfl) (je_callTy cd_int g__law_are_cuts_right_int c.n_int (by decide +kernel) (jav_cons (JE.v (je_callPO (i := 0) (w__law_take c) hr (by decide) g__law_are_cuts_right__law_take rfl (.inl rfl) rfl (ja_cons (je_bin od_sub (je_nm n__law_are_cuts_right_end rfl) (je_nm n__law_are_cuts_right_first rfl)) fun x1478 => ja_nil))) fun x1479 => jav_nil)))) fun d1482 => (js_nf [.pot, .val d1471, .val d1472, .val d1474, .val d1475, .val d1482, .unk, .unk, .unk, .unk, .unk, .unk, .unk] rfl (js_asg (i := 6) sc__law_are_cuts_right.nd rfl (.inl rfl) (JE.x (je_bin od_add (je_bin od_add (je_nm n__law_are_cuts_right_begin rfl) je_int) (je_callTy cd_int g__law_are_cuts_right_int c.n_int (by decide +kernel) (jav_cons (JE.v (je_callPO (i := 0) (w__law_take c) hr (by decide) g__law_are_cuts_right__law_take rfl (.inl rfl) rfl (ja_cons (je_bin od_sub (je_nm n__law_are_cuts_right_end rfl) (je_nm n__law_are_cuts_right_begin rfl)) fun x1487 => ja_nil))) fun x1488 => jav_nil)))) fun d1491 => (js_nf [.pot, .val d1471, .val d1472, .val d1474, .val d1475, .val d1482, .val d1491, .unk, .unk, .unk, .unk, .unk, .unk] rfl (js_asg (i := 7) sc__law_are_cuts_right.nd rfl (.inl rfl) (JE.x (je_callO (w_trimmed c) hr (by decide) g__law_are_cuts_right_trimmed (ja_cons (je_nm n__law_are_cuts_right_thread rfl) fun x1492 => (ja_cons (je_nm n__law_are_cuts_right_begin rfl) fun x1493 => (ja_cons (je_nm n__law_are_cuts_right_stop rfl) fun x1494 => ja_nil))))) fun d1495 => (js_nf [.pot, .val d1471, .val d1472, .val d1474, .val d1475, .val d1482, .val d1491, .val d1495, .unk, .unk, .unk, .unk, .unk] rfl (js_ifret (jt_cmp ob_is (JE.v (je_nm n__law_are_cuts_right_part rfl)) (JE.v je_non) (by rfl)) (js_nf [.pot, .val d1471, .val d1472, .val d1474, .val d1475, .val d1482, .val d1491, .val d1495, .unk, .unk, .unk, .unk, .unk] rfl (js_ret0 (je_not (je_callB (cd_any rfl) g__law_are_cuts_right_any c.n_any (by decide +kernel) (jav_cons (JE.v (je_slice (JE.v (je_callO (w_beside c) hr (by decide) g__law_are_cuts_right_beside (ja_cons (je_nm n__law_are_cuts_right_thread rfl) fun x1510 => ja_nil))) (jo_some (je_bin od_sub (je_nm n__law_are_cuts_right_begin rfl) (je_nm n__law_are_cuts_right_first rfl))) (jo_some (je_bin od_sub (je_nm n__law_are_cuts_right_stop rfl) (je_nm n__law_are_cuts_right_first rfl))))) fun x1512 => jav_nil))))) (js_nf [.pot, .val d1471, .val d1472, .val d1474, .val d1475, .val d1482, .val d1491, .val d1495, .unk, .unk, .unk, .unk, .unk] rfl (js_asgLc (i := 8) rfl sc__law_are_cuts_right.nd rfl rfl (ji_range2 g__law_are_cuts_right_range c.n_range (ja_cons (je_nm n__law_are_cuts_right_begin rfl) fun x1515 => (ja_cons (je_nm n__law_are_cuts_right_stop rfl) fun x1516 => ja_nil))) (blk (own := [("yard", 10)]) (by kernel_rfl)) (fun _ _ _ _ _ => (pgd_n 10 sc__law_are_cuts_right.nd rfl (.inl rfl))) (ji_n fun d1517 => .cond (fun _ _ _ _ _ => jt_nf [.pot, .val d1471, .val d1472, .val d1474, .val d1475, .val d1482, .val d1491, .val d1495, .unk, .unk, .val d1517, .unk, .unk] rfl (jt_cmp ob_gt (JE.v (je_ix (JE.v (je_callO (w_beside c) hr (by decide) rfl (ja_cons (je_name 1 rfl (.inr (.inl rfl)) rfl) fun x1522 => ja_nil))) (je_bin od_sub (je_name 10 rfl (.inl rfl) rfl) (je_name 3 rfl (.inr (.inl rfl)) rfl)))) (JE.v je_int) (by rfl))) (fun _ _ _ _ _ => je_nf [.pot, .val d1471, .val d1472, .val d1474, .val d1475, .val d1482, .val d1491, .val d1495, .unk, .unk, .val d1517, .unk, .unk] rfl (je_name 10 rfl (.inl rfl) rfl))) fun d1531 => (js_nf [.pot, .val d1471, .val d1472, .val d1474, .val d1475, .val d1482, .val d1491, .val d1495, .val d1531, .unk, .unk, .unk, .unk] rfl (js_ifret (JW.t (jw_or (jt_cmp (ob_ne hr.units) (JE.v (je_callO (w_span c) hr (by decide) g__law_are_cuts_right_span (ja_cons (je_nm n__law_are_cuts_right_part rfl) fun x1532 => ja_nil))) (JE.v (je_tup (ja_cons (je_ix (JE.v (je_nm n__law_are_cuts_right_lows rfl)) je_int) fun x1535 => (ja_cons (je_bin od_add (je_ix (JE.v (je_nm n__law_are_cuts_right_lows rfl)) (je_neg je_int)) je_int) fun x1541 => ja_nil)))) (by rfl)) (jw_or1 (jt_cmp (ob_ne hr.units) (JE.v (je_callO (w_strengths c) hr (by decide) g__law_are_cuts_right_strengths (ja_cons (je_nm n__law_are_cuts_right_part rfl) fun x1545 => ja_nil))) (JE.v (je_slice (JE.v (je_nm n__law_are_cuts_right_row rfl)) (jo_some (je_bin od_sub (je_ix (JE.v (je_nm n__law_are_cuts_right_lows rfl)) je_int) (je_nm n__law_are_cuts_right_first rfl))) (jo_some (je_bin od_sub (je_bin od_add (je_ix (JE.v (je_nm n__law_are_cuts_right_lows rfl)) (je_neg je_int)) je_int) (je_nm n__law_are_cuts_right_first rfl))))) (by rfl))))) (js_nf [.pot, .val d1471, .val d1472, .val d1474, .val d1475, .val d1482, .val d1491, .val d1495, .val d1531, .unk, .unk, .unk, .unk] rfl (js_ret0 je_bl)) (js_nf [.pot, .val d1471, .val d1472, .val d1474, .val d1475, .val d1482, .val d1491, .val d1495, .val d1531, .unk, .unk, .unk, .unk] rfl (js_ifret (jt_cmp (ob_ne hr.units) (JE.v (je_callO (w_trimmed c) hr (by decide) g__law_are_cuts_right_trimmed (ja_cons (je_nm n__law_are_cuts_right_part rfl) fun x1569 => (ja_cons (je_nm n__law_are_cuts_right_begin rfl) fun x1570 => (ja_cons (je_nm n__law_are_cuts_right_stop rfl) fun x1571 => ja_nil))))) (JE.v (je_nm n__law_are_cuts_right_part rfl)) (by rfl)) (js_nf [.pot, .val d1471, .val d1472, .val d1474, .val d1475, .val d1482, .val d1491, .val d1495, .val d1531, .unk, .unk, .unk, .unk] rfl (js_ret0 je_bl)) (js_nf [.pot, .val d1471, .val d1472, .val d1474, .val d1475, .val d1482, .val d1491, .val d1495, .val d1531, .unk, .unk, .unk, .unk] rfl (js_forK (r := (fun d => d)) (emb := (fun a : Unit => [.pot, .val d1471, .val d1472, .val d1474, .val d1475, .val d1482, .val d1491, .val d1495, .val d1531, .unk, .unk, .unk, .unk])) (a0 := ()) PassesOwn.never rfl (ji_seq (je_lc rfl sc__law_are_cuts_right.nd (ji_seq (je_nm n__law_are_cuts_right_part rfl)) (blk (own := [("start", 11), ("strand", 9)]) (by kernel_rfl)) (fun _ _ _ _ _ => (pgd_2 rfl (pgd_n 11 sc__law_are_cuts_right.nd rfl (.inl rfl)) (pgd_n 9 sc__law_are_cuts_right.nd rfl (.inl rfl)))) (ji_2 fun d1577 d1578 => .plain (fun _ _ _ _ _ => je_nf [.pot, .val d1471, .val d1472, .val d1474, .val d1475, .val d1482, .val d1491, .val d1495, .val d1531, .val d1578, .unk, .val d1577, .unk] rfl (je_name 9 rfl (.inl rfl) rfl))))) (pgd_n 9 sc__law_are_cuts_right.nd rfl (.inl rfl)) (.e (.e (.e (.e (.e (.e (.e (.e (.e (.u (.u (.u (.u .nil))))))))))))) (fun a1584 => ji_n fun d1585 => (js_nf [.pot, .val d1471, .val d1472, .val d1474, .val d1475, .val d1482, .val d1491, .val d1495, .val d1531, .val d1585, .unk, .unk, .unk] rfl (js_ifK (emb := (fun a : Unit => [.pot, .val d1471, .val d1472, .val d1474, .val d1475, .val d1482, .val d1491, .val d1495, .val d1531, .val d1585, .unk, .unk, .unk])) (jt_cmp ob_lt (JE.v (je_ix (JE.v (je_callO (w_weakest c) hr (by decide) g__law_are_cuts_right_weakest (ja_cons (je_nm n__law_are_cuts_right_strand rfl) fun x1587 => ja_nil))) je_int)) (JE.v (je_callB (cd_min rfl hr.units) g__law_are_cuts_right_min c.n_min (by decide +kernel) (jav_cons (JE.v (je_lc rfl sc__law_are_cuts_right.nd (ji_seq (je_nm n__law_are_cuts_right_thread rfl)) (blk (own := [("start", 11), ("whole", 12)]) (by kernel_rfl)) (fun _ _ _ _ _ => (pgd_2 rfl (pgd_n 11 sc__law_are_cuts_right.nd rfl (.inl rfl)) (pgd_n 12 sc__law_are_cuts_right.nd rfl (.inl rfl)))) (ji_2 fun d1590 d1591 => .plain (fun _ _ _ _ _ => je_nf [.pot, .val d1471, .val d1472, .val d1474, .val d1475, .val d1482, .val d1491, .val d1495, .val d1531, .val d1585, .unk, .val d1590, .val d1591] rfl (je_ix (JE.v (je_callO (w_weakest c) hr (by decide) rfl (ja_cons (je_name 12 rfl (.inl rfl) rfl) fun x1593 => ja_nil))) je_int))))) fun x1599 => jav_nil))) (by rfl)) (js_nf [.pot, .val d1471, .val d1472, .val d1474, .val d1475, .val d1482, .val d1491, .val d1495, .val d1531, .val d1585, .unk, .unk, .unk] rfl (js_ret (r := Fl.rt) je_bl fun _ => rfl)) (js_end rfl (.e (.e (.e (.e (.e (.e (.e (.e (.e (.e (.u (.u (.u .nil)))))))))))))) (fun a1605 => (js_end rfl (.e (.e (.e (.e (.e (.e (.e (.e (.e (.u (.u (.u (.u .nil))))))))))))))) fun _ => rfl))) (fun a1607 => (js_nf [.pot, .val d1471, .val d1472, .val d1474, .val d1475, .val d1482, .val d1491, .val d1495, .val d1531, .unk, .unk, .unk, .unk] rfl (js_ret0 (je_cmp ob_is (JE.v (je_callO (w_trimmed c) hr (by decide) g__law_are_cuts_right_trimmed (ja_cons (je_nm n__law_are_cuts_right_thread rfl) fun x1608 => (ja_cons (je_nm n__law_are_cuts_right_end rfl) fun x1609 => (ja_cons (je_bin od_add (je_nm n__law_are_cuts_right_end rfl) je_int) fun x1612 => ja_nil))))) (JE.v je_non) (by rfl))))) fun _ => rfl)) fun _ _ => nofun)) fun _ _ => nofun)))) fun _ _ => nofun)))))))))))
abbrev s__law_are_strands_right : Stmt := topS 86
theorem sc__law_are_strands_right : FnScope ["pot", "thread", "strand", "at", "head", "tail", "step", "back", "its"] ["pot", "thread"] (defScope s__law_are_strands_right) := ⟨rfl, rfl, rfl, by decide +kernel, rfl, by decide +kernel, by decide +kernel⟩
theorem n__law_are_strands_right_at : NmF (defScope s__law_are_strands_right) ["pot", "thread", "strand", "at", "head", "tail", "step", "back", "its"] 3 "at" := ⟨rfl, (.inl (by kernel_rfl)), by decide, by decide⟩
theorem n__law_are_strands_right_back : NmF (defScope s__law_are_strands_right) ["pot", "thread", "strand", "at", "head", "tail", "step", "back", "its"] 7 "back" := ⟨rfl, (.inl (by kernel_rfl)), by decide, by decide⟩
theorem n__law_are_strands_right_head : NmF (defScope s__law_are_strands_right) ["pot", "thread", "strand", "at", "head", "tail", "step", "back", "its"] 4 "head" := ⟨rfl, (.inl (by kernel_rfl)), by decide, by decide⟩
theorem n__law_are_strands_right_step : NmF (defScope s__law_are_strands_right) ["pot", "thread", "strand", "at", "head", "tail", "step", "back", "its"] 6 "step" := ⟨rfl, (.inl (by kernel_rfl)), by decide, by decide⟩
theorem n__law_are_strands_right_strand : NmF (defScope s__law_are_strands_right) ["pot", "thread", "strand", "at", "head", "tail", "step", "back", "its"] 2 "strand" := ⟨rfl, (.inl (by kernel_rfl)), by decide, by decide⟩
theorem n__law_are_strands_right_tail : NmF (defScope s__law_are_strands_right) ["pot", "thread", "strand", "at", "head", "tail", "step", "back", "its"] 5 "tail" := ⟨rfl, (.inl (by kernel_rfl)), by decide, by decide⟩
theorem n__law_are_strands_right_thread : NmF (defScope s__law_are_strands_right) ["pot", "thread", "strand", "at", "head", "tail", "step", "back", "its"] 1 "thread" := ⟨rfl, (.inl (by kernel_rfl)), by decide, by decide⟩
theorem g__law_are_strands_right__law_take : (defScope s__law_are_strands_right).names.lookup (("_law_take" : Str)) = some .globalImplicit := by kernel_rfl
theorem g__law_are_strands_right_abs : (defScope s__law_are_strands_right).names.lookup (("abs" : Str)) = some .globalImplicit := by kernel_rfl
theorem g__law_are_strands_right_cut : (defScope s__law_are_strands_right).names.lookup (("cut" : Str)) = some .globalImplicit := by kernel_rfl
theorem g__law_are_strands_right_end_to_end : (defScope s__law_are_strands_right).names.lookup (("end_to_end" : Str)) = some .globalImplicit := by kernel_rfl
theorem g__law_are_strands_right_int : (defScope s__law_are_strands_right).names.lookup (("int" : Str)) = some .globalImplicit := by kernel_rfl
theorem g__law_are_strands_right_len : (defScope s__law_are_strands_right).names.lookup (("len" : Str)) = some .globalImplicit := by kernel_rfl
theorem g__law_are_strands_right_max : (defScope s__law_are_strands_right).names.lookup (("max" : Str)) = some .globalImplicit := by kernel_rfl
theorem g__law_are_strands_right_min : (defScope s__law_are_strands_right).names.lookup (("min" : Str)) = some .globalImplicit := by kernel_rfl
theorem g__law_are_strands_right_read_strand : (defScope s__law_are_strands_right).names.lookup (("read_strand" : Str)) = some .globalImplicit := by kernel_rfl
theorem g__law_are_strands_right_strand_text : (defScope s__law_are_strands_right).names.lookup (("strand_text" : Str)) = some .globalImplicit := by kernel_rfl
theorem g__law_are_strands_right_swing : (defScope s__law_are_strands_right).names.lookup (("swing" : Str)) = some .globalImplicit := by kernel_rfl
theorem g__law_are_strands_right_turned : (defScope s__law_are_strands_right).names.lookup (("turned" : Str)) = some .globalImplicit := by kernel_rfl
theorem g__law_are_strands_right_weakest : (defScope s__law_are_strands_right).names.lookup (("weakest" : Str)) = some .globalImplicit := by kernel_rfl
theorem w__law_are_strands_right (c : Fx K mg) : DOk PR w K mg base 6 "_law_are_strands_right" ["pot", "thread"] (spP m__law_are_strands_right) := by
  refine ok_pot (N := ["pot", "thread", "strand", "at", "head", "tail", "step", "back", "its"]) (k := 5) c.f__law_are_strands_right sc__law_are_strands_right (fun _ _ _ _ _ _ us hl => match us, hl with | [_, _], _ => rfl) ?_ ?_
  · intro ds s r s' h
    match ds, h with
    | [_], _ => rfl
  · intro ds p hl
    match ds, hl with
    | [d1618], _ =>
      intro cdv A outer s F E hr
      show JS _ _ _ _ (b__law_are_strands_right d1618) _
      unfold b__law_are_strands_right
      exact (js_nf [.pot, .val d1618, .unk, .unk, .unk, .unk, .unk, .unk, .unk] rfl (js_asg (i := 2) sc__law_are_strands_right.nd rfl (.inl rfl) (JE.x (je_ix (JE.v (je_ix (JE.v (je_nm n__law_are_strands_right_thread rfl)) je_int)) je_int)) fun d1623 => (js_nf [.pot, .val d1618, .val d1623, .unk, .unk, .unk, .unk, .unk, .unk] rfl (js_asg (i := 3) sc__law_are_strands_right.nd rfl (.inl rfl) (JE.x (je_callTy cd_int g__law_are_strands_right_int c.n_int (by decide +kernel) (jav_cons (JE.v (je_callPO (i := 0) (w__law_take c) hr (by decide) g__law_are_strands_right__law_take rfl (.inl rfl) rfl (ja_cons (je_callB cd_len g__law_are_strands_right_len c.n_len (by decide +kernel) (jav_cons (JE.v (je_nm n__law_are_strands_right_strand rfl)) fun x1624 => jav_nil)) fun x1625 => ja_nil))) fun x1626 => jav_nil))) fun d1627 => (js_nf [.pot, .val d1618, .val d1623, .val d1627, .unk, .unk, .unk, .unk, .unk] rfl (js_ifK (emb := (fun a : Unit => [.pot, .val d1618, .val d1623, .val d1627, .unk, .unk, .unk, .unk, .unk])) (jt_cmp ob_gt (JE.v (je_nm n__law_are_strands_right_at rfl)) (JE.v je_int) (by rfl)) (js_nf [.pot, .val d1618, .val d1623, .val d1627, .unk, .unk, .unk, .unk, .unk] rfl (js_par2 (i := 4) (j := 5) rfl sc__law_are_strands_right.nd rfl rfl (by decide) rfl rfl (JE.x (je_callO (w_cut c) hr (by decide) g__law_are_strands_right_cut (ja_cons (je_nm n__law_are_strands_right_strand rfl) fun x1632 => (ja_cons je_int fun x1633 => (ja_cons (je_nm n__law_are_strands_right_at rfl) fun x1634 => ja_nil))))) (JE.x (je_callO (w_cut c) hr (by decide) g__law_are_strands_right_cut (ja_cons (je_nm n__law_are_strands_right_strand rfl) fun x1635 => (ja_cons (je_nm n__law_are_strands_right_at rfl) fun x1636 => (ja_cons (je_callB cd_len g__law_are_strands_right_len c.n_len (by decide +kernel) (jav_cons (JE.v (je_nm n__law_are_strands_right_strand rfl)) fun x1637 => jav_nil)) fun x1638 => ja_nil))))) fun d1639 d1640 => (js_nf [.pot, .val d1618, .val d1623, .val d1627, .val d1639, .val d1640, .unk, .unk, .unk] rfl (js_ifK (emb := (fun a : Unit => [.pot, .val d1618, .val d1623, .val d1627, .val d1639, .val d1640, .unk, .unk, .unk])) (JW.t (jw_or (jt_cmp (ob_ne hr.units) (JE.v (je_callO (w_end_to_end c) hr (by decide) g__law_are_strands_right_end_to_end (ja_cons (je_nm n__law_are_strands_right_head rfl) fun x1641 => (ja_cons (je_nm n__law_are_strands_right_tail rfl) fun x1642 => ja_nil)))) (JE.v (je_nm n__law_are_strands_right_strand rfl)) (by rfl)) (jw_or1 (jt_cmp (ob_ne hr.units) (JE.v (je_ix (JE.v (je_callO (w_weakest c) hr (by decide) g__law_are_strands_right_weakest (ja_cons (je_nm n__law_are_strands_right_strand rfl) fun x1647 => ja_nil))) je_int)) (JE.v (je_callB (cd_min2 rfl) g__law_are_strands_right_min c.n_min (by decide +kernel) (jav_cons (JE.v (je_ix (JE.v (je_callO (w_weakest c) hr (by decide) g__law_are_strands_right_weakest (ja_cons (je_nm n__law_are_strands_right_head rfl) fun x1650 => ja_nil))) je_int)) fun x1652 => (jav_cons (JE.v (je_ix (JE.v (je_callO (w_weakest c) hr (by decide) g__law_are_strands_right_weakest (ja_cons (je_nm n__law_are_strands_right_tail rfl) fun x1654 => ja_nil))) je_int)) fun x1656 => jav_nil)))) (by rfl))))) (js_nf [.pot, .val d1618, .val d1623, .val d1627, .val d1639, .val d1640, .unk, .unk, .unk] rfl (js_ret (r := Fl.rt) je_bl fun _ => rfl)) (js_end rfl (.e (.e (.e (.e (.e (.e (.u (.u (.u .nil)))))))))) (fun a1663 => (js_nf [.pot, .val d1618, .val d1623, .val d1627, .val d1639, .val d1640, .unk, .unk, .unk] rfl (js_asg (i := 6) sc__law_are_strands_right.nd rfl (.inl rfl) (JE.x (je_callO (w_swing c) hr (by decide) g__law_are_strands_right_swing (ja_cons (je_nm n__law_are_strands_right_strand rfl) fun x1664 => ja_nil))) fun d1665 => (js_nf [.pot, .val d1618, .val d1623, .val d1627, .val d1639, .val d1640, .val d1665, .unk, .unk] rfl (js_ifK (emb := (fun a : Unit => [.pot, .val d1618, .val d1623, .val d1627, .val d1639, .val d1640, .val d1665, .unk, .unk])) (jt_cmp ob_lt (JE.v (je_ix (JE.v (je_nm n__law_are_strands_right_step rfl)) je_int)) (JE.v (je_callB (cd_max rfl hr.units) g__law_are_strands_right_max c.n_max (by decide +kernel) (jav_cons (JE.v (je_bin od_add (je_lst (ja_cons (je_callB cd_abs g__law_are_strands_right_abs c.n_abs (by decide +kernel) (jav_cons (JE.v (je_bin od_sub (je_ix (JE.v (je_nm n__law_are_strands_right_strand rfl)) (je_nm n__law_are_strands_right_at rfl)) (je_ix (JE.v (je_nm n__law_are_strands_right_strand rfl)) (je_bin od_sub (je_nm n__law_are_strands_right_at rfl) je_int)))) fun x1676 => jav_nil)) fun x1677 => ja_nil)) (je_lc rfl sc__law_are_strands_right.nd (ji_seq (je_tup (ja_cons (je_callO (w_swing c) hr (by decide) g__law_are_strands_right_swing (ja_cons (je_nm n__law_are_strands_right_head rfl) fun x1678 => ja_nil)) fun x1679 => (ja_cons (je_callO (w_swing c) hr (by decide) g__law_are_strands_right_swing (ja_cons (je_nm n__law_are_strands_right_tail rfl) fun x1680 => ja_nil)) fun x1681 => ja_nil)))) (blk (own := [("its", 8)]) (by kernel_rfl)) (fun _ _ _ _ _ => (pgd_n 8 sc__law_are_strands_right.nd rfl (.inl rfl))) (ji_n fun d1683 => .cond (fun _ _ _ _ _ => jt_nf [.pot, .val d1618, .val d1623, .val d1627, .val d1639, .val d1640, .val d1665, .unk, .val d1683] rfl (jt_cmp ob_isnt (JE.v (je_name 8 rfl (.inl rfl) rfl)) (JE.v je_non) (by rfl))) (fun _ _ _ _ _ => je_nf [.pot, .val d1618, .val d1623, .val d1627, .val d1639, .val d1640, .val d1665, .unk, .val d1683] rfl (je_ix (JE.v (je_name 8 rfl (.inl rfl) rfl)) je_int)))))) fun x1696 => jav_nil))) (by rfl)) (js_nf [.pot, .val d1618, .val d1623, .val d1627, .val d1639, .val d1640, .val d1665, .unk, .unk] rfl (js_ret (r := Fl.rt) je_bl fun _ => rfl)) (js_end rfl (.e (.e (.e (.e (.e (.e (.e (.u (.u .nil)))))))))) (fun a1702 => (js_end rfl (.e (.e (.e (.e (.u (.u (.u (.u (.u .nil))))))))))) fun _ => rfl))))) fun _ => rfl)))) (js_end rfl (.e (.e (.e (.e (.u (.u (.u (.u (.u .nil)))))))))) (fun a1703 => (js_nf [.pot, .val d1618, .val d1623, .val d1627, .unk, .unk, .unk, .unk, .unk] rfl (js_ifret (JW.t (jw_or (jt_cmp (ob_ne hr.units) (JE.v (je_callO (w_read_strand c) hr (by decide) g__law_are_strands_right_read_strand (ja_cons (je_callO (w_strand_text c) hr (by decide) g__law_are_strands_right_strand_text (ja_cons (je_nm n__law_are_strands_right_strand rfl) fun x1704 => ja_nil)) fun x1705 => ja_nil))) (JE.v (je_nm n__law_are_strands_right_strand rfl)) (by rfl)) (jw_or1 (jt_cmp (ob_ne hr.units) (JE.v (je_callO (w_turned c) hr (by decide) g__law_are_strands_right_turned (ja_cons (je_callO (w_turned c) hr (by decide) g__law_are_strands_right_turned (ja_cons (je_nm n__law_are_strands_right_strand rfl) fun x1709 => ja_nil)) fun x1710 => ja_nil))) (JE.v (je_nm n__law_are_strands_right_strand rfl)) (by rfl))))) (js_nf [.pot, .val d1618, .val d1623, .val d1627, .unk, .unk, .unk, .unk, .unk] rfl (js_ret0 je_bl)) (js_nf [.pot, .val d1618, .val d1623, .val d1627, .unk, .unk, .unk, .unk, .unk] rfl (js_asg (i := 7) sc__law_are_strands_right.nd rfl (.inl rfl) (JE.x (je_callO (w_swing c) hr (by decide) g__law_are_strands_right_swing (ja_cons (je_callO (w_turned c) hr (by decide) g__law_are_strands_right_turned (ja_cons (je_nm n__law_are_strands_right_strand rfl) fun x1716 => ja_nil)) fun x1717 => ja_nil))) fun d1718 => (js_nf [.pot, .val d1618, .val d1623, .val d1627, .unk, .unk, .unk, .val d1718, .unk] rfl (js_ret0 (je_and (je_cmp (ob_eq hr.units) (JE.v (je_cmp ob_is (JE.v (je_nm n__law_are_strands_right_back rfl)) (JE.v je_non) (by rfl))) (JE.v (je_cmp ob_is (JE.v (je_callO (w_swing c) hr (by decide) g__law_are_strands_right_swing (ja_cons (je_nm n__law_are_strands_right_strand rfl) fun x1722 => ja_nil))) (JE.v je_non) (by rfl))) (by rfl)) (je_one (je_or (je_cmp ob_is (JE.v (je_nm n__law_are_strands_right_back rfl)) (JE.v je_non) (by rfl)) (je_one (je_cmp (ob_eq hr.units) (JE.v (je_ix (JE.v (je_nm n__law_are_strands_right_back rfl)) je_int)) (JE.v (je_ix (JE.v (je_callO (w_swing c) hr (by decide) g__law_are_strands_right_swing (ja_cons (je_nm n__law_are_strands_right_strand rfl) fun x1735 => ja_nil))) je_int)) (by rfl)))))))))) fun _ _ => nofun))) fun _ => rfl))))))
abbrev s__law_are_loose_right : Stmt := topS 87
theorem sc__law_are_loose_right : FnScope ["pot", "thread", "row", "band", "much", "less", "loose", "bounds", "word", "tight", "strand", "near", "begin", "one", "low", "high"] ["pot", "thread", "row", "band"] (defScope s__law_are_loose_right) := ⟨rfl, rfl, rfl, by decide +kernel, rfl, by decide +kernel, by decide +kernel⟩
theorem n__law_are_loose_right_band : NmF (defScope s__law_are_loose_right) ["pot", "thread", "row", "band", "much", "less", "loose", "bounds", "word", "tight", "strand", "near", "begin", "one", "low", "high"] 3 "band" := ⟨rfl, (.inl (by kernel_rfl)), by decide, by decide⟩
theorem n__law_are_loose_right_bounds : NmF (defScope s__law_are_loose_right) ["pot", "thread", "row", "band", "much", "less", "loose", "bounds", "word", "tight", "strand", "near", "begin", "one", "low", "high"] 7 "bounds" := ⟨rfl, (.inl (by kernel_rfl)), by decide, by decide⟩
theorem n__law_are_loose_right_loose : NmF (defScope s__law_are_loose_right) ["pot", "thread", "row", "band", "much", "less", "loose", "bounds", "word", "tight", "strand", "near", "begin", "one", "low", "high"] 6 "loose" := ⟨rfl, (.inl (by kernel_rfl)), by decide, by decide⟩
theorem n__law_are_loose_right_much : NmF (defScope s__law_are_loose_right) ["pot", "thread", "row", "band", "much", "less", "loose", "bounds", "word", "tight", "strand", "near", "begin", "one", "low", "high"] 4 "much" := ⟨rfl, (.inr (.inl (by kernel_rfl))), by decide, by decide⟩
theorem n__law_are_loose_right_near : NmF (defScope s__law_are_loose_right) ["pot", "thread", "row", "band", "much", "less", "loose", "bounds", "word", "tight", "strand", "near", "begin", "one", "low", "high"] 11 "near" := ⟨rfl, (.inl (by kernel_rfl)), by decide, by decide⟩
theorem n__law_are_loose_right_row : NmF (defScope s__law_are_loose_right) ["pot", "thread", "row", "band", "much", "less", "loose", "bounds", "word", "tight", "strand", "near", "begin", "one", "low", "high"] 2 "row" := ⟨rfl, (.inl (by kernel_rfl)), by decide, by decide⟩
theorem n__law_are_loose_right_strand : NmF (defScope s__law_are_loose_right) ["pot", "thread", "row", "band", "much", "less", "loose", "bounds", "word", "tight", "strand", "near", "begin", "one", "low", "high"] 10 "strand" := ⟨rfl, (.inl (by kernel_rfl)), by decide, by decide⟩
theorem n__law_are_loose_right_thread : NmF (defScope s__law_are_loose_right) ["pot", "thread", "row", "band", "much", "less", "loose", "bounds", "word", "tight", "strand", "near", "begin", "one", "low", "high"] 1 "thread" := ⟨rfl, (.inl (by kernel_rfl)), by decide, by decide⟩
theorem n__law_are_loose_right_tight : NmF (defScope s__law_are_loose_right) ["pot", "thread", "row", "band", "much", "less", "loose", "bounds", "word", "tight", "strand", "near", "begin", "one", "low", "high"] 9 "tight" := ⟨rfl, (.inl (by kernel_rfl)), by decide, by decide⟩
theorem n__law_are_loose_right_word : NmF (defScope s__law_are_loose_right) ["pot", "thread", "row", "band", "much", "less", "loose", "bounds", "word", "tight", "strand", "near", "begin", "one", "low", "high"] 8 "word" := ⟨rfl, (.inl (by kernel_rfl)), by decide, by decide⟩
theorem g__law_are_loose_right__law_take : (defScope s__law_are_loose_right).names.lookup (("_law_take" : Str)) = some .globalImplicit := by kernel_rfl
theorem g__law_are_loose_right_all : (defScope s__law_are_loose_right).names.lookup (("all" : Str)) = some .globalImplicit := by kernel_rfl
theorem g__law_are_loose_right_borne : (defScope s__law_are_loose_right).names.lookup (("borne" : Str)) = some .globalImplicit := by kernel_rfl
theorem g__law_are_loose_right_both : (defScope s__law_are_loose_right).names.lookup (("both" : Str)) = some .globalImplicit := by kernel_rfl
theorem g__law_are_loose_right_bounds_of : (defScope s__law_are_loose_right).names.lookup (("bounds_of" : Str)) = some .globalImplicit := by kernel_rfl
theorem g__law_are_loose_right_even : (defScope s__law_are_loose_right).names.lookup (("even" : Str)) = some .globalImplicit := by kernel_rfl
theorem g__law_are_loose_right_int : (defScope s__law_are_loose_right).names.lookup (("int" : Str)) = some .globalImplicit := by kernel_rfl
theorem g__law_are_loose_right_is_even : (defScope s__law_are_loose_right).names.lookup (("is_even" : Str)) = some .globalImplicit := by kernel_rfl
theorem g__law_are_loose_right_loosened : (defScope s__law_are_loose_right).names.lookup (("loosened" : Str)) = some .globalImplicit := by kernel_rfl
theorem g__law_are_loose_right_may_be : (defScope s__law_are_loose_right).names.lookup (("may_be" : Str)) = some .globalImplicit := by kernel_rfl
theorem g__law_are_loose_right_min : (defScope s__law_are_loose_right).names.lookup (("min" : Str)) = some .globalImplicit := by kernel_rfl
theorem g__law_are_loose_right_tuple : (defScope s__law_are_loose_right).names.lookup (("tuple" : Str)) = some .globalImplicit := by kernel_rfl
theorem g__law_are_loose_right_zip : (defScope s__law_are_loose_right).names.lookup (("zip" : Str)) = some .globalImplicit := by kernel_rfl
theorem w__law_are_loose_right (c : Fx K mg) : DOk PR w K mg base 9 "_law_are_loose_right" ["pot", "thread", "row", "band"] (spP m__law_are_loose_right) := by
  refine ok_pot (N := ["pot", "thread", "row", "band", "much", "less", "loose", "bounds", "word", "tight", "strand", "near", "begin", "one", "low", "high"]) (k := 8) c.f__law_are_loose_right sc__law_are_loose_right (fun _ _ _ _ _ _ us hl => match us, hl with | [_, _, _, _], _ => rfl) ?_ ?_
  · intro ds s r s' h
    match ds, h with
    | [_, _, _], _ => rfl
  · intro ds p hl
    match ds, hl with
    | [d1744, d1745, d1746], _ =>
      intro cdv A outer s F E hr
      show JS _ _ _ _ (b__law_are_loose_right d1744 d1745 d1746) _
      unfold b__law_are_loose_right
      exact (js_nf [.pot, .val d1744, .val d1745, .val d1746, .unk, .unk, .unk, .unk, .unk, .unk, .unk, .unk, .unk, .unk, .unk, .unk] rfl (js_unpack (je_tup (ja_cons (je_callTy cd_int g__law_are_loose_right_int c.n_int (by decide +kernel) (jav_cons (JE.v (je_callPO (i := 0) (w__law_take c) hr (by decide) g__law_are_loose_right__law_take rfl (.inl rfl) rfl (ja_cons je_int fun x1747 => ja_nil))) fun x1748 => jav_nil)) fun x1749 => (ja_cons je_int fun x1750 => ja_nil))) (pgd_2 rfl (pgd_n 4 sc__law_are_loose_right.nd rfl (.inr rfl)) (pgd_n 5 sc__law_are_loose_right.nd rfl (.inr rfl))) (ji_2 fun d1751 d1752 => (js_nf [.pot, .val d1744, .val d1745, .val d1746, .val d1751, .val d1752, .unk, .unk, .unk, .unk, .unk, .unk, .unk, .unk, .unk, .unk] rfl (js_asg (i := 6) sc__law_are_loose_right.nd rfl (.inl rfl) (JE.x (je_callTy cd_tuple g__law_are_loose_right_tuple c.n_tuple (by decide +kernel) (jav_cons (JE.v (je_lc rfl sc__law_are_loose_right.nd (ji_seq (je_nm n__law_are_loose_right_thread rfl)) (blk (own := [("begin", 12), ("strand", 10)]) (by kernel_rfl)) (fun _ _ _ _ _ => (pgd_2 rfl (pgd_n 12 sc__law_are_loose_right.nd rfl (.inl rfl)) (pgd_n 10 sc__law_are_loose_right.nd rfl (.inl rfl)))) (ji_2 fun d1754 d1755 => .plain (fun _ _ _ _ _ => je_nf [.pot, .val d1744, .val d1745, .val d1746, .val d1751, .val d1752, .unk, .unk, .unk, .unk, .val d1755, .unk, .val d1754, .unk, .unk, .unk] rfl (je_tup (ja_cons (je_name 12 rfl (.inl rfl) rfl) fun x1756 => (ja_cons (je_callO (w_loosened c) hr (by decide) rfl (ja_cons (je_name 10 rfl (.inl rfl) rfl) fun x1757 => (ja_cons (je_name 4 rfl (.inr (.inl rfl)) rfl) fun x1758 => ja_nil))) fun x1759 => ja_nil))))))) fun x1764 => jav_nil))) fun d1765 => (js_nf [.pot, .val d1744, .val d1745, .val d1746, .val d1751, .val d1752, .val d1765, .unk, .unk, .unk, .unk, .unk, .unk, .unk, .unk, .unk] rfl (js_asg (i := 7) sc__law_are_loose_right.nd rfl (.inl rfl) (JE.x (je_callO (w_bounds_of c) hr (by decide) g__law_are_loose_right_bounds_of (ja_cons (je_nm n__law_are_loose_right_loose rfl) fun x1766 => ja_nil))) fun d1767 => (js_nf [.pot, .val d1744, .val d1745, .val d1746, .val d1751, .val d1752, .val d1765, .val d1767, .unk, .unk, .unk, .unk, .unk, .unk, .unk, .unk] rfl (js_ifret (jt_not (jt_val (je_callB (cd_all rfl) g__law_are_loose_right_all c.n_all (by decide +kernel) (jav_cons (JE.v (je_lc rfl sc__law_are_loose_right.nd (ji_zip g__law_are_loose_right_zip c.n_zip (ja_cons (je_nm n__law_are_loose_right_row rfl) fun x1768 => (ja_cons (je_nm n__law_are_loose_right_bounds rfl) fun x1769 => ja_nil))) (blk (own := [("one", 13), ("low", 14), ("high", 15)]) (by kernel_rfl)) (fun _ _ _ _ _ => (pgd_2 rfl (pgd_n 13 sc__law_are_loose_right.nd rfl (.inl rfl)) (pgd_2 rfl (pgd_n 14 sc__law_are_loose_right.nd rfl (.inl rfl)) (pgd_n 15 sc__law_are_loose_right.nd rfl (.inl rfl))))) (ji_12 fun d1770 d1771 d1772 => .plain (fun _ _ _ _ _ => je_nf [.pot, .val d1744, .val d1745, .val d1746, .val d1751, .val d1752, .val d1765, .val d1767, .unk, .unk, .unk, .unk, .unk, .val d1770, .val d1771, .val d1772] rfl (je_chain ob_le ob_le (JE.v (je_name 14 rfl (.inl rfl) rfl)) (JE.v (je_name 13 rfl (.inl rfl) rfl)) (JE.v (je_name 15 rfl (.inl rfl) rfl))))))) fun x1783 => jav_nil)))) (js_nf [.pot, .val d1744, .val d1745, .val d1746, .val d1751, .val d1752, .val d1765, .val d1767, .unk, .unk, .unk, .unk, .unk, .unk, .unk, .unk] rfl (js_ret0 je_bl)) (js_nf [.pot, .val d1744, .val d1745, .val d1746, .val d1751, .val d1752, .val d1765, .val d1767, .unk, .unk, .unk, .unk, .unk, .unk, .unk, .unk] rfl (js_asg (i := 8) sc__law_are_loose_right.nd rfl (.inl rfl) (JE.x (je_callO (w_even c) hr (by decide) g__law_are_loose_right_even (ja_cons (je_nm n__law_are_loose_right_bounds rfl) fun x1787 => (ja_cons (je_nm n__law_are_loose_right_band rfl) fun x1788 => ja_nil)))) fun d1789 => (js_nf [.pot, .val d1744, .val d1745, .val d1746, .val d1751, .val d1752, .val d1765, .val d1767, .val d1789, .unk, .unk, .unk, .unk, .unk, .unk, .unk] rfl (js_ifret (JW.t (jw_or (JW.t (jw_and (jt_cmp (ob_eq hr.units) (JE.v (je_nm n__law_are_loose_right_word rfl)) (JE.v je_str) (by rfl)) (jw_and1 (jt_not (jt_val (je_callO (w_is_even c) hr (by decide) g__law_are_loose_right_is_even (ja_cons (je_nm n__law_are_loose_right_thread rfl) fun x1793 => (ja_cons (je_nm n__law_are_loose_right_band rfl) fun x1794 => ja_nil)))))))) (jw_or1 (JW.t (jw_and (jt_cmp (ob_eq hr.units) (JE.v (je_nm n__law_are_loose_right_word rfl)) (JE.v je_str) (by rfl)) (jw_and1 (jt_val (je_callO (w_is_even c) hr (by decide) g__law_are_loose_right_is_even (ja_cons (je_nm n__law_are_loose_right_thread rfl) fun x1801 => (ja_cons (je_nm n__law_are_loose_right_band rfl) fun x1802 => ja_nil)))))))))) (js_nf [.pot, .val d1744, .val d1745, .val d1746, .val d1751, .val d1752, .val d1765, .val d1767, .val d1789, .unk, .unk, .unk, .unk, .unk, .unk, .unk] rfl (js_ret0 je_bl)) (js_nf [.pot, .val d1744, .val d1745, .val d1746, .val d1751, .val d1752, .val d1765, .val d1767, .val d1789, .unk, .unk, .unk, .unk, .unk, .unk, .unk] rfl (js_asg (i := 9) sc__law_are_loose_right.nd rfl (.inl rfl) (JE.x (je_callO (w_bounds_of c) hr (by decide) g__law_are_loose_right_bounds_of (ja_cons (je_callTy cd_tuple g__law_are_loose_right_tuple c.n_tuple (by decide +kernel) (jav_cons (JE.v (je_lc rfl sc__law_are_loose_right.nd (ji_seq (je_nm n__law_are_loose_right_thread rfl)) (blk (own := [("begin", 12), ("strand", 10)]) (by kernel_rfl)) (fun _ _ _ _ _ => (pgd_2 rfl (pgd_n 12 sc__law_are_loose_right.nd rfl (.inl rfl)) (pgd_n 10 sc__law_are_loose_right.nd rfl (.inl rfl)))) (ji_2 fun d1808 d1809 => .plain (fun _ _ _ _ _ => je_nf [.pot, .val d1744, .val d1745, .val d1746, .val d1751, .val d1752, .val d1765, .val d1767, .val d1789, .unk, .val d1809, .unk, .val d1808, .unk, .unk, .unk] rfl (je_tup (ja_cons (je_name 12 rfl (.inl rfl) rfl) fun x1810 => (ja_cons (je_callO (w_loosened c) hr (by decide) rfl (ja_cons (je_name 10 rfl (.inl rfl) rfl) fun x1811 => (ja_cons (je_name 5 rfl (.inr (.inl rfl)) rfl) fun x1812 => ja_nil))) fun x1813 => ja_nil))))))) fun x1818 => jav_nil)) fun x1819 => ja_nil))) fun d1820 => (js_nf [.pot, .val d1744, .val d1745, .val d1746, .val d1751, .val d1752, .val d1765, .val d1767, .val d1789, .val d1820, .unk, .unk, .unk, .unk, .unk, .unk] rfl (js_ifret (JW.t (jw_or (jt_cmp (ob_ne hr.units) (JE.v (je_nm n__law_are_loose_right_tight rfl)) (JE.v (je_callTy cd_tuple g__law_are_loose_right_tuple c.n_tuple (by decide +kernel) (jav_cons (JE.v (je_lc rfl sc__law_are_loose_right.nd (ji_seq (je_nm n__law_are_loose_right_row rfl)) (blk (own := [("one", 13)]) (by kernel_rfl)) (fun _ _ _ _ _ => (pgd_n 13 sc__law_are_loose_right.nd rfl (.inl rfl))) (ji_n fun d1822 => .plain (fun _ _ _ _ _ => je_nf [.pot, .val d1744, .val d1745, .val d1746, .val d1751, .val d1752, .val d1765, .val d1767, .val d1789, .val d1820, .unk, .unk, .unk, .val d1822, .unk, .unk] rfl (je_tup (ja_cons (je_name 13 rfl (.inl rfl) rfl) fun x1823 => (ja_cons (je_name 13 rfl (.inl rfl) rfl) fun x1824 => ja_nil))))))) fun x1829 => jav_nil))) (by rfl)) (jw_or (jt_cmp (ob_ne hr.units) (JE.v (je_callO (w_borne c) hr (by decide) g__law_are_loose_right_borne (ja_cons (je_nm n__law_are_loose_right_tight rfl) fun x1833 => ja_nil))) (JE.v (je_tup (ja_cons (je_callB (cd_min rfl hr.units) g__law_are_loose_right_min c.n_min (by decide +kernel) (jav_cons (JE.v (je_nm n__law_are_loose_right_row rfl)) fun x1834 => jav_nil)) fun x1835 => (ja_cons (je_callB (cd_min rfl hr.units) g__law_are_loose_right_min c.n_min (by decide +kernel) (jav_cons (JE.v (je_nm n__law_are_loose_right_row rfl)) fun x1836 => jav_nil)) fun x1837 => ja_nil)))) (by rfl)) (jw_or1 (jt_cmp (ob_ne hr.units) (JE.v (je_callO (w_even c) hr (by decide) g__law_are_loose_right_even (ja_cons (je_nm n__law_are_loose_right_tight rfl) fun x1841 => (ja_cons (je_nm n__law_are_loose_right_band rfl) fun x1842 => ja_nil)))) (JE.v (je_if (jt_val (je_callO (w_is_even c) hr (by decide) g__law_are_loose_right_is_even (ja_cons (je_nm n__law_are_loose_right_thread rfl) fun x1843 => (ja_cons (je_nm n__law_are_loose_right_band rfl) fun x1844 => ja_nil)))) je_str je_str)) (by rfl)))))) (js_nf [.pot, .val d1744, .val d1745, .val d1746, .val d1751, .val d1752, .val d1765, .val d1767, .val d1789, .val d1820, .unk, .unk, .unk, .unk, .unk, .unk] rfl (js_ret0 je_bl)) (js_nf [.pot, .val d1744, .val d1745, .val d1746, .val d1751, .val d1752, .val d1765, .val d1767, .val d1789, .val d1820, .unk, .unk, .unk, .unk, .unk, .unk] rfl (js_asg (i := 10) sc__law_are_loose_right.nd rfl (.inl rfl) (JE.x (je_ix (JE.v (je_ix (JE.v (je_nm n__law_are_loose_right_thread rfl)) je_int)) je_int)) fun d1857 => (js_nf [.pot, .val d1744, .val d1745, .val d1746, .val d1751, .val d1752, .val d1765, .val d1767, .val d1789, .val d1820, .val d1857, .unk, .unk, .unk, .unk, .unk] rfl (js_asg (i := 11) sc__law_are_loose_right.nd rfl (.inl rfl) (JE.x (je_callO (w_loosened c) hr (by decide) g__law_are_loose_right_loosened (ja_cons (je_nm n__law_are_loose_right_strand rfl) fun x1858 => (ja_cons (je_callB (cd_min2 rfl) g__law_are_loose_right_min c.n_min (by decide +kernel) (jav_cons (JE.v je_int) fun x1859 => (jav_cons (JE.v (je_bin od_add (je_nm n__law_are_loose_right_much rfl) je_int)) fun x1862 => jav_nil))) fun x1863 => ja_nil)))) fun d1864 => (js_nf [.pot, .val d1744, .val d1745, .val d1746, .val d1751, .val d1752, .val d1765, .val d1767, .val d1789, .val d1820, .val d1857, .val d1864, .unk, .unk, .unk, .unk] rfl (js_ret0 (je_and (je_cmp ob_is (JE.v (je_callO (w_may_be c) hr (by decide) g__law_are_loose_right_may_be (ja_cons (je_nm n__law_are_loose_right_near rfl) fun x1865 => (ja_cons (je_nm n__law_are_loose_right_strand rfl) fun x1866 => ja_nil)))) (JE.v je_bl) (by rfl)) (je_one (je_cmp (ob_eq hr.units) (JE.v (je_callO (w_both c) hr (by decide) g__law_are_loose_right_both (ja_cons (je_nm n__law_are_loose_right_near rfl) fun x1870 => (ja_cons (je_callO (w_loosened c) hr (by decide) g__law_are_loose_right_loosened (ja_cons (je_nm n__law_are_loose_right_strand rfl) fun x1871 => (ja_cons (je_nm n__law_are_loose_right_much rfl) fun x1872 => ja_nil))) fun x1873 => ja_nil)))) (JE.v (je_callO (w_loosened c) hr (by decide) g__law_are_loose_right_loosened (ja_cons (je_nm n__law_are_loose_right_strand rfl) fun x1874 => (ja_cons (je_nm n__law_are_loose_right_much rfl) fun x1875 => ja_nil)))) (by rfl)))))))))) fun _ _ => nofun)))) fun _ _ => nofun)))) fun _ _ => nofun)))))))))
abbrev s__law_right : Stmt := topS 83
theorem sc__law_right : FnScope ["pot", "one", "other", "both_so", "mine", "its", "first", "end", "row", "low", "band", "wide", "bad", "part", "more", "much", "far", "back", "yard", "begin", "strand"] ["pot"] (defScope s__law_right) := ⟨rfl, rfl, rfl, by decide +kernel, rfl, by decide +kernel, by decide +kernel⟩
theorem n__law_right_back : NmF (defScope s__law_right) ["pot", "one", "other", "both_so", "mine", "its", "first", "end", "row", "low", "band", "wide", "bad", "part", "more", "much", "far", "back", "yard", "begin", "strand"] 17 "back" := ⟨rfl, (.inl (by kernel_rfl)), by decide, by decide⟩
theorem n__law_right_bad : NmF (defScope s__law_right) ["pot", "one", "other", "both_so", "mine", "its", "first", "end", "row", "low", "band", "wide", "bad", "part", "more", "much", "far", "back", "yard", "begin", "strand"] 12 "bad" := ⟨rfl, (.inr (.inl (by kernel_rfl))), by decide, by decide⟩
theorem n__law_right_band : NmF (defScope s__law_right) ["pot", "one", "other", "both_so", "mine", "its", "first", "end", "row", "low", "band", "wide", "bad", "part", "more", "much", "far", "back", "yard", "begin", "strand"] 10 "band" := ⟨rfl, (.inl (by kernel_rfl)), by decide, by decide⟩
theorem n__law_right_both_so : NmF (defScope s__law_right) ["pot", "one", "other", "both_so", "mine", "its", "first", "end", "row", "low", "band", "wide", "bad", "part", "more", "much", "far", "back", "yard", "begin", "strand"] 3 "both_so" := ⟨rfl, (.inl (by kernel_rfl)), by decide, by decide⟩
theorem n__law_right_end : NmF (defScope s__law_right) ["pot", "one", "other", "both_so", "mine", "its", "first", "end", "row", "low", "band", "wide", "bad", "part", "more", "much", "far", "back", "yard", "begin", "strand"] 7 "end" := ⟨rfl, (.inr (.inl (by kernel_rfl))), by decide, by decide⟩
theorem n__law_right_far : NmF (defScope s__law_right) ["pot", "one", "other", "both_so", "mine", "its", "first", "end", "row", "low", "band", "wide", "bad", "part", "more", "much", "far", "back", "yard", "begin", "strand"] 16 "far" := ⟨rfl, (.inl (by kernel_rfl)), by decide, by decide⟩
theorem n__law_right_first : NmF (defScope s__law_right) ["pot", "one", "other", "both_so", "mine", "its", "first", "end", "row", "low", "band", "wide", "bad", "part", "more", "much", "far", "back", "yard", "begin", "strand"] 6 "first" := ⟨rfl, (.inl (by kernel_rfl)), by decide, by decide⟩
theorem n__law_right_low : NmF (defScope s__law_right) ["pot", "one", "other", "both_so", "mine", "its", "first", "end", "row", "low", "band", "wide", "bad", "part", "more", "much", "far", "back", "yard", "begin", "strand"] 9 "low" := ⟨rfl, (.inl (by kernel_rfl)), by decide, by decide⟩
theorem n__law_right_more : NmF (defScope s__law_right) ["pot", "one", "other", "both_so", "mine", "its", "first", "end", "row", "low", "band", "wide", "bad", "part", "more", "much", "far", "back", "yard", "begin", "strand"] 14 "more" := ⟨rfl, (.inl (by kernel_rfl)), by decide, by decide⟩
theorem n__law_right_much : NmF (defScope s__law_right) ["pot", "one", "other", "both_so", "mine", "its", "first", "end", "row", "low", "band", "wide", "bad", "part", "more", "much", "far", "back", "yard", "begin", "strand"] 15 "much" := ⟨rfl, (.inr (.inl (by kernel_rfl))), by decide, by decide⟩
theorem n__law_right_one : NmF (defScope s__law_right) ["pot", "one", "other", "both_so", "mine", "its", "first", "end", "row", "low", "band", "wide", "bad", "part", "more", "much", "far", "back", "yard", "begin", "strand"] 1 "one" := ⟨rfl, (.inl (by kernel_rfl)), by decide, by decide⟩
theorem n__law_right_other : NmF (defScope s__law_right) ["pot", "one", "other", "both_so", "mine", "its", "first", "end", "row", "low", "band", "wide", "bad", "part", "more", "much", "far", "back", "yard", "begin", "strand"] 2 "other" := ⟨rfl, (.inl (by kernel_rfl)), by decide, by decide⟩
theorem n__law_right_part : NmF (defScope s__law_right) ["pot", "one", "other", "both_so", "mine", "its", "first", "end", "row", "low", "band", "wide", "bad", "part", "more", "much", "far", "back", "yard", "begin", "strand"] 13 "part" := ⟨rfl, (.inr (.inl (by kernel_rfl))), by decide, by decide⟩
theorem n__law_right_row : NmF (defScope s__law_right) ["pot", "one", "other", "both_so", "mine", "its", "first", "end", "row", "low", "band", "wide", "bad", "part", "more", "much", "far", "back", "yard", "begin", "strand"] 8 "row" := ⟨rfl, (.inl (by kernel_rfl)), by decide, by decide⟩
theorem n__law_right_wide : NmF (defScope s__law_right) ["pot", "one", "other", "both_so", "mine", "its", "first", "end", "row", "low", "band", "wide", "bad", "part", "more", "much", "far", "back", "yard", "begin", "strand"] 11 "wide" := ⟨rfl, (.inl (by kernel_rfl)), by decide, by decide⟩
theorem g__law_right__law_are_cuts_right : (defScope s__law_right).names.lookup (("_law_are_cuts_right" : Str)) = some .globalImplicit := by kernel_rfl
theorem g__law_right__law_are_loose_right : (defScope s__law_right).names.lookup (("_law_are_loose_right" : Str)) = some .globalImplicit := by kernel_rfl
theorem g__law_right__law_are_strands_right : (defScope s__law_right).names.lookup (("_law_are_strands_right" : Str)) = some .globalImplicit := by kernel_rfl
theorem g__law_right__law_by_yard : (defScope s__law_right).names.lookup (("_law_by_yard" : Str)) = some .globalImplicit := by kernel_rfl
theorem g__law_right__law_is_band_right : (defScope s__law_right).names.lookup (("_law_is_band_right" : Str)) = some .globalImplicit := by kernel_rfl
theorem g__law_right__law_take : (defScope s__law_right).names.lookup (("_law_take" : Str)) = some .globalImplicit := by kernel_rfl
theorem g__law_right__law_thread : (defScope s__law_right).names.lookup (("_law_thread" : Str)) = some .globalImplicit := by kernel_rfl
theorem g__law_right_all : (defScope s__law_right).names.lookup (("all" : Str)) = some .globalImplicit := by kernel_rfl
theorem g__law_right_any : (defScope s__law_right).names.lookup (("any" : Str)) = some .globalImplicit := by kernel_rfl
theorem g__law_right_beside : (defScope s__law_right).names.lookup (("beside" : Str)) = some .globalImplicit := by kernel_rfl
theorem g__law_right_even_part : (defScope s__law_right).names.lookup (("even_part" : Str)) = some .globalImplicit := by kernel_rfl
theorem g__law_right_int : (defScope s__law_right).names.lookup (("int" : Str)) = some .globalImplicit := by kernel_rfl
theorem g__law_right_is_even : (defScope s__law_right).names.lookup (("is_even" : Str)) = some .globalImplicit := by kernel_rfl
theorem g__law_right_joins : (defScope s__law_right).names.lookup (("joins" : Str)) = some .globalImplicit := by kernel_rfl
theorem g__law_right_least_band : (defScope s__law_right).names.lookup (("least_band" : Str)) = some .globalImplicit := by kernel_rfl
theorem g__law_right_max : (defScope s__law_right).names.lookup (("max" : Str)) = some .globalImplicit := by kernel_rfl
theorem g__law_right_min : (defScope s__law_right).names.lookup (("min" : Str)) = some .globalImplicit := by kernel_rfl
theorem g__law_right_moved : (defScope s__law_right).names.lookup (("moved" : Str)) = some .globalImplicit := by kernel_rfl
theorem g__law_right_needless : (defScope s__law_right).names.lookup (("needless" : Str)) = some .globalImplicit := by kernel_rfl
theorem g__law_right_range : (defScope s__law_right).names.lookup (("range" : Str)) = some .globalImplicit := by kernel_rfl
theorem g__law_right_span : (defScope s__law_right).names.lookup (("span" : Str)) = some .globalImplicit := by kernel_rfl
theorem g__law_right_spread : (defScope s__law_right).names.lookup (("spread" : Str)) = some .globalImplicit := by kernel_rfl
theorem g__law_right_strengths : (defScope s__law_right).names.lookup (("strengths" : Str)) = some .globalImplicit := by kernel_rfl
theorem g__law_right_tuple : (defScope s__law_right).names.lookup (("tuple" : Str)) = some .globalImplicit := by kernel_rfl
theorem g__law_right_uneven : (defScope s__law_right).names.lookup (("uneven" : Str)) = some .globalImplicit := by kernel_rfl
theorem g__law_right_weakest_yard : (defScope s__law_right).names.lookup (("weakest_yard" : Str)) = some .globalImplicit := by kernel_rfl
theorem w__law_right (c : Fx K mg) : DOk PR w K mg base 10 "_law_right" ["pot"] (spP m__law_right) := by
  refine ok_pot (N := ["pot", "one", "other", "both_so", "mine", "its", "first", "end", "row", "low", "band", "wide", "bad", "part", "more", "much", "far", "back", "yard", "begin", "strand"]) (k := 9) c.f__law_right sc__law_right (fun _ _ _ _ _ _ us hl => match us, hl with | [_], _ => rfl) ?_ ?_
  · intro ds s r s' h
    match ds, h with
    | [], _ => rfl
  · intro ds p hl
    match ds, hl with
    | [], _ =>
      intro cdv A outer s F E hr
      show JS _ _ _ _ (b__law_right) _
      unfold b__law_right
      exact (js_nf [.pot, .unk, .unk, .unk, .unk, .unk, .unk, .unk, .unk, .unk, .unk, .unk, .unk, .unk, .unk, .unk, .unk, .unk, .unk, .unk, .unk] rfl (js_par2 (i := 1) (j := 2) rfl sc__law_right.nd rfl rfl (by decide) rfl rfl (JE.x (je_callPO (i := 0) (w__law_thread c) hr (by decide) g__law_right__law_thread rfl (.inl rfl) rfl (ja_cons je_int fun x1882 => ja_nil))) (JE.x (je_callPO (i := 0) (w__law_thread c) hr (by decide) g__law_right__law_thread rfl (.inl rfl) rfl (ja_cons je_int fun x1883 => ja_nil))) fun d1884 d1885 => (js_nf [.pot, .val d1884, .val d1885, .unk, .unk, .unk, .unk, .unk, .unk, .unk, .unk, .unk, .unk, .unk, .unk, .unk, .unk, .unk, .unk, .unk, .unk] rfl (js_unpack (je_tup (ja_cons (je_bin od_add (je_nm n__law_right_one rfl) (je_nm n__law_right_other rfl)) fun x1888 => (ja_cons (je_callO (w__law_by_yard c) hr (by decide) g__law_right__law_by_yard (ja_cons (je_nm n__law_right_one rfl) fun x1889 => ja_nil)) fun x1890 => (ja_cons (je_callO (w__law_by_yard c) hr (by decide) g__law_right__law_by_yard (ja_cons (je_nm n__law_right_other rfl) fun x1891 => ja_nil)) fun x1892 => ja_nil)))) (pgd_3 rfl (pgd_n 3 sc__law_right.nd rfl (.inl rfl)) (pgd_n 4 sc__law_right.nd rfl (.inr rfl)) (pgd_n 5 sc__law_right.nd rfl (.inr rfl))) (ji_3 fun d1893 d1894 d1895 => (js_nf [.pot, .val d1884, .val d1885, .val d1893, .val d1894, .val d1895, .unk, .unk, .unk, .unk, .unk, .unk, .unk, .unk, .unk, .unk, .unk, .unk, .unk, .unk, .unk] rfl (js_unpack (je_callO (w_span c) hr (by decide) g__law_right_span (ja_cons (je_nm n__law_right_both_so rfl) fun x1896 => ja_nil)) (pgd_2 rfl (pgd_n 6 sc__law_right.nd rfl (.inl rfl)) (pgd_n 7 sc__law_right.nd rfl (.inr rfl))) (ji_2 fun d1897 d1898 => (js_nf [.pot, .val d1884, .val d1885, .val d1893, .val d1894, .val d1895, .val d1897, .val d1898, .unk, .unk, .unk, .unk, .unk, .unk, .unk, .unk, .unk, .unk, .unk, .unk, .unk] rfl (js_ifret (jt_cmp (ob_ne hr.units) (JE.v (je_tup (ja_cons (je_nm n__law_right_first rfl) fun x1899 => (ja_cons (je_nm n__law_right_end rfl) fun x1900 => ja_nil)))) (JE.v (je_tup (ja_cons (je_callB (cd_min2 rfl) g__law_right_min c.n_min (by decide +kernel) (jav_cons (JE.v (je_ix (JE.v (je_callO (w_span c) hr (by decide) g__law_right_span (ja_cons (je_nm n__law_right_one rfl) fun x1902 => ja_nil))) je_int)) fun x1904 => (jav_cons (JE.v (je_ix (JE.v (je_callO (w_span c) hr (by decide) g__law_right_span (ja_cons (je_nm n__law_right_other rfl) fun x1906 => ja_nil))) je_int)) fun x1908 => jav_nil))) fun x1909 => (ja_cons (je_callB (cd_max2 rfl) g__law_right_max c.n_max (by decide +kernel) (jav_cons (JE.v (je_ix (JE.v (je_callO (w_span c) hr (by decide) g__law_right_span (ja_cons (je_nm n__law_right_one rfl) fun x1911 => ja_nil))) je_int)) fun x1913 => (jav_cons (JE.v (je_ix (JE.v (je_callO (w_span c) hr (by decide) g__law_right_span (ja_cons (je_nm n__law_right_other rfl) fun x1915 => ja_nil))) je_int)) fun x1917 => jav_nil))) fun x1918 => ja_nil)))) (by rfl)) (js_nf [.pot, .val d1884, .val d1885, .val d1893, .val d1894, .val d1895, .val d1897, .val d1898, .unk, .unk, .unk, .unk, .unk, .unk, .unk, .unk, .unk, .unk, .unk, .unk, .unk] rfl (js_ret0 je_bl)) (js_nf [.pot, .val d1884, .val d1885, .val d1893, .val d1894, .val d1895, .val d1897, .val d1898, .unk, .unk, .unk, .unk, .unk, .unk, .unk, .unk, .unk, .unk, .unk, .unk, .unk] rfl (js_asg (i := 8) sc__law_right.nd rfl (.inl rfl) (JE.x (je_callO (w_strengths c) hr (by decide) g__law_right_strengths (ja_cons (je_nm n__law_right_both_so rfl) fun x1923 => ja_nil))) fun d1924 => (js_nf [.pot, .val d1884, .val d1885, .val d1893, .val d1894, .val d1895, .val d1897, .val d1898, .val d1924, .unk, .unk, .unk, .unk, .unk, .unk, .unk, .unk, .unk, .unk, .unk, .unk] rfl (js_ifret (JW.t (jw_or (jt_cmp (ob_ne hr.units) (JE.v (je_nm n__law_right_row rfl)) (JE.v (je_callTy cd_tuple g__law_right_tuple c.n_tuple (by decide +kernel) (jav_cons (JE.v (je_lc rfl sc__law_right.nd (ji_range2 g__law_right_range c.n_range (ja_cons (je_nm n__law_right_first rfl) fun x1925 => (ja_cons (je_nm n__law_right_end rfl) fun x1926 => ja_nil))) (blk (own := [("yard", 18)]) (by kernel_rfl)) (fun _ _ _ _ _ => (pgd_n 18 sc__law_right.nd rfl (.inl rfl))) (ji_n fun d1927 => .plain (fun _ _ _ _ _ => je_nf [.pot, .val d1884, .val d1885, .val d1893, .val d1894, .val d1895, .val d1897, .val d1898, .val d1924, .unk, .unk, .unk, .unk, .unk, .unk, .unk, .unk, .unk, .val d1927, .unk, .unk] rfl (je_bin od_add (je_get hr.units (je_name 4 rfl (.inr (.inl rfl)) rfl) (je_name 18 rfl (.inl rfl) rfl) je_int) (je_get hr.units (je_name 5 rfl (.inr (.inl rfl)) rfl) (je_name 18 rfl (.inl rfl) rfl) je_int)))))) fun x1940 => jav_nil))) (by rfl)) (jw_or1 (jt_cmp (ob_ne hr.units) (JE.v (je_callO (w_strengths c) hr (by decide) g__law_right_strengths (ja_cons (je_bin od_add (je_nm n__law_right_other rfl) (je_nm n__law_right_one rfl)) fun x1946 => ja_nil))) (JE.v (je_nm n__law_right_row rfl)) (by rfl))))) (js_nf [.pot, .val d1884, .val d1885, .val d1893, .val d1894, .val d1895, .val d1897, .val d1898, .val d1924, .unk, .unk, .unk, .unk, .unk, .unk, .unk, .unk, .unk, .unk, .unk, .unk] rfl (js_ret0 je_bl)) (js_nf [.pot, .val d1884, .val d1885, .val d1893, .val d1894, .val d1895, .val d1897, .val d1898, .val d1924, .unk, .unk, .unk, .unk, .unk, .unk, .unk, .unk, .unk, .unk, .unk, .unk] rfl (js_asg (i := 9) sc__law_right.nd rfl (.inl rfl) (JE.x (je_callTy cd_int g__law_right_int c.n_int (by decide +kernel) (jav_cons (JE.v (je_callPO (i := 0) (w__law_take c) hr (by decide) g__law_right__law_take rfl (.inl rfl) rfl (ja_cons (je_bin od_add (je_callB (cd_max rfl hr.units) g__law_right_max c.n_max (by decide +kernel) (jav_cons (JE.v (je_nm n__law_right_row rfl)) fun x1952 => jav_nil)) je_int) fun x1955 => ja_nil))) fun x1956 => jav_nil))) fun d1957 => (js_nf [.pot, .val d1884, .val d1885, .val d1893, .val d1894, .val d1895, .val d1897, .val d1898, .val d1924, .val d1957, .unk, .unk, .unk, .unk, .unk, .unk, .unk, .unk, .unk, .unk, .unk] rfl (js_asg (i := 10) sc__law_right.nd rfl (.inl rfl) (JE.x (je_tup (ja_cons (je_nm n__law_right_low rfl) fun x1958 => (ja_cons (je_callB (cd_min2 rfl) g__law_right_min c.n_min (by decide +kernel) (jav_cons (JE.v je_int) fun x1959 => (jav_cons (JE.v (je_bin od_add (je_nm n__law_right_low rfl) (je_callTy cd_int g__law_right_int c.n_int (by decide +kernel) (jav_cons (JE.v (je_callPO (i := 0) (w__law_take c) hr (by decide) g__law_right__law_take rfl (.inl rfl) rfl (ja_cons (je_bin od_add (je_callB (cd_max rfl hr.units) g__law_right_max c.n_max (by decide +kernel) (jav_cons (JE.v (je_nm n__law_right_row rfl)) fun x1960 => jav_nil)) je_int) fun x1963 => ja_nil))) fun x1964 => jav_nil)))) fun x1967 => jav_nil))) fun x1968 => ja_nil)))) fun d1969 => (js_nf [.pot, .val d1884, .val d1885, .val d1893, .val d1894, .val d1895, .val d1897, .val d1898, .val d1924, .val d1957, .val d1969, .unk, .unk, .unk, .unk, .unk, .unk, .unk, .unk, .unk, .unk] rfl (js_asg (i := 11) sc__law_right.nd rfl (.inl rfl) (JE.x (je_tup (ja_cons (je_callB (cd_max2 rfl) g__law_right_max c.n_max (by decide +kernel) (jav_cons (JE.v je_int) fun x1970 => (jav_cons (JE.v (je_bin od_sub (je_ix (JE.v (je_nm n__law_right_band rfl)) je_int) je_int)) fun x1975 => jav_nil))) fun x1976 => (ja_cons (je_callB (cd_min2 rfl) g__law_right_min c.n_min (by decide +kernel) (jav_cons (JE.v je_int) fun x1977 => (jav_cons (JE.v (je_bin od_add (je_ix (JE.v (je_nm n__law_right_band rfl)) je_int) je_int)) fun x1982 => jav_nil))) fun x1983 => ja_nil)))) fun d1984 => (js_nf [.pot, .val d1884, .val d1885, .val d1893, .val d1894, .val d1895, .val d1897, .val d1898, .val d1924, .val d1957, .val d1969, .val d1984, .unk, .unk, .unk, .unk, .unk, .unk, .unk, .unk, .unk] rfl (js_asg (i := 12) sc__law_right.nd rfl (.inr rfl) (JE.x (je_callO (w_uneven c) hr (by decide) g__law_right_uneven (ja_cons (je_nm n__law_right_both_so rfl) fun x1985 => (ja_cons (je_nm n__law_right_band rfl) fun x1986 => ja_nil)))) fun d1987 => (js_nf [.pot, .val d1884, .val d1885, .val d1893, .val d1894, .val d1895, .val d1897, .val d1898, .val d1924, .val d1957, .val d1969, .val d1984, .val d1987, .unk, .unk, .unk, .unk, .unk, .unk, .unk, .unk] rfl (js_ifret (jt_not (jt_val (je_callO (w__law_is_band_right c) hr (by decide) g__law_right__law_is_band_right (ja_cons (je_nm n__law_right_both_so rfl) fun x1988 => (ja_cons (je_nm n__law_right_row rfl) fun x1989 => (ja_cons (je_nm n__law_right_first rfl) fun x1990 => (ja_cons (je_nm n__law_right_band rfl) fun x1991 => ja_nil))))))) (js_nf [.pot, .val d1884, .val d1885, .val d1893, .val d1894, .val d1895, .val d1897, .val d1898, .val d1924, .val d1957, .val d1969, .val d1984, .val d1987, .unk, .unk, .unk, .unk, .unk, .unk, .unk, .unk] rfl (js_ret0 je_bl)) (js_nf [.pot, .val d1884, .val d1885, .val d1893, .val d1894, .val d1895, .val d1897, .val d1898, .val d1924, .val d1957, .val d1969, .val d1984, .val d1987, .unk, .unk, .unk, .unk, .unk, .unk, .unk, .unk] rfl (js_ifret (JW.t (jw_or (jt_not (jt_val (je_callB (cd_all rfl) g__law_right_all c.n_all (by decide +kernel) (jav_cons (JE.v (je_lc rfl sc__law_right.nd (ji_seq (je_callO (w_uneven c) hr (by decide) g__law_right_uneven (ja_cons (je_nm n__law_right_both_so rfl) fun x1995 => (ja_cons (je_nm n__law_right_wide rfl) fun x1996 => ja_nil)))) (blk (own := [("yard", 18)]) (by kernel_rfl)) (fun _ _ _ _ _ => (pgd_n 18 sc__law_right.nd rfl (.inl rfl))) (ji_n fun d1998 => .plain (fun _ _ _ _ _ => je_nf [.pot, .val d1884, .val d1885, .val d1893, .val d1894, .val d1895, .val d1897, .val d1898, .val d1924, .val d1957, .val d1969, .val d1984, .val d1987, .unk, .unk, .unk, .unk, .unk, .val d1998, .unk, .unk] rfl (je_cmp (ob_in hr.units) (JE.v (je_name 18 rfl (.inl rfl) rfl)) (JE.v (je_name 12 rfl (.inr (.inl rfl)) rfl)) (by rfl)))))) fun x2006 => jav_nil)))) (jw_or1 (JW.t (jw_and (jt_val (je_callO (w_is_even c) hr (by decide) g__law_right_is_even (ja_cons (je_nm n__law_right_both_so rfl) fun x2009 => (ja_cons (je_nm n__law_right_band rfl) fun x2010 => ja_nil)))) (jw_and1 (jt_not (jt_val (je_callO (w_is_even c) hr (by decide) g__law_right_is_even (ja_cons (je_nm n__law_right_both_so rfl) fun x2012 => (ja_cons (je_nm n__law_right_wide rfl) fun x2013 => ja_nil))))))))))) (js_nf [.pot, .val d1884, .val d1885, .val d1893, .val d1894, .val d1895, .val d1897, .val d1898, .val d1924, .val d1957, .val d1969, .val d1984, .val d1987, .unk, .unk, .unk, .unk, .unk, .unk, .unk, .unk] rfl (js_ret0 je_bl)) (js_nf [.pot, .val d1884, .val d1885, .val d1893, .val d1894, .val d1895, .val d1897, .val d1898, .val d1924, .val d1957, .val d1969, .val d1984, .val d1987, .unk, .unk, .unk, .unk, .unk, .unk, .unk, .unk] rfl (js_unpack (je_tup (ja_cons (je_callO (w_even_part c) hr (by decide) g__law_right_even_part (ja_cons (je_nm n__law_right_both_so rfl) fun x2019 => (ja_cons (je_nm n__law_right_band rfl) fun x2020 => ja_nil))) fun x2021 => (ja_cons (je_callO (w_even_part c) hr (by decide) g__law_right_even_part (ja_cons (je_nm n__law_right_both_so rfl) fun x2022 => (ja_cons (je_nm n__law_right_wide rfl) fun x2023 => ja_nil))) fun x2024 => ja_nil))) (pgd_2 rfl (pgd_n 13 sc__law_right.nd rfl (.inr rfl)) (pgd_n 14 sc__law_right.nd rfl (.inl rfl))) (ji_2 fun d2025 d2026 => (js_nf [.pot, .val d1884, .val d1885, .val d1893, .val d1894, .val d1895, .val d1897, .val d1898, .val d1924, .val d1957, .val d1969, .val d1984, .val d1987, .val d2025, .val d2026, .unk, .unk, .unk, .unk, .unk, .unk] rfl (js_ifret (JW.t (jw_and (jt_cmp ob_isnt (JE.v (je_nm n__law_right_part rfl)) (JE.v je_non) (by rfl)) (jw_and1 (JW.t (jw_or (jt_cmp ob_is (JE.v (je_nm n__law_right_more rfl)) (JE.v je_non) (by rfl)) (jw_or1 (jt_cmp ob_lt (JE.v (je_bin od_sub (je_ix (JE.v (je_nm n__law_right_more rfl)) je_int) (je_ix (JE.v (je_nm n__law_right_more rfl)) je_int))) (JE.v (je_bin od_sub (je_ix (JE.v (je_nm n__law_right_part rfl)) je_int) (je_ix (JE.v (je_nm n__law_right_part rfl)) je_int))) (by rfl)))))))) (js_nf [.pot, .val d1884, .val d1885, .val d1893, .val d1894, .val d1895, .val d1897, .val d1898, .val d1924, .val d1957, .val d1969, .val d1984, .val d1987, .val d2025, .val d2026, .unk, .unk, .unk, .unk, .unk, .unk] rfl (js_ret0 je_bl)) (js_nf [.pot, .val d1884, .val d1885, .val d1893, .val d1894, .val d1895, .val d1897, .val d1898, .val d1924, .val d1957, .val d1969, .val d1984, .val d1987, .val d2025, .val d2026, .unk, .unk, .unk, .unk, .unk, .unk] rfl (js_ifret (JW.t (jw_and (jt_cmp ob_isnt (JE.v (je_nm n__law_right_part rfl)) (JE.v je_non) (by rfl)) (jw_and1 (jt_val (je_callB (cd_any rfl) g__law_right_any c.n_any (by decide +kernel) (jav_cons (JE.v (je_lc rfl sc__law_right.nd (ji_seq (je_nm n__law_right_bad rfl)) (blk (own := [("yard", 18)]) (by kernel_rfl)) (fun _ _ _ _ _ => (pgd_n 18 sc__law_right.nd rfl (.inl rfl))) (ji_n fun d2055 => .plain (fun _ _ _ _ _ => je_nf [.pot, .val d1884, .val d1885, .val d1893, .val d1894, .val d1895, .val d1897, .val d1898, .val d1924, .val d1957, .val d1969, .val d1984, .val d1987, .val d2025, .val d2026, .unk, .unk, .unk, .val d2055, .unk, .unk] rfl (je_chain ob_le ob_lt (JE.v (je_ix (JE.v (je_name 13 rfl (.inr (.inl rfl)) rfl)) je_int)) (JE.v (je_name 18 rfl (.inl rfl) rfl)) (JE.v (je_ix (JE.v (je_name 13 rfl (.inr (.inl rfl)) rfl)) je_int))))))) fun x2069 => jav_nil)))))) (js_nf [.pot, .val d1884, .val d1885, .val d1893, .val d1894, .val d1895, .val d1897, .val d1898, .val d1924, .val d1957, .val d1969, .val d1984, .val d1987, .val d2025, .val d2026, .unk, .unk, .unk, .unk, .unk, .unk] rfl (js_ret0 je_bl)) (js_nf [.pot, .val d1884, .val d1885, .val d1893, .val d1894, .val d1895, .val d1897, .val d1898, .val d1924, .val d1957, .val d1969, .val d1984, .val d1987, .val d2025, .val d2026, .unk, .unk, .unk, .unk, .unk, .unk] rfl (js_asg (i := 15) sc__law_right.nd rfl (.inr rfl) (JE.x (je_callTy cd_int g__law_right_int c.n_int (by decide +kernel) (jav_cons (JE.v (je_callPO (i := 0) (w__law_take c) hr (by decide) g__law_right__law_take rfl (.inl rfl) rfl (ja_cons je_int fun x2073 => ja_nil))) fun x2074 => jav_nil))) fun d2075 => (js_nf [.pot, .val d1884, .val d1885, .val d1893, .val d1894, .val d1895, .val d1897, .val d1898, .val d1924, .val d1957, .val d1969, .val d1984, .val d1987, .val d2025, .val d2026, .val d2075, .unk, .unk, .unk, .unk, .unk] rfl (js_asg (i := 16) sc__law_right.nd rfl (.inl rfl) (JE.x (je_callO (w_moved c) hr (by decide) g__law_right_moved (ja_cons (je_nm n__law_right_both_so rfl) fun x2076 => (ja_cons (je_nm n__law_right_much rfl) fun x2077 => ja_nil)))) fun d2078 => (js_nf [.pot, .val d1884, .val d1885, .val d1893, .val d1894, .val d1895, .val d1897, .val d1898, .val d1924, .val d1957, .val d1969, .val d1984, .val d1987, .val d2025, .val d2026, .val d2075, .val d2078, .unk, .unk, .unk, .unk] rfl (js_ifret (JW.t (jw_or (jt_cmp (ob_ne hr.units) (JE.v (je_callO (w_strengths c) hr (by decide) g__law_right_strengths (ja_cons (je_nm n__law_right_far rfl) fun x2079 => ja_nil))) (JE.v (je_nm n__law_right_row rfl)) (by rfl)) (jw_or (jt_cmp (ob_ne hr.units) (JE.v (je_callO (w_span c) hr (by decide) g__law_right_span (ja_cons (je_nm n__law_right_far rfl) fun x2083 => ja_nil))) (JE.v (je_tup (ja_cons (je_bin od_add (je_nm n__law_right_first rfl) (je_nm n__law_right_much rfl)) fun x2086 => (ja_cons (je_bin od_add (je_nm n__law_right_end rfl) (je_nm n__law_right_much rfl)) fun x2089 => ja_nil)))) (by rfl)) (jw_or1 (jt_cmp (ob_ne hr.units) (JE.v (je_callO (w_uneven c) hr (by decide) g__law_right_uneven (ja_cons (je_nm n__law_right_far rfl) fun x2093 => (ja_cons (je_nm n__law_right_band rfl) fun x2094 => ja_nil)))) (JE.v (je_callTy cd_tuple g__law_right_tuple c.n_tuple (by decide +kernel) (jav_cons (JE.v (je_lc rfl sc__law_right.nd (ji_seq (je_nm n__law_right_bad rfl)) (blk (own := [("yard", 18)]) (by kernel_rfl)) (fun _ _ _ _ _ => (pgd_n 18 sc__law_right.nd rfl (.inl rfl))) (ji_n fun d2096 => .plain (fun _ _ _ _ _ => je_nf [.pot, .val d1884, .val d1885, .val d1893, .val d1894, .val d1895, .val d1897, .val d1898, .val d1924, .val d1957, .val d1969, .val d1984, .val d1987, .val d2025, .val d2026, .val d2075, .val d2078, .unk, .val d2096, .unk, .unk] rfl (je_bin od_add (je_name 18 rfl (.inl rfl) rfl) (je_name 15 rfl (.inr (.inl rfl)) rfl)))))) fun x2103 => jav_nil))) (by rfl)))))) (js_nf [.pot, .val d1884, .val d1885, .val d1893, .val d1894, .val d1895, .val d1897, .val d1898, .val d1924, .val d1957, .val d1969, .val d1984, .val d1987, .val d2025, .val d2026, .val d2075, .val d2078, .unk, .unk, .unk, .unk] rfl (js_ret0 je_bl)) (js_nf [.pot, .val d1884, .val d1885, .val d1893, .val d1894, .val d1895, .val d1897, .val d1898, .val d1924, .val d1957, .val d1969, .val d1984, .val d1987, .val d2025, .val d2026, .val d2075, .val d2078, .unk, .unk, .unk, .unk] rfl (js_ifret (JW.t (jw_or (jt_cmp (ob_ne hr.units) (JE.v (je_callO (w_weakest_yard c) hr (by decide) g__law_right_weakest_yard (ja_cons (je_nm n__law_right_far rfl) fun x2110 => ja_nil))) (JE.v (je_tup (ja_cons (je_ix (JE.v (je_callO (w_weakest_yard c) hr (by decide) g__law_right_weakest_yard (ja_cons (je_nm n__law_right_both_so rfl) fun x2112 => ja_nil))) je_int) fun x2114 => (ja_cons (je_bin od_add (je_ix (JE.v (je_callO (w_weakest_yard c) hr (by decide) g__law_right_weakest_yard (ja_cons (je_nm n__law_right_both_so rfl) fun x2116 => ja_nil))) je_int) (je_nm n__law_right_much rfl)) fun x2120 => ja_nil)))) (by rfl)) (jw_or1 (jt_cmp (ob_ne hr.units) (JE.v (je_callO (w_joins c) hr (by decide) g__law_right_joins (ja_cons (je_nm n__law_right_far rfl) fun x2124 => ja_nil))) (JE.v (je_callTy cd_tuple g__law_right_tuple c.n_tuple (by decide +kernel) (jav_cons (JE.v (je_lc rfl sc__law_right.nd (ji_seq (je_callO (w_joins c) hr (by decide) g__law_right_joins (ja_cons (je_nm n__law_right_both_so rfl) fun x2125 => ja_nil))) (blk (own := [("yard", 18)]) (by kernel_rfl)) (fun _ _ _ _ _ => (pgd_n 18 sc__law_right.nd rfl (.inl rfl))) (ji_n fun d2127 => .plain (fun _ _ _ _ _ => je_nf [.pot, .val d1884, .val d1885, .val d1893, .val d1894, .val d1895, .val d1897, .val d1898, .val d1924, .val d1957, .val d1969, .val d1984, .val d1987, .val d2025, .val d2026, .val d2075, .val d2078, .unk, .val d2127, .unk, .unk] rfl (je_bin od_add (je_name 18 rfl (.inl rfl) rfl) (je_name 15 rfl (.inr (.inl rfl)) rfl)))))) fun x2134 => jav_nil))) (by rfl))))) (js_nf [.pot, .val d1884, .val d1885, .val d1893, .val d1894, .val d1895, .val d1897, .val d1898, .val d1924, .val d1957, .val d1969, .val d1984, .val d1987, .val d2025, .val d2026, .val d2075, .val d2078, .unk, .unk, .unk, .unk] rfl (js_ret0 je_bl)) (js_nf [.pot, .val d1884, .val d1885, .val d1893, .val d1894, .val d1895, .val d1897, .val d1898, .val d1924, .val d1957, .val d1969, .val d1984, .val d1987, .val d2025, .val d2026, .val d2075, .val d2078, .unk, .unk, .unk, .unk] rfl (js_ifret (JW.t (jw_or (jt_cmp (ob_ne hr.units) (JE.v (je_callO (w_least_band c) hr (by decide) g__law_right_least_band (ja_cons (je_nm n__law_right_far rfl) fun x2140 => ja_nil))) (JE.v (je_callO (w_least_band c) hr (by decide) g__law_right_least_band (ja_cons (je_nm n__law_right_both_so rfl) fun x2141 => ja_nil))) (by rfl)) (jw_or (jt_cmp (ob_ne hr.units) (JE.v (je_callO (w_spread c) hr (by decide) g__law_right_spread (ja_cons (je_nm n__law_right_far rfl) fun x2145 => ja_nil))) (JE.v (je_callO (w_spread c) hr (by decide) g__law_right_spread (ja_cons (je_nm n__law_right_both_so rfl) fun x2146 => ja_nil))) (by rfl)) (jw_or1 (jt_cmp (ob_ne hr.units) (JE.v (je_callO (w_beside c) hr (by decide) g__law_right_beside (ja_cons (je_nm n__law_right_far rfl) fun x2150 => ja_nil))) (JE.v (je_callO (w_beside c) hr (by decide) g__law_right_beside (ja_cons (je_nm n__law_right_both_so rfl) fun x2151 => ja_nil))) (by rfl)))))) (js_nf [.pot, .val d1884, .val d1885, .val d1893, .val d1894, .val d1895, .val d1897, .val d1898, .val d1924, .val d1957, .val d1969, .val d1984, .val d1987, .val d2025, .val d2026, .val d2075, .val d2078, .unk, .unk, .unk, .unk] rfl (js_ret0 je_bl)) (js_nf [.pot, .val d1884, .val d1885, .val d1893, .val d1894, .val d1895, .val d1897, .val d1898, .val d1924, .val d1957, .val d1969, .val d1984, .val d1987, .val d2025, .val d2026, .val d2075, .val d2078, .unk, .unk, .unk, .unk] rfl (js_asg (i := 17) sc__law_right.nd rfl (.inl rfl) (JE.x (je_callTy cd_tuple g__law_right_tuple c.n_tuple (by decide +kernel) (jav_cons (JE.v (je_lc rfl sc__law_right.nd (ji_seq (je_nm n__law_right_both_so rfl)) (blk (own := [("begin", 19), ("strand", 20)]) (by kernel_rfl)) (fun _ _ _ _ _ => (pgd_2 rfl (pgd_n 19 sc__law_right.nd rfl (.inl rfl)) (pgd_n 20 sc__law_right.nd rfl (.inl rfl)))) (ji_2 fun d2159 d2160 => .plain (fun _ _ _ _ _ => je_nf [.pot, .val d1884, .val d1885, .val d1893, .val d1894, .val d1895, .val d1897, .val d1898, .val d1924, .val d1957, .val d1969, .val d1984, .val d1987, .val d2025, .val d2026, .val d2075, .val d2078, .unk, .unk, .val d2159, .val d2160] rfl (je_tup (ja_cons (je_bin od_sub (je_bin od_sub (je_name 7 rfl (.inr (.inl rfl)) rfl) (je_name 19 rfl (.inl rfl) rfl)) (je_callB cd_len rfl c.n_len (by decide +kernel) (jav_cons (JE.v (je_name 20 rfl (.inl rfl) rfl)) fun x2163 => jav_nil))) fun x2166 => (ja_cons (je_callO (w_turned c) hr (by decide) rfl (ja_cons (je_name 20 rfl (.inl rfl) rfl) fun x2167 => ja_nil)) fun x2168 => ja_nil))))))) fun x2173 => jav_nil))) fun d2174 => (js_nf [.pot, .val d1884, .val d1885, .val d1893, .val d1894, .val d1895, .val d1897, .val d1898, .val d1924, .val d1957, .val d1969, .val d1984, .val d1987, .val d2025, .val d2026, .val d2075, .val d2078, .val d2174, .unk, .unk, .unk] rfl (js_ifret (JW.t (jw_or (jt_cmp (ob_ne hr.units) (JE.v (je_callO (w_strengths c) hr (by decide) g__law_right_strengths (ja_cons (je_nm n__law_right_back rfl) fun x2175 => ja_nil))) (JE.v (je_revT (je_nm n__law_right_row rfl))) (by rfl)) (jw_or (jt_cmp (ob_ne hr.units) (JE.v (je_callO (w_beside c) hr (by decide) g__law_right_beside (ja_cons (je_nm n__law_right_back rfl) fun x2180 => ja_nil))) (JE.v (je_revT (je_callO (w_beside c) hr (by decide) g__law_right_beside (ja_cons (je_nm n__law_right_both_so rfl) fun x2181 => ja_nil)))) (by rfl)) (jw_or1 (jt_cmp (ob_ne hr.units) (JE.v (je_callO (w_needless c) hr (by decide) g__law_right_needless (ja_cons (je_nm n__law_right_back rfl) fun x2186 => (ja_cons (je_nm n__law_right_band rfl) fun x2187 => ja_nil)))) (JE.v (je_callO (w_needless c) hr (by decide) g__law_right_needless (ja_cons (je_nm n__law_right_both_so rfl) fun x2188 => (ja_cons (je_nm n__law_right_band rfl) fun x2189 => ja_nil)))) (by rfl)))))) (js_nf [.pot, .val d1884, .val d1885, .val d1893, .val d1894, .val d1895, .val d1897, .val d1898, .val d1924, .val d1957, .val d1969, .val d1984, .val d1987, .val d2025, .val d2026, .val d2075, .val d2078, .val d2174, .unk, .unk, .unk] rfl (js_ret0 je_bl)) (js_nf [.pot, .val d1884, .val d1885, .val d1893, .val d1894, .val d1895, .val d1897, .val d1898, .val d1924, .val d1957, .val d1969, .val d1984, .val d1987, .val d2025, .val d2026, .val d2075, .val d2078, .val d2174, .unk, .unk, .unk] rfl (js_ret0 (je_and (je_callPO (i := 0) (w__law_are_cuts_right c) hr (by decide) g__law_right__law_are_cuts_right rfl (.inl rfl) rfl (ja_cons (je_nm n__law_right_both_so rfl) fun x2196 => (ja_cons (je_nm n__law_right_row rfl) fun x2197 => ja_nil))) (je_and (je_callPO (i := 0) (w__law_are_strands_right c) hr (by decide) g__law_right__law_are_strands_right rfl (.inl rfl) rfl (ja_cons (je_nm n__law_right_one rfl) fun x2198 => ja_nil)) (je_one (je_callPO (i := 0) (w__law_are_loose_right c) hr (by decide) g__law_right__law_are_loose_right rfl (.inl rfl) rfl (ja_cons (je_nm n__law_right_both_so rfl) fun x2199 => (ja_cons (je_nm n__law_right_row rfl) fun x2200 => (ja_cons (je_nm n__law_right_band rfl) fun x2201 => ja_nil))))))))) fun _ _ => nofun)))) fun _ _ => nofun)) fun _ _ => nofun)) fun _ _ => nofun)))))) fun _ _ => nofun)) fun _ _ => nofun))))) fun _ _ => nofun)) fun _ _ => nofun)))))))))) fun _ _ => nofun)))) fun _ _ => nofun))))))))))
abbrev s_law : Stmt := topS 88
theorem sc_law : FnScope ["script", "place", "pot", "lap"] ["script"] (defScope s_law) := ⟨rfl, rfl, rfl, by decide +kernel, rfl, by decide +kernel, by decide +kernel⟩
theorem n_law_place : NmF (defScope s_law) ["script", "place", "pot", "lap"] 1 "place" := ⟨rfl, (.inl (by kernel_rfl)), by decide, by decide⟩
theorem n_law_script : NmF (defScope s_law) ["script", "place", "pot", "lap"] 0 "script" := ⟨rfl, (.inl (by kernel_rfl)), by decide, by decide⟩
theorem g_law__law_places : (defScope s_law).names.lookup (("_law_places" : Str)) = some .globalImplicit := by kernel_rfl
theorem g_law__law_pot : (defScope s_law).names.lookup (("_law_pot" : Str)) = some .globalImplicit := by kernel_rfl
theorem g_law_all : (defScope s_law).names.lookup (("all" : Str)) = some .globalImplicit := by kernel_rfl
theorem g_law_range : (defScope s_law).names.lookup (("range" : Str)) = some .globalImplicit := by kernel_rfl
theorem w_law (c : Fx K mg) {fd : FuncData} (Fn : Fun K "law" "law" (topS 88) (He.ga K "law") fd) : FnOk PR w K mg base CX0 11 (He.ga K "law") fd ["script"] (spScr K m_law) := by
  refine fn_scr (N := ["script", "place", "pot", "lap"]) (k := 10) Fn sc_law (mb := fun ns ds => match ds with | [] => b_law ns | _ => fail) ?_ ?_
  · intro ns ds r h
    match ds, h with
    | [], h => exact ⟨rfl, h⟩
  · intro ns ds hl
    match ds, hl with
    | [], _ =>
      intro cdv A outer s F E hr
      show JS _ _ _ _ (b_law ns) _
      unfold b_law
      exact js_nf [.scr ns, .unk, .unk, .unk] rfl (js_forK (r := fun d => d) (emb := fun _ : Unit => [.scr ns, .unk, .unk, .unk]) (a0 := ()) PassesOwn.never rfl (ji_seq (je_callSO (w__law_places c) hr (by decide) g_law__law_places n_law_script rfl (ja_cons je_int fun _ => ja_nil))) (pgd_n 1 sc_law.nd rfl (.inl rfl)) (.e (.e (.e (.e .nil)))) (fun _ => ji_n fun d => js_nf [.scr ns, .val d, .unk, .unk] rfl (js_withPot (w__law_pot c) hr (by decide) g_law__law_pot rfl sc_law.nd n_law_script n_law_place (.inr rfl) fun q => (jt_not (jt_val (je_callB (cd_all rfl) g_law_all c.n_all (by decide +kernel) (jav_cons (JE.v (je_lc rfl sc_law.nd (ji_range1 g_law_range c.n_range (ja_cons je_int fun x2209 => ja_nil)) (blk (own := [("lap", 3)]) (by kernel_rfl)) (fun _ _ _ _ _ => (pgd_n 3 sc_law.nd rfl (.inl rfl))) (ji_n fun d2210 => .plain (fun _ _ _ _ _ => je_nf [.unk, .unk, .pot, .val d2210] rfl (je_callPO (i := 2) (w__law_right c) hr (by decide) rfl rfl (.inr (.inl rfl)) rfl ja_nil))))) fun x2215 => jav_nil)))))) (fun _ => js_ret0 je_bl) fun _ => rfl)
end
end K20

set_option Elab.async false
set_option linter.all false
set_option maxRecDepth 100000
set_option maxHeartbeats 2000000
/-! DLEval: mirrors reckoned at encoded data. -/
namespace DL
open PySem PySem.Spec PyProof.Rows L2
open PySem.W (Datum Tup)
open PySem.W (DatumOrd)
section
variable {S α β γ : Type}
theorem B_P (x : α) (f : α → M S β) : B (P x) f = f x := by
  funext s
  rfl
theorem L_s (x : α) : (L (some x) : M S α) = P x := by
  funext s
  rfl
theorem B_B (m : M S α) (f : α → M S β) (g : β → M S γ) : B (B m f) g = B m fun x => B (f x) g := by
  funext s
  show (match (match m s with | some (a, s1) => f a s1 | none => none) with | some (a, s1) => g a s1 | none => none) = (match m s with | some (a, s1) => (match f a s1 with | some (b, s2) => g b s2 | none => none) | none => none)
  cases m s with
  | none => rfl
  | some q => rfl
theorem run0_P (x : α) : run0 (P x) = some x := rfl
theorem mNone_P : mNone (P ()) = some .none := rfl
theorem P_ap (x : α) (s : S) : P x s = some (x, s) := rfl
theorem B_ap {m : M S α} {f : α → M S β} {s s1 : S} {x : α} (h : m s = some (x, s1)) : B m f s = f x s1 := by
  unfold B
  rw [h]
theorem ite_and (b c : Bool) : (if b = true then (P (.bool c) : M S D) else P (.bool false)) = P (.bool (b && c)) := by cases b <;> rfl
theorem ite_or (b c : Bool) : (if b = true then (P (.bool true) : M S D) else P (.bool c)) = P (.bool (b || c)) := by cases b <;> rfl
theorem ite_and' (b c : Bool) : (if b = true then (P c : M S Bool) else P false) = P (b && c) := by cases b <;> rfl
theorem ite_or' (b c : Bool) : (if b = true then (P true : M S Bool) else P c) = P (b || c) := by cases b <;> rfl
theorem ite_Pif (b : Bool) (x y : α) : (if b = true then (P x : M S α) else P y) = P (if b = true then x else y) := by cases b <;> rfl
theorem ite_t (x y : α) : (if true = true then x else y) = x := rfl
theorem ite_f (x y : α) : (if false = true then x else y) = y := rfl
theorem boolD_b (b : Bool) : boolD (.bool b) = some b := rfl
theorem lt_ii (i j : Int) : ltB (.int i) (.int j) = some (decide (i < j)) := rfl
theorem le_ii (i j : Int) : leB (.int i) (.int j) = some (decide (i ≤ j)) := rfl
theorem gt_ii (i j : Int) : gtB (.int i) (.int j) = some (decide (j < i)) := rfl
theorem ge_ii (i j : Int) : geB (.int i) (.int j) = some (decide (j ≤ i)) := rfl
theorem add_ii (i j : Int) : addD (.int i) (.int j) = some (.int (i + j)) := rfl
theorem sub_ii (i j : Int) : subD (.int i) (.int j) = some (.int (i - j)) := rfl
theorem neg_i (i : Int) : negD (.int i) = some (.int (-i)) := rfl
theorem mul_ii {i j : Int} (h : (-(2 ^ 64) < i ∧ i < 2 ^ 64) ∨ (-(2 ^ 64) < j ∧ j < 2 ^ 64)) : mulD (.int i) (.int j) = some (.int (i * j)) := if_pos h
theorem div_ii {i j : Int} (h : 0 < j ∧ j < 1073741824) : divD (.int i) (.int j) = some (.int (i / j)) := if_pos h
theorem mod_ii {i j : Int} (h : 0 < j) : modD (.int i) (.int j) = some (.int (i % j)) := if_pos h
theorem part_i (i : Int) : partD (.int i) = some i := rfl
theorem seq_t (xs : List D) : seqD (.tuple xs) = some xs := rfl
theorem seq_l (xs : List D) : seqD (.list xs) = some xs := rfl
theorem tupD_le {xs : List D} (h : xs.length ≤ 16777216) : tupD xs = some (.tuple xs) := if_pos h
theorem lstD_le {xs : List D} (h : xs.length ≤ 16777216) : lstD xs = some (.list xs) := if_pos h
theorem tup2 (x y : D) : tupD [x, y] = some (.tuple [x, y]) := if_pos (by simp)
theorem tup0 : tupD [] = some (.tuple []) := if_pos (by decide)
theorem lst0 : lstD [] = some (.list []) := if_pos (by decide)
theorem lst1 (x : D) : lstD [x] = some (.list [x]) := if_pos (by simp)
theorem lstS0 : lstS [] = some [] := if_pos (by decide)
theorem tup_l (xs : List D) : tupL [.list xs] = some (.tuple xs) := rfl
theorem tup_t (xs : List D) : tupL [.tuple xs] = some (.tuple xs) := rfl
theorem len_t (xs : List D) : lenD [.tuple xs] = some (.int xs.length) := rfl
theorem len_l (xs : List D) : lenD [.list xs] = some (.int xs.length) := rfl
theorem u2_p {f : D → D → M S β} (x y : D) : u2 (.tuple [x, y]) f = f x y := rfl
theorem isi_tt (xs : List D) : isiD "tuple" (.tuple xs) = some (.bool true) := by
  have h : kitB "tuple" "tuple" = some true := by decide +kernel
  unfold isiD tyN
  rw [h]
  rfl
theorem isi_ii (i : Int) : isiD "int" (.int i) = some (.bool true) := by
  have h : kitB "int" "int" = some true := by decide +kernel
  unfold isiD tyN
  rw [h]
  rfl
theorem isi_bi (i : Int) : isiD "bool" (.int i) = some (.bool false) := by
  have h : kitB "int" "bool" = some false := by decide +kernel
  unfold isiD tyN
  rw [h]
  rfl
theorem isi_ss (i : Str) : isiD "str" (.str i) = some (.bool true) := by
  have h : kitB "str" "str" = some true := by decide +kernel
  unfold isiD tyN
  rw [h]
  rfl
/-! ### comprehensions -/
theorem cmp_map {ι : Type} {e : ι → D} {f : D → M S (Option D)} {g : ι → D} : ∀ {xs : List ι}, (∀ x ∈ xs, f (e x) = P (some (g x))) → cmp (xs.map e) f = P (xs.map g)
  | [], _ => rfl
  | x :: xs, h => by
    show (B (f (e x)) fun o => B (cmp (xs.map e) f) fun r => P _) = _
    rw [h x (by simp), B_P, cmp_map fun y hy => h y (by simp [hy]), B_P]
    rfl
theorem cmp_filter {ι : Type} {e : ι → D} {f : D → M S (Option D)} {p : ι → Bool} {g : ι → D} : ∀ {xs : List ι}, (∀ x ∈ xs, f (e x) = if p x = true then P (some (g x)) else P none) → cmp (xs.map e) f = P ((xs.filter p).map g)
  | [], _ => rfl
  | x :: xs, h => by
    show (B (f (e x)) fun o => B (cmp (xs.map e) f) fun r => P _) = _
    rw [h x (by simp), cmp_filter (p := p) (g := g) fun y hy => h y (by simp [hy])]
    cases c : p x
    · rw [if_neg (by simp), B_P, B_P, List.filter_cons_of_neg (by simp [c])]
    · rw [if_pos rfl, B_P, B_P, List.filter_cons_of_pos c]
      rfl
theorem all_bools {ι : Type} (p : ι → Bool) (xs : List ι) : allD [.list (xs.map fun x => .bool (p x))] = some (.bool (xs.all p)) := by
  show (biD (fun ds => ds.all PyData.truthy) (xs.map fun x => .bool (p x))) = _
  unfold biD
  rw [if_pos (by rw [List.all_map]; exact List.all_eq_true.mpr fun _ _ => rfl)]
  show some (PyData.bool ((xs.map fun x => PyData.bool (p x)).all PyData.truthy)) = _
  rw [List.all_map]
  rfl
theorem any_bools {ι : Type} (p : ι → Bool) (xs : List ι) : anyD [.list (xs.map fun x => .bool (p x))] = some (.bool (xs.any p)) := by
  show (biD (fun ds => ds.any PyData.truthy) (xs.map fun x => .bool (p x))) = _
  unfold biD
  rw [if_pos (by rw [List.all_map]; exact List.all_eq_true.mpr fun _ _ => rfl)]
  show some (PyData.bool ((xs.map fun x => PyData.bool (p x)).any PyData.truthy)) = _
  rw [List.any_map]
  rfl
/-! ### numbers -/
def eI (xs : List Int) : List D := xs.map .int
theorem eI_len (xs : List Int) : (eI xs).length = xs.length := by simp [eI]
theorem sum_ints (xs : List Int) : sumL [.list (eI xs)] = some (.int xs.sum) := by
  show (intsOf (xs.map .int)).map _ = _
  rw [intsOf_ints]
  rfl
theorem okD_dat {α : Type} [DecidableEq α] [Datum α] (a : α) (h : Datum.depth α ≤ 40) : okD (Datum.toD a) = true := by
  unfold okD
  rw [Datum.plain, Bool.true_and, decide_eq_true_eq]
  exact Nat.le_trans (Datum.depth_le a) h
theorem eq_dat {α : Type} [DecidableEq α] [Datum α] (a b : α) (h : Datum.depth α ≤ 40) : eqB (Datum.toD a) (Datum.toD b) = some (decide (a = b)) := by
  unfold eqB
  rw [okD_dat a h, okD_dat b h, Datum.eqv]
  rfl
theorem ne_dat {α : Type} [DecidableEq α] [Datum α] (a b : α) (h : Datum.depth α ≤ 40) : neB (Datum.toD a) (Datum.toD b) = some (!decide (a = b)) := by
  unfold neB
  rw [okD_dat a h, okD_dat b h, Datum.eqv]
  rfl
theorem mm_dat {α : Type} [DecidableEq α] [DatumOrd α] (xs : List α) (h : Datum.depth α ≤ 40) : mmOk (xs.map Datum.toD) = true := by
  unfold mmOk
  have a := PySem.W.alikeAll_datum xs
  have d := PySem.W.depthAll_map xs
  simp only [Bool.and_eq_true, decide_eq_true_eq, List.all_eq_true]
  refine ⟨⟨⟨a.1, fun x hx => ?_⟩, PySem.W.plainAll_map xs⟩, by omega⟩
  have := a.2 x hx
  cases x <;> first | rfl | exact absurd rfl this
/-- the least, the greatest -/
def lo : List Int → Int
  | [] => 0
  | x :: xs => xs.foldl min x
def hi : List Int → Int
  | [] => 0
  | x :: xs => xs.foldl max x
theorem min_seq {d : D} {xs : List Int} (hs : seqD d = some (eI xs)) (h : xs ≠ []) : minL [d] = some (.int (lo xs)) := by
  cases xs with
  | nil => exact absurd rfl h
  | cons x r =>
    show (seqD d).bind (mmD PySem.W.minD) = _
    rw [hs]
    show (if mmOk (eI (x :: r)) then some (PySem.W.minD (.int x) (r.map .int)) else none) = _
    rw [if_pos (show mmOk (eI (x :: r)) = true from mm_dat (α := Int) (x :: r) (by decide)), PySem.W.minD_ints]
    rfl
theorem max_seq {d : D} {xs : List Int} (hs : seqD d = some (eI xs)) (h : xs ≠ []) : maxL [d] = some (.int (hi xs)) := by
  cases xs with
  | nil => exact absurd rfl h
  | cons x r =>
    show (seqD d).bind (mmD PySem.W.maxD) = _
    rw [hs]
    show (if mmOk (eI (x :: r)) then some (PySem.W.maxD (.int x) (r.map .int)) else none) = _
    rw [if_pos (show mmOk (eI (x :: r)) = true from mm_dat (α := Int) (x :: r) (by decide)), PySem.W.maxD_ints]
    rfl
theorem foldl_min_le : ∀ (xs : List Int) (x : Int), xs.foldl min x ≤ x ∧ ∀ y ∈ xs, xs.foldl min x ≤ y
  | [], x => ⟨Int.le_refl _, fun _ h => by cases h⟩
  | y :: ys, x => by
    obtain ⟨h1, h2⟩ := foldl_min_le ys (min x y)
    refine ⟨by show ys.foldl min (min x y) ≤ x; omega, fun z hz => ?_⟩
    show ys.foldl min (min x y) ≤ z
    rcases List.mem_cons.mp hz with rfl | hz
    · omega
    · exact h2 z hz
theorem foldl_min_mem : ∀ (xs : List Int) (x : Int), xs.foldl min x = x ∨ xs.foldl min x ∈ xs
  | [], x => .inl rfl
  | y :: ys, x => by
    show ys.foldl min (min x y) = x ∨ ys.foldl min (min x y) ∈ y :: ys
    rcases foldl_min_mem ys (min x y) with h | h
    · rw [h]
      by_cases c : x ≤ y
      · left; omega
      · right; rw [show min x y = y by omega]; exact List.mem_cons_self
    · exact .inr (List.mem_cons_of_mem _ h)
theorem foldl_max_ge : ∀ (xs : List Int) (x : Int), x ≤ xs.foldl max x ∧ ∀ y ∈ xs, y ≤ xs.foldl max x
  | [], x => ⟨Int.le_refl _, fun _ h => by cases h⟩
  | y :: ys, x => by
    obtain ⟨h1, h2⟩ := foldl_max_ge ys (max x y)
    refine ⟨by show x ≤ ys.foldl max (max x y); omega, fun z hz => ?_⟩
    show z ≤ ys.foldl max (max x y)
    rcases List.mem_cons.mp hz with rfl | hz
    · omega
    · exact h2 z hz
theorem foldl_max_mem : ∀ (xs : List Int) (x : Int), xs.foldl max x = x ∨ xs.foldl max x ∈ xs
  | [], x => .inl rfl
  | y :: ys, x => by
    show ys.foldl max (max x y) = x ∨ ys.foldl max (max x y) ∈ y :: ys
    rcases foldl_max_mem ys (max x y) with h | h
    · rw [h]
      by_cases c : y ≤ x
      · left; omega
      · right; rw [show max x y = y by omega]; exact List.mem_cons_self
    · exact .inr (List.mem_cons_of_mem _ h)
theorem lo_mem {xs : List Int} (h : xs ≠ []) : lo xs ∈ xs := by
  cases xs with
  | nil => exact absurd rfl h
  | cons x r =>
    rcases foldl_min_mem r x with e | e
    · show r.foldl min x ∈ _; rw [e]; exact List.mem_cons_self
    · exact List.mem_cons_of_mem _ e
theorem hi_mem {xs : List Int} (h : xs ≠ []) : hi xs ∈ xs := by
  cases xs with
  | nil => exact absurd rfl h
  | cons x r =>
    rcases foldl_max_mem r x with e | e
    · show r.foldl max x ∈ _; rw [e]; exact List.mem_cons_self
    · exact List.mem_cons_of_mem _ e
theorem lo_le {xs : List Int} {y : Int} (h : y ∈ xs) : lo xs ≤ y := by
  cases xs with
  | nil => cases h
  | cons x r =>
    rcases List.mem_cons.mp h with rfl | h
    · exact (foldl_min_le r y).1
    · exact (foldl_min_le r x).2 y h
theorem le_hi {xs : List Int} {y : Int} (h : y ∈ xs) : y ≤ hi xs := by
  cases xs with
  | nil => cases h
  | cons x r =>
    rcases List.mem_cons.mp h with rfl | h
    · exact (foldl_max_ge r y).1
    · exact (foldl_max_ge r x).2 y h
theorem lo_eq {xs : List Int} {y : Int} (h : y ∈ xs) (k : ∀ z ∈ xs, y ≤ z) : lo xs = y := Int.le_antisymm (lo_le h) (k _ (lo_mem (List.ne_nil_of_mem h)))
theorem hi_eq {xs : List Int} {y : Int} (h : y ∈ xs) (k : ∀ z ∈ xs, z ≤ y) : hi xs = y := Int.le_antisymm (k _ (hi_mem (List.ne_nil_of_mem h))) (le_hi h)
theorem min2_e (i j : Int) : min2L [.int i, .int j] = some (.int (min i j)) := by
  show some (PyData.int (if j < i then j else i)) = _
  congr 2
  by_cases c : j < i
  · rw [if_pos c]; omega
  · rw [if_neg c]; omega
theorem max2_e (i j : Int) : max2L [.int i, .int j] = some (.int (max i j)) := by
  show some (PyData.int (if j > i then j else i)) = _
  congr 2
  by_cases c : j > i
  · rw [if_pos c]; omega
  · rw [if_neg c]; omega
theorem ix_nat {xs : List D} {d : D} {i : Int} (h0 : 0 ≤ i) (h1 : i < xs.length) (h : xs[i.toNat]? = some d) : ixD (.tuple xs) (.int i) = some d ∧ ixD (.list xs) (.int i) = some d := by
  have e : atI xs i = some d := by
    unfold atI ixN
    rw [if_pos h0, if_pos h1]
    exact h
  exact ⟨e, e⟩
end
end DL

set_option Elab.async false
set_option linter.all false
set_option maxRecDepth 100000
set_option maxHeartbeats 2000000
/-! DLEval2: loops that gather, slices, counted lists. -/
namespace DL
open PySem PySem.Spec PyProof.Rows L2
open PySem.W (Datum Tup DatumOrd)
section
variable {S : Type}
theorem appL_lt {xs : List D} {d : D} (h : xs.length < 16777216) : appL xs d = some (xs ++ [d]) := if_pos h
theorem fold_app {ι : Type} {e : ι → D} {g : ι → List D} {f : List D → D → M S (List D)} (hg : ∀ x, (g x).length ≤ 1) : ∀ {xs : List ι} {a0 : List D}, (∀ (a : List D) x, x ∈ xs → a.length < 16777216 → f a (e x) = P (a ++ g x)) → a0.length + xs.length ≤ 16777216 → foldS (xs.map e) a0 f = P (a0 ++ xs.flatMap g)
  | [], a0, _, _ => by
    show P a0 = _
    rw [List.flatMap_nil, List.append_nil]
  | x :: xs, a0, h, hl => by
    show (B (f a0 (e x)) fun a => foldS (xs.map e) a f) = _
    rw [List.length_cons] at hl
    rw [h a0 x (by simp) (by omega), B_P, fold_app hg (fun a y hy => h a y (by simp [hy])) (by rw [List.length_append]; have := hg x; omega), List.flatMap_cons, List.append_assoc]
theorem flat_one {ι : Type} (g : ι → D) (xs : List ι) : (xs.flatMap fun x => [g x]) = xs.map g := by
  induction xs with
  | nil => rfl
  | cons x xs ih => rw [List.flatMap_cons, ih]; rfl
theorem flat_if {ι : Type} (p : ι → Bool) (g : ι → D) (xs : List ι) : (xs.flatMap fun x => if p x = true then [g x] else []) = (xs.filter p).map g := by
  induction xs with
  | nil => rfl
  | cons x xs ih =>
    rw [List.flatMap_cons, ih]
    cases c : p x
    · rw [if_neg (by simp), List.filter_cons_of_neg (by simp [c])]; rfl
    · rw [if_pos rfl, List.filter_cons_of_pos c]; rfl
theorem sorted_e (xs : List Int) : sortedL [.list (eI xs)] = some (.list (eI (sortI xs))) := by
  show (intsOf (xs.map .int)).map _ = _
  rw [intsOf_ints]
  rfl
/-- whole numbers from a up to b -/
def yards (a b : Int) : List Int := (List.range (b - a).toNat).map fun i => a + (i : Nat)
theorem yards_mem {a b y : Int} : y ∈ yards a b ↔ a ≤ y ∧ y < b := by
  unfold yards
  rw [List.mem_map]
  constructor
  · rintro ⟨i, hi, rfl⟩
    have := List.mem_range.mp hi
    omega
  · rintro ⟨h1, h2⟩
    exact ⟨(y - a).toNat, List.mem_range.mpr (by omega), by omega⟩
theorem yards_len (a b : Int) : (yards a b).length = (b - a).toNat := by simp [yards]
theorem yards_get {a b : Int} {i : Nat} (h : i < (b - a).toNat) : (yards a b)[i]? = some (a + (i : Nat)) := by simp [yards, h]
theorem rgL_y (a b : Int) : rgL a b = eI (yards a b) := by
  unfold rgL yards eI
  rw [List.map_map]
  rfl
theorem range2_e {a b : Int} (h1 : -(2 ^ 62) ≤ a ∧ a < 2 ^ 62) (h2 : -(2 ^ 62) ≤ b ∧ b < 2 ^ 62) : range2L [.int a, .int b] = some (eI (yards a b)) := by
  rw [← rgL_y]
  exact if_pos ⟨h1.1, h1.2, h2.1, h2.2⟩
theorem range1_e {b : Int} (h2 : -(2 ^ 62) ≤ b ∧ b < 2 ^ 62) : range1L [.int b] = some (eI (yards 0 b)) := by
  rw [← rgL_y]
  exact if_pos h2
theorem enum_y (a b : Int) (e : Int → D) : enumL ((yards a b).map e) = (yards a b).map fun y => .tuple [.int (y - a), e y] := by
  apply List.ext_getElem?
  intro i
  by_cases c : i < (b - a).toNat
  · have h1 : ((yards a b).map e)[i]? = some (e (a + (i : Nat))) := by rw [List.getElem?_map, yards_get c]; rfl
    rw [enumL_get h1, List.getElem?_map, yards_get c]
    show some (PyData.tuple [.int (i : Nat), e (a + (i : Nat))]) = some (PyData.tuple [.int (a + (i : Nat) - a), e (a + (i : Nat))])
    rw [show a + (i : Nat) - a = (i : Int) by omega]
  · rw [List.getElem?_eq_none (by rw [enumL_length, List.length_map, yards_len]; omega), List.getElem?_eq_none (by rw [List.length_map, yards_len]; omega)]
theorem enum_i (xs : List D) : enumL xs = (yards 0 xs.length).map fun i => .tuple [.int i, xs.getD i.toNat .none] := by
  apply List.ext_getElem?
  intro i
  by_cases c : i < xs.length
  · rw [enumL_get (List.getElem?_eq_getElem c), List.getElem?_map, yards_get (by omega)]
    show some (PyData.tuple [.int (i : Nat), xs[i]]) = some (PyData.tuple [.int (0 + (i : Nat)), xs.getD ((0 : Int) + (i : Nat)).toNat .none])
    rw [List.getD_eq_getElem?_getD, show ((0 : Int) + (i : Nat)).toNat = i by omega, List.getElem?_eq_getElem c, show (0 : Int) + (i : Nat) = (i : Int) by omega]
    rfl
  · rw [List.getElem?_eq_none (by rw [enumL_length]; omega), List.getElem?_eq_none (by rw [List.length_map, yards_len]; omega)]
theorem cmp_ints {f : D → M S (Option D)} {g : Int → D} {xs : List Int} (h : ∀ x ∈ xs, f (.int x) = P (some (g x))) : cmp (eI xs) f = P (xs.map g) := cmp_map h
theorem eI_map {ι : Type} (f : ι → Int) (xs : List ι) : (xs.map fun x => PyData.int (f x)) = eI (xs.map f) := by
  unfold eI
  rw [List.map_map]
  rfl
theorem eqT (xs ys : List Int) : eqB (.tuple (eI xs)) (.tuple (eI ys)) = some (decide (xs = ys)) := by
  have h := eq_dat (Tup.mk xs) (Tup.mk ys) (by decide)
  have e : decide (Tup.mk xs = Tup.mk ys) = decide (xs = ys) := by
    rw [Bool.eq_iff_iff, decide_eq_true_eq, decide_eq_true_eq]
    exact ⟨fun h => congrArg Tup.items h, fun h => congrArg Tup.mk h⟩
  rw [← e]
  exact h
theorem neT (xs ys : List Int) : neB (.tuple (eI xs)) (.tuple (eI ys)) = some (!decide (xs = ys)) := by
  have h := ne_dat (Tup.mk xs) (Tup.mk ys) (by decide)
  have e : decide (Tup.mk xs = Tup.mk ys) = decide (xs = ys) := by
    rw [Bool.eq_iff_iff, decide_eq_true_eq, decide_eq_true_eq]
    exact ⟨fun h => congrArg Tup.items h, fun h => congrArg Tup.mk h⟩
  rw [← e]
  exact h
theorem neP (a b c d : Int) : neB (.tuple [.int a, .int b]) (.tuple [.int c, .int d]) = some (!decide (a = c ∧ b = d)) := by
  have h := ne_dat (a, b) (c, d) (by decide)
  have e : decide ((a, b) = (c, d)) = decide (a = c ∧ b = d) := by
    rw [Bool.eq_iff_iff, decide_eq_true_eq, decide_eq_true_eq]
    exact Prod.mk.injEq _ _ _ _ ▸ Iff.rfl
  rw [← e]
  exact h
/-! ### slices of natural bounds -/
theorem sIx_some (n d : Nat) (i : Int) (h : 0 ≤ i) : HT.sIx n d (some i) = min i.toNat n := by
  have := HT.sIx_nat n d i.toNat
  rw [show ((i.toNat : Nat) : Int) = i by omega] at this
  exact this
theorem cut_both {α : Type} (xs : List α) {a b : Int} (h0 : 0 ≤ a) (h1 : a ≤ b) (h2 : b ≤ xs.length) : cutL xs (some a) (some b) = (xs.drop a.toNat).take (b - a).toNat := by
  unfold cutL
  rw [sIx_some _ _ _ h0, sIx_some _ _ _ (by omega)]
  rw [show min a.toNat xs.length = a.toNat by omega, show min b.toNat xs.length - a.toNat = (b - a).toNat by omega]
theorem cut_to {α : Type} (xs : List α) {b : Int} (h1 : 0 ≤ b) (h2 : b ≤ xs.length) : cutL xs none (some b) = xs.take b.toNat := by
  unfold cutL
  rw [sIx_some _ _ _ h1, HT.sIx_none]
  rw [List.drop_zero, show min b.toNat xs.length - 0 = b.toNat by omega]
theorem cut_from {α : Type} (xs : List α) {a : Int} (h1 : 0 ≤ a) (h2 : a ≤ xs.length) : cutL xs (some a) none = xs.drop a.toNat := by
  unfold cutL
  rw [sIx_some _ _ _ h1, HT.sIx_none]
  rw [show min a.toNat xs.length = a.toNat by omega]
  rw [show xs.length - a.toNat = (xs.drop a.toNat).length by rw [List.length_drop], List.take_length]
theorem slice_t (xs : List D) (l h : Option Int) : sliceD (.tuple xs) l h = some (.tuple (cutL xs l h)) := rfl
theorem slice_l (xs : List D) (l h : Option Int) : sliceD (.list xs) l h = some (.list (cutL xs l h)) := rfl
end
end DL

set_option Elab.async false
set_option linter.all false
set_option maxRecDepth 100000
set_option maxHeartbeats 2000000
/-! DLEval3: zip, pairs, options. -/
namespace DL
open PySem PySem.Spec PyProof.Rows L2
open PySem.W (Datum Tup DatumOrd)
section
variable {S : Type}
def eP (p : Int × Int) : D := .tuple [.int p.1, .int p.2]
def eO : Option (Int × Int) → D
  | none => .none
  | some p => eP p
theorem pairs2_map {ι κ : Type} (f : ι → D) (g : κ → D) : ∀ (xs : List ι) (ys : List κ), pairs2 (xs.map f) (ys.map g) = (xs.zip ys).map fun p => .tuple [f p.1, g p.2]
  | [], _ => by simp [pairs2]
  | _ :: _, [] => by simp [pairs2]
  | x :: xs, y :: ys => by
    show PyData.tuple [f x, g y] :: pairs2 (xs.map f) (ys.map g) = _
    rw [pairs2_map f g xs ys]
    rfl
theorem zip_tt (xs ys : List D) : zipL [.tuple xs, .tuple ys] = some (pairs2 xs ys) := rfl
theorem zip_ll (xs ys : List D) : zipL [.list xs, .list ys] = some (pairs2 xs ys) := rfl
theorem pairs_eI (xs ys : List Int) : pairs2 (eI xs) (eI ys) = (xs.zip ys).map eP := pairs2_map _ _ xs ys
theorem eqLI (xs ys : List Int) : neB (.list (eI xs)) (.list (eI ys)) = some (!decide (xs = ys)) := ne_dat xs ys (by decide)
theorem eqO (a b : Option (Int × Int)) : eqB (eO a) (eO b) = some (decide (a = b)) := by
  have h := eq_dat a b (by decide)
  have e : ∀ o : Option (Int × Int), Datum.toD o = eO o := fun o => by cases o <;> rfl
  rw [e, e] at h
  exact h
theorem neO (a b : Option (Int × Int)) : neB (eO a) (eO b) = some (!decide (a = b)) := by
  have h := ne_dat a b (by decide)
  have e : ∀ o : Option (Int × Int), Datum.toD o = eO o := fun o => by cases o <;> rfl
  rw [e, e] at h
  exact h
theorem isO (a : Option (Int × Int)) : isB (eO a) .none = some a.isNone := by cases a <;> rfl
theorem isntO (a : Option (Int × Int)) : isntB (eO a) .none = some a.isSome := by cases a <;> rfl
theorem neBs (xs ys : List (Int × Int)) : neB (.tuple (xs.map eP)) (.tuple (ys.map eP)) = some (!decide (xs = ys)) := by
  have h := ne_dat (Tup.mk xs) (Tup.mk ys) (by decide)
  have e : decide (Tup.mk xs = Tup.mk ys) = decide (xs = ys) := by
    rw [Bool.eq_iff_iff, decide_eq_true_eq, decide_eq_true_eq]
    exact ⟨fun h => congrArg Tup.items h, fun h => congrArg Tup.mk h⟩
  rw [← e]
  exact h
theorem eqBs (xs ys : List (Int × Int)) : eqB (.tuple (xs.map eP)) (.tuple (ys.map eP)) = some (decide (xs = ys)) := by
  have h := eq_dat (Tup.mk xs) (Tup.mk ys) (by decide)
  have e : decide (Tup.mk xs = Tup.mk ys) = decide (xs = ys) := by
    rw [Bool.eq_iff_iff, decide_eq_true_eq, decide_eq_true_eq]
    exact ⟨fun h => congrArg Tup.items h, fun h => congrArg Tup.mk h⟩
  rw [← e]
  exact h
theorem ix0 (a b : D) : ixD (.tuple [a, b]) (.int 0) = some a := rfl
theorem ix1 (a b : D) : ixD (.tuple [a, b]) (.int 1) = some b := rfl
theorem abs_i (i : Int) : absL [.int i] = some (.int (if i < 0 then -i else i)) := rfl
theorem int_i (i : Int) : intL [.int i] = some (.int i) := rfl
theorem rev_t (xs : List D) : revD (.tuple xs) = some (.tuple xs.reverse) := rfl
theorem add_tt (xs ys : List D) (h : xs.length + ys.length ≤ 16777216) : addD (.tuple xs) (.tuple ys) = some (.tuple (xs ++ ys)) := if_pos h
theorem add_ll (xs ys : List D) (h : xs.length + ys.length ≤ 16777216) : addD (.list xs) (.list ys) = some (.list (xs ++ ys)) := if_pos h
theorem eq_bb (a b : Bool) : eqB (.bool a) (.bool b) = some (decide (a = b)) := eq_dat a b (by decide)
theorem ne_bb (a b : Bool) : neB (.bool a) (.bool b) = some (!decide (a = b)) := ne_dat a b (by decide)
theorem ne_ii (a b : Int) : neB (.int a) (.int b) = some (!decide (a = b)) := ne_dat a b (by decide)
theorem eq_ii (a b : Int) : eqB (.int a) (.int b) = some (decide (a = b)) := eq_dat a b (by decide)
theorem eq_ss (a b : Str) : eqB (.str a) (.str b) = some (decide (a = b)) := eq_dat a b (by decide)
theorem in_tI (k : Int) (xs : List Int) : inB (.int k) (.tuple (eI xs)) = some (decide (k ∈ xs)) := by
  have p : PyData.plainAll (eI xs) = true := PySem.W.plainAll_map xs
  have d : PyData.depthAll (eI xs) ≤ 40 := Nat.le_trans (PySem.W.depthAll_map xs) (by decide)
  have o : okD (.int k) = true := okD_dat k (by decide)
  show (if memOk (.int k) (eI xs) = true then some ((eI xs).any fun y => PyData.eqv y (.int k)) else none) = _
  rw [if_pos (by unfold memOk; rw [o, p, decide_eq_true d]; rfl)]
  exact congrArg some (PySem.W.any_datum xs k)
/-- maximum over pairs -/
theorem max_pairs {d : D} {x : Int × Int} {xs : List (Int × Int)} (hs : seqD d = some ((x :: xs).map eP)) : maxL [d] = some (eP (PySem.W.maxOf x xs)) := by
  show (seqD d).bind (mmD PySem.W.maxD) = _
  rw [hs]
  show (if mmOk ((x :: xs).map eP) then some (PySem.W.maxD (eP x) (xs.map eP)) else none) = _
  rw [if_pos (show mmOk ((x :: xs).map eP) = true from mm_dat (α := Int × Int) (x :: xs) (by decide))]
  exact congrArg some (PySem.W.maxD_map x xs)
/-- lexicographic order -/
def ltP (p q : Int × Int) : Prop := p.1 < q.1 ∨ (p.1 = q.1 ∧ p.2 < q.2)
theorem lt_ltP (p q : Int × Int) : DatumOrd.lt p q = true ↔ ltP p q := by
  show (if p.1 = q.1 then decide (p.2 < q.2) else decide (p.1 < q.1)) = true ↔ _
  unfold ltP
  by_cases h : p.1 = q.1
  · rw [if_pos h]; simp [h]
  · rw [if_neg h]; simp [h]
theorem maxOf_mem (x : Int × Int) (xs : List (Int × Int)) : PySem.W.maxOf x xs ∈ x :: xs := by
  unfold PySem.W.maxOf
  induction xs generalizing x with
  | nil => simp
  | cons y ys ih =>
    rw [List.foldl_cons]
    by_cases c : DatumOrd.lt x y = true
    · rw [if_pos c]; exact List.mem_cons_of_mem _ (ih y)
    · rw [if_neg c]
      rcases List.mem_cons.mp (ih x) with e | e
      · rw [e]; exact List.mem_cons_self
      · exact List.mem_cons_of_mem _ (List.mem_cons_of_mem _ e)
theorem maxOf_ge (x : Int × Int) (xs : List (Int × Int)) : ∀ y ∈ x :: xs, ¬ ltP (PySem.W.maxOf x xs) y := by
  unfold PySem.W.maxOf
  induction xs generalizing x with
  | nil =>
    intro y hy
    rw [List.mem_singleton.mp hy]
    intro q
    have q : ltP x x := q
    unfold ltP at q
    omega
  | cons z zs ih =>
    intro y hy
    rw [List.foldl_cons]
    have key : ∀ w, ¬ ltP (zs.foldl (fun a y => if DatumOrd.lt a y = true then y else a) w) w := fun w => ih w w List.mem_cons_self
    by_cases c : DatumOrd.lt x z = true
    · rw [if_pos c]
      rcases List.mem_cons.mp hy with rfl | hy
      · have k := key z
        have c' := (lt_ltP y z).mp c
        unfold ltP at *
        omega
      · exact ih z y hy
    · rw [if_neg c]
      rcases List.mem_cons.mp hy with rfl | hy
      · exact key y
      · rcases List.mem_cons.mp hy with rfl | hy
        · have k := key x
          have c' : ¬ ltP x y := fun q => c ((lt_ltP x y).mpr q)
          unfold ltP at *
          omega
        · exact ih x y (List.mem_cons_of_mem _ hy)
end
end DL

set_option Elab.async false
set_option linter.all false
set_option maxRecDepth 100000
set_option maxHeartbeats 2000000
/-! DLEval4: loops along a row of states. -/
namespace DL
open PySem PySem.Spec PyProof.Rows L2
section
variable {S α β : Type}
theorem kF_nx (f : α → M S β) (r : D → β) (a : α) : kF f r (.nx a) = f a := rfl
theorem foldS_seq {f : α → D → M S α} {g : Nat → α} : ∀ (ds : List D) (k : Nat), (∀ i d, ds[i]? = some d → f (g (k + i)) d = P (g (k + i + 1))) → foldS ds (g k) f = P (g (k + ds.length))
  | [], k, _ => rfl
  | d :: ds, k, h => by
    show (B (f (g k) d) fun a => foldS ds a f) = _
    rw [show f (g k) d = P (g (k + 1)) from h 0 d rfl, B_P, foldS_seq ds (k + 1) fun i x hx => by
      have := h (i + 1) x (by simpa using hx)
      rw [show k + 1 + i = k + (i + 1) by omega]
      exact this]
    rw [List.length_cons, show k + 1 + ds.length = k + (ds.length + 1) by omega]
theorem foldF_seq {f : α → D → M S (Fl α)} {g : Nat → α} : ∀ (ds : List D) (k : Nat), (∀ i d, ds[i]? = some d → f (g (k + i)) d = P (.nx (g (k + i + 1)))) → foldF ds (g k) f = P (.nx (g (k + ds.length)))
  | [], k, _ => rfl
  | d :: ds, k, h => by
    show (B (f (g k) d) fun
      | .nx a => foldF ds a f
      | .bk a => P (.nx a)
      | .rt d => P (.rt d)) = _
    rw [show f (g k) d = P (.nx (g (k + 1))) from h 0 d rfl, B_P]
    show foldF ds (g (k + 1)) f = _
    rw [foldF_seq ds (k + 1) fun i x hx => by
      have := h (i + 1) x (by simpa using hx)
      rw [show k + 1 + i = k + (i + 1) by omega]
      exact this]
    rw [List.length_cons, show k + 1 + ds.length = k + (ds.length + 1) by omega]
theorem foldS_at {f : α → D → M S α} {g : Nat → α} (ds : List D) (a0 : α) (h0 : a0 = g 0) (h : ∀ i d, ds[i]? = some d → f (g i) d = P (g (i + 1))) : foldS ds a0 f = P (g ds.length) := by
  rw [h0]
  have := foldS_seq (f := f) (g := g) ds 0 fun i d hd => by
    rw [Nat.zero_add]
    exact h i d hd
  rw [Nat.zero_add] at this
  exact this
theorem foldF_at {f : α → D → M S (Fl α)} {g : Nat → α} (ds : List D) (a0 : α) (h0 : a0 = g 0) (h : ∀ i d, ds[i]? = some d → f (g i) d = P (.nx (g (i + 1)))) : foldF ds a0 f = P (.nx (g ds.length)) := by
  rw [h0]
  have := foldF_seq (f := f) (g := g) ds 0 fun i d hd => by
    rw [Nat.zero_add]
    exact h i d hd
  rw [Nat.zero_add] at this
  exact this
theorem yards_at {a b : Int} {i : Nat} {ι : Type} {e : Int → ι} {d : ι} (h : ((yards a b).map e)[i]? = some d) : d = e (a + (i : Nat)) ∧ (i : Int) < b - a := by
  by_cases c : i < (b - a).toNat
  · rw [List.getElem?_map, yards_get c] at h
    exact ⟨(Option.some.inj h).symm, by omega⟩
  · rw [List.getElem?_eq_none (by rw [List.length_map, yards_len]; omega)] at h
    cases h
theorem ix_y {a b i : Int} (e : Int → D) (h0 : 0 ≤ i) (h1 : i < b - a) : ixD (.list ((yards a b).map e)) (.int i) = some (e (a + i)) ∧ ixD (.tuple ((yards a b).map e)) (.int i) = some (e (a + i)) := by
  have k := ix_nat (xs := (yards a b).map e) (i := i) (d := e (a + i)) h0 (by rw [List.length_map, yards_len]; omega) (by
    rw [List.getElem?_map, yards_get (by omega)]
    show some (e (a + (i.toNat : Int))) = _
    rw [show ((i.toNat : Nat) : Int) = i by omega])
  exact ⟨k.2, k.1⟩
theorem yards_set {a b i : Int} {F G : Int → D} {d : D} (h0 : 0 ≤ i) (h1 : i < b - a) (hd : G (a + i) = d) (hG : ∀ y, y ≠ a + i → G y = F y) : ((yards a b).map F).set i.toNat d = (yards a b).map G := by
  apply List.ext_getElem?
  intro j
  by_cases c : j < (b - a).toNat
  · by_cases e : i.toNat = j
    · rw [← e, List.getElem?_set_self (by rw [List.length_map, yards_len]; omega), List.getElem?_map, yards_get (by omega)]
      show some d = some (G (a + (i.toNat : Int)))
      rw [show ((i.toNat : Nat) : Int) = i by omega, hd]
    · rw [List.getElem?_set_ne e, List.getElem?_map, List.getElem?_map, yards_get c]
      show some (F (a + (j : Int))) = some (G (a + (j : Int)))
      rw [hG _ (by omega)]
  · rw [List.getElem?_eq_none (by rw [List.length_set, List.length_map, yards_len]; omega), List.getElem?_eq_none (by rw [List.length_map, yards_len]; omega)]
theorem foldF_unit {f : Unit → D → M S (Fl Unit)} {ds : List D} (h : ∀ d ∈ ds, f () d = P (.nx ())) : foldF ds () f = P (.nx ()) :=
  foldF_seq (g := fun _ => ()) ds 0 fun i d hd => h d (List.mem_of_getElem? hd)
theorem yards_succ (n : Nat) : yards 0 ((n : Int) + 1) = yards 0 n ++ [(n : Int)] := by
  unfold yards
  rw [show ((n : Int) + 1 - 0).toNat = n + 1 by omega, show ((n : Int) - 0).toNat = n by omega, List.range_succ, List.map_append]
  simp
theorem enumT_t (xs : List D) : enumTD [.tuple xs] = some (enumL xs) := rfl
theorem setL_nat {xs : List D} {i : Int} {d : D} (h0 : 0 ≤ i) (h1 : i < xs.length) : setL xs (.int i) d = some (xs.set i.toNat d) := by
  show (ixN xs.length i).map _ = _
  unfold ixN
  rw [if_pos h0, if_pos h1]
  rfl
theorem ext_l (a zs : List D) (h : a.length + zs.length ≤ 16777216) : ((lstOf (.list zs)).bind fun zs => extL a zs) = some (a ++ zs) := if_pos h
theorem isB_n : isB .none .none = some true := rfl
end
end DL

set_option Elab.async false
set_option linter.all false
set_option maxRecDepth 100000
set_option maxHeartbeats 1000000
namespace K20
open PySem PySem.Spec PyProof.Rows L2 DL
abbrev Strand : Type := List Int
abbrev Thread : Type := List (Int × Strand)
def eS (s : Strand) : D := .tuple (eI s)
def eE (p : Int × Strand) : D := .tuple [.int p.1, eS p.2]
def eT (t : Thread) : D := .tuple (t.map eE)
structure VS (s : Strand) : Prop where
  l1 : 1 ≤ s.length
  l2 : s.length ≤ 60
  at_ : ∀ x ∈ s, 0 ≤ x ∧ x ≤ 100
structure VT (t : Thread) : Prop where
  l1 : 1 ≤ t.length
  l2 : t.length ≤ 8
  at_ : ∀ p ∈ t, 0 ≤ p.1 ∧ p.1 ≤ 200 ∧ VS p.2
theorem VS.ne {s : Strand} (h : VS s) : s ≠ [] := fun e => by
  have := h.l1
  rw [e] at this
  simp at this
theorem VT.ne {t : Thread} (h : VT t) : t ≠ [] := fun e => by
  have := h.l1
  rw [e] at this
  simp at this
theorem is_tuple_e (xs : List D) (a b : Int) : m_is_tuple [.tuple xs, .int a, .int b] = some (.bool (decide (a ≤ (xs.length : Int)) && decide ((xs.length : Int) ≤ b))) := by
  show run0 (b_is_tuple _ _ _) = _
  unfold b_is_tuple
  simp only [if_true, if_false, B_P, L_s, run0_P, mNone_P, ite_and, ite_or, ite_and', ite_or', ite_t, ite_f, boolD_b, lt_ii, le_ii, gt_ii, ge_ii, add_ii, sub_ii, neg_i, part_i, seq_t, seq_l, tup2, tup0, lst0, lst1, lstS0, tup_l, tup_t, len_t, len_l, u2_p, isi_tt, isi_ii, isi_bi, isi_ss, Bool.not_true, Bool.not_false, Bool.and_true, Bool.true_and, Bool.or_false, Bool.false_or]
theorem is_whole_e (v : Int) : m_is_whole [.int v] = some (.bool true) := by
  show run0 (b_is_whole _) = _
  unfold b_is_whole
  simp only [if_true, if_false, B_P, L_s, run0_P, mNone_P, ite_and, ite_or, ite_and', ite_or', ite_t, ite_f, boolD_b, lt_ii, le_ii, gt_ii, ge_ii, add_ii, sub_ii, neg_i, part_i, seq_t, seq_l, tup2, tup0, lst0, lst1, lstS0, tup_l, tup_t, len_t, len_l, u2_p, isi_tt, isi_ii, isi_bi, isi_ss, Bool.not_true, Bool.not_false, Bool.and_true, Bool.true_and, Bool.or_false, Bool.false_or]
theorem is_integer_e (v a b : Int) : m_is_integer [.int v, .int a, .int b] = some (.bool (decide (a ≤ v) && decide (v ≤ b))) := by
  show run0 (b_is_integer _ _ _) = _
  unfold b_is_integer
  simp only [is_whole_e, if_true, if_false, B_P, L_s, run0_P, mNone_P, ite_and, ite_or, ite_and', ite_or', ite_t, ite_f, boolD_b, lt_ii, le_ii, gt_ii, ge_ii, add_ii, sub_ii, neg_i, part_i, seq_t, seq_l, tup2, tup0, lst0, lst1, lstS0, tup_l, tup_t, len_t, len_l, u2_p, isi_tt, isi_ii, isi_bi, isi_ss, Bool.not_true, Bool.not_false, Bool.and_true, Bool.true_and, Bool.or_false, Bool.false_or]
theorem is_strand_e {s : Strand} (h : VS s) : m_is_strand [eS s] = some (.bool true) := by
  show run0 (b_is_strand _) = _
  unfold b_is_strand eS
  have h1 := h.l1
  have h2 := h.l2
  have e1 : (decide ((1 : Int) ≤ ((eI s).length : Int)) && decide (((eI s).length : Int) ≤ 60)) = true := by
    rw [eI_len]
    simp
    omega
  simp only [is_tuple_e, e1, if_true, if_false, B_P, L_s, run0_P, mNone_P, ite_and, ite_or, ite_and', ite_or', ite_t, ite_f, boolD_b, lt_ii, le_ii, gt_ii, ge_ii, add_ii, sub_ii, neg_i, part_i, seq_t, seq_l, tup2, tup0, lst0, lst1, lstS0, tup_l, tup_t, len_t, len_l, u2_p, isi_tt, isi_ii, isi_bi, isi_ss, Bool.not_true, Bool.not_false, Bool.and_true, Bool.true_and, Bool.or_false, Bool.false_or]
  rw [show eI s = s.map PyData.int from rfl, cmp_map (g := fun x => .bool (decide (0 ≤ x) && decide (x ≤ 100))) fun x _ => by simp only [is_integer_e, if_true, if_false, B_P, L_s, run0_P, mNone_P, ite_and, ite_or, ite_and', ite_or', ite_t, ite_f, boolD_b, lt_ii, le_ii, gt_ii, ge_ii, add_ii, sub_ii, neg_i, part_i, seq_t, seq_l, tup2, tup0, lst0, lst1, lstS0, tup_l, tup_t, len_t, len_l, u2_p, isi_tt, isi_ii, isi_bi, isi_ss, Bool.not_true, Bool.not_false, Bool.and_true, Bool.true_and, Bool.or_false, Bool.false_or]]
  have e2 : (s.all fun x => decide (0 ≤ x) && decide (x ≤ 100)) = true := List.all_eq_true.mpr fun x hx => by simpa using h.at_ x hx
  simp only [lstD_le (show (s.map fun x : Int => PyData.bool (decide (0 ≤ x) && decide (x ≤ 100))).length ≤ 16777216 by rw [List.length_map]; omega), all_bools, e2, if_true, if_false, B_P, L_s, run0_P, mNone_P, ite_and, ite_or, ite_and', ite_or', ite_t, ite_f, boolD_b, lt_ii, le_ii, gt_ii, ge_ii, add_ii, sub_ii, neg_i, part_i, seq_t, seq_l, tup2, tup0, lst0, lst1, lstS0, tup_l, tup_t, len_t, len_l, u2_p, isi_tt, isi_ii, isi_bi, isi_ss, Bool.not_true, Bool.not_false, Bool.and_true, Bool.true_and, Bool.or_false, Bool.false_or]
theorem check_strand_e {s : Strand} (h : VS s) : m_check_strand [eS s] = some .none := by
  show mNone (b_check_strand _) = _
  unfold b_check_strand
  simp only [is_strand_e h, if_true, if_false, B_P, L_s, run0_P, mNone_P, ite_and, ite_or, ite_and', ite_or', ite_t, ite_f, boolD_b, lt_ii, le_ii, gt_ii, ge_ii, add_ii, sub_ii, neg_i, part_i, seq_t, seq_l, tup2, tup0, lst0, lst1, lstS0, tup_l, tup_t, len_t, len_l, u2_p, isi_tt, isi_ii, isi_bi, isi_ss, Bool.not_true, Bool.not_false, Bool.and_true, Bool.true_and, Bool.or_false, Bool.false_or]
theorem is_thread_e {t : Thread} (h : VT t) : m_is_thread [eT t] = some (.bool true) := by
  show run0 (b_is_thread _) = _
  unfold b_is_thread eT
  have h1 := h.l1
  have h2 := h.l2
  have e1 : (decide ((1 : Int) ≤ ((t.map eE).length : Int)) && decide (((t.map eE).length : Int) ≤ 8)) = true := by
    rw [List.length_map]
    simp
    omega
  simp only [is_tuple_e, e1, if_true, if_false, B_P, L_s, run0_P, mNone_P, ite_and, ite_or, ite_and', ite_or', ite_t, ite_f, boolD_b, lt_ii, le_ii, gt_ii, ge_ii, add_ii, sub_ii, neg_i, part_i, seq_t, seq_l, tup2, tup0, lst0, lst1, lstS0, tup_l, tup_t, len_t, len_l, u2_p, isi_tt, isi_ii, isi_bi, isi_ss, Bool.not_true, Bool.not_false, Bool.and_true, Bool.true_and, Bool.or_false, Bool.false_or]
  rw [cmp_map (g := fun x => .bool true) fun x _ => by unfold eE; simp only [is_tuple_e, if_true, if_false, B_P, L_s, run0_P, mNone_P, ite_and, ite_or, ite_and', ite_or', ite_t, ite_f, boolD_b, lt_ii, le_ii, gt_ii, ge_ii, add_ii, sub_ii, neg_i, part_i, seq_t, seq_l, tup2, tup0, lst0, lst1, lstS0, tup_l, tup_t, len_t, len_l, u2_p, isi_tt, isi_ii, isi_bi, isi_ss, Bool.not_true, Bool.not_false, Bool.and_true, Bool.true_and, Bool.or_false, Bool.false_or]; rfl]
  simp only [lstD_le (show (t.map fun x : Int × Strand => PyData.bool true).length ≤ 16777216 by rw [List.length_map]; omega), all_bools, if_true, if_false, B_P, L_s, run0_P, mNone_P, ite_and, ite_or, ite_and', ite_or', ite_t, ite_f, boolD_b, lt_ii, le_ii, gt_ii, ge_ii, add_ii, sub_ii, neg_i, part_i, seq_t, seq_l, tup2, tup0, lst0, lst1, lstS0, tup_l, tup_t, len_t, len_l, u2_p, isi_tt, isi_ii, isi_bi, isi_ss, Bool.not_true, Bool.not_false, Bool.and_true, Bool.true_and, Bool.or_false, Bool.false_or]
  rw [List.all_eq_true.mpr fun x hx => rfl]
  simp only [if_true, if_false, B_P, L_s, run0_P, mNone_P, ite_and, ite_or, ite_and', ite_or', ite_t, ite_f, boolD_b, lt_ii, le_ii, gt_ii, ge_ii, add_ii, sub_ii, neg_i, part_i, seq_t, seq_l, tup2, tup0, lst0, lst1, lstS0, tup_l, tup_t, len_t, len_l, u2_p, isi_tt, isi_ii, isi_bi, isi_ss, Bool.not_true, Bool.not_false, Bool.and_true, Bool.true_and, Bool.or_false, Bool.false_or]
  rw [cmp_map (g := fun x => .bool true) fun x hx => by
    obtain ⟨a1, a2, a3⟩ := h.at_ x hx
    have e2 : (decide ((0 : Int) ≤ x.1) && decide (x.1 ≤ 200)) = true := by simp; omega
    unfold eE
    simp only [is_integer_e, e2, is_strand_e a3, if_true, if_false, B_P, L_s, run0_P, mNone_P, ite_and, ite_or, ite_and', ite_or', ite_t, ite_f, boolD_b, lt_ii, le_ii, gt_ii, ge_ii, add_ii, sub_ii, neg_i, part_i, seq_t, seq_l, tup2, tup0, lst0, lst1, lstS0, tup_l, tup_t, len_t, len_l, u2_p, isi_tt, isi_ii, isi_bi, isi_ss, Bool.not_true, Bool.not_false, Bool.and_true, Bool.true_and, Bool.or_false, Bool.false_or]]
  simp only [lstD_le (show (t.map fun x : Int × Strand => PyData.bool true).length ≤ 16777216 by rw [List.length_map]; omega), all_bools, if_true, if_false, B_P, L_s, run0_P, mNone_P, ite_and, ite_or, ite_and', ite_or', ite_t, ite_f, boolD_b, lt_ii, le_ii, gt_ii, ge_ii, add_ii, sub_ii, neg_i, part_i, seq_t, seq_l, tup2, tup0, lst0, lst1, lstS0, tup_l, tup_t, len_t, len_l, u2_p, isi_tt, isi_ii, isi_bi, isi_ss, Bool.not_true, Bool.not_false, Bool.and_true, Bool.true_and, Bool.or_false, Bool.false_or]
  rw [List.all_eq_true.mpr fun x hx => rfl]
theorem check_thread_e {t : Thread} (h : VT t) : m_check_thread [eT t] = some .none := by
  show mNone (b_check_thread _) = _
  unfold b_check_thread
  simp only [is_thread_e h, if_true, if_false, B_P, L_s, run0_P, mNone_P, ite_and, ite_or, ite_and', ite_or', ite_t, ite_f, boolD_b, lt_ii, le_ii, gt_ii, ge_ii, add_ii, sub_ii, neg_i, part_i, seq_t, seq_l, tup2, tup0, lst0, lst1, lstS0, tup_l, tup_t, len_t, len_l, u2_p, isi_tt, isi_ii, isi_bi, isi_ss, Bool.not_true, Bool.not_false, Bool.and_true, Bool.true_and, Bool.or_false, Bool.false_or]
/-! ### yards -/
def val (s : Strand) (i : Int) : Int := if 0 ≤ i ∧ i < s.length then s.getD i.toNat 0 else 0
def atY (t : Thread) (y : Int) : Int := (t.map fun p => val p.2 (y - p.1)).sum
def fst (t : Thread) : Int := lo (t.map fun p => p.1)
def lst (t : Thread) : Int := hi (t.map fun p => p.1 + p.2.length)
theorem at_yard_s {t : Thread} (ht : t.length ≤ 100) {d : D} (hd : seqD d = some (t.map eE)) (y : Int) : m_at_yard [d, .int y] = some (.int (atY t y)) := by
  show run0 (b_at_yard _ _) = _
  unfold b_at_yard
  simp only [hd, if_true, if_false, B_P, L_s, run0_P, mNone_P, ite_and, ite_or, ite_and', ite_or', ite_t, ite_f, boolD_b, lt_ii, le_ii, gt_ii, ge_ii, add_ii, sub_ii, neg_i, part_i, seq_t, seq_l, tup2, tup0, lst0, lst1, lstS0, tup_l, tup_t, len_t, len_l, u2_p, isi_tt, isi_ii, isi_bi, isi_ss, Bool.not_true, Bool.not_false, Bool.and_true, Bool.true_and, Bool.or_false, Bool.false_or]
  rw [cmp_filter (p := fun x : Int × Strand => decide (x.1 ≤ y) && decide (y < x.1 + x.2.length)) (g := fun x => .int (val x.2 (y - x.1))) fun x hx => by
    unfold eE eS
    simp only [eI_len, if_true, if_false, B_P, L_s, run0_P, mNone_P, ite_and, ite_or, ite_and', ite_or', ite_t, ite_f, boolD_b, lt_ii, le_ii, gt_ii, ge_ii, add_ii, sub_ii, neg_i, part_i, seq_t, seq_l, tup2, tup0, lst0, lst1, lstS0, tup_l, tup_t, len_t, len_l, u2_p, isi_tt, isi_ii, isi_bi, isi_ss, Bool.not_true, Bool.not_false, Bool.and_true, Bool.true_and, Bool.or_false, Bool.false_or]
    by_cases c : (decide (x.1 ≤ y) && decide (y < x.1 + x.2.length)) = true
    · rw [if_pos c, if_pos c]
      simp only [Bool.and_eq_true, decide_eq_true_eq] at c
      have e : (eI x.2)[(y - x.1).toNat]? = some (.int (val x.2 (y - x.1))) := by
        have hl : (y - x.1).toNat < x.2.length := by omega
        unfold eI val
        rw [List.getElem?_map, if_pos (by omega), List.getD_eq_getElem?_getD, List.getElem?_eq_getElem hl]
        rfl
      rw [(ix_nat (xs := eI x.2) (i := y - x.1) (by omega) (by rw [eI_len]; omega) e).1]
      simp only [if_true, if_false, B_P, L_s, run0_P, mNone_P, ite_and, ite_or, ite_and', ite_or', ite_t, ite_f, boolD_b, lt_ii, le_ii, gt_ii, ge_ii, add_ii, sub_ii, neg_i, part_i, seq_t, seq_l, tup2, tup0, lst0, lst1, lstS0, tup_l, tup_t, len_t, len_l, u2_p, isi_tt, isi_ii, isi_bi, isi_ss, Bool.not_true, Bool.not_false, Bool.and_true, Bool.true_and, Bool.or_false, Bool.false_or]
    · rw [if_neg c, if_neg c]]
  have hl : ((t.filter fun x : Int × Strand => decide (x.1 ≤ y) && decide (y < x.1 + x.2.length)).map fun x => PyData.int (val x.2 (y - x.1))).length ≤ 16777216 := by
    rw [List.length_map]
    exact Nat.le_trans (List.length_filter_le _ _) (by omega)
  simp only [lstD_le hl, if_true, if_false, B_P, L_s, run0_P, mNone_P, ite_and, ite_or, ite_and', ite_or', ite_t, ite_f, boolD_b, lt_ii, le_ii, gt_ii, ge_ii, add_ii, sub_ii, neg_i, part_i, seq_t, seq_l, tup2, tup0, lst0, lst1, lstS0, tup_l, tup_t, len_t, len_l, u2_p, isi_tt, isi_ii, isi_bi, isi_ss, Bool.not_true, Bool.not_false, Bool.and_true, Bool.true_and, Bool.or_false, Bool.false_or]
  rw [show ((t.filter fun x : Int × Strand => decide (x.1 ≤ y) && decide (y < x.1 + x.2.length)).map fun x => PyData.int (val x.2 (y - x.1))) = eI ((t.filter fun x : Int × Strand => decide (x.1 ≤ y) && decide (y < x.1 + x.2.length)).map fun x => val x.2 (y - x.1)) by unfold eI; rw [List.map_map]; rfl]
  simp only [sum_ints, if_true, if_false, B_P, L_s, run0_P, mNone_P, ite_and, ite_or, ite_and', ite_or', ite_t, ite_f, boolD_b, lt_ii, le_ii, gt_ii, ge_ii, add_ii, sub_ii, neg_i, part_i, seq_t, seq_l, tup2, tup0, lst0, lst1, lstS0, tup_l, tup_t, len_t, len_l, u2_p, isi_tt, isi_ii, isi_bi, isi_ss, Bool.not_true, Bool.not_false, Bool.and_true, Bool.true_and, Bool.or_false, Bool.false_or]
  congr 2
  unfold atY
  clear hl ht hd
  induction t with
  | nil => rfl
  | cons p t ih =>
    by_cases c : (decide (p.1 ≤ y) && decide (y < p.1 + p.2.length)) = true
    · rw [List.filter_cons_of_pos (by exact c), List.map_cons, List.sum_cons, ih, List.map_cons, List.sum_cons]
    · rw [List.filter_cons_of_neg (by exact c), ih, List.map_cons, List.sum_cons]
      have : val p.2 (y - p.1) = 0 := by
        unfold val
        rw [if_neg]
        simp only [Bool.and_eq_true, decide_eq_true_eq] at c
        omega
      omega
theorem at_yard_e {t : Thread} (ht : t.length ≤ 100) (y : Int) : m_at_yard [eT t, .int y] = some (.int (atY t y)) := at_yard_s ht rfl y
theorem fst_mem {t : Thread} (h : t ≠ []) : ∃ p ∈ t, p.1 = fst t := by
  have := lo_mem (xs := t.map fun p => p.1) (by simpa using h)
  simpa [fst] using this
theorem lst_mem {t : Thread} (h : t ≠ []) : ∃ p ∈ t, p.1 + p.2.length = lst t := by
  have := hi_mem (xs := t.map fun p => p.1 + (p.2.length : Int)) (by simpa using h)
  simpa [lst] using this
theorem fst_le {t : Thread} {p : Int × Strand} (h : p ∈ t) : fst t ≤ p.1 := lo_le (List.mem_map_of_mem (f := fun p : Int × Strand => p.1) h)
theorem le_lst {t : Thread} {p : Int × Strand} (h : p ∈ t) : p.1 + p.2.length ≤ lst t := le_hi (List.mem_map_of_mem (f := fun p : Int × Strand => p.1 + (p.2.length : Int)) h)
theorem span_of_e {t : Thread} (hl : t.length ≤ 100) (h : t ≠ []) : m_span_of [eT t] = some (eP (fst t, lst t)) := by
  show run0 (b_span_of _) = _
  unfold b_span_of eT
  simp only [if_true, if_false, B_P, L_s, run0_P, mNone_P, ite_and, ite_or, ite_and', ite_or', ite_t, ite_f, boolD_b, lt_ii, le_ii, gt_ii, ge_ii, add_ii, sub_ii, neg_i, part_i, seq_t, seq_l, tup2, tup0, lst0, lst1, lstS0, tup_l, tup_t, len_t, len_l, u2_p, isi_tt, isi_ii, isi_bi, isi_ss, Bool.not_true, Bool.not_false, Bool.and_true, Bool.true_and, Bool.or_false, Bool.false_or]
  rw [cmp_map (g := fun x : Int × Strand => .int x.1) fun x _ => by unfold eE; simp only [if_true, if_false, B_P, L_s, run0_P, mNone_P, ite_and, ite_or, ite_and', ite_or', ite_t, ite_f, boolD_b, lt_ii, le_ii, gt_ii, ge_ii, add_ii, sub_ii, neg_i, part_i, seq_t, seq_l, tup2, tup0, lst0, lst1, lstS0, tup_l, tup_t, len_t, len_l, u2_p, isi_tt, isi_ii, isi_bi, isi_ss, Bool.not_true, Bool.not_false, Bool.and_true, Bool.true_and, Bool.or_false, Bool.false_or]]
  have e1 : (t.map fun x : Int × Strand => PyData.int x.1) = eI (t.map fun x => x.1) := by unfold eI; rw [List.map_map]; rfl
  rw [e1]
  simp only [lstD_le (show (eI (t.map fun x : Int × Strand => x.1)).length ≤ 16777216 by rw [eI_len, List.length_map]; omega), min_seq (seq_l _) (show (t.map fun x : Int × Strand => x.1) ≠ [] by simpa using h), if_true, if_false, B_P, L_s, run0_P, mNone_P, ite_and, ite_or, ite_and', ite_or', ite_t, ite_f, boolD_b, lt_ii, le_ii, gt_ii, ge_ii, add_ii, sub_ii, neg_i, part_i, seq_t, seq_l, tup2, tup0, lst0, lst1, lstS0, tup_l, tup_t, len_t, len_l, u2_p, isi_tt, isi_ii, isi_bi, isi_ss, Bool.not_true, Bool.not_false, Bool.and_true, Bool.true_and, Bool.or_false, Bool.false_or]
  rw [cmp_map (g := fun x : Int × Strand => .int (x.1 + x.2.length)) fun x _ => by unfold eE eS; simp only [eI_len, if_true, if_false, B_P, L_s, run0_P, mNone_P, ite_and, ite_or, ite_and', ite_or', ite_t, ite_f, boolD_b, lt_ii, le_ii, gt_ii, ge_ii, add_ii, sub_ii, neg_i, part_i, seq_t, seq_l, tup2, tup0, lst0, lst1, lstS0, tup_l, tup_t, len_t, len_l, u2_p, isi_tt, isi_ii, isi_bi, isi_ss, Bool.not_true, Bool.not_false, Bool.and_true, Bool.true_and, Bool.or_false, Bool.false_or]]
  have e2 : (t.map fun x : Int × Strand => PyData.int (x.1 + x.2.length)) = eI (t.map fun x => x.1 + (x.2.length : Int)) := by unfold eI; rw [List.map_map]; rfl
  rw [e2]
  simp only [lstD_le (show (eI (t.map fun x : Int × Strand => x.1 + (x.2.length : Int))).length ≤ 16777216 by rw [eI_len, List.length_map]; omega), max_seq (seq_l _) (show (t.map fun x : Int × Strand => x.1 + (x.2.length : Int)) ≠ [] by simpa using h), if_true, if_false, B_P, L_s, run0_P, mNone_P, ite_and, ite_or, ite_and', ite_or', ite_t, ite_f, boolD_b, lt_ii, le_ii, gt_ii, ge_ii, add_ii, sub_ii, neg_i, part_i, seq_t, seq_l, tup2, tup0, lst0, lst1, lstS0, tup_l, tup_t, len_t, len_l, u2_p, isi_tt, isi_ii, isi_bi, isi_ss, Bool.not_true, Bool.not_false, Bool.and_true, Bool.true_and, Bool.or_false, Bool.false_or]
  rfl
theorem VT.fst0 {t : Thread} (h : VT t) : 0 ≤ fst t ∧ fst t ≤ 200 := by
  obtain ⟨p, hp, e⟩ := fst_mem h.ne
  have := h.at_ p hp
  omega
theorem VT.lst0 {t : Thread} (h : VT t) : fst t < lst t ∧ lst t ≤ 260 := by
  obtain ⟨p, hp, e⟩ := lst_mem h.ne
  obtain ⟨a1, a2, a3⟩ := h.at_ p hp
  have := a3.l1
  have := a3.l2
  have := fst_le hp
  omega
theorem span_e {t : Thread} (h : VT t) : m_span [eT t] = some (eP (fst t, lst t)) := by
  have := h.l2
  show run0 (b_span _) = _
  unfold b_span
  simp only [check_thread_e h, span_of_e (show t.length ≤ 100 by omega) h.ne, if_true, if_false, B_P, L_s, run0_P, mNone_P, ite_and, ite_or, ite_and', ite_or', ite_t, ite_f, boolD_b, lt_ii, le_ii, gt_ii, ge_ii, add_ii, sub_ii, neg_i, part_i, seq_t, seq_l, tup2, tup0, lst0, lst1, lstS0, tup_l, tup_t, len_t, len_l, u2_p, isi_tt, isi_ii, isi_bi, isi_ss, Bool.not_true, Bool.not_false, Bool.and_true, Bool.true_and, Bool.or_false, Bool.false_or]
/-- the strengths, yard by yard -/
def row (t : Thread) : List Int := (yards (fst t) (lst t)).map (atY t)
theorem strengths_of_e {t : Thread} (h : VT t) : m_strengths_of [eT t] = some (.list (eI (row t))) := by
  have h2 := h.l2
  have f0 := h.fst0
  have l0 := h.lst0
  show run0 (b_strengths_of _) = _
  unfold b_strengths_of
  simp only [span_of_e (show t.length ≤ 100 by omega) h.ne, if_true, if_false, B_P, L_s, run0_P, mNone_P, ite_and, ite_or, ite_and', ite_or', ite_t, ite_f, boolD_b, lt_ii, le_ii, gt_ii, ge_ii, add_ii, sub_ii, neg_i, part_i, seq_t, seq_l, tup2, tup0, lst0, lst1, lstS0, tup_l, tup_t, len_t, len_l, u2_p, isi_tt, isi_ii, isi_bi, isi_ss, Bool.not_true, Bool.not_false, Bool.and_true, Bool.true_and, Bool.or_false, Bool.false_or]
  unfold eP
  simp only [range2_e (a := fst t) (b := lst t) (by omega) (by omega), if_true, if_false, B_P, L_s, run0_P, mNone_P, ite_and, ite_or, ite_and', ite_or', ite_t, ite_f, boolD_b, lt_ii, le_ii, gt_ii, ge_ii, add_ii, sub_ii, neg_i, part_i, seq_t, seq_l, tup2, tup0, lst0, lst1, lstS0, tup_l, tup_t, len_t, len_l, u2_p, isi_tt, isi_ii, isi_bi, isi_ss, Bool.not_true, Bool.not_false, Bool.and_true, Bool.true_and, Bool.or_false, Bool.false_or]
  rw [cmp_ints (g := fun y => .int (atY t y)) fun x _ => by simp only [at_yard_e (show t.length ≤ 100 by omega), if_true, if_false, B_P, L_s, run0_P, mNone_P, ite_and, ite_or, ite_and', ite_or', ite_t, ite_f, boolD_b, lt_ii, le_ii, gt_ii, ge_ii, add_ii, sub_ii, neg_i, part_i, seq_t, seq_l, tup2, tup0, lst0, lst1, lstS0, tup_l, tup_t, len_t, len_l, u2_p, isi_tt, isi_ii, isi_bi, isi_ss, Bool.not_true, Bool.not_false, Bool.and_true, Bool.true_and, Bool.or_false, Bool.false_or]]
  simp only [lstD_le (show ((yards (fst t) (lst t)).map fun y => PyData.int (atY t y)).length ≤ 16777216 by rw [List.length_map, yards_len]; omega), if_true, if_false, B_P, L_s, run0_P, mNone_P, ite_and, ite_or, ite_and', ite_or', ite_t, ite_f, boolD_b, lt_ii, le_ii, gt_ii, ge_ii, add_ii, sub_ii, neg_i, part_i, seq_t, seq_l, tup2, tup0, lst0, lst1, lstS0, tup_l, tup_t, len_t, len_l, u2_p, isi_tt, isi_ii, isi_bi, isi_ss, Bool.not_true, Bool.not_false, Bool.and_true, Bool.true_and, Bool.or_false, Bool.false_or]
  unfold row eI
  rw [List.map_map]
  rfl
theorem strengths_e {t : Thread} (h : VT t) : m_strengths [eT t] = some (.tuple (eI (row t))) := by
  show run0 (b_strengths _) = _
  unfold b_strengths
  simp only [check_thread_e h, strengths_of_e h, if_true, if_false, B_P, L_s, run0_P, mNone_P, ite_and, ite_or, ite_and', ite_or', ite_t, ite_f, boolD_b, lt_ii, le_ii, gt_ii, ge_ii, add_ii, sub_ii, neg_i, part_i, seq_t, seq_l, tup2, tup0, lst0, lst1, lstS0, tup_l, tup_t, len_t, len_l, u2_p, isi_tt, isi_ii, isi_bi, isi_ss, Bool.not_true, Bool.not_false, Bool.and_true, Bool.true_and, Bool.or_false, Bool.false_or]
theorem row_len (t : Thread) : (row t).length = (lst t - fst t).toNat := by simp [row, yards_len]
theorem row_ne {t : Thread} (h : VT t) : row t ≠ [] := fun e => by
  have := row_len t
  rw [e] at this
  have := h.lst0
  simp at *
  omega
theorem least_band_e {t : Thread} (h : VT t) : m_least_band [eT t] = some (eP (lo (row t), hi (row t))) := by
  show run0 (b_least_band _) = _
  unfold b_least_band
  simp only [check_thread_e h, strengths_of_e h, min_seq (seq_l _) (row_ne h), max_seq (seq_l _) (row_ne h), if_true, if_false, B_P, L_s, run0_P, mNone_P, ite_and, ite_or, ite_and', ite_or', ite_t, ite_f, boolD_b, lt_ii, le_ii, gt_ii, ge_ii, add_ii, sub_ii, neg_i, part_i, seq_t, seq_l, tup2, tup0, lst0, lst1, lstS0, tup_l, tup_t, len_t, len_l, u2_p, isi_tt, isi_ii, isi_bi, isi_ss, Bool.not_true, Bool.not_false, Bool.and_true, Bool.true_and, Bool.or_false, Bool.false_or]
  rfl
theorem spread_e {t : Thread} (h : VT t) : m_spread [eT t] = some (.int (hi (row t) - lo (row t))) := by
  show run0 (b_spread _) = _
  unfold b_spread
  simp only [check_thread_e h, strengths_of_e h, min_seq (seq_l _) (row_ne h), max_seq (seq_l _) (row_ne h), if_true, if_false, B_P, L_s, run0_P, mNone_P, ite_and, ite_or, ite_and', ite_or', ite_t, ite_f, boolD_b, lt_ii, le_ii, gt_ii, ge_ii, add_ii, sub_ii, neg_i, part_i, seq_t, seq_l, tup2, tup0, lst0, lst1, lstS0, tup_l, tup_t, len_t, len_l, u2_p, isi_tt, isi_ii, isi_bi, isi_ss, Bool.not_true, Bool.not_false, Bool.and_true, Bool.true_and, Bool.or_false, Bool.false_or]
theorem indexL_e {xs : List Int} {k : Int} (h : k ∈ xs) : indexL (.list (eI xs)) (.int k) = some (.int (xs.idxOf k : Nat)) := by
  show (intsOf (xs.map .int)).bind _ = _
  rw [intsOf_ints]
  exact if_pos h
theorem indexT_e {xs : List Int} {k : Int} (h : k ∈ xs) : indexT (.tuple (eI xs)) (.int k) = some (.int (xs.idxOf k : Nat)) := by
  show (intsOf (xs.map .int)).bind _ = _
  rw [intsOf_ints]
  exact if_pos h
theorem weakest_yard_e {t : Thread} (h : VT t) : m_weakest_yard [eT t] = some (eP (lo (row t), fst t + ((row t).idxOf (lo (row t)) : Nat))) := by
  have := h.l2
  show run0 (b_weakest_yard _) = _
  unfold b_weakest_yard
  simp only [check_thread_e h, strengths_of_e h, min_seq (seq_l _) (row_ne h), span_of_e (show t.length ≤ 100 by omega) h.ne, eP, ix0, indexL_e (lo_mem (row_ne h)), if_true, if_false, B_P, L_s, run0_P, mNone_P, ite_and, ite_or, ite_and', ite_or', ite_t, ite_f, boolD_b, lt_ii, le_ii, gt_ii, ge_ii, add_ii, sub_ii, neg_i, part_i, seq_t, seq_l, tup2, tup0, lst0, lst1, lstS0, tup_l, tup_t, len_t, len_l, u2_p, isi_tt, isi_ii, isi_bi, isi_ss, Bool.not_true, Bool.not_false, Bool.and_true, Bool.true_and, Bool.or_false, Bool.false_or]
end K20

set_option Elab.async false
set_option linter.all false
set_option maxRecDepth 100000
set_option maxHeartbeats 1000000
namespace K20
open PySem PySem.Spec PyProof.Rows L2 DL
abbrev Band : Type := Int × Int
structure VB (b : Band) : Prop where
  h0 : 0 ≤ b.1
  h1 : b.1 ≤ b.2
  h2 : b.2 ≤ 1000
def okb (b : Band) (v : Int) : Bool := decide (b.1 ≤ v) && decide (v ≤ b.2)
theorem is_band_e {b : Band} (h : VB b) : m_is_band [eP b] = some (.bool true) := by
  show run0 (b_is_band _) = _
  unfold b_is_band eP
  have h0 := h.h0
  have h1 := h.h1
  have h2 := h.h2
  have e1 : (decide ((0 : Int) ≤ b.1) && decide (b.1 ≤ 1000)) = true := by simp; omega
  have e2 : (decide (b.1 ≤ b.2) && decide (b.2 ≤ 1000)) = true := by simp; omega
  have e3 : (decide ((2 : Int) ≤ (([PyData.int b.1, PyData.int b.2] : List D).length : Int)) && decide ((([PyData.int b.1, PyData.int b.2] : List D).length : Int) ≤ 2)) = true := rfl
  simp only [is_tuple_e, e3, ix0, ix1, is_integer_e, e1, e2, if_true, if_false, B_P, L_s, run0_P, mNone_P, ite_and, ite_or, ite_and', ite_or', ite_t, ite_f, boolD_b, lt_ii, le_ii, gt_ii, ge_ii, add_ii, sub_ii, neg_i, part_i, seq_t, seq_l, tup2, tup0, lst0, lst1, lstS0, tup_l, tup_t, len_t, len_l, u2_p, isi_tt, isi_ii, isi_bi, isi_ss, Bool.not_true, Bool.not_false, Bool.and_true, Bool.true_and, Bool.or_false, Bool.false_or]
theorem check_band_e {b : Band} (h : VB b) : m_check_band [eP b] = some .none := by
  show mNone (b_check_band _) = _
  unfold b_check_band
  simp only [is_band_e h, if_true, if_false, B_P, L_s, run0_P, mNone_P, ite_and, ite_or, ite_and', ite_or', ite_t, ite_f, boolD_b, lt_ii, le_ii, gt_ii, ge_ii, add_ii, sub_ii, neg_i, part_i, seq_t, seq_l, tup2, tup0, lst0, lst1, lstS0, tup_l, tup_t, len_t, len_l, u2_p, isi_tt, isi_ii, isi_bi, isi_ss, Bool.not_true, Bool.not_false, Bool.and_true, Bool.true_and, Bool.or_false, Bool.false_or]
theorem check_both_e {t : Thread} {b : Band} (h : VT t) (hb : VB b) : m_check_both [eT t, eP b] = some .none := by
  show mNone (b_check_both _ _) = _
  unfold b_check_both
  simp only [check_thread_e h, check_band_e hb, if_true, if_false, B_P, L_s, run0_P, mNone_P, ite_and, ite_or, ite_and', ite_or', ite_t, ite_f, boolD_b, lt_ii, le_ii, gt_ii, ge_ii, add_ii, sub_ii, neg_i, part_i, seq_t, seq_l, tup2, tup0, lst0, lst1, lstS0, tup_l, tup_t, len_t, len_l, u2_p, isi_tt, isi_ii, isi_bi, isi_ss, Bool.not_true, Bool.not_false, Bool.and_true, Bool.true_and, Bool.or_false, Bool.false_or]
/-- the yards out of the band -/
def bads (t : Thread) (b : Band) : List Int := (yards (fst t) (lst t)).filter fun y => !okb b (atY t y)
theorem uneven_e {t : Thread} {b : Band} (h : VT t) (hb : VB b) : m_uneven [eT t, eP b] = some (.tuple (eI (bads t b))) := by
  have h2 := h.l2
  have f0 := h.fst0
  have l0 := h.lst0
  show run0 (b_uneven _ _) = _
  unfold b_uneven
  have e1 : enumD [.list (eI (row t))] = some ((yards (fst t) (lst t)).map fun y => .tuple [.int (y - fst t), .int (atY t y)]) := by
    show some (enumL (eI (row t))) = _
    unfold row
    rw [← eI_map, enum_y]
  simp only [check_both_e h hb, span_of_e (show t.length ≤ 100 by omega) h.ne, strengths_of_e h, e1, if_true, if_false, B_P, L_s, run0_P, mNone_P, ite_and, ite_or, ite_and', ite_or', ite_t, ite_f, boolD_b, lt_ii, le_ii, gt_ii, ge_ii, add_ii, sub_ii, neg_i, part_i, seq_t, seq_l, tup2, tup0, lst0, lst1, lstS0, tup_l, tup_t, len_t, len_l, u2_p, isi_tt, isi_ii, isi_bi, isi_ss, Bool.not_true, Bool.not_false, Bool.and_true, Bool.true_and, Bool.or_false, Bool.false_or]
  simp only [eP, ix0, if_true, if_false, B_P, L_s, run0_P, mNone_P, ite_and, ite_or, ite_and', ite_or', ite_t, ite_f, boolD_b, lt_ii, le_ii, gt_ii, ge_ii, add_ii, sub_ii, neg_i, part_i, seq_t, seq_l, tup2, tup0, lst0, lst1, lstS0, tup_l, tup_t, len_t, len_l, u2_p, isi_tt, isi_ii, isi_bi, isi_ss, Bool.not_true, Bool.not_false, Bool.and_true, Bool.true_and, Bool.or_false, Bool.false_or]
  rw [cmp_filter (p := fun y => !okb b (atY t y)) (g := fun y : Int => .int y) fun y _ => by
    simp only [eP, ix0, ix1, if_true, if_false, B_P, L_s, run0_P, mNone_P, ite_and, ite_or, ite_and', ite_or', ite_t, ite_f, boolD_b, lt_ii, le_ii, gt_ii, ge_ii, add_ii, sub_ii, neg_i, part_i, seq_t, seq_l, tup2, tup0, lst0, lst1, lstS0, tup_l, tup_t, len_t, len_l, u2_p, isi_tt, isi_ii, isi_bi, isi_ss, Bool.not_true, Bool.not_false, Bool.and_true, Bool.true_and, Bool.or_false, Bool.false_or]
    unfold okb
    rw [show fst t + (y - fst t) = y by omega]]
  have hl : (((yards (fst t) (lst t)).filter fun y => !okb b (atY t y)).map fun y : Int => PyData.int y).length ≤ 16777216 := by
    rw [List.length_map]
    exact Nat.le_trans (List.length_filter_le _ _) (by rw [yards_len]; omega)
  simp only [lstD_le hl, if_true, if_false, B_P, L_s, run0_P, mNone_P, ite_and, ite_or, ite_and', ite_or', ite_t, ite_f, boolD_b, lt_ii, le_ii, gt_ii, ge_ii, add_ii, sub_ii, neg_i, part_i, seq_t, seq_l, tup2, tup0, lst0, lst1, lstS0, tup_l, tup_t, len_t, len_l, u2_p, isi_tt, isi_ii, isi_bi, isi_ss, Bool.not_true, Bool.not_false, Bool.and_true, Bool.true_and, Bool.or_false, Bool.false_or]
  rfl
theorem is_even_e {t : Thread} {b : Band} (h : VT t) (hb : VB b) : m_is_even [eT t, eP b] = some (.bool (decide (bads t b = []))) := by
  show run0 (b_is_even _ _) = _
  unfold b_is_even
  simp only [uneven_e h hb, show eqB (.tuple (eI (bads t b))) (.tuple []) = some (decide (bads t b = [])) from eqT _ [], if_true, if_false, B_P, L_s, run0_P, mNone_P, ite_and, ite_or, ite_and', ite_or', ite_t, ite_f, boolD_b, lt_ii, le_ii, gt_ii, ge_ii, add_ii, sub_ii, neg_i, part_i, seq_t, seq_l, tup2, tup0, lst0, lst1, lstS0, tup_l, tup_t, len_t, len_l, u2_p, isi_tt, isi_ii, isi_bi, isi_ss, Bool.not_true, Bool.not_false, Bool.and_true, Bool.true_and, Bool.or_false, Bool.false_or]
/-- how many lie beside each other -/
def cnt (t : Thread) (y : Int) : Int := (t.filter fun p => decide (p.1 ≤ y) && decide (y < p.1 + p.2.length)).length
def cnts (t : Thread) : List Int := (yards (fst t) (lst t)).map (cnt t)
theorem beside_e {t : Thread} (h : VT t) : m_beside [eT t] = some (.tuple (eI (cnts t))) := by
  have h2 := h.l2
  have f0 := h.fst0
  have l0 := h.lst0
  show run0 (b_beside _) = _
  unfold b_beside
  simp only [check_thread_e h, span_of_e (show t.length ≤ 100 by omega) h.ne, eP, range2_e (a := fst t) (b := lst t) (by omega) (by omega), if_true, if_false, B_P, L_s, run0_P, mNone_P, ite_and, ite_or, ite_and', ite_or', ite_t, ite_f, boolD_b, lt_ii, le_ii, gt_ii, ge_ii, add_ii, sub_ii, neg_i, part_i, seq_t, seq_l, tup2, tup0, lst0, lst1, lstS0, tup_l, tup_t, len_t, len_l, u2_p, isi_tt, isi_ii, isi_bi, isi_ss, Bool.not_true, Bool.not_false, Bool.and_true, Bool.true_and, Bool.or_false, Bool.false_or]
  rw [show eI (yards (fst t) (lst t)) = (yards (fst t) (lst t)).map PyData.int from rfl, fold_app (g := fun y => [.int (cnt t y)]) (fun _ => by simp) (fun a y hy ha => ?_) (by simp [yards_len]; omega), flat_one]
  · simp only [List.nil_append, if_true, if_false, B_P, L_s, run0_P, mNone_P, ite_and, ite_or, ite_and', ite_or', ite_t, ite_f, boolD_b, lt_ii, le_ii, gt_ii, ge_ii, add_ii, sub_ii, neg_i, part_i, seq_t, seq_l, tup2, tup0, lst0, lst1, lstS0, tup_l, tup_t, len_t, len_l, u2_p, isi_tt, isi_ii, isi_bi, isi_ss, Bool.not_true, Bool.not_false, Bool.and_true, Bool.true_and, Bool.or_false, Bool.false_or]
    unfold cnts
    rw [eI_map]
  · unfold eT
    simp only [if_true, if_false, B_P, L_s, run0_P, mNone_P, ite_and, ite_or, ite_and', ite_or', ite_t, ite_f, boolD_b, lt_ii, le_ii, gt_ii, ge_ii, add_ii, sub_ii, neg_i, part_i, seq_t, seq_l, tup2, tup0, lst0, lst1, lstS0, tup_l, tup_t, len_t, len_l, u2_p, isi_tt, isi_ii, isi_bi, isi_ss, Bool.not_true, Bool.not_false, Bool.and_true, Bool.true_and, Bool.or_false, Bool.false_or]
    rw [cmp_filter (p := fun x : Int × Strand => decide (x.1 ≤ y) && decide (y < x.1 + x.2.length)) (g := fun x => .int x.1) fun x _ => by
      unfold eE eS
      simp only [eI_len, if_true, if_false, B_P, L_s, run0_P, mNone_P, ite_and, ite_or, ite_and', ite_or', ite_t, ite_f, boolD_b, lt_ii, le_ii, gt_ii, ge_ii, add_ii, sub_ii, neg_i, part_i, seq_t, seq_l, tup2, tup0, lst0, lst1, lstS0, tup_l, tup_t, len_t, len_l, u2_p, isi_tt, isi_ii, isi_bi, isi_ss, Bool.not_true, Bool.not_false, Bool.and_true, Bool.true_and, Bool.or_false, Bool.false_or]]
    have hl : ((t.filter fun x : Int × Strand => decide (x.1 ≤ y) && decide (y < x.1 + x.2.length)).map fun x => PyData.int x.1).length ≤ 16777216 := by
      rw [List.length_map]
      exact Nat.le_trans (List.length_filter_le _ _) (by omega)
    simp only [lstD_le hl, List.length_map, appL_lt ha, if_true, if_false, B_P, L_s, run0_P, mNone_P, ite_and, ite_or, ite_and', ite_or', ite_t, ite_f, boolD_b, lt_ii, le_ii, gt_ii, ge_ii, add_ii, sub_ii, neg_i, part_i, seq_t, seq_l, tup2, tup0, lst0, lst1, lstS0, tup_l, tup_t, len_t, len_l, u2_p, isi_tt, isi_ii, isi_bi, isi_ss, Bool.not_true, Bool.not_false, Bool.and_true, Bool.true_and, Bool.or_false, Bool.false_or]
    rfl
def jns (t : Thread) : List Int := sortI ((t.filter fun p => decide (fst t < p.1)).map fun p => p.1)
theorem joins_e {t : Thread} (h : VT t) : m_joins [eT t] = some (.tuple (eI (jns t))) := by
  have h2 := h.l2
  show run0 (b_joins _) = _
  unfold b_joins
  simp only [check_thread_e h, span_of_e (show t.length ≤ 100 by omega) h.ne, eP, ix0, if_true, if_false, B_P, L_s, run0_P, mNone_P, ite_and, ite_or, ite_and', ite_or', ite_t, ite_f, boolD_b, lt_ii, le_ii, gt_ii, ge_ii, add_ii, sub_ii, neg_i, part_i, seq_t, seq_l, tup2, tup0, lst0, lst1, lstS0, tup_l, tup_t, len_t, len_l, u2_p, isi_tt, isi_ii, isi_bi, isi_ss, Bool.not_true, Bool.not_false, Bool.and_true, Bool.true_and, Bool.or_false, Bool.false_or]
  unfold eT
  simp only [if_true, if_false, B_P, L_s, run0_P, mNone_P, ite_and, ite_or, ite_and', ite_or', ite_t, ite_f, boolD_b, lt_ii, le_ii, gt_ii, ge_ii, add_ii, sub_ii, neg_i, part_i, seq_t, seq_l, tup2, tup0, lst0, lst1, lstS0, tup_l, tup_t, len_t, len_l, u2_p, isi_tt, isi_ii, isi_bi, isi_ss, Bool.not_true, Bool.not_false, Bool.and_true, Bool.true_and, Bool.or_false, Bool.false_or]
  rw [cmp_filter (p := fun x : Int × Strand => decide (fst t < x.1)) (g := fun x => .int x.1) fun x _ => by
    unfold eE
    simp only [if_true, if_false, B_P, L_s, run0_P, mNone_P, ite_and, ite_or, ite_and', ite_or', ite_t, ite_f, boolD_b, lt_ii, le_ii, gt_ii, ge_ii, add_ii, sub_ii, neg_i, part_i, seq_t, seq_l, tup2, tup0, lst0, lst1, lstS0, tup_l, tup_t, len_t, len_l, u2_p, isi_tt, isi_ii, isi_bi, isi_ss, Bool.not_true, Bool.not_false, Bool.and_true, Bool.true_and, Bool.or_false, Bool.false_or]]
  have hl : (eI ((t.filter fun x : Int × Strand => decide (fst t < x.1)).map fun x => x.1)).length ≤ 16777216 := by
    rw [eI_len, List.length_map]
    exact Nat.le_trans (List.length_filter_le _ _) (by omega)
  simp only [eI_map, lstD_le hl, sorted_e, if_true, if_false, B_P, L_s, run0_P, mNone_P, ite_and, ite_or, ite_and', ite_or', ite_t, ite_f, boolD_b, lt_ii, le_ii, gt_ii, ge_ii, add_ii, sub_ii, neg_i, part_i, seq_t, seq_l, tup2, tup0, lst0, lst1, lstS0, tup_l, tup_t, len_t, len_l, u2_p, isi_tt, isi_ii, isi_bi, isi_ss, Bool.not_true, Bool.not_false, Bool.and_true, Bool.true_and, Bool.or_false, Bool.false_or]
  rfl
def mvd (t : Thread) (m : Int) : Thread := t.map fun p => (p.1 + m, p.2)
theorem moved_e {t : Thread} {m : Int} (h : VT t) (h0 : 0 ≤ m) (h1 : ∀ p ∈ t, p.1 + m ≤ 200) : m_moved [eT t, .int m] = some (eT (mvd t m)) := by
  have h2 := h.l2
  show run0 (b_moved _ _) = _
  unfold b_moved
  simp only [check_thread_e h, if_true, if_false, B_P, L_s, run0_P, mNone_P, ite_and, ite_or, ite_and', ite_or', ite_t, ite_f, boolD_b, lt_ii, le_ii, gt_ii, ge_ii, add_ii, sub_ii, neg_i, part_i, seq_t, seq_l, tup2, tup0, lst0, lst1, lstS0, tup_l, tup_t, len_t, len_l, u2_p, isi_tt, isi_ii, isi_bi, isi_ss, Bool.not_true, Bool.not_false, Bool.and_true, Bool.true_and, Bool.or_false, Bool.false_or]
  unfold eT
  simp only [if_true, if_false, B_P, L_s, run0_P, mNone_P, ite_and, ite_or, ite_and', ite_or', ite_t, ite_f, boolD_b, lt_ii, le_ii, gt_ii, ge_ii, add_ii, sub_ii, neg_i, part_i, seq_t, seq_l, tup2, tup0, lst0, lst1, lstS0, tup_l, tup_t, len_t, len_l, u2_p, isi_tt, isi_ii, isi_bi, isi_ss, Bool.not_true, Bool.not_false, Bool.and_true, Bool.true_and, Bool.or_false, Bool.false_or]
  rw [cmp_map (g := fun x : Int × Strand => .int x.1) fun x _ => by unfold eE; simp only [if_true, if_false, B_P, L_s, run0_P, mNone_P, ite_and, ite_or, ite_and', ite_or', ite_t, ite_f, boolD_b, lt_ii, le_ii, gt_ii, ge_ii, add_ii, sub_ii, neg_i, part_i, seq_t, seq_l, tup2, tup0, lst0, lst1, lstS0, tup_l, tup_t, len_t, len_l, u2_p, isi_tt, isi_ii, isi_bi, isi_ss, Bool.not_true, Bool.not_false, Bool.and_true, Bool.true_and, Bool.or_false, Bool.false_or]]
  simp only [eI_map, if_true, if_false, B_P, L_s, run0_P, mNone_P, ite_and, ite_or, ite_and', ite_or', ite_t, ite_f, boolD_b, lt_ii, le_ii, gt_ii, ge_ii, add_ii, sub_ii, neg_i, part_i, seq_t, seq_l, tup2, tup0, lst0, lst1, lstS0, tup_l, tup_t, len_t, len_l, u2_p, isi_tt, isi_ii, isi_bi, isi_ss, Bool.not_true, Bool.not_false, Bool.and_true, Bool.true_and, Bool.or_false, Bool.false_or]
  have hm : (t.map fun x : Int × Strand => x.1) ≠ [] := by simpa using h.ne
  have hi1 := hi_mem hm
  have e1 : (decide ((0 : Int) ≤ m) && decide (m ≤ 200 - hi (t.map fun x : Int × Strand => x.1))) = true := by
    obtain ⟨p, hp, e⟩ := List.mem_map.mp hi1
    have := h1 p hp
    simp
    omega
  simp only [lstD_le (show (eI (t.map fun x : Int × Strand => x.1)).length ≤ 16777216 by rw [eI_len, List.length_map]; omega), max_seq (seq_l _) hm, is_integer_e, e1, if_true, if_false, B_P, L_s, run0_P, mNone_P, ite_and, ite_or, ite_and', ite_or', ite_t, ite_f, boolD_b, lt_ii, le_ii, gt_ii, ge_ii, add_ii, sub_ii, neg_i, part_i, seq_t, seq_l, tup2, tup0, lst0, lst1, lstS0, tup_l, tup_t, len_t, len_l, u2_p, isi_tt, isi_ii, isi_bi, isi_ss, Bool.not_true, Bool.not_false, Bool.and_true, Bool.true_and, Bool.or_false, Bool.false_or]
  rw [cmp_map (g := fun x : Int × Strand => eE (x.1 + m, x.2)) fun x _ => by unfold eE; simp only [if_true, if_false, B_P, L_s, run0_P, mNone_P, ite_and, ite_or, ite_and', ite_or', ite_t, ite_f, boolD_b, lt_ii, le_ii, gt_ii, ge_ii, add_ii, sub_ii, neg_i, part_i, seq_t, seq_l, tup2, tup0, lst0, lst1, lstS0, tup_l, tup_t, len_t, len_l, u2_p, isi_tt, isi_ii, isi_bi, isi_ss, Bool.not_true, Bool.not_false, Bool.and_true, Bool.true_and, Bool.or_false, Bool.false_or]]
  simp only [lstD_le (show (t.map fun x : Int × Strand => eE (x.1 + m, x.2)).length ≤ 16777216 by rw [List.length_map]; omega), if_true, if_false, B_P, L_s, run0_P, mNone_P, ite_and, ite_or, ite_and', ite_or', ite_t, ite_f, boolD_b, lt_ii, le_ii, gt_ii, ge_ii, add_ii, sub_ii, neg_i, part_i, seq_t, seq_l, tup2, tup0, lst0, lst1, lstS0, tup_l, tup_t, len_t, len_l, u2_p, isi_tt, isi_ii, isi_bi, isi_ss, Bool.not_true, Bool.not_false, Bool.and_true, Bool.true_and, Bool.or_false, Bool.false_or]
  unfold mvd
  rw [List.map_map]
  rfl
theorem turned_e {s : Strand} (h : VS s) : m_turned [eS s] = some (eS s.reverse) := by
  show run0 (b_turned _) = _
  unfold b_turned
  simp only [check_strand_e h, if_true, if_false, B_P, L_s, run0_P, mNone_P, ite_and, ite_or, ite_and', ite_or', ite_t, ite_f, boolD_b, lt_ii, le_ii, gt_ii, ge_ii, add_ii, sub_ii, neg_i, part_i, seq_t, seq_l, tup2, tup0, lst0, lst1, lstS0, tup_l, tup_t, len_t, len_l, u2_p, isi_tt, isi_ii, isi_bi, isi_ss, Bool.not_true, Bool.not_false, Bool.and_true, Bool.true_and, Bool.or_false, Bool.false_or]
  show run0 (L (some (PyData.tuple (eI s).reverse))) = _
  simp only [if_true, if_false, B_P, L_s, run0_P, mNone_P, ite_and, ite_or, ite_and', ite_or', ite_t, ite_f, boolD_b, lt_ii, le_ii, gt_ii, ge_ii, add_ii, sub_ii, neg_i, part_i, seq_t, seq_l, tup2, tup0, lst0, lst1, lstS0, tup_l, tup_t, len_t, len_l, u2_p, isi_tt, isi_ii, isi_bi, isi_ss, Bool.not_true, Bool.not_false, Bool.and_true, Bool.true_and, Bool.or_false, Bool.false_or]
  unfold eS eI
  rw [List.map_reverse]
/-- the thread without its k-th strand -/
def wo (t : Thread) (k : Int) : Thread := t.take k.toNat ++ t.drop (k.toNat + 1)
def ndl (t : Thread) (b : Band) : List Int := (yards 0 t.length).filter fun k => (yards (fst t) (lst t)).all fun y => okb b (atY (wo t k) y)
theorem needless_e {t : Thread} {b : Band} (h : VT t) (hb : VB b) : m_needless [eT t, eP b] = some (.tuple (eI (ndl t b))) := by
  have h2 := h.l2
  have f0 := h.fst0
  have l0 := h.lst0
  show run0 (b_needless _ _) = _
  unfold b_needless
  simp only [check_both_e h hb, span_of_e (show t.length ≤ 100 by omega) h.ne, if_true, if_false, B_P, L_s, run0_P, mNone_P, ite_and, ite_or, ite_and', ite_or', ite_t, ite_f, boolD_b, lt_ii, le_ii, gt_ii, ge_ii, add_ii, sub_ii, neg_i, part_i, seq_t, seq_l, tup2, tup0, lst0, lst1, lstS0, tup_l, tup_t, len_t, len_l, u2_p, isi_tt, isi_ii, isi_bi, isi_ss, Bool.not_true, Bool.not_false, Bool.and_true, Bool.true_and, Bool.or_false, Bool.false_or]
  unfold eT
  simp only [eP, List.length_map, range1_e (b := (t.length : Int)) (by omega), if_true, if_false, B_P, L_s, run0_P, mNone_P, ite_and, ite_or, ite_and', ite_or', ite_t, ite_f, boolD_b, lt_ii, le_ii, gt_ii, ge_ii, add_ii, sub_ii, neg_i, part_i, seq_t, seq_l, tup2, tup0, lst0, lst1, lstS0, tup_l, tup_t, len_t, len_l, u2_p, isi_tt, isi_ii, isi_bi, isi_ss, Bool.not_true, Bool.not_false, Bool.and_true, Bool.true_and, Bool.or_false, Bool.false_or]
  rw [show eI (yards 0 (t.length : Int)) = (yards 0 (t.length : Int)).map PyData.int from rfl, fold_app (g := fun k => if ((yards (fst t) (lst t)).all fun y => okb b (atY (wo t k) y)) = true then [.int k] else []) (fun k => by split <;> simp) (fun a k hk ha => ?_) (by simp [yards_len]; omega), flat_if]
  · simp only [List.nil_append, if_true, if_false, B_P, L_s, run0_P, mNone_P, ite_and, ite_or, ite_and', ite_or', ite_t, ite_f, boolD_b, lt_ii, le_ii, gt_ii, ge_ii, add_ii, sub_ii, neg_i, part_i, seq_t, seq_l, tup2, tup0, lst0, lst1, lstS0, tup_l, tup_t, len_t, len_l, u2_p, isi_tt, isi_ii, isi_bi, isi_ss, Bool.not_true, Bool.not_false, Bool.and_true, Bool.true_and, Bool.or_false, Bool.false_or]
    rfl
  · obtain ⟨k0, k1⟩ := yards_mem.mp hk
    have ec1 : cutL (t.map eE) none (some k) = (t.take k.toNat).map eE := by rw [cut_to _ k0 (by rw [List.length_map]; omega), List.map_take]
    have ec2 : cutL (t.map eE) (some (k + 1)) none = (t.drop (k.toNat + 1)).map eE := by rw [cut_from _ (by omega) (by rw [List.length_map]; omega), List.map_drop, show (k + 1).toNat = k.toNat + 1 by omega]
    have el : (t.take k.toNat).map eE ++ ((t.drop (k.toNat + 1)).map eE ++ []) = (wo t k).map eE := by unfold wo; rw [List.append_nil, List.map_append]
    have hw : (wo t k).length ≤ 100 := by
      unfold wo
      rw [List.length_append, List.length_take, List.length_drop]
      omega
    simp only [slice_t, ec1, ec2, el, lstD_le (show ((wo t k).map eE).length ≤ 16777216 by rw [List.length_map]; omega), range2_e (a := fst t) (b := lst t) (by omega) (by omega), if_true, if_false, B_P, L_s, run0_P, mNone_P, ite_and, ite_or, ite_and', ite_or', ite_t, ite_f, boolD_b, lt_ii, le_ii, gt_ii, ge_ii, add_ii, sub_ii, neg_i, part_i, seq_t, seq_l, tup2, tup0, lst0, lst1, lstS0, tup_l, tup_t, len_t, len_l, u2_p, isi_tt, isi_ii, isi_bi, isi_ss, Bool.not_true, Bool.not_false, Bool.and_true, Bool.true_and, Bool.or_false, Bool.false_or]
    rw [cmp_ints (g := fun y => .bool (okb b (atY (wo t k) y))) fun y _ => by
      simp only [ix0, ix1, at_yard_s hw (seq_l _), if_true, if_false, B_P, L_s, run0_P, mNone_P, ite_and, ite_or, ite_and', ite_or', ite_t, ite_f, boolD_b, lt_ii, le_ii, gt_ii, ge_ii, add_ii, sub_ii, neg_i, part_i, seq_t, seq_l, tup2, tup0, lst0, lst1, lstS0, tup_l, tup_t, len_t, len_l, u2_p, isi_tt, isi_ii, isi_bi, isi_ss, Bool.not_true, Bool.not_false, Bool.and_true, Bool.true_and, Bool.or_false, Bool.false_or]
      rfl]
    simp only [lstD_le (show ((yards (fst t) (lst t)).map fun y => PyData.bool (okb b (atY (wo t k) y))).length ≤ 16777216 by rw [List.length_map, yards_len]; omega), all_bools, if_true, if_false, B_P, L_s, run0_P, mNone_P, ite_and, ite_or, ite_and', ite_or', ite_t, ite_f, boolD_b, lt_ii, le_ii, gt_ii, ge_ii, add_ii, sub_ii, neg_i, part_i, seq_t, seq_l, tup2, tup0, lst0, lst1, lstS0, tup_l, tup_t, len_t, len_l, u2_p, isi_tt, isi_ii, isi_bi, isi_ss, Bool.not_true, Bool.not_false, Bool.and_true, Bool.true_and, Bool.or_false, Bool.false_or]
    cases c : (yards (fst t) (lst t)).all fun y => okb b (atY (wo t k) y)
    · rw [if_neg (by simp), if_neg (by simp)]
      simp only [List.append_nil, if_true, if_false, B_P, L_s, run0_P, mNone_P, ite_and, ite_or, ite_and', ite_or', ite_t, ite_f, boolD_b, lt_ii, le_ii, gt_ii, ge_ii, add_ii, sub_ii, neg_i, part_i, seq_t, seq_l, tup2, tup0, lst0, lst1, lstS0, tup_l, tup_t, len_t, len_l, u2_p, isi_tt, isi_ii, isi_bi, isi_ss, Bool.not_true, Bool.not_false, Bool.and_true, Bool.true_and, Bool.or_false, Bool.false_or]
    · rw [if_pos rfl, if_pos rfl]
      simp only [appL_lt ha, if_true, if_false, B_P, L_s, run0_P, mNone_P, ite_and, ite_or, ite_and', ite_or', ite_t, ite_f, boolD_b, lt_ii, le_ii, gt_ii, ge_ii, add_ii, sub_ii, neg_i, part_i, seq_t, seq_l, tup2, tup0, lst0, lst1, lstS0, tup_l, tup_t, len_t, len_l, u2_p, isi_tt, isi_ii, isi_bi, isi_ss, Bool.not_true, Bool.not_false, Bool.and_true, Bool.true_and, Bool.or_false, Bool.false_or]
end K20

set_option Elab.async false
set_option linter.all false
set_option maxRecDepth 100000
set_option maxHeartbeats 1000000
namespace K20
open PySem PySem.Spec PyProof.Rows L2 DL
open PySem.W (Datum Tup DatumOrd)
theorem weakest_e {s : Strand} (h : VS s) : m_weakest [eS s] = some (eP (lo s, (s.idxOf (lo s) : Nat))) := by
  show run0 (b_weakest _) = _
  unfold b_weakest
  simp only [check_strand_e h, if_true, if_false, B_P, L_s, run0_P, mNone_P, ite_and, ite_or, ite_and', ite_or', ite_t, ite_f, boolD_b, lt_ii, le_ii, gt_ii, ge_ii, add_ii, sub_ii, neg_i, part_i, seq_t, seq_l, tup2, tup0, lst0, lst1, lstS0, tup_l, tup_t, len_t, len_l, u2_p, isi_tt, isi_ii, isi_bi, isi_ss, Bool.not_true, Bool.not_false, Bool.and_true, Bool.true_and, Bool.or_false, Bool.false_or]
  unfold eS
  simp only [min_seq (seq_t _) h.ne, indexT_e (lo_mem h.ne), if_true, if_false, B_P, L_s, run0_P, mNone_P, ite_and, ite_or, ite_and', ite_or', ite_t, ite_f, boolD_b, lt_ii, le_ii, gt_ii, ge_ii, add_ii, sub_ii, neg_i, part_i, seq_t, seq_l, tup2, tup0, lst0, lst1, lstS0, tup_l, tup_t, len_t, len_l, u2_p, isi_tt, isi_ii, isi_bi, isi_ss, Bool.not_true, Bool.not_false, Bool.and_true, Bool.true_and, Bool.or_false, Bool.false_or]
  rfl
theorem cut_e {s : Strand} {a b : Int} (h : VS s) (h0 : 0 ≤ a) (h1 : a < s.length) (h2 : a < b) (h3 : b ≤ s.length) : m_cut [eS s, .int a, .int b] = some (eS ((s.drop a.toNat).take (b - a).toNat)) := by
  show run0 (b_cut _ _ _) = _
  unfold b_cut
  simp only [check_strand_e h, if_true, if_false, B_P, L_s, run0_P, mNone_P, ite_and, ite_or, ite_and', ite_or', ite_t, ite_f, boolD_b, lt_ii, le_ii, gt_ii, ge_ii, add_ii, sub_ii, neg_i, part_i, seq_t, seq_l, tup2, tup0, lst0, lst1, lstS0, tup_l, tup_t, len_t, len_l, u2_p, isi_tt, isi_ii, isi_bi, isi_ss, Bool.not_true, Bool.not_false, Bool.and_true, Bool.true_and, Bool.or_false, Bool.false_or]
  have e1 : (decide ((0 : Int) ≤ a) && decide (a ≤ (s.length : Int) - 1)) = true := by simp; omega
  have e2 : (decide (a + 1 ≤ b) && decide (b ≤ (s.length : Int))) = true := by simp; omega
  unfold eS
  simp only [eI_len, is_integer_e, e1, e2, slice_t, cut_both (eI s) h0 (show a ≤ b by omega) (by rw [eI_len]; omega), if_true, if_false, B_P, L_s, run0_P, mNone_P, ite_and, ite_or, ite_and', ite_or', ite_t, ite_f, boolD_b, lt_ii, le_ii, gt_ii, ge_ii, add_ii, sub_ii, neg_i, part_i, seq_t, seq_l, tup2, tup0, lst0, lst1, lstS0, tup_l, tup_t, len_t, len_l, u2_p, isi_tt, isi_ii, isi_bi, isi_ss, Bool.not_true, Bool.not_false, Bool.and_true, Bool.true_and, Bool.or_false, Bool.false_or]
  unfold eI
  rw [List.map_take, List.map_drop]
theorem end_to_end_e {s r : Strand} (h : VS s) (h2 : VS r) (hl : s.length + r.length ≤ 60) : m_end_to_end [eS s, eS r] = some (eS (s ++ r)) := by
  show run0 (b_end_to_end _ _) = _
  unfold b_end_to_end
  simp only [check_strand_e h, check_strand_e h2, if_true, if_false, B_P, L_s, run0_P, mNone_P, ite_and, ite_or, ite_and', ite_or', ite_t, ite_f, boolD_b, lt_ii, le_ii, gt_ii, ge_ii, add_ii, sub_ii, neg_i, part_i, seq_t, seq_l, tup2, tup0, lst0, lst1, lstS0, tup_l, tup_t, len_t, len_l, u2_p, isi_tt, isi_ii, isi_bi, isi_ss, Bool.not_true, Bool.not_false, Bool.and_true, Bool.true_and, Bool.or_false, Bool.false_or]
  have e1 : decide ((60 : Int) < (s.length : Int) + (r.length : Int)) = false := by simp; omega
  unfold eS
  simp only [eI_len, e1, Bool.false_eq_true, add_tt (eI s) (eI r) (by rw [eI_len, eI_len]; omega), if_true, if_false, B_P, L_s, run0_P, mNone_P, ite_and, ite_or, ite_and', ite_or', ite_t, ite_f, boolD_b, lt_ii, le_ii, gt_ii, ge_ii, add_ii, sub_ii, neg_i, part_i, seq_t, seq_l, tup2, tup0, lst0, lst1, lstS0, tup_l, tup_t, len_t, len_l, u2_p, isi_tt, isi_ii, isi_bi, isi_ss, Bool.not_true, Bool.not_false, Bool.and_true, Bool.true_and, Bool.or_false, Bool.false_or]
  unfold eI
  rw [List.map_append]
def ab (i : Int) : Int := if i < 0 then -i else i
def stp (s : Strand) : List Int := (s.zip (s.drop 1)).map fun p => ab (p.2 - p.1)
def swg (s : Strand) : Option (Int × Int) := if stp s = [] then none else some (hi (stp s), ((stp s).idxOf (hi (stp s)) : Nat))
theorem stp_len (s : Strand) : (stp s).length = s.length - 1 := by
  unfold stp
  rw [List.length_map, List.length_zip, List.length_drop]
  omega
theorem swing_e {s : Strand} (h : VS s) : m_swing [eS s] = some (eO (swg s)) := by
  have h2 := h.l2
  have h1 := h.l1
  show run0 (b_swing _) = _
  unfold b_swing
  simp only [check_strand_e h, if_true, if_false, B_P, L_s, run0_P, mNone_P, ite_and, ite_or, ite_and', ite_or', ite_t, ite_f, boolD_b, lt_ii, le_ii, gt_ii, ge_ii, add_ii, sub_ii, neg_i, part_i, seq_t, seq_l, tup2, tup0, lst0, lst1, lstS0, tup_l, tup_t, len_t, len_l, u2_p, isi_tt, isi_ii, isi_bi, isi_ss, Bool.not_true, Bool.not_false, Bool.and_true, Bool.true_and, Bool.or_false, Bool.false_or]
  unfold eS
  simp only [slice_t, cut_from (eI s) (show (0 : Int) ≤ 1 by omega) (by rw [eI_len]; omega), if_true, if_false, B_P, L_s, run0_P, mNone_P, ite_and, ite_or, ite_and', ite_or', ite_t, ite_f, boolD_b, lt_ii, le_ii, gt_ii, ge_ii, add_ii, sub_ii, neg_i, part_i, seq_t, seq_l, tup2, tup0, lst0, lst1, lstS0, tup_l, tup_t, len_t, len_l, u2_p, isi_tt, isi_ii, isi_bi, isi_ss, Bool.not_true, Bool.not_false, Bool.and_true, Bool.true_and, Bool.or_false, Bool.false_or]
  rw [show (eI s).drop (1 : Int).toNat = eI (s.drop 1) by unfold eI; rw [List.map_drop]; rfl]
  simp only [zip_tt, pairs_eI, if_true, if_false, B_P, L_s, run0_P, mNone_P, ite_and, ite_or, ite_and', ite_or', ite_t, ite_f, boolD_b, lt_ii, le_ii, gt_ii, ge_ii, add_ii, sub_ii, neg_i, part_i, seq_t, seq_l, tup2, tup0, lst0, lst1, lstS0, tup_l, tup_t, len_t, len_l, u2_p, isi_tt, isi_ii, isi_bi, isi_ss, Bool.not_true, Bool.not_false, Bool.and_true, Bool.true_and, Bool.or_false, Bool.false_or]
  rw [cmp_map (g := fun p : Int × Int => .int (ab (p.2 - p.1))) fun p _ => by
    unfold eP
    simp only [abs_i, if_true, if_false, B_P, L_s, run0_P, mNone_P, ite_and, ite_or, ite_and', ite_or', ite_t, ite_f, boolD_b, lt_ii, le_ii, gt_ii, ge_ii, add_ii, sub_ii, neg_i, part_i, seq_t, seq_l, tup2, tup0, lst0, lst1, lstS0, tup_l, tup_t, len_t, len_l, u2_p, isi_tt, isi_ii, isi_bi, isi_ss, Bool.not_true, Bool.not_false, Bool.and_true, Bool.true_and, Bool.or_false, Bool.false_or]
    rfl]
  rw [show ((s.zip (s.drop 1)).map fun p : Int × Int => PyData.int (ab (p.2 - p.1))) = eI (stp s) by unfold stp; rw [eI_map]]
  simp only [lstD_le (show (eI (stp s)).length ≤ 16777216 by rw [eI_len, stp_len]; omega), show neB (.list (eI (stp s))) (.list []) = some (!decide (stp s = [])) from eqLI _ [], if_true, if_false, B_P, L_s, run0_P, mNone_P, ite_and, ite_or, ite_and', ite_or', ite_t, ite_f, boolD_b, lt_ii, le_ii, gt_ii, ge_ii, add_ii, sub_ii, neg_i, part_i, seq_t, seq_l, tup2, tup0, lst0, lst1, lstS0, tup_l, tup_t, len_t, len_l, u2_p, isi_tt, isi_ii, isi_bi, isi_ss, Bool.not_true, Bool.not_false, Bool.and_true, Bool.true_and, Bool.or_false, Bool.false_or]
  unfold swg
  by_cases c : stp s = []
  · rw [if_pos c, decide_eq_true c]
    simp only [Bool.false_eq_true, if_true, if_false, B_P, L_s, run0_P, mNone_P, ite_and, ite_or, ite_and', ite_or', ite_t, ite_f, boolD_b, lt_ii, le_ii, gt_ii, ge_ii, add_ii, sub_ii, neg_i, part_i, seq_t, seq_l, tup2, tup0, lst0, lst1, lstS0, tup_l, tup_t, len_t, len_l, u2_p, isi_tt, isi_ii, isi_bi, isi_ss, Bool.not_true, Bool.not_false, Bool.and_true, Bool.true_and, Bool.or_false, Bool.false_or]
    rfl
  · rw [if_neg c, decide_eq_false c]
    simp only [max_seq (seq_l _) c, indexL_e (hi_mem c), if_true, if_false, B_P, L_s, run0_P, mNone_P, ite_and, ite_or, ite_and', ite_or', ite_t, ite_f, boolD_b, lt_ii, le_ii, gt_ii, ge_ii, add_ii, sub_ii, neg_i, part_i, seq_t, seq_l, tup2, tup0, lst0, lst1, lstS0, tup_l, tup_t, len_t, len_l, u2_p, isi_tt, isi_ii, isi_bi, isi_ss, Bool.not_true, Bool.not_false, Bool.and_true, Bool.true_and, Bool.or_false, Bool.false_or]
    rfl
/-! ### trimmed -/
def tlo (a : Int) (x : Int × Strand) : Int := max a x.1
def thi (b : Int) (x : Int × Strand) : Int := min b (x.1 + x.2.length)
def tcut (a b : Int) (x : Int × Strand) : Int × Strand := (tlo a x, (x.2.drop (tlo a x - x.1).toNat).take (thi b x - tlo a x).toNat)
def trm (t : Thread) (a b : Int) : Thread := (t.filter fun x => decide (tlo a x < thi b x)).map (tcut a b)
def eTO (t : Thread) : D := if t = [] then .none else eT t
theorem trimmed_e {t : Thread} {a b : Int} (h : VT t) (h0 : 0 ≤ a) (h1 : a ≤ 200) (h2 : a < b) (h3 : b ≤ 400) : m_trimmed [eT t, .int a, .int b] = some (eTO (trm t a b)) := by
  have hl := h.l2
  show run0 (b_trimmed _ _ _) = _
  unfold b_trimmed
  simp only [check_thread_e h, if_true, if_false, B_P, L_s, run0_P, mNone_P, ite_and, ite_or, ite_and', ite_or', ite_t, ite_f, boolD_b, lt_ii, le_ii, gt_ii, ge_ii, add_ii, sub_ii, neg_i, part_i, seq_t, seq_l, tup2, tup0, lst0, lst1, lstS0, tup_l, tup_t, len_t, len_l, u2_p, isi_tt, isi_ii, isi_bi, isi_ss, Bool.not_true, Bool.not_false, Bool.and_true, Bool.true_and, Bool.or_false, Bool.false_or]
  have e1 : (decide ((0 : Int) ≤ a) && decide (a ≤ 200)) = true := by simp; omega
  have e2 : (decide (a + 1 ≤ b) && decide (b ≤ 2 * 200)) = true := by simp; omega
  unfold eT
  simp only [is_integer_e, e1, mul_ii (i := 2) (j := 200) (by decide), e2, if_true, if_false, B_P, L_s, run0_P, mNone_P, ite_and, ite_or, ite_and', ite_or', ite_t, ite_f, boolD_b, lt_ii, le_ii, gt_ii, ge_ii, add_ii, sub_ii, neg_i, part_i, seq_t, seq_l, tup2, tup0, lst0, lst1, lstS0, tup_l, tup_t, len_t, len_l, u2_p, isi_tt, isi_ii, isi_bi, isi_ss, Bool.not_true, Bool.not_false, Bool.and_true, Bool.true_and, Bool.or_false, Bool.false_or]
  rw [fold_app (g := fun x : Int × Strand => if decide (tlo a x < thi b x) = true then [eE (tcut a b x)] else []) (fun k => by split <;> simp) (fun c x hx hc => ?_) (by simp; omega), flat_if]
  · simp only [List.nil_append, if_true, if_false, B_P, L_s, run0_P, mNone_P, ite_and, ite_or, ite_and', ite_or', ite_t, ite_f, boolD_b, lt_ii, le_ii, gt_ii, ge_ii, add_ii, sub_ii, neg_i, part_i, seq_t, seq_l, tup2, tup0, lst0, lst1, lstS0, tup_l, tup_t, len_t, len_l, u2_p, isi_tt, isi_ii, isi_bi, isi_ss, Bool.not_true, Bool.not_false, Bool.and_true, Bool.true_and, Bool.or_false, Bool.false_or]
    have en : neB (.list ((t.filter fun x => decide (tlo a x < thi b x)).map fun x => eE (tcut a b x))) (.list []) = some (!decide (trm t a b = [])) := by
      have z := ne_dat (((trm t a b).map fun p => (p.1, Tup.mk p.2))) [] (by decide)
      have e : Datum.toD (((trm t a b).map fun p => (p.1, Tup.mk p.2)) : List (Int × Tup Int)) = .list ((t.filter fun x => decide (tlo a x < thi b x)).map fun x => eE (tcut a b x)) := by
        show PyData.list _ = _
        unfold trm
        rw [List.map_map, List.map_map]
        rfl
      rw [e] at z
      rw [show (PyData.list [] : D) = Datum.toD ([] : List (Int × Tup Int)) from rfl, z]
      congr 2
      rw [Bool.eq_iff_iff, decide_eq_true_eq, decide_eq_true_eq]
      simp
    simp only [en, if_true, if_false, B_P, L_s, run0_P, mNone_P, ite_and, ite_or, ite_and', ite_or', ite_t, ite_f, boolD_b, lt_ii, le_ii, gt_ii, ge_ii, add_ii, sub_ii, neg_i, part_i, seq_t, seq_l, tup2, tup0, lst0, lst1, lstS0, tup_l, tup_t, len_t, len_l, u2_p, isi_tt, isi_ii, isi_bi, isi_ss, Bool.not_true, Bool.not_false, Bool.and_true, Bool.true_and, Bool.or_false, Bool.false_or]
    unfold eTO
    by_cases c : trm t a b = []
    · rw [if_pos c, decide_eq_true c]
      simp only [Bool.false_eq_true, if_true, if_false, B_P, L_s, run0_P, mNone_P, ite_and, ite_or, ite_and', ite_or', ite_t, ite_f, boolD_b, lt_ii, le_ii, gt_ii, ge_ii, add_ii, sub_ii, neg_i, part_i, seq_t, seq_l, tup2, tup0, lst0, lst1, lstS0, tup_l, tup_t, len_t, len_l, u2_p, isi_tt, isi_ii, isi_bi, isi_ss, Bool.not_true, Bool.not_false, Bool.and_true, Bool.true_and, Bool.or_false, Bool.false_or]
    · rw [if_neg c, decide_eq_false c]
      simp only [if_true, if_false, B_P, L_s, run0_P, mNone_P, ite_and, ite_or, ite_and', ite_or', ite_t, ite_f, boolD_b, lt_ii, le_ii, gt_ii, ge_ii, add_ii, sub_ii, neg_i, part_i, seq_t, seq_l, tup2, tup0, lst0, lst1, lstS0, tup_l, tup_t, len_t, len_l, u2_p, isi_tt, isi_ii, isi_bi, isi_ss, Bool.not_true, Bool.not_false, Bool.and_true, Bool.true_and, Bool.or_false, Bool.false_or]
      unfold trm eT
      rw [List.map_map]
      rfl
  · unfold eE eS
    simp only [eI_len, max2_e, min2_e, if_true, if_false, B_P, L_s, run0_P, mNone_P, ite_and, ite_or, ite_and', ite_or', ite_t, ite_f, boolD_b, lt_ii, le_ii, gt_ii, ge_ii, add_ii, sub_ii, neg_i, part_i, seq_t, seq_l, tup2, tup0, lst0, lst1, lstS0, tup_l, tup_t, len_t, len_l, u2_p, isi_tt, isi_ii, isi_bi, isi_ss, Bool.not_true, Bool.not_false, Bool.and_true, Bool.true_and, Bool.or_false, Bool.false_or]
    rw [show max a x.1 = tlo a x from rfl, show min b (x.1 + (x.2.length : Int)) = thi b x from rfl]
    by_cases cc : tlo a x < thi b x
    · have f1 : x.1 ≤ tlo a x := by unfold tlo; omega
      have f2 : thi b x ≤ x.1 + x.2.length := by unfold thi; omega
      rw [decide_eq_true cc]
      simp only [slice_t, cut_both (eI x.2) (show 0 ≤ tlo a x - x.1 by omega) (show tlo a x - x.1 ≤ thi b x - x.1 by omega) (by rw [eI_len]; omega), appL_lt hc, if_true, if_false, B_P, L_s, run0_P, mNone_P, ite_and, ite_or, ite_and', ite_or', ite_t, ite_f, boolD_b, lt_ii, le_ii, gt_ii, ge_ii, add_ii, sub_ii, neg_i, part_i, seq_t, seq_l, tup2, tup0, lst0, lst1, lstS0, tup_l, tup_t, len_t, len_l, u2_p, isi_tt, isi_ii, isi_bi, isi_ss, Bool.not_true, Bool.not_false, Bool.and_true, Bool.true_and, Bool.or_false, Bool.false_or]
      unfold tcut eI
      rw [List.map_take, List.map_drop, show thi b x - x.1 - (tlo a x - x.1) = thi b x - tlo a x by omega]
    · rw [decide_eq_false cc]
      simp only [Bool.false_eq_true, List.append_nil, if_true, if_false, B_P, L_s, run0_P, mNone_P, ite_and, ite_or, ite_and', ite_or', ite_t, ite_f, boolD_b, lt_ii, le_ii, gt_ii, ge_ii, add_ii, sub_ii, neg_i, part_i, seq_t, seq_l, tup2, tup0, lst0, lst1, lstS0, tup_l, tup_t, len_t, len_l, u2_p, isi_tt, isi_ii, isi_bi, isi_ss, Bool.not_true, Bool.not_false, Bool.and_true, Bool.true_and, Bool.or_false, Bool.false_or]
/-! ### the longest even part -/
def edges (t : Thread) (b : Band) : List Int := (fst t - 1) :: (bads t b ++ [lst t])
def gaps (es : List Int) : List (Int × Int) := (es.zip (es.drop 1)).map fun p => (p.2 - p.1 - 1, -p.1 - 1)
def best (es : List Int) : Int × Int := match gaps es with
  | [] => (0, 0)
  | x :: xs => PySem.W.maxOf x xs
def evp (t : Thread) (b : Band) : Option (Int × Int) := if 0 < (best (edges t b)).1 then some (-(best (edges t b)).2, -(best (edges t b)).2 + (best (edges t b)).1) else none
theorem bads_len (t : Thread) (b : Band) : (bads t b).length ≤ (lst t - fst t).toNat := by
  unfold bads
  exact Nat.le_trans (List.length_filter_le _ _) (by rw [yards_len]; omega)
theorem even_part_e {t : Thread} {b : Band} (h : VT t) (hb : VB b) : m_even_part [eT t, eP b] = some (eO (evp t b)) := by
  have h2 := h.l2
  have l0 := h.lst0
  have f0 := h.fst0
  have hbl := bads_len t b
  show run0 (b_even_part _ _) = _
  unfold b_even_part
  simp only [uneven_e h hb, span_of_e (show t.length ≤ 100 by omega) h.ne, if_true, if_false, B_P, L_s, run0_P, mNone_P, ite_and, ite_or, ite_and', ite_or', ite_t, ite_f, boolD_b, lt_ii, le_ii, gt_ii, ge_ii, add_ii, sub_ii, neg_i, part_i, seq_t, seq_l, tup2, tup0, lst0, lst1, lstS0, tup_l, tup_t, len_t, len_l, u2_p, isi_tt, isi_ii, isi_bi, isi_ss, Bool.not_true, Bool.not_false, Bool.and_true, Bool.true_and, Bool.or_false, Bool.false_or]
  unfold eP
  have ee : (PyData.int (fst t - 1) :: (eI (bads t b) ++ [PyData.int (lst t)])) = eI (edges t b) := by
    unfold edges eI
    simp
  have el : (edges t b).length ≤ 1000 := by
    unfold edges
    simp
    omega
  have el1 : 2 ≤ (edges t b).length := by
    unfold edges
    simp
  simp only [ee, lstD_le (show (eI (edges t b)).length ≤ 16777216 by rw [eI_len]; omega), slice_l, cut_from (eI (edges t b)) (show (0 : Int) ≤ 1 by omega) (by rw [eI_len]; omega), if_true, if_false, B_P, L_s, run0_P, mNone_P, ite_and, ite_or, ite_and', ite_or', ite_t, ite_f, boolD_b, lt_ii, le_ii, gt_ii, ge_ii, add_ii, sub_ii, neg_i, part_i, seq_t, seq_l, tup2, tup0, lst0, lst1, lstS0, tup_l, tup_t, len_t, len_l, u2_p, isi_tt, isi_ii, isi_bi, isi_ss, Bool.not_true, Bool.not_false, Bool.and_true, Bool.true_and, Bool.or_false, Bool.false_or]
  rw [show (eI (edges t b)).drop (1 : Int).toNat = eI ((edges t b).drop 1) by unfold eI; rw [List.map_drop]; rfl]
  simp only [zip_ll, pairs_eI, if_true, if_false, B_P, L_s, run0_P, mNone_P, ite_and, ite_or, ite_and', ite_or', ite_t, ite_f, boolD_b, lt_ii, le_ii, gt_ii, ge_ii, add_ii, sub_ii, neg_i, part_i, seq_t, seq_l, tup2, tup0, lst0, lst1, lstS0, tup_l, tup_t, len_t, len_l, u2_p, isi_tt, isi_ii, isi_bi, isi_ss, Bool.not_true, Bool.not_false, Bool.and_true, Bool.true_and, Bool.or_false, Bool.false_or]
  rw [cmp_map (g := fun p : Int × Int => eP (p.2 - p.1 - 1, -p.1 - 1)) fun p _ => by
    unfold eP
    simp only [if_true, if_false, B_P, L_s, run0_P, mNone_P, ite_and, ite_or, ite_and', ite_or', ite_t, ite_f, boolD_b, lt_ii, le_ii, gt_ii, ge_ii, add_ii, sub_ii, neg_i, part_i, seq_t, seq_l, tup2, tup0, lst0, lst1, lstS0, tup_l, tup_t, len_t, len_l, u2_p, isi_tt, isi_ii, isi_bi, isi_ss, Bool.not_true, Bool.not_false, Bool.and_true, Bool.true_and, Bool.or_false, Bool.false_or]]
  rw [show (((edges t b).zip ((edges t b).drop 1)).map fun p : Int × Int => eP (p.2 - p.1 - 1, -p.1 - 1)) = (gaps (edges t b)).map eP by unfold gaps; rw [List.map_map]; rfl]
  have gl : (gaps (edges t b)).length = (edges t b).length - 1 := by
    unfold gaps
    rw [List.length_map, List.length_zip, List.length_drop]
    omega
  simp only [lstD_le (show ((gaps (edges t b)).map eP).length ≤ 16777216 by rw [List.length_map, gl]; omega), if_true, if_false, B_P, L_s, run0_P, mNone_P, ite_and, ite_or, ite_and', ite_or', ite_t, ite_f, boolD_b, lt_ii, le_ii, gt_ii, ge_ii, add_ii, sub_ii, neg_i, part_i, seq_t, seq_l, tup2, tup0, lst0, lst1, lstS0, tup_l, tup_t, len_t, len_l, u2_p, isi_tt, isi_ii, isi_bi, isi_ss, Bool.not_true, Bool.not_false, Bool.and_true, Bool.true_and, Bool.or_false, Bool.false_or]
  unfold evp best
  cases hg : gaps (edges t b) with
  | nil => rw [hg] at gl; simp at gl; omega
  | cons x xs =>
    simp only [max_pairs (seq_l _), if_true, if_false, B_P, L_s, run0_P, mNone_P, ite_and, ite_or, ite_and', ite_or', ite_t, ite_f, boolD_b, lt_ii, le_ii, gt_ii, ge_ii, add_ii, sub_ii, neg_i, part_i, seq_t, seq_l, tup2, tup0, lst0, lst1, lstS0, tup_l, tup_t, len_t, len_l, u2_p, isi_tt, isi_ii, isi_bi, isi_ss, Bool.not_true, Bool.not_false, Bool.and_true, Bool.true_and, Bool.or_false, Bool.false_or]
    unfold eP
    simp only [if_true, if_false, B_P, L_s, run0_P, mNone_P, ite_and, ite_or, ite_and', ite_or', ite_t, ite_f, boolD_b, lt_ii, le_ii, gt_ii, ge_ii, add_ii, sub_ii, neg_i, part_i, seq_t, seq_l, tup2, tup0, lst0, lst1, lstS0, tup_l, tup_t, len_t, len_l, u2_p, isi_tt, isi_ii, isi_bi, isi_ss, Bool.not_true, Bool.not_false, Bool.and_true, Bool.true_and, Bool.or_false, Bool.false_or]
    by_cases c : 0 < (PySem.W.maxOf x xs).1
    · rw [if_pos c, decide_eq_true c]
      simp only [if_true, if_false, B_P, L_s, run0_P, mNone_P, ite_and, ite_or, ite_and', ite_or', ite_t, ite_f, boolD_b, lt_ii, le_ii, gt_ii, ge_ii, add_ii, sub_ii, neg_i, part_i, seq_t, seq_l, tup2, tup0, lst0, lst1, lstS0, tup_l, tup_t, len_t, len_l, u2_p, isi_tt, isi_ii, isi_bi, isi_ss, Bool.not_true, Bool.not_false, Bool.and_true, Bool.true_and, Bool.or_false, Bool.false_or]
      rfl
    · rw [if_neg c, decide_eq_false c]
      simp only [Bool.false_eq_true, if_true, if_false, B_P, L_s, run0_P, mNone_P, ite_and, ite_or, ite_and', ite_or', ite_t, ite_f, boolD_b, lt_ii, le_ii, gt_ii, ge_ii, add_ii, sub_ii, neg_i, part_i, seq_t, seq_l, tup2, tup0, lst0, lst1, lstS0, tup_l, tup_t, len_t, len_l, u2_p, isi_tt, isi_ii, isi_bi, isi_ss, Bool.not_true, Bool.not_false, Bool.and_true, Bool.true_and, Bool.or_false, Bool.false_or]
      rfl
end K20

set_option Elab.async false
set_option linter.all false
set_option maxRecDepth 100000
set_option maxHeartbeats 1000000
namespace K20
open PySem PySem.Spec PyProof.Rows L2 DL
open PySem.W (Datum Tup DatumOrd)
abbrev Bnds : Type := List (Int × Int)
def eB (l : Bnds) : D := .tuple (l.map eP)
structure VL (m : Int) (k : Int) (l : Bnds) : Prop where
  l1 : 1 ≤ l.length
  l2 : (l.length : Int) ≤ k
  at_ : ∀ p ∈ l, 0 ≤ p.1 ∧ p.1 ≤ p.2 ∧ p.2 ≤ m
theorem pair_tuple (p : Int × Int) : m_is_tuple [eP p, .int 2, .int 2] = some (.bool true) := by
  unfold eP
  rw [is_tuple_e]
  rfl
theorem is_loose_e {l : Bnds} (h : VL 100 60 l) : m_is_loose [eB l] = some (.bool true) := by
  have h1 := h.l1
  have h2 := h.l2
  show run0 (b_is_loose _) = _
  unfold b_is_loose eB
  have e1 : (decide ((1 : Int) ≤ ((l.map eP).length : Int)) && decide (((l.map eP).length : Int) ≤ 60)) = true := by
    rw [List.length_map]
    simp
    omega
  have hm : (l.map fun x : Int × Int => PyData.bool true).length ≤ 16777216 := by rw [List.length_map]; omega
  have ht : (l.all fun _ => true) = true := List.all_eq_true.mpr fun _ _ => rfl
  simp only [is_tuple_e, e1, if_true, if_false, B_P, L_s, run0_P, mNone_P, ite_and, ite_or, ite_and', ite_or', ite_t, ite_f, boolD_b, lt_ii, le_ii, gt_ii, ge_ii, add_ii, sub_ii, neg_i, part_i, seq_t, seq_l, tup2, tup0, lst0, lst1, lstS0, tup_l, tup_t, len_t, len_l, u2_p, isi_tt, isi_ii, isi_bi, isi_ss, Bool.not_true, Bool.not_false, Bool.and_true, Bool.true_and, Bool.or_false, Bool.false_or]
  rw [cmp_map (g := fun x => .bool true) fun x _ => by simp only [pair_tuple, if_true, if_false, B_P, L_s, run0_P, mNone_P, ite_and, ite_or, ite_and', ite_or', ite_t, ite_f, boolD_b, lt_ii, le_ii, gt_ii, ge_ii, add_ii, sub_ii, neg_i, part_i, seq_t, seq_l, tup2, tup0, lst0, lst1, lstS0, tup_l, tup_t, len_t, len_l, u2_p, isi_tt, isi_ii, isi_bi, isi_ss, Bool.not_true, Bool.not_false, Bool.and_true, Bool.true_and, Bool.or_false, Bool.false_or]]
  simp only [lstD_le hm, all_bools, ht, if_true, if_false, B_P, L_s, run0_P, mNone_P, ite_and, ite_or, ite_and', ite_or', ite_t, ite_f, boolD_b, lt_ii, le_ii, gt_ii, ge_ii, add_ii, sub_ii, neg_i, part_i, seq_t, seq_l, tup2, tup0, lst0, lst1, lstS0, tup_l, tup_t, len_t, len_l, u2_p, isi_tt, isi_ii, isi_bi, isi_ss, Bool.not_true, Bool.not_false, Bool.and_true, Bool.true_and, Bool.or_false, Bool.false_or]
  rw [cmp_map (g := fun x => .bool true) fun x hx => by
    obtain ⟨a1, a2, a3⟩ := h.at_ x hx
    have e2 : (decide ((0 : Int) ≤ x.1) && decide (x.1 ≤ 100)) = true := by simp; omega
    unfold eP
    simp only [is_integer_e, e2, if_true, if_false, B_P, L_s, run0_P, mNone_P, ite_and, ite_or, ite_and', ite_or', ite_t, ite_f, boolD_b, lt_ii, le_ii, gt_ii, ge_ii, add_ii, sub_ii, neg_i, part_i, seq_t, seq_l, tup2, tup0, lst0, lst1, lstS0, tup_l, tup_t, len_t, len_l, u2_p, isi_tt, isi_ii, isi_bi, isi_ss, Bool.not_true, Bool.not_false, Bool.and_true, Bool.true_and, Bool.or_false, Bool.false_or]]
  simp only [lstD_le hm, all_bools, ht, if_true, if_false, B_P, L_s, run0_P, mNone_P, ite_and, ite_or, ite_and', ite_or', ite_t, ite_f, boolD_b, lt_ii, le_ii, gt_ii, ge_ii, add_ii, sub_ii, neg_i, part_i, seq_t, seq_l, tup2, tup0, lst0, lst1, lstS0, tup_l, tup_t, len_t, len_l, u2_p, isi_tt, isi_ii, isi_bi, isi_ss, Bool.not_true, Bool.not_false, Bool.and_true, Bool.true_and, Bool.or_false, Bool.false_or]
  rw [cmp_map (g := fun x => .bool true) fun x hx => by
    obtain ⟨a1, a2, a3⟩ := h.at_ x hx
    have e2 : (decide (x.1 ≤ x.2) && decide (x.2 ≤ 100)) = true := by simp; omega
    unfold eP
    simp only [is_integer_e, e2, if_true, if_false, B_P, L_s, run0_P, mNone_P, ite_and, ite_or, ite_and', ite_or', ite_t, ite_f, boolD_b, lt_ii, le_ii, gt_ii, ge_ii, add_ii, sub_ii, neg_i, part_i, seq_t, seq_l, tup2, tup0, lst0, lst1, lstS0, tup_l, tup_t, len_t, len_l, u2_p, isi_tt, isi_ii, isi_bi, isi_ss, Bool.not_true, Bool.not_false, Bool.and_true, Bool.true_and, Bool.or_false, Bool.false_or]]
  simp only [lstD_le hm, all_bools, ht, if_true, if_false, B_P, L_s, run0_P, mNone_P, ite_and, ite_or, ite_and', ite_or', ite_t, ite_f, boolD_b, lt_ii, le_ii, gt_ii, ge_ii, add_ii, sub_ii, neg_i, part_i, seq_t, seq_l, tup2, tup0, lst0, lst1, lstS0, tup_l, tup_t, len_t, len_l, u2_p, isi_tt, isi_ii, isi_bi, isi_ss, Bool.not_true, Bool.not_false, Bool.and_true, Bool.true_and, Bool.or_false, Bool.false_or]
theorem check_loose_e {l : Bnds} (h : VL 100 60 l) : m_check_loose [eB l] = some .none := by
  show mNone (b_check_loose _) = _
  unfold b_check_loose
  simp only [is_loose_e h, if_true, if_false, B_P, L_s, run0_P, mNone_P, ite_and, ite_or, ite_and', ite_or', ite_t, ite_f, boolD_b, lt_ii, le_ii, gt_ii, ge_ii, add_ii, sub_ii, neg_i, part_i, seq_t, seq_l, tup2, tup0, lst0, lst1, lstS0, tup_l, tup_t, len_t, len_l, u2_p, isi_tt, isi_ii, isi_bi, isi_ss, Bool.not_true, Bool.not_false, Bool.and_true, Bool.true_and, Bool.or_false, Bool.false_or]
theorem is_bounds_e {l : Bnds} (h : VL 1000 260 l) : m_is_bounds [eB l] = some (.bool true) := by
  have h1 := h.l1
  have h2 := h.l2
  show run0 (b_is_bounds _) = _
  unfold b_is_bounds eB
  have e1 : (decide ((1 : Int) ≤ ((l.map eP).length : Int)) && decide (((l.map eP).length : Int) ≤ 260)) = true := by
    rw [List.length_map]
    simp
    omega
  have hm : (l.map fun x : Int × Int => PyData.bool true).length ≤ 16777216 := by rw [List.length_map]; omega
  have ht : (l.all fun _ => true) = true := List.all_eq_true.mpr fun _ _ => rfl
  simp only [is_tuple_e, e1, if_true, if_false, B_P, L_s, run0_P, mNone_P, ite_and, ite_or, ite_and', ite_or', ite_t, ite_f, boolD_b, lt_ii, le_ii, gt_ii, ge_ii, add_ii, sub_ii, neg_i, part_i, seq_t, seq_l, tup2, tup0, lst0, lst1, lstS0, tup_l, tup_t, len_t, len_l, u2_p, isi_tt, isi_ii, isi_bi, isi_ss, Bool.not_true, Bool.not_false, Bool.and_true, Bool.true_and, Bool.or_false, Bool.false_or]
  rw [cmp_map (g := fun x => .bool true) fun x _ => by simp only [pair_tuple, if_true, if_false, B_P, L_s, run0_P, mNone_P, ite_and, ite_or, ite_and', ite_or', ite_t, ite_f, boolD_b, lt_ii, le_ii, gt_ii, ge_ii, add_ii, sub_ii, neg_i, part_i, seq_t, seq_l, tup2, tup0, lst0, lst1, lstS0, tup_l, tup_t, len_t, len_l, u2_p, isi_tt, isi_ii, isi_bi, isi_ss, Bool.not_true, Bool.not_false, Bool.and_true, Bool.true_and, Bool.or_false, Bool.false_or]]
  simp only [lstD_le hm, all_bools, ht, if_true, if_false, B_P, L_s, run0_P, mNone_P, ite_and, ite_or, ite_and', ite_or', ite_t, ite_f, boolD_b, lt_ii, le_ii, gt_ii, ge_ii, add_ii, sub_ii, neg_i, part_i, seq_t, seq_l, tup2, tup0, lst0, lst1, lstS0, tup_l, tup_t, len_t, len_l, u2_p, isi_tt, isi_ii, isi_bi, isi_ss, Bool.not_true, Bool.not_false, Bool.and_true, Bool.true_and, Bool.or_false, Bool.false_or]
  rw [cmp_map (g := fun x => .bool true) fun x hx => by
    obtain ⟨a1, a2, a3⟩ := h.at_ x hx
    have e2 : (decide ((0 : Int) ≤ x.1) && decide (x.1 ≤ 1000)) = true := by simp; omega
    unfold eP
    simp only [is_integer_e, e2, if_true, if_false, B_P, L_s, run0_P, mNone_P, ite_and, ite_or, ite_and', ite_or', ite_t, ite_f, boolD_b, lt_ii, le_ii, gt_ii, ge_ii, add_ii, sub_ii, neg_i, part_i, seq_t, seq_l, tup2, tup0, lst0, lst1, lstS0, tup_l, tup_t, len_t, len_l, u2_p, isi_tt, isi_ii, isi_bi, isi_ss, Bool.not_true, Bool.not_false, Bool.and_true, Bool.true_and, Bool.or_false, Bool.false_or]]
  simp only [lstD_le hm, all_bools, ht, if_true, if_false, B_P, L_s, run0_P, mNone_P, ite_and, ite_or, ite_and', ite_or', ite_t, ite_f, boolD_b, lt_ii, le_ii, gt_ii, ge_ii, add_ii, sub_ii, neg_i, part_i, seq_t, seq_l, tup2, tup0, lst0, lst1, lstS0, tup_l, tup_t, len_t, len_l, u2_p, isi_tt, isi_ii, isi_bi, isi_ss, Bool.not_true, Bool.not_false, Bool.and_true, Bool.true_and, Bool.or_false, Bool.false_or]
  rw [cmp_map (g := fun x => .bool true) fun x hx => by
    obtain ⟨a1, a2, a3⟩ := h.at_ x hx
    have e2 : (decide (x.1 ≤ x.2) && decide (x.2 ≤ 1000)) = true := by simp; omega
    unfold eP
    simp only [is_integer_e, e2, if_true, if_false, B_P, L_s, run0_P, mNone_P, ite_and, ite_or, ite_and', ite_or', ite_t, ite_f, boolD_b, lt_ii, le_ii, gt_ii, ge_ii, add_ii, sub_ii, neg_i, part_i, seq_t, seq_l, tup2, tup0, lst0, lst1, lstS0, tup_l, tup_t, len_t, len_l, u2_p, isi_tt, isi_ii, isi_bi, isi_ss, Bool.not_true, Bool.not_false, Bool.and_true, Bool.true_and, Bool.or_false, Bool.false_or]]
  simp only [lstD_le hm, all_bools, ht, if_true, if_false, B_P, L_s, run0_P, mNone_P, ite_and, ite_or, ite_and', ite_or', ite_t, ite_f, boolD_b, lt_ii, le_ii, gt_ii, ge_ii, add_ii, sub_ii, neg_i, part_i, seq_t, seq_l, tup2, tup0, lst0, lst1, lstS0, tup_l, tup_t, len_t, len_l, u2_p, isi_tt, isi_ii, isi_bi, isi_ss, Bool.not_true, Bool.not_false, Bool.and_true, Bool.true_and, Bool.or_false, Bool.false_or]
theorem check_bounds_e {l : Bnds} (h : VL 1000 260 l) : m_check_bounds [eB l] = some .none := by
  show mNone (b_check_bounds _) = _
  unfold b_check_bounds
  simp only [is_bounds_e h, if_true, if_false, B_P, L_s, run0_P, mNone_P, ite_and, ite_or, ite_and', ite_or', ite_t, ite_f, boolD_b, lt_ii, le_ii, gt_ii, ge_ii, add_ii, sub_ii, neg_i, part_i, seq_t, seq_l, tup2, tup0, lst0, lst1, lstS0, tup_l, tup_t, len_t, len_l, u2_p, isi_tt, isi_ii, isi_bi, isi_ss, Bool.not_true, Bool.not_false, Bool.and_true, Bool.true_and, Bool.or_false, Bool.false_or]
def lz (m v : Int) : Int × Int := (max 0 (v - m), min 100 (v + m))
theorem loosened_e {s : Strand} {m : Int} (h : VS s) (h0 : 0 ≤ m) (h1 : m ≤ 100) : m_loosened [eS s, .int m] = some (eB (s.map (lz m))) := by
  have h2 := h.l2
  show run0 (b_loosened _ _) = _
  unfold b_loosened
  have e1 : (decide ((0 : Int) ≤ m) && decide (m ≤ 100)) = true := by simp; omega
  simp only [check_strand_e h, is_integer_e, e1, if_true, if_false, B_P, L_s, run0_P, mNone_P, ite_and, ite_or, ite_and', ite_or', ite_t, ite_f, boolD_b, lt_ii, le_ii, gt_ii, ge_ii, add_ii, sub_ii, neg_i, part_i, seq_t, seq_l, tup2, tup0, lst0, lst1, lstS0, tup_l, tup_t, len_t, len_l, u2_p, isi_tt, isi_ii, isi_bi, isi_ss, Bool.not_true, Bool.not_false, Bool.and_true, Bool.true_and, Bool.or_false, Bool.false_or]
  unfold eS
  simp only [if_true, if_false, B_P, L_s, run0_P, mNone_P, ite_and, ite_or, ite_and', ite_or', ite_t, ite_f, boolD_b, lt_ii, le_ii, gt_ii, ge_ii, add_ii, sub_ii, neg_i, part_i, seq_t, seq_l, tup2, tup0, lst0, lst1, lstS0, tup_l, tup_t, len_t, len_l, u2_p, isi_tt, isi_ii, isi_bi, isi_ss, Bool.not_true, Bool.not_false, Bool.and_true, Bool.true_and, Bool.or_false, Bool.false_or]
  rw [cmp_ints (g := fun v => eP (lz m v)) fun v _ => by
    simp only [max2_e, min2_e, if_true, if_false, B_P, L_s, run0_P, mNone_P, ite_and, ite_or, ite_and', ite_or', ite_t, ite_f, boolD_b, lt_ii, le_ii, gt_ii, ge_ii, add_ii, sub_ii, neg_i, part_i, seq_t, seq_l, tup2, tup0, lst0, lst1, lstS0, tup_l, tup_t, len_t, len_l, u2_p, isi_tt, isi_ii, isi_bi, isi_ss, Bool.not_true, Bool.not_false, Bool.and_true, Bool.true_and, Bool.or_false, Bool.false_or]
    rfl]
  simp only [lstD_le (show (s.map fun v => eP (lz m v)).length ≤ 16777216 by rw [List.length_map]; omega), if_true, if_false, B_P, L_s, run0_P, mNone_P, ite_and, ite_or, ite_and', ite_or', ite_t, ite_f, boolD_b, lt_ii, le_ii, gt_ii, ge_ii, add_ii, sub_ii, neg_i, part_i, seq_t, seq_l, tup2, tup0, lst0, lst1, lstS0, tup_l, tup_t, len_t, len_l, u2_p, isi_tt, isi_ii, isi_bi, isi_ss, Bool.not_true, Bool.not_false, Bool.and_true, Bool.true_and, Bool.or_false, Bool.false_or]
  unfold eB
  rw [List.map_map]
  rfl
theorem VL.lz {s : Strand} {m : Int} (h : VS s) (h0 : 0 ≤ m) : VL 100 60 (s.map (lz m)) := by
  refine ⟨by rw [List.length_map]; exact h.l1, by rw [List.length_map]; have := h.l2; omega, fun p hp => ?_⟩
  obtain ⟨v, hv, rfl⟩ := List.mem_map.mp hp
  have := h.at_ v hv
  unfold K20.lz
  show 0 ≤ max 0 (v - m) ∧ max 0 (v - m) ≤ min 100 (v + m) ∧ min 100 (v + m) ≤ 100
  omega
theorem may_be_e {l : Bnds} {s : Strand} (h : VL 100 60 l) (hs : VS s) (hl : s.length = l.length) : m_may_be [eB l, eS s] = some (.bool ((s.zip l).all fun p => decide (p.2.1 ≤ p.1) && decide (p.1 ≤ p.2.2))) := by
  have h2 := hs.l2
  show run0 (b_may_be _ _) = _
  unfold b_may_be
  simp only [check_loose_e h, check_strand_e hs, if_true, if_false, B_P, L_s, run0_P, mNone_P, ite_and, ite_or, ite_and', ite_or', ite_t, ite_f, boolD_b, lt_ii, le_ii, gt_ii, ge_ii, add_ii, sub_ii, neg_i, part_i, seq_t, seq_l, tup2, tup0, lst0, lst1, lstS0, tup_l, tup_t, len_t, len_l, u2_p, isi_tt, isi_ii, isi_bi, isi_ss, Bool.not_true, Bool.not_false, Bool.and_true, Bool.true_and, Bool.or_false, Bool.false_or]
  unfold eB eS
  have e1 : decide ((s.length : Int) = (l.length : Int)) = true := by simp; omega
  simp only [eI_len, List.length_map, ne_ii, e1, Bool.false_eq_true, zip_tt, if_true, if_false, B_P, L_s, run0_P, mNone_P, ite_and, ite_or, ite_and', ite_or', ite_t, ite_f, boolD_b, lt_ii, le_ii, gt_ii, ge_ii, add_ii, sub_ii, neg_i, part_i, seq_t, seq_l, tup2, tup0, lst0, lst1, lstS0, tup_l, tup_t, len_t, len_l, u2_p, isi_tt, isi_ii, isi_bi, isi_ss, Bool.not_true, Bool.not_false, Bool.and_true, Bool.true_and, Bool.or_false, Bool.false_or]
  rw [show pairs2 (eI s) (l.map eP) = (s.zip l).map fun p => .tuple [.int p.1, eP p.2] from pairs2_map _ _ s l]
  rw [cmp_map (g := fun p : Int × (Int × Int) => .bool (decide (p.2.1 ≤ p.1) && decide (p.1 ≤ p.2.2))) fun p _ => by
    unfold eP
    simp only [if_true, if_false, B_P, L_s, run0_P, mNone_P, ite_and, ite_or, ite_and', ite_or', ite_t, ite_f, boolD_b, lt_ii, le_ii, gt_ii, ge_ii, add_ii, sub_ii, neg_i, part_i, seq_t, seq_l, tup2, tup0, lst0, lst1, lstS0, tup_l, tup_t, len_t, len_l, u2_p, isi_tt, isi_ii, isi_bi, isi_ss, Bool.not_true, Bool.not_false, Bool.and_true, Bool.true_and, Bool.or_false, Bool.false_or]]
  simp only [lstD_le (show ((s.zip l).map fun p : Int × (Int × Int) => PyData.bool (decide (p.2.1 ≤ p.1) && decide (p.1 ≤ p.2.2))).length ≤ 16777216 by rw [List.length_map, List.length_zip]; omega), all_bools, if_true, if_false, B_P, L_s, run0_P, mNone_P, ite_and, ite_or, ite_and', ite_or', ite_t, ite_f, boolD_b, lt_ii, le_ii, gt_ii, ge_ii, add_ii, sub_ii, neg_i, part_i, seq_t, seq_l, tup2, tup0, lst0, lst1, lstS0, tup_l, tup_t, len_t, len_l, u2_p, isi_tt, isi_ii, isi_bi, isi_ss, Bool.not_true, Bool.not_false, Bool.and_true, Bool.true_and, Bool.or_false, Bool.false_or]
def bth (l k : Bnds) : Bnds := (l.zip k).map fun p => (max p.1.1 p.2.1, min p.1.2 p.2.2)
theorem both_e {l k : Bnds} (h : VL 100 60 l) (hk : VL 100 60 k) (hl : l.length = k.length) : m_both [eB l, eB k] = some (if ((bth l k).all fun p => decide (p.1 ≤ p.2)) = true then eB (bth l k) else .none) := by
  have h2 := h.l2
  show run0 (b_both _ _) = _
  unfold b_both
  simp only [check_loose_e h, check_loose_e hk, if_true, if_false, B_P, L_s, run0_P, mNone_P, ite_and, ite_or, ite_and', ite_or', ite_t, ite_f, boolD_b, lt_ii, le_ii, gt_ii, ge_ii, add_ii, sub_ii, neg_i, part_i, seq_t, seq_l, tup2, tup0, lst0, lst1, lstS0, tup_l, tup_t, len_t, len_l, u2_p, isi_tt, isi_ii, isi_bi, isi_ss, Bool.not_true, Bool.not_false, Bool.and_true, Bool.true_and, Bool.or_false, Bool.false_or]
  unfold eB
  have e1 : decide ((l.length : Int) = (k.length : Int)) = true := by simp; omega
  simp only [List.length_map, ne_ii, e1, Bool.false_eq_true, zip_tt, if_true, if_false, B_P, L_s, run0_P, mNone_P, ite_and, ite_or, ite_and', ite_or', ite_t, ite_f, boolD_b, lt_ii, le_ii, gt_ii, ge_ii, add_ii, sub_ii, neg_i, part_i, seq_t, seq_l, tup2, tup0, lst0, lst1, lstS0, tup_l, tup_t, len_t, len_l, u2_p, isi_tt, isi_ii, isi_bi, isi_ss, Bool.not_true, Bool.not_false, Bool.and_true, Bool.true_and, Bool.or_false, Bool.false_or]
  rw [pairs2_map eP eP l k]
  rw [cmp_map (g := fun p : (Int × Int) × (Int × Int) => eP (max p.1.1 p.2.1, min p.1.2 p.2.2)) fun p _ => by
    unfold eP
    simp only [ix0, ix1, max2_e, min2_e, if_true, if_false, B_P, L_s, run0_P, mNone_P, ite_and, ite_or, ite_and', ite_or', ite_t, ite_f, boolD_b, lt_ii, le_ii, gt_ii, ge_ii, add_ii, sub_ii, neg_i, part_i, seq_t, seq_l, tup2, tup0, lst0, lst1, lstS0, tup_l, tup_t, len_t, len_l, u2_p, isi_tt, isi_ii, isi_bi, isi_ss, Bool.not_true, Bool.not_false, Bool.and_true, Bool.true_and, Bool.or_false, Bool.false_or]]
  have hz : (bth l k).length ≤ 60 := by
    unfold bth
    rw [List.length_map, List.length_zip]
    omega
  rw [show ((l.zip k).map fun p : (Int × Int) × (Int × Int) => eP (max p.1.1 p.2.1, min p.1.2 p.2.2)) = (bth l k).map eP by unfold bth; rw [List.map_map]; rfl]
  simp only [lstD_le (show ((bth l k).map eP).length ≤ 16777216 by rw [List.length_map]; omega), if_true, if_false, B_P, L_s, run0_P, mNone_P, ite_and, ite_or, ite_and', ite_or', ite_t, ite_f, boolD_b, lt_ii, le_ii, gt_ii, ge_ii, add_ii, sub_ii, neg_i, part_i, seq_t, seq_l, tup2, tup0, lst0, lst1, lstS0, tup_l, tup_t, len_t, len_l, u2_p, isi_tt, isi_ii, isi_bi, isi_ss, Bool.not_true, Bool.not_false, Bool.and_true, Bool.true_and, Bool.or_false, Bool.false_or]
  rw [cmp_map (g := fun p : Int × Int => .bool (decide (p.1 ≤ p.2))) fun p _ => by
    unfold eP
    simp only [if_true, if_false, B_P, L_s, run0_P, mNone_P, ite_and, ite_or, ite_and', ite_or', ite_t, ite_f, boolD_b, lt_ii, le_ii, gt_ii, ge_ii, add_ii, sub_ii, neg_i, part_i, seq_t, seq_l, tup2, tup0, lst0, lst1, lstS0, tup_l, tup_t, len_t, len_l, u2_p, isi_tt, isi_ii, isi_bi, isi_ss, Bool.not_true, Bool.not_false, Bool.and_true, Bool.true_and, Bool.or_false, Bool.false_or]]
  simp only [lstD_le (show ((bth l k).map fun p : Int × Int => PyData.bool (decide (p.1 ≤ p.2))).length ≤ 16777216 by rw [List.length_map]; omega), all_bools, if_true, if_false, B_P, L_s, run0_P, mNone_P, ite_and, ite_or, ite_and', ite_or', ite_t, ite_f, boolD_b, lt_ii, le_ii, gt_ii, ge_ii, add_ii, sub_ii, neg_i, part_i, seq_t, seq_l, tup2, tup0, lst0, lst1, lstS0, tup_l, tup_t, len_t, len_l, u2_p, isi_tt, isi_ii, isi_bi, isi_ss, Bool.not_true, Bool.not_false, Bool.and_true, Bool.true_and, Bool.or_false, Bool.false_or]
  cases (bth l k).all fun p => decide (p.1 ≤ p.2) <;> simp only [Bool.false_eq_true, if_true, if_false, B_P, L_s, run0_P, mNone_P, ite_and, ite_or, ite_and', ite_or', ite_t, ite_f, boolD_b, lt_ii, le_ii, gt_ii, ge_ii, add_ii, sub_ii, neg_i, part_i, seq_t, seq_l, tup2, tup0, lst0, lst1, lstS0, tup_l, tup_t, len_t, len_l, u2_p, isi_tt, isi_ii, isi_bi, isi_ss, Bool.not_true, Bool.not_false, Bool.and_true, Bool.true_and, Bool.or_false, Bool.false_or]
def vrd (l : Bnds) (b : Band) : Str := if (l.any fun p => decide (p.2 < b.1) || decide (b.2 < p.1)) = true then "never" else if (l.all fun p => decide (b.1 ≤ p.1) && decide (p.2 ≤ b.2)) = true then "sure" else "open"
theorem even_e {l : Bnds} {b : Band} (h : VL 1000 260 l) (hb : VB b) : m_even [eB l, eP b] = some (.str (vrd l b)) := by
  have h2 := h.l2
  show run0 (b_even _ _) = _
  unfold b_even
  simp only [check_bounds_e h, check_band_e hb, if_true, if_false, B_P, L_s, run0_P, mNone_P, ite_and, ite_or, ite_and', ite_or', ite_t, ite_f, boolD_b, lt_ii, le_ii, gt_ii, ge_ii, add_ii, sub_ii, neg_i, part_i, seq_t, seq_l, tup2, tup0, lst0, lst1, lstS0, tup_l, tup_t, len_t, len_l, u2_p, isi_tt, isi_ii, isi_bi, isi_ss, Bool.not_true, Bool.not_false, Bool.and_true, Bool.true_and, Bool.or_false, Bool.false_or]
  have e : m_verdict_of [eB l, eP b] = some (.str (vrd l b)) := by
    show run0 (b_verdict_of _ _) = _
    unfold b_verdict_of eB
    simp only [if_true, if_false, B_P, L_s, run0_P, mNone_P, ite_and, ite_or, ite_and', ite_or', ite_t, ite_f, boolD_b, lt_ii, le_ii, gt_ii, ge_ii, add_ii, sub_ii, neg_i, part_i, seq_t, seq_l, tup2, tup0, lst0, lst1, lstS0, tup_l, tup_t, len_t, len_l, u2_p, isi_tt, isi_ii, isi_bi, isi_ss, Bool.not_true, Bool.not_false, Bool.and_true, Bool.true_and, Bool.or_false, Bool.false_or]
    rw [cmp_map (g := fun p : Int × Int => .bool (decide (p.2 < b.1) || decide (b.2 < p.1))) fun p _ => by
      unfold eP
      simp only [ix0, ix1, if_true, if_false, B_P, L_s, run0_P, mNone_P, ite_and, ite_or, ite_and', ite_or', ite_t, ite_f, boolD_b, lt_ii, le_ii, gt_ii, ge_ii, add_ii, sub_ii, neg_i, part_i, seq_t, seq_l, tup2, tup0, lst0, lst1, lstS0, tup_l, tup_t, len_t, len_l, u2_p, isi_tt, isi_ii, isi_bi, isi_ss, Bool.not_true, Bool.not_false, Bool.and_true, Bool.true_and, Bool.or_false, Bool.false_or]]
    rw [cmp_map (g := fun p : Int × Int => .bool (decide (b.1 ≤ p.1) && decide (p.2 ≤ b.2))) fun p _ => by
      unfold eP
      simp only [ix0, ix1, if_true, if_false, B_P, L_s, run0_P, mNone_P, ite_and, ite_or, ite_and', ite_or', ite_t, ite_f, boolD_b, lt_ii, le_ii, gt_ii, ge_ii, add_ii, sub_ii, neg_i, part_i, seq_t, seq_l, tup2, tup0, lst0, lst1, lstS0, tup_l, tup_t, len_t, len_l, u2_p, isi_tt, isi_ii, isi_bi, isi_ss, Bool.not_true, Bool.not_false, Bool.and_true, Bool.true_and, Bool.or_false, Bool.false_or]]
    simp only [lstD_le (show (l.map fun p : Int × Int => PyData.bool (decide (p.2 < b.1) || decide (b.2 < p.1))).length ≤ 16777216 by rw [List.length_map]; omega), any_bools, lstD_le (show (l.map fun p : Int × Int => PyData.bool (decide (b.1 ≤ p.1) && decide (p.2 ≤ b.2))).length ≤ 16777216 by rw [List.length_map]; omega), all_bools, if_true, if_false, B_P, L_s, run0_P, mNone_P, ite_and, ite_or, ite_and', ite_or', ite_t, ite_f, boolD_b, lt_ii, le_ii, gt_ii, ge_ii, add_ii, sub_ii, neg_i, part_i, seq_t, seq_l, tup2, tup0, lst0, lst1, lstS0, tup_l, tup_t, len_t, len_l, u2_p, isi_tt, isi_ii, isi_bi, isi_ss, Bool.not_true, Bool.not_false, Bool.and_true, Bool.true_and, Bool.or_false, Bool.false_or]
    unfold vrd
    cases l.any fun p => decide (p.2 < b.1) || decide (b.2 < p.1) <;> cases l.all fun p => decide (b.1 ≤ p.1) && decide (p.2 ≤ b.2) <;> rfl
  simp only [e, if_true, if_false, B_P, L_s, run0_P, mNone_P, ite_and, ite_or, ite_and', ite_or', ite_t, ite_f, boolD_b, lt_ii, le_ii, gt_ii, ge_ii, add_ii, sub_ii, neg_i, part_i, seq_t, seq_l, tup2, tup0, lst0, lst1, lstS0, tup_l, tup_t, len_t, len_l, u2_p, isi_tt, isi_ii, isi_bi, isi_ss, Bool.not_true, Bool.not_false, Bool.and_true, Bool.true_and, Bool.or_false, Bool.false_or]
theorem borne_e {l : Bnds} (h : VL 1000 260 l) : m_borne [eB l] = some (eP (lo (l.map fun p => p.1), lo (l.map fun p => p.2))) := by
  have h1 := h.l1
  have h2 := h.l2
  have hn : l ≠ [] := fun e => by rw [e] at h1; simp at h1
  show run0 (b_borne _) = _
  unfold b_borne
  simp only [check_bounds_e h, if_true, if_false, B_P, L_s, run0_P, mNone_P, ite_and, ite_or, ite_and', ite_or', ite_t, ite_f, boolD_b, lt_ii, le_ii, gt_ii, ge_ii, add_ii, sub_ii, neg_i, part_i, seq_t, seq_l, tup2, tup0, lst0, lst1, lstS0, tup_l, tup_t, len_t, len_l, u2_p, isi_tt, isi_ii, isi_bi, isi_ss, Bool.not_true, Bool.not_false, Bool.and_true, Bool.true_and, Bool.or_false, Bool.false_or]
  unfold eB
  simp only [if_true, if_false, B_P, L_s, run0_P, mNone_P, ite_and, ite_or, ite_and', ite_or', ite_t, ite_f, boolD_b, lt_ii, le_ii, gt_ii, ge_ii, add_ii, sub_ii, neg_i, part_i, seq_t, seq_l, tup2, tup0, lst0, lst1, lstS0, tup_l, tup_t, len_t, len_l, u2_p, isi_tt, isi_ii, isi_bi, isi_ss, Bool.not_true, Bool.not_false, Bool.and_true, Bool.true_and, Bool.or_false, Bool.false_or]
  rw [cmp_map (g := fun p : Int × Int => .int p.1) fun p _ => by unfold eP; simp only [if_true, if_false, B_P, L_s, run0_P, mNone_P, ite_and, ite_or, ite_and', ite_or', ite_t, ite_f, boolD_b, lt_ii, le_ii, gt_ii, ge_ii, add_ii, sub_ii, neg_i, part_i, seq_t, seq_l, tup2, tup0, lst0, lst1, lstS0, tup_l, tup_t, len_t, len_l, u2_p, isi_tt, isi_ii, isi_bi, isi_ss, Bool.not_true, Bool.not_false, Bool.and_true, Bool.true_and, Bool.or_false, Bool.false_or]]
  rw [cmp_map (g := fun p : Int × Int => .int p.2) fun p _ => by unfold eP; simp only [if_true, if_false, B_P, L_s, run0_P, mNone_P, ite_and, ite_or, ite_and', ite_or', ite_t, ite_f, boolD_b, lt_ii, le_ii, gt_ii, ge_ii, add_ii, sub_ii, neg_i, part_i, seq_t, seq_l, tup2, tup0, lst0, lst1, lstS0, tup_l, tup_t, len_t, len_l, u2_p, isi_tt, isi_ii, isi_bi, isi_ss, Bool.not_true, Bool.not_false, Bool.and_true, Bool.true_and, Bool.or_false, Bool.false_or]]
  rw [eI_map (fun p : Int × Int => p.1), eI_map (fun p : Int × Int => p.2)]
  simp only [lstD_le (show (eI (l.map fun p : Int × Int => p.1)).length ≤ 16777216 by rw [eI_len, List.length_map]; omega), lstD_le (show (eI (l.map fun p : Int × Int => p.2)).length ≤ 16777216 by rw [eI_len, List.length_map]; omega), min_seq (seq_l _) (show (l.map fun p : Int × Int => p.1) ≠ [] by simpa using hn), min_seq (seq_l _) (show (l.map fun p : Int × Int => p.2) ≠ [] by simpa using hn), if_true, if_false, B_P, L_s, run0_P, mNone_P, ite_and, ite_or, ite_and', ite_or', ite_t, ite_f, boolD_b, lt_ii, le_ii, gt_ii, ge_ii, add_ii, sub_ii, neg_i, part_i, seq_t, seq_l, tup2, tup0, lst0, lst1, lstS0, tup_l, tup_t, len_t, len_l, u2_p, isi_tt, isi_ii, isi_bi, isi_ss, Bool.not_true, Bool.not_false, Bool.and_true, Bool.true_and, Bool.or_false, Bool.false_or]
  rfl
end K20

set_option Elab.async false
set_option linter.all false
set_option maxRecDepth 100000
set_option maxHeartbeats 1000000
namespace K20
open PySem PySem.Spec PyProof.Rows L2 DL
open PySem.W (Datum Tup DatumOrd)
open TL
/-! ### texts -/
def tS (i : Int) : Str := toString i
def numOk (i : Nat) : Bool := (match m_number_in [.str (tS i), .int 100] with
  | some (.int j) => decide (j = (i : Int))
  | _ => false) && (!(tS i).cps.toList.contains 32 && (decide (1 ≤ (tS i).length) && decide ((tS i).length ≤ 3)))
theorem nums_ok : ((List.range 101).all numOk) = true := by decide +kernel
theorem num_ok {i : Int} (h0 : 0 ≤ i) (h1 : i ≤ 100) : m_number_in [.str (tS i), .int 100] = some (.int i) ∧ 32 ∉ (tS i).cps.toList ∧ 1 ≤ (tS i).length ∧ (tS i).length ≤ 3 := by
  have h := List.all_eq_true.mp nums_ok i.toNat (List.mem_range.mpr (by omega))
  unfold numOk at h
  rw [show ((i.toNat : Nat) : Int) = i by omega] at h
  simp only [Bool.and_eq_true, decide_eq_true_eq, Bool.not_eq_true'] at h
  obtain ⟨h1, h2, h3, h4⟩ := h
  refine ⟨?_, by simpa using h2, h3, h4⟩
  split at h1
  · rename_i j e
    rw [e, of_decide_eq_true h1]
  · cases h1
def sp : Str := " "
def txt (s : Strand) : Str := Txt.join sp (s.map tS)
theorem joinL_len (S : List Nat) : ∀ ps : List (List Nat), (joinL S ps).length ≤ (ps.map List.length).sum + ps.length * S.length
  | [] => by simp [joinL]
  | [p] => by simp [joinL]
  | p :: q :: r => by
    show (p ++ (S ++ joinL S (q :: r))).length ≤ _
    have := joinL_len S (q :: r)
    rw [List.length_append, List.length_append, List.map_cons, List.sum_cons, List.length_cons, Nat.add_mul]
    omega
theorem joinL_pos (S : List Nat) : ∀ ps : List (List Nat), ps ≠ [] → (∀ p ∈ ps, 1 ≤ p.length) → 1 ≤ (joinL S ps).length
  | [], h, _ => absurd rfl h
  | [p], _, h => h p (by simp)
  | p :: q :: r, _, h => by
    show 1 ≤ (p ++ (S ++ joinL S (q :: r))).length
    have := h p (by simp)
    rw [List.length_append]
    omega
theorem sum_le_mul {ι : Type} (f : ι → Nat) (k : Nat) : ∀ xs : List ι, (∀ x ∈ xs, f x ≤ k) → (xs.map f).sum ≤ xs.length * k
  | [], _ => by simp
  | x :: xs, h => by
    have := sum_le_mul f k xs fun y hy => h y (by simp [hy])
    have := h x (by simp)
    rw [List.map_cons, List.sum_cons, List.length_cons, Nat.add_mul]
    omega
theorem txt_len {s : Strand} (h : VS s) : 1 ≤ (txt s).length ∧ (txt s).length ≤ 240 := by
  have h2 := h.l2
  have e : (txt s).length = (joinL (tl sp) ((s.map tS).map tl)).length := by
    rw [← tl_join, ← join_eq]
    show (Txt.join sp (s.map tS)).cps.size = (Txt.join sp (s.map tS)).cps.toList.length
    rw [Array.length_toList]
  rw [e]
  constructor
  · refine joinL_pos _ _ (by simpa using h.ne) fun p hp => ?_
    obtain ⟨q, hq, rfl⟩ := List.mem_map.mp hp
    obtain ⟨v, hv, rfl⟩ := List.mem_map.mp hq
    have := (num_ok (h.at_ v hv).1 (h.at_ v hv).2).2.2.1
    show 1 ≤ (tS v).cps.toList.length
    rw [Array.length_toList]
    exact this
  · refine Nat.le_trans (joinL_len _ _) ?_
    have a1 : (tl sp).length = 1 := rfl
    rw [a1, List.length_map, List.length_map]
    have := sum_le_mul List.length 3 ((s.map tS).map tl) fun p hp => by
      obtain ⟨q, hq, rfl⟩ := List.mem_map.mp hp
      obtain ⟨v, hv, rfl⟩ := List.mem_map.mp hq
      have := (num_ok (h.at_ v hv).1 (h.at_ v hv).2).2.2.2
      show (tS v).cps.toList.length ≤ 3
      rw [Array.length_toList]
      exact this
    rw [List.length_map, List.length_map] at this
    omega
theorem log_small {i : Int} (h0 : 0 ≤ i) (h1 : i ≤ 100) : i.natAbs.log2 < 1920 := by
  have : i.natAbs.log2 ≤ i.natAbs := Nat.log2_le_self _
  omega
theorem strand_text_e {s : Strand} (h : VS s) : m_strand_text [eS s] = some (.str (txt s)) := by
  have h2 := h.l2
  show run0 (b_strand_text _) = _
  unfold b_strand_text
  simp only [check_strand_e h, if_true, if_false, B_P, L_s, run0_P, mNone_P, ite_and, ite_or, ite_and', ite_or', ite_t, ite_f, boolD_b, lt_ii, le_ii, gt_ii, ge_ii, add_ii, sub_ii, neg_i, part_i, seq_t, seq_l, tup2, tup0, lst0, lst1, lstS0, tup_l, tup_t, len_t, len_l, u2_p, isi_tt, isi_ii, isi_bi, isi_ss, Bool.not_true, Bool.not_false, Bool.and_true, Bool.true_and, Bool.or_false, Bool.false_or]
  unfold eS
  simp only [if_true, if_false, B_P, L_s, run0_P, mNone_P, ite_and, ite_or, ite_and', ite_or', ite_t, ite_f, boolD_b, lt_ii, le_ii, gt_ii, ge_ii, add_ii, sub_ii, neg_i, part_i, seq_t, seq_l, tup2, tup0, lst0, lst1, lstS0, tup_l, tup_t, len_t, len_l, u2_p, isi_tt, isi_ii, isi_bi, isi_ss, Bool.not_true, Bool.not_false, Bool.and_true, Bool.true_and, Bool.or_false, Bool.false_or]
  rw [cmp_ints (g := fun v => .str (tS v)) fun v hv => by
    simp only [show strL [.int v] = some (.str (tS v)) from if_pos (log_small (h.at_ v hv).1 (h.at_ v hv).2), if_true, if_false, B_P, L_s, run0_P, mNone_P, ite_and, ite_or, ite_and', ite_or', ite_t, ite_f, boolD_b, lt_ii, le_ii, gt_ii, ge_ii, add_ii, sub_ii, neg_i, part_i, seq_t, seq_l, tup2, tup0, lst0, lst1, lstS0, tup_l, tup_t, len_t, len_l, u2_p, isi_tt, isi_ii, isi_bi, isi_ss, Bool.not_true, Bool.not_false, Bool.and_true, Bool.true_and, Bool.or_false, Bool.false_or]]
  simp only [lstD_le (show (s.map fun v => PyData.str (tS v)).length ≤ 16777216 by rw [List.length_map]; omega), if_true, if_false, B_P, L_s, run0_P, mNone_P, ite_and, ite_or, ite_and', ite_or', ite_t, ite_f, boolD_b, lt_ii, le_ii, gt_ii, ge_ii, add_ii, sub_ii, neg_i, part_i, seq_t, seq_l, tup2, tup0, lst0, lst1, lstS0, tup_l, tup_t, len_t, len_l, u2_p, isi_tt, isi_ii, isi_bi, isi_ss, Bool.not_true, Bool.not_false, Bool.and_true, Bool.true_and, Bool.or_false, Bool.false_or]
  have e : joinD (.str (" " : Str)) (.list (s.map fun v => .str (tS v))) = some (.str (txt s)) := by
    show (strsOf (s.map fun v => PyData.str (tS v))).bind _ = _
    rw [show (s.map fun v => PyData.str (tS v)) = (s.map tS).map .str by rw [List.map_map]; rfl, strsOf_strs]
    have := sum_le_mul Str.length 3 (s.map tS) fun p hp => by
      obtain ⟨v, hv, rfl⟩ := List.mem_map.mp hp
      exact (num_ok (h.at_ v hv).1 (h.at_ v hv).2).2.2.2
    rw [List.length_map] at this
    refine if_pos ?_
    show ((s.map tS).map (·.length)).sum + (s.map tS).length * 1 ≤ 16777216
    rw [List.length_map]
    have z : ((s.map tS).map (·.length)).sum = ((s.map tS).map Str.length).sum := rfl
    omega
  rw [e]
  simp only [if_true, if_false, B_P, L_s, run0_P, mNone_P, ite_and, ite_or, ite_and', ite_or', ite_t, ite_f, boolD_b, lt_ii, le_ii, gt_ii, ge_ii, add_ii, sub_ii, neg_i, part_i, seq_t, seq_l, tup2, tup0, lst0, lst1, lstS0, tup_l, tup_t, len_t, len_l, u2_p, isi_tt, isi_ii, isi_bi, isi_ss, Bool.not_true, Bool.not_false, Bool.and_true, Bool.true_and, Bool.or_false, Bool.false_or]
theorem read_strand_e {s : Strand} (h : VS s) : m_read_strand [.str (txt s)] = some (eS s) := by
  have h2 := h.l2
  obtain ⟨t1, t2⟩ := txt_len h
  show run0 (b_read_strand _) = _
  unfold b_read_strand
  have el : lenD [.str (txt s)] = some (.int (txt s).length) := if_pos (by omega)
  have e1 : (decide ((1 : Int) ≤ ((txt s).length : Int)) && decide (((txt s).length : Int) ≤ 2000)) = true := by simp; omega
  have es : splitD (.str (txt s)) (.str (" " : Str)) = some (.list ((s.map tS).map .str)) := by
    show (if (((" " : Str)).length == 0) = false ∧ (txt s).length + 2 ≤ 16777216 then some (PyData.list ((Txt.split (txt s) " ").map .str)) else none) = _
    rw [if_pos ⟨by decide, by omega⟩]
    congr 3
    exact split_join (y := sp) (s := 32) (S := []) (by decide +kernel) (by decide +kernel) (by simpa using h.ne) fun p hp => by
      obtain ⟨v, hv, rfl⟩ := List.mem_map.mp hp
      exact (num_ok (h.at_ v hv).1 (h.at_ v hv).2).2.1
  simp only [el, e1, es, if_true, if_false, B_P, L_s, run0_P, mNone_P, ite_and, ite_or, ite_and', ite_or', ite_t, ite_f, boolD_b, lt_ii, le_ii, gt_ii, ge_ii, add_ii, sub_ii, neg_i, part_i, seq_t, seq_l, tup2, tup0, lst0, lst1, lstS0, tup_l, tup_t, len_t, len_l, u2_p, isi_tt, isi_ii, isi_bi, isi_ss, Bool.not_true, Bool.not_false, Bool.and_true, Bool.true_and, Bool.or_false, Bool.false_or]
  rw [List.map_map, cmp_map (e := (PyData.str ∘ tS)) (g := fun v : Int => .int v) fun v hv => by
    simp only [Function.comp, (num_ok (h.at_ v hv).1 (h.at_ v hv).2).1, if_true, if_false, B_P, L_s, run0_P, mNone_P, ite_and, ite_or, ite_and', ite_or', ite_t, ite_f, boolD_b, lt_ii, le_ii, gt_ii, ge_ii, add_ii, sub_ii, neg_i, part_i, seq_t, seq_l, tup2, tup0, lst0, lst1, lstS0, tup_l, tup_t, len_t, len_l, u2_p, isi_tt, isi_ii, isi_bi, isi_ss, Bool.not_true, Bool.not_false, Bool.and_true, Bool.true_and, Bool.or_false, Bool.false_or]]
  have e2 : (s.map fun v : Int => PyData.int v) = eI s := rfl
  have en : inB .none (.list (eI s)) = some false := by
    have p : PyData.plainAll (eI s) = true := PySem.W.plainAll_map s
    have d : PyData.depthAll (eI s) ≤ 40 := Nat.le_trans (PySem.W.depthAll_map s) (by decide)
    show (if memOk .none (eI s) = true then some ((eI s).any fun y => PyData.eqv y .none) else none) = _
    rw [if_pos (by unfold memOk; rw [show okD .none = true from rfl, p, decide_eq_true d]; rfl)]
    congr 1
    rw [List.any_eq_false]
    intro x hx
    obtain ⟨v, _, rfl⟩ := List.mem_map.mp hx
    simp [PyData.eqv]
  have e3 := is_strand_e h
  unfold eS at e3
  simp only [e2, lstD_le (show (eI s).length ≤ 16777216 by rw [eI_len]; omega), en, e3, Bool.false_eq_true, if_true, if_false, B_P, L_s, run0_P, mNone_P, ite_and, ite_or, ite_and', ite_or', ite_t, ite_f, boolD_b, lt_ii, le_ii, gt_ii, ge_ii, add_ii, sub_ii, neg_i, part_i, seq_t, seq_l, tup2, tup0, lst0, lst1, lstS0, tup_l, tup_t, len_t, len_l, u2_p, isi_tt, isi_ii, isi_bi, isi_ss, Bool.not_true, Bool.not_false, Bool.and_true, Bool.true_and, Bool.or_false, Bool.false_or]
  rfl
/-! ### bounds of loose threads -/
abbrev LT : Type := List (Int × Bnds)
def eLE (p : Int × Bnds) : D := .tuple [.int p.1, eB p.2]
def eLT (l : LT) : D := .tuple (l.map eLE)
structure VLT (l : LT) : Prop where
  l1 : 1 ≤ l.length
  l2 : l.length ≤ 8
  at_ : ∀ p ∈ l, 0 ≤ p.1 ∧ p.1 ≤ 200 ∧ VL 100 60 p.2
def here (l : LT) (y : Int) : Bnds := (l.filter fun x => decide (x.1 ≤ y) && decide (y < x.1 + x.2.length)).map fun x => x.2.getD (y - x.1).toNat (0, 0)
def bof (l : LT) : Bnds := (yards (lo (l.map fun p => p.1)) (hi (l.map fun p => p.1 + (p.2.length : Int)))).map fun y => (((here l y).map fun p => p.1).sum, ((here l y).map fun p => p.2).sum)
theorem bounds_of_e {l : LT} (h : VLT l) : m_bounds_of [eLT l] = some (eB (bof l)) := by
  have h1 := h.l1
  have h2 := h.l2
  have hn : l ≠ [] := fun e => by rw [e] at h1; simp at h1
  show run0 (b_bounds_of _) = _
  unfold b_bounds_of eLT
  have e1 : (decide ((1 : Int) ≤ ((l.map eLE).length : Int)) && decide (((l.map eLE).length : Int) ≤ 8)) = true := by
    rw [List.length_map]
    simp
    omega
  have hm : (l.map fun x : Int × Bnds => PyData.bool true).length ≤ 16777216 := by rw [List.length_map]; omega
  have ht : (l.all fun _ => true) = true := List.all_eq_true.mpr fun _ _ => rfl
  simp only [is_tuple_e, e1, if_true, if_false, B_P, L_s, run0_P, mNone_P, ite_and, ite_or, ite_and', ite_or', ite_t, ite_f, boolD_b, lt_ii, le_ii, gt_ii, ge_ii, add_ii, sub_ii, neg_i, part_i, seq_t, seq_l, tup2, tup0, lst0, lst1, lstS0, tup_l, tup_t, len_t, len_l, u2_p, isi_tt, isi_ii, isi_bi, isi_ss, Bool.not_true, Bool.not_false, Bool.and_true, Bool.true_and, Bool.or_false, Bool.false_or]
  rw [cmp_map (g := fun x => .bool true) fun x _ => by unfold eLE; simp only [is_tuple_e, if_true, if_false, B_P, L_s, run0_P, mNone_P, ite_and, ite_or, ite_and', ite_or', ite_t, ite_f, boolD_b, lt_ii, le_ii, gt_ii, ge_ii, add_ii, sub_ii, neg_i, part_i, seq_t, seq_l, tup2, tup0, lst0, lst1, lstS0, tup_l, tup_t, len_t, len_l, u2_p, isi_tt, isi_ii, isi_bi, isi_ss, Bool.not_true, Bool.not_false, Bool.and_true, Bool.true_and, Bool.or_false, Bool.false_or]; rfl]
  simp only [lstD_le hm, all_bools, ht, if_true, if_false, B_P, L_s, run0_P, mNone_P, ite_and, ite_or, ite_and', ite_or', ite_t, ite_f, boolD_b, lt_ii, le_ii, gt_ii, ge_ii, add_ii, sub_ii, neg_i, part_i, seq_t, seq_l, tup2, tup0, lst0, lst1, lstS0, tup_l, tup_t, len_t, len_l, u2_p, isi_tt, isi_ii, isi_bi, isi_ss, Bool.not_true, Bool.not_false, Bool.and_true, Bool.true_and, Bool.or_false, Bool.false_or]
  rw [cmp_map (g := fun x => .bool true) fun x hx => by
    obtain ⟨a1, a2, a3⟩ := h.at_ x hx
    have e2 : (decide ((0 : Int) ≤ x.1) && decide (x.1 ≤ 200)) = true := by simp; omega
    unfold eLE
    simp only [is_integer_e, e2, is_loose_e a3, if_true, if_false, B_P, L_s, run0_P, mNone_P, ite_and, ite_or, ite_and', ite_or', ite_t, ite_f, boolD_b, lt_ii, le_ii, gt_ii, ge_ii, add_ii, sub_ii, neg_i, part_i, seq_t, seq_l, tup2, tup0, lst0, lst1, lstS0, tup_l, tup_t, len_t, len_l, u2_p, isi_tt, isi_ii, isi_bi, isi_ss, Bool.not_true, Bool.not_false, Bool.and_true, Bool.true_and, Bool.or_false, Bool.false_or]]
  simp only [lstD_le hm, all_bools, ht, if_true, if_false, B_P, L_s, run0_P, mNone_P, ite_and, ite_or, ite_and', ite_or', ite_t, ite_f, boolD_b, lt_ii, le_ii, gt_ii, ge_ii, add_ii, sub_ii, neg_i, part_i, seq_t, seq_l, tup2, tup0, lst0, lst1, lstS0, tup_l, tup_t, len_t, len_l, u2_p, isi_tt, isi_ii, isi_bi, isi_ss, Bool.not_true, Bool.not_false, Bool.and_true, Bool.true_and, Bool.or_false, Bool.false_or]
  rw [cmp_map (g := fun x : Int × Bnds => .int x.1) fun x _ => by unfold eLE; simp only [if_true, if_false, B_P, L_s, run0_P, mNone_P, ite_and, ite_or, ite_and', ite_or', ite_t, ite_f, boolD_b, lt_ii, le_ii, gt_ii, ge_ii, add_ii, sub_ii, neg_i, part_i, seq_t, seq_l, tup2, tup0, lst0, lst1, lstS0, tup_l, tup_t, len_t, len_l, u2_p, isi_tt, isi_ii, isi_bi, isi_ss, Bool.not_true, Bool.not_false, Bool.and_true, Bool.true_and, Bool.or_false, Bool.false_or]]
  rw [cmp_map (g := fun x : Int × Bnds => .int (x.1 + x.2.length)) fun x _ => by unfold eLE eB; simp only [List.length_map, if_true, if_false, B_P, L_s, run0_P, mNone_P, ite_and, ite_or, ite_and', ite_or', ite_t, ite_f, boolD_b, lt_ii, le_ii, gt_ii, ge_ii, add_ii, sub_ii, neg_i, part_i, seq_t, seq_l, tup2, tup0, lst0, lst1, lstS0, tup_l, tup_t, len_t, len_l, u2_p, isi_tt, isi_ii, isi_bi, isi_ss, Bool.not_true, Bool.not_false, Bool.and_true, Bool.true_and, Bool.or_false, Bool.false_or]]
  rw [eI_map (fun x : Int × Bnds => x.1), eI_map (fun x : Int × Bnds => x.1 + (x.2.length : Int))]
  have n1 : (l.map fun x : Int × Bnds => x.1) ≠ [] := by simpa using hn
  have n2 : (l.map fun x : Int × Bnds => x.1 + (x.2.length : Int)) ≠ [] := by simpa using hn
  have b1 : 0 ≤ lo (l.map fun x : Int × Bnds => x.1) ∧ lo (l.map fun x : Int × Bnds => x.1) ≤ 200 := by
    obtain ⟨p, hp, e⟩ := List.mem_map.mp (lo_mem n1)
    have := h.at_ p hp
    omega
  have b2 : 0 ≤ hi (l.map fun x : Int × Bnds => x.1 + (x.2.length : Int)) ∧ hi (l.map fun x : Int × Bnds => x.1 + (x.2.length : Int)) ≤ 260 := by
    obtain ⟨p, hp, e⟩ := List.mem_map.mp (hi_mem n2)
    obtain ⟨a1, a2, a3⟩ := h.at_ p hp
    have := a3.l2
    omega
  simp only [lstD_le (show (eI (l.map fun x : Int × Bnds => x.1)).length ≤ 16777216 by rw [eI_len, List.length_map]; omega), min_seq (seq_l _) n1, lstD_le (show (eI (l.map fun x : Int × Bnds => x.1 + (x.2.length : Int))).length ≤ 16777216 by rw [eI_len, List.length_map]; omega), max_seq (seq_l _) n2, range2_e (a := lo (l.map fun x : Int × Bnds => x.1)) (b := hi (l.map fun x : Int × Bnds => x.1 + (x.2.length : Int))) (by omega) (by omega), if_true, if_false, B_P, L_s, run0_P, mNone_P, ite_and, ite_or, ite_and', ite_or', ite_t, ite_f, boolD_b, lt_ii, le_ii, gt_ii, ge_ii, add_ii, sub_ii, neg_i, part_i, seq_t, seq_l, tup2, tup0, lst0, lst1, lstS0, tup_l, tup_t, len_t, len_l, u2_p, isi_tt, isi_ii, isi_bi, isi_ss, Bool.not_true, Bool.not_false, Bool.and_true, Bool.true_and, Bool.or_false, Bool.false_or]
  rw [show ∀ a b, eI (yards a b) = (yards a b).map PyData.int from fun _ _ => rfl, fold_app (g := fun y => [eP (((here l y).map fun p => p.1).sum, ((here l y).map fun p => p.2).sum)]) (fun _ => by simp) (fun a y hy ha => ?_) (by simp [yards_len]; omega), flat_one]
  · simp only [List.nil_append, if_true, if_false, B_P, L_s, run0_P, mNone_P, ite_and, ite_or, ite_and', ite_or', ite_t, ite_f, boolD_b, lt_ii, le_ii, gt_ii, ge_ii, add_ii, sub_ii, neg_i, part_i, seq_t, seq_l, tup2, tup0, lst0, lst1, lstS0, tup_l, tup_t, len_t, len_l, u2_p, isi_tt, isi_ii, isi_bi, isi_ss, Bool.not_true, Bool.not_false, Bool.and_true, Bool.true_and, Bool.or_false, Bool.false_or]
    unfold bof eB
    rw [List.map_map]
    rfl
  · rw [cmp_filter (p := fun x : Int × Bnds => decide (x.1 ≤ y) && decide (y < x.1 + x.2.length)) (g := fun x => eP (x.2.getD (y - x.1).toNat (0, 0))) fun x _ => by
      unfold eLE eB
      simp only [List.length_map, if_true, if_false, B_P, L_s, run0_P, mNone_P, ite_and, ite_or, ite_and', ite_or', ite_t, ite_f, boolD_b, lt_ii, le_ii, gt_ii, ge_ii, add_ii, sub_ii, neg_i, part_i, seq_t, seq_l, tup2, tup0, lst0, lst1, lstS0, tup_l, tup_t, len_t, len_l, u2_p, isi_tt, isi_ii, isi_bi, isi_ss, Bool.not_true, Bool.not_false, Bool.and_true, Bool.true_and, Bool.or_false, Bool.false_or]
      by_cases c : (decide (x.1 ≤ y) && decide (y < x.1 + x.2.length)) = true
      · rw [if_pos c, if_pos c]
        simp only [Bool.and_eq_true, decide_eq_true_eq] at c
        have e : (x.2.map eP)[(y - x.1).toNat]? = some (eP (x.2.getD (y - x.1).toNat (0, 0))) := by
          have hl : (y - x.1).toNat < x.2.length := by omega
          rw [List.getElem?_map, List.getD_eq_getElem?_getD, List.getElem?_eq_getElem hl]
          rfl
        rw [(ix_nat (xs := x.2.map eP) (i := y - x.1) (by omega) (by rw [List.length_map]; omega) e).1]
        simp only [if_true, if_false, B_P, L_s, run0_P, mNone_P, ite_and, ite_or, ite_and', ite_or', ite_t, ite_f, boolD_b, lt_ii, le_ii, gt_ii, ge_ii, add_ii, sub_ii, neg_i, part_i, seq_t, seq_l, tup2, tup0, lst0, lst1, lstS0, tup_l, tup_t, len_t, len_l, u2_p, isi_tt, isi_ii, isi_bi, isi_ss, Bool.not_true, Bool.not_false, Bool.and_true, Bool.true_and, Bool.or_false, Bool.false_or]
      · rw [if_neg c, if_neg c]]
    have hh : (here l y).length ≤ 8 := by
      unfold here
      rw [List.length_map]
      exact Nat.le_trans (List.length_filter_le _ _) h2
    rw [show ((l.filter fun x : Int × Bnds => decide (x.1 ≤ y) && decide (y < x.1 + x.2.length)).map fun x => eP (x.2.getD (y - x.1).toNat (0, 0))) = (here l y).map eP by unfold here; rw [List.map_map]; rfl]
    simp only [lstD_le (show ((here l y).map eP).length ≤ 16777216 by rw [List.length_map]; omega), if_true, if_false, B_P, L_s, run0_P, mNone_P, ite_and, ite_or, ite_and', ite_or', ite_t, ite_f, boolD_b, lt_ii, le_ii, gt_ii, ge_ii, add_ii, sub_ii, neg_i, part_i, seq_t, seq_l, tup2, tup0, lst0, lst1, lstS0, tup_l, tup_t, len_t, len_l, u2_p, isi_tt, isi_ii, isi_bi, isi_ss, Bool.not_true, Bool.not_false, Bool.and_true, Bool.true_and, Bool.or_false, Bool.false_or]
    rw [cmp_map (g := fun p : Int × Int => .int p.1) fun p _ => by unfold eP; simp only [if_true, if_false, B_P, L_s, run0_P, mNone_P, ite_and, ite_or, ite_and', ite_or', ite_t, ite_f, boolD_b, lt_ii, le_ii, gt_ii, ge_ii, add_ii, sub_ii, neg_i, part_i, seq_t, seq_l, tup2, tup0, lst0, lst1, lstS0, tup_l, tup_t, len_t, len_l, u2_p, isi_tt, isi_ii, isi_bi, isi_ss, Bool.not_true, Bool.not_false, Bool.and_true, Bool.true_and, Bool.or_false, Bool.false_or]]
    rw [cmp_map (g := fun p : Int × Int => .int p.2) fun p _ => by unfold eP; simp only [if_true, if_false, B_P, L_s, run0_P, mNone_P, ite_and, ite_or, ite_and', ite_or', ite_t, ite_f, boolD_b, lt_ii, le_ii, gt_ii, ge_ii, add_ii, sub_ii, neg_i, part_i, seq_t, seq_l, tup2, tup0, lst0, lst1, lstS0, tup_l, tup_t, len_t, len_l, u2_p, isi_tt, isi_ii, isi_bi, isi_ss, Bool.not_true, Bool.not_false, Bool.and_true, Bool.true_and, Bool.or_false, Bool.false_or]]
    rw [eI_map (fun p : Int × Int => p.1), eI_map (fun p : Int × Int => p.2)]
    simp only [lstD_le (show (eI ((here l y).map fun p => p.1)).length ≤ 16777216 by rw [eI_len, List.length_map]; omega), lstD_le (show (eI ((here l y).map fun p => p.2)).length ≤ 16777216 by rw [eI_len, List.length_map]; omega), sum_ints, appL_lt ha, if_true, if_false, B_P, L_s, run0_P, mNone_P, ite_and, ite_or, ite_and', ite_or', ite_t, ite_f, boolD_b, lt_ii, le_ii, gt_ii, ge_ii, add_ii, sub_ii, neg_i, part_i, seq_t, seq_l, tup2, tup0, lst0, lst1, lstS0, tup_l, tup_t, len_t, len_l, u2_p, isi_tt, isi_ii, isi_bi, isi_ss, Bool.not_true, Bool.not_false, Bool.and_true, Bool.true_and, Bool.or_false, Bool.false_or]
    rfl
end K20

set_option Elab.async false
set_option linter.all false
set_option maxRecDepth 100000
set_option maxHeartbeats 1000000
namespace K20
open PySem PySem.Spec PyProof.Rows L2 DL
structure PI (k : Int) (s : Pot) : Prop where
  a0 : 0 ≤ s.a
  b0 : 0 ≤ s.b
  b1 : s.b < 2305843009213693921
  c0 : 0 ≤ s.c
  c1 : s.c ≤ k
theorem get0 {α : Type} (f : D → M Pot α) (s : Pot) : B (getP 0) f s = f (.int s.a) s := (rfl)
theorem get1 {α : Type} (f : D → M Pot α) (s : Pot) : B (getP 1) f s = f (.int s.b) s := (rfl)
theorem get2 {α : Type} (f : D → M Pot α) (s : Pot) : B (getP 2) f s = f (.int s.c) s := (rfl)
theorem put0 {α : Type} (v : Int) (f : Unit → M Pot α) (s : Pot) : B (putP 0 (.int v)) f s = f () ⟨v, s.b, s.c⟩ := (rfl)
theorem put2 {α : Type} (v : Int) (f : Unit → M Pot α) (s : Pot) : B (putP 2 (.int v)) f s = f () ⟨s.a, s.b, v⟩ := (rfl)
theorem bits_le {i : Int} (h0 : 0 ≤ i) (h1 : i < 2 ^ 64) : (Builtin.Int.intBits i : Int) ≤ 64 := by
  unfold Builtin.Int.intBits
  split
  · decide
  · rename_i c
    have hn : i.natAbs ≠ 0 := fun e => c (by simp; omega)
    have := (Nat.log2_lt hn (k := 64)).mpr (by omega)
    omega
theorem pow3 {i : Int} (h0 : 0 ≤ i) (h1 : i < 2 ^ 64) : powD (.int i) (.int 3) = some (.int (i ^ 3)) := by
  have := bits_le h0 h1
  exact if_pos ⟨by omega, by omega⟩
theorem primes {c : Int} (h : 0 ≤ c) : ∃ p : Int, ixD (.list [.int 2147483647, .int 2147483629, .int 2147483587, .int 2147483579, .int 2147483563]) (.int (c % 5)) = some (.int p) ∧ 0 < p ∧ p < 2 ^ 31 := by
  have h5 : c % 5 = 0 ∨ c % 5 = 1 ∨ c % 5 = 2 ∨ c % 5 = 3 ∨ c % 5 = 4 := by omega
  rcases h5 with e | e | e | e | e <;> rw [e]
  · exact ⟨2147483647, rfl, by decide, by decide⟩
  · exact ⟨2147483629, rfl, by decide, by decide⟩
  · exact ⟨2147483587, rfl, by decide, by decide⟩
  · exact ⟨2147483579, rfl, by decide, by decide⟩
  · exact ⟨2147483563, rfl, by decide, by decide⟩
theorem lst5 (a b c d e : D) : lstD [a, b, c, d, e] = some (.list [a, b, c, d, e]) := if_pos (by simp)
theorem take_e {k n : Int} {s : Pot} (h : PI k s) (hk : k ≤ 1000000) (h0 : 0 < n) (h1 : n < 1073741824) : ∃ (v : Int) (s' : Pot), m__law_take [.int n] s = some (.int v, s') ∧ 0 ≤ v ∧ v < n ∧ PI (k + 1) s' := by
  have c0 := h.c0
  have c1 := h.c1
  show ∃ (v : Int) (s' : Pot), b__law_take (.int n) s = _ ∧ _
  unfold b__law_take
  by_cases ha : 0 < s.a
  · refine ⟨s.a % n, ⟨s.a / n, s.b, s.c⟩, ?_, Int.emod_nonneg _ (by omega), Int.emod_lt_of_pos _ h0, ⟨Int.ediv_nonneg h.a0 (by omega), h.b0, h.b1, c0, by show s.c ≤ k + 1; omega⟩⟩
    simp only [B_B, get0, put0, decide_eq_true ha, int_i, mod_ii h0, div_ii (i := s.a) (j := n) ⟨h0, h1⟩, if_true, if_false, B_P, L_s, run0_P, mNone_P, ite_and, ite_or, ite_and', ite_or', ite_t, ite_f, boolD_b, lt_ii, le_ii, gt_ii, ge_ii, add_ii, sub_ii, neg_i, part_i, seq_t, seq_l, tup2, tup0, lst0, lst1, lstS0, tup_l, tup_t, len_t, len_l, u2_p, isi_tt, isi_ii, isi_bi, isi_ss, Bool.not_true, Bool.not_false, Bool.and_true, Bool.true_and, Bool.or_false, Bool.false_or]
    exact P_ap _ _
  · obtain ⟨p, ep, p0, p1⟩ := primes (c := s.c + 1) (by omega)
    have hb : 0 ≤ s.b + 98833 * (s.c + 1) * (s.c + 1) + 107 ∧ s.b + 98833 * (s.c + 1) * (s.c + 1) + 107 < 2 ^ 64 := by
      have := h.b0
      have := h.b1
      have z0 : 0 ≤ 98833 * (s.c + 1) * (s.c + 1) := Int.mul_nonneg (by omega) (by omega)
      have z1 : 98833 * (s.c + 1) * (s.c + 1) ≤ 98833 * 1000001 * 1000001 := Int.mul_le_mul (Int.mul_le_mul_of_nonneg_left (by omega) (by omega)) (by omega) (by omega) (by omega)
      omega
    have hm : ∀ x : Int, 0 ≤ x % p ∧ x % p < p := fun x => ⟨Int.emod_nonneg _ (by omega), Int.emod_lt_of_pos _ p0⟩
    have hX := hm ((s.b + 98833 * (s.c + 1) * (s.c + 1) + 107) ^ 3)
    generalize hx : (s.b + 98833 * (s.c + 1) * (s.c + 1) + 107) ^ 3 % p = X at hX
    refine ⟨X * (X % 10047 + 123 * (s.c + 1)) % 2305843009213693907 / 167 % n, ⟨s.a, s.b, s.c + 1⟩, ?_, Int.emod_nonneg _ (by omega), Int.emod_lt_of_pos _ h0, ⟨h.a0, h.b0, h.b1, by show 0 ≤ s.c + 1; omega, by show s.c + 1 ≤ k + 1; omega⟩⟩
    simp only [B_B, get0, get1, get2, put2, decide_eq_false ha, Bool.false_eq_true, int_i, lst5, mod_ii (i := s.c + 1) (j := 5) (by omega), ep, mul_ii (i := 98833) (j := s.c + 1) (.inl (by decide)), mul_ii (i := 98833 * (s.c + 1)) (j := s.c + 1) (.inr (by omega)), pow3 hb.1 hb.2, mod_ii p0, hx, mod_ii (i := X) (j := 10047) (by decide), mul_ii (i := 123) (j := s.c + 1) (.inl (by decide)), mul_ii (i := X) (j := X % 10047 + 123 * (s.c + 1)) (.inl (by omega)), mod_ii (i := X * (X % 10047 + 123 * (s.c + 1))) (j := 2305843009213693907) (by decide), div_ii (i := X * (X % 10047 + 123 * (s.c + 1)) % 2305843009213693907) (j := 167) (by decide), mod_ii (j := n) h0, if_true, if_false, B_P, L_s, run0_P, mNone_P, ite_and, ite_or, ite_and', ite_or', ite_t, ite_f, boolD_b, lt_ii, le_ii, gt_ii, ge_ii, add_ii, sub_ii, neg_i, part_i, seq_t, seq_l, tup2, tup0, lst0, lst1, lstS0, tup_l, tup_t, len_t, len_l, u2_p, isi_tt, isi_ii, isi_bi, isi_ss, Bool.not_true, Bool.not_false, Bool.and_true, Bool.true_and, Bool.or_false, Bool.false_or]
    exact P_ap _ _
end K20

set_option Elab.async false
set_option linter.all false
set_option maxRecDepth 100000
set_option maxHeartbeats 1000000
namespace K20
open PySem PySem.Spec PyProof.Rows L2 DL
theorem PI.mono {k j : Int} {s : Pot} (h : PI k s) (hj : k ≤ j) : PI j s := ⟨h.a0, h.b0, h.b1, h.c0, Int.le_trans h.c1 hj⟩
theorem cmp_st {ι : Type} {e : ι → D} {f : D → M Pot (Option D)} {R : ι → Prop} {st N : Int} (h0 : 0 ≤ st) : ∀ (ds : List D) (k : Int) (s : Pot), PI k s → k + ds.length * st ≤ N →
    (∀ d ∈ ds, ∀ (k : Int) (s : Pot), PI k s → k + st ≤ N → ∃ (x : ι) (s' : Pot), f d s = some (some (e x), s') ∧ R x ∧ PI (k + st) s') →
    ∃ (xs : List ι) (s' : Pot), cmp ds f s = some (xs.map e, s') ∧ xs.length = ds.length ∧ (∀ x ∈ xs, R x) ∧ PI (k + ds.length * st) s'
  | [], k, s, hs, _, _ => ⟨[], s, rfl, rfl, ⟨by simp, by simpa using hs⟩⟩
  | d :: ds, k, s, hs, hN, h => by
    have hl : ((d :: ds).length : Int) * st = st + ds.length * st := by
      rw [List.length_cons, Int.natCast_add, Int.add_mul]
      omega
    have hp : 0 ≤ (ds.length : Int) * st := Int.mul_nonneg (by omega) h0
    obtain ⟨x, s1, e1, r1, p1⟩ := h d (by simp) k s hs (by omega)
    obtain ⟨xs, s2, e2, l2, r2, p2⟩ := cmp_st h0 ds (k + st) s1 p1 (by omega) fun d hd => h d (by simp [hd])
    refine ⟨x :: xs, s2, ?_, by simp [l2], fun y hy => ?_, p2.mono (by omega)⟩
    · show (B (f d) fun o => B (cmp ds f) fun r => P _) s = _
      rw [B_ap e1, B_ap e2]
      rfl
    · rcases List.mem_cons.mp hy with rfl | hy
      · exact r1
      · exact r2 y hy
theorem fold_st {ι : Type} {e : ι → D} {f : List D → D → M Pot (List D)} {R : ι → Prop} {st N : Int} (h0 : 0 ≤ st) : ∀ (ds : List D) (a : List D) (k : Int) (s : Pot), PI k s → k + ds.length * st ≤ N → a.length + ds.length ≤ 1000 →
    (∀ d ∈ ds, ∀ (a : List D) (k : Int) (s : Pot), PI k s → k + st ≤ N → a.length < 1000 → ∃ (x : ι) (s' : Pot), f a d s = some (a ++ [e x], s') ∧ R x ∧ PI (k + st) s') →
    ∃ (xs : List ι) (s' : Pot), foldS ds a f s = some (a ++ xs.map e, s') ∧ xs.length = ds.length ∧ (∀ x ∈ xs, R x) ∧ PI (k + ds.length * st) s'
  | [], a, k, s, hs, _, _, _ => ⟨[], s, by simp [foldS, P], rfl, ⟨by simp, by simpa using hs⟩⟩
  | d :: ds, a, k, s, hs, hN, hL, h => by
    have hl : ((d :: ds).length : Int) * st = st + ds.length * st := by
      rw [List.length_cons, Int.natCast_add, Int.add_mul]
      omega
    have hp : 0 ≤ (ds.length : Int) * st := Int.mul_nonneg (by omega) h0
    rw [List.length_cons] at hL
    obtain ⟨x, s1, e1, r1, p1⟩ := h d (by simp) a k s hs (by omega) (by omega)
    obtain ⟨xs, s2, e2, l2, r2, p2⟩ := fold_st h0 ds (a ++ [e x]) (k + st) s1 p1 (by omega) (by simp; omega) fun d hd => h d (by simp [hd])
    refine ⟨x :: xs, s2, ?_, by simp [l2], fun y hy => ?_, p2.mono (by omega)⟩
    · show (B (f a d) fun a => foldS ds a f) s = _
      rw [B_ap e1, e2]
      simp
    · rcases List.mem_cons.mp hy with rfl | hy
      · exact r1
      · exact r2 y hy
theorem of_e {k : Int} {s : Pot} (h : PI k s) (hk : k ≤ 1000000) : ∃ (v : Int) (s' : Pot), m__law_of [.list [.int 3, .int 100]] s = some (.int v, s') ∧ 0 ≤ v ∧ v ≤ 100 ∧ PI (k + 1) s' := by
  obtain ⟨v, s', e1, v0, v1, p⟩ := take_e h hk (n := 2) (by decide) (by decide)
  show ∃ (v : Int) (s' : Pot), b__law_of (.list [.int 3, .int 100]) s = _ ∧ _
  unfold b__law_of
  simp only [List.length_cons, List.length_nil, if_true, if_false, B_P, L_s, run0_P, mNone_P, ite_and, ite_or, ite_and', ite_or', ite_t, ite_f, boolD_b, lt_ii, le_ii, gt_ii, ge_ii, add_ii, sub_ii, neg_i, part_i, seq_t, seq_l, tup2, tup0, lst0, lst1, lstS0, tup_l, tup_t, len_t, len_l, u2_p, isi_tt, isi_ii, isi_bi, isi_ss, Bool.not_true, Bool.not_false, Bool.and_true, Bool.true_and, Bool.or_false, Bool.false_or]
  rw [show m__law_take [.int ((0 + 1 + 1 : Nat) : Int)] = m__law_take [.int 2] from rfl]
  have hv : v = 0 ∨ v = 1 := by omega
  rcases hv with rfl | rfl
  · exact ⟨3, s', by rw [B_ap e1]; rfl, by decide, by decide, p⟩
  · exact ⟨100, s', by rw [B_ap e1]; rfl, by decide, by decide, p⟩
theorem strand_e {k m : Int} {s : Pot} (h : PI k s) (hk : k ≤ 999000) (m0 : 0 ≤ m) (m1 : m ≤ 100) : ∃ (r : Strand) (s' : Pot), m__law_strand [.int 20, .int m] s = some (eS r, s') ∧ VS r ∧ r.length ≤ 20 ∧ PI (k + 21) s' := by
  obtain ⟨v, s1, e1, v0, v1, p⟩ := take_e h (by omega) (n := 20) (by decide) (by decide)
  show ∃ (r : Strand) (s' : Pot), b__law_strand (.int 20) (.int m) s = _ ∧ _
  unfold b__law_strand
  simp only [B_B, int_i, if_true, if_false, B_P, L_s, run0_P, mNone_P, ite_and, ite_or, ite_and', ite_or', ite_t, ite_f, boolD_b, lt_ii, le_ii, gt_ii, ge_ii, add_ii, sub_ii, neg_i, part_i, seq_t, seq_l, tup2, tup0, lst0, lst1, lstS0, tup_l, tup_t, len_t, len_l, u2_p, isi_tt, isi_ii, isi_bi, isi_ss, Bool.not_true, Bool.not_false, Bool.and_true, Bool.true_and, Bool.or_false, Bool.false_or]
  rw [B_ap e1]
  simp only [range1_e (b := 1 + v) (by omega), if_true, if_false, B_P, L_s, run0_P, mNone_P, ite_and, ite_or, ite_and', ite_or', ite_t, ite_f, boolD_b, lt_ii, le_ii, gt_ii, ge_ii, add_ii, sub_ii, neg_i, part_i, seq_t, seq_l, tup2, tup0, lst0, lst1, lstS0, tup_l, tup_t, len_t, len_l, u2_p, isi_tt, isi_ii, isi_bi, isi_ss, Bool.not_true, Bool.not_false, Bool.and_true, Bool.true_and, Bool.or_false, Bool.false_or]
  have hl : (eI (yards 0 (1 + v))).length = (1 + v).toNat := by rw [eI_len, yards_len]; congr 1; omega
  obtain ⟨xs, s2, e2, l2, r2, p2⟩ := cmp_st (e := PyData.int) (R := fun x => 0 ≤ x ∧ x < m + 1) (st := 1) (N := 1000000) (f := fun _ => B (m__law_take [.int (m + 1)]) fun x => B (L (intL [x])) fun y => P (some y)) (by decide) (eI (yards 0 (1 + v))) (k + 1) s1 p (by rw [hl]; omega) fun d _ k s hs hk => by
    obtain ⟨w, s', e3, w0, w1, p3⟩ := take_e hs (by omega) (n := m + 1) (by omega) (by omega)
    refine ⟨w, s', ?_, ⟨w0, w1⟩, p3⟩
    rw [B_ap e3]
    simp only [int_i, if_true, if_false, B_P, L_s, run0_P, mNone_P, ite_and, ite_or, ite_and', ite_or', ite_t, ite_f, boolD_b, lt_ii, le_ii, gt_ii, ge_ii, add_ii, sub_ii, neg_i, part_i, seq_t, seq_l, tup2, tup0, lst0, lst1, lstS0, tup_l, tup_t, len_t, len_l, u2_p, isi_tt, isi_ii, isi_bi, isi_ss, Bool.not_true, Bool.not_false, Bool.and_true, Bool.true_and, Bool.or_false, Bool.false_or]
    rfl
  have hxl : xs.length = (1 + v).toNat := l2.trans hl
  refine ⟨xs, s2, ?_, ⟨by omega, by omega, fun x hx => by have := r2 x hx; omega⟩, by omega, p2.mono (by rw [hl]; omega)⟩
  rw [B_ap e2]
  simp only [lstD_le (show (xs.map PyData.int).length ≤ 16777216 by rw [List.length_map]; omega), if_true, if_false, B_P, L_s, run0_P, mNone_P, ite_and, ite_or, ite_and', ite_or', ite_t, ite_f, boolD_b, lt_ii, le_ii, gt_ii, ge_ii, add_ii, sub_ii, neg_i, part_i, seq_t, seq_l, tup2, tup0, lst0, lst1, lstS0, tup_l, tup_t, len_t, len_l, u2_p, isi_tt, isi_ii, isi_bi, isi_ss, Bool.not_true, Bool.not_false, Bool.and_true, Bool.true_and, Bool.or_false, Bool.false_or]
  rfl
/-- what a drawn thread is like -/
structure DT (t : Thread) : Prop where
  l1 : 1 ≤ t.length
  l2 : t.length ≤ 4
  at_ : ∀ p ∈ t, 0 ≤ p.1 ∧ p.1 ≤ 19 ∧ VS p.2 ∧ p.2.length ≤ 20
theorem thread_e {k : Int} {s : Pot} (h : PI k s) (hk : k ≤ 990000) : ∃ (t : Thread) (s' : Pot), m__law_thread [.int 4] s = some (eT t, s') ∧ DT t ∧ PI (k + 200) s' := by
  obtain ⟨v, s1, e1, v0, v1, p⟩ := take_e h (by omega) (n := 4) (by decide) (by decide)
  show ∃ (t : Thread) (s' : Pot), b__law_thread (.int 4) s = _ ∧ _
  unfold b__law_thread
  simp only [B_B, int_i, if_true, if_false, B_P, L_s, run0_P, mNone_P, ite_and, ite_or, ite_and', ite_or', ite_t, ite_f, boolD_b, lt_ii, le_ii, gt_ii, ge_ii, add_ii, sub_ii, neg_i, part_i, seq_t, seq_l, tup2, tup0, lst0, lst1, lstS0, tup_l, tup_t, len_t, len_l, u2_p, isi_tt, isi_ii, isi_bi, isi_ss, Bool.not_true, Bool.not_false, Bool.and_true, Bool.true_and, Bool.or_false, Bool.false_or]
  rw [B_ap e1]
  simp only [range1_e (b := 1 + v) (by omega), if_true, if_false, B_P, L_s, run0_P, mNone_P, ite_and, ite_or, ite_and', ite_or', ite_t, ite_f, boolD_b, lt_ii, le_ii, gt_ii, ge_ii, add_ii, sub_ii, neg_i, part_i, seq_t, seq_l, tup2, tup0, lst0, lst1, lstS0, tup_l, tup_t, len_t, len_l, u2_p, isi_tt, isi_ii, isi_bi, isi_ss, Bool.not_true, Bool.not_false, Bool.and_true, Bool.true_and, Bool.or_false, Bool.false_or]
  have hl : (eI (yards 0 (1 + v))).length = (1 + v).toNat := by rw [eI_len, yards_len]; congr 1; omega
  obtain ⟨xs, s2, e2, l2, r2, p2⟩ := fold_st (e := eE) (R := fun p => 0 ≤ p.1 ∧ p.1 ≤ 19 ∧ VS p.2 ∧ p.2.length ≤ 20) (st := 23) (N := 998000)
    (f := fun a _ => B (m__law_take [.int 20]) fun x => B (L (intL [x])) fun x1 => B (L (lstD [.int 3, .int 100])) fun x2 => B (m__law_of [x2]) fun x3 => B (m__law_strand [.int 20, x3]) fun x4 => B (L (appL a (.tuple [x1, x4]))) fun ys => P ys)
    (by decide) (eI (yards 0 (1 + v))) [] (k + 1) s1 p (by rw [hl]; omega) (by rw [hl]; simp; omega) fun d _ a k s hs hk ha => by
    obtain ⟨w, s3, e3, w0, w1, p3⟩ := take_e hs (by omega) (n := 20) (by decide) (by decide)
    obtain ⟨m, s4, e4, m0, m1, p4⟩ := of_e p3 (by omega)
    obtain ⟨r, s5, e5, vr, lr, p5⟩ := strand_e p4 (by omega) m0 m1
    refine ⟨(w, r), s5, ?_, ⟨w0, by omega, vr, lr⟩, p5.mono (by omega)⟩
    rw [B_ap e3]
    simp only [int_i, show lstD [PyData.int 3, PyData.int 100] = some (.list [.int 3, .int 100]) from rfl, if_true, if_false, B_P, L_s, run0_P, mNone_P, ite_and, ite_or, ite_and', ite_or', ite_t, ite_f, boolD_b, lt_ii, le_ii, gt_ii, ge_ii, add_ii, sub_ii, neg_i, part_i, seq_t, seq_l, tup2, tup0, lst0, lst1, lstS0, tup_l, tup_t, len_t, len_l, u2_p, isi_tt, isi_ii, isi_bi, isi_ss, Bool.not_true, Bool.not_false, Bool.and_true, Bool.true_and, Bool.or_false, Bool.false_or]
    rw [B_ap e4, B_ap e5]
    simp only [appL_lt (show a.length < 16777216 by omega), if_true, if_false, B_P, L_s, run0_P, mNone_P, ite_and, ite_or, ite_and', ite_or', ite_t, ite_f, boolD_b, lt_ii, le_ii, gt_ii, ge_ii, add_ii, sub_ii, neg_i, part_i, seq_t, seq_l, tup2, tup0, lst0, lst1, lstS0, tup_l, tup_t, len_t, len_l, u2_p, isi_tt, isi_ii, isi_bi, isi_ss, Bool.not_true, Bool.not_false, Bool.and_true, Bool.true_and, Bool.or_false, Bool.false_or]
    rfl
  have hxl : xs.length = (1 + v).toNat := l2.trans hl
  refine ⟨xs, s2, ?_, ⟨by omega, by omega, r2⟩, p2.mono (by rw [hl]; omega)⟩
  rw [B_ap e2]
  simp only [List.nil_append, if_true, if_false, B_P, L_s, run0_P, mNone_P, ite_and, ite_or, ite_and', ite_or', ite_t, ite_f, boolD_b, lt_ii, le_ii, gt_ii, ge_ii, add_ii, sub_ii, neg_i, part_i, seq_t, seq_l, tup2, tup0, lst0, lst1, lstS0, tup_l, tup_t, len_t, len_l, u2_p, isi_tt, isi_ii, isi_bi, isi_ss, Bool.not_true, Bool.not_false, Bool.and_true, Bool.true_and, Bool.or_false, Bool.false_or]
  rfl
end K20

set_option Elab.async false
set_option linter.all false
set_option maxRecDepth 100000
set_option maxHeartbeats 1000000
namespace K20
open PySem PySem.Spec PyProof.Rows L2 DL
/-! ### yards, values -/
theorem val_zero {s : Strand} {i : Int} (h : ¬ (0 ≤ i ∧ i < s.length)) : val s i = 0 := if_neg h
theorem val_bd {s : Strand} (h : VS s) (i : Int) : 0 ≤ val s i ∧ val s i ≤ 100 := by
  by_cases c : 0 ≤ i ∧ i < s.length
  · unfold val
    rw [if_pos c, List.getD_eq_getElem?_getD, List.getElem?_eq_getElem (show i.toNat < s.length by omega)]
    exact h.at_ _ (List.getElem_mem _)
  · rw [val_zero c]
    omega
theorem val_rev (s : Strand) (i : Int) : val s.reverse i = val s (s.length - 1 - i) := by
  unfold val
  rw [List.length_reverse]
  by_cases c : 0 ≤ i ∧ i < s.length
  · rw [if_pos c, if_pos (by omega), List.getD_eq_getElem?_getD, List.getD_eq_getElem?_getD, List.getElem?_reverse (by omega)]
    congr 2
    omega
  · rw [if_neg c, if_neg (by omega)]
theorem atY_app (a b : Thread) (y : Int) : atY (a ++ b) y = atY a y + atY b y := by
  unfold atY
  rw [List.map_append, List.sum_append]
theorem atY_zero {t : Thread} {y : Int} (h : ∀ p ∈ t, ¬ (p.1 ≤ y ∧ y < p.1 + p.2.length)) : atY t y = 0 := by
  induction t with
  | nil => rfl
  | cons p t ih =>
    show val p.2 (y - p.1) + atY t y = 0
    have := h p (by simp)
    rw [val_zero (by omega), ih fun q hq => h q (by simp [hq])]
    rfl
theorem atY_out {t : Thread} {y : Int} (h : ¬ (fst t ≤ y ∧ y < lst t)) : atY t y = 0 := atY_zero fun p hp => by
  have := fst_le hp
  have := le_lst hp
  omega
theorem atY_bd : ∀ {t : Thread}, (∀ p ∈ t, VS p.2) → ∀ y, 0 ≤ atY t y ∧ atY t y ≤ 100 * t.length
  | [], _, y => ⟨Int.le_refl _, by simp [atY]⟩
  | p :: t, h, y => by
    have ih := atY_bd (t := t) (fun q hq => h q (by simp [hq])) y
    have := val_bd (h p (by simp)) (y - p.1)
    have e : atY (p :: t) y = val p.2 (y - p.1) + atY t y := rfl
    rw [e, List.length_cons]
    omega
theorem yards_add (a b m : Int) : yards (a + m) (b + m) = (yards a b).map (· + m) := by
  unfold yards
  rw [List.map_map, show b + m - (a + m) = b - a by omega]
  refine List.map_congr_left fun i _ => ?_
  show a + m + (i : Int) = a + (i : Int) + m
  omega
theorem yards_rev (a b : Int) : (yards a b).reverse = (yards 0 (b - a)).map fun i => b - 1 - i := by
  apply List.ext_getElem?
  intro i
  by_cases c : i < (b - a).toNat
  · rw [List.getElem?_reverse (by rw [yards_len]; exact c), yards_len, yards_get (by omega), List.getElem?_map, yards_get (by omega)]
    show some (a + (((b - a).toNat - 1 - i : Nat) : Int)) = some (b - 1 - (0 + (i : Int)))
    congr 1
    omega
  · rw [List.getElem?_eq_none (by rw [List.length_reverse, yards_len]; omega), List.getElem?_eq_none (by rw [List.length_map, yards_len]; omega)]
theorem lo_map_add (xs : List Int) (m : Int) (h : xs ≠ []) : DL.lo (xs.map (· + m)) = DL.lo xs + m := lo_eq (List.mem_map_of_mem (f := (· + m)) (lo_mem h)) fun z hz => by
  obtain ⟨w, hw, rfl⟩ := List.mem_map.mp hz
  have := lo_le hw
  show DL.lo xs + m ≤ w + m
  omega
theorem hi_map_add (xs : List Int) (m : Int) (h : xs ≠ []) : DL.hi (xs.map (· + m)) = DL.hi xs + m := hi_eq (List.mem_map_of_mem (f := (· + m)) (hi_mem h)) fun z hz => by
  obtain ⟨w, hw, rfl⟩ := List.mem_map.mp hz
  have := le_hi hw
  show w + m ≤ DL.hi xs + m
  omega
/-! ### moved -/
theorem mvd_fst {t : Thread} (m : Int) (h : t ≠ []) : fst (mvd t m) = fst t + m := by
  unfold fst mvd
  rw [List.map_map, ← lo_map_add _ m (by simpa using h), List.map_map]
  rfl
theorem mvd_lst {t : Thread} (m : Int) (h : t ≠ []) : lst (mvd t m) = lst t + m := by
  unfold lst mvd
  rw [List.map_map, ← hi_map_add _ m (by simpa using h), List.map_map]
  congr 1
  refine List.map_congr_left fun p _ => ?_
  show p.1 + m + (p.2.length : Int) = p.1 + (p.2.length : Int) + m
  omega
theorem mvd_atY (t : Thread) (m y : Int) : atY (mvd t m) (y + m) = atY t y := by
  unfold atY mvd
  rw [List.map_map]
  congr 1
  refine List.map_congr_left fun p _ => ?_
  show val p.2 (y + m - (p.1 + m)) = _
  congr 1
  omega
theorem mvd_row {t : Thread} (m : Int) (h : t ≠ []) : row (mvd t m) = row t := by
  unfold row
  rw [mvd_fst m h, mvd_lst m h, yards_add, List.map_map]
  exact List.map_congr_left fun y _ => mvd_atY t m y
theorem mvd_bads {t : Thread} (m : Int) (b : Band) (h : t ≠ []) : bads (mvd t m) b = (bads t b).map (· + m) := by
  unfold bads
  rw [mvd_fst m h, mvd_lst m h, yards_add, List.filter_map]
  congr 1
  refine List.filter_congr fun y _ => ?_
  show (!okb b (atY (mvd t m) (y + m))) = _
  rw [mvd_atY]
theorem mvd_cnts {t : Thread} (m : Int) (h : t ≠ []) : cnts (mvd t m) = cnts t := by
  unfold cnts
  rw [mvd_fst m h, mvd_lst m h, yards_add, List.map_map]
  refine List.map_congr_left fun y _ => ?_
  show cnt (mvd t m) (y + m) = cnt t y
  unfold cnt mvd
  rw [List.filter_map, List.length_map]
  congr 2
  refine List.filter_congr fun p _ => ?_
  show (decide (p.1 + m ≤ y + m) && decide (y + m < p.1 + m + (p.2.length : Int))) = _
  congr 1 <;> rw [decide_eq_decide] <;> omega
theorem sortI_perm (xs : List Int) : (sortI xs).Perm xs := List.mergeSort_perm xs _
theorem sortI_sorted (ns : List Int) : (sortI ns).Pairwise (· ≤ ·) := by
  have z := List.pairwise_mergeSort (le := fun a b : Int => decide (a ≤ b)) (by intro a b c; simp; omega) (by intro a b; simp; omega) ns
  simp only [decide_eq_true_eq] at z
  exact z
theorem sortI_add (xs : List Int) (m : Int) : sortI (xs.map (· + m)) = (sortI xs).map (· + m) := by
  refine (sortI_eq ((sortI_perm xs).map _) ?_).symm
  exact List.Pairwise.map _ (fun a b h => by show a + m ≤ b + m; omega) (sortI_sorted xs)
theorem mvd_jns {t : Thread} (m : Int) (h : t ≠ []) : jns (mvd t m) = (jns t).map (· + m) := by
  unfold jns
  rw [← sortI_add, List.map_map, mvd_fst m h]
  congr 1
  unfold mvd
  rw [List.filter_map, List.map_map]
  have e : (t.filter ((fun p : Int × Strand => decide (fst t + m < p.1)) ∘ fun p => (p.1 + m, p.2))) = t.filter fun p => decide (fst t < p.1) := List.filter_congr fun p _ => by
    show decide (fst t + m < p.1 + m) = _
    rw [decide_eq_decide]
    omega
  rw [e]
  rfl
/-! ### turned about -/
def bk (t : Thread) (e : Int) : Thread := t.map fun p => (e - p.1 - p.2.length, p.2.reverse)
theorem bk_atY (t : Thread) (e y : Int) : atY (bk t e) y = atY t (e - 1 - y) := by
  unfold atY bk
  rw [List.map_map]
  congr 1
  refine List.map_congr_left fun p _ => ?_
  show val p.2.reverse (y - (e - p.1 - p.2.length)) = _
  rw [val_rev]
  congr 1
  omega
theorem bk_fst {t : Thread} (h : t ≠ []) : fst (bk t (lst t)) = 0 := by
  obtain ⟨p, hp, e⟩ := lst_mem h
  refine lo_eq ?_ fun z hz => ?_
  · refine List.mem_map.mpr ⟨(lst t - p.1 - p.2.length, p.2.reverse), List.mem_map_of_mem (f := fun p : Int × Strand => (lst t - p.1 - (p.2.length : Int), p.2.reverse)) hp, ?_⟩
    show lst t - p.1 - (p.2.length : Int) = 0
    omega
  · obtain ⟨q, hq, rfl⟩ := List.mem_map.mp hz
    obtain ⟨r, hr, rfl⟩ := List.mem_map.mp hq
    have := le_lst hr
    show 0 ≤ lst t - r.1 - (r.2.length : Int)
    omega
theorem bk_lst {t : Thread} (h : t ≠ []) : lst (bk t (lst t)) = lst t - fst t := by
  obtain ⟨p, hp, e⟩ := fst_mem h
  refine hi_eq ?_ fun z hz => ?_
  · refine List.mem_map.mpr ⟨(lst t - p.1 - p.2.length, p.2.reverse), List.mem_map_of_mem (f := fun p : Int × Strand => (lst t - p.1 - (p.2.length : Int), p.2.reverse)) hp, ?_⟩
    show lst t - p.1 - (p.2.length : Int) + (p.2.reverse.length : Int) = lst t - fst t
    rw [List.length_reverse]
    omega
  · obtain ⟨q, hq, rfl⟩ := List.mem_map.mp hz
    obtain ⟨r, hr, rfl⟩ := List.mem_map.mp hq
    have := fst_le hr
    show lst t - r.1 - (r.2.length : Int) + (r.2.reverse.length : Int) ≤ lst t - fst t
    rw [List.length_reverse]
    omega
theorem bk_row {t : Thread} (h : t ≠ []) : row (bk t (lst t)) = (row t).reverse := by
  unfold row
  rw [bk_fst h, bk_lst h, ← List.map_reverse, yards_rev, List.map_map]
  exact List.map_congr_left fun y _ => bk_atY t _ y
theorem bk_cnt (t : Thread) (e y : Int) : cnt (bk t e) y = cnt t (e - 1 - y) := by
  unfold cnt bk
  rw [List.filter_map, List.length_map]
  congr 2
  refine List.filter_congr fun p _ => ?_
  show (decide (e - p.1 - (p.2.length : Int) ≤ y) && decide (y < e - p.1 - (p.2.length : Int) + (p.2.reverse.length : Int))) = _
  rw [List.length_reverse, Bool.and_comm]
  congr 1 <;> rw [decide_eq_decide] <;> omega
theorem bk_cnts {t : Thread} (h : t ≠ []) : cnts (bk t (lst t)) = (cnts t).reverse := by
  unfold cnts
  rw [bk_fst h, bk_lst h, ← List.map_reverse, yards_rev, List.map_map]
  exact List.map_congr_left fun y _ => bk_cnt t _ y
theorem bk_ndl {t : Thread} (b : Band) (h : t ≠ []) : ndl (bk t (lst t)) b = ndl t b := by
  unfold ndl
  rw [show (bk t (lst t)).length = t.length by unfold bk; rw [List.length_map]]
  refine List.filter_congr fun k _ => ?_
  have e : wo (bk t (lst t)) k = bk (wo t k) (lst t) := by
    unfold wo bk
    rw [List.map_append, List.map_take, List.map_drop]
  rw [e, bk_fst h, bk_lst h, Bool.eq_iff_iff, List.all_eq_true, List.all_eq_true]
  constructor
  · intro z y hy
    have hy := yards_mem.mp hy
    have := z (lst t - 1 - y) (yards_mem.mpr (by omega))
    rw [bk_atY, show lst t - 1 - (lst t - 1 - y) = y by omega] at this
    exact this
  · intro z y hy
    have hy := yards_mem.mp hy
    rw [bk_atY]
    exact z _ (yards_mem.mpr (by omega))
end K20

set_option Elab.async false
set_option linter.all false
set_option maxRecDepth 100000
set_option maxHeartbeats 1000000
namespace K20
open PySem PySem.Spec PyProof.Rows L2 DL
/-! ### the longest run -/
/-- [s, s + n) is the first longest run of p within [f, l) -/
structure LR (p : Int → Bool) (f l s n : Int) : Prop where
  h0 : f ≤ s
  h1 : s + n ≤ l
  h2 : ∀ y, s ≤ y → y < s + n → p y = true
  h3 : ∀ a c, f ≤ a → a < c → c ≤ l → (∀ y, a ≤ y → y < c → p y = true) → c - a ≤ n ∧ (c - a = n → s ≤ a)
theorem LR.uniq {p : Int → Bool} {f l s n s' n' : Int} (h : LR p f l s n) (k : LR p f l s' n') (hn : 0 < n) (hn' : 0 < n') : s = s' ∧ n = n' := by
  have a := h.h3 s' (s' + n') k.h0 (by omega) k.h1 k.h2
  have b := k.h3 s (s + n) h.h0 (by omega) h.h1 h.h2
  have e : n = n' := by omega
  exact ⟨by omega, e⟩
theorem zip_next {l : List Int} (hp : l.Pairwise (· < ·)) : ∀ q ∈ l.zip (l.drop 1), q.1 < q.2 ∧ q.1 ∈ l ∧ q.2 ∈ l ∧ ∀ y ∈ l, y ≤ q.1 ∨ q.2 ≤ y := by
  induction l with
  | nil => intro q hq; simp at hq
  | cons x xs ih =>
    intro q hq
    rw [List.pairwise_cons] at hp
    cases xs with
    | nil => simp at hq
    | cons z zs =>
      have hq : q ∈ (x, z) :: (z :: zs).zip zs := hq
      rcases List.mem_cons.mp hq with rfl | hq
      · refine ⟨hp.1 z (by simp), by simp, by simp, fun y hy => ?_⟩
        rcases List.mem_cons.mp hy with rfl | hy
        · exact .inl (Int.le_refl _)
        · rcases List.mem_cons.mp hy with rfl | hy
          · exact .inr (Int.le_refl _)
          · have := (List.pairwise_cons.mp hp.2).1 y hy
            exact .inr (by show z ≤ y; omega)
      · obtain ⟨a, b, c, d⟩ := ih hp.2 q hq
        refine ⟨a, List.mem_cons_of_mem _ b, List.mem_cons_of_mem _ c, fun y hy => ?_⟩
        rcases List.mem_cons.mp hy with rfl | hy
        · have := hp.1 q.1 b
          exact .inl (by omega)
        · exact d y hy
theorem zip_find {a : Int} : ∀ {l : List Int} {x : Int}, x < a → (∃ z ∈ l, a ≤ z) → ∃ q ∈ (x :: l).zip l, q.1 < a ∧ a ≤ q.2
  | [], x, _, ⟨z, hz, _⟩ => by cases hz
  | y :: ys, x, h, ⟨z, hz, ha⟩ => by
    by_cases c : a ≤ y
    · exact ⟨(x, y), by simp, h, c⟩
    · have hz' : z ∈ ys := by
        rcases List.mem_cons.mp hz with rfl | hz
        · exact absurd ha c
        · exact hz
      obtain ⟨q, hq, h1, h2⟩ := zip_find (l := ys) (x := y) (by omega) ⟨z, hz', ha⟩
      exact ⟨q, List.mem_cons_of_mem _ hq, h1, h2⟩
theorem yards_sorted (a b : Int) : (yards a b).Pairwise (· < ·) := by
  unfold yards
  refine List.Pairwise.map _ (fun i j h => ?_) List.pairwise_lt_range
  show a + (i : Int) < a + (j : Int)
  omega
theorem bads_mem {t : Thread} {b : Band} {y : Int} : y ∈ bads t b ↔ (fst t ≤ y ∧ y < lst t) ∧ okb b (atY t y) = false := by
  unfold bads
  rw [List.mem_filter, yards_mem, Bool.not_eq_true']
theorem edges_sorted {t : Thread} (b : Band) (h : fst t < lst t) : (edges t b).Pairwise (· < ·) := by
  unfold edges
  rw [List.pairwise_cons]
  constructor
  · intro y hy
    rcases List.mem_append.mp hy with hy | hy
    · have := (bads_mem.mp hy).1
      omega
    · rw [List.mem_singleton.mp hy]
      omega
  · rw [List.pairwise_append]
    refine ⟨List.Pairwise.filter _ (yards_sorted _ _), List.pairwise_singleton _ _, fun y hy z hz => ?_⟩
    rw [List.mem_singleton.mp hz]
    exact (bads_mem.mp hy).1.2
theorem edges_bd {t : Thread} {b : Band} (h : fst t < lst t) {y : Int} (hy : y ∈ edges t b) : y = fst t - 1 ∨ y = lst t ∨ y ∈ bads t b := by
  unfold edges at hy
  rcases List.mem_cons.mp hy with e | hy
  · exact .inl e
  · rcases List.mem_append.mp hy with hy | hy
    · exact .inr (.inr hy)
    · exact .inr (.inl (List.mem_singleton.mp hy))
theorem best_lr {t : Thread} (b : Band) (h : fst t < lst t) : LR (fun y => okb b (atY t y)) (fst t) (lst t) (-(best (edges t b)).2) (best (edges t b)).1 := by
  have hs := edges_sorted b h
  have gm : ∀ g, g ∈ gaps (edges t b) ↔ ∃ q ∈ (edges t b).zip ((edges t b).drop 1), (q.2 - q.1 - 1, -q.1 - 1) = g := fun g => List.mem_map
  have hbest : best (edges t b) ∈ gaps (edges t b) ∧ ∀ g ∈ gaps (edges t b), ¬ DL.ltP (best (edges t b)) g := by
    have hne : gaps (edges t b) ≠ [] := fun e => by
      have := congrArg List.length e
      unfold gaps edges at this
      simp at this
    unfold best
    cases hg : gaps (edges t b) with
    | nil => exact absurd hg hne
    | cons x xs => exact ⟨maxOf_mem x xs, maxOf_ge x xs⟩
  obtain ⟨q, hq, eq⟩ := (gm _).mp hbest.1
  obtain ⟨z1, z2, z3, z4⟩ := zip_next hs q hq
  have e1 : (best (edges t b)).1 = q.2 - q.1 - 1 := by rw [← eq]
  have e2 : (best (edges t b)).2 = -q.1 - 1 := by rw [← eq]
  have b1 : fst t - 1 ≤ q.1 := by
    rcases edges_bd h z2 with e | e | e
    · omega
    · omega
    · have := (bads_mem.mp e).1
      omega
  have b2 : q.2 ≤ lst t := by
    rcases edges_bd h z3 with e | e | e
    · omega
    · omega
    · have := (bads_mem.mp e).1
      omega
  refine ⟨by rw [e2]; omega, by rw [e1, e2]; omega, fun y y1 y2 => ?_, fun a c ha hac hc hall => ?_⟩
  · rw [e2] at y1
    rw [e1, e2] at y2
    show okb b (atY t y) = true
    cases k : okb b (atY t y) with
    | true => rfl
    | false =>
      have hb : y ∈ edges t b := by
        unfold edges
        exact List.mem_cons_of_mem _ (List.mem_append_left _ (bads_mem.mpr ⟨by omega, k⟩))
      have := z4 y hb
      omega
  · have hz : ∃ w ∈ bads t b ++ [lst t], a ≤ w := ⟨lst t, by simp, by omega⟩
    obtain ⟨q', hq', f1, f2⟩ := zip_find (x := fst t - 1) (a := a) (by omega) hz
    have hq'' : q' ∈ (edges t b).zip ((edges t b).drop 1) := hq'
    obtain ⟨w1, w2, w3, w4⟩ := zip_next hs q' hq''
    have hc2 : c ≤ q'.2 := by
      rcases edges_bd h w3 with e | e | e
      · omega
      · omega
      · by_cases cc : c ≤ q'.2
        · exact cc
        · have k1 := hall q'.2 f2 (by omega)
          have k2 := (bads_mem.mp e).2
          rw [k1] at k2
          cases k2
    have hl := hbest.2 _ ((gm (q'.2 - q'.1 - 1, -q'.1 - 1)).mpr ⟨q', hq'', rfl⟩)
    unfold DL.ltP at hl
    simp only [e1, e2] at hl ⊢
    omega
theorem evp_some {t : Thread} {b : Band} (h : fst t < lst t) {x y : Int} (e : evp t b = some (x, y)) : x < y ∧ LR (fun y => okb b (atY t y)) (fst t) (lst t) x (y - x) := by
  have k := best_lr b h
  unfold evp at e
  split at e
  · rename_i c
    cases e
    refine ⟨by omega, ?_⟩
    rw [show -(best (edges t b)).2 + (best (edges t b)).1 - -(best (edges t b)).2 = (best (edges t b)).1 by omega]
    exact k
  · cases e
theorem evp_none {t : Thread} {b : Band} (h : fst t < lst t) (e : evp t b = none) : ∀ y, fst t ≤ y → y < lst t → okb b (atY t y) = false := by
  intro y h1 h2
  have k := best_lr b h
  unfold evp at e
  split at e
  · cases e
  · rename_i c
    cases z : okb b (atY t y) with
    | false => rfl
    | true =>
      have := (k.h3 y (y + 1) h1 (by omega) (by omega) fun w w1 w2 => by
        rw [show w = y by omega]
        exact z).1
      omega
/-! ### the same, yard by yard -/
def stp1 (p : Int → Bool) (j : Int) (s : Int × Option (Int × Int)) : Int × Option (Int × Int) :=
  let a := if p j = true then s.1 else j + 1
  (a, if (p j && (match s.2 with
    | none => true
    | some q => decide (q.2 - q.1 < j + 1 - a))) = true then some (a, j + 1) else s.2)
def lp (p : Int → Bool) : Nat → Int × Option (Int × Int)
  | 0 => (0, none)
  | n + 1 => stp1 p (n : Int) (lp p n)
structure LI (p : Int → Bool) (n : Int) (s : Int × Option (Int × Int)) : Prop where
  a0 : 0 ≤ s.1
  a1 : s.1 ≤ n
  a2 : ∀ y, s.1 ≤ y → y < n → p y = true
  a3 : s.1 = 0 ∨ p (s.1 - 1) = false
  b0 : s.2 = none → ∀ y, 0 ≤ y → y < n → p y = false
  b1 : ∀ q, s.2 = some q → q.1 < q.2 ∧ LR p 0 n q.1 (q.2 - q.1)
theorem lp_li (p : Int → Bool) : ∀ n : Nat, LI p n (lp p n)
  | 0 => ⟨Int.le_refl _, Int.le_refl _, fun y h1 h2 => by have h1 : (0 : Int) ≤ y := h1; omega, .inl rfl, fun _ y h1 h2 => by omega, fun q h => by cases h⟩
  | n + 1 => by
    have ih := lp_li p n
    obtain ⟨a0, a1, a2, a3, b0, b1⟩ := ih
    show LI p ((n + 1 : Nat) : Int) (stp1 p n (lp p n))
    rw [show ((n + 1 : Nat) : Int) = (n : Int) + 1 by omega]
    generalize lp p n = s at a0 a1 a2 a3 b0 b1
    obtain ⟨a, o⟩ := s
    simp only at a0 a1 a2 a3 b0 b1
    unfold stp1
    simp only
    by_cases c : p (n : Int) = true
    · rw [if_pos c, c, Bool.true_and]
      have run : ∀ y, a ≤ y → y < (n : Int) + 1 → p y = true := fun y h1 h2 => by
        by_cases e : y = n
        · rw [e]; exact c
        · exact a2 y h1 (by omega)
      -- a run that ends at n + 1 begins at a or behind it
      have late : ∀ a', 0 ≤ a' → (∀ y, a' ≤ y → y < (n : Int) + 1 → p y = true) → a' ≤ n → a ≤ a' := fun a' h0 hall hn => by
        rcases a3 with e | e
        · omega
        · by_cases cc : a ≤ a'
          · exact cc
          · have := hall (a - 1) (by omega) (by omega)
            rw [e] at this
            cases this
      cases o with
      | none =>
        simp only [if_true]
        refine ⟨a0, by show a ≤ (n : Int) + 1; omega, run, a3, (fun e => by cases e), fun q e => ?_⟩
        cases e
        refine ⟨by show a < (n : Int) + 1; omega, ⟨a0, by show a + ((n : Int) + 1 - a) ≤ (n : Int) + 1; omega, fun y h1 h2 => run y h1 (by have h2 : y < a + ((n : Int) + 1 - a) := h2; omega), fun a' c' h1 h2 h3 h4 => ?_⟩⟩
        show c' - a' ≤ (n : Int) + 1 - a ∧ (c' - a' = (n : Int) + 1 - a → a ≤ a')
        by_cases e : c' ≤ n
        · have := b0 rfl a' h1 (by omega)
          rw [h4 a' (Int.le_refl _) h2] at this
          cases this
        · have := late a' h1 (fun y y1 y2 => h4 y y1 (by omega)) (by omega)
          omega
      | some q =>
        obtain ⟨q1, q2⟩ := b1 q rfl
        simp only
        by_cases cc : q.2 - q.1 < (n : Int) + 1 - a
        · rw [if_pos (decide_eq_true cc)]
          refine ⟨a0, by show a ≤ (n : Int) + 1; omega, run, a3, (fun e => by cases e), fun q' e => ?_⟩
          cases e
          refine ⟨by show a < (n : Int) + 1; omega, ⟨a0, by show a + ((n : Int) + 1 - a) ≤ (n : Int) + 1; omega, fun y h1 h2 => run y h1 (by have h2 : y < a + ((n : Int) + 1 - a) := h2; omega), fun a' c' h1 h2 h3 h4 => ?_⟩⟩
          show c' - a' ≤ (n : Int) + 1 - a ∧ (c' - a' = (n : Int) + 1 - a → a ≤ a')
          by_cases e : c' ≤ n
          · have := q2.h3 a' c' h1 h2 e h4
            omega
          · have := late a' h1 (fun y y1 y2 => h4 y y1 (by omega)) (by omega)
            omega
        · rw [if_neg (by rw [decide_eq_false cc]; simp)]
          refine ⟨a0, by show a ≤ (n : Int) + 1; omega, run, a3, (fun e => by cases e), fun q' e => ?_⟩
          cases e
          refine ⟨q1, ⟨q2.h0, by have := q2.h1; omega, q2.h2, fun a' c' h1 h2 h3 h4 => ?_⟩⟩
          by_cases e : c' ≤ n
          · exact q2.h3 a' c' h1 h2 e h4
          · have := late a' h1 (fun y y1 y2 => h4 y y1 (by omega)) (by omega)
            have := q2.h1
            omega
    · rw [if_neg c]
      have cf : p (n : Int) = false := by simpa using c
      rw [cf, Bool.false_and, if_neg (by simp)]
      have early : ∀ a' c', a' < c' → c' ≤ (n : Int) + 1 → (∀ y, a' ≤ y → y < c' → p y = true) → c' ≤ n := fun a' c' h2 h3 h4 => by
        by_cases e : c' ≤ n
        · exact e
        · have := h4 n (by omega) (by omega)
          rw [cf] at this
          cases this
      refine ⟨by show 0 ≤ (n : Int) + 1; omega, Int.le_refl _, fun y h1 h2 => by have h1 : (n : Int) + 1 ≤ y := h1; omega, .inr (by show p ((n : Int) + 1 - 1) = false; rw [show (n : Int) + 1 - 1 = n by omega]; exact cf), fun e y h1 h2 => ?_, fun q e => ?_⟩
      · by_cases e2 : y = n
        · rw [e2]; exact cf
        · exact b0 e y h1 (by omega)
      · obtain ⟨q1, q2⟩ := b1 q e
        exact ⟨q1, ⟨q2.h0, by have := q2.h1; omega, q2.h2, fun a' c' h1 h2 h3 h4 => q2.h3 a' c' h1 h2 (early a' c' h2 h3 h4) h4⟩⟩
/-- both ways find the same -/
theorem evp_lp {t : Thread} {b : Band} (h : fst t < lst t) : evp t b = (lp (fun i => okb b (atY t (fst t + i))) (lst t - fst t).toNat).2.map fun q => (fst t + q.1, fst t + q.2) := by
  have li := lp_li (fun i => okb b (atY t (fst t + i))) (lst t - fst t).toNat
  rw [show (((lst t - fst t).toNat : Nat) : Int) = lst t - fst t by omega] at li
  cases e : evp t b with
  | none =>
    have z := evp_none h e
    cases o : (lp (fun i => okb b (atY t (fst t + i))) (lst t - fst t).toNat).2 with
    | none => rfl
    | some q =>
      obtain ⟨q1, q2⟩ := li.b1 q o
      have := q2.h2 q.1 (Int.le_refl _) (by omega)
      have k0 := q2.h0
      have k1 := q2.h1
      rw [z (fst t + q.1) (by omega) (by omega)] at this
      cases this
  | some x =>
    obtain ⟨x1, x2⟩ := evp_some h (x := x.1) (y := x.2) e
    cases o : (lp (fun i => okb b (atY t (fst t + i))) (lst t - fst t).toNat).2 with
    | none =>
      have k0 := x2.h0
      have k1 := x2.h1
      have := li.b0 o (x.1 - fst t) (by omega) (by omega)
      rw [show fst t + (x.1 - fst t) = x.1 by omega, x2.h2 x.1 (Int.le_refl _) (by omega)] at this
      cases this
    | some q =>
      obtain ⟨q1, q2⟩ := li.b1 q o
      have q3 : LR (fun y => okb b (atY t y)) (fst t) (lst t) (fst t + q.1) (q.2 - q.1) := by
        refine ⟨by have := q2.h0; omega, by have := q2.h1; omega, fun y y1 y2 => ?_, fun a c h1 h2 h3 h4 => ?_⟩
        · have := q2.h2 (y - fst t) (by omega) (by omega)
          rw [show fst t + (y - fst t) = y by omega] at this
          exact this
        · have := q2.h3 (a - fst t) (c - fst t) (by omega) (by omega) (by omega) fun y y1 y2 => h4 (fst t + y) (by omega) (by omega)
          omega
      obtain ⟨u1, u2⟩ := x2.uniq q3 (by omega) (by omega)
      show some x = some (fst t + q.1, fst t + q.2)
      congr 1
      exact Prod.ext (by omega) (by show x.2 = fst t + q.2; omega)
end K20

set_option Elab.async false
set_option linter.all false
set_option maxRecDepth 100000
set_option maxHeartbeats 4000000
namespace K20
open PySem PySem.Spec PyProof.Rows L2 DL
theorem atY_wo {t : Thread} {k : Nat} {p : Int × Strand} (h : t[k]? = some p) (y : Int) : atY (wo t k) y = atY t y - val p.2 (y - p.1) := by
  have hk : k < t.length := (List.getElem?_eq_some_iff.mp h).1
  have e : t = t.take k ++ (p :: t.drop (k + 1)) := by
    have hp : t[k] = p := by
      rw [List.getElem?_eq_getElem hk] at h
      exact Option.some.inj h
    rw [← hp, ← List.drop_eq_getElem_cons hk, List.take_append_drop]
  have e1 : atY t y = atY (t.take k) y + (val p.2 (y - p.1) + atY (t.drop (k + 1)) y) := by
    conv => lhs; rw [e, atY_app]
    rfl
  unfold wo
  rw [show ((k : Int)).toNat = k by omega, atY_app, e1]
  omega
/-- the row with one strand taken off, as far as k -/
def off (t : Thread) (p : Int × Strand) (k : Int) : List Int := (yards (fst t) (lst t)).map fun y => atY t y - (if p.1 ≤ y ∧ y < p.1 + k then val p.2 (y - p.1) else 0)
theorem bool_dec {p : Prop} [Decidable p] {b : Bool} (h : b = true ↔ p) : decide p = b := by
  cases b
  · rw [decide_eq_false_iff_not]
    exact fun k => by cases h.mpr k
  · rw [decide_eq_true_eq]
    exact h.mp rfl
theorem enum_ints (s : Strand) : enumL (eI s) = (yards 0 s.length).map fun i => .tuple [.int i, .int (val s i)] := by
  rw [enum_i, eI_len]
  refine List.map_congr_left fun i hi => ?_
  obtain ⟨i0, i1⟩ := yards_mem.mp hi
  unfold eI val
  rw [if_pos ⟨i0, i1⟩, List.getD_eq_getElem?_getD, List.getElem?_map, List.getD_eq_getElem?_getD, List.getElem?_eq_getElem (show i.toNat < s.length by omega)]
  rfl
theorem off_zero (t : Thread) (p : Int × Strand) : off t p 0 = row t := by
  unfold off row
  refine List.map_congr_left fun y _ => ?_
  rw [if_neg (by omega)]
  omega
theorem off_all {t : Thread} {k : Nat} {p : Int × Strand} (h : t[k]? = some p) : off t p p.2.length = (yards (fst t) (lst t)).map fun y => atY (wo t k) y := by
  unfold off
  refine List.map_congr_left fun y _ => ?_
  rw [atY_wo h]
  by_cases c : p.1 ≤ y ∧ y < p.1 + p.2.length
  · rw [if_pos c]
  · rw [if_neg c, val_zero (by omega)]
theorem band_right_e {t : Thread} {b : Band} (h : VT t) (hb : VB b) : m__law_is_band_right [eT t, .tuple (eI (row t)), .int (fst t), eP b] = some (.bool true) := by
  have h2 := h.l2
  have f0 := h.fst0
  have l0 := h.lst0
  show run0 (b__law_is_band_right _ _ _ _) = _
  unfold b__law_is_band_right
  simp only [if_true, if_false, B_P, L_s, run0_P, mNone_P, ite_and, ite_or, ite_and', ite_or', ite_t, ite_f, boolD_b, lt_ii, le_ii, gt_ii, ge_ii, add_ii, sub_ii, neg_i, part_i, seq_t, seq_l, tup2, tup0, lst0, lst1, lstS0, tup_l, tup_t, len_t, len_l, u2_p, isi_tt, isi_ii, isi_bi, isi_ss, Bool.not_true, Bool.not_false, Bool.and_true, Bool.true_and, Bool.or_false, Bool.false_or]
  have erow : eI (row t) = (yards (fst t) (lst t)).map fun y => PyData.int (atY t y) := by unfold row; rw [← eI_map]
  have ylen : (yards (fst t) (lst t)).length ≤ 1000 := by rw [yards_len]; omega
  -- is_in
  rw [cmp_ints (g := fun v => .bool (okb b v)) fun v _ => by
    unfold eP
    simp only [ix0, ix1, if_true, if_false, B_P, L_s, run0_P, mNone_P, ite_and, ite_or, ite_and', ite_or', ite_t, ite_f, boolD_b, lt_ii, le_ii, gt_ii, ge_ii, add_ii, sub_ii, neg_i, part_i, seq_t, seq_l, tup2, tup0, lst0, lst1, lstS0, tup_l, tup_t, len_t, len_l, u2_p, isi_tt, isi_ii, isi_bi, isi_ss, Bool.not_true, Bool.not_false, Bool.and_true, Bool.true_and, Bool.or_false, Bool.false_or]
    rfl]
  have ein : ((row t).map fun v => PyData.bool (okb b v)) = (yards (fst t) (lst t)).map fun y => PyData.bool (okb b (atY t y)) := by unfold row; rw [List.map_map]; rfl
  rw [ein]
  simp only [lstD_le (show ((yards (fst t) (lst t)).map fun y => PyData.bool (okb b (atY t y))).length ≤ 16777216 by rw [List.length_map]; omega), if_true, if_false, B_P, L_s, run0_P, mNone_P, ite_and, ite_or, ite_and', ite_or', ite_t, ite_f, boolD_b, lt_ii, le_ii, gt_ii, ge_ii, add_ii, sub_ii, neg_i, part_i, seq_t, seq_l, tup2, tup0, lst0, lst1, lstS0, tup_l, tup_t, len_t, len_l, u2_p, isi_tt, isi_ii, isi_bi, isi_ss, Bool.not_true, Bool.not_false, Bool.and_true, Bool.true_and, Bool.or_false, Bool.false_or]
  -- uneven
  have een : enumD [.list ((yards (fst t) (lst t)).map fun y => PyData.bool (okb b (atY t y)))] = some ((yards (fst t) (lst t)).map fun y => .tuple [.int (y - fst t), .bool (okb b (atY t y))]) := by
    show some (enumL _) = _
    rw [enum_y]
  simp only [uneven_e h hb, een, if_true, if_false, B_P, L_s, run0_P, mNone_P, ite_and, ite_or, ite_and', ite_or', ite_t, ite_f, boolD_b, lt_ii, le_ii, gt_ii, ge_ii, add_ii, sub_ii, neg_i, part_i, seq_t, seq_l, tup2, tup0, lst0, lst1, lstS0, tup_l, tup_t, len_t, len_l, u2_p, isi_tt, isi_ii, isi_bi, isi_ss, Bool.not_true, Bool.not_false, Bool.and_true, Bool.true_and, Bool.or_false, Bool.false_or]
  rw [cmp_filter (p := fun y => !okb b (atY t y)) (g := fun y : Int => .int y) fun y _ => by
    simp only [if_true, if_false, B_P, L_s, run0_P, mNone_P, ite_and, ite_or, ite_and', ite_or', ite_t, ite_f, boolD_b, lt_ii, le_ii, gt_ii, ge_ii, add_ii, sub_ii, neg_i, part_i, seq_t, seq_l, tup2, tup0, lst0, lst1, lstS0, tup_l, tup_t, len_t, len_l, u2_p, isi_tt, isi_ii, isi_bi, isi_ss, Bool.not_true, Bool.not_false, Bool.and_true, Bool.true_and, Bool.or_false, Bool.false_or]
    rw [show fst t + (y - fst t) = y by omega]]
  rw [show (((yards (fst t) (lst t)).filter fun y => !okb b (atY t y)).map fun y : Int => PyData.int y) = eI (bads t b) from rfl]
  have bl := bads_len t b
  simp only [lstD_le (show (eI (bads t b)).length ≤ 16777216 by rw [eI_len]; omega), DL.neT, decide_true, Bool.false_eq_true, if_true, if_false, B_P, L_s, run0_P, mNone_P, ite_and, ite_or, ite_and', ite_or', ite_t, ite_f, boolD_b, lt_ii, le_ii, gt_ii, ge_ii, add_ii, sub_ii, neg_i, part_i, seq_t, seq_l, tup2, tup0, lst0, lst1, lstS0, tup_l, tup_t, len_t, len_l, u2_p, isi_tt, isi_ii, isi_bi, isi_ss, Bool.not_true, Bool.not_false, Bool.and_true, Bool.true_and, Bool.or_false, Bool.false_or]
  -- is_even, weakest_yard
  have eall : decide (bads t b = []) = (yards (fst t) (lst t)).all fun y => okb b (atY t y) := by
    refine bool_dec ?_
    unfold bads
    rw [List.filter_eq_nil_iff, List.all_eq_true]
    simp
  simp only [is_even_e h hb, all_bools, eall, ne_bb, decide_true, weakest_yard_e h, min_seq (seq_t _) (row_ne h), indexT_e (lo_mem (row_ne h)), Bool.false_eq_true, if_true, if_false, B_P, L_s, run0_P, mNone_P, ite_and, ite_or, ite_and', ite_or', ite_t, ite_f, boolD_b, lt_ii, le_ii, gt_ii, ge_ii, add_ii, sub_ii, neg_i, part_i, seq_t, seq_l, tup2, tup0, lst0, lst1, lstS0, tup_l, tup_t, len_t, len_l, u2_p, isi_tt, isi_ii, isi_bi, isi_ss, Bool.not_true, Bool.not_false, Bool.and_true, Bool.true_and, Bool.or_false, Bool.false_or]
  unfold eP
  simp only [neP, and_self, decide_true, Bool.false_eq_true, show m_least_band [eT t] = some (.tuple [.int (DL.lo (row t)), .int (DL.hi (row t))]) from least_band_e h, min_seq (seq_t _) (row_ne h), max_seq (seq_t _) (row_ne h), spread_e h, ne_ii, if_true, if_false, B_P, L_s, run0_P, mNone_P, ite_and, ite_or, ite_and', ite_or', ite_t, ite_f, boolD_b, lt_ii, le_ii, gt_ii, ge_ii, add_ii, sub_ii, neg_i, part_i, seq_t, seq_l, tup2, tup0, lst0, lst1, lstS0, tup_l, tup_t, len_t, len_l, u2_p, isi_tt, isi_ii, isi_bi, isi_ss, Bool.not_true, Bool.not_false, Bool.and_true, Bool.true_and, Bool.or_false, Bool.false_or]
  -- joins
  simp only [joins_e h, show seqD (eT t) = some (t.map eE) from rfl, if_true, if_false, B_P, L_s, run0_P, mNone_P, ite_and, ite_or, ite_and', ite_or', ite_t, ite_f, boolD_b, lt_ii, le_ii, gt_ii, ge_ii, add_ii, sub_ii, neg_i, part_i, seq_t, seq_l, tup2, tup0, lst0, lst1, lstS0, tup_l, tup_t, len_t, len_l, u2_p, isi_tt, isi_ii, isi_bi, isi_ss, Bool.not_true, Bool.not_false, Bool.and_true, Bool.true_and, Bool.or_false, Bool.false_or]
  rw [cmp_filter (p := fun x : Int × Strand => !decide (x.1 = fst t)) (g := fun x => .int x.1) fun x _ => by
    unfold eE
    simp only [ne_ii, if_true, if_false, B_P, L_s, run0_P, mNone_P, ite_and, ite_or, ite_and', ite_or', ite_t, ite_f, boolD_b, lt_ii, le_ii, gt_ii, ge_ii, add_ii, sub_ii, neg_i, part_i, seq_t, seq_l, tup2, tup0, lst0, lst1, lstS0, tup_l, tup_t, len_t, len_l, u2_p, isi_tt, isi_ii, isi_bi, isi_ss, Bool.not_true, Bool.not_false, Bool.and_true, Bool.true_and, Bool.or_false, Bool.false_or]]
  have ej : (t.filter fun x : Int × Strand => !decide (x.1 = fst t)) = t.filter fun x => decide (fst t < x.1) := List.filter_congr fun p hp => by
    have := fst_le hp
    rw [← decide_not, decide_eq_decide]
    omega
  rw [ej, eI_map (fun x : Int × Strand => x.1)]
  have hjl : (eI ((t.filter fun x : Int × Strand => decide (fst t < x.1)).map fun x => x.1)).length ≤ 16777216 := by
    rw [eI_len, List.length_map]
    exact Nat.le_trans (List.length_filter_le _ _) (by omega)
  simp only [lstD_le hjl, sorted_e, show DL.neT (jns t) (sortI ((t.filter fun x : Int × Strand => decide (fst t < x.1)).map fun x => x.1)) = DL.neT _ _ from rfl, show neB (.tuple (eI (jns t))) (.tuple (eI (sortI ((t.filter fun x : Int × Strand => decide (fst t < x.1)).map fun x => x.1)))) = some false from by rw [DL.neT]; simp [jns], Bool.false_eq_true, if_true, if_false, B_P, L_s, run0_P, mNone_P, ite_and, ite_or, ite_and', ite_or', ite_t, ite_f, boolD_b, lt_ii, le_ii, gt_ii, ge_ii, add_ii, sub_ii, neg_i, part_i, seq_t, seq_l, tup2, tup0, lst0, lst1, lstS0, tup_l, tup_t, len_t, len_l, u2_p, isi_tt, isi_ii, isi_bi, isi_ss, Bool.not_true, Bool.not_false, Bool.and_true, Bool.true_and, Bool.or_false, Bool.false_or]
  -- the longest run
  simp only [eI_len, row_len, range1_e (b := (((lst t - fst t).toNat : Nat) : Int)) (by omega), if_true, if_false, B_P, L_s, run0_P, mNone_P, ite_and, ite_or, ite_and', ite_or', ite_t, ite_f, boolD_b, lt_ii, le_ii, gt_ii, ge_ii, add_ii, sub_ii, neg_i, part_i, seq_t, seq_l, tup2, tup0, lst0, lst1, lstS0, tup_l, tup_t, len_t, len_l, u2_p, isi_tt, isi_ii, isi_bi, isi_ss, Bool.not_true, Bool.not_false, Bool.and_true, Bool.true_and, Bool.or_false, Bool.false_or]
  rw [show (((lst t - fst t).toNat : Nat) : Int) = lst t - fst t by omega]
  have hn : (((lst t - fst t).toNat : Nat) : Int) = lst t - fst t := by omega
  rw [foldS_at (g := fun k => (PyData.int (lp (fun i => okb b (atY t (fst t + i))) k).1, eO (lp (fun i => okb b (atY t (fst t + i))) k).2)) (eI (yards 0 (lst t - fst t))) (PyData.int 0, PyData.none) rfl fun i d hd => ?_]
  · rw [eI_len, yards_len, show (lst t - fst t - 0).toNat = (lst t - fst t).toNat by omega]
    have eev := evp_lp (b := b) l0.1
    simp only [show m_even_part [eT t, .tuple [.int b.1, .int b.2]] = some (eO (evp t b)) from even_part_e h hb, isO, if_true, if_false, B_P, L_s, run0_P, mNone_P, ite_and, ite_or, ite_and', ite_or', ite_t, ite_f, boolD_b, lt_ii, le_ii, gt_ii, ge_ii, add_ii, sub_ii, neg_i, part_i, seq_t, seq_l, tup2, tup0, lst0, lst1, lstS0, tup_l, tup_t, len_t, len_l, u2_p, isi_tt, isi_ii, isi_bi, isi_ss, Bool.not_true, Bool.not_false, Bool.and_true, Bool.true_and, Bool.or_false, Bool.false_or]
    have ebest : (if (lp (fun i => okb b (atY t (fst t + i))) (lst t - fst t).toNat).2.isNone = true then (P PyData.none : M Unit D)
        else B (B (L (ixD (eO (lp (fun i => okb b (atY t (fst t + i))) (lst t - fst t).toNat).2) (PyData.int 0))) fun x => L (addD (PyData.int (fst t)) x)) fun x =>
            B (B (L (ixD (eO (lp (fun i => okb b (atY t (fst t + i))) (lst t - fst t).toNat).2) (PyData.int 1))) fun x => L (addD (PyData.int (fst t)) x)) fun y => P (PyData.tuple [x, y])) = P (eO (evp t b)) := by
      rw [eev]
      cases (lp (fun i => okb b (atY t (fst t + i))) (lst t - fst t).toNat).2 with
      | none => rfl
      | some q =>
        show B (B (L (ixD (.tuple [.int q.1, .int q.2]) (PyData.int 0))) fun x => L (addD (PyData.int (fst t)) x)) (fun x =>
            B (B (L (ixD (.tuple [.int q.1, .int q.2]) (PyData.int 1))) fun x => L (addD (PyData.int (fst t)) x)) fun y => P (PyData.tuple [x, y])) = _
        simp only [ix0, ix1, if_true, if_false, B_P, L_s, run0_P, mNone_P, ite_and, ite_or, ite_and', ite_or', ite_t, ite_f, boolD_b, lt_ii, le_ii, gt_ii, ge_ii, add_ii, sub_ii, neg_i, part_i, seq_t, seq_l, tup2, tup0, lst0, lst1, lstS0, tup_l, tup_t, len_t, len_l, u2_p, isi_tt, isi_ii, isi_bi, isi_ss, Bool.not_true, Bool.not_false, Bool.and_true, Bool.true_and, Bool.or_false, Bool.false_or]
        rfl
    rw [ebest]
    simp only [neO, decide_true, Bool.false_eq_true, show enumTD [eT t] = some (enumL (t.map eE)) from rfl, enum_i, if_true, if_false, B_P, L_s, run0_P, mNone_P, ite_and, ite_or, ite_and', ite_or', ite_t, ite_f, boolD_b, lt_ii, le_ii, gt_ii, ge_ii, add_ii, sub_ii, neg_i, part_i, seq_t, seq_l, tup2, tup0, lst0, lst1, lstS0, tup_l, tup_t, len_t, len_l, u2_p, isi_tt, isi_ii, isi_bi, isi_ss, Bool.not_true, Bool.not_false, Bool.and_true, Bool.true_and, Bool.or_false, Bool.false_or]
    rw [foldF_at (g := fun k => eI ((yards 0 (k : Nat)).filter fun k => (yards (fst t) (lst t)).all fun y => okb b (atY (wo t k) y))) ((yards 0 (((t.map eE).length : Nat) : Int)).map fun i => .tuple [.int i, (t.map eE).getD i.toNat .none]) ([] : List D) rfl fun i d hd => ?_]
    · simp only [kF_nx, show m_needless [eT t, .tuple [.int b.1, .int b.2]] = some (.tuple (eI (ndl t b))) from needless_e h hb, DL.eqT, if_true, if_false, B_P, L_s, run0_P, mNone_P, ite_and, ite_or, ite_and', ite_or', ite_t, ite_f, boolD_b, lt_ii, le_ii, gt_ii, ge_ii, add_ii, sub_ii, neg_i, part_i, seq_t, seq_l, tup2, tup0, lst0, lst1, lstS0, tup_l, tup_t, len_t, len_l, u2_p, isi_tt, isi_ii, isi_bi, isi_ss, Bool.not_true, Bool.not_false, Bool.and_true, Bool.true_and, Bool.or_false, Bool.false_or]
      have e : (yards 0 ((((yards 0 (((t.map eE).length : Nat) : Int)).map fun i => (.tuple [.int i, (t.map eE).getD i.toNat .none] : D)).length : Nat) : Int)).filter (fun k => (yards (fst t) (lst t)).all fun y => okb b (atY (wo t k) y)) = ndl t b := by
        rw [List.length_map, yards_len, List.length_map, show ((((t.length : Int) - 0).toNat : Nat) : Int) = t.length by omega]
        rfl
      rw [e]
      simp only [decide_true, if_true, if_false, B_P, L_s, run0_P, mNone_P, ite_and, ite_or, ite_and', ite_or', ite_t, ite_f, boolD_b, lt_ii, le_ii, gt_ii, ge_ii, add_ii, sub_ii, neg_i, part_i, seq_t, seq_l, tup2, tup0, lst0, lst1, lstS0, tup_l, tup_t, len_t, len_l, u2_p, isi_tt, isi_ii, isi_bi, isi_ss, Bool.not_true, Bool.not_false, Bool.and_true, Bool.true_and, Bool.or_false, Bool.false_or]
    · obtain ⟨rfl, hi⟩ := yards_at hd
      rw [List.length_map] at hi
      have hit : i < t.length := by omega
      have hp : t[i]? = some t[i] := List.getElem?_eq_getElem hit
      generalize hpp : t[i] = p at hp
      have hpm : p ∈ t := List.mem_of_getElem? hp
      have p1 := fst_le hpm
      have p2 := le_lst hpm
      have ed : (t.map eE).getD (0 + (i : Int)).toNat .none = eE p := by
        rw [show (0 + (i : Int)).toNat = i by omega, List.getD_eq_getElem?_getD, List.getElem?_map, hp]
        rfl
      have efin : (yards 0 ((i + 1 : Nat) : Int)).filter (fun k => (yards (fst t) (lst t)).all fun y => okb b (atY (wo t k) y)) = (yards 0 (i : Nat)).filter (fun k => (yards (fst t) (lst t)).all fun y => okb b (atY (wo t k) y)) ++ (if ((yards (fst t) (lst t)).all fun y => okb b (atY (wo t i) y)) = true then [(i : Int)] else []) := by
        rw [show ((i + 1 : Nat) : Int) = (i : Int) + 1 by omega, yards_succ, List.filter_append]
        congr 1
        by_cases c : ((yards (fst t) (lst t)).all fun y => okb b (atY (wo t i) y)) = true
        · rw [if_pos c, List.filter_cons_of_pos (by exact c)]
          rfl
        · rw [if_neg c, List.filter_cons_of_neg (by exact c)]
          rfl
      rw [ed]
      unfold eE eS
      simp only [enumT_t, enum_ints, if_true, if_false, B_P, L_s, run0_P, mNone_P, ite_and, ite_or, ite_and', ite_or', ite_t, ite_f, boolD_b, lt_ii, le_ii, gt_ii, ge_ii, add_ii, sub_ii, neg_i, part_i, seq_t, seq_l, tup2, tup0, lst0, lst1, lstS0, tup_l, tup_t, len_t, len_l, u2_p, isi_tt, isi_ii, isi_bi, isi_ss, Bool.not_true, Bool.not_false, Bool.and_true, Bool.true_and, Bool.or_false, Bool.false_or]
      rw [foldF_at (g := fun k => eI (off t p (k : Nat))) ((yards 0 ((p.2.length : Nat) : Int)).map fun i => .tuple [.int i, .int (val p.2 i)]) (eI (row t)) (by show eI (row t) = eI (off t p ((0 : Nat) : Int)); rw [show ((0 : Nat) : Int) = 0 from rfl, off_zero]) fun j d hd => ?_]
      · rw [List.length_map, yards_len, show ((((p.2.length : Int) - 0).toNat : Nat) : Int) = p.2.length by omega, off_all hp]
        simp only [kF_nx, if_true, if_false, B_P, L_s, run0_P, mNone_P, ite_and, ite_or, ite_and', ite_or', ite_t, ite_f, boolD_b, lt_ii, le_ii, gt_ii, ge_ii, add_ii, sub_ii, neg_i, part_i, seq_t, seq_l, tup2, tup0, lst0, lst1, lstS0, tup_l, tup_t, len_t, len_l, u2_p, isi_tt, isi_ii, isi_bi, isi_ss, Bool.not_true, Bool.not_false, Bool.and_true, Bool.true_and, Bool.or_false, Bool.false_or]
        rw [cmp_ints (g := fun v => .bool (okb b v)) fun v _ => by
          simp only [ix0, ix1, if_true, if_false, B_P, L_s, run0_P, mNone_P, ite_and, ite_or, ite_and', ite_or', ite_t, ite_f, boolD_b, lt_ii, le_ii, gt_ii, ge_ii, add_ii, sub_ii, neg_i, part_i, seq_t, seq_l, tup2, tup0, lst0, lst1, lstS0, tup_l, tup_t, len_t, len_l, u2_p, isi_tt, isi_ii, isi_bi, isi_ss, Bool.not_true, Bool.not_false, Bool.and_true, Bool.true_and, Bool.or_false, Bool.false_or]
          rfl]
        rw [List.map_map]
        have hlen : ((yards (fst t) (lst t)).map ((fun v => PyData.bool (okb b v)) ∘ fun y => atY (wo t i) y)).length ≤ 16777216 := by rw [List.length_map]; omega
        simp only [lstD_le hlen, if_true, if_false, B_P, L_s, run0_P, mNone_P, ite_and, ite_or, ite_and', ite_or', ite_t, ite_f, boolD_b, lt_ii, le_ii, gt_ii, ge_ii, add_ii, sub_ii, neg_i, part_i, seq_t, seq_l, tup2, tup0, lst0, lst1, lstS0, tup_l, tup_t, len_t, len_l, u2_p, isi_tt, isi_ii, isi_bi, isi_ss, Bool.not_true, Bool.not_false, Bool.and_true, Bool.true_and, Bool.or_false, Bool.false_or]
        rw [show ((yards (fst t) (lst t)).map ((fun v => PyData.bool (okb b v)) ∘ fun y => atY (wo t i) y)) = (yards (fst t) (lst t)).map (fun y => PyData.bool (okb b (atY (wo t i) y))) from rfl]
        simp only [all_bools, if_true, if_false, B_P, L_s, run0_P, mNone_P, ite_and, ite_or, ite_and', ite_or', ite_t, ite_f, boolD_b, lt_ii, le_ii, gt_ii, ge_ii, add_ii, sub_ii, neg_i, part_i, seq_t, seq_l, tup2, tup0, lst0, lst1, lstS0, tup_l, tup_t, len_t, len_l, u2_p, isi_tt, isi_ii, isi_bi, isi_ss, Bool.not_true, Bool.not_false, Bool.and_true, Bool.true_and, Bool.or_false, Bool.false_or]
        show _ = P (Fl.nx (eI ((yards 0 ((i + 1 : Nat) : Int)).filter fun k => (yards (fst t) (lst t)).all fun y => okb b (atY (wo t k) y))))
        rw [efin]
        have hfl : (eI ((yards 0 (i : Nat)).filter fun k => (yards (fst t) (lst t)).all fun y => okb b (atY (wo t k) y))).length ≤ 16777210 := by
          rw [eI_len]
          exact Nat.le_trans (List.length_filter_le _ _) (by rw [yards_len]; omega)
        by_cases c : ((yards (fst t) (lst t)).all fun y => okb b (atY (wo t i) y)) = true
        · rw [if_pos c, if_pos c]
          rw [show (0 : Int) + (i : Int) = i by omega]
          simp only [ext_l (eI ((yards 0 (i : Nat)).filter fun k => (yards (fst t) (lst t)).all fun y => okb b (atY (wo t k) y))) [PyData.int (i : Int)] (by rw [List.length_singleton]; omega), if_true, if_false, B_P, L_s, run0_P, mNone_P, ite_and, ite_or, ite_and', ite_or', ite_t, ite_f, boolD_b, lt_ii, le_ii, gt_ii, ge_ii, add_ii, sub_ii, neg_i, part_i, seq_t, seq_l, tup2, tup0, lst0, lst1, lstS0, tup_l, tup_t, len_t, len_l, u2_p, isi_tt, isi_ii, isi_bi, isi_ss, Bool.not_true, Bool.not_false, Bool.and_true, Bool.true_and, Bool.or_false, Bool.false_or]
          unfold eI
          rw [List.map_append]
          rfl
        · rw [if_neg c, if_neg c]
          simp only [ext_l (eI ((yards 0 (i : Nat)).filter fun k => (yards (fst t) (lst t)).all fun y => okb b (atY (wo t k) y))) ([] : List D) (by rw [List.length_nil]; omega), List.append_nil, if_true, if_false, B_P, L_s, run0_P, mNone_P, ite_and, ite_or, ite_and', ite_or', ite_t, ite_f, boolD_b, lt_ii, le_ii, gt_ii, ge_ii, add_ii, sub_ii, neg_i, part_i, seq_t, seq_l, tup2, tup0, lst0, lst1, lstS0, tup_l, tup_t, len_t, len_l, u2_p, isi_tt, isi_ii, isi_bi, isi_ss, Bool.not_true, Bool.not_false, Bool.and_true, Bool.true_and, Bool.or_false, Bool.false_or]
      · obtain ⟨rfl, hj⟩ := yards_at hd
        rw [show (0 : Int) + (j : Nat) = (j : Int) by omega]
        have ol : (eI (off t p (j : Nat))).length = (lst t - fst t).toNat := by rw [eI_len]; unfold off; rw [List.length_map, yards_len]
        have t1 : decide ((0 : Int) ≤ p.1 - fst t + (j : Nat)) = true := by simp; omega
        have t2 : decide (p.1 - fst t + ((j : Nat) : Int) < (((eI (off t p (j : Nat))).length : Nat) : Int)) = true := by rw [ol]; simp; omega
        have eo : eI (off t p (j : Nat)) = (yards (fst t) (lst t)).map fun y => PyData.int (atY t y - (if p.1 ≤ y ∧ y < p.1 + (j : Nat) then val p.2 (y - p.1) else 0)) := by unfold off; rw [← eI_map]
        have ei := (ix_y (a := fst t) (b := lst t) (i := p.1 - fst t + (j : Nat)) (fun y => PyData.int (atY t y - (if p.1 ≤ y ∧ y < p.1 + (j : Nat) then val p.2 (y - p.1) else 0))) (by omega) (by omega)).1
        rw [← eo, if_neg (by omega)] at ei
        simp only [t1, t2, Bool.false_eq_true, kF_nx, ei, setL_nat (xs := eI (off t p (j : Nat))) (i := p.1 - fst t + (j : Nat)) (by omega) (by rw [ol]; omega), if_true, if_false, B_P, L_s, run0_P, mNone_P, ite_and, ite_or, ite_and', ite_or', ite_t, ite_f, boolD_b, lt_ii, le_ii, gt_ii, ge_ii, add_ii, sub_ii, neg_i, part_i, seq_t, seq_l, tup2, tup0, lst0, lst1, lstS0, tup_l, tup_t, len_t, len_l, u2_p, isi_tt, isi_ii, isi_bi, isi_ss, Bool.not_true, Bool.not_false, Bool.and_true, Bool.true_and, Bool.or_false, Bool.false_or]
        congr 2
        show _ = eI (off t p ((j + 1 : Nat) : Int))
        rw [eo, show eI (off t p ((j + 1 : Nat) : Int)) = (yards (fst t) (lst t)).map fun y => PyData.int (atY t y - (if p.1 ≤ y ∧ y < p.1 + ((j + 1 : Nat) : Int) then val p.2 (y - p.1) else 0)) by unfold off; rw [← eI_map]]
        refine yards_set (by omega) (by omega) ?_ fun y hy => ?_
        · rw [if_pos (by omega), show fst t + (p.1 - fst t + (j : Int)) - p.1 = j by omega]
          congr 1
          omega
        · congr 2
          by_cases c : p.1 ≤ y ∧ y < p.1 + (j : Nat)
          · rw [if_pos c, if_pos (by omega)]
          · rw [if_neg c, if_neg (by omega)]
  · obtain ⟨rfl, hi⟩ := yards_at (e := PyData.int) hd
    rw [show (0 : Int) + (i : Nat) = (i : Int) by omega]
    simp only [(ix_y (fun y => PyData.bool (okb b (atY t y))) (show (0 : Int) ≤ (i : Nat) by omega) (show ((i : Nat) : Int) < lst t - fst t by omega)).1, isO, if_true, if_false, B_P, L_s, run0_P, mNone_P, ite_and, ite_or, ite_and', ite_or', ite_t, ite_f, boolD_b, lt_ii, le_ii, gt_ii, ge_ii, add_ii, sub_ii, neg_i, part_i, seq_t, seq_l, tup2, tup0, lst0, lst1, lstS0, tup_l, tup_t, len_t, len_l, u2_p, isi_tt, isi_ii, isi_bi, isi_ss, Bool.not_true, Bool.not_false, Bool.and_true, Bool.true_and, Bool.or_false, Bool.false_or]
    show _ = P (PyData.int (stp1 (fun i => okb b (atY t (fst t + i))) i (lp (fun i => okb b (atY t (fst t + i))) i)).1, eO (stp1 (fun i => okb b (atY t (fst t + i))) i (lp (fun i => okb b (atY t (fst t + i))) i)).2)
    unfold stp1
    generalize lp (fun i => okb b (atY t (fst t + i))) i = s
    obtain ⟨a, o⟩ := s
    cases c : okb b (atY t (fst t + (i : Nat)))
    · simp only [c, Bool.false_eq_true, Bool.false_and, if_true, if_false, B_P, L_s, run0_P, mNone_P, ite_and, ite_or, ite_and', ite_or', ite_t, ite_f, boolD_b, lt_ii, le_ii, gt_ii, ge_ii, add_ii, sub_ii, neg_i, part_i, seq_t, seq_l, tup2, tup0, lst0, lst1, lstS0, tup_l, tup_t, len_t, len_l, u2_p, isi_tt, isi_ii, isi_bi, isi_ss, Bool.not_true, Bool.not_false, Bool.and_true, Bool.true_and, Bool.or_false, Bool.false_or]
    · cases o with
      | none =>
        simp only [c, Option.isNone_none, if_true, if_false, B_P, L_s, run0_P, mNone_P, ite_and, ite_or, ite_and', ite_or', ite_t, ite_f, boolD_b, lt_ii, le_ii, gt_ii, ge_ii, add_ii, sub_ii, neg_i, part_i, seq_t, seq_l, tup2, tup0, lst0, lst1, lstS0, tup_l, tup_t, len_t, len_l, u2_p, isi_tt, isi_ii, isi_bi, isi_ss, Bool.not_true, Bool.not_false, Bool.and_true, Bool.true_and, Bool.or_false, Bool.false_or]
        rfl
      | some q =>
        simp only [c, Option.isNone_some, Bool.false_eq_true, if_true, if_false, B_P, L_s, run0_P, mNone_P, ite_and, ite_or, ite_and', ite_or', ite_t, ite_f, boolD_b, lt_ii, le_ii, gt_ii, ge_ii, add_ii, sub_ii, neg_i, part_i, seq_t, seq_l, tup2, tup0, lst0, lst1, lstS0, tup_l, tup_t, len_t, len_l, u2_p, isi_tt, isi_ii, isi_bi, isi_ss, Bool.not_true, Bool.not_false, Bool.and_true, Bool.true_and, Bool.or_false, Bool.false_or]
        rw [show eO (some q) = .tuple [.int q.1, .int q.2] from rfl]
        simp only [ix0, ix1, if_true, if_false, B_P, L_s, run0_P, mNone_P, ite_and, ite_or, ite_and', ite_or', ite_t, ite_f, boolD_b, lt_ii, le_ii, gt_ii, ge_ii, add_ii, sub_ii, neg_i, part_i, seq_t, seq_l, tup2, tup0, lst0, lst1, lstS0, tup_l, tup_t, len_t, len_l, u2_p, isi_tt, isi_ii, isi_bi, isi_ss, Bool.not_true, Bool.not_false, Bool.and_true, Bool.true_and, Bool.or_false, Bool.false_or]
        by_cases cc : q.2 - q.1 < (i : Int) + 1 - a
        · simp only [c, decide_eq_true cc, if_true, if_false, B_P, L_s, run0_P, mNone_P, ite_and, ite_or, ite_and', ite_or', ite_t, ite_f, boolD_b, lt_ii, le_ii, gt_ii, ge_ii, add_ii, sub_ii, neg_i, part_i, seq_t, seq_l, tup2, tup0, lst0, lst1, lstS0, tup_l, tup_t, len_t, len_l, u2_p, isi_tt, isi_ii, isi_bi, isi_ss, Bool.not_true, Bool.not_false, Bool.and_true, Bool.true_and, Bool.or_false, Bool.false_or]
          rfl
        · simp only [c, decide_eq_false cc, Bool.false_eq_true, if_true, if_false, B_P, L_s, run0_P, mNone_P, ite_and, ite_or, ite_and', ite_or', ite_t, ite_f, boolD_b, lt_ii, le_ii, gt_ii, ge_ii, add_ii, sub_ii, neg_i, part_i, seq_t, seq_l, tup2, tup0, lst0, lst1, lstS0, tup_l, tup_t, len_t, len_l, u2_p, isi_tt, isi_ii, isi_bi, isi_ss, Bool.not_true, Bool.not_false, Bool.and_true, Bool.true_and, Bool.or_false, Bool.false_or]
          rfl
end K20

set_option Elab.async false
set_option linter.all false
set_option maxRecDepth 100000
set_option maxHeartbeats 4000000
namespace K20
open PySem PySem.Spec PyProof.Rows L2 DL
theorem stp_get {s : Strand} {i : Nat} (h : i + 1 < s.length) : (stp s)[i]? = some (ab (s.getD (i + 1) 0 - s.getD i 0)) := by
  unfold stp
  have hz : (s.zip (s.drop 1))[i]? = some (s.getD i 0, s.getD (i + 1) 0) := List.getElem?_zip_eq_some.mpr ⟨by
    rw [List.getD_eq_getElem?_getD, List.getElem?_eq_getElem (show i < s.length by omega)]
    rfl, by
    show _ = some (s.getD (i + 1) 0)
    rw [List.getElem?_drop, List.getD_eq_getElem?_getD, Nat.add_comm 1 i, List.getElem?_eq_getElem h]
    rfl⟩
  rw [List.getElem?_map, hz]
  rfl
theorem stp_mem {s : Strand} {x : Int} : x ∈ stp s ↔ ∃ i, i + 1 < s.length ∧ x = ab (s.getD (i + 1) 0 - s.getD i 0) := by
  rw [List.mem_iff_getElem?]
  constructor
  · rintro ⟨i, h⟩
    have hl := (List.getElem?_eq_some_iff.mp h).1
    rw [stp_len] at hl
    have hi : i + 1 < s.length := by omega
    rw [stp_get hi] at h
    exact ⟨i, hi, (Option.some.inj h).symm⟩
  · rintro ⟨i, hi, rfl⟩
    exact ⟨i, stp_get hi⟩
theorem ab_sub (a b : Int) : ab (a - b) = ab (b - a) := by
  unfold ab
  split <;> split <;> omega
theorem stp_rev_mem (s : Strand) (x : Int) : x ∈ stp s.reverse ↔ x ∈ stp s := by
  have key : ∀ (s : Strand) (x : Int), x ∈ stp s → x ∈ stp s.reverse := fun s x h => by
    obtain ⟨i, hi, rfl⟩ := stp_mem.mp h
    refine stp_mem.mpr ⟨s.length - 2 - i, by rw [List.length_reverse]; omega, ?_⟩
    rw [List.getD_eq_getElem?_getD, List.getD_eq_getElem?_getD, List.getD_eq_getElem?_getD, List.getD_eq_getElem?_getD, List.getElem?_reverse (by omega), List.getElem?_reverse (by omega), ab_sub]
    congr 2
    · congr 2
      omega
    · congr 2
      omega
  constructor
  · intro h
    have := key _ _ h
    rwa [List.reverse_reverse] at this
  · exact key s x
theorem stp_nil_rev (s : Strand) : stp s.reverse = [] ↔ stp s = [] := by
  rw [← List.length_eq_zero_iff, ← List.length_eq_zero_iff, stp_len, stp_len, List.length_reverse]
theorem hi_stp_rev (s : Strand) (h : stp s ≠ []) : DL.hi (stp s.reverse) = DL.hi (stp s) :=
  hi_eq ((stp_rev_mem s _).mpr (hi_mem h)) fun z hz => le_hi ((stp_rev_mem s z).mp hz)
theorem VS.rev {s : Strand} (h : VS s) : VS s.reverse := ⟨by rw [List.length_reverse]; exact h.l1, by rw [List.length_reverse]; exact h.l2, fun x hx => h.at_ x (List.mem_reverse.mp hx)⟩
theorem VS.take {s : Strand} (h : VS s) {n : Nat} (h1 : 1 ≤ n) : VS (s.take n) := ⟨by have := h.l1; rw [List.length_take]; omega, by have := h.l2; rw [List.length_take]; omega, fun x hx => h.at_ x (List.mem_of_mem_take hx)⟩
theorem VS.drop {s : Strand} (h : VS s) {n : Nat} (h1 : n < s.length) : VS (s.drop n) := ⟨by rw [List.length_drop]; omega, by have := h.l2; rw [List.length_drop]; omega, fun x hx => h.at_ x (List.mem_of_mem_drop hx)⟩
theorem ixS {s : Strand} {i : Int} (h0 : 0 ≤ i) (h1 : i < s.length) : ixD (.tuple (eI s)) (.int i) = some (.int (s.getD i.toNat 0)) := (ix_nat (xs := eI s) h0 (by rw [eI_len]; exact h1) (by
  unfold eI
  rw [List.getElem?_map, List.getD_eq_getElem?_getD, List.getElem?_eq_getElem (show i.toNat < s.length by omega)]
  rfl)).1
theorem swg_some {s : Strand} (h : stp s ≠ []) : swg s = some (DL.hi (stp s), (((stp s).idxOf (DL.hi (stp s)) : Nat) : Int)) := if_neg h
theorem swg_none {s : Strand} (h : stp s = []) : swg s = none := if_pos h
theorem strands_e {k : Int} {st : Pot} {p : Int × Strand} {r : Thread} (hp : PI k st) (hk : k ≤ 1000000) (hv : VS p.2) : ∃ st', m__law_are_strands_right [eT (p :: r)] st = some (.bool true, st') ∧ PI (k + 1) st' := by
  have l1 := hv.l1
  have l2 := hv.l2
  obtain ⟨v, st', e1, v0, v1, p1⟩ := take_e hp hk (n := p.2.length) (by omega) (by omega)
  refine ⟨st', ?_, p1⟩
  show b__law_are_strands_right (eT (p :: r)) st = _
  unfold b__law_are_strands_right
  have ei : ixD (eT (p :: r)) (.int 0) = some (.tuple [.int p.1, eS p.2]) := (ix_nat (xs := (p :: r).map eE) (i := 0) (by decide) (by simp) rfl).1
  simp only [B_B, ei, ix1, if_true, if_false, B_P, L_s, run0_P, mNone_P, ite_and, ite_or, ite_and', ite_or', ite_t, ite_f, boolD_b, lt_ii, le_ii, gt_ii, ge_ii, add_ii, sub_ii, neg_i, part_i, seq_t, seq_l, tup2, tup0, lst0, lst1, lstS0, tup_l, tup_t, len_t, len_l, u2_p, isi_tt, isi_ii, isi_bi, isi_ss, Bool.not_true, Bool.not_false, Bool.and_true, Bool.true_and, Bool.or_false, Bool.false_or]
  rw [show eS p.2 = .tuple (eI p.2) from rfl]
  simp only [eI_len, if_true, if_false, B_P, L_s, run0_P, mNone_P, ite_and, ite_or, ite_and', ite_or', ite_t, ite_f, boolD_b, lt_ii, le_ii, gt_ii, ge_ii, add_ii, sub_ii, neg_i, part_i, seq_t, seq_l, tup2, tup0, lst0, lst1, lstS0, tup_l, tup_t, len_t, len_l, u2_p, isi_tt, isi_ii, isi_bi, isi_ss, Bool.not_true, Bool.not_false, Bool.and_true, Bool.true_and, Bool.or_false, Bool.false_or]
  rw [B_ap e1]
  simp only [int_i, if_true, if_false, B_P, L_s, run0_P, mNone_P, ite_and, ite_or, ite_and', ite_or', ite_t, ite_f, boolD_b, lt_ii, le_ii, gt_ii, ge_ii, add_ii, sub_ii, neg_i, part_i, seq_t, seq_l, tup2, tup0, lst0, lst1, lstS0, tup_l, tup_t, len_t, len_l, u2_p, isi_tt, isi_ii, isi_bi, isi_ss, Bool.not_true, Bool.not_false, Bool.and_true, Bool.true_and, Bool.or_false, Bool.false_or]
  generalize hs : p.2 = s at hv l1 l2 v1
  have et : PyData.tuple (eI s) = eS s := rfl
  have hn : ∀ n : Nat, (s.take n ++ s.drop n) = s := fun n => List.take_append_drop n s
  have hss : neB (.tuple (eI s)) (.tuple (eI s)) = some false := by rw [DL.neT]; simp
  -- what is asked behind the cut
  have tail0 : (B (L (m_strand_text [eS s])) fun x => B (L (m_read_strand [x])) fun x => B (L (neB x (.tuple (eI s)))) fun b1714 => B (if b1714 = true then P true else B (L (m_turned [eS s])) fun x => B (L (m_turned [x])) fun x => L (neB x (.tuple (eI s)))) fun b1715 => if b1715 = true then (P (.bool false) : M Pot D) else B (L (m_turned [eS s])) fun x => B (L (m_swing [x])) fun d1718 => B (L (isB d1718 .none)) fun b1721 => B (L (m_swing [eS s])) fun x => B (L (isB x .none)) fun b1725 => B (L (eqB (.bool b1721) (.bool b1725))) fun b1743 => if b1743 = true then B (L (isB d1718 .none)) fun b1741 => if b1741 = true then P (.bool true) else B (L (ixD d1718 (.int 0))) fun x1737 => B (L (m_swing [eS s])) fun x => B (L (ixD x (.int 0))) fun y => B (L (eqB x1737 y)) fun b => P (.bool b) else P (.bool false)) = P (.bool true) := by
    simp only [strand_text_e hv, read_strand_e hv, show neB (eS s) (.tuple (eI s)) = some false from hss, Bool.false_eq_true, turned_e hv, turned_e hv.rev, List.reverse_reverse, swing_e hv, swing_e hv.rev, isO, eq_bb, if_true, if_false, B_P, L_s, run0_P, mNone_P, ite_and, ite_or, ite_and', ite_or', ite_t, ite_f, boolD_b, lt_ii, le_ii, gt_ii, ge_ii, add_ii, sub_ii, neg_i, part_i, seq_t, seq_l, tup2, tup0, lst0, lst1, lstS0, tup_l, tup_t, len_t, len_l, u2_p, isi_tt, isi_ii, isi_bi, isi_ss, Bool.not_true, Bool.not_false, Bool.and_true, Bool.true_and, Bool.or_false, Bool.false_or]
    by_cases c : stp s = []
    · rw [swg_none c, swg_none ((stp_nil_rev s).mpr c)]
      simp only [Option.isNone_none, decide_true, if_true, if_false, B_P, L_s, run0_P, mNone_P, ite_and, ite_or, ite_and', ite_or', ite_t, ite_f, boolD_b, lt_ii, le_ii, gt_ii, ge_ii, add_ii, sub_ii, neg_i, part_i, seq_t, seq_l, tup2, tup0, lst0, lst1, lstS0, tup_l, tup_t, len_t, len_l, u2_p, isi_tt, isi_ii, isi_bi, isi_ss, Bool.not_true, Bool.not_false, Bool.and_true, Bool.true_and, Bool.or_false, Bool.false_or]
    · have c' : stp s.reverse ≠ [] := fun e => c ((stp_nil_rev s).mp e)
      rw [swg_some c, swg_some c']
      simp only [Option.isNone_some, decide_true, Bool.false_eq_true, if_true, if_false, B_P, L_s, run0_P, mNone_P, ite_and, ite_or, ite_and', ite_or', ite_t, ite_f, boolD_b, lt_ii, le_ii, gt_ii, ge_ii, add_ii, sub_ii, neg_i, part_i, seq_t, seq_l, tup2, tup0, lst0, lst1, lstS0, tup_l, tup_t, len_t, len_l, u2_p, isi_tt, isi_ii, isi_bi, isi_ss, Bool.not_true, Bool.not_false, Bool.and_true, Bool.true_and, Bool.or_false, Bool.false_or]
      rw [show ∀ a b, eO (some (a, b)) = .tuple [.int a, .int b] from fun _ _ => rfl, show ∀ a b, eO (some (a, b)) = .tuple [.int a, .int b] from fun _ _ => rfl]
      simp only [ix0, hi_stp_rev s c, eq_ii, decide_true, if_true, if_false, B_P, L_s, run0_P, mNone_P, ite_and, ite_or, ite_and', ite_or', ite_t, ite_f, boolD_b, lt_ii, le_ii, gt_ii, ge_ii, add_ii, sub_ii, neg_i, part_i, seq_t, seq_l, tup2, tup0, lst0, lst1, lstS0, tup_l, tup_t, len_t, len_l, u2_p, isi_tt, isi_ii, isi_bi, isi_ss, Bool.not_true, Bool.not_false, Bool.and_true, Bool.true_and, Bool.or_false, Bool.false_or]
  have tail : (B (L (m_strand_text [.tuple (eI s)])) fun x => B (L (m_read_strand [x])) fun x => B (L (neB x (.tuple (eI s)))) fun b1714 => B (if b1714 = true then P true else B (L (m_turned [.tuple (eI s)])) fun x => B (L (m_turned [x])) fun x => L (neB x (.tuple (eI s)))) fun b1715 => if b1715 = true then (P (.bool false) : M Pot D) else B (L (m_turned [.tuple (eI s)])) fun x => B (L (m_swing [x])) fun d1718 => B (L (isB d1718 .none)) fun b1721 => B (L (m_swing [.tuple (eI s)])) fun x => B (L (isB x .none)) fun b1725 => B (L (eqB (.bool b1721) (.bool b1725))) fun b1743 => if b1743 = true then B (L (isB d1718 .none)) fun b1741 => if b1741 = true then P (.bool true) else B (L (ixD d1718 (.int 0))) fun x1737 => B (L (m_swing [.tuple (eI s)])) fun x => B (L (ixD x (.int 0))) fun y => B (L (eqB x1737 y)) fun b => P (.bool b) else P (.bool false)) = P (.bool true) := tail0
  simp only [tail]
  have fin : (P (.bool true) : M Pot D) st' = some (.bool true, st') := P_ap _ _
  by_cases hv0 : 0 < v
  · simp only [decide_eq_true hv0, if_true, if_false, B_P, L_s, run0_P, mNone_P, ite_and, ite_or, ite_and', ite_or', ite_t, ite_f, boolD_b, lt_ii, le_ii, gt_ii, ge_ii, add_ii, sub_ii, neg_i, part_i, seq_t, seq_l, tup2, tup0, lst0, lst1, lstS0, tup_l, tup_t, len_t, len_l, u2_p, isi_tt, isi_ii, isi_bi, isi_ss, Bool.not_true, Bool.not_false, Bool.and_true, Bool.true_and, Bool.or_false, Bool.false_or]
    have hvn : v.toNat < s.length := by omega
    have vh : VS (s.take v.toNat) := hv.take (by omega)
    have vt : VS (s.drop v.toNat) := hv.drop hvn
    have c1 : m_cut [.tuple (eI s), .int 0, .int v] = some (eS (s.take v.toNat)) := by
      have := cut_e hv (a := 0) (b := v) (by decide) (by omega) hv0 (by omega)
      rw [show ((s.drop (0 : Int).toNat).take (v - 0).toNat) = s.take v.toNat by rw [show (0 : Int).toNat = 0 from rfl, List.drop_zero, show v - 0 = v by omega]] at this
      exact this
    have c2 : m_cut [.tuple (eI s), .int v, .int (s.length : Nat)] = some (eS (s.drop v.toNat)) := by
      have := cut_e hv (a := v) (b := s.length) v0 v1 (by omega) (Int.le_refl _)
      rw [show ((s.drop v.toNat).take ((s.length : Int) - v).toNat) = s.drop v.toNat by rw [show ((s.length : Int) - v).toNat = (s.drop v.toNat).length by rw [List.length_drop]; omega, List.take_length]] at this
      exact this
    have c3 : m_end_to_end [eS (s.take v.toNat), eS (s.drop v.toNat)] = some (.tuple (eI s)) := by
      rw [end_to_end_e vh vt (by rw [List.length_take, List.length_drop]; omega), hn]
      rfl
    have hlo : min (DL.lo (s.take v.toNat)) (DL.lo (s.drop v.toNat)) = DL.lo s := by
      have m1 := lo_mem vh.ne
      have m2 := lo_mem vt.ne
      have q1 := lo_le (List.mem_of_mem_take m1)
      have q2 := lo_le (List.mem_of_mem_drop m2)
      have m3 := lo_mem hv.ne
      rw [← hn v.toNat] at m3
      rcases List.mem_append.mp m3 with z | z
      · have := lo_le z
        rw [hn v.toNat] at this
        omega
      · have := lo_le z
        rw [hn v.toNat] at this
        omega
    have w0 : ∀ {s : Strand}, VS s → m_weakest [eS s] = some (.tuple [.int (DL.lo s), .int ((s.idxOf (DL.lo s) : Nat) : Int)]) := fun h => weakest_e h
    simp only [c1, c2, c3, hss, Bool.false_eq_true, show m_weakest [.tuple (eI s)] = _ from w0 hv, w0 vh, w0 vt, ix0, min2_e, hlo, ne_ii, decide_true, kF_nx, if_true, if_false, B_P, L_s, run0_P, mNone_P, ite_and, ite_or, ite_and', ite_or', ite_t, ite_f, boolD_b, lt_ii, le_ii, gt_ii, ge_ii, add_ii, sub_ii, neg_i, part_i, seq_t, seq_l, tup2, tup0, lst0, lst1, lstS0, tup_l, tup_t, len_t, len_l, u2_p, isi_tt, isi_ii, isi_bi, isi_ss, Bool.not_true, Bool.not_false, Bool.and_true, Bool.true_and, Bool.or_false, Bool.false_or]
    have hst : stp s ≠ [] := fun e => by
      have := congrArg List.length e
      rw [stp_len] at this
      simp at this
      omega
    have x1 : ab (s.getD v.toNat 0 - s.getD (v - 1).toNat 0) ∈ stp s := stp_mem.mpr ⟨(v - 1).toNat, by omega, by rw [show (v - 1).toNat + 1 = v.toNat by omega]⟩
    have x2 : ∀ z ∈ stp (s.take v.toNat), z ∈ stp s := fun z hz => by
      obtain ⟨i, hi, rfl⟩ := stp_mem.mp hz
      rw [List.length_take] at hi
      refine stp_mem.mpr ⟨i, by omega, ?_⟩
      rw [List.getD_eq_getElem?_getD, List.getD_eq_getElem?_getD, List.getElem?_take_of_lt (by omega), List.getElem?_take_of_lt (by omega), ← List.getD_eq_getElem?_getD, ← List.getD_eq_getElem?_getD]
    have x3 : ∀ z ∈ stp (s.drop v.toNat), z ∈ stp s := fun z hz => by
      obtain ⟨i, hi, rfl⟩ := stp_mem.mp hz
      rw [List.length_drop] at hi
      refine stp_mem.mpr ⟨v.toNat + i, by omega, ?_⟩
      rw [List.getD_eq_getElem?_getD, List.getD_eq_getElem?_getD, List.getElem?_drop, List.getElem?_drop, ← List.getD_eq_getElem?_getD, ← List.getD_eq_getElem?_getD]
      rfl
    simp only [show m_swing [.tuple (eI s)] = some (eO (swg s)) from swing_e hv, swing_e vh, swing_e vt, if_true, if_false, B_P, L_s, run0_P, mNone_P, ite_and, ite_or, ite_and', ite_or', ite_t, ite_f, boolD_b, lt_ii, le_ii, gt_ii, ge_ii, add_ii, sub_ii, neg_i, part_i, seq_t, seq_l, tup2, tup0, lst0, lst1, lstS0, tup_l, tup_t, len_t, len_l, u2_p, isi_tt, isi_ii, isi_bi, isi_ss, Bool.not_true, Bool.not_false, Bool.and_true, Bool.true_and, Bool.or_false, Bool.false_or]
    rw [swg_some hst, show ∀ a b, eO (some (a, b)) = .tuple [.int a, .int b] from fun _ _ => rfl]
    simp only [ix0, ixS v0 v1, ixS (s := s) (i := v - 1) (by omega) (by omega), abs_i, if_true, if_false, B_P, L_s, run0_P, mNone_P, ite_and, ite_or, ite_and', ite_or', ite_t, ite_f, boolD_b, lt_ii, le_ii, gt_ii, ge_ii, add_ii, sub_ii, neg_i, part_i, seq_t, seq_l, tup2, tup0, lst0, lst1, lstS0, tup_l, tup_t, len_t, len_l, u2_p, isi_tt, isi_ii, isi_bi, isi_ss, Bool.not_true, Bool.not_false, Bool.and_true, Bool.true_and, Bool.or_false, Bool.false_or]
    rw [show (if s.getD v.toNat 0 - s.getD (v - 1).toNat 0 < 0 then -(s.getD v.toNat 0 - s.getD (v - 1).toNat 0) else s.getD v.toNat 0 - s.getD (v - 1).toNat 0) = ab (s.getD v.toNat 0 - s.getD (v - 1).toNat 0) from rfl]
    rw [show ([eO (swg (s.take v.toNat)), eO (swg (s.drop v.toNat))] : List D) = [swg (s.take v.toNat), swg (s.drop v.toNat)].map eO from rfl]
    rw [cmp_filter (p := Option.isSome) (g := fun o => .int (o.getD (0, 0)).1) fun o _ => by
      simp only [isntO, if_true, if_false, B_P, L_s, run0_P, mNone_P, ite_and, ite_or, ite_and', ite_or', ite_t, ite_f, boolD_b, lt_ii, le_ii, gt_ii, ge_ii, add_ii, sub_ii, neg_i, part_i, seq_t, seq_l, tup2, tup0, lst0, lst1, lstS0, tup_l, tup_t, len_t, len_l, u2_p, isi_tt, isi_ii, isi_bi, isi_ss, Bool.not_true, Bool.not_false, Bool.and_true, Bool.true_and, Bool.or_false, Bool.false_or]
      cases o with
      | none => rfl
      | some q =>
        rw [show eO (some q) = .tuple [.int q.1, .int q.2] from rfl]
        simp only [ix0, if_true, if_false, B_P, L_s, run0_P, mNone_P, ite_and, ite_or, ite_and', ite_or', ite_t, ite_f, boolD_b, lt_ii, le_ii, gt_ii, ge_ii, add_ii, sub_ii, neg_i, part_i, seq_t, seq_l, tup2, tup0, lst0, lst1, lstS0, tup_l, tup_t, len_t, len_l, u2_p, isi_tt, isi_ii, isi_bi, isi_ss, Bool.not_true, Bool.not_false, Bool.and_true, Bool.true_and, Bool.or_false, Bool.false_or]
        rfl]
    rw [eI_map (fun o : Option (Int × Int) => (o.getD (0, 0)).1)]
    have hfl : (eI (([swg (s.take v.toNat), swg (s.drop v.toNat)].filter Option.isSome).map fun o => (o.getD (0, 0)).1)).length ≤ 2 := by
      rw [eI_len, List.length_map]
      exact List.length_filter_le _ _
    have hmx : ∀ z ∈ ab (s.getD v.toNat 0 - s.getD (v - 1).toNat 0) :: (([swg (s.take v.toNat), swg (s.drop v.toNat)].filter Option.isSome).map fun o => (o.getD (0, 0)).1), z ∈ stp s := fun z hz => by
      rcases List.mem_cons.mp hz with rfl | hz
      · exact x1
      · obtain ⟨o, ho, rfl⟩ := List.mem_map.mp hz
        obtain ⟨ho1, ho2⟩ := List.mem_filter.mp ho
        have key : ∀ r : Strand, (∀ z ∈ stp r, z ∈ stp s) → o = swg r → (o.getD (0, 0)).1 ∈ stp s := fun r hr e => by
          subst e
          by_cases c : stp r = []
          · rw [swg_none c] at ho2
            cases ho2
          · rw [swg_some c]
            exact hr _ (hi_mem c)
        rcases List.mem_cons.mp ho1 with e | ho1
        · exact key _ x2 e
        · exact key _ x3 (List.mem_singleton.mp ho1)
    simp only [lstD_le (show (eI (([swg (s.take v.toNat), swg (s.drop v.toNat)].filter Option.isSome).map fun o => (o.getD (0, 0)).1)).length ≤ 16777216 by omega), add_ll [PyData.int (ab (s.getD v.toNat 0 - s.getD (v - 1).toNat 0))] (eI (([swg (s.take v.toNat), swg (s.drop v.toNat)].filter Option.isSome).map fun o => (o.getD (0, 0)).1)) (by rw [List.length_singleton]; omega), if_true, if_false, B_P, L_s, run0_P, mNone_P, ite_and, ite_or, ite_and', ite_or', ite_t, ite_f, boolD_b, lt_ii, le_ii, gt_ii, ge_ii, add_ii, sub_ii, neg_i, part_i, seq_t, seq_l, tup2, tup0, lst0, lst1, lstS0, tup_l, tup_t, len_t, len_l, u2_p, isi_tt, isi_ii, isi_bi, isi_ss, Bool.not_true, Bool.not_false, Bool.and_true, Bool.true_and, Bool.or_false, Bool.false_or]
    rw [show ([PyData.int (ab (s.getD v.toNat 0 - s.getD (v - 1).toNat 0))] ++ eI (([swg (s.take v.toNat), swg (s.drop v.toNat)].filter Option.isSome).map fun o => (o.getD (0, 0)).1)) = eI (ab (s.getD v.toNat 0 - s.getD (v - 1).toNat 0) :: (([swg (s.take v.toNat), swg (s.drop v.toNat)].filter Option.isSome).map fun o => (o.getD (0, 0)).1)) from rfl]
    have hlt : ¬ DL.hi (stp s) < DL.hi (ab (s.getD v.toNat 0 - s.getD (v - 1).toNat 0) :: (([swg (s.take v.toNat), swg (s.drop v.toNat)].filter Option.isSome).map fun o => (o.getD (0, 0)).1)) := by
      have := le_hi (hmx _ (hi_mem (List.cons_ne_nil _ _)))
      omega
    simp only [max_seq (seq_l _) (List.cons_ne_nil _ _), decide_eq_false hlt, Bool.false_eq_true, kF_nx, if_true, if_false, B_P, L_s, run0_P, mNone_P, ite_and, ite_or, ite_and', ite_or', ite_t, ite_f, boolD_b, lt_ii, le_ii, gt_ii, ge_ii, add_ii, sub_ii, neg_i, part_i, seq_t, seq_l, tup2, tup0, lst0, lst1, lstS0, tup_l, tup_t, len_t, len_l, u2_p, isi_tt, isi_ii, isi_bi, isi_ss, Bool.not_true, Bool.not_false, Bool.and_true, Bool.true_and, Bool.or_false, Bool.false_or]
    exact fin
  · simp only [decide_eq_false hv0, Bool.false_eq_true, kF_nx, if_true, if_false, B_P, L_s, run0_P, mNone_P, ite_and, ite_or, ite_and', ite_or', ite_t, ite_f, boolD_b, lt_ii, le_ii, gt_ii, ge_ii, add_ii, sub_ii, neg_i, part_i, seq_t, seq_l, tup2, tup0, lst0, lst1, lstS0, tup_l, tup_t, len_t, len_l, u2_p, isi_tt, isi_ii, isi_bi, isi_ss, Bool.not_true, Bool.not_false, Bool.and_true, Bool.true_and, Bool.or_false, Bool.false_or]
    exact fin
end K20

set_option Elab.async false
set_option linter.all false
set_option maxRecDepth 100000
set_option maxHeartbeats 4000000
namespace K20
open PySem PySem.Spec PyProof.Rows L2 DL
def ltn (m : Int) (t : Thread) : LT := t.map fun p => (p.1, p.2.map (lz m))
def cov (y : Int) (x : Int × Strand) : Bool := decide (x.1 ≤ y) && decide (y < x.1 + x.2.length)
theorem atY_cov (t : Thread) (y : Int) : atY t y = ((t.filter (cov y)).map fun x => val x.2 (y - x.1)).sum := by
  unfold atY
  induction t with
  | nil => rfl
  | cons p t ih =>
    by_cases c : cov y p = true
    · rw [List.filter_cons_of_pos c, List.map_cons, List.sum_cons, List.map_cons, List.sum_cons, ih]
    · rw [List.filter_cons_of_neg c, List.map_cons, List.sum_cons, ih]
      have : val p.2 (y - p.1) = 0 := by
        refine val_zero fun q => c ?_
        unfold cov
        simp only [Bool.and_eq_true, decide_eq_true_eq]
        omega
      omega
theorem here_ltn (m y : Int) (t : Thread) : here (ltn m t) y = (t.filter (cov y)).map fun x => lz m (val x.2 (y - x.1)) := by
  unfold here ltn
  rw [List.filter_map, List.map_map]
  have e : (t.filter ((fun x : Int × Bnds => decide (x.1 ≤ y) && decide (y < x.1 + x.2.length)) ∘ fun p : Int × Strand => (p.1, p.2.map (lz m)))) = t.filter (cov y) := List.filter_congr fun p _ => by
    show (decide (p.1 ≤ y) && decide (y < p.1 + ((p.2.map (lz m)).length : Int))) = _
    rw [List.length_map]
    rfl
  rw [e]
  refine List.map_congr_left fun x hx => ?_
  have hc := (List.mem_filter.mp hx).2
  unfold cov at hc
  simp only [Bool.and_eq_true, decide_eq_true_eq] at hc
  show (x.2.map (lz m)).getD (y - x.1).toNat (0, 0) = lz m (val x.2 (y - x.1))
  unfold val
  have hl : (y - x.1).toNat < x.2.length := by omega
  rw [if_pos (by omega), List.getD_eq_getElem?_getD, List.getElem?_map, List.getD_eq_getElem?_getD, List.getElem?_eq_getElem hl]
  rfl
def blo (m : Int) (t : Thread) (y : Int) : Int := ((here (ltn m t) y).map fun p => p.1).sum
def bhi (m : Int) (t : Thread) (y : Int) : Int := ((here (ltn m t) y).map fun p => p.2).sum
theorem bof_ltn (m : Int) (t : Thread) : bof (ltn m t) = (yards (fst t) (lst t)).map fun y => (blo m t y, bhi m t y) := by
  unfold bof
  have e1 : ((ltn m t).map fun p => p.1) = t.map fun p => p.1 := by unfold ltn; rw [List.map_map]; rfl
  have e2 : ((ltn m t).map fun p => p.1 + (p.2.length : Int)) = t.map fun p => p.1 + (p.2.length : Int) := by
    unfold ltn
    rw [List.map_map]
    refine List.map_congr_left fun p _ => ?_
    show p.1 + ((p.2.map (lz m)).length : Int) = _
    rw [List.length_map]
  rw [e1, e2]
  rfl
theorem bnd {t : Thread} (h : ∀ p ∈ t, VS p.2) (hl : t.length ≤ 8) {m : Int} (h0 : 0 ≤ m) (y : Int) : 0 ≤ blo m t y ∧ blo m t y ≤ atY t y ∧ atY t y ≤ bhi m t y ∧ bhi m t y ≤ 800 := by
  rw [atY_cov]
  unfold blo bhi
  rw [here_ltn, List.map_map, List.map_map]
  have hc : ∀ x ∈ t.filter (cov y), VS x.2 := fun x hx => h x (List.mem_filter.mp hx).1
  have hl2 : (t.filter (cov y)).length ≤ 8 := Nat.le_trans (List.length_filter_le _ _) hl
  have key : ∀ c : Thread, (∀ x ∈ c, VS x.2) → 0 ≤ (c.map ((fun p => p.1) ∘ fun x : Int × Strand => lz m (val x.2 (y - x.1)))).sum ∧ (c.map ((fun p => p.1) ∘ fun x : Int × Strand => lz m (val x.2 (y - x.1)))).sum ≤ (c.map fun x => val x.2 (y - x.1)).sum ∧
      (c.map fun x => val x.2 (y - x.1)).sum ≤ (c.map ((fun p => p.2) ∘ fun x : Int × Strand => lz m (val x.2 (y - x.1)))).sum ∧ (c.map ((fun p => p.2) ∘ fun x : Int × Strand => lz m (val x.2 (y - x.1)))).sum ≤ 100 * c.length := by
    intro c hc
    induction c with
    | nil => simp
    | cons p c ih =>
      have ih := ih fun x hx => hc x (by simp [hx])
      have hv := val_bd (hc p (by simp)) (y - p.1)
      have a1 : ((fun p : Int × Int => p.1) ∘ fun x : Int × Strand => lz m (val x.2 (y - x.1))) p = max 0 (val p.2 (y - p.1) - m) := rfl
      have a2 : ((fun p : Int × Int => p.2) ∘ fun x : Int × Strand => lz m (val x.2 (y - x.1))) p = min 100 (val p.2 (y - p.1) + m) := rfl
      simp only [List.map_cons, List.sum_cons, List.length_cons, a1, a2]
      omega
  have := key _ hc
  omega
theorem bnd0 {t : Thread} (h : ∀ p ∈ t, VS p.2) (y : Int) : blo 0 t y = atY t y ∧ bhi 0 t y = atY t y := by
  rw [atY_cov]
  unfold blo bhi
  rw [here_ltn, List.map_map, List.map_map]
  constructor <;> congr 1 <;> refine List.map_congr_left fun x hx => ?_
  · have := val_bd (h x (List.mem_filter.mp hx).1) (y - x.1)
    show max 0 (val x.2 (y - x.1) - 0) = _
    omega
  · have := val_bd (h x (List.mem_filter.mp hx).1) (y - x.1)
    show min 100 (val x.2 (y - x.1) + 0) = _
    omega
theorem vlt {t : Thread} (h : VT t) {m : Int} (h0 : 0 ≤ m) : VLT (ltn m t) := by
  refine ⟨by unfold ltn; rw [List.length_map]; exact h.l1, by unfold ltn; rw [List.length_map]; exact h.l2, fun p hp => ?_⟩
  obtain ⟨q, hq, rfl⟩ := List.mem_map.mp hp
  obtain ⟨a1, a2, a3⟩ := h.at_ q hq
  exact ⟨a1, a2, VL.lz a3 h0⟩
theorem vlb {t : Thread} (h : VT t) {m : Int} (h0 : 0 ≤ m) : VL 1000 260 (bof (ltn m t)) := by
  have l0 := h.lst0
  have f0 := h.fst0
  rw [bof_ltn]
  refine ⟨by rw [List.length_map, yards_len]; omega, by rw [List.length_map, yards_len]; omega, fun p hp => ?_⟩
  obtain ⟨y, _, rfl⟩ := List.mem_map.mp hp
  have := bnd (fun p hp => (h.at_ p hp).2.2) h.l2 h0 y
  show 0 ≤ blo m t y ∧ blo m t y ≤ bhi m t y ∧ bhi m t y ≤ 1000
  omega
theorem loosen_all {t : Thread} (h : VT t) {m : Int} (h0 : 0 ≤ m) (h1 : m ≤ 100) {g : D → M Pot (Option D)} (hg : ∀ p ∈ t, g (eE p) = P (some (eLE (p.1, p.2.map (lz m))))) : cmp (t.map eE) g = P ((ltn m t).map eLE) := by
  rw [cmp_map (g := fun p : Int × Strand => eLE (p.1, p.2.map (lz m))) hg]
  unfold ltn
  rw [List.map_map]
  rfl
theorem bads_nil {t : Thread} {b : Band} : bads t b = [] ↔ ∀ y, fst t ≤ y → y < lst t → okb b (atY t y) = true := by
  unfold bads
  rw [List.filter_eq_nil_iff]
  constructor
  · intro h y h1 h2
    have := h y (yards_mem.mpr ⟨h1, h2⟩)
    simpa using this
  · intro h y hy
    have hy := yards_mem.mp hy
    rw [h y hy.1 hy.2]
    simp
theorem loose_e {k : Int} {st : Pot} {p : Int × Strand} {r : Thread} {b : Band} (hp : PI k st) (hk : k ≤ 1000000) (h : VT (p :: r)) (hb : VB b) : ∃ st', m__law_are_loose_right [eT (p :: r), .tuple (eI (row (p :: r))), eP b] st = some (.bool true, st') ∧ PI (k + 1) st' := by
  obtain ⟨m, st', e1, m0, m1, p1⟩ := take_e hp hk (n := 20) (by decide) (by decide)
  refine ⟨st', ?_, p1⟩
  show b__law_are_loose_right _ _ _ st = _
  unfold b__law_are_loose_right
  have ei : ixD (eT (p :: r)) (.int 0) = some (.tuple [.int p.1, eS p.2]) := (ix_nat (xs := (p :: r).map eE) (i := 0) (by decide) (by simp) rfl).1
  have hv : VS p.2 := (h.at_ p (by simp)).2.2
  simp only [B_B, ei, ix1, if_true, if_false, B_P, L_s, run0_P, mNone_P, ite_and, ite_or, ite_and', ite_or', ite_t, ite_f, boolD_b, lt_ii, le_ii, gt_ii, ge_ii, add_ii, sub_ii, neg_i, part_i, seq_t, seq_l, tup2, tup0, lst0, lst1, lstS0, tup_l, tup_t, len_t, len_l, u2_p, isi_tt, isi_ii, isi_bi, isi_ss, Bool.not_true, Bool.not_false, Bool.and_true, Bool.true_and, Bool.or_false, Bool.false_or]
  rw [B_ap e1]
  simp only [int_i, if_true, if_false, B_P, L_s, run0_P, mNone_P, ite_and, ite_or, ite_and', ite_or', ite_t, ite_f, boolD_b, lt_ii, le_ii, gt_ii, ge_ii, add_ii, sub_ii, neg_i, part_i, seq_t, seq_l, tup2, tup0, lst0, lst1, lstS0, tup_l, tup_t, len_t, len_l, u2_p, isi_tt, isi_ii, isi_bi, isi_ss, Bool.not_true, Bool.not_false, Bool.and_true, Bool.true_and, Bool.or_false, Bool.false_or]
  generalize ht : (p :: r) = t at h
  have fin : (P (.bool true) : M Pot D) st' = some (.bool true, st') := P_ap _ _
  have hvs : ∀ q ∈ t, VS q.2 := fun q hq => (h.at_ q hq).2.2
  have hl2 := h.l2
  have l0 := h.lst0
  have f0 := h.fst0
  have ylen : (yards (fst t) (lst t)).length ≤ 1000 := by rw [yards_len]; omega
  simp only [show seqD (eT t) = some (t.map eE) from rfl, if_true, if_false, B_P, L_s, run0_P, mNone_P, ite_and, ite_or, ite_and', ite_or', ite_t, ite_f, boolD_b, lt_ii, le_ii, gt_ii, ge_ii, add_ii, sub_ii, neg_i, part_i, seq_t, seq_l, tup2, tup0, lst0, lst1, lstS0, tup_l, tup_t, len_t, len_l, u2_p, isi_tt, isi_ii, isi_bi, isi_ss, Bool.not_true, Bool.not_false, Bool.and_true, Bool.true_and, Bool.or_false, Bool.false_or]
  rw [loosen_all h m0 (by omega) fun q hq => by
    unfold eE
    simp only [loosened_e (hvs q hq) m0 (by omega), if_true, if_false, B_P, L_s, run0_P, mNone_P, ite_and, ite_or, ite_and', ite_or', ite_t, ite_f, boolD_b, lt_ii, le_ii, gt_ii, ge_ii, add_ii, sub_ii, neg_i, part_i, seq_t, seq_l, tup2, tup0, lst0, lst1, lstS0, tup_l, tup_t, len_t, len_l, u2_p, isi_tt, isi_ii, isi_bi, isi_ss, Bool.not_true, Bool.not_false, Bool.and_true, Bool.true_and, Bool.or_false, Bool.false_or]
    rfl]
  rw [loosen_all h (m := 0) (by decide) (by decide) fun q hq => by
    unfold eE
    simp only [loosened_e (hvs q hq) (m := 0) (by decide) (by decide), if_true, if_false, B_P, L_s, run0_P, mNone_P, ite_and, ite_or, ite_and', ite_or', ite_t, ite_f, boolD_b, lt_ii, le_ii, gt_ii, ge_ii, add_ii, sub_ii, neg_i, part_i, seq_t, seq_l, tup2, tup0, lst0, lst1, lstS0, tup_l, tup_t, len_t, len_l, u2_p, isi_tt, isi_ii, isi_bi, isi_ss, Bool.not_true, Bool.not_false, Bool.and_true, Bool.true_and, Bool.or_false, Bool.false_or]
    rfl]
  have ll : ∀ m, ((ltn m t).map eLE).length ≤ 16777216 := fun m => by unfold ltn; rw [List.length_map, List.length_map]; omega
  have ez : pairs2 (eI (row t)) ((bof (ltn m t)).map eP) = (yards (fst t) (lst t)).map fun y => .tuple [.int (atY t y), eP (blo m t y, bhi m t y)] := by
    rw [show eI (row t) = (row t).map PyData.int from rfl, pairs2_map, bof_ltn]
    unfold row
    rw [List.zip_map', List.map_map]
    rfl
  simp only [lstD_le (ll m), lstD_le (ll 0), show m_bounds_of [.tuple ((ltn m t).map eLE)] = some (eB (bof (ltn m t))) from bounds_of_e (vlt h m0), show m_bounds_of [.tuple ((ltn 0 t).map eLE)] = some (eB (bof (ltn 0 t))) from bounds_of_e (vlt h (by decide)), if_true, if_false, B_P, L_s, run0_P, mNone_P, ite_and, ite_or, ite_and', ite_or', ite_t, ite_f, boolD_b, lt_ii, le_ii, gt_ii, ge_ii, add_ii, sub_ii, neg_i, part_i, seq_t, seq_l, tup2, tup0, lst0, lst1, lstS0, tup_l, tup_t, len_t, len_l, u2_p, isi_tt, isi_ii, isi_bi, isi_ss, Bool.not_true, Bool.not_false, Bool.and_true, Bool.true_and, Bool.or_false, Bool.false_or]
  simp only [show zipL [.tuple (eI (row t)), eB (bof (ltn m t))] = some (pairs2 (eI (row t)) ((bof (ltn m t)).map eP)) from rfl, ez, if_true, if_false, B_P, L_s, run0_P, mNone_P, ite_and, ite_or, ite_and', ite_or', ite_t, ite_f, boolD_b, lt_ii, le_ii, gt_ii, ge_ii, add_ii, sub_ii, neg_i, part_i, seq_t, seq_l, tup2, tup0, lst0, lst1, lstS0, tup_l, tup_t, len_t, len_l, u2_p, isi_tt, isi_ii, isi_bi, isi_ss, Bool.not_true, Bool.not_false, Bool.and_true, Bool.true_and, Bool.or_false, Bool.false_or]
  rw [cmp_map (g := fun y => .bool (decide (blo m t y ≤ atY t y) && decide (atY t y ≤ bhi m t y))) fun y _ => by
    unfold eP
    simp only [if_true, if_false, B_P, L_s, run0_P, mNone_P, ite_and, ite_or, ite_and', ite_or', ite_t, ite_f, boolD_b, lt_ii, le_ii, gt_ii, ge_ii, add_ii, sub_ii, neg_i, part_i, seq_t, seq_l, tup2, tup0, lst0, lst1, lstS0, tup_l, tup_t, len_t, len_l, u2_p, isi_tt, isi_ii, isi_bi, isi_ss, Bool.not_true, Bool.not_false, Bool.and_true, Bool.true_and, Bool.or_false, Bool.false_or]]
  have ea : ((yards (fst t) (lst t)).all fun y => decide (blo m t y ≤ atY t y) && decide (atY t y ≤ bhi m t y)) = true := List.all_eq_true.mpr fun y _ => by
    have := bnd hvs hl2 m0 y
    simp
    omega
  simp only [lstD_le (show ((yards (fst t) (lst t)).map fun y => PyData.bool (decide (blo m t y ≤ atY t y) && decide (atY t y ≤ bhi m t y))).length ≤ 16777216 by rw [List.length_map]; omega), all_bools, ea, Bool.false_eq_true, even_e (vlb h m0) hb, eq_ss, is_even_e h hb, if_true, if_false, B_P, L_s, run0_P, mNone_P, ite_and, ite_or, ite_and', ite_or', ite_t, ite_f, boolD_b, lt_ii, le_ii, gt_ii, ge_ii, add_ii, sub_ii, neg_i, part_i, seq_t, seq_l, tup2, tup0, lst0, lst1, lstS0, tup_l, tup_t, len_t, len_l, u2_p, isi_tt, isi_ii, isi_bi, isi_ss, Bool.not_true, Bool.not_false, Bool.and_true, Bool.true_and, Bool.or_false, Bool.false_or]
  -- the words
  have hA : vrd (bof (ltn m t)) b = "sure" → bads t b = [] := fun e => by
    refine bads_nil.mpr fun y h1 h2 => ?_
    unfold vrd at e
    split at e
    · exact absurd e (by decide)
    · split at e
      · rename_i c
        have := List.all_eq_true.mp c (blo m t y, bhi m t y) (by rw [bof_ltn]; exact List.mem_map_of_mem (yards_mem.mpr ⟨h1, h2⟩))
        simp only [Bool.and_eq_true, decide_eq_true_eq] at this
        have k := bnd hvs hl2 m0 y
        unfold okb
        simp
        omega
      · exact absurd e (by decide)
  have hN : vrd (bof (ltn m t)) b = "never" → bads t b ≠ [] := fun e z => by
    unfold vrd at e
    split at e
    · rename_i c
      obtain ⟨q, hq, hc⟩ := List.any_eq_true.mp c
      rw [bof_ltn] at hq
      obtain ⟨y, hy, rfl⟩ := List.mem_map.mp hq
      have hy := yards_mem.mp hy
      have k := bnd hvs hl2 m0 y
      have o := bads_nil.mp z y hy.1 hy.2
      unfold okb at o
      simp only [Bool.and_eq_true, Bool.or_eq_true, decide_eq_true_eq] at o hc
      omega
    · split at e
      · exact absurd e (by decide)
      · exact absurd e (by decide)
  have eb0 : bof (ltn 0 t) = (row t).map fun v => (v, v) := by
    rw [bof_ltn]
    unfold row
    rw [List.map_map]
    refine List.map_congr_left fun y _ => ?_
    have := bnd0 hvs y
    show (blo 0 t y, bhi 0 t y) = (atY t y, atY t y)
    rw [this.1, this.2]
  have ev0 : vrd (bof (ltn 0 t)) b = if decide (bads t b = []) = true then ("sure" : Str) else ("never" : Str) := by
    rw [eb0]
    unfold vrd
    rw [List.any_map, List.all_map]
    by_cases c : bads t b = []
    · have hb1 : ∀ v ∈ row t, b.1 ≤ v ∧ v ≤ b.2 := fun v hv => by
        obtain ⟨y, hy, rfl⟩ := List.mem_map.mp hv
        have hy := yards_mem.mp hy
        have := bads_nil.mp c y hy.1 hy.2
        unfold okb at this
        simpa using this
      have z1 : ((row t).any ((fun p : Int × Int => decide (p.2 < b.1) || decide (b.2 < p.1)) ∘ fun v => (v, v))) = false := by
        rw [List.any_eq_false]
        intro v hv hc
        have hc : (decide (v < b.1) || decide (b.2 < v)) = true := hc
        have := hb1 v hv
        simp only [Bool.or_eq_true, decide_eq_true_eq] at hc
        omega
      have z2 : ((row t).all ((fun p : Int × Int => decide (b.1 ≤ p.1) && decide (p.2 ≤ b.2)) ∘ fun v => (v, v))) = true := List.all_eq_true.mpr fun v hv => by
        have := hb1 v hv
        show (decide (b.1 ≤ v) && decide (v ≤ b.2)) = true
        simp
        omega
      rw [if_neg (by rw [z1]; simp), if_pos z2, if_pos (decide_eq_true c)]
    · have z1 : ((row t).any ((fun p : Int × Int => decide (p.2 < b.1) || decide (b.2 < p.1)) ∘ fun v => (v, v))) = true := by
        by_cases z : ((row t).any ((fun q : Int × Int => decide (q.2 < b.1) || decide (b.2 < q.1)) ∘ fun v => (v, v))) = true
        · exact z
        · refine absurd (bads_nil.mpr fun y h1 h2 => ?_) c
          rw [Bool.not_eq_true, List.any_eq_false] at z
          have := z (atY t y) (List.mem_map_of_mem (yards_mem.mpr ⟨h1, h2⟩))
          have this : ¬ (decide (atY t y < b.1) || decide (b.2 < atY t y)) = true := this
          simp only [Bool.or_eq_true, decide_eq_true_eq] at this
          unfold okb
          simp
          omega
      rw [if_pos z1, if_neg (show ¬ (decide (bads t b = []) = true) by rw [decide_eq_false c]; simp)]
  have e2 : (decide (vrd (bof (ltn m t)) b = "sure") && !decide (bads t b = []) || decide (vrd (bof (ltn m t)) b = "never") && decide (bads t b = [])) = false := by
    by_cases c1 : vrd (bof (ltn m t)) b = "sure"
    · rw [decide_eq_true c1, decide_eq_true (hA c1), decide_eq_false (show ¬ vrd (bof (ltn m t)) b = "never" by rw [c1]; decide)]
      rfl
    · rw [decide_eq_false c1]
      by_cases c2 : vrd (bof (ltn m t)) b = "never"
      · rw [decide_eq_true c2, decide_eq_false (hN c2)]
        rfl
      · rw [decide_eq_false c2]
        rfl
  rw [e2]
  simp only [Bool.false_eq_true, if_true, if_false, B_P, L_s, run0_P, mNone_P, ite_and, ite_or, ite_and', ite_or', ite_t, ite_f, boolD_b, lt_ii, le_ii, gt_ii, ge_ii, add_ii, sub_ii, neg_i, part_i, seq_t, seq_l, tup2, tup0, lst0, lst1, lstS0, tup_l, tup_t, len_t, len_l, u2_p, isi_tt, isi_ii, isi_bi, isi_ss, Bool.not_true, Bool.not_false, Bool.and_true, Bool.true_and, Bool.or_false, Bool.false_or]
  rw [cmp_ints (g := fun v => eP (v, v)) fun v _ => rfl]
  have rlen : (row t).length ≤ 1000 := by rw [row_len]; omega
  have e3 : ((row t).map fun v => eP (v, v)) = ((row t).map fun v : Int => (v, v)).map eP := by rw [List.map_map]; rfl
  have e4 : neB (eB (bof (ltn 0 t))) (.tuple (((row t).map fun v : Int => (v, v)).map eP)) = some false := by
    unfold eB
    rw [neBs, eb0]
    simp
  have e5 : ((bof (ltn 0 t)).map fun p => p.1) = row t ∧ ((bof (ltn 0 t)).map fun p => p.2) = row t := by
    rw [eb0, List.map_map, List.map_map]
    exact ⟨List.map_id _, List.map_id _⟩
  rw [e3]
  simp only [lstD_le (show (((row t).map fun v : Int => (v, v)).map eP).length ≤ 16777216 by rw [List.length_map, List.length_map]; omega), e4, Bool.false_eq_true, borne_e (vlb h (m := 0) (by decide)), e5.1, e5.2, min_seq (seq_t _) (row_ne h), show ∀ a b c d, neB (eP (a, b)) (.tuple [.int c, .int d]) = some (!decide (a = c ∧ b = d)) from DL.neP, and_self, decide_true, even_e (vlb h (m := 0) (by decide)) hb, ev0, if_true, if_false, B_P, L_s, run0_P, mNone_P, ite_and, ite_or, ite_and', ite_or', ite_t, ite_f, boolD_b, lt_ii, le_ii, gt_ii, ge_ii, add_ii, sub_ii, neg_i, part_i, seq_t, seq_l, tup2, tup0, lst0, lst1, lstS0, tup_l, tup_t, len_t, len_l, u2_p, isi_tt, isi_ii, isi_bi, isi_ss, Bool.not_true, Bool.not_false, Bool.and_true, Bool.true_and, Bool.or_false, Bool.false_or]
  have e6 : ∀ E : Bool, (B (if E = true then P (.str ("sure" : Str)) else P (.str ("never" : Str))) fun x => L (neB (.str (if E = true then ("sure" : Str) else ("never" : Str))) x)) = (P false : M Pot Bool) := fun E => by
    have k : ∀ z : Str, neB (.str z) (.str z) = some false := fun z => by
      have := ne_dat z z (by decide)
      rw [decide_eq_true rfl] at this
      exact this
    cases E
    · rw [if_neg (by simp), if_neg (by simp), B_P, k, L_s]
    · rw [if_pos rfl, if_pos rfl, B_P, k, L_s]
  rw [e6]
  simp only [Bool.false_eq_true, min2_e, loosened_e hv m0 (show m ≤ 100 by omega), loosened_e hv (m := min 100 (m + 3)) (by omega) (by omega), if_true, if_false, B_P, L_s, run0_P, mNone_P, ite_and, ite_or, ite_and', ite_or', ite_t, ite_f, boolD_b, lt_ii, le_ii, gt_ii, ge_ii, add_ii, sub_ii, neg_i, part_i, seq_t, seq_l, tup2, tup0, lst0, lst1, lstS0, tup_l, tup_t, len_t, len_l, u2_p, isi_tt, isi_ii, isi_bi, isi_ss, Bool.not_true, Bool.not_false, Bool.and_true, Bool.true_and, Bool.or_false, Bool.false_or]
  have vl1 := VL.lz hv (m := min 100 (m + 3)) (by omega)
  have vl2 := VL.lz hv m0
  have e7 : ((p.2.zip (p.2.map (lz (min 100 (m + 3))))).all fun q => decide (q.2.1 ≤ q.1) && decide (q.1 ≤ q.2.2)) = true := List.all_eq_true.mpr fun q hq => by
    rw [show p.2.zip (p.2.map (lz (min 100 (m + 3)))) = p.2.map fun v => (v, lz (min 100 (m + 3)) v) by
      have := List.zip_map' (f := (id : Int → Int)) (g := lz (min 100 (m + 3))) (l := p.2)
      rw [List.map_id] at this
      exact this] at hq
    obtain ⟨v, hv', rfl⟩ := List.mem_map.mp hq
    have := hv.at_ v hv'
    unfold lz
    simp
    omega
  have e8 : bth (p.2.map (lz (min 100 (m + 3)))) (p.2.map (lz m)) = p.2.map (lz m) := by
    unfold bth
    rw [List.zip_map', List.map_map]
    refine List.map_congr_left fun v _ => ?_
    show (max (max 0 (v - min 100 (m + 3))) (max 0 (v - m)), min (min 100 (v + min 100 (m + 3))) (min 100 (v + m))) = (max 0 (v - m), min 100 (v + m))
    refine Prod.ext ?_ ?_
    · show max (max 0 (v - min 100 (m + 3))) (max 0 (v - m)) = max 0 (v - m)
      omega
    · show min (min 100 (v + min 100 (m + 3))) (min 100 (v + m)) = min 100 (v + m)
      omega
  have e9 : ((p.2.map (lz m)).all fun q => decide (q.1 ≤ q.2)) = true := List.all_eq_true.mpr fun q hq => decide_eq_true (vl2.at_ q hq).2.1
  simp only [may_be_e vl1 hv (by rw [List.length_map]), e7, show isB (.bool true) (.bool true) = some true from rfl, both_e vl1 vl2 (by rw [List.length_map, List.length_map]), e8, e9, show eqB (eB (p.2.map (lz m))) (eB (p.2.map (lz m))) = some (decide (p.2.map (lz m) = p.2.map (lz m))) from eqBs _ _, decide_true, if_true, if_false, B_P, L_s, run0_P, mNone_P, ite_and, ite_or, ite_and', ite_or', ite_t, ite_f, boolD_b, lt_ii, le_ii, gt_ii, ge_ii, add_ii, sub_ii, neg_i, part_i, seq_t, seq_l, tup2, tup0, lst0, lst1, lstS0, tup_l, tup_t, len_t, len_l, u2_p, isi_tt, isi_ii, isi_bi, isi_ss, Bool.not_true, Bool.not_false, Bool.and_true, Bool.true_and, Bool.or_false, Bool.false_or]
  exact fin
end K20

set_option Elab.async false
set_option linter.all false
set_option maxRecDepth 100000
set_option maxHeartbeats 4000000
namespace K20
open PySem PySem.Spec PyProof.Rows L2 DL
open PySem.W (Datum Tup DatumOrd)
theorem neTT (a b : Thread) : neB (eT a) (eT b) = some (!decide (a = b)) := by
  have e : ∀ a : Thread, eT a = Datum.toD (Tup.mk (a.map fun p => (p.1, Tup.mk p.2)) : Tup (Int × Tup Int)) := fun a => by
    show PyData.tuple _ = PyData.tuple _
    rw [List.map_map]
    rfl
  rw [e, e, ne_dat _ _ (by decide)]
  congr 2
  rw [Bool.eq_iff_iff, decide_eq_true_eq, decide_eq_true_eq]
  constructor
  · intro h
    have h := congrArg Tup.items h
    have h2 := congrArg (List.map fun q : Int × Tup Int => ((q.1, q.2.items) : Int × Strand)) h
    rw [List.map_map, List.map_map] at h2
    have e1 : ((fun q : Int × Tup Int => ((q.1, q.2.items) : Int × Strand)) ∘ fun p : Int × Strand => (p.1, Tup.mk p.2)) = id := rfl
    rw [e1, List.map_id, List.map_id] at h2
    exact h2
  · intro h
    rw [h]
theorem any_ints (xs : List Int) : anyD [.tuple (eI xs)] = some (.bool (xs.any fun x => decide (x ≠ 0))) := by
  show biD (fun ds => ds.any PyData.truthy) (eI xs) = _
  unfold biD
  rw [if_pos (by unfold eI; rw [List.all_map]; exact List.all_eq_true.mpr fun _ _ => rfl)]
  show some (PyData.bool ((xs.map PyData.int).any PyData.truthy)) = _
  rw [List.any_map]
  have e : (PyData.truthy ∘ PyData.int) = fun x : Int => decide (x ≠ 0) := by
    funext x
    show PyData.truthy (.int x) = _
    rw [decide_not]
    show (x != 0) = _
    by_cases c : x = 0 <;> simp [c]
  rw [e]
theorem yards_cut {ι : Type} {f l a b : Int} (g : Int → ι) (h0 : f ≤ a) (h1 : a ≤ b) (h2 : b ≤ l) : cutL ((yards f l).map g) (some (a - f)) (some (b - f)) = (yards a b).map g := by
  rw [cut_both _ (by omega) (by omega) (by rw [List.length_map, yards_len]; omega)]
  apply List.ext_getElem?
  intro i
  by_cases c : i < (b - a).toNat
  · rw [List.getElem?_take_of_lt (by omega), List.getElem?_drop, List.getElem?_map, yards_get (by omega), List.getElem?_map, yards_get c]
    show some (g (f + (((a - f).toNat + i : Nat) : Int))) = some (g (a + (i : Int)))
    rw [show f + (((a - f).toNat + i : Nat) : Int) = a + (i : Int) by omega]
  · rw [List.getElem?_eq_none (by rw [List.length_take]; omega), List.getElem?_eq_none (by rw [List.length_map, yards_len]; omega)]
theorem sorted_first {xs : List Int} {m : Int} (hs : xs.Pairwise (· < ·)) (hm : m ∈ xs) (h : ∀ z ∈ xs, m ≤ z) : ixD (.list (eI xs)) (.int 0) = some (.int m) := by
  cases xs with
  | nil => cases hm
  | cons x r =>
    have e : x = m := by
      rcases List.mem_cons.mp hm with e | hm
      · exact e.symm
      · have := (List.pairwise_cons.mp hs).1 m hm
        have := h x List.mem_cons_self
        omega
    subst e
    exact (ix_nat (xs := eI (x :: r)) (i := 0) (by decide) (by rw [eI_len]; simp) rfl).2
theorem sorted_last {xs : List Int} {m : Int} (hs : xs.Pairwise (· < ·)) (hm : m ∈ xs) (h : ∀ z ∈ xs, z ≤ m) : ixD (.list (eI xs)) (.int (-1)) = some (.int m) := by
  obtain ⟨i, hi, e⟩ := List.mem_iff_getElem.mp hm
  have hl : i = xs.length - 1 := by
    by_cases c : i = xs.length - 1
    · exact c
    · have hj : xs.length - 1 < xs.length := by omega
      have := List.pairwise_iff_getElem.mp hs i (xs.length - 1) hi hj (by omega)
      have := h _ (List.getElem_mem hj)
      omega
  show atI (eI xs) (-1) = _
  unfold atI ixN
  rw [if_neg (by decide), if_pos (by rw [eI_len]; omega)]
  show (eI xs)[(-1 + ((eI xs).length : Int)).toNat]? = _
  rw [eI_len, show (-1 + (xs.length : Int)).toNat = i by omega]
  unfold eI
  rw [List.getElem?_map, List.getElem?_eq_getElem hi, e]
  rfl
/-! ### trimmed threads -/
theorem tcut_len {a b : Int} {x : Int × Strand} (h : tlo a x < thi b x) : ((tcut a b x).2.length : Int) = thi b x - tlo a x := by
  unfold tcut
  show ((((x.2.drop (tlo a x - x.1).toNat).take (thi b x - tlo a x).toNat).length : Nat) : Int) = _
  rw [List.length_take, List.length_drop]
  have f1 : x.1 ≤ tlo a x := by unfold tlo; omega
  have f2 : thi b x ≤ x.1 + x.2.length := by unfold thi; omega
  omega
theorem trm_mem {t : Thread} {a b : Int} {q : Int × Strand} : q ∈ trm t a b ↔ ∃ x ∈ t, tlo a x < thi b x ∧ tcut a b x = q := by
  unfold trm
  rw [List.mem_map]
  constructor
  · rintro ⟨x, hx, e⟩
    obtain ⟨h1, h2⟩ := List.mem_filter.mp hx
    exact ⟨x, h1, of_decide_eq_true h2, e⟩
  · rintro ⟨x, h1, h2, e⟩
    exact ⟨x, List.mem_filter.mpr ⟨h1, decide_eq_true h2⟩, e⟩
theorem trm_vt {t : Thread} {a b : Int} (h : VT t) (h0 : 0 ≤ a) (h1 : a ≤ 200) (hn : trm t a b ≠ []) : VT (trm t a b) := by
  refine ⟨?_, ?_, fun q hq => ?_⟩
  · have : (trm t a b).length ≠ 0 := fun e => hn (List.length_eq_zero_iff.mp e)
    omega
  · unfold trm
    rw [List.length_map]
    exact Nat.le_trans (List.length_filter_le _ _) h.l2
  · obtain ⟨x, hx, hc, rfl⟩ := trm_mem.mp hq
    obtain ⟨a1, a2, a3⟩ := h.at_ x hx
    have hl := tcut_len hc
    refine ⟨by show 0 ≤ tlo a x; unfold tlo; omega, by show tlo a x ≤ 200; unfold tlo; omega, ⟨by omega, ?_, fun z hz => a3.at_ z (List.mem_of_mem_drop (List.mem_of_mem_take hz))⟩⟩
    have := a3.l2
    have f1 : x.1 ≤ tlo a x := by unfold tlo; omega
    have f2 : thi b x ≤ x.1 + x.2.length := by unfold thi; omega
    omega
theorem cnt_pos {t : Thread} {y : Int} : 0 < cnt t y ↔ ∃ x ∈ t, x.1 ≤ y ∧ y < x.1 + x.2.length := by
  unfold cnt
  constructor
  · intro h
    have : t.filter (fun p : Int × Strand => decide (p.1 ≤ y) && decide (y < p.1 + p.2.length)) ≠ [] := fun e => by
      rw [e] at h
      simp at h
    obtain ⟨x, hx⟩ := List.exists_mem_of_ne_nil _ this
    obtain ⟨h1, h2⟩ := List.mem_filter.mp hx
    simp only [Bool.and_eq_true, decide_eq_true_eq] at h2
    exact ⟨x, h1, h2⟩
  · rintro ⟨x, h1, h2⟩
    have : x ∈ t.filter (fun p : Int × Strand => decide (p.1 ≤ y) && decide (y < p.1 + p.2.length)) := List.mem_filter.mpr ⟨h1, by simp; omega⟩
    have := List.length_pos_of_mem this
    omega
theorem val_cut {a b y : Int} {x : Int × Strand} (h0 : a ≤ y) (h1 : y < b) (h : tlo a x < thi b x) : val (tcut a b x).2 (y - (tcut a b x).1) = val x.2 (y - x.1) := by
  have hl := tcut_len h
  have f1 : tlo a x = a ∨ tlo a x = x.1 := by unfold tlo; omega
  have f1' : a ≤ tlo a x ∧ x.1 ≤ tlo a x := by unfold tlo; omega
  have f2 : thi b x = b ∨ thi b x = x.1 + x.2.length := by unfold thi; omega
  have f2' : thi b x ≤ b ∧ thi b x ≤ x.1 + x.2.length := by unfold thi; omega
  have e1 : (tcut a b x).1 = tlo a x := rfl
  rw [e1]
  by_cases c : tlo a x ≤ y ∧ y < thi b x
  · unfold val
    rw [if_pos (by omega), if_pos (by omega)]
    show ((x.2.drop (tlo a x - x.1).toNat).take (thi b x - tlo a x).toNat).getD (y - tlo a x).toNat 0 = _
    rw [List.getD_eq_getElem?_getD, List.getD_eq_getElem?_getD, List.getElem?_take_of_lt (by omega), List.getElem?_drop]
    congr 2
    omega
  · rw [val_zero (by omega), val_zero (by omega)]
theorem atY_trm (t : Thread) {a b y : Int} (h0 : a ≤ y) (h1 : y < b) : atY (trm t a b) y = atY t y := by
  unfold atY trm
  induction t with
  | nil => rfl
  | cons x t ih =>
    by_cases c : tlo a x < thi b x
    · rw [List.filter_cons_of_pos (p := fun x => decide (tlo a x < thi b x)) (decide_eq_true c), List.map_cons, List.map_cons, List.sum_cons, ih, List.map_cons, List.sum_cons, val_cut h0 h1 c]
    · rw [List.filter_cons_of_neg (by simpa using c), ih, List.map_cons, List.sum_cons]
      have : val x.2 (y - x.1) = 0 := by
        refine val_zero fun q => c ?_
        unfold tlo thi
        omega
      omega
theorem trm_trm (t : Thread) (a b : Int) : trm (trm t a b) a b = trm t a b := by
  have key : ∀ q ∈ trm t a b, tlo a q < thi b q ∧ tcut a b q = q := fun q hq => by
    obtain ⟨x, hx, hc, rfl⟩ := trm_mem.mp hq
    have hl := tcut_len hc
    have e1 : (tcut a b x).1 = tlo a x := rfl
    have t1 : tlo a (tcut a b x) = tlo a x := by
      show max a (tcut a b x).1 = tlo a x
      rw [e1]
      unfold tlo
      omega
    have t2 : thi b (tcut a b x) = thi b x := by
      show min b ((tcut a b x).1 + ((tcut a b x).2.length : Int)) = thi b x
      rw [e1, hl]
      unfold thi
      omega
    refine ⟨by rw [t1, t2]; exact hc, ?_⟩
    refine Prod.ext (by show tlo a (tcut a b x) = _; rw [t1]; rfl) ?_
    show ((tcut a b x).2.drop (tlo a (tcut a b x) - (tcut a b x).1).toNat).take (thi b (tcut a b x) - tlo a (tcut a b x)).toNat = (tcut a b x).2
    rw [t1, t2, e1, show (tlo a x - tlo a x).toNat = 0 by omega, List.drop_zero, ← hl, show (((tcut a b x).2.length : Nat) : Int).toNat = (tcut a b x).2.length by omega, List.take_length]
  show ((trm t a b).filter fun x => decide (tlo a x < thi b x)).map (tcut a b) = trm t a b
  rw [List.filter_eq_self.mpr fun q hq => decide_eq_true (key q hq).1]
  conv => rhs; rw [← List.map_id (trm t a b)]
  exact List.map_congr_left fun q hq => (key q hq).2
theorem trm_fst {t : Thread} {a b : Int} {q : Int × Strand} (hq : q ∈ trm t a b) : a ≤ q.1 ∧ q.1 + q.2.length ≤ b := by
  obtain ⟨x, hx, hc, rfl⟩ := trm_mem.mp hq
  have hl := tcut_len hc
  have e1 : (tcut a b x).1 = tlo a x := rfl
  rw [hl, e1]
  unfold tlo thi
  omega
def lows (t : Thread) (a b : Int) : List Int := (yards a b).filter fun y => decide (0 < cnt t y)
theorem lows_facts {t : Thread} {a b : Int} (hn : trm t a b ≠ []) : ixD (.list (eI (lows t a b))) (.int 0) = some (.int (fst (trm t a b))) ∧ ixD (.list (eI (lows t a b))) (.int (-1)) = some (.int (lst (trm t a b) - 1)) := by
  have hs : (lows t a b).Pairwise (· < ·) := List.Pairwise.filter _ (yards_sorted a b)
  have mem : ∀ y, y ∈ lows t a b ↔ (a ≤ y ∧ y < b) ∧ ∃ x ∈ t, x.1 ≤ y ∧ y < x.1 + x.2.length := fun y => by
    unfold lows
    rw [List.mem_filter, yards_mem, decide_eq_true_eq, cnt_pos]
  have back : ∀ y, y ∈ lows t a b → ∃ q ∈ trm t a b, q.1 ≤ y ∧ y < q.1 + q.2.length := fun y hy => by
    obtain ⟨h1, x, hx, h2⟩ := (mem y).mp hy
    have hc : tlo a x < thi b x := by unfold tlo thi; omega
    have hl := tcut_len hc
    refine ⟨tcut a b x, trm_mem.mpr ⟨x, hx, hc, rfl⟩, ?_⟩
    rw [hl]
    show tlo a x ≤ y ∧ y < tlo a x + (thi b x - tlo a x)
    unfold tlo thi
    omega
  have fwd : ∀ q ∈ trm t a b, ∀ y, q.1 ≤ y → y < q.1 + q.2.length → y ∈ lows t a b := fun q hq y h1 h2 => by
    have hb := trm_fst hq
    obtain ⟨x, hx, hc, rfl⟩ := trm_mem.mp hq
    have hl := tcut_len hc
    rw [hl] at h2
    have h1 : tlo a x ≤ y := h1
    have h2 : y < tlo a x + (thi b x - tlo a x) := h2
    refine (mem y).mpr ⟨by unfold tlo thi at *; omega, x, hx, by unfold tlo thi at *; omega⟩
  constructor
  · obtain ⟨q, hq, e⟩ := fst_mem hn
    have hpos : 0 < q.2.length := by
      obtain ⟨x, hx, hc, rfl⟩ := trm_mem.mp hq
      have := tcut_len hc
      omega
    refine sorted_first hs (fwd q hq _ (by omega) (by omega)) fun z hz => ?_
    obtain ⟨w, hw, h1, h2⟩ := back z hz
    have := fst_le hw
    omega
  · obtain ⟨q, hq, e⟩ := lst_mem hn
    have hpos : 0 < q.2.length := by
      obtain ⟨x, hx, hc, rfl⟩ := trm_mem.mp hq
      have := tcut_len hc
      omega
    refine sorted_last hs (fwd q hq _ (by omega) (by omega)) fun z hz => ?_
    obtain ⟨w, hw, h1, h2⟩ := back z hz
    have := le_lst hw
    omega
theorem cuts_e {k : Int} {st : Pot} {t : Thread} (hp : PI k st) (hk : k ≤ 999000) (h : VT t) (hlt : lst t ≤ 100) : ∃ st', m__law_are_cuts_right [eT t, .tuple (eI (row t))] st = some (.bool true, st') ∧ PI (k + 2) st' := by
  have l0 := h.lst0
  have f0 := h.fst0
  have hl2 := h.l2
  obtain ⟨v, s1, e1, v0, v1, p1⟩ := take_e hp (by omega) (n := lst t - fst t) (by omega) (by omega)
  obtain ⟨w, s2, e2, w0, w1, p2⟩ := take_e p1 (by omega) (n := lst t - (fst t + v)) (by omega) (by omega)
  refine ⟨s2, ?_, p2.mono (by omega)⟩
  show b__law_are_cuts_right _ _ st = _
  unfold b__law_are_cuts_right
  simp only [B_B, span_e h, if_true, if_false, B_P, L_s, run0_P, mNone_P, ite_and, ite_or, ite_and', ite_or', ite_t, ite_f, boolD_b, lt_ii, le_ii, gt_ii, ge_ii, add_ii, sub_ii, neg_i, part_i, seq_t, seq_l, tup2, tup0, lst0, lst1, lstS0, tup_l, tup_t, len_t, len_l, u2_p, isi_tt, isi_ii, isi_bi, isi_ss, Bool.not_true, Bool.not_false, Bool.and_true, Bool.true_and, Bool.or_false, Bool.false_or]
  unfold eP
  simp only [B_B, if_true, if_false, B_P, L_s, run0_P, mNone_P, ite_and, ite_or, ite_and', ite_or', ite_t, ite_f, boolD_b, lt_ii, le_ii, gt_ii, ge_ii, add_ii, sub_ii, neg_i, part_i, seq_t, seq_l, tup2, tup0, lst0, lst1, lstS0, tup_l, tup_t, len_t, len_l, u2_p, isi_tt, isi_ii, isi_bi, isi_ss, Bool.not_true, Bool.not_false, Bool.and_true, Bool.true_and, Bool.or_false, Bool.false_or]
  rw [B_ap e1]
  simp only [B_B, int_i, if_true, if_false, B_P, L_s, run0_P, mNone_P, ite_and, ite_or, ite_and', ite_or', ite_t, ite_f, boolD_b, lt_ii, le_ii, gt_ii, ge_ii, add_ii, sub_ii, neg_i, part_i, seq_t, seq_l, tup2, tup0, lst0, lst1, lstS0, tup_l, tup_t, len_t, len_l, u2_p, isi_tt, isi_ii, isi_bi, isi_ss, Bool.not_true, Bool.not_false, Bool.and_true, Bool.true_and, Bool.or_false, Bool.false_or]
  rw [B_ap e2]
  simp only [int_i, if_true, if_false, B_P, L_s, run0_P, mNone_P, ite_and, ite_or, ite_and', ite_or', ite_t, ite_f, boolD_b, lt_ii, le_ii, gt_ii, ge_ii, add_ii, sub_ii, neg_i, part_i, seq_t, seq_l, tup2, tup0, lst0, lst1, lstS0, tup_l, tup_t, len_t, len_l, u2_p, isi_tt, isi_ii, isi_bi, isi_ss, Bool.not_true, Bool.not_false, Bool.and_true, Bool.true_and, Bool.or_false, Bool.false_or]
  generalize ha : fst t + v = a at v0 v1 w1
  generalize hb : a + 1 + w = b
  have ha0 : 0 ≤ a := by omega
  have ha1 : a ≤ 200 := by omega
  have hab : a < b := by omega
  have hbl : b ≤ lst t := by omega
  have fin : (P (.bool true) : M Pot D) s2 = some (.bool true, s2) := P_ap _ _
  have ecn : eI (cnts t) = (yards (fst t) (lst t)).map fun y => PyData.int (cnt t y) := by unfold cnts; rw [← eI_map]
  have iso : ∀ x : Thread, isB (eTO x) .none = some (decide (x = [])) := fun x => by
    unfold eTO
    by_cases c : x = []
    · rw [if_pos c, decide_eq_true c]
      rfl
    · rw [if_neg c, decide_eq_false c]
      rfl
  simp only [trimmed_e h ha0 ha1 hab (show b ≤ 400 by omega), iso, if_true, if_false, B_P, L_s, run0_P, mNone_P, ite_and, ite_or, ite_and', ite_or', ite_t, ite_f, boolD_b, lt_ii, le_ii, gt_ii, ge_ii, add_ii, sub_ii, neg_i, part_i, seq_t, seq_l, tup2, tup0, lst0, lst1, lstS0, tup_l, tup_t, len_t, len_l, u2_p, isi_tt, isi_ii, isi_bi, isi_ss, Bool.not_true, Bool.not_false, Bool.and_true, Bool.true_and, Bool.or_false, Bool.false_or]
  by_cases hn : trm t a b = []
  · rw [decide_eq_true hn]
    simp only [beside_e h, slice_t, if_true, if_false, B_P, L_s, run0_P, mNone_P, ite_and, ite_or, ite_and', ite_or', ite_t, ite_f, boolD_b, lt_ii, le_ii, gt_ii, ge_ii, add_ii, sub_ii, neg_i, part_i, seq_t, seq_l, tup2, tup0, lst0, lst1, lstS0, tup_l, tup_t, len_t, len_l, u2_p, isi_tt, isi_ii, isi_bi, isi_ss, Bool.not_true, Bool.not_false, Bool.and_true, Bool.true_and, Bool.or_false, Bool.false_or]
    rw [show cutL (eI (cnts t)) (some (a - fst t)) (some (b - fst t)) = eI ((yards a b).map (cnt t)) by rw [ecn, yards_cut _ (by omega) (by omega) hbl, eI_map]]
    have e0 : (((yards a b).map (cnt t)).any fun x => decide (x ≠ 0)) = false := by
      rw [List.any_map, List.any_eq_false]
      intro y hy hc
      have hy := yards_mem.mp hy
      have hc : cnt t y ≠ 0 := of_decide_eq_true hc
      have hpos : 0 < cnt t y := by
        have : 0 ≤ cnt t y := by unfold cnt; omega
        omega
      obtain ⟨x, hx, h1⟩ := cnt_pos.mp hpos
      have : tcut a b x ∈ trm t a b := trm_mem.mpr ⟨x, hx, by unfold tlo thi; omega, rfl⟩
      rw [hn] at this
      cases this
    simp only [any_ints, e0, if_true, if_false, B_P, L_s, run0_P, mNone_P, ite_and, ite_or, ite_and', ite_or', ite_t, ite_f, boolD_b, lt_ii, le_ii, gt_ii, ge_ii, add_ii, sub_ii, neg_i, part_i, seq_t, seq_l, tup2, tup0, lst0, lst1, lstS0, tup_l, tup_t, len_t, len_l, u2_p, isi_tt, isi_ii, isi_bi, isi_ss, Bool.not_true, Bool.not_false, Bool.and_true, Bool.true_and, Bool.or_false, Bool.false_or]
    exact fin
  · rw [decide_eq_false hn]
    have vt := trm_vt h ha0 ha1 hn
    obtain ⟨q0, qz⟩ := lows_facts hn
    have bf : a ≤ fst (trm t a b) ∧ lst (trm t a b) ≤ b := by
      obtain ⟨q, hq, e⟩ := fst_mem hn
      obtain ⟨r, hr, e'⟩ := lst_mem hn
      have := trm_fst hq
      have := trm_fst hr
      omega
    have vl0 := vt.lst0
    have eto : eTO (trm t a b) = eT (trm t a b) := if_neg hn
    rw [eto]
    simp only [Bool.false_eq_true, range2_e (a := a) (b := b) (by omega) (by omega), if_true, if_false, B_P, L_s, run0_P, mNone_P, ite_and, ite_or, ite_and', ite_or', ite_t, ite_f, boolD_b, lt_ii, le_ii, gt_ii, ge_ii, add_ii, sub_ii, neg_i, part_i, seq_t, seq_l, tup2, tup0, lst0, lst1, lstS0, tup_l, tup_t, len_t, len_l, u2_p, isi_tt, isi_ii, isi_bi, isi_ss, Bool.not_true, Bool.not_false, Bool.and_true, Bool.true_and, Bool.or_false, Bool.false_or]
    rw [show eI (yards a b) = (yards a b).map PyData.int from rfl, cmp_filter (p := fun y => decide (0 < cnt t y)) (g := fun y : Int => .int y) fun y hy => by
      have hy := yards_mem.mp hy
      simp only [beside_e h, if_true, if_false, B_P, L_s, run0_P, mNone_P, ite_and, ite_or, ite_and', ite_or', ite_t, ite_f, boolD_b, lt_ii, le_ii, gt_ii, ge_ii, add_ii, sub_ii, neg_i, part_i, seq_t, seq_l, tup2, tup0, lst0, lst1, lstS0, tup_l, tup_t, len_t, len_l, u2_p, isi_tt, isi_ii, isi_bi, isi_ss, Bool.not_true, Bool.not_false, Bool.and_true, Bool.true_and, Bool.or_false, Bool.false_or]
      rw [ecn]
      simp only [(ix_y (fun y => PyData.int (cnt t y)) (show (0 : Int) ≤ y - fst t by omega) (show y - fst t < lst t - fst t by omega)).2, if_true, if_false, B_P, L_s, run0_P, mNone_P, ite_and, ite_or, ite_and', ite_or', ite_t, ite_f, boolD_b, lt_ii, le_ii, gt_ii, ge_ii, add_ii, sub_ii, neg_i, part_i, seq_t, seq_l, tup2, tup0, lst0, lst1, lstS0, tup_l, tup_t, len_t, len_l, u2_p, isi_tt, isi_ii, isi_bi, isi_ss, Bool.not_true, Bool.not_false, Bool.and_true, Bool.true_and, Bool.or_false, Bool.false_or]
      rw [show fst t + (y - fst t) = y by omega]]
    rw [show (((yards a b).filter fun y => decide (0 < cnt t y)).map fun y : Int => PyData.int y) = eI (lows t a b) from rfl]
    have ll : (eI (lows t a b)).length ≤ 16777216 := by
      rw [eI_len]
      unfold lows
      exact Nat.le_trans (List.length_filter_le _ _) (by rw [yards_len]; omega)
    have er : cutL (eI (row t)) (some (fst (trm t a b) - fst t)) (some (lst (trm t a b) - fst t)) = eI (row (trm t a b)) := by
      rw [show eI (row t) = (yards (fst t) (lst t)).map (fun y => PyData.int (atY t y)) by unfold row; rw [← eI_map], yards_cut _ (by omega) (by omega) (by omega), show eI (row (trm t a b)) = (yards (fst (trm t a b)) (lst (trm t a b))).map (fun y => PyData.int (atY (trm t a b) y)) by unfold row; rw [← eI_map]]
      refine List.map_congr_left fun y hy => ?_
      have hy := yards_mem.mp hy
      rw [atY_trm t (show a ≤ y by omega) (show y < b by omega)]
    simp only [lstD_le ll, show m_span [eT (trm t a b)] = some (.tuple [.int (fst (trm t a b)), .int (lst (trm t a b))]) from span_e vt, q0, qz, strengths_e vt, slice_t, er, DL.neT, decide_true, Bool.false_eq_true, neP, show lst (trm t a b) - 1 + 1 = lst (trm t a b) by omega, and_self, trimmed_e vt ha0 ha1 hab (show b ≤ 400 by omega), trm_trm, eto, neTT, show seqD (eT (trm t a b)) = some ((trm t a b).map eE) from rfl, show seqD (eT t) = some (t.map eE) from rfl, if_true, if_false, B_P, L_s, run0_P, mNone_P, ite_and, ite_or, ite_and', ite_or', ite_t, ite_f, boolD_b, lt_ii, le_ii, gt_ii, ge_ii, add_ii, sub_ii, neg_i, part_i, seq_t, seq_l, tup2, tup0, lst0, lst1, lstS0, tup_l, tup_t, len_t, len_l, u2_p, isi_tt, isi_ii, isi_bi, isi_ss, Bool.not_true, Bool.not_false, Bool.and_true, Bool.true_and, Bool.or_false, Bool.false_or]
    rw [cmp_map (g := fun x : Int × Strand => eS x.2) fun x _ => by unfold eE; simp only [if_true, if_false, B_P, L_s, run0_P, mNone_P, ite_and, ite_or, ite_and', ite_or', ite_t, ite_f, boolD_b, lt_ii, le_ii, gt_ii, ge_ii, add_ii, sub_ii, neg_i, part_i, seq_t, seq_l, tup2, tup0, lst0, lst1, lstS0, tup_l, tup_t, len_t, len_l, u2_p, isi_tt, isi_ii, isi_bi, isi_ss, Bool.not_true, Bool.not_false, Bool.and_true, Bool.true_and, Bool.or_false, Bool.false_or]]
    simp only [lstD_le (show ((trm t a b).map fun x : Int × Strand => eS x.2).length ≤ 16777216 by rw [List.length_map]; have := vt.l2; omega), if_true, if_false, B_P, L_s, run0_P, mNone_P, ite_and, ite_or, ite_and', ite_or', ite_t, ite_f, boolD_b, lt_ii, le_ii, gt_ii, ge_ii, add_ii, sub_ii, neg_i, part_i, seq_t, seq_l, tup2, tup0, lst0, lst1, lstS0, tup_l, tup_t, len_t, len_l, u2_p, isi_tt, isi_ii, isi_bi, isi_ss, Bool.not_true, Bool.not_false, Bool.and_true, Bool.true_and, Bool.or_false, Bool.false_or]
    rw [foldF_unit fun d hd => ?_]
    · have tn : trm t (lst t) (lst t + 1) = [] := by
        unfold trm
        rw [List.map_eq_nil_iff, List.filter_eq_nil_iff]
        intro x hx hc
        have := le_lst hx
        have hc := of_decide_eq_true hc
        unfold tlo thi at hc
        omega
      simp only [kF_nx, trimmed_e h (a := lst t) (b := lst t + 1) (by omega) (by omega) (by omega) (by omega), tn, iso, decide_true, if_true, if_false, B_P, L_s, run0_P, mNone_P, ite_and, ite_or, ite_and', ite_or', ite_t, ite_f, boolD_b, lt_ii, le_ii, gt_ii, ge_ii, add_ii, sub_ii, neg_i, part_i, seq_t, seq_l, tup2, tup0, lst0, lst1, lstS0, tup_l, tup_t, len_t, len_l, u2_p, isi_tt, isi_ii, isi_bi, isi_ss, Bool.not_true, Bool.not_false, Bool.and_true, Bool.true_and, Bool.or_false, Bool.false_or]
      exact fin
    · obtain ⟨q, hq, rfl⟩ := List.mem_map.mp hd
      have vq := (vt.at_ q hq).2.2
      obtain ⟨x, hx, hc, rfl⟩ := trm_mem.mp hq
      have vx := (h.at_ x hx).2.2
      rw [cmp_map (g := fun x : Int × Strand => .int (DL.lo x.2)) fun x hx => by
        unfold eE
        simp only [show m_weakest [eS x.2] = some (.tuple [.int (DL.lo x.2), .int ((x.2.idxOf (DL.lo x.2) : Nat) : Int)]) from weakest_e (h.at_ x hx).2.2, ix0, if_true, if_false, B_P, L_s, run0_P, mNone_P, ite_and, ite_or, ite_and', ite_or', ite_t, ite_f, boolD_b, lt_ii, le_ii, gt_ii, ge_ii, add_ii, sub_ii, neg_i, part_i, seq_t, seq_l, tup2, tup0, lst0, lst1, lstS0, tup_l, tup_t, len_t, len_l, u2_p, isi_tt, isi_ii, isi_bi, isi_ss, Bool.not_true, Bool.not_false, Bool.and_true, Bool.true_and, Bool.or_false, Bool.false_or]]
      rw [eI_map (fun x : Int × Strand => DL.lo x.2)]
      have hle : ¬ DL.lo (tcut a b x).2 < DL.lo (t.map fun x : Int × Strand => DL.lo x.2) := by
        have z1 := lo_le (List.mem_map_of_mem (f := fun x : Int × Strand => DL.lo x.2) hx)
        have z2 : DL.lo x.2 ≤ DL.lo (tcut a b x).2 := lo_le (List.mem_of_mem_drop (List.mem_of_mem_take (lo_mem vq.ne)))
        omega
      simp only [show m_weakest [eS (tcut a b x).2] = some (.tuple [.int (DL.lo (tcut a b x).2), .int (((tcut a b x).2.idxOf (DL.lo (tcut a b x).2) : Nat) : Int)]) from weakest_e vq, ix0, lstD_le (show (eI (t.map fun x : Int × Strand => DL.lo x.2)).length ≤ 16777216 by rw [eI_len, List.length_map]; omega), min_seq (seq_l _) (show (t.map fun x : Int × Strand => DL.lo x.2) ≠ [] by simpa using h.ne), decide_eq_false hle, Bool.false_eq_true, kF_nx, if_true, if_false, B_P, L_s, run0_P, mNone_P, ite_and, ite_or, ite_and', ite_or', ite_t, ite_f, boolD_b, lt_ii, le_ii, gt_ii, ge_ii, add_ii, sub_ii, neg_i, part_i, seq_t, seq_l, tup2, tup0, lst0, lst1, lstS0, tup_l, tup_t, len_t, len_l, u2_p, isi_tt, isi_ii, isi_bi, isi_ss, Bool.not_true, Bool.not_false, Bool.and_true, Bool.true_and, Bool.or_false, Bool.false_or]
end K20

set_option Elab.async false
set_option linter.all false
set_option maxRecDepth 100000
set_option maxHeartbeats 8000000
namespace K20
open PySem PySem.Spec PyProof.Rows L2 DL
theorem dget_map (g : Int → D) (y : Int) : ∀ xs : List Int, dgetL (xs.map fun y => (PyData.int y, g y)) (.inl y) = if y ∈ xs then some (g y) else none
  | [] => by
    rw [if_neg (by simp)]
    rfl
  | x :: xs => by
    have ih := dget_map g y xs
    unfold dgetL at ih ⊢
    rw [List.map_cons]
    by_cases c : x = y
    · subst c
      rw [List.find?_cons_of_pos (by exact decide_eq_true rfl), if_pos List.mem_cons_self]
      rfl
    · have hk : ¬ (decide (keyD (PyData.int x) = some (Sum.inl y : Key)) = true) := by
        rw [decide_eq_true_eq]
        intro e
        exact c (Sum.inl.inj (Option.some.inj e))
      rw [List.find?_cons_of_neg (p := fun p : D × D => decide (keyD p.1 = some (.inl y))) hk, ih]
      by_cases m : y ∈ xs
      · rw [if_pos m, if_pos (List.mem_cons_of_mem _ m)]
      · rw [if_neg m, if_neg fun z => (List.mem_cons.mp z).elim (fun e => c e.symm) m]
theorem kvD_map (g : Int → D) : ∀ xs : List Int, kvD (xs.map fun y => .tuple [.int y, g y]) = some (xs.map fun y => (Sum.inl y, g y))
  | [] => rfl
  | x :: xs => by
    show (kvD (xs.map fun y => .tuple [.int y, g y])).map (fun q => ((Sum.inl x : Key), g x) :: q) = _
    rw [kvD_map g xs]
    rfl
theorem by_yard_e {t : Thread} (h : VT t) : m__law_by_yard [eT t] = some (.dict ((yards (fst t) (lst t)).map fun y => (PyData.int y, PyData.int (atY t y)))) := by
  have l0 := h.lst0
  have f0 := h.fst0
  show run0 (b__law_by_yard _) = _
  unfold b__law_by_yard
  have een : enumTD [.tuple (eI (row t))] = some ((yards (fst t) (lst t)).map fun y => .tuple [.int (y - fst t), .int (atY t y)]) := by
    show some (enumL (eI (row t))) = _
    unfold row
    rw [← eI_map, enum_y]
  simp only [span_e h, if_true, if_false, B_P, L_s, run0_P, mNone_P, ite_and, ite_or, ite_and', ite_or', ite_t, ite_f, boolD_b, lt_ii, le_ii, gt_ii, ge_ii, add_ii, sub_ii, neg_i, part_i, seq_t, seq_l, tup2, tup0, lst0, lst1, lstS0, tup_l, tup_t, len_t, len_l, u2_p, isi_tt, isi_ii, isi_bi, isi_ss, Bool.not_true, Bool.not_false, Bool.and_true, Bool.true_and, Bool.or_false, Bool.false_or]
  unfold eP
  simp only [ix0, strengths_e h, een, if_true, if_false, B_P, L_s, run0_P, mNone_P, ite_and, ite_or, ite_and', ite_or', ite_t, ite_f, boolD_b, lt_ii, le_ii, gt_ii, ge_ii, add_ii, sub_ii, neg_i, part_i, seq_t, seq_l, tup2, tup0, lst0, lst1, lstS0, tup_l, tup_t, len_t, len_l, u2_p, isi_tt, isi_ii, isi_bi, isi_ss, Bool.not_true, Bool.not_false, Bool.and_true, Bool.true_and, Bool.or_false, Bool.false_or]
  rw [cmp_map (g := fun y : Int => .tuple [.int y, .int (atY t y)]) fun y _ => by
    simp only [if_true, if_false, B_P, L_s, run0_P, mNone_P, ite_and, ite_or, ite_and', ite_or', ite_t, ite_f, boolD_b, lt_ii, le_ii, gt_ii, ge_ii, add_ii, sub_ii, neg_i, part_i, seq_t, seq_l, tup2, tup0, lst0, lst1, lstS0, tup_l, tup_t, len_t, len_l, u2_p, isi_tt, isi_ii, isi_bi, isi_ss, Bool.not_true, Bool.not_false, Bool.and_true, Bool.true_and, Bool.or_false, Bool.false_or]
    rw [show fst t + (y - fst t) = y by omega]]
  simp only [lstD_le (show ((yards (fst t) (lst t)).map fun y : Int => PyData.tuple [.int y, .int (atY t y)]).length ≤ 16777216 by rw [List.length_map, yards_len]; omega), if_true, if_false, B_P, L_s, run0_P, mNone_P, ite_and, ite_or, ite_and', ite_or', ite_t, ite_f, boolD_b, lt_ii, le_ii, gt_ii, ge_ii, add_ii, sub_ii, neg_i, part_i, seq_t, seq_l, tup2, tup0, lst0, lst1, lstS0, tup_l, tup_t, len_t, len_l, u2_p, isi_tt, isi_ii, isi_bi, isi_ss, Bool.not_true, Bool.not_false, Bool.and_true, Bool.true_and, Bool.or_false, Bool.false_or]
  show run0 (L ((kvD ((yards (fst t) (lst t)).map fun y : Int => PyData.tuple [.int y, .int (atY t y)])).bind fun kds => if (kds.map (·.1)).Nodup then some (PyData.dict (kds.map fun q => (kD q.1, q.2))) else none)) = _
  rw [kvD_map]
  show run0 (L (if ((((yards (fst t) (lst t)).map fun y => ((Sum.inl y : Key), PyData.int (atY t y))).map (·.1)).Nodup) then some (PyData.dict (((yards (fst t) (lst t)).map fun y => ((Sum.inl y : Key), PyData.int (atY t y))).map fun q => (kD q.1, q.2))) else none)) = _
  rw [if_pos ?_, List.map_map]
  · rfl
  · rw [List.map_map]
    refine List.Pairwise.map _ (fun a b hab e => ?_) (yards_sorted (fst t) (lst t))
    have := Sum.inl.inj e
    omega
theorem get_e {t : Thread} (h : VT t) (y : Int) : getD3 (.dict ((yards (fst t) (lst t)).map fun y => (PyData.int y, PyData.int (atY t y)))) (.int y) (.int 0) = some (.int (atY t y)) := by
  show some ((dgetL ((yards (fst t) (lst t)).map fun y => (PyData.int y, PyData.int (atY t y))) (.inl y)).getD (.int 0)) = _
  rw [dget_map]
  by_cases c : y ∈ yards (fst t) (lst t)
  · rw [if_pos c]
    rfl
  · rw [if_neg c, atY_out fun q => c (yards_mem.mpr q)]
    rfl
/-- two drawn threads put together -/
structure DB (t : Thread) : Prop where
  l1 : 1 ≤ t.length
  l2 : t.length ≤ 8
  at_ : ∀ p ∈ t, 0 ≤ p.1 ∧ p.1 ≤ 19 ∧ VS p.2 ∧ p.2.length ≤ 20
theorem DB.vt {t : Thread} (h : DB t) : VT t := ⟨h.l1, h.l2, fun p hp => by obtain ⟨a, b, c, d⟩ := h.at_ p hp; exact ⟨a, by omega, c⟩⟩
theorem DB.lst {t : Thread} (h : DB t) : lst t ≤ 39 := by
  obtain ⟨p, hp, e⟩ := lst_mem h.vt.ne
  obtain ⟨a, b, c, d⟩ := h.at_ p hp
  omega
theorem DT.db {t : Thread} (h : DT t) : DB t := ⟨h.l1, by have := h.l2; omega, h.at_⟩
theorem DT.app {t r : Thread} (h : DT t) (k : DT r) : DB (t ++ r) := ⟨by have := h.l1; rw [List.length_append]; omega, by have := h.l2; have := k.l2; rw [List.length_append]; omega, fun p hp => (List.mem_append.mp hp).elim (h.at_ p) (k.at_ p)⟩
theorem fst_app {t r : Thread} (h : t ≠ []) (k : r ≠ []) : fst (t ++ r) = min (fst t) (fst r) := by
  obtain ⟨p, hp, e⟩ := fst_mem h
  obtain ⟨q, hq, e'⟩ := fst_mem k
  refine lo_eq ?_ fun z hz => ?_
  · by_cases c : fst t ≤ fst r
    · exact List.mem_map.mpr ⟨p, List.mem_append_left _ hp, by show p.1 = _; omega⟩
    · exact List.mem_map.mpr ⟨q, List.mem_append_right _ hq, by show q.1 = _; omega⟩
  · obtain ⟨w, hw, rfl⟩ := List.mem_map.mp hz
    rcases List.mem_append.mp hw with hw | hw
    · have := fst_le hw
      show _ ≤ w.1
      omega
    · have := fst_le hw
      show _ ≤ w.1
      omega
theorem lst_app {t r : Thread} (h : t ≠ []) (k : r ≠ []) : lst (t ++ r) = max (lst t) (lst r) := by
  obtain ⟨p, hp, e⟩ := lst_mem h
  obtain ⟨q, hq, e'⟩ := lst_mem k
  refine hi_eq ?_ fun z hz => ?_
  · by_cases c : lst r ≤ lst t
    · exact List.mem_map.mpr ⟨p, List.mem_append_left _ hp, by show p.1 + (p.2.length : Int) = _; omega⟩
    · exact List.mem_map.mpr ⟨q, List.mem_append_right _ hq, by show q.1 + (q.2.length : Int) = _; omega⟩
  · obtain ⟨w, hw, rfl⟩ := List.mem_map.mp hz
    rcases List.mem_append.mp hw with hw | hw
    · have := le_lst hw
      show w.1 + (w.2.length : Int) ≤ _
      omega
    · have := le_lst hw
      show w.1 + (w.2.length : Int) ≤ _
      omega
theorem row_comm {t r : Thread} (h : t ≠ []) (k : r ≠ []) : row (r ++ t) = row (t ++ r) := by
  unfold row
  rw [fst_app h k, fst_app k h, lst_app h k, lst_app k h, Int.min_comm, Int.max_comm]
  refine List.map_congr_left fun y _ => ?_
  rw [atY_app, atY_app, Int.add_comm]
theorem eT_app (t r : Thread) (h : t.length + r.length ≤ 100) : addD (eT t) (eT r) = some (eT (t ++ r)) := by
  unfold eT
  rw [List.map_append]
  exact add_tt _ _ (by rw [List.length_map, List.length_map]; omega)
theorem bads_wide {t : Thread} {b c : Band} (h1 : c.1 ≤ b.1) (h2 : b.2 ≤ c.2) {y : Int} (hy : y ∈ bads t c) : y ∈ bads t b := by
  obtain ⟨h3, h4⟩ := bads_mem.mp hy
  refine bads_mem.mpr ⟨h3, ?_⟩
  cases k : okb b (atY t y) with
  | false => rfl
  | true =>
    unfold okb at k h4
    simp only [Bool.and_eq_true, decide_eq_true_eq, Bool.and_eq_false_iff, decide_eq_false_iff_not] at k h4
    omega
theorem mvd_vt {t : Thread} {m : Int} (h : DB t) (h0 : 0 ≤ m) (h1 : m ≤ 99) : VT (mvd t m) := by
  refine ⟨by unfold mvd; rw [List.length_map]; exact h.l1, by unfold mvd; rw [List.length_map]; exact h.l2, fun p hp => ?_⟩
  obtain ⟨q, hq, rfl⟩ := List.mem_map.mp hp
  obtain ⟨a, b, c, d⟩ := h.at_ q hq
  exact ⟨by show 0 ≤ q.1 + m; omega, by show q.1 + m ≤ 200; omega, c⟩
theorem bk_vt {t : Thread} (h : DB t) : VT (bk t (lst t)) := by
  have hl := h.lst
  refine ⟨by unfold bk; rw [List.length_map]; exact h.l1, by unfold bk; rw [List.length_map]; exact h.l2, fun p hp => ?_⟩
  obtain ⟨q, hq, rfl⟩ := List.mem_map.mp hp
  obtain ⟨a, b, c, d⟩ := h.at_ q hq
  have := le_lst hq
  exact ⟨by show 0 ≤ lst t - q.1 - (q.2.length : Int); omega, by show lst t - q.1 - (q.2.length : Int) ≤ 200; omega, c.rev⟩
theorem row_bd {t : Thread} (h : VT t) : ∀ v ∈ row t, 0 ≤ v ∧ v ≤ 800 := fun v hv => by
  obtain ⟨y, _, rfl⟩ := List.mem_map.mp hv
  have := atY_bd (t := t) (fun p hp => (h.at_ p hp).2.2) y
  have := h.l2
  omega
end K20

set_option Elab.async false
set_option linter.all false
set_option maxRecDepth 100000
set_option maxHeartbeats 8000000
namespace K20
open PySem PySem.Spec PyProof.Rows L2 DL
theorem u3_p {S β : Type} {f : D → D → D → M S β} (x y z : D) : u3 (.tuple [x, y, z]) f = f x y z := rfl
theorem tup3 (x y z : D) : tupD [x, y, z] = some (.tuple [x, y, z]) := if_pos (by simp)
theorem strands_t {k : Int} {st : Pot} {t : Thread} (hp : PI k st) (hk : k ≤ 1000000) (h : VT t) : ∃ st', m__law_are_strands_right [eT t] st = some (.bool true, st') ∧ PI (k + 1) st' := by
  cases t with
  | nil => exact absurd rfl h.ne
  | cons p r => exact strands_e hp hk (h.at_ p List.mem_cons_self).2.2
theorem loose_t {k : Int} {st : Pot} {t : Thread} {b : Band} (hp : PI k st) (hk : k ≤ 1000000) (h : VT t) (hb : VB b) : ∃ st', m__law_are_loose_right [eT t, .tuple (eI (row t)), eP b] st = some (.bool true, st') ∧ PI (k + 1) st' := by
  cases t with
  | nil => exact absurd rfl h.ne
  | cons p r => exact loose_e hp hk h hb
theorem part_wide {t : Thread} {b c : Band} (h : fst t < lst t) (h1 : c.1 ≤ b.1) (h2 : b.2 ≤ c.2) {x y : Int} (e : evp t b = some (x, y)) : ∃ u v, evp t c = some (u, v) ∧ ¬ v - u < y - x := by
  obtain ⟨hxy, lr⟩ := evp_some h e
  have okw : ∀ z, x ≤ z → z < y → okb c (atY t z) = true := fun z z1 z2 => by
    have := lr.h2 z z1 (by omega)
    unfold okb at this ⊢
    simp only [Bool.and_eq_true, decide_eq_true_eq] at this ⊢
    omega
  have b0 := lr.h0
  have b1 := lr.h1
  cases ec : evp t c with
  | none =>
    have := evp_none h ec x (by omega) (by omega)
    rw [okw x (by omega) (by omega)] at this
    cases this
  | some q =>
    obtain ⟨u, v⟩ := q
    obtain ⟨huv, lr2⟩ := evp_some h ec
    have := (lr2.h3 x y (by omega) hxy (by omega) okw).1
    exact ⟨u, v, rfl, by omega⟩
theorem law_right_e {k : Int} {st : Pot} (hp : PI k st) (hk : k ≤ 900000) : ∃ st', m__law_right [] st = some (.bool true, st') ∧ PI (k + 500) st' := by
  obtain ⟨t, s1, e1, ht, p1⟩ := thread_e hp (by omega)
  obtain ⟨r, s2, e2, hr, p2⟩ := thread_e p1 (by omega)
  have vt := ht.db.vt
  have vr := hr.db.vt
  have hT := ht.app hr
  have ea := eT_app t r (by have := ht.l2; have := hr.l2; omega)
  have eb := eT_app r t (by have := ht.l2; have := hr.l2; omega)
  have vrt := (hr.app ht).vt
  have hf := fst_app vt.ne vr.ne
  have hl := lst_app vt.ne vr.ne
  have hrow := row_comm vt.ne vr.ne
  have hat : ∀ y, atY (t ++ r) y = atY t y + atY r y := atY_app t r
  generalize hTT : t ++ r = T at hT ea hf hl hrow hat
  have v := hT.vt
  have l0 := v.lst0
  have f0 := v.fst0
  have hlst := hT.lst
  have hne := row_ne v
  have hi0 := row_bd v _ (hi_mem hne)
  obtain ⟨lw, s3, e3, w0, w1, p3⟩ := take_e p2 (by omega) (n := DL.hi (row T) + 1) (by omega) (by omega)
  obtain ⟨bw, s4, e4, x0, x1, p4⟩ := take_e p3 (by omega) (n := DL.hi (row T) + 1) (by omega) (by omega)
  obtain ⟨m, s5, e5, m0, m1, p5⟩ := take_e p4 (by omega) (n := 100) (by decide) (by decide)
  obtain ⟨s6, e6, p6⟩ := cuts_e p5 (by omega) v (by omega)
  obtain ⟨s7, e7, p7⟩ := strands_t p6 (by omega) vt
  generalize hb : ((lw, min 1000 (lw + bw)) : Band) = b
  have b1 : b.1 = lw := by rw [← hb]
  have b2 : b.2 = min 1000 (lw + bw) := by rw [← hb]
  have vb : VB b := ⟨by omega, by omega, by omega⟩
  generalize hc : ((max 0 (b.1 - 2), min 1000 (b.2 + 2)) : Band) = c
  have c1 : c.1 = max 0 (b.1 - 2) := by rw [← hc]
  have c2 : c.2 = min 1000 (b.2 + 2) := by rw [← hc]
  have vc : VB c := ⟨by omega, by omega, by omega⟩
  obtain ⟨s8, e8, p8⟩ := loose_t p7 (by omega) v vb
  refine ⟨s8, ?_, p8.mono (by omega)⟩
  show b__law_right st = _
  unfold b__law_right
  simp only [B_B, if_true, if_false, B_P, L_s, run0_P, mNone_P, ite_and, ite_or, ite_and', ite_or', ite_t, ite_f, boolD_b, lt_ii, le_ii, gt_ii, ge_ii, add_ii, sub_ii, neg_i, part_i, seq_t, seq_l, tup2, tup0, lst0, lst1, lstS0, tup_l, tup_t, len_t, len_l, u2_p, isi_tt, isi_ii, isi_bi, isi_ss, Bool.not_true, Bool.not_false, Bool.and_true, Bool.true_and, Bool.or_false, Bool.false_or]
  rw [B_ap e1, B_ap e2]
  simp only [B_B, ea, by_yard_e vt, by_yard_e vr, tup3, u3_p, span_e v, span_e vt, span_e vr, if_true, if_false, B_P, L_s, run0_P, mNone_P, ite_and, ite_or, ite_and', ite_or', ite_t, ite_f, boolD_b, lt_ii, le_ii, gt_ii, ge_ii, add_ii, sub_ii, neg_i, part_i, seq_t, seq_l, tup2, tup0, lst0, lst1, lstS0, tup_l, tup_t, len_t, len_l, u2_p, isi_tt, isi_ii, isi_bi, isi_ss, Bool.not_true, Bool.not_false, Bool.and_true, Bool.true_and, Bool.or_false, Bool.false_or]
  unfold eP
  simp only [B_B, ix0, ix1, min2_e, max2_e, neP, hf, hl, and_self, decide_true, Bool.false_eq_true, strengths_e v, if_true, if_false, B_P, L_s, run0_P, mNone_P, ite_and, ite_or, ite_and', ite_or', ite_t, ite_f, boolD_b, lt_ii, le_ii, gt_ii, ge_ii, add_ii, sub_ii, neg_i, part_i, seq_t, seq_l, tup2, tup0, lst0, lst1, lstS0, tup_l, tup_t, len_t, len_l, u2_p, isi_tt, isi_ii, isi_bi, isi_ss, Bool.not_true, Bool.not_false, Bool.and_true, Bool.true_and, Bool.or_false, Bool.false_or]
  rw [← hf, ← hl, range2_e (a := fst T) (b := lst T) (by omega) (by omega)]
  simp only [B_B, if_true, if_false, B_P, L_s, run0_P, mNone_P, ite_and, ite_or, ite_and', ite_or', ite_t, ite_f, boolD_b, lt_ii, le_ii, gt_ii, ge_ii, add_ii, sub_ii, neg_i, part_i, seq_t, seq_l, tup2, tup0, lst0, lst1, lstS0, tup_l, tup_t, len_t, len_l, u2_p, isi_tt, isi_ii, isi_bi, isi_ss, Bool.not_true, Bool.not_false, Bool.and_true, Bool.true_and, Bool.or_false, Bool.false_or]
  rw [show eI (yards (fst T) (lst T)) = (yards (fst T) (lst T)).map PyData.int from rfl, cmp_map (g := fun y : Int => .int (atY T y)) fun y _ => by
    simp only [get_e vt, get_e vr, if_true, if_false, B_P, L_s, run0_P, mNone_P, ite_and, ite_or, ite_and', ite_or', ite_t, ite_f, boolD_b, lt_ii, le_ii, gt_ii, ge_ii, add_ii, sub_ii, neg_i, part_i, seq_t, seq_l, tup2, tup0, lst0, lst1, lstS0, tup_l, tup_t, len_t, len_l, u2_p, isi_tt, isi_ii, isi_bi, isi_ss, Bool.not_true, Bool.not_false, Bool.and_true, Bool.true_and, Bool.or_false, Bool.false_or]
    rw [hat]]
  rw [show ((yards (fst T) (lst T)).map fun y => PyData.int (atY T y)) = eI (row T) by unfold row; rw [← eI_map]]
  have rl : (eI (row T)).length ≤ 16777216 := by rw [eI_len, row_len]; omega
  simp only [B_B, lstD_le rl, DL.neT, decide_true, Bool.false_eq_true, eb, strengths_e vrt, hrow, max_seq (seq_t (eI (row T))) hne, if_true, if_false, B_P, L_s, run0_P, mNone_P, ite_and, ite_or, ite_and', ite_or', ite_t, ite_f, boolD_b, lt_ii, le_ii, gt_ii, ge_ii, add_ii, sub_ii, neg_i, part_i, seq_t, seq_l, tup2, tup0, lst0, lst1, lstS0, tup_l, tup_t, len_t, len_l, u2_p, isi_tt, isi_ii, isi_bi, isi_ss, Bool.not_true, Bool.not_false, Bool.and_true, Bool.true_and, Bool.or_false, Bool.false_or]
  rw [B_ap e3]
  simp only [B_B, int_i, if_true, if_false, B_P, L_s, run0_P, mNone_P, ite_and, ite_or, ite_and', ite_or', ite_t, ite_f, boolD_b, lt_ii, le_ii, gt_ii, ge_ii, add_ii, sub_ii, neg_i, part_i, seq_t, seq_l, tup2, tup0, lst0, lst1, lstS0, tup_l, tup_t, len_t, len_l, u2_p, isi_tt, isi_ii, isi_bi, isi_ss, Bool.not_true, Bool.not_false, Bool.and_true, Bool.true_and, Bool.or_false, Bool.false_or]
  rw [B_ap e4]
  simp only [B_B, int_i, min2_e, ix0, ix1, max2_e, if_true, if_false, B_P, L_s, run0_P, mNone_P, ite_and, ite_or, ite_and', ite_or', ite_t, ite_f, boolD_b, lt_ii, le_ii, gt_ii, ge_ii, add_ii, sub_ii, neg_i, part_i, seq_t, seq_l, tup2, tup0, lst0, lst1, lstS0, tup_l, tup_t, len_t, len_l, u2_p, isi_tt, isi_ii, isi_bi, isi_ss, Bool.not_true, Bool.not_false, Bool.and_true, Bool.true_and, Bool.or_false, Bool.false_or]
  have hb' : (PyData.tuple [.int lw, .int (min 1000 (lw + bw))] : D) = eP b := by rw [← hb]; rfl
  have hc' : (PyData.tuple [.int (max 0 (lw - 2)), .int (min 1000 (min 1000 (lw + bw) + 2))] : D) = eP c := by rw [← hc, ← hb]; rfl
  rw [hb', hc']
  simp only [B_B, uneven_e v vb, uneven_e v vc, band_right_e v vb, Bool.false_eq_true, if_true, if_false, B_P, L_s, run0_P, mNone_P, ite_and, ite_or, ite_and', ite_or', ite_t, ite_f, boolD_b, lt_ii, le_ii, gt_ii, ge_ii, add_ii, sub_ii, neg_i, part_i, seq_t, seq_l, tup2, tup0, lst0, lst1, lstS0, tup_l, tup_t, len_t, len_l, u2_p, isi_tt, isi_ii, isi_bi, isi_ss, Bool.not_true, Bool.not_false, Bool.and_true, Bool.true_and, Bool.or_false, Bool.false_or]
  have sub : ∀ y ∈ bads T c, y ∈ bads T b := fun y hy => bads_wide (by omega) (by omega) hy
  rw [show eI (bads T c) = (bads T c).map PyData.int from rfl, cmp_map (g := fun y : Int => .bool (decide (y ∈ bads T b))) fun y _ => by
    simp only [in_tI, if_true, if_false, B_P, L_s, run0_P, mNone_P, ite_and, ite_or, ite_and', ite_or', ite_t, ite_f, boolD_b, lt_ii, le_ii, gt_ii, ge_ii, add_ii, sub_ii, neg_i, part_i, seq_t, seq_l, tup2, tup0, lst0, lst1, lstS0, tup_l, tup_t, len_t, len_l, u2_p, isi_tt, isi_ii, isi_bi, isi_ss, Bool.not_true, Bool.not_false, Bool.and_true, Bool.true_and, Bool.or_false, Bool.false_or]]
  have bl : ((bads T c).map fun y => PyData.bool (decide (y ∈ bads T b))).length ≤ 16777216 := by
    rw [List.length_map]
    have := bads_len T c
    omega
  have ball : ((bads T c).all fun y => decide (y ∈ bads T b)) = true := List.all_eq_true.mpr fun y hy => decide_eq_true (sub y hy)
  have hev : (decide (bads T b = []) && !decide (bads T c = [])) = false := by
    by_cases z : bads T b = []
    · have : bads T c = [] := List.eq_nil_iff_forall_not_mem.mpr fun y hy => by
        have := sub y hy
        rw [z] at this
        cases this
      rw [this]
      simp
    · rw [decide_eq_false z]
      rfl
  simp only [B_B, lstD_le bl, all_bools, ball, Bool.false_eq_true, is_even_e v vb, is_even_e v vc, hev, even_part_e v vb, even_part_e v vc, isntO, isO, if_true, if_false, B_P, L_s, run0_P, mNone_P, ite_and, ite_or, ite_and', ite_or', ite_t, ite_f, boolD_b, lt_ii, le_ii, gt_ii, ge_ii, add_ii, sub_ii, neg_i, part_i, seq_t, seq_l, tup2, tup0, lst0, lst1, lstS0, tup_l, tup_t, len_t, len_l, u2_p, isi_tt, isi_ii, isi_bi, isi_ss, Bool.not_true, Bool.not_false, Bool.and_true, Bool.true_and, Bool.or_false, Bool.false_or]
  have vm := mvd_vt hT m0 (show m ≤ 99 by omega)
  have vk := bk_vt hT
  have nk := v.ne
  have mfst := mvd_fst m nk
  have mlst := mvd_lst m nk
  have mrow := mvd_row m nk
  have mcnt := mvd_cnts m nk
  have mjns := mvd_jns m nk
  have mbads := mvd_bads m b nk
  have mv : m_moved [eT T, .int m] = some (eT (mvd T m)) := moved_e v m0 fun p hp => by
    obtain ⟨a, b, _, _⟩ := hT.at_ p hp
    omega
  have revE : ∀ xs : List Int, (eI xs).reverse = eI xs.reverse := fun xs => by unfold eI; rw [List.map_reverse]
  have blen : ((bads T b).map fun y => PyData.int (y + m)).length ≤ 16777216 := by
    rw [List.length_map]
    have := bads_len T b
    omega
  have jlen : ((jns T).map fun y => PyData.int (y + m)).length ≤ 16777216 := by
    rw [List.length_map]
    unfold jns
    rw [(sortI_perm _).length_eq, List.length_map]
    have := List.length_filter_le (fun p : Int × Strand => decide (fst T < p.1)) T
    have := hT.l2
    omega
  have beq : ((bads T b).map fun y => PyData.int (y + m)) = eI ((bads T b).map (· + m)) := eI_map _ _
  have jeq : ((jns T).map fun y => PyData.int (y + m)) = eI ((jns T).map (· + m)) := eI_map _ _
  rw [beq] at blen
  rw [jeq] at jlen
  cases e : evp T b with
  | none =>
    simp only [Option.isSome_none, Bool.false_eq_true, if_true, if_false, B_P, L_s, run0_P, mNone_P, ite_and, ite_or, ite_and', ite_or', ite_t, ite_f, boolD_b, lt_ii, le_ii, gt_ii, ge_ii, add_ii, sub_ii, neg_i, part_i, seq_t, seq_l, tup2, tup0, lst0, lst1, lstS0, tup_l, tup_t, len_t, len_l, u2_p, isi_tt, isi_ii, isi_bi, isi_ss, Bool.not_true, Bool.not_false, Bool.and_true, Bool.true_and, Bool.or_false, Bool.false_or]
    rw [B_ap e5]
    simp only [B_B, int_i, mv, strengths_e vm, mrow, DL.neT, decide_true, Bool.false_eq_true, span_e vm, mfst, mlst, if_true, if_false, B_P, L_s, run0_P, mNone_P, ite_and, ite_or, ite_and', ite_or', ite_t, ite_f, boolD_b, lt_ii, le_ii, gt_ii, ge_ii, add_ii, sub_ii, neg_i, part_i, seq_t, seq_l, tup2, tup0, lst0, lst1, lstS0, tup_l, tup_t, len_t, len_l, u2_p, isi_tt, isi_ii, isi_bi, isi_ss, Bool.not_true, Bool.not_false, Bool.and_true, Bool.true_and, Bool.or_false, Bool.false_or]
    unfold eP
    simp only [neP, and_self, decide_true, Bool.false_eq_true, if_true, if_false, B_P, L_s, run0_P, mNone_P, ite_and, ite_or, ite_and', ite_or', ite_t, ite_f, boolD_b, lt_ii, le_ii, gt_ii, ge_ii, add_ii, sub_ii, neg_i, part_i, seq_t, seq_l, tup2, tup0, lst0, lst1, lstS0, tup_l, tup_t, len_t, len_l, u2_p, isi_tt, isi_ii, isi_bi, isi_ss, Bool.not_true, Bool.not_false, Bool.and_true, Bool.true_and, Bool.or_false, Bool.false_or]
    rw [show m_uneven [eT (mvd T m), .tuple [.int b.1, .int b.2]] = some (.tuple (eI (bads (mvd T m) b))) from uneven_e vm vb, mbads]
    rw [show eI (bads T b) = (bads T b).map PyData.int from rfl, cmp_map (g := fun d : Int => .int (d + m)) fun d _ => by
      simp only [if_true, if_false, B_P, L_s, run0_P, mNone_P, ite_and, ite_or, ite_and', ite_or', ite_t, ite_f, boolD_b, lt_ii, le_ii, gt_ii, ge_ii, add_ii, sub_ii, neg_i, part_i, seq_t, seq_l, tup2, tup0, lst0, lst1, lstS0, tup_l, tup_t, len_t, len_l, u2_p, isi_tt, isi_ii, isi_bi, isi_ss, Bool.not_true, Bool.not_false, Bool.and_true, Bool.true_and, Bool.or_false, Bool.false_or]]
    simp only [lstD_le blen, beq, DL.neT, decide_true, Bool.false_eq_true, show m_weakest_yard [eT (mvd T m)] = some (.tuple [.int (DL.lo (row (mvd T m))), .int (fst (mvd T m) + ((row (mvd T m)).idxOf (DL.lo (row (mvd T m))) : Nat))]) from weakest_yard_e vm, show m_weakest_yard [eT T] = some (.tuple [.int (DL.lo (row T)), .int (fst T + ((row T).idxOf (DL.lo (row T)) : Nat))]) from weakest_yard_e v, ix0, ix1, mrow, mfst, neP, show fst T + m + (((row T).idxOf (DL.lo (row T)) : Nat) : Int) = fst T + (((row T).idxOf (DL.lo (row T)) : Nat) : Int) + m by omega, and_self, joins_e vm, joins_e v, mjns, if_true, if_false, B_P, L_s, run0_P, mNone_P, ite_and, ite_or, ite_and', ite_or', ite_t, ite_f, boolD_b, lt_ii, le_ii, gt_ii, ge_ii, add_ii, sub_ii, neg_i, part_i, seq_t, seq_l, tup2, tup0, lst0, lst1, lstS0, tup_l, tup_t, len_t, len_l, u2_p, isi_tt, isi_ii, isi_bi, isi_ss, Bool.not_true, Bool.not_false, Bool.and_true, Bool.true_and, Bool.or_false, Bool.false_or]
    rw [show eI (jns T) = (jns T).map PyData.int from rfl, cmp_map (g := fun d : Int => .int (d + m)) fun d _ => by
      simp only [if_true, if_false, B_P, L_s, run0_P, mNone_P, ite_and, ite_or, ite_and', ite_or', ite_t, ite_f, boolD_b, lt_ii, le_ii, gt_ii, ge_ii, add_ii, sub_ii, neg_i, part_i, seq_t, seq_l, tup2, tup0, lst0, lst1, lstS0, tup_l, tup_t, len_t, len_l, u2_p, isi_tt, isi_ii, isi_bi, isi_ss, Bool.not_true, Bool.not_false, Bool.and_true, Bool.true_and, Bool.or_false, Bool.false_or]]
    simp only [lstD_le jlen, jeq, DL.neT, decide_true, Bool.false_eq_true, show m_least_band [eT (mvd T m)] = some (.tuple [.int (DL.lo (row (mvd T m))), .int (DL.hi (row (mvd T m)))]) from least_band_e vm, show m_least_band [eT T] = some (.tuple [.int (DL.lo (row T)), .int (DL.hi (row T))]) from least_band_e v, mrow, neP, and_self, spread_e vm, spread_e v, ne_ii, beside_e vm, beside_e v, mcnt, if_true, if_false, B_P, L_s, run0_P, mNone_P, ite_and, ite_or, ite_and', ite_or', ite_t, ite_f, boolD_b, lt_ii, le_ii, gt_ii, ge_ii, add_ii, sub_ii, neg_i, part_i, seq_t, seq_l, tup2, tup0, lst0, lst1, lstS0, tup_l, tup_t, len_t, len_l, u2_p, isi_tt, isi_ii, isi_bi, isi_ss, Bool.not_true, Bool.not_false, Bool.and_true, Bool.true_and, Bool.or_false, Bool.false_or]
    rw [show eT T = PyData.tuple (T.map eE) from rfl]
    simp only [if_true, if_false, B_P, L_s, run0_P, mNone_P, ite_and, ite_or, ite_and', ite_or', ite_t, ite_f, boolD_b, lt_ii, le_ii, gt_ii, ge_ii, add_ii, sub_ii, neg_i, part_i, seq_t, seq_l, tup2, tup0, lst0, lst1, lstS0, tup_l, tup_t, len_t, len_l, u2_p, isi_tt, isi_ii, isi_bi, isi_ss, Bool.not_true, Bool.not_false, Bool.and_true, Bool.true_and, Bool.or_false, Bool.false_or]
    rw [cmp_map (g := fun p : Int × Strand => eE (lst T - p.1 - (p.2.length : Int), p.2.reverse)) fun p hp => by
      unfold eE
      simp only [show lenD [eS p.2] = some (.int (p.2.length : Int)) from (len_t (eI p.2)).trans (by rw [eI_len]), turned_e (hT.vt.at_ p hp).2.2, if_true, if_false, B_P, L_s, run0_P, mNone_P, ite_and, ite_or, ite_and', ite_or', ite_t, ite_f, boolD_b, lt_ii, le_ii, gt_ii, ge_ii, add_ii, sub_ii, neg_i, part_i, seq_t, seq_l, tup2, tup0, lst0, lst1, lstS0, tup_l, tup_t, len_t, len_l, u2_p, isi_tt, isi_ii, isi_bi, isi_ss, Bool.not_true, Bool.not_false, Bool.and_true, Bool.true_and, Bool.or_false, Bool.false_or]]
    rw [show PyData.tuple (T.map eE) = eT T from rfl]
    have kl : (T.map fun p : Int × Strand => eE (lst T - p.1 - (p.2.length : Int), p.2.reverse)).length ≤ 16777216 := by
      rw [List.length_map]
      have := hT.l2
      omega
    have keq : PyData.tuple (T.map fun p : Int × Strand => eE (lst T - p.1 - (p.2.length : Int), p.2.reverse)) = eT (bk T (lst T)) := by
      unfold eT bk
      rw [List.map_map]
      rfl
    simp only [lstD_le kl, keq, strengths_e vk, bk_row nk, rev_t, revE, DL.neT, decide_true, Bool.false_eq_true, beside_e vk, beside_e v, bk_cnts nk, if_true, if_false, B_P, L_s, run0_P, mNone_P, ite_and, ite_or, ite_and', ite_or', ite_t, ite_f, boolD_b, lt_ii, le_ii, gt_ii, ge_ii, add_ii, sub_ii, neg_i, part_i, seq_t, seq_l, tup2, tup0, lst0, lst1, lstS0, tup_l, tup_t, len_t, len_l, u2_p, isi_tt, isi_ii, isi_bi, isi_ss, Bool.not_true, Bool.not_false, Bool.and_true, Bool.true_and, Bool.or_false, Bool.false_or]
    rw [show m_needless [eT (bk T (lst T)), .tuple [.int b.1, .int b.2]] = some (.tuple (eI (ndl (bk T (lst T)) b))) from needless_e vk vb, show m_needless [eT T, .tuple [.int b.1, .int b.2]] = some (.tuple (eI (ndl T b))) from needless_e v vb, bk_ndl b nk]
    simp only [DL.neT, decide_true, Bool.false_eq_true, if_true, if_false, B_P, L_s, run0_P, mNone_P, ite_and, ite_or, ite_and', ite_or', ite_t, ite_f, boolD_b, lt_ii, le_ii, gt_ii, ge_ii, add_ii, sub_ii, neg_i, part_i, seq_t, seq_l, tup2, tup0, lst0, lst1, lstS0, tup_l, tup_t, len_t, len_l, u2_p, isi_tt, isi_ii, isi_bi, isi_ss, Bool.not_true, Bool.not_false, Bool.and_true, Bool.true_and, Bool.or_false, Bool.false_or]
    rw [B_ap e6]
    simp only [if_true, if_false, B_P, L_s, run0_P, mNone_P, ite_and, ite_or, ite_and', ite_or', ite_t, ite_f, boolD_b, lt_ii, le_ii, gt_ii, ge_ii, add_ii, sub_ii, neg_i, part_i, seq_t, seq_l, tup2, tup0, lst0, lst1, lstS0, tup_l, tup_t, len_t, len_l, u2_p, isi_tt, isi_ii, isi_bi, isi_ss, Bool.not_true, Bool.not_false, Bool.and_true, Bool.true_and, Bool.or_false, Bool.false_or]
    rw [B_ap e7]
    simp only [if_true, if_false, B_P, L_s, run0_P, mNone_P, ite_and, ite_or, ite_and', ite_or', ite_t, ite_f, boolD_b, lt_ii, le_ii, gt_ii, ge_ii, add_ii, sub_ii, neg_i, part_i, seq_t, seq_l, tup2, tup0, lst0, lst1, lstS0, tup_l, tup_t, len_t, len_l, u2_p, isi_tt, isi_ii, isi_bi, isi_ss, Bool.not_true, Bool.not_false, Bool.and_true, Bool.true_and, Bool.or_false, Bool.false_or]
    exact e8
  | some q =>
    obtain ⟨x, y⟩ := q
    obtain ⟨u, z, ec, hw⟩ := part_wide l0.1 (b := b) (c := c) (by omega) (by omega) e
    obtain ⟨hxy, lr⟩ := evp_some l0.1 e
    rw [ec]
    simp only [Option.isSome_some, Option.isNone_some, show eO (some (x, y)) = .tuple [.int x, .int y] from rfl, show eO (some (u, z)) = .tuple [.int u, .int z] from rfl, ix0, ix1, decide_eq_false hw, Bool.false_eq_true, if_true, if_false, B_P, L_s, run0_P, mNone_P, ite_and, ite_or, ite_and', ite_or', ite_t, ite_f, boolD_b, lt_ii, le_ii, gt_ii, ge_ii, add_ii, sub_ii, neg_i, part_i, seq_t, seq_l, tup2, tup0, lst0, lst1, lstS0, tup_l, tup_t, len_t, len_l, u2_p, isi_tt, isi_ii, isi_bi, isi_ss, Bool.not_true, Bool.not_false, Bool.and_true, Bool.true_and, Bool.or_false, Bool.false_or]
    rw [show eI (bads T b) = (bads T b).map PyData.int from rfl, cmp_map (g := fun d : Int => .bool (decide (x ≤ d) && decide (d < y))) fun d _ => by
      simp only [if_true, if_false, B_P, L_s, run0_P, mNone_P, ite_and, ite_or, ite_and', ite_or', ite_t, ite_f, boolD_b, lt_ii, le_ii, gt_ii, ge_ii, add_ii, sub_ii, neg_i, part_i, seq_t, seq_l, tup2, tup0, lst0, lst1, lstS0, tup_l, tup_t, len_t, len_l, u2_p, isi_tt, isi_ii, isi_bi, isi_ss, Bool.not_true, Bool.not_false, Bool.and_true, Bool.true_and, Bool.or_false, Bool.false_or]]
    have al : ((bads T b).map fun d => PyData.bool (decide (x ≤ d) && decide (d < y))).length ≤ 16777216 := by
      rw [List.length_map]
      have := bads_len T b
      omega
    have an : ((bads T b).any fun d => decide (x ≤ d) && decide (d < y)) = false := by
      rw [List.any_eq_false]
      intro d hd hcon
      simp only [Bool.and_eq_true, decide_eq_true_eq] at hcon
      have := lr.h2 d hcon.1 (by omega)
      rw [(bads_mem.mp hd).2] at this
      cases this
    simp only [lstD_le al, any_bools, an, Bool.false_eq_true, if_true, if_false, B_P, L_s, run0_P, mNone_P, ite_and, ite_or, ite_and', ite_or', ite_t, ite_f, boolD_b, lt_ii, le_ii, gt_ii, ge_ii, add_ii, sub_ii, neg_i, part_i, seq_t, seq_l, tup2, tup0, lst0, lst1, lstS0, tup_l, tup_t, len_t, len_l, u2_p, isi_tt, isi_ii, isi_bi, isi_ss, Bool.not_true, Bool.not_false, Bool.and_true, Bool.true_and, Bool.or_false, Bool.false_or]
    rw [B_ap e5]
    rw [show (bads T b).map PyData.int = eI (bads T b) from rfl]
    simp only [B_B, int_i, mv, strengths_e vm, mrow, DL.neT, decide_true, Bool.false_eq_true, span_e vm, mfst, mlst, if_true, if_false, B_P, L_s, run0_P, mNone_P, ite_and, ite_or, ite_and', ite_or', ite_t, ite_f, boolD_b, lt_ii, le_ii, gt_ii, ge_ii, add_ii, sub_ii, neg_i, part_i, seq_t, seq_l, tup2, tup0, lst0, lst1, lstS0, tup_l, tup_t, len_t, len_l, u2_p, isi_tt, isi_ii, isi_bi, isi_ss, Bool.not_true, Bool.not_false, Bool.and_true, Bool.true_and, Bool.or_false, Bool.false_or]
    unfold eP
    simp only [neP, and_self, decide_true, Bool.false_eq_true, if_true, if_false, B_P, L_s, run0_P, mNone_P, ite_and, ite_or, ite_and', ite_or', ite_t, ite_f, boolD_b, lt_ii, le_ii, gt_ii, ge_ii, add_ii, sub_ii, neg_i, part_i, seq_t, seq_l, tup2, tup0, lst0, lst1, lstS0, tup_l, tup_t, len_t, len_l, u2_p, isi_tt, isi_ii, isi_bi, isi_ss, Bool.not_true, Bool.not_false, Bool.and_true, Bool.true_and, Bool.or_false, Bool.false_or]
    rw [show m_uneven [eT (mvd T m), .tuple [.int b.1, .int b.2]] = some (.tuple (eI (bads (mvd T m) b))) from uneven_e vm vb, mbads]
    rw [show eI (bads T b) = (bads T b).map PyData.int from rfl, cmp_map (g := fun d : Int => .int (d + m)) fun d _ => by
      simp only [if_true, if_false, B_P, L_s, run0_P, mNone_P, ite_and, ite_or, ite_and', ite_or', ite_t, ite_f, boolD_b, lt_ii, le_ii, gt_ii, ge_ii, add_ii, sub_ii, neg_i, part_i, seq_t, seq_l, tup2, tup0, lst0, lst1, lstS0, tup_l, tup_t, len_t, len_l, u2_p, isi_tt, isi_ii, isi_bi, isi_ss, Bool.not_true, Bool.not_false, Bool.and_true, Bool.true_and, Bool.or_false, Bool.false_or]]
    simp only [lstD_le blen, beq, DL.neT, decide_true, Bool.false_eq_true, show m_weakest_yard [eT (mvd T m)] = some (.tuple [.int (DL.lo (row (mvd T m))), .int (fst (mvd T m) + ((row (mvd T m)).idxOf (DL.lo (row (mvd T m))) : Nat))]) from weakest_yard_e vm, show m_weakest_yard [eT T] = some (.tuple [.int (DL.lo (row T)), .int (fst T + ((row T).idxOf (DL.lo (row T)) : Nat))]) from weakest_yard_e v, ix0, ix1, mrow, mfst, neP, show fst T + m + (((row T).idxOf (DL.lo (row T)) : Nat) : Int) = fst T + (((row T).idxOf (DL.lo (row T)) : Nat) : Int) + m by omega, and_self, joins_e vm, joins_e v, mjns, if_true, if_false, B_P, L_s, run0_P, mNone_P, ite_and, ite_or, ite_and', ite_or', ite_t, ite_f, boolD_b, lt_ii, le_ii, gt_ii, ge_ii, add_ii, sub_ii, neg_i, part_i, seq_t, seq_l, tup2, tup0, lst0, lst1, lstS0, tup_l, tup_t, len_t, len_l, u2_p, isi_tt, isi_ii, isi_bi, isi_ss, Bool.not_true, Bool.not_false, Bool.and_true, Bool.true_and, Bool.or_false, Bool.false_or]
    rw [show eI (jns T) = (jns T).map PyData.int from rfl, cmp_map (g := fun d : Int => .int (d + m)) fun d _ => by
      simp only [if_true, if_false, B_P, L_s, run0_P, mNone_P, ite_and, ite_or, ite_and', ite_or', ite_t, ite_f, boolD_b, lt_ii, le_ii, gt_ii, ge_ii, add_ii, sub_ii, neg_i, part_i, seq_t, seq_l, tup2, tup0, lst0, lst1, lstS0, tup_l, tup_t, len_t, len_l, u2_p, isi_tt, isi_ii, isi_bi, isi_ss, Bool.not_true, Bool.not_false, Bool.and_true, Bool.true_and, Bool.or_false, Bool.false_or]]
    simp only [lstD_le jlen, jeq, DL.neT, decide_true, Bool.false_eq_true, show m_least_band [eT (mvd T m)] = some (.tuple [.int (DL.lo (row (mvd T m))), .int (DL.hi (row (mvd T m)))]) from least_band_e vm, show m_least_band [eT T] = some (.tuple [.int (DL.lo (row T)), .int (DL.hi (row T))]) from least_band_e v, mrow, neP, and_self, spread_e vm, spread_e v, ne_ii, beside_e vm, beside_e v, mcnt, if_true, if_false, B_P, L_s, run0_P, mNone_P, ite_and, ite_or, ite_and', ite_or', ite_t, ite_f, boolD_b, lt_ii, le_ii, gt_ii, ge_ii, add_ii, sub_ii, neg_i, part_i, seq_t, seq_l, tup2, tup0, lst0, lst1, lstS0, tup_l, tup_t, len_t, len_l, u2_p, isi_tt, isi_ii, isi_bi, isi_ss, Bool.not_true, Bool.not_false, Bool.and_true, Bool.true_and, Bool.or_false, Bool.false_or]
    rw [show eT T = PyData.tuple (T.map eE) from rfl]
    simp only [if_true, if_false, B_P, L_s, run0_P, mNone_P, ite_and, ite_or, ite_and', ite_or', ite_t, ite_f, boolD_b, lt_ii, le_ii, gt_ii, ge_ii, add_ii, sub_ii, neg_i, part_i, seq_t, seq_l, tup2, tup0, lst0, lst1, lstS0, tup_l, tup_t, len_t, len_l, u2_p, isi_tt, isi_ii, isi_bi, isi_ss, Bool.not_true, Bool.not_false, Bool.and_true, Bool.true_and, Bool.or_false, Bool.false_or]
    rw [cmp_map (g := fun p : Int × Strand => eE (lst T - p.1 - (p.2.length : Int), p.2.reverse)) fun p hp => by
      unfold eE
      simp only [show lenD [eS p.2] = some (.int (p.2.length : Int)) from (len_t (eI p.2)).trans (by rw [eI_len]), turned_e (hT.vt.at_ p hp).2.2, if_true, if_false, B_P, L_s, run0_P, mNone_P, ite_and, ite_or, ite_and', ite_or', ite_t, ite_f, boolD_b, lt_ii, le_ii, gt_ii, ge_ii, add_ii, sub_ii, neg_i, part_i, seq_t, seq_l, tup2, tup0, lst0, lst1, lstS0, tup_l, tup_t, len_t, len_l, u2_p, isi_tt, isi_ii, isi_bi, isi_ss, Bool.not_true, Bool.not_false, Bool.and_true, Bool.true_and, Bool.or_false, Bool.false_or]]
    rw [show PyData.tuple (T.map eE) = eT T from rfl]
    have kl : (T.map fun p : Int × Strand => eE (lst T - p.1 - (p.2.length : Int), p.2.reverse)).length ≤ 16777216 := by
      rw [List.length_map]
      have := hT.l2
      omega
    have keq : PyData.tuple (T.map fun p : Int × Strand => eE (lst T - p.1 - (p.2.length : Int), p.2.reverse)) = eT (bk T (lst T)) := by
      unfold eT bk
      rw [List.map_map]
      rfl
    simp only [lstD_le kl, keq, strengths_e vk, bk_row nk, rev_t, revE, DL.neT, decide_true, Bool.false_eq_true, beside_e vk, beside_e v, bk_cnts nk, if_true, if_false, B_P, L_s, run0_P, mNone_P, ite_and, ite_or, ite_and', ite_or', ite_t, ite_f, boolD_b, lt_ii, le_ii, gt_ii, ge_ii, add_ii, sub_ii, neg_i, part_i, seq_t, seq_l, tup2, tup0, lst0, lst1, lstS0, tup_l, tup_t, len_t, len_l, u2_p, isi_tt, isi_ii, isi_bi, isi_ss, Bool.not_true, Bool.not_false, Bool.and_true, Bool.true_and, Bool.or_false, Bool.false_or]
    rw [show m_needless [eT (bk T (lst T)), .tuple [.int b.1, .int b.2]] = some (.tuple (eI (ndl (bk T (lst T)) b))) from needless_e vk vb, show m_needless [eT T, .tuple [.int b.1, .int b.2]] = some (.tuple (eI (ndl T b))) from needless_e v vb, bk_ndl b nk]
    simp only [DL.neT, decide_true, Bool.false_eq_true, if_true, if_false, B_P, L_s, run0_P, mNone_P, ite_and, ite_or, ite_and', ite_or', ite_t, ite_f, boolD_b, lt_ii, le_ii, gt_ii, ge_ii, add_ii, sub_ii, neg_i, part_i, seq_t, seq_l, tup2, tup0, lst0, lst1, lstS0, tup_l, tup_t, len_t, len_l, u2_p, isi_tt, isi_ii, isi_bi, isi_ss, Bool.not_true, Bool.not_false, Bool.and_true, Bool.true_and, Bool.or_false, Bool.false_or]
    rw [B_ap e6]
    simp only [if_true, if_false, B_P, L_s, run0_P, mNone_P, ite_and, ite_or, ite_and', ite_or', ite_t, ite_f, boolD_b, lt_ii, le_ii, gt_ii, ge_ii, add_ii, sub_ii, neg_i, part_i, seq_t, seq_l, tup2, tup0, lst0, lst1, lstS0, tup_l, tup_t, len_t, len_l, u2_p, isi_tt, isi_ii, isi_bi, isi_ss, Bool.not_true, Bool.not_false, Bool.and_true, Bool.true_and, Bool.or_false, Bool.false_or]
    rw [B_ap e7]
    simp only [if_true, if_false, B_P, L_s, run0_P, mNone_P, ite_and, ite_or, ite_and', ite_or', ite_t, ite_f, boolD_b, lt_ii, le_ii, gt_ii, ge_ii, add_ii, sub_ii, neg_i, part_i, seq_t, seq_l, tup2, tup0, lst0, lst1, lstS0, tup_l, tup_t, len_t, len_l, u2_p, isi_tt, isi_ii, isi_bi, isi_ss, Bool.not_true, Bool.not_false, Bool.and_true, Bool.true_and, Bool.or_false, Bool.false_or]
    exact e8
end K20

set_option Elab.async false
set_option linter.all false
set_option maxRecDepth 100000
set_option maxHeartbeats 8000000
namespace K20
open PySem PySem.Spec PyProof.Rows L2 DL
theorem t_law_e {st : Pot} (hp : PI 0 st) : runT t_law st = some false := by
  obtain ⟨xs, s', e, l, r, p⟩ := cmp_st (e := fun b : Bool => (.bool b : D)) (R := fun b : Bool => b = true) (st := 500) (N := 900000)
    (f := fun _ => B (m__law_right []) fun x => P (some x)) (by decide) (eI (yards 0 3)) 0 st hp (by rw [eI_len, yards_len]; decide) fun d _ k s hs hk => by
    obtain ⟨s1, e1, p1⟩ := law_right_e hs (by omega)
    refine ⟨true, s1, ?_, rfl, p1⟩
    rw [B_ap e1]
    rfl
  have hl : (xs.map fun b : Bool => (.bool b : D)).length ≤ 16777216 := by
    rw [List.length_map, l, eI_len, yards_len]
    decide
  have ha : (xs.all fun b => b) = true := List.all_eq_true.mpr r
  have key : t_law st = some (false, s') := by
    unfold t_law
    simp only [B_B, range1_e (b := 3) (by decide), if_true, if_false, B_P, L_s, run0_P, mNone_P, ite_and, ite_or, ite_and', ite_or', ite_t, ite_f, boolD_b, lt_ii, le_ii, gt_ii, ge_ii, add_ii, sub_ii, neg_i, part_i, seq_t, seq_l, tup2, tup0, lst0, lst1, lstS0, tup_l, tup_t, len_t, len_l, u2_p, isi_tt, isi_ii, isi_bi, isi_ss, Bool.not_true, Bool.not_false, Bool.and_true, Bool.true_and, Bool.or_false, Bool.false_or]
    rw [B_ap e]
    simp only [lstD_le hl, all_bools (fun b : Bool => b), ha, if_true, if_false, B_P, L_s, run0_P, mNone_P, ite_and, ite_or, ite_and', ite_or', ite_t, ite_f, boolD_b, lt_ii, le_ii, gt_ii, ge_ii, add_ii, sub_ii, neg_i, part_i, seq_t, seq_l, tup2, tup0, lst0, lst1, lstS0, tup_l, tup_t, len_t, len_l, u2_p, isi_tt, isi_ii, isi_bi, isi_ss, Bool.not_true, Bool.not_false, Bool.and_true, Bool.true_and, Bool.or_false, Bool.false_or]
    rfl
  unfold runT
  rw [key]
  rfl
theorem pw {i j : Int} (h : 0 ≤ j ∧ (Builtin.Int.intBits i : Int) * j ≤ 2 ^ 27) : powD (.int i) (.int j) = some (.int (i ^ j.toNat)) := if_pos h
theorem pow_a : ∃ A Z : Int, powD (.int 10) (.int 60) = some (.int A) ∧ powD (.int A) (.int 5) = some (.int Z) ∧ 0 < Z :=
  ⟨10 ^ (60 : Int).toNat, (10 ^ (60 : Int).toNat) ^ (5 : Int).toNat, pw (by decide +kernel), pw (by decide +kernel), by decide +kernel⟩
theorem pow_b : ∃ A : Int, powD (.int 10) (.int 18) = some (.int A) := ⟨10 ^ (18 : Int).toNat, pw (by decide +kernel)⟩
def bit (b : Bool) : Int := if b = true then 1 else 0
theorem bit_bd (b : Bool) : 0 ≤ bit b ∧ bit b ≤ 1 := by cases b <;> decide
theorem int_b (b : Bool) : intL [.bool b] = some (.int (bit b)) := by cases b <;> rfl
theorem abs_ab (i : Int) : absL [.int i] = some (.int (ab i)) := rfl
theorem lst3 (x y z : D) : lstD [x, y, z] = some (.list [x, y, z]) := if_pos (by simp)
theorem pot_e {ns : List Int} {j : Int} (h0 : 0 ≤ j) (h1 : j < max 1 (min 4 (ns.length : Int))) : ∃ a b : Int, m__law_pot ns [.int j] = some (.list [.int a, .int b, .int 0]) ∧ 0 ≤ a ∧ 0 ≤ b ∧ b < 2305843009213693921 := by
  obtain ⟨A, Z, pa, pz, z0⟩ := pow_a
  obtain ⟨C, pc⟩ := pow_b
  have bd : ∀ own : Int, 0 ≤ ab own % Z * bit (decide (C ≤ ab own)) ∧ 0 ≤ (own % 2305843009213693951 * 113546 + 8861 * j * j + 241) % 2305843009213693921 ∧ (own % 2305843009213693951 * 113546 + 8861 * j * j + 241) % 2305843009213693921 < 2305843009213693921 := fun own =>
    ⟨Int.mul_nonneg (Int.emod_nonneg _ (by omega)) (bit_bd _).1, Int.emod_nonneg _ (by decide), Int.emod_lt_of_pos _ (by decide)⟩
  have mb : ∀ (x : Int) (b : Bool), mulD (.int x) (.int (bit b)) = some (.int (x * bit b)) := fun x b => mul_ii (.inr (by have := bit_bd b; omega))
  by_cases c : j < (ns.length : Int)
  · have hx : ixD (.list (ns.map .int)) (.int j) = some (.int (ns.getD j.toNat 0)) := (ix_nat (xs := ns.map .int) h0 (by rw [List.length_map]; exact c) (by
      rw [List.getElem?_map, List.getElem?_eq_getElem (by omega)]
      simp [List.getD_eq_getElem?_getD, List.getElem?_eq_getElem (show j.toNat < ns.length by omega)])).2
    generalize ho : ns.getD j.toNat 0 = own at hx
    refine ⟨_, _, ?_, bd own⟩
    show run0 (b__law_pot ns (.int j)) = _
    unfold b__law_pot
    simp only [decide_eq_true c, hx, abs_ab, int_i, int_b, pa, pz, pc, mod_ii z0, mb, mod_ii (j := 2305843009213693951) (by decide), mod_ii (j := 2305843009213693921) (by decide), mul_ii (i := own % 2305843009213693951) (j := 113546) (.inr (by decide)), mul_ii (i := 8861) (j := j) (.inl (by decide)), mul_ii (i := 8861 * j) (j := j) (.inr (by omega)), lst3, if_true, if_false, B_P, L_s, run0_P, mNone_P, ite_and, ite_or, ite_and', ite_or', ite_t, ite_f, boolD_b, lt_ii, le_ii, gt_ii, ge_ii, add_ii, sub_ii, neg_i, part_i, seq_t, seq_l, tup2, tup0, lst0, lst1, lstS0, tup_l, tup_t, len_t, len_l, u2_p, isi_tt, isi_ii, isi_bi, isi_ss, Bool.not_true, Bool.not_false, Bool.and_true, Bool.true_and, Bool.or_false, Bool.false_or]
  · have hj : j = 0 := by omega
    have hn : ns = [] := List.eq_nil_of_length_eq_zero (by omega)
    subst hj
    subst hn
    refine ⟨_, _, ?_, bd ((0 % 1000003 + 7741 * 0) + 24802)⟩
    show run0 (b__law_pot [] (.int 0)) = _
    unfold b__law_pot
    simp only [decide_eq_false c, Bool.false_eq_true, show sliceD (.list (([] : List Int).map .int)) none (some 1) = some (.list []) from rfl, show sumL [.list []] = some (.int 0) from rfl, mod_ii (i := 0) (j := 1000003) (by decide), mul_ii (i := 7741) (j := 0) (.inl (by decide)), abs_ab, int_i, int_b, pa, pz, pc, mod_ii z0, mb, mod_ii (j := 2305843009213693951) (by decide), mod_ii (j := 2305843009213693921) (by decide), mul_ii (i := (0 % 1000003 + 7741 * 0 + 24802) % 2305843009213693951) (j := 113546) (.inr (by decide)), mul_ii (i := 8861) (j := 0) (.inl (by decide)), mul_ii (i := 8861 * 0) (j := 0) (.inr (by decide)), lst3, if_true, if_false, B_P, L_s, run0_P, mNone_P, ite_and, ite_or, ite_and', ite_or', ite_t, ite_f, boolD_b, lt_ii, le_ii, gt_ii, ge_ii, add_ii, sub_ii, neg_i, part_i, seq_t, seq_l, tup2, tup0, lst0, lst1, lstS0, tup_l, tup_t, len_t, len_l, u2_p, isi_tt, isi_ii, isi_bi, isi_ss, Bool.not_true, Bool.not_false, Bool.and_true, Bool.true_and, Bool.or_false, Bool.false_or]
theorem places_e (ns : List Int) (h : ns.length ≤ 63) : m__law_places ns [.int 4] = some (.list (eI (yards 0 (max 1 (min 4 (ns.length : Int)))))) := by
  show run0 (b__law_places ns (.int 4)) = _
  unfold b__law_places
  simp only [min2_e, max2_e, if_true, if_false, B_P, L_s, run0_P, mNone_P, ite_and, ite_or, ite_and', ite_or', ite_t, ite_f, boolD_b, lt_ii, le_ii, gt_ii, ge_ii, add_ii, sub_ii, neg_i, part_i, seq_t, seq_l, tup2, tup0, lst0, lst1, lstS0, tup_l, tup_t, len_t, len_l, u2_p, isi_tt, isi_ii, isi_bi, isi_ss, Bool.not_true, Bool.not_false, Bool.and_true, Bool.true_and, Bool.or_false, Bool.false_or]
  rw [← rgL_y]
  show run0 (L (if _ then _ else _)) = _
  rw [if_pos (by omega)]
  rfl
theorem law_true (ns : List Int) (h : ns.length ≤ 63) : m_law ns [] = some (.bool true) := by
  show run0 (b_law ns) = _
  unfold b_law
  simp only [places_e ns h, if_true, if_false, B_P, L_s, run0_P, mNone_P, ite_and, ite_or, ite_and', ite_or', ite_t, ite_f, boolD_b, lt_ii, le_ii, gt_ii, ge_ii, add_ii, sub_ii, neg_i, part_i, seq_t, seq_l, tup2, tup0, lst0, lst1, lstS0, tup_l, tup_t, len_t, len_l, u2_p, isi_tt, isi_ii, isi_bi, isi_ss, Bool.not_true, Bool.not_false, Bool.and_true, Bool.true_and, Bool.or_false, Bool.false_or]
  rw [foldF_unit fun d hd => ?_]
  · simp only [kF_nx, if_true, if_false, B_P, L_s, run0_P, mNone_P, ite_and, ite_or, ite_and', ite_or', ite_t, ite_f, boolD_b, lt_ii, le_ii, gt_ii, ge_ii, add_ii, sub_ii, neg_i, part_i, seq_t, seq_l, tup2, tup0, lst0, lst1, lstS0, tup_l, tup_t, len_t, len_l, u2_p, isi_tt, isi_ii, isi_bi, isi_ss, Bool.not_true, Bool.not_false, Bool.and_true, Bool.true_and, Bool.or_false, Bool.false_or]
  · obtain ⟨j, hj, rfl⟩ := List.mem_map.mp hd
    have hj := yards_mem.mp hj
    obtain ⟨a, b, e, a0, b0, b1⟩ := pot_e (ns := ns) hj.1 hj.2
    unfold lawBody
    simp only [show callS m__law_pot ns (.int j) = some (.list [.int a, .int b, .int 0]) from e, show potD (.list [.int a, .int b, .int 0]) = some ⟨a, b, 0⟩ from rfl, t_law_e (st := ⟨a, b, 0⟩) ⟨a0, b0, b1, Int.le_refl _, Int.le_refl _⟩, Bool.false_eq_true, if_true, if_false, B_P, L_s, run0_P, mNone_P, ite_and, ite_or, ite_and', ite_or', ite_t, ite_f, boolD_b, lt_ii, le_ii, gt_ii, ge_ii, add_ii, sub_ii, neg_i, part_i, seq_t, seq_l, tup2, tup0, lst0, lst1, lstS0, tup_l, tup_t, len_t, len_l, u2_p, isi_tt, isi_ii, isi_bi, isi_ss, Bool.not_true, Bool.not_false, Bool.and_true, Bool.true_and, Bool.or_false, Bool.false_or]
end K20

set_option Elab.async false
set_option linter.all false
set_option maxRecDepth 100000
set_option maxHeartbeats 0
namespace K20
open PySem PySem.Spec PyProof.Rows L2 DL
/-! ### the head -/
def e_is_tuple : He.DefD := ⟨("is_tuple", none), "is_tuple", "is_tuple", defArgs (topS 1), defBody (topS 1), defScope (topS 1), [], []⟩
def e_is_whole : He.DefD := ⟨("is_whole", none), "is_whole", "is_whole", defArgs (topS 2), defBody (topS 2), defScope (topS 2), [], []⟩
def e_is_integer : He.DefD := ⟨("is_integer", none), "is_integer", "is_integer", defArgs (topS 3), defBody (topS 3), defScope (topS 3), [], []⟩
def e_number_in : He.DefD := ⟨("number_in", none), "number_in", "number_in", defArgs (topS 4), defBody (topS 4), defScope (topS 4), [], []⟩
def e_is_strand : He.DefD := ⟨("is_strand", none), "is_strand", "is_strand", defArgs (topS 21), defBody (topS 21), defScope (topS 21), [], []⟩
def e_check_strand : He.DefD := ⟨("check_strand", none), "check_strand", "check_strand", defArgs (topS 22), defBody (topS 22), defScope (topS 22), [], []⟩
def e_weakest : He.DefD := ⟨("weakest", none), "weakest", "weakest", defArgs (topS 23), defBody (topS 23), defScope (topS 23), [], []⟩
def e_cut : He.DefD := ⟨("cut", none), "cut", "cut", defArgs (topS 24), defBody (topS 24), defScope (topS 24), [], []⟩
def e_end_to_end : He.DefD := ⟨("end_to_end", none), "end_to_end", "end_to_end", defArgs (topS 25), defBody (topS 25), defScope (topS 25), [], []⟩
def e_turned : He.DefD := ⟨("turned", none), "turned", "turned", defArgs (topS 26), defBody (topS 26), defScope (topS 26), [], []⟩
def e_swing : He.DefD := ⟨("swing", none), "swing", "swing", defArgs (topS 27), defBody (topS 27), defScope (topS 27), [], []⟩
def e_is_loose : He.DefD := ⟨("is_loose", none), "is_loose", "is_loose", defArgs (topS 28), defBody (topS 28), defScope (topS 28), [], []⟩
def e_check_loose : He.DefD := ⟨("check_loose", none), "check_loose", "check_loose", defArgs (topS 29), defBody (topS 29), defScope (topS 29), [], []⟩
def e_loosened : He.DefD := ⟨("loosened", none), "loosened", "loosened", defArgs (topS 30), defBody (topS 30), defScope (topS 30), [], []⟩
def e_may_be : He.DefD := ⟨("may_be", none), "may_be", "may_be", defArgs (topS 31), defBody (topS 31), defScope (topS 31), [], []⟩
def e_both : He.DefD := ⟨("both", none), "both", "both", defArgs (topS 32), defBody (topS 32), defScope (topS 32), [], []⟩
def e_is_band : He.DefD := ⟨("is_band", none), "is_band", "is_band", defArgs (topS 33), defBody (topS 33), defScope (topS 33), [], []⟩
def e_check_band : He.DefD := ⟨("check_band", none), "check_band", "check_band", defArgs (topS 34), defBody (topS 34), defScope (topS 34), [], []⟩
def e_strand_text : He.DefD := ⟨("strand_text", none), "strand_text", "strand_text", defArgs (topS 35), defBody (topS 35), defScope (topS 35), [], []⟩
def e_read_strand : He.DefD := ⟨("read_strand", none), "read_strand", "read_strand", defArgs (topS 36), defBody (topS 36), defScope (topS 36), [], []⟩
def e_is_thread : He.DefD := ⟨("is_thread", none), "is_thread", "is_thread", defArgs (topS 41), defBody (topS 41), defScope (topS 41), [], []⟩
def e_check_thread : He.DefD := ⟨("check_thread", none), "check_thread", "check_thread", defArgs (topS 42), defBody (topS 42), defScope (topS 42), [], []⟩
def e_span_of : He.DefD := ⟨("span_of", none), "span_of", "span_of", defArgs (topS 43), defBody (topS 43), defScope (topS 43), [], []⟩
def e_span : He.DefD := ⟨("span", none), "span", "span", defArgs (topS 44), defBody (topS 44), defScope (topS 44), [], []⟩
def e_at_yard : He.DefD := ⟨("at_yard", none), "at_yard", "at_yard", defArgs (topS 45), defBody (topS 45), defScope (topS 45), [], []⟩
def e_strengths_of : He.DefD := ⟨("strengths_of", none), "strengths_of", "strengths_of", defArgs (topS 46), defBody (topS 46), defScope (topS 46), [], []⟩
def e_strengths : He.DefD := ⟨("strengths", none), "strengths", "strengths", defArgs (topS 47), defBody (topS 47), defScope (topS 47), [], []⟩
def e_weakest_yard : He.DefD := ⟨("weakest_yard", none), "weakest_yard", "weakest_yard", defArgs (topS 48), defBody (topS 48), defScope (topS 48), [], []⟩
def e_spread : He.DefD := ⟨("spread", none), "spread", "spread", defArgs (topS 49), defBody (topS 49), defScope (topS 49), [], []⟩
def e_check_both : He.DefD := ⟨("check_both", none), "check_both", "check_both", defArgs (topS 50), defBody (topS 50), defScope (topS 50), [], []⟩
def e_uneven : He.DefD := ⟨("uneven", none), "uneven", "uneven", defArgs (topS 51), defBody (topS 51), defScope (topS 51), [], []⟩
def e_is_even : He.DefD := ⟨("is_even", none), "is_even", "is_even", defArgs (topS 52), defBody (topS 52), defScope (topS 52), [], []⟩
def e_even_part : He.DefD := ⟨("even_part", none), "even_part", "even_part", defArgs (topS 53), defBody (topS 53), defScope (topS 53), [], []⟩
def e_least_band : He.DefD := ⟨("least_band", none), "least_band", "least_band", defArgs (topS 54), defBody (topS 54), defScope (topS 54), [], []⟩
def e_beside : He.DefD := ⟨("beside", none), "beside", "beside", defArgs (topS 55), defBody (topS 55), defScope (topS 55), [], []⟩
def e_joins : He.DefD := ⟨("joins", none), "joins", "joins", defArgs (topS 56), defBody (topS 56), defScope (topS 56), [], []⟩
def e_moved : He.DefD := ⟨("moved", none), "moved", "moved", defArgs (topS 57), defBody (topS 57), defScope (topS 57), [], []⟩
def e_trimmed : He.DefD := ⟨("trimmed", none), "trimmed", "trimmed", defArgs (topS 58), defBody (topS 58), defScope (topS 58), [], []⟩
def e_needless : He.DefD := ⟨("needless", none), "needless", "needless", defArgs (topS 59), defBody (topS 59), defScope (topS 59), [], []⟩
def e_is_bounds : He.DefD := ⟨("is_bounds", none), "is_bounds", "is_bounds", defArgs (topS 69), defBody (topS 69), defScope (topS 69), [], []⟩
def e_check_bounds : He.DefD := ⟨("check_bounds", none), "check_bounds", "check_bounds", defArgs (topS 70), defBody (topS 70), defScope (topS 70), [], []⟩
def e_bounds_of : He.DefD := ⟨("bounds_of", none), "bounds_of", "bounds_of", defArgs (topS 71), defBody (topS 71), defScope (topS 71), [], []⟩
def e_verdict_of : He.DefD := ⟨("verdict_of", none), "verdict_of", "verdict_of", defArgs (topS 72), defBody (topS 72), defScope (topS 72), [], []⟩
def e_even : He.DefD := ⟨("even", none), "even", "even", defArgs (topS 73), defBody (topS 73), defScope (topS 73), [], []⟩
def e_borne : He.DefD := ⟨("borne", none), "borne", "borne", defArgs (topS 74), defBody (topS 74), defScope (topS 74), [], []⟩
def e__law_pot : He.DefD := ⟨("_law_pot", none), "_law_pot", "_law_pot", defArgs (topS 76), defBody (topS 76), defScope (topS 76), [], []⟩
def e__law_take : He.DefD := ⟨("_law_take", none), "_law_take", "_law_take", defArgs (topS 77), defBody (topS 77), defScope (topS 77), [], []⟩
def e__law_of : He.DefD := ⟨("_law_of", none), "_law_of", "_law_of", defArgs (topS 78), defBody (topS 78), defScope (topS 78), [], []⟩
def e__law_places : He.DefD := ⟨("_law_places", none), "_law_places", "_law_places", defArgs (topS 79), defBody (topS 79), defScope (topS 79), [], []⟩
def e__law_strand : He.DefD := ⟨("_law_strand", none), "_law_strand", "_law_strand", defArgs (topS 80), defBody (topS 80), defScope (topS 80), [], []⟩
def e__law_thread : He.DefD := ⟨("_law_thread", none), "_law_thread", "_law_thread", defArgs (topS 81), defBody (topS 81), defScope (topS 81), [], []⟩
def e__law_by_yard : He.DefD := ⟨("_law_by_yard", none), "_law_by_yard", "_law_by_yard", defArgs (topS 82), defBody (topS 82), defScope (topS 82), [], []⟩
def e__law_right : He.DefD := ⟨("_law_right", none), "_law_right", "_law_right", defArgs (topS 83), defBody (topS 83), defScope (topS 83), [], []⟩
def e__law_is_band_right : He.DefD := ⟨("_law_is_band_right", none), "_law_is_band_right", "_law_is_band_right", defArgs (topS 84), defBody (topS 84), defScope (topS 84), [], []⟩
def e__law_are_cuts_right : He.DefD := ⟨("_law_are_cuts_right", none), "_law_are_cuts_right", "_law_are_cuts_right", defArgs (topS 85), defBody (topS 85), defScope (topS 85), [], []⟩
def e__law_are_strands_right : He.DefD := ⟨("_law_are_strands_right", none), "_law_are_strands_right", "_law_are_strands_right", defArgs (topS 86), defBody (topS 86), defScope (topS 86), [], []⟩
def e__law_are_loose_right : He.DefD := ⟨("_law_are_loose_right", none), "_law_are_loose_right", "_law_are_loose_right", defArgs (topS 87), defBody (topS 87), defScope (topS 87), [], []⟩
def e_law : He.DefD := ⟨("law", none), "law", "law", defArgs (topS 88), defBody (topS 88), defScope (topS 88), [], []⟩
def fn0 : List He.DefD := [e_is_tuple, e_is_whole, e_is_integer, e_number_in, e_is_strand, e_check_strand, e_weakest, e_cut, e_end_to_end, e_turned, e_swing, e_is_loose, e_check_loose, e_loosened, e_may_be, e_both, e_is_band, e_check_band, e_strand_text, e_read_strand]
def fn1 : List He.DefD := [e_is_thread, e_check_thread, e_span_of, e_span, e_at_yard, e_strengths_of, e_strengths, e_weakest_yard, e_spread, e_check_both, e_uneven, e_is_even, e_even_part, e_least_band, e_beside, e_joins, e_moved, e_trimmed, e_needless, e_is_bounds]
def fn2 : List He.DefD := [e_check_bounds, e_bounds_of, e_verdict_of, e_even, e_borne, e__law_pot, e__law_take, e__law_of, e__law_places, e__law_strand, e__law_thread, e__law_by_yard, e__law_right, e__law_is_band_right, e__law_are_cuts_right, e__law_are_strands_right, e__law_are_loose_right, e_law]
def fn : List He.DefD := fn0 ++ fn1 ++ fn2
def fa0 : List He.Fa := [.glo "is_tuple", .glo "is_whole", .glo "is_integer", .glo "number_in", .glo "is_strand", .glo "check_strand", .glo "weakest", .glo "cut", .glo "end_to_end", .glo "turned", .glo "swing", .glo "is_loose", .glo "check_loose", .glo "loosened", .glo "may_be", .glo "both", .glo "is_band", .glo "check_band", .glo "strand_text", .glo "read_strand"]
def fa1 : List He.Fa := [.glo "is_thread", .glo "check_thread", .glo "span_of", .glo "span", .glo "at_yard", .glo "strengths_of", .glo "strengths", .glo "weakest_yard", .glo "spread", .glo "check_both", .glo "uneven", .glo "is_even", .glo "even_part", .glo "least_band", .glo "beside", .glo "joins", .glo "moved", .glo "trimmed", .glo "needless", .glo "is_bounds"]
def fa2 : List He.Fa := [.glo "check_bounds", .glo "bounds_of", .glo "verdict_of", .glo "even", .glo "borne", .glo "_law_pot", .glo "_law_take", .glo "_law_of", .glo "_law_places", .glo "_law_strand", .glo "_law_thread", .glo "_law_by_yard", .glo "_law_right", .glo "_law_is_band_right", .glo "_law_are_cuts_right", .glo "_law_are_strands_right", .glo "_law_are_loose_right", .glo "law", .str "BLANK" " ", .int "MOST_BEGIN_sure" 200]
def fa3 : List He.Fa := [.int "MOST_BEGIN_threads" 200, .int "MOST_BESIDE_sure" 8, .int "MOST_BESIDE_threads" 8, .int "MOST_ROWS" 260, .int "MOST_STRENGTH" 100, .int "MOST_SUM_strands" 1000, .int "MOST_SUM_sure" 1000, .int "MOST_TEXT" 2000, .int "MOST_YARDS" 60, .str "NEVER" "never", .str "OPEN" "open", .int "PAIR_strands" 2, .int "PAIR_sure" 2, .int "PAIR_threads" 2, .str "SURE" "sure", .free "abs", .free "all", .free "any", .free "bool", .free "dict"]
def fa4 : List He.Fa := [.free "enumerate", .free "int", .free "isinstance", .free "len", .free "list", .free "max", .free "min", .free "range", .free "sorted", .free "str", .free "sum", .free "tuple", .free "zip"]
def fa : List He.Fa := fa0 ++ fa1 ++ fa2 ++ fa3 ++ fa4
def loose0 : List PySem.Str := ["is_tuple", "is_whole", "is_integer", "number_in", "ThreadError", "BadStrand", "BadLoose", "BadThread", "BadBand", "BadNumber", "NoText", "BadBounds", "MOST_YARDS", "MOST_STRENGTH", "MOST_SUM_strands", "MOST_TEXT", "PAIR_strands", "BLANK", "is_strand", "check_strand"]
def loose1 : List PySem.Str := ["weakest", "cut", "end_to_end", "turned", "swing", "is_loose", "check_loose", "loosened", "may_be", "both", "is_band", "check_band", "strand_text", "read_strand", "MOST_BESIDE_threads", "MOST_BEGIN_threads", "PAIR_threads", "is_thread", "check_thread", "span_of"]
def loose2 : List PySem.Str := ["span", "at_yard", "strengths_of", "strengths", "weakest_yard", "spread", "check_both", "uneven", "is_even", "even_part", "least_band", "beside", "joins", "moved", "trimmed", "needless", "MOST_ROWS", "MOST_SUM_sure", "MOST_BESIDE_sure", "MOST_BEGIN_sure"]
def loose3 : List PySem.Str := ["PAIR_sure", "SURE", "NEVER", "OPEN", "is_bounds", "check_bounds", "bounds_of", "verdict_of", "even", "borne", "_law_pot", "_law_take", "_law_of", "_law_places", "_law_strand", "_law_thread", "_law_by_yard", "_law_right", "_law_is_band_right", "_law_are_cuts_right"]
def loose4 : List PySem.Str := ["_law_are_strands_right", "_law_are_loose_right"]
def loose : List PySem.Str := loose0 ++ loose1 ++ loose2 ++ loose3 ++ loose4
abbrev R : PySem.W.OpenRow := PySem.W.OpenLaw.row PySem.Challenge.rw_reeledeven_k20_threads_put_together_and
abbrev qv : PySem.Program := PySem.W.view R.prog [88]
abbrev hk : PySem.W.Hook := He.hookD 4 fa fn
def ob (s : PySem.W.SharedT) : He.AlD := He.obsDG 4 fa fn (HandSHeadRun.getT s)
theorem ob_eq (s : PySem.W.SharedT) : ob s = hk.obs s.abs := He.obsDG_eq (HandSHeadRun.getT_eq s)
theorem run (w : World) : HandSHeadRun.RunEq R qv hk ob 6000 loose w := by
  intro os
  kernel_rfl
theorem facts {K : PySem.W.Frag} {h : Heap} {mg : Str → Option Value} (X : K.In h) (G : h.Ns mainGlobals mg) (c : He.SaysD fa fn K) : Fx K mg where
  f_is_tuple := ⟨He.glo_ok X G (c.fact 0 (f := .glo "is_tuple") rfl), let ⟨fd, F⟩ := c.def_ 0 (d := e_is_tuple) rfl; ⟨fd, He5.fun_of F⟩⟩
  f_is_whole := ⟨He.glo_ok X G (c.fact 1 (f := .glo "is_whole") rfl), let ⟨fd, F⟩ := c.def_ 1 (d := e_is_whole) rfl; ⟨fd, He5.fun_of F⟩⟩
  f_is_integer := ⟨He.glo_ok X G (c.fact 2 (f := .glo "is_integer") rfl), let ⟨fd, F⟩ := c.def_ 2 (d := e_is_integer) rfl; ⟨fd, He5.fun_of F⟩⟩
  f_number_in := ⟨He.glo_ok X G (c.fact 3 (f := .glo "number_in") rfl), let ⟨fd, F⟩ := c.def_ 3 (d := e_number_in) rfl; ⟨fd, He5.fun_of F⟩⟩
  f_is_strand := ⟨He.glo_ok X G (c.fact 4 (f := .glo "is_strand") rfl), let ⟨fd, F⟩ := c.def_ 4 (d := e_is_strand) rfl; ⟨fd, He5.fun_of F⟩⟩
  f_check_strand := ⟨He.glo_ok X G (c.fact 5 (f := .glo "check_strand") rfl), let ⟨fd, F⟩ := c.def_ 5 (d := e_check_strand) rfl; ⟨fd, He5.fun_of F⟩⟩
  f_weakest := ⟨He.glo_ok X G (c.fact 6 (f := .glo "weakest") rfl), let ⟨fd, F⟩ := c.def_ 6 (d := e_weakest) rfl; ⟨fd, He5.fun_of F⟩⟩
  f_cut := ⟨He.glo_ok X G (c.fact 7 (f := .glo "cut") rfl), let ⟨fd, F⟩ := c.def_ 7 (d := e_cut) rfl; ⟨fd, He5.fun_of F⟩⟩
  f_end_to_end := ⟨He.glo_ok X G (c.fact 8 (f := .glo "end_to_end") rfl), let ⟨fd, F⟩ := c.def_ 8 (d := e_end_to_end) rfl; ⟨fd, He5.fun_of F⟩⟩
  f_turned := ⟨He.glo_ok X G (c.fact 9 (f := .glo "turned") rfl), let ⟨fd, F⟩ := c.def_ 9 (d := e_turned) rfl; ⟨fd, He5.fun_of F⟩⟩
  f_swing := ⟨He.glo_ok X G (c.fact 10 (f := .glo "swing") rfl), let ⟨fd, F⟩ := c.def_ 10 (d := e_swing) rfl; ⟨fd, He5.fun_of F⟩⟩
  f_is_loose := ⟨He.glo_ok X G (c.fact 11 (f := .glo "is_loose") rfl), let ⟨fd, F⟩ := c.def_ 11 (d := e_is_loose) rfl; ⟨fd, He5.fun_of F⟩⟩
  f_check_loose := ⟨He.glo_ok X G (c.fact 12 (f := .glo "check_loose") rfl), let ⟨fd, F⟩ := c.def_ 12 (d := e_check_loose) rfl; ⟨fd, He5.fun_of F⟩⟩
  f_loosened := ⟨He.glo_ok X G (c.fact 13 (f := .glo "loosened") rfl), let ⟨fd, F⟩ := c.def_ 13 (d := e_loosened) rfl; ⟨fd, He5.fun_of F⟩⟩
  f_may_be := ⟨He.glo_ok X G (c.fact 14 (f := .glo "may_be") rfl), let ⟨fd, F⟩ := c.def_ 14 (d := e_may_be) rfl; ⟨fd, He5.fun_of F⟩⟩
  f_both := ⟨He.glo_ok X G (c.fact 15 (f := .glo "both") rfl), let ⟨fd, F⟩ := c.def_ 15 (d := e_both) rfl; ⟨fd, He5.fun_of F⟩⟩
  f_is_band := ⟨He.glo_ok X G (c.fact 16 (f := .glo "is_band") rfl), let ⟨fd, F⟩ := c.def_ 16 (d := e_is_band) rfl; ⟨fd, He5.fun_of F⟩⟩
  f_check_band := ⟨He.glo_ok X G (c.fact 17 (f := .glo "check_band") rfl), let ⟨fd, F⟩ := c.def_ 17 (d := e_check_band) rfl; ⟨fd, He5.fun_of F⟩⟩
  f_strand_text := ⟨He.glo_ok X G (c.fact 18 (f := .glo "strand_text") rfl), let ⟨fd, F⟩ := c.def_ 18 (d := e_strand_text) rfl; ⟨fd, He5.fun_of F⟩⟩
  f_read_strand := ⟨He.glo_ok X G (c.fact 19 (f := .glo "read_strand") rfl), let ⟨fd, F⟩ := c.def_ 19 (d := e_read_strand) rfl; ⟨fd, He5.fun_of F⟩⟩
  f_is_thread := ⟨He.glo_ok X G (c.fact 20 (f := .glo "is_thread") rfl), let ⟨fd, F⟩ := c.def_ 20 (d := e_is_thread) rfl; ⟨fd, He5.fun_of F⟩⟩
  f_check_thread := ⟨He.glo_ok X G (c.fact 21 (f := .glo "check_thread") rfl), let ⟨fd, F⟩ := c.def_ 21 (d := e_check_thread) rfl; ⟨fd, He5.fun_of F⟩⟩
  f_span_of := ⟨He.glo_ok X G (c.fact 22 (f := .glo "span_of") rfl), let ⟨fd, F⟩ := c.def_ 22 (d := e_span_of) rfl; ⟨fd, He5.fun_of F⟩⟩
  f_span := ⟨He.glo_ok X G (c.fact 23 (f := .glo "span") rfl), let ⟨fd, F⟩ := c.def_ 23 (d := e_span) rfl; ⟨fd, He5.fun_of F⟩⟩
  f_at_yard := ⟨He.glo_ok X G (c.fact 24 (f := .glo "at_yard") rfl), let ⟨fd, F⟩ := c.def_ 24 (d := e_at_yard) rfl; ⟨fd, He5.fun_of F⟩⟩
  f_strengths_of := ⟨He.glo_ok X G (c.fact 25 (f := .glo "strengths_of") rfl), let ⟨fd, F⟩ := c.def_ 25 (d := e_strengths_of) rfl; ⟨fd, He5.fun_of F⟩⟩
  f_strengths := ⟨He.glo_ok X G (c.fact 26 (f := .glo "strengths") rfl), let ⟨fd, F⟩ := c.def_ 26 (d := e_strengths) rfl; ⟨fd, He5.fun_of F⟩⟩
  f_weakest_yard := ⟨He.glo_ok X G (c.fact 27 (f := .glo "weakest_yard") rfl), let ⟨fd, F⟩ := c.def_ 27 (d := e_weakest_yard) rfl; ⟨fd, He5.fun_of F⟩⟩
  f_spread := ⟨He.glo_ok X G (c.fact 28 (f := .glo "spread") rfl), let ⟨fd, F⟩ := c.def_ 28 (d := e_spread) rfl; ⟨fd, He5.fun_of F⟩⟩
  f_check_both := ⟨He.glo_ok X G (c.fact 29 (f := .glo "check_both") rfl), let ⟨fd, F⟩ := c.def_ 29 (d := e_check_both) rfl; ⟨fd, He5.fun_of F⟩⟩
  f_uneven := ⟨He.glo_ok X G (c.fact 30 (f := .glo "uneven") rfl), let ⟨fd, F⟩ := c.def_ 30 (d := e_uneven) rfl; ⟨fd, He5.fun_of F⟩⟩
  f_is_even := ⟨He.glo_ok X G (c.fact 31 (f := .glo "is_even") rfl), let ⟨fd, F⟩ := c.def_ 31 (d := e_is_even) rfl; ⟨fd, He5.fun_of F⟩⟩
  f_even_part := ⟨He.glo_ok X G (c.fact 32 (f := .glo "even_part") rfl), let ⟨fd, F⟩ := c.def_ 32 (d := e_even_part) rfl; ⟨fd, He5.fun_of F⟩⟩
  f_least_band := ⟨He.glo_ok X G (c.fact 33 (f := .glo "least_band") rfl), let ⟨fd, F⟩ := c.def_ 33 (d := e_least_band) rfl; ⟨fd, He5.fun_of F⟩⟩
  f_beside := ⟨He.glo_ok X G (c.fact 34 (f := .glo "beside") rfl), let ⟨fd, F⟩ := c.def_ 34 (d := e_beside) rfl; ⟨fd, He5.fun_of F⟩⟩
  f_joins := ⟨He.glo_ok X G (c.fact 35 (f := .glo "joins") rfl), let ⟨fd, F⟩ := c.def_ 35 (d := e_joins) rfl; ⟨fd, He5.fun_of F⟩⟩
  f_moved := ⟨He.glo_ok X G (c.fact 36 (f := .glo "moved") rfl), let ⟨fd, F⟩ := c.def_ 36 (d := e_moved) rfl; ⟨fd, He5.fun_of F⟩⟩
  f_trimmed := ⟨He.glo_ok X G (c.fact 37 (f := .glo "trimmed") rfl), let ⟨fd, F⟩ := c.def_ 37 (d := e_trimmed) rfl; ⟨fd, He5.fun_of F⟩⟩
  f_needless := ⟨He.glo_ok X G (c.fact 38 (f := .glo "needless") rfl), let ⟨fd, F⟩ := c.def_ 38 (d := e_needless) rfl; ⟨fd, He5.fun_of F⟩⟩
  f_is_bounds := ⟨He.glo_ok X G (c.fact 39 (f := .glo "is_bounds") rfl), let ⟨fd, F⟩ := c.def_ 39 (d := e_is_bounds) rfl; ⟨fd, He5.fun_of F⟩⟩
  f_check_bounds := ⟨He.glo_ok X G (c.fact 40 (f := .glo "check_bounds") rfl), let ⟨fd, F⟩ := c.def_ 40 (d := e_check_bounds) rfl; ⟨fd, He5.fun_of F⟩⟩
  f_bounds_of := ⟨He.glo_ok X G (c.fact 41 (f := .glo "bounds_of") rfl), let ⟨fd, F⟩ := c.def_ 41 (d := e_bounds_of) rfl; ⟨fd, He5.fun_of F⟩⟩
  f_verdict_of := ⟨He.glo_ok X G (c.fact 42 (f := .glo "verdict_of") rfl), let ⟨fd, F⟩ := c.def_ 42 (d := e_verdict_of) rfl; ⟨fd, He5.fun_of F⟩⟩
  f_even := ⟨He.glo_ok X G (c.fact 43 (f := .glo "even") rfl), let ⟨fd, F⟩ := c.def_ 43 (d := e_even) rfl; ⟨fd, He5.fun_of F⟩⟩
  f_borne := ⟨He.glo_ok X G (c.fact 44 (f := .glo "borne") rfl), let ⟨fd, F⟩ := c.def_ 44 (d := e_borne) rfl; ⟨fd, He5.fun_of F⟩⟩
  f__law_pot := ⟨He.glo_ok X G (c.fact 45 (f := .glo "_law_pot") rfl), let ⟨fd, F⟩ := c.def_ 45 (d := e__law_pot) rfl; ⟨fd, He5.fun_of F⟩⟩
  f__law_take := ⟨He.glo_ok X G (c.fact 46 (f := .glo "_law_take") rfl), let ⟨fd, F⟩ := c.def_ 46 (d := e__law_take) rfl; ⟨fd, He5.fun_of F⟩⟩
  f__law_of := ⟨He.glo_ok X G (c.fact 47 (f := .glo "_law_of") rfl), let ⟨fd, F⟩ := c.def_ 47 (d := e__law_of) rfl; ⟨fd, He5.fun_of F⟩⟩
  f__law_places := ⟨He.glo_ok X G (c.fact 48 (f := .glo "_law_places") rfl), let ⟨fd, F⟩ := c.def_ 48 (d := e__law_places) rfl; ⟨fd, He5.fun_of F⟩⟩
  f__law_strand := ⟨He.glo_ok X G (c.fact 49 (f := .glo "_law_strand") rfl), let ⟨fd, F⟩ := c.def_ 49 (d := e__law_strand) rfl; ⟨fd, He5.fun_of F⟩⟩
  f__law_thread := ⟨He.glo_ok X G (c.fact 50 (f := .glo "_law_thread") rfl), let ⟨fd, F⟩ := c.def_ 50 (d := e__law_thread) rfl; ⟨fd, He5.fun_of F⟩⟩
  f__law_by_yard := ⟨He.glo_ok X G (c.fact 51 (f := .glo "_law_by_yard") rfl), let ⟨fd, F⟩ := c.def_ 51 (d := e__law_by_yard) rfl; ⟨fd, He5.fun_of F⟩⟩
  f__law_right := ⟨He.glo_ok X G (c.fact 52 (f := .glo "_law_right") rfl), let ⟨fd, F⟩ := c.def_ 52 (d := e__law_right) rfl; ⟨fd, He5.fun_of F⟩⟩
  f__law_is_band_right := ⟨He.glo_ok X G (c.fact 53 (f := .glo "_law_is_band_right") rfl), let ⟨fd, F⟩ := c.def_ 53 (d := e__law_is_band_right) rfl; ⟨fd, He5.fun_of F⟩⟩
  f__law_are_cuts_right := ⟨He.glo_ok X G (c.fact 54 (f := .glo "_law_are_cuts_right") rfl), let ⟨fd, F⟩ := c.def_ 54 (d := e__law_are_cuts_right) rfl; ⟨fd, He5.fun_of F⟩⟩
  f__law_are_strands_right := ⟨He.glo_ok X G (c.fact 55 (f := .glo "_law_are_strands_right") rfl), let ⟨fd, F⟩ := c.def_ 55 (d := e__law_are_strands_right) rfl; ⟨fd, He5.fun_of F⟩⟩
  f__law_are_loose_right := ⟨He.glo_ok X G (c.fact 56 (f := .glo "_law_are_loose_right") rfl), let ⟨fd, F⟩ := c.def_ 56 (d := e__law_are_loose_right) rfl; ⟨fd, He5.fun_of F⟩⟩
  f_law := ⟨He.glo_ok X G (c.fact 57 (f := .glo "law") rfl), let ⟨fd, F⟩ := c.def_ 57 (d := e_law) rfl; ⟨fd, He5.fun_of F⟩⟩
  c_BLANK := He.str_ok X G (c.fact 58 (f := .str "BLANK" " ") rfl)
  c_MOST_BEGIN_sure := He.int_ok X G (c.fact 59 (f := .int "MOST_BEGIN_sure" 200) rfl)
  c_MOST_BEGIN_threads := He.int_ok X G (c.fact 60 (f := .int "MOST_BEGIN_threads" 200) rfl)
  c_MOST_BESIDE_sure := He.int_ok X G (c.fact 61 (f := .int "MOST_BESIDE_sure" 8) rfl)
  c_MOST_BESIDE_threads := He.int_ok X G (c.fact 62 (f := .int "MOST_BESIDE_threads" 8) rfl)
  c_MOST_ROWS := He.int_ok X G (c.fact 63 (f := .int "MOST_ROWS" 260) rfl)
  c_MOST_STRENGTH := He.int_ok X G (c.fact 64 (f := .int "MOST_STRENGTH" 100) rfl)
  c_MOST_SUM_strands := He.int_ok X G (c.fact 65 (f := .int "MOST_SUM_strands" 1000) rfl)
  c_MOST_SUM_sure := He.int_ok X G (c.fact 66 (f := .int "MOST_SUM_sure" 1000) rfl)
  c_MOST_TEXT := He.int_ok X G (c.fact 67 (f := .int "MOST_TEXT" 2000) rfl)
  c_MOST_YARDS := He.int_ok X G (c.fact 68 (f := .int "MOST_YARDS" 60) rfl)
  c_NEVER := He.str_ok X G (c.fact 69 (f := .str "NEVER" "never") rfl)
  c_OPEN := He.str_ok X G (c.fact 70 (f := .str "OPEN" "open") rfl)
  c_PAIR_strands := He.int_ok X G (c.fact 71 (f := .int "PAIR_strands" 2) rfl)
  c_PAIR_sure := He.int_ok X G (c.fact 72 (f := .int "PAIR_sure" 2) rfl)
  c_PAIR_threads := He.int_ok X G (c.fact 73 (f := .int "PAIR_threads" 2) rfl)
  c_SURE := He.str_ok X G (c.fact 74 (f := .str "SURE" "sure") rfl)
  n_abs := He.free_ok X G (c.fact 75 (f := .free "abs") rfl)
  n_all := He.free_ok X G (c.fact 76 (f := .free "all") rfl)
  n_any := He.free_ok X G (c.fact 77 (f := .free "any") rfl)
  n_bool := He.free_ok X G (c.fact 78 (f := .free "bool") rfl)
  n_dict := He.free_ok X G (c.fact 79 (f := .free "dict") rfl)
  n_enumerate := He.free_ok X G (c.fact 80 (f := .free "enumerate") rfl)
  n_int := He.free_ok X G (c.fact 81 (f := .free "int") rfl)
  n_isinstance := He.free_ok X G (c.fact 82 (f := .free "isinstance") rfl)
  n_len := He.free_ok X G (c.fact 83 (f := .free "len") rfl)
  n_list := He.free_ok X G (c.fact 84 (f := .free "list") rfl)
  n_max := He.free_ok X G (c.fact 85 (f := .free "max") rfl)
  n_min := He.free_ok X G (c.fact 86 (f := .free "min") rfl)
  n_range := He.free_ok X G (c.fact 87 (f := .free "range") rfl)
  n_sorted := He.free_ok X G (c.fact 88 (f := .free "sorted") rfl)
  n_str := He.free_ok X G (c.fact 89 (f := .free "str") rfl)
  n_sum := He.free_ok X G (c.fact 90 (f := .free "sum") rfl)
  n_tuple := He.free_ok X G (c.fact 91 (f := .free "tuple") rfl)
  n_zip := He.free_ok X G (c.fact 92 (f := .free "zip") rfl)
end K20
open PySem PySem.W PySem.Calls PyProof.Rows
theorem PySem.Challenge.cw_reeledeven_k20_threads_put_together_and_holds : PySem.Challenge.rw_reeledeven_k20_threads_put_together_and.Holds := by
  w_on; o_law
  refine HandSHeadRun.head_any (r := OpenLaw.row PySem.Challenge.rw_reeledeven_k20_threads_put_together_and) (q := K20.qv) (H := K20.hk) (ob := K20.ob) (M := 6000) (loose := K20.loose) (d := HandSHeadRun.topDef (OpenLaw.row PySem.Challenge.rw_reeledeven_k20_threads_put_together_and).prog 88) (kwd := []) K20.ob_eq
    (by kernel_rfl) (fun s => by kernel_rfl) K20.run (by kernel_rfl) (by kernel_rfl) (by kernel_rfl) (by rfl) (by first | assumption | decide +kernel) (by decide +kernel) ⟨rfl, rfl, rfl, rfl, rfl, by decide +kernel⟩ ?hw ?hc
  case hw => w_witness2
  case hc =>
    refine L2.walk_ofE (l := PySem.Challenge.rw_reeledeven_k20_threads_put_together_and) (n := 63) (k := 11) (x := "script") (CX := L2.CX0) rfl (by decide) (by kernel_rfl) ⟨rfl, by decide, by decide⟩ ?F (fun _ _ _ _ z => z)
    intro w mg fa h Y G hmg0
    obtain ⟨K, KX, c⟩ := Y
    have fx := K20.facts KX G c
    have hmg : mg ("law" : PySem.Str) = some (.ref fa) := by
      have e : (HandSHeadRun.topDef (OpenLaw.row PySem.Challenge.rw_reeledeven_k20_threads_put_together_and).prog 88).name = ("law" : PySem.Str) := by kernel_rfl
      rw [← e]
      exact hmg0
    obtain ⟨fd, F⟩ := c.def_ 57 (d := K20.e_law) rfl
    have e := hmg.symm.trans (He.glo_ok KX G (c.fact 57 (f := .glo "law") rfl))
    cases e
    have b := L2.FunD.bindsA (ps := ["script"]) F fun _ _ _ _ _ _ us hl => match us, hl with | [_], _ => rfl
    exact ⟨K, fd, DL.spScr K K20.m_law, KX, fun s v => b s [v] rfl, fun H a ns hl hO hS => ⟨a, [], ns, H, [], .bool true, rfl, DL.scr_of hO hS, Evl.Ex.refl H, .nil, K20.law_true ns hl, fun v H' F' st r => by cases r; rfl⟩, fun base _ _ => K20.w_law fx (He5.fun_of F)⟩
